import PyProof.Rows.All
import Wide.All
import OpenK.AllK
import Wide.FinOn
import PySem.Challenge.RW_standsfast_k61_whole_price_of_papers
import HandS.ForMost
import HandS.Wide
import HandS.TupMul
import HandS.IsInst
import HandS.Deep
import HandS.Flow
import HandS.CallSlots
import HandS.ExcOwn
import HandS.TupAny
import HandS.Strs
import HandS.Text
import HandS.Conv
import HandS.Iter
import HandS.Zip
import KE.GoesMore
import KE.GoesEnum
import HandS.Words
set_option Elab.async false
set_option linter.all false
/-! FD1: programs over deep data. What a combinator computes (no machine here). -/
namespace FD
noncomputable section
open PySem

abbrev D := PyData

/-- what a slot holds: data that never changes any more; a list of the frame's own; the law's deck; a deck just made -/
inductive SV where
  | fz (d : D)
  | ow (ds : List D)
  | deal
  | nd (row : D) (at_ : Int) (tot : D)

abbrev Sl := List (Option SV)
/-- the deck -/
structure G where
  row : D
  tot : D
  at_ : Int
structure Exn where
  cls : Str
inductive Out (α : Type) where
  | ok (a : α) (σ : Sl) (g : G)
  | exc (e : Exn) (σ : Sl) (g : G)
  | stuck
abbrev Ev (α : Type) := Sl → G → Out α
namespace Out
variable {α β : Type}
def bind (o : Out α) (k : α → Ev β) : Out β := match o with
  | .ok a σ g => k a σ g
  | .exc e σ g => .exc e σ g
  | .stuck => .stuck
@[simp] theorem bind_ok (a : α) (σ : Sl) (g : G) (k : α → Ev β) : (Out.ok a σ g).bind k = k a σ g := rfl
@[simp] theorem bind_exc (e : Exn) (σ : Sl) (g : G) (k : α → Ev β) : (Out.exc e σ g : Out α).bind k = .exc e σ g := rfl
@[simp] theorem bind_stuck (k : α → Ev β) : (Out.stuck : Out α).bind k = .stuck := rfl
end Out

def noX {α : Type} : Out α → Out α
  | .exc _ _ _ => .stuck
  | o => o
@[simp] theorem noX_ok {α : Type} (a : α) (σ : Sl) (g : G) : noX (Out.ok a σ g) = .ok a σ g := rfl
/-- what a call of a def ends in -/
inductive FOut where
  | ok (r : SV) (g : G)
  | exc (e : Exn) (g : G)
  | stuck
abbrev CT := Nat → List SV → G → FOut

def liftO {α : Type} (o : Option α) : Ev α := fun σ g => match o with
  | some a => .ok a σ g
  | none => .stuck
@[simp] theorem liftO_some {α : Type} (a : α) (σ : Sl) (g : G) : liftO (some a) σ g = .ok a σ g := rfl
@[simp] theorem liftO_none {α : Type} (σ : Sl) (g : G) : (liftO (none : Option α)) σ g = .stuck := rfl

/-! ### single operations -/
@[simp] def sInt (i : Int) : Option SV := some (.fz (.int i))
@[simp] def sBool (b : Bool) : Option SV := some (.fz (.bool b))

/-- a product of ints that the model lets pass -/
def MulOk (i j : Int) : Prop := i.natAbs.log2 + j.natAbs.log2 < 1000000
instance (i j : Int) : Decidable (MulOk i j) := by unfold MulOk; infer_instance
def DivOk (j : Int) : Prop := 0 < j ∧ j.natAbs.log2 < 9000
instance (j : Int) : Decidable (DivOk j) := by unfold DivOk; infer_instance
def PowOk (i j : Int) : Prop := 0 ≤ j ∧ j ≤ 1000000 ∧ i.natAbs < 2 ^ 64
noncomputable instance (i j : Int) : Decidable (PowOk i j) := Classical.propDecidable _

def pyAdd : D → D → Option SV
  | .int i, .int j => sInt (i + j)
  | .str x, .str y => if x.length + y.length ≤ 16777216 then some (.fz (.str (x ++ y))) else none
  | .tuple xs, .tuple ys => if xs.length + ys.length ≤ 16777216 then some (.fz (.tuple (xs ++ ys))) else none
  | .list xs, .list ys => if xs.length + ys.length ≤ 16777216 then some (.ow (xs ++ ys)) else none
  | _, _ => none
@[simp] def pySub : D → D → Option SV
  | .int i, .int j => sInt (i - j)
  | _, _ => none
/-- decided by no run: what the kernel never has to count -/
def Cl (p : Prop) : Prop := p
noncomputable instance (p : Prop) : Decidable (Cl p) := Classical.propDecidable _
def reps (xs : List D) (k : Nat) : List D := (List.replicate k xs).flatten
def pyMul : D → D → Option SV
  | .int i, .int j => if MulOk i j then sInt (i * j) else none
  | .tuple xs, .int k => if Cl (-(2 ^ 62) ≤ k ∧ k < 2 ^ 62 ∧ xs.length * k.toNat ≤ 16777216) then some (.fz (.tuple (reps xs k.toNat))) else none
  | .list xs, .int k => if Cl (-(2 ^ 62) ≤ k ∧ k < 2 ^ 62 ∧ xs.length * k.toNat ≤ 16777216) then some (.ow (reps xs k.toNat)) else none
  | _, _ => none
def pyFloorDiv : D → D → Option SV
  | .int i, .int j => if DivOk j then sInt (i / j) else none
  | _, _ => none
def pyMod : D → D → Option SV
  | .int i, .int j => if j = 0 then none else sInt (i.fmod j)
  | _, _ => none
def pyPow : D → D → Option SV
  | .int i, .int j => if PowOk i j then sInt (i ^ j.toNat) else none
  | _, _ => none
@[simp] def pyNeg : D → Option SV
  | .int i => sInt (-i)
  | _ => none
/-- the place of an index -/
def ixN (n : Nat) (i : Int) : Option Nat := if 0 ≤ i then (if i < n then some i.toNat else none) else if -(n : Int) ≤ i then some (i + n).toNat else none
def atI {α : Type} (xs : List α) (i : Int) : Option α := (ixN xs.length i).bind fun j => xs[j]?
def pyIx : D → D → Option SV
  | .list xs, .int i => (atI xs i).map .fz
  | .tuple xs, .int i => (atI xs i).map .fz
  | .str x, .int i => if x.length ≤ 16777216 then (atI x.cps.toList i).map fun c => .fz (.str ⟨#[c]⟩) else none
  | _, _ => none
/-- a slice's bound -/
def sIx (n d : Nat) : Option Int → Nat
  | none => d
  | some v => if v < 0 then (v + n).toNat else min v.toNat n
def cut {α : Type} (xs : List α) (lo hi : Option Int) : List α := (xs.drop (sIx xs.length 0 lo)).take (sIx xs.length xs.length hi - sIx xs.length 0 lo)
def pySlice : D → Option Int → Option Int → Option SV
  | .list xs, lo, hi => some (.ow (cut xs lo hi))
  | .tuple xs, lo, hi => some (.fz (.tuple (cut xs lo hi)))
  | .str x, lo, hi => if x.length ≤ 16777216 then some (.fz (.str ⟨(cut x.cps.toList lo hi).toArray⟩)) else none
  | _, _, _ => none
def pyLen : D → Option SV
  | .list xs => sInt xs.length
  | .tuple xs => sInt xs.length
  | .str x => if x.length ≤ 16777216 then sInt x.length else none
  | _ => none
def pyAbs : D → Option SV
  | .int i => sInt (if i < 0 then -i else i)
  | _ => none
def pyInt : D → Option SV
  | .int i => sInt i
  | .bool b => sInt (if b then 1 else 0)
  | _ => none
def pyStr : D → Option SV
  | .int i => if i.natAbs.log2 < 1920 then some (.fz (.str (toString i))) else none
  | _ => none
def intsOf : List D → Option (List Int)
  | [] => some []
  | .int i :: r => (intsOf r).map (i :: ·)
  | _ :: _ => none
def pySum : D → Option SV
  | .list xs => (intsOf xs).map fun ns => .fz (.int ns.sum)
  | _ => none
def pyTuple : D → Option SV
  | .list xs => some (.fz (.tuple xs))
  | .tuple xs => some (.fz (.tuple xs))
  | _ => none
def pyList : D → Option SV
  | .list xs => some (.ow xs)
  | .tuple xs => some (.ow xs)
  | _ => none
def pyMin2 : D → D → Option SV
  | .int i, .int j => sInt (if j < i then j else i)
  | _, _ => none
def pyMax2 : D → D → Option SV
  | .int i, .int j => sInt (if j > i then j else i)
  | _, _ => none
/-- two data that == compares without end of the room -/
def eqOk : D → D → Bool
  | .int _, .int _ => true
  | .str _, .str _ => true
  | .bool _, .bool _ => true
  | .none, .none => true
  | d, e => SeqAt.shaped d && SeqAt.shaped e
def pyEq (d e : D) : Option Bool := if eqOk d e then some (PyData.eqv d e) else none
def pyNe (d e : D) : Option Bool := if eqOk d e then some (!PyData.eqv d e) else none
def pyLt : D → D → Option Bool
  | .int i, .int j => some (decide (i < j))
  | _, _ => none
def pyLe : D → D → Option Bool
  | .int i, .int j => some (decide (i ≤ j))
  | _, _ => none
def pyGt : D → D → Option Bool
  | .int i, .int j => some (decide (j < i))
  | _, _ => none
def pyGe : D → D → Option Bool
  | .int i, .int j => some (decide (j ≤ i))
  | _, _ => none
def pyIs : D → D → Option Bool
  | .none, .none => some true
  | _, .none => some false
  | _, _ => none
def pyIsNot : D → D → Option Bool
  | .none, .none => some false
  | _, .none => some true
  | _, _ => none
def pyIn : D → D → Option Bool
  | d, .list ds => if SeqAt.shaped d && SeqAt.shaped (.list ds) then some (ds.any fun z => PyData.eqv z d) else none
  | d, .tuple ds => if SeqAt.shaped d && SeqAt.shaped (.tuple ds) then some (ds.any fun z => PyData.eqv z d) else none
  | .str i, .str j => some (!(Builtin.Str.occurrences j i 0 j.length 1).isEmpty)
  | _, _ => none
def pyNotIn (d e : D) : Option Bool := (pyIn d e).map (!·)
def pyTruth : D → Option Bool
  | .none => some false
  | .bool b => some b
  | .int i => some (i != 0)
  | .str y => if y.length ≤ 16777216 then some ((y.length : Int) != 0) else none
  | .list xs => some (!xs.isEmpty)
  | .tuple xs => some (!xs.isEmpty)
  | _ => none
/-- isinstance against a built-in class -/
inductive BT where
  | int | bool | str | list | tuple
  deriving DecidableEq
def BT.nm : BT → String
  | .int => "int"
  | .bool => "bool"
  | .str => "str"
  | .list => "list"
  | .tuple => "tuple"
def pyIsI : BT → D → Option Bool
  | _, .none => some false
  | t, .bool _ => some (match t with | .bool => true | .int => true | _ => false)
  | t, .int _ => some (match t with | .int => true | _ => false)
  | t, .str _ => some (match t with | .str => true | _ => false)
  | t, .list _ => some (match t with | .list => true | _ => false)
  | t, .tuple _ => some (match t with | .tuple => true | _ => false)
  | _, .dict _ => none
/-- xs.index(x): the first place of an equal one -/
def firstIx (d : D) : List D → Option Nat
  | [] => none
  | z :: r => if PyData.eqv z d then some 0 else (firstIx d r).map (· + 1)
def pyIndex : D → D → Option SV
  | .list ds, d => if SeqAt.shaped d && SeqAt.shaped (.list ds) then (firstIx d ds).map fun j => .fz (.int (j : Nat)) else none
  | _, _ => none
/-- .. of a constant tuple -/
def pyIndexK : D → D → Option SV
  | .tuple ds, d => if SeqAt.shaped d && SeqAt.shaped (.tuple ds) then (firstIx d ds).map fun j => .fz (.int (j : Nat)) else none
  | _, _ => none
/-- sorted of ints, below 64 -/
def insI (x : Int) : List Int → List Int
  | [] => [x]
  | y :: r => if x ≤ y then x :: y :: r else y :: insI x r
def sortI : List Int → List Int
  | [] => []
  | x :: r => insI x (sortI r)
def pySorted : D → Option SV
  | .list xs => (intsOf xs).bind fun ns => if ns.length < 64 then some (.ow ((sortI ns).map .int)) else none
  | .tuple xs => (intsOf xs).bind fun ns => if ns.length < 64 then some (.ow ((sortI ns).map .int)) else none
  | _ => none

/-! ### expressions -/
section
variable {α β : Type}
@[simp] def dOf : SV → Option D
  | .fz d => some d
  | .ow ds => some (.list ds)
  | _ => none
/-- as data that never changes any more -/
@[simp] def cD (f : Ev SV) : Ev D := fun σ g => (f σ g).bind fun v => liftO (dOf v)
/-- a name, looked at -/
@[simp] def cVP (i : Nat) : Ev D := fun σ g => match σ[i]? with
  | some (some (.fz d)) => .ok d σ g
  | some (some (.ow ds)) => .ok (.list ds) σ g
  | _ => .stuck
/-- a name, handed on: its list is the frame's own no more -/
@[simp] def cVE (i : Nat) : Ev SV := fun σ g => match σ[i]? with
  | some (some (.fz d)) => .ok (.fz d) σ g
  | some (some (.ow ds)) => .ok (.fz (.list ds)) (σ.set i (some (.fz (.list ds)))) g
  | some (some .deal) => .ok .deal σ g
  | _ => .stuck
/-- a name whose list leaves with the frame (return) -/
@[simp] def cVR (i : Nat) : Ev SV := fun σ g => match σ[i]? with
  | some (some (.fz d)) => .ok (.fz d) σ g
  | some (some (.ow ds)) => .ok (.ow ds) (σ.set i none) g
  | _ => .stuck
@[simp] def cK (d : D) : Ev SV := fun σ g => .ok (.fz d) σ g
@[simp] def cB (f : Ev Bool) : Ev SV := fun σ g => (f σ g).bind fun b σ g => .ok (.fz (.bool b)) σ g
@[simp] def c1 (op : D → Option SV) (f : Ev D) : Ev SV := fun σ g => (f σ g).bind fun a => liftO (op a)
@[simp] def c2 (op : D → D → Option SV) (f1 f2 : Ev D) : Ev SV := fun σ g => (f1 σ g).bind fun a σ g => (f2 σ g).bind fun b => liftO (op a b)
@[simp] def cCmp (op : D → D → Option Bool) (f1 f2 : Ev D) : Ev Bool := fun σ g => (f1 σ g).bind fun a σ g => (f2 σ g).bind fun b => liftO (op a b)
/-- a op b op' c -/
@[simp] def cChain (op op' : D → D → Option Bool) (f1 f2 f3 : Ev D) : Ev Bool := fun σ g => (f1 σ g).bind fun a σ g => (f2 σ g).bind fun b σ g => (liftO (op a b) σ g).bind fun p σ g =>
  if p = true then (f3 σ g).bind fun c => liftO (op' b c) else .ok false σ g
@[simp] def cAnd (f1 f2 : Ev Bool) : Ev Bool := fun σ g => (f1 σ g).bind fun p σ g => if p = true then f2 σ g else .ok false σ g
@[simp] def cOr (f1 f2 : Ev Bool) : Ev Bool := fun σ g => (f1 σ g).bind fun p σ g => if p = true then .ok true σ g else f2 σ g
@[simp] def cNot (f : Ev Bool) : Ev Bool := fun σ g => (f σ g).bind fun p σ g => .ok (!p) σ g
@[simp] def cTru (f : Ev D) : Ev Bool := fun σ g => (f σ g).bind fun a => liftO (pyTruth a)
@[simp] def cIte (t : Ev Bool) (f1 f2 : Ev α) : Ev α := fun σ g => (t σ g).bind fun p σ g => if p = true then f1 σ g else f2 σ g
@[simp] def cIsI (T : BT) (f : Ev D) : Ev Bool := fun σ g => (f σ g).bind fun a => liftO (pyIsI T a)
/-- an optional bound of a slice -/
@[simp] def cNoB : Ev (Option Int) := fun σ g => .ok none σ g
@[simp] def intOf : D → Option Int
  | .int i => some i
  | _ => none
@[simp] def cBd (f : Ev D) : Ev (Option Int) := fun σ g => (f σ g).bind fun a => liftO ((intOf a).map some)
@[simp] def cSlice (f : Ev D) (lo hi : Ev (Option Int)) : Ev SV := fun σ g => (f σ g).bind fun a σ g => (lo σ g).bind fun l σ g => (hi σ g).bind fun h => liftO (pySlice a l h)
/-- several, from the left -/
@[simp] def cNil : Ev (List D) := fun σ g => .ok [] σ g
@[simp] def cCons (f : Ev D) (r : Ev (List D)) : Ev (List D) := fun σ g => (f σ g).bind fun a σ g => (r σ g).bind fun as σ g => .ok (a :: as) σ g
@[simp] def cTup (r : Ev (List D)) : Ev SV := fun σ g => (r σ g).bind fun as => liftO (if as.length ≤ 16777216 then some (.fz (.tuple as)) else none)
@[simp] def cLst (r : Ev (List D)) : Ev SV := fun σ g => (r σ g).bind fun as => liftO (if as.length ≤ 16777216 then some (.ow as) else none)
/-- the deck: its row, its total, its place -/
@[simp] def cVIx (i : Nat) (f : Ev D) : Ev SV := fun σ g => match σ[i]? with
  | some (some .deal) => (f σ g).bind fun b σ g => match b with
    | .int 0 => .ok (.fz g.row) σ g
    | .int 2 => .ok (.fz g.tot) σ g
    | _ => .stuck
  | _ => c2 pyIx (cVP i) f σ g
@[simp] def cV10 (i : Nat) : Ev SV := fun σ g => match σ[i]? with
  | some (some .deal) => .ok (.fz (.int g.at_)) σ g
  | _ => c2 pyIx (cD (c2 pyIx (cVP i) (cD (cK (.int 1))))) (cD (cK (.int 0))) σ g
/-- arguments of a def -/
@[simp] def argOk : SV → Option SV
  | .fz d => some (.fz d)
  | .ow ds => some (.fz (.list ds))
  | .deal => some .deal
  | .nd _ _ _ => none
@[simp] def cANil : Ev (List SV) := fun σ g => .ok [] σ g
@[simp] def cACons (f : Ev SV) (r : Ev (List SV)) : Ev (List SV) := fun σ g => (f σ g).bind fun a σ g => (liftO (argOk a) σ g).bind fun a σ g => (r σ g).bind fun as σ g => .ok (a :: as) σ g
@[simp] def cCall (ct : CT) (k : Nat) (r : Ev (List SV)) : Ev SV := fun σ g => (r σ g).bind fun as σ g => match ct k as g with
  | .ok v g' => .ok v σ g'
  | .exc e g' => .exc e σ g'
  | .stuck => .stuck
/-! ### what is walked -/
@[simp] def seqOf : D → Option (List D)
  | .list xs => some xs
  | .tuple xs => some xs
  | .str x => if x.length ≤ 16777216 then some (x.cps.toList.map fun c => .str ⟨#[c]⟩) else none
  | _ => none
@[simp] def lseqOf : D → Option (List D)
  | .list xs => some xs
  | .tuple xs => some xs
  | _ => none
def rngD (lo hi : Int) : List D := (List.range (hi - lo).toNat).map fun i => .int (lo + (i : Nat))
def Rg (i : Int) : Prop := -(2 ^ 62) ≤ i ∧ i < 2 ^ 62
noncomputable instance (i : Int) : Decidable (Rg i) := Classical.propDecidable _
def rng1 : D → Option (List D)
  | .int n => if Rg n then some (rngD 0 n) else none
  | _ => none
def rng2 : D → D → Option (List D)
  | .int m, .int n => if Rg m ∧ Rg n then some (rngD m n) else none
  | _, _ => none
def enumD (n : Nat) : List D → List D
  | [] => []
  | x :: r => .tuple [.int (n : Nat), x] :: enumD (n + 1) r
def zipD : List D → List D → List D
  | x :: r, y :: s => .tuple [x, y] :: zipD r s
  | _, _ => []
@[simp] def iSeq (f : Ev D) : Ev (List D) := fun σ g => (f σ g).bind fun a => liftO (seqOf a)
@[simp] def iR1 (f : Ev D) : Ev (List D) := fun σ g => (f σ g).bind fun a => liftO (rng1 a)
@[simp] def iR2 (f1 f2 : Ev D) : Ev (List D) := fun σ g => (f1 σ g).bind fun a σ g => (f2 σ g).bind fun b => liftO (rng2 a b)
@[simp] def iEnum (f : Ev D) : Ev (List D) := fun σ g => (f σ g).bind fun a => liftO ((lseqOf a).map (enumD 0))
def zipK : D → D → Option (List D)
  | .list xs, .list ys => some (zipD xs ys)
  | .tuple xs, .tuple ys => some (zipD xs ys)
  | _, _ => none
@[simp] def iZip (f1 f2 : Ev D) : Ev (List D) := fun σ g => (f1 σ g).bind fun a σ g => (f2 σ g).bind fun b => liftO (zipK a b)

/-! ### targets -/
abbrev TgF := D → Ev Unit
@[simp] def gNm (i : Nat) : TgF := fun d σ g => .ok () (σ.set i (some (.fz d))) g
@[simp] def gTp (n : Nat) (ts : List D → Ev Unit) : TgF := fun d σ g => match d with
  | .tuple xs => if xs.length = n then ts xs σ g else .stuck
  | _ => .stuck
@[simp] def gN : List D → Ev Unit := fun xs σ g => match xs with
  | [] => .ok () σ g
  | _ => .stuck
@[simp] def gC (t : TgF) (r : List D → Ev Unit) : List D → Ev Unit := fun xs σ g => match xs with
  | [] => .stuck
  | x :: xs => (t x σ g).bind fun _ => r xs

/-! ### comprehensions -/
@[simp] def wipeS (σ : Sl) : List Nat → Sl
  | [] => σ
  | v :: vs => (wipeS σ vs).set v none
/-- no slot of vs holds a list of the frame's own, or the deck -/
@[simp] def idleS (σ : Sl) : List Nat → Bool
  | [] => true
  | v :: vs => (match σ[v]? with
    | some (some (.fz _)) => true
    | some none => true
    | _ => false) && idleS σ vs
/-- the outer slots again -/
@[simp] def backS (σ0 σ : Sl) : List Nat → Sl
  | [] => σ
  | v :: vs => match σ0[v]? with
    | some o => (backS σ0 σ vs).set v o
    | none => backS σ0 σ vs
def compL (tg : TgF) (t : Ev Bool) (f : Ev D) (vs : List Nat) : List D → List D → Ev (List D)
  | [], acc, σ, g => .ok acc σ g
  | x :: xs, acc, σ, g => (tg x σ g).bind fun _ σ1 g1 => (t σ1 g1).bind fun b σ2 g2 =>
      if b = true then (f σ2 g2).bind fun y σ3 g3 => if acc.length < 16777216 then compL tg t f vs xs (acc ++ [y]) (wipeS σ3 vs) g3 else .stuck
      else compL tg t f vs xs acc (wipeS σ2 vs) g2
@[simp] def cYes : Ev Bool := fun σ g => .ok true σ g
def cLc (it : Ev (List D)) (vs : List Nat) (tg : TgF) (t : Ev Bool) (f : Ev D) : Ev SV := fun σ g => (it σ g).bind fun xs σ1 g1 =>
  if idleS σ1 vs = true then noX ((compL tg t f vs xs [] (wipeS σ1 vs) g1).bind fun ys σ2 g2 => .ok (.ow ys) (backS σ1 σ2 vs) g2) else .stuck

/-! ### statements -/
inductive Fl where
  | nx | bk | ct | rt (r : SV)
@[simp] def sPass : Ev Fl := fun σ g => .ok .nx σ g
@[simp] def sBrk : Ev Fl := fun σ g => .ok .bk σ g
@[simp] def sCnt : Ev Fl := fun σ g => .ok .ct σ g
@[simp] def sSeq (s t : Ev Fl) : Ev Fl := fun σ g => (s σ g).bind fun f σ g => match f with
  | .nx => t σ g
  | f => .ok f σ g
@[simp] def sRet (f : Ev SV) : Ev Fl := fun σ g => (f σ g).bind fun v σ g => match v with
  | .deal => .stuck
  | v => .ok (.rt v) σ g
@[simp] def sRetN : Ev Fl := fun σ g => .ok (.rt (.fz .none)) σ g
/-- return [row, [at], total] -/
@[simp] def sRetDeal (f1 f2 f3 : Ev D) : Ev Fl := fun σ g => (f1 σ g).bind fun r σ g => (f2 σ g).bind fun a σ g => match a with
  | .int i => (noX (f3 σ g)).bind fun t σ g => .ok (.rt (.nd r i t)) σ g
  | _ => .stuck
def svSet : SV → Option SV
  | .fz d => some (.fz d)
  | .ow ds => some (.ow ds)
  | _ => none
/-- x = e -/
@[simp] def sAsg (i : Nat) (f : Ev SV) : Ev Fl := fun σ g => (f σ g).bind fun v σ g => match v with
  | .fz d => .ok .nx (σ.set i (some (.fz d))) g
  | .ow ds => .ok .nx (σ.set i (some (.ow ds))) g
  | _ => .stuck
/-- no slot holds the deck -/
@[simp] def noDeal : Sl → Bool
  | [] => true
  | some .deal :: _ => false
  | _ :: r => noDeal r
/-- x = e or, in the law itself, deal = _law_deal(script) -/
@[simp] def sAsgN (i : Nat) (f : Ev SV) : Ev Fl := fun σ g => (f σ g).bind fun v σ g => match v with
  | .fz d => .ok .nx (σ.set i (some (.fz d))) g
  | .ow ds => .ok .nx (σ.set i (some (.ow ds))) g
  | .nd r a t => if noDeal σ = true then .ok .nx (σ.set i (some .deal)) ⟨r, t, a⟩ else .stuck
  | .deal => .stuck
/-- (a, b) = e -/
@[simp] def sUnp (tg : TgF) (f : Ev D) : Ev Fl := fun σ g => (f σ g).bind fun d σ g => (tg d σ g).bind fun _ σ g => .ok .nx σ g
/-- a, b = x, y -/
@[simp] def sPar (i j : Nat) (f1 f2 : Ev D) : Ev Fl := fun σ g => (f1 σ g).bind fun a σ g => (f2 σ g).bind fun b σ g => .ok .nx ((σ.set i (some (.fz a))).set j (some (.fz b))) g
/-- x op= e -/
@[simp] def sAug (op : D → D → Option SV) (i : Nat) (f : Ev D) : Ev Fl := fun σ g => match σ[i]? with
  | some (some (.fz d)) => (f σ g).bind fun b σ g => match op d b with
    | some (.fz r) => .ok .nx (σ.set i (some (.fz r))) g
    | _ => .stuck
  | _ => .stuck
def setAt (xs : List D) (i : Int) (d : D) : Option (List D) := (ixN xs.length i).map fun j => xs.set j d
@[simp] def isOw : Option (Option SV) → Bool
  | some (some (.ow _)) => true
  | _ => false
/-- x[k] = e, x a list of the frame's own -/
@[simp] def sSetIx (i : Nat) (fk fe : Ev D) : Ev Fl := fun σ g => (fe σ g).bind fun d σ g => if isOw σ[i]? = true then (fk σ g).bind fun k σ g => match σ[i]?, k with
  | some (some (.ow ds)), .int k => match setAt ds k d with
    | some es => .ok .nx (σ.set i (some (.ow es))) g
    | none => .stuck
  | _, _ => .stuck
  else .stuck
/-- deal[1][0] = e -/
@[simp] def sSetDeal (i : Nat) (fe : Ev D) : Ev Fl := fun σ g => (fe σ g).bind fun d σ g => match σ[i]?, d with
  | some (some .deal), .int k => .ok .nx σ { g with at_ := k }
  | _, _ => .stuck
/-- x.append(e) -/
@[simp] def sApp (i : Nat) (fe : Ev D) : Ev Fl := fun σ g => if isOw σ[i]? = true then (fe σ g).bind fun d σ g => match σ[i]? with
  | some (some (.ow ds)) => if ds.length < 16777216 then .ok .nx (σ.set i (some (.ow (ds ++ [d])))) g else .stuck
  | _ => .stuck
  else .stuck
def sIf (t : Ev Bool) (s1 s2 : Ev Fl) : Ev Fl := cIte t s1 s2
/-- names that a turn has stored first are forgotten -/
@[simp] def mask : Sl → Sl → Sl
  | none :: r0, _ :: r => none :: mask r0 r
  | some _ :: r0, o :: r => o :: mask r0 r
  | _, r => r
def forL (tg : TgF) (b : Ev Fl) : List D → Ev Fl
  | [], σ, g => .ok .nx σ g
  | x :: xs, σ, g => (tg x σ g).bind fun _ σ1 g1 => (b σ1 g1).bind fun f σ2 g2 => match f with
    | .nx => forL tg b xs (mask σ σ2) g2
    | .ct => forL tg b xs (mask σ σ2) g2
    | .bk => .ok .nx (mask σ σ2) g2
    | .rt r => .ok (.rt r) σ2 g2
@[simp] def sFor (it : Ev (List D)) (tg : TgF) (b : Ev Fl) : Ev Fl := fun σ g => (it σ g).bind fun xs σ g => forL tg b xs σ g
def whileL (t : Ev Bool) (b : Ev Fl) : Nat → Ev Fl
  | 0, _, _ => .stuck
  | n + 1, σ, g => (t σ g).bind fun p σ1 g1 => if p = true then (b σ1 g1).bind fun f σ2 g2 => match f with
      | .nx => whileL t b n (mask σ σ2) g2
      | .ct => whileL t b n (mask σ σ2) g2
      | .bk => .ok .nx (mask σ σ2) g2
      | .rt r => .ok (.rt r) σ2 g2
    else .ok .nx σ1 g1
/-- a def's body from its arguments -/
@[simp] def startS (n : Nat) (as : List SV) : Sl := as.map some ++ List.replicate (n - as.length) none
def runF (n : Nat) (b : Ev Fl) (as : List SV) (g : G) : FOut := match b (startS n as) g with
  | .ok (.rt .deal) _ _ => .stuck
  | .ok (.rt r) _ g' => .ok r g'
  | .ok .nx _ g' => .ok (.fz .none) g'
  | .ok _ _ _ => .stuck
  | .exc e _ g' => .exc e g'
  | .stuck => .stuck
/-- a def: how many arguments, how many slots, its body by the calls -/
structure Fn where
  ar : Nat
  n : Nat
  body : CT → Nat → Ev Fl
/-- calls to a depth; w: how many turns a while has at most -/
def callN (w : Nat) (T : List Fn) : Nat → CT
  | 0 => fun _ _ _ => .stuck
  | k + 1 => fun i as g => match T[i]? with
    | some f => if as.length = f.ar then runF f.n (f.body (callN w T k) w) as g else .stuck
    | none => .stuck
end
end
end FD
set_option maxRecDepth 100000
set_option autoImplicit false
set_option maxHeartbeats 2000000
/-! FD2: how deep data lies in the layer's heap; what a step keeps. -/
namespace FD
noncomputable section
open PySem
open L2 (Hp HO V upd upd_same upd_ne ne_of_none Rd SqL SqT Vals RelV VK TE TT TA TS TG TGs St XK Cx PE PT PW PA PS PSs PG PGs PI)

mutual
inductive Dq (K : PySem.W.Frag) (H : Hp) : V → D → Prop
  | non : Dq K H .non .none
  | bl (b : Bool) : Dq K H (.bl b) (.bool b)
  | int (i : Int) : Dq K H (.int i) (.int i)
  | str (x : Str) : Dq K H (.str x) (.str x)
  | lst {a : Addr} {xs : List V} {ds : List D} : Rd H a (.lst xs) → DqAll K H xs ds → Dq K H (.ref a) (.list ds)
  | tup {a : Addr} {xs : List V} {ds : List D} : SqT K H a xs → DqAll K H xs ds → Dq K H (.ref a) (.tuple ds)
inductive DqAll (K : PySem.W.Frag) (H : Hp) : List V → List D → Prop
  | nil : DqAll K H [] []
  | cons {v : V} {vs : List V} {d : D} {ds : List D} : Dq K H v d → DqAll K H vs ds → DqAll K H (v :: vs) (d :: ds)
end

/-- what stood stands -/
def Sub (H H' : Hp) : Prop := ∀ a o, H a = some o → H' a = some o
theorem Sub.refl (H : Hp) : Sub H H := fun _ _ h => h
theorem Sub.trans {H H1 H2 : Hp} (a : Sub H H1) (b : Sub H1 H2) : Sub H H2 := fun x o h => b x o (a x o h)
theorem Sub.new {H : Hp} {p : Addr} {o : HO} (h : H p = none) : Sub H (upd H p o) := fun a u e => by
  rw [upd_ne (ne_of_none e h)]
  exact e
theorem Sub.upd2 {F H : Hp} {p : Addr} {o : HO} (h : Sub F H) (hn : F p = none) : Sub F (upd H p o) := fun a u e => by
  rw [upd_ne (ne_of_none e hn)]
  exact h a u e
theorem Sub.both {F H : Hp} {p : Addr} {o : HO} (h : Sub F H) : Sub (upd F p o) (upd H p o) := fun a u e => by
  by_cases q : a = p
  · subst q
    rw [upd_same] at e ⊢
    exact e
  · rw [upd_ne q] at e ⊢
    exact h a u e
theorem Sub.to {F H : Hp} {p : Addr} {o : HO} (h : Sub F H) (e : H p = some o) : Sub (upd F p o) H := fun a u q => by
  by_cases z : a = p
  · subst z
    rw [upd_same] at q
    cases q
    exact e
  · rw [upd_ne z] at q
    exact h a u q
theorem Sub.free {H H' : Hp} (e : Sub H H') {l : Addr} (h : H' l = Option.none) : H l = Option.none := by
  cases q : H l with
  | none => rfl
  | some o =>
    rw [e l o q] at h
    cases h
theorem Sub.rd {H H' : Hp} (e : Sub H H') {a : Addr} {u : HO} (h : Rd H a u) : Rd H' a u := by
  rcases h with h | ⟨o, h⟩
  · exact .inl (e _ _ h)
  · exact .inr ⟨o, e _ _ h⟩
theorem Sub.sqt {K : PySem.W.Frag} {H H' : Hp} (e : Sub H H') {a : Addr} {xs : List V} (h : SqT K H a xs) : SqT K H' a xs := by
  rcases h with h | h
  · exact .inl (e.rd h)
  · exact .inr h
mutual
theorem Dq.up {K : PySem.W.Frag} {H H' : Hp} (e : Sub H H') : ∀ {v : V} (d : D), Dq K H v d → Dq K H' v d
  | _, _, .non => .non
  | _, _, .bl b => .bl b
  | _, _, .int i => .int i
  | _, _, .str x => .str x
  | _, .list ds, .lst h a => .lst (e.rd h) (DqAll.up e ds a)
  | _, .tuple ds, .tup h a => .tup (e.sqt h) (DqAll.up e ds a)
theorem DqAll.up {K : PySem.W.Frag} {H H' : Hp} (e : Sub H H') : ∀ {vs : List V} (ds : List D), DqAll K H vs ds → DqAll K H' vs ds
  | _, [], .nil => .nil
  | _, d :: ds, .cons a b => .cons (Dq.up e d a) (DqAll.up e ds b)
end
mutual
theorem Dq.dp {K : PySem.W.Frag} {H : Hp} : ∀ {v : V} (d : D), Dq K H v d → L2.Dp K H v d
  | _, _, .non => .non
  | _, _, .bl b => .bl b
  | _, _, .int i => .int i
  | _, _, .str x => .str x
  | _, .list ds, .lst h a => .lst (.inl h) (DqAll.dp ds a)
  | _, .tuple ds, .tup h a => .tup h (DqAll.dp ds a)
theorem DqAll.dp {K : PySem.W.Frag} {H : Hp} : ∀ {vs : List V} (ds : List D), DqAll K H vs ds → L2.DpAll K H vs ds
  | _, [], .nil => .nil
  | _, d :: ds, .cons a b => .cons (Dq.dp d a) (DqAll.dp ds b)
end
section
variable {K : PySem.W.Frag} {H : Hp}
theorem DqAll.len : ∀ {vs : List V} {ds : List D}, DqAll K H vs ds → vs.length = ds.length
  | _, _, .nil => rfl
  | _, _, .cons _ b => by rw [List.length_cons, List.length_cons, DqAll.len b]
theorem DqAll.get : ∀ {vs : List V} {ds : List D} {i : Nat} {d : D}, DqAll K H vs ds → ds[i]? = some d → ∃ v, vs[i]? = some v ∧ Dq K H v d
  | _, _, _, _, .nil, e => by simp at e
  | _, _, 0, _, .cons a _, e => by
    simp only [List.getElem?_cons_zero, Option.some.injEq] at e
    subst e
    exact ⟨_, rfl, a⟩
  | _, _, i + 1, d, .cons _ b, e => by
    obtain ⟨v, h1, h2⟩ := DqAll.get (i := i) (d := d) b (by simpa using e)
    exact ⟨v, by simpa using h1, h2⟩
theorem DqAll.getV : ∀ {vs : List V} {ds : List D} {i : Nat} {v : V}, DqAll K H vs ds → vs[i]? = some v → ∃ d, ds[i]? = some d ∧ Dq K H v d
  | _, _, _, _, .nil, e => by simp at e
  | _, _, 0, _, .cons a _, e => by
    simp only [List.getElem?_cons_zero, Option.some.injEq] at e
    subst e
    exact ⟨_, rfl, a⟩
  | _, _, i + 1, d, .cons _ b, e => by
    obtain ⟨v, h1, h2⟩ := DqAll.getV (i := i) (v := d) b (by simpa using e)
    exact ⟨v, by simpa using h1, h2⟩
theorem DqAll.app : ∀ {vs ws : List V} {ds es : List D}, DqAll K H vs ds → DqAll K H ws es → DqAll K H (vs ++ ws) (ds ++ es)
  | _, _, _, _, .nil, h => h
  | _, _, _, _, .cons a b, h => .cons a (DqAll.app b h)
theorem DqAll.one {v : V} {d : D} (h : Dq K H v d) : DqAll K H [v] [d] := .cons h .nil
theorem DqAll.take : ∀ {vs : List V} {ds : List D} (n : Nat), DqAll K H vs ds → DqAll K H (vs.take n) (ds.take n)
  | _, _, 0, _ => .nil
  | _, _, _ + 1, .nil => .nil
  | _, _, n + 1, .cons a b => .cons a (DqAll.take n b)
theorem DqAll.drop : ∀ {vs : List V} {ds : List D} (n : Nat), DqAll K H vs ds → DqAll K H (vs.drop n) (ds.drop n)
  | _, _, 0, h => h
  | _, _, _ + 1, .nil => .nil
  | _, _, n + 1, .cons _ b => DqAll.drop n b
theorem DqAll.set {v : V} {d : D} (h : Dq K H v d) : ∀ {vs : List V} {ds : List D} (n : Nat), DqAll K H vs ds → DqAll K H (vs.set n v) (ds.set n d)
  | _, _, _, .nil => .nil
  | _, _, 0, .cons _ b => .cons h b
  | _, _, n + 1, .cons a b => .cons a (DqAll.set h n b)
theorem DqAll.rep {vs : List V} {ds : List D} (h : DqAll K H vs ds) : ∀ k : Nat, DqAll K H (List.replicate k vs).flatten (List.replicate k ds).flatten
  | 0 => .nil
  | k + 1 => by
    rw [List.replicate_succ, List.replicate_succ, List.flatten_cons, List.flatten_cons]
    exact h.app (DqAll.rep h k)
theorem DqAll.nil_iff {vs : List V} {ds : List D} (h : DqAll K H vs ds) : vs = [] ↔ ds = [] := by
  cases h with
  | nil => simp
  | cons _ _ => simp
theorem DqAll.ints : ∀ {vs : List V} {ds : List D} {ns : List Int}, DqAll K H vs ds → intsOf ds = some ns → vs = ns.map V.int
  | _, _, ns, .nil, e => by
    simp only [intsOf, Option.some.injEq] at e
    subst e
    rfl
  | _, .int i :: ds, ns, .cons a b, e => by
    cases a
    simp only [intsOf, Option.map_eq_some_iff] at e
    obtain ⟨ms, e1, e2⟩ := e
    subst e2
    rw [List.map_cons, ← DqAll.ints b e1]
  | _, .none :: ds, ns, .cons a b, e => by simp [intsOf] at e
  | _, .bool _ :: ds, ns, .cons a b, e => by simp [intsOf] at e
  | _, .str _ :: ds, ns, .cons a b, e => by simp [intsOf] at e
  | _, .list _ :: ds, ns, .cons a b, e => by simp [intsOf] at e
  | _, .tuple _ :: ds, ns, .cons a b, e => by simp [intsOf] at e
  | _, .dict _ :: ds, ns, .cons a b, e => by simp [intsOf] at e
theorem DqAll.ofInts : ∀ ns : List Int, DqAll K H (ns.map V.int) (ns.map PyData.int)
  | [] => .nil
  | n :: r => .cons (.int n) (DqAll.ofInts r)
end

abbrev Rho := Option (Addr × Addr)
/-- the deck as it lies -/
def DeckOk (K : PySem.W.Frag) (FH H : Hp) (dl c : Addr) (g : G) : Prop :=
  ∃ vr vt, FH dl = some (.lst [vr, .ref c, vt]) ∧ Dq K FH vr g.row ∧ Dq K FH vt g.tot ∧ FH c = none ∧ H c = some (.lst [.int g.at_])
/-- behind a call (or a body up to now): FH what never changes -/
structure Ext (ρ : Rho) (FH H FH' H' : Hp) : Prop where
  fsub : Sub FH FH'
  hsub : ∀ a o, H a = some o → (∀ dl c, ρ = some (dl, c) → a ≠ c) → H' a = some o
  new : ∀ a o, FH' a = some o → FH a = some o ∨ H a = none
  there : ∀ a o, H a = some o → ∃ o', H' a = some o'
theorem Ext.refl {ρ : Rho} {FH H : Hp} : Ext ρ FH H FH H := ⟨Sub.refl _, fun _ _ h _ => h, fun _ _ h => .inl h, fun _ o h => ⟨o, h⟩⟩
theorem Ext.trans {ρ : Rho} {F0 H0 F1 H1 F2 H2 : Hp} (a : Ext ρ F0 H0 F1 H1) (b : Ext ρ F1 H1 F2 H2) : Ext ρ F0 H0 F2 H2 where
  fsub := a.fsub.trans b.fsub
  hsub := fun x o h hc => b.hsub x o (a.hsub x o h hc) hc
  new := fun x o h => by
    rcases b.new x o h with q | q
    · exact a.new x o q
    · right
      cases e : H0 x with
      | none => rfl
      | some u =>
        obtain ⟨o', z⟩ := a.there x u e
        rw [q] at z
        cases z
  there := fun x o h => by
    obtain ⟨o', q⟩ := a.there x o h
    exact b.there x o' q

/-- what is fixed through a body: the written part, the state at the entry, what is wanted of an exception -/
structure Yx where
  K : PySem.W.Frag
  ρ0 : Rho
  FH0 : Hp
  H0 : Hp
  Ex : Exn → Sl → G → Prop
  /-- lists under way (a comprehension's) -/
  pd : Addr → Option (List V)

structure Rep (Y : Yx) (ρ : Rho) (FH H : Hp) (σ' : St) (σ : Sl) (g : G) : Prop where
  sub : Sub FH H
  len : σ'.length = σ.length
  fz : ∀ (i : Nat) (d : D), σ[i]? = some (some (.fz d)) → ∃ v, σ'[i]? = some (some v) ∧ Dq Y.K FH v d
  ow : ∀ (i : Nat) (ds : List D), σ[i]? = some (some (.ow ds)) → ∃ p vs, σ'[i]? = some (some (.ref p)) ∧ FH p = none ∧ H p = some (.lst vs) ∧ DqAll Y.K FH vs ds ∧ Y.H0 p = none ∧ ∀ dl c, ρ = some (dl, c) → p ≠ c
  dis : ∀ (i j : Nat) (ds es : List D) (p : Addr), σ[i]? = some (some (.ow ds)) → σ[j]? = some (some (.ow es)) → σ'[i]? = some (some (.ref p)) → σ'[j]? = some (some (.ref p)) → i = j
  nond : ∀ (i : Nat) (r : D) (a : Int) (t : D), σ[i]? ≠ some (some (.nd r a t))
  dl : ∀ i : Nat, σ[i]? = some (some .deal) → ∃ dl c, ρ = some (dl, c) ∧ σ'[i]? = some (some (.ref dl))
  deck : ∀ dl c, ρ = some (dl, c) → DeckOk Y.K FH H dl c g
  ext : Ext Y.ρ0 Y.FH0 Y.H0 FH H
  rho : ∀ x, Y.ρ0 = some x → ρ = some x
  cf : ∀ dl c, ρ = some (dl, c) → Y.ρ0 = some (dl, c) ∨ Y.H0 c = none
  pend : ∀ (p : Addr) (vs : List V), Y.pd p = some vs → H p = some (.lst vs) ∧ FH p = none ∧ (∀ (i : Nat) (es : List D), σ[i]? = some (some (.ow es)) → σ'[i]? ≠ some (some (.ref p))) ∧ (∀ dl c, ρ = some (dl, c) → p ≠ c) ∧ Y.H0 p = none

/-- an expression may only take a slot's list out of the frame's own -/
def Evo (σ σ2 : Sl) : Prop := σ2.length = σ.length ∧ ∀ i : Nat, σ2[i]? = σ[i]? ∨ ∃ ds, σ[i]? = some (some (.ow ds)) ∧ σ2[i]? = some (some (.fz (.list ds)))
theorem Evo.refl (σ : Sl) : Evo σ σ := ⟨rfl, fun _ => .inl rfl⟩
theorem Evo.trans {σ σ1 σ2 : Sl} (a : Evo σ σ1) (b : Evo σ1 σ2) : Evo σ σ2 := ⟨b.1.trans a.1, fun i => by
  rcases b.2 i with h | ⟨ds, h1, h2⟩
  · rcases a.2 i with q | ⟨es, q1, q2⟩
    · exact .inl (h.trans q)
    · exact .inr ⟨es, q1, h.trans q2⟩
  · rcases a.2 i with q | ⟨es, q1, q2⟩
    · exact .inr ⟨ds, q.symm.trans h1, h2⟩
    · rw [q2] at h1
      cases h1⟩

/-- what an operation leaves: nothing new, or one new object -/
def NewRes (K : PySem.W.Frag) (FH H FH2 H2 : Hp) (v : V) : SV → Prop
  | .fz d => Dq K FH2 v d ∧ ((FH2 = FH ∧ H2 = H) ∨ ∃ p o, H p = none ∧ FH2 = upd FH p o ∧ H2 = upd H p o)
  | .ow ds => FH2 = FH ∧ ∃ p vs, H p = none ∧ v = .ref p ∧ H2 = upd H p (.lst vs) ∧ DqAll K FH vs ds
  | _ => False

section
variable {Y : Yx} {ρ : Rho} {FH H FH2 H2 : Hp} {σ' : St} {σ σ2 : Sl} {g : G}
/-- a new object that never changes -/
theorem Rep.newF (R : Rep Y ρ FH H σ' σ g) {p : Addr} {o : HO} (hn : H p = none) : Rep Y ρ (upd FH p o) (upd H p o) σ' σ g := by
  have hf : FH p = none := R.sub.free hn
  have up : Sub FH (upd FH p o) := Sub.new hf
  have hne : ∀ q u, H q = some u → q ≠ p := fun q u e => ne_of_none e hn
  refine ⟨R.sub.both, R.len, fun i d h => ?_, fun i ds h => ?_, R.dis, R.nond, R.dl, fun dl c h => ?_, ?_, R.rho, R.cf, fun q vs h => ?_⟩
  · obtain ⟨v, h1, h2⟩ := R.fz i d h
    exact ⟨v, h1, Dq.up up d h2⟩
  · obtain ⟨q, vs, h1, h2, h3, h4, h5, h6⟩ := R.ow i ds h
    have z := hne q _ h3
    exact ⟨q, vs, h1, by rw [upd_ne z]; exact h2, by rw [upd_ne z]; exact h3, DqAll.up up ds h4, h5, h6⟩
  · obtain ⟨vr, vt, h1, h2, h3, h4, h5⟩ := R.deck dl c h
    have z := hne c _ h5
    exact ⟨vr, vt, up _ _ h1, Dq.up up _ h2, Dq.up up _ h3, by rw [upd_ne z]; exact h4, by rw [upd_ne z]; exact h5⟩
  · refine ⟨R.ext.fsub.trans up, fun a u h hc => ?_, fun a u h => ?_, fun a u h => ?_⟩
    · have q := R.ext.hsub a u h hc
      rw [upd_ne (hne a _ q)]
      exact q
    · by_cases z : a = p
      · subst z
        right
        cases e : Y.H0 a with
        | none => rfl
        | some w =>
          obtain ⟨o', e'⟩ := R.ext.there a w e
          rw [hn] at e'
          cases e'
      · rw [upd_ne z] at h
        exact R.ext.new a u h
    · obtain ⟨o', q⟩ := R.ext.there a u h
      exact ⟨o', by rw [upd_ne (hne a _ q)]; exact q⟩
  · obtain ⟨h1, h2, h3, h4⟩ := R.pend q vs h
    have z := hne q _ h1
    exact ⟨by rw [upd_ne z]; exact h1, by rw [upd_ne z]; exact h2, h3, h4⟩
/-- a new list that may change -/
theorem Rep.newL (R : Rep Y ρ FH H σ' σ g) {p : Addr} {o : HO} (hn : H p = none) : Rep Y ρ FH (upd H p o) σ' σ g := by
  have hf : FH p = none := R.sub.free hn
  have hne : ∀ q u, H q = some u → q ≠ p := fun q u e => ne_of_none e hn
  refine ⟨R.sub.upd2 hf, R.len, R.fz, fun i ds h => ?_, R.dis, R.nond, R.dl, fun dl c h => ?_, ?_, R.rho, R.cf, fun q vs h => ?_⟩
  · obtain ⟨q, vs, h1, h2, h3, h4, h5, h6⟩ := R.ow i ds h
    exact ⟨q, vs, h1, h2, by rw [upd_ne (hne q _ h3)]; exact h3, h4, h5, h6⟩
  · obtain ⟨vr, vt, h1, h2, h3, h4, h5⟩ := R.deck dl c h
    exact ⟨vr, vt, h1, h2, h3, h4, by rw [upd_ne (hne c _ h5)]; exact h5⟩
  · refine ⟨R.ext.fsub, fun a u h hc => ?_, R.ext.new, fun a u h => ?_⟩
    · have q := R.ext.hsub a u h hc
      rw [upd_ne (hne a _ q)]
      exact q
    · obtain ⟨o', q⟩ := R.ext.there a u h
      exact ⟨o', by rw [upd_ne (hne a _ q)]; exact q⟩
  · obtain ⟨h1, h2, h3, h4⟩ := R.pend q vs h
    exact ⟨by rw [upd_ne (hne q _ h1)]; exact h1, h2, h3, h4⟩
theorem Rep.old (R : Rep Y ρ FH H σ' σ g) {p : Addr} (hn : H p = none) : Y.H0 p = none := by
  cases e : Y.H0 p with
  | none => rfl
  | some w =>
    obtain ⟨o', e'⟩ := R.ext.there p w e
    rw [hn] at e'
    cases e'
/-- a fresh list of the frame's own, in no slot -/
structure Fresh (Y : Yx) (ρ : Rho) (FH H : Hp) (σ' : St) (σ : Sl) (p : Addr) (vs : List V) (ds : List D) : Prop where
  f : FH p = none
  h : H p = some (.lst vs)
  a : DqAll Y.K FH vs ds
  o : Y.H0 p = none
  c : ∀ dl c, ρ = some (dl, c) → p ≠ c
  s : ∀ (i : Nat) (es : List D), σ[i]? = some (some (.ow es)) → σ'[i]? ≠ some (some (.ref p))
  d : Y.pd p = none
/-- it is frozen -/
theorem Rep.freeze (R : Rep Y ρ FH H σ' σ g) {p : Addr} {vs : List V} {ds : List D} (F : Fresh Y ρ FH H σ' σ p vs ds) : Rep Y ρ (upd FH p (.lst vs)) H σ' σ g := by
  have up : Sub FH (upd FH p (.lst vs)) := Sub.new F.f
  refine ⟨R.sub.to F.h, R.len, fun i d h => ?_, fun i es h => ?_, R.dis, R.nond, R.dl, fun dl c h => ?_, ?_, R.rho, R.cf, fun q ws h => ?_⟩
  · obtain ⟨v, h1, h2⟩ := R.fz i d h
    exact ⟨v, h1, Dq.up up d h2⟩
  · obtain ⟨q, ws, h1, h2, h3, h4, h5, h6⟩ := R.ow i es h
    have z : q ≠ p := fun e => F.s i es h (by rw [h1, e])
    exact ⟨q, ws, h1, by rw [upd_ne z]; exact h2, h3, DqAll.up up es h4, h5, h6⟩
  · obtain ⟨vr, vt, h1, h2, h3, h4, h5⟩ := R.deck dl c h
    exact ⟨vr, vt, up _ _ h1, Dq.up up _ h2, Dq.up up _ h3, by rw [upd_ne (F.c dl c h).symm]; exact h4, h5⟩
  · refine ⟨R.ext.fsub.trans up, R.ext.hsub, fun a u h => ?_, R.ext.there⟩
    by_cases z : a = p
    · subst z
      exact .inr F.o
    · rw [upd_ne z] at h
      exact R.ext.new a u h
  · obtain ⟨h1, h2, h3, h4⟩ := R.pend q ws h
    have z : q ≠ p := fun e => by
      rw [e, F.d] at h
      cases h
    exact ⟨h1, by rw [upd_ne z]; exact h2, h3, h4⟩
theorem dq_frozen {K : PySem.W.Frag} {p : Addr} {vs : List V} {ds : List D} (hf : FH p = none) (a : DqAll K FH vs ds) : Dq K (upd FH p (.lst vs)) (.ref p) (.list ds) :=
  .lst (.inl upd_same) (DqAll.up (Sub.new hf) ds a)
/-- a slot's own list is frozen, the slot told so -/
theorem Rep.freezeSlot (R : Rep Y ρ FH H σ' σ g) {i : Nat} {ds : List D} (hi : σ[i]? = some (some (.ow ds))) :
    ∃ p vs, σ'[i]? = some (some (.ref p)) ∧ FH p = none ∧ Rep Y ρ (upd FH p (.lst vs)) H σ' (σ.set i (some (.fz (.list ds)))) g ∧ Dq Y.K (upd FH p (.lst vs)) (.ref p) (.list ds) := by
  obtain ⟨p, vs, h1, h2, h3, h4, h5, h6⟩ := R.ow i ds hi
  have up : Sub FH (upd FH p (.lst vs)) := Sub.new h2
  have hlt : i < σ.length := (List.getElem?_eq_some_iff.mp hi).1
  have hd : Dq Y.K (upd FH p (.lst vs)) (.ref p) (.list ds) := dq_frozen h2 h4
  refine ⟨p, vs, h1, h2, ⟨R.sub.to h3, by rw [List.length_set]; exact R.len, fun j d h => ?_, fun j es h => ?_, fun j k es fs q a1 a2 a3 a4 => ?_, fun j r a t h => ?_, fun j h => ?_, fun dl c h => ?_, ?_, R.rho, R.cf, fun q ws h => ?_⟩, hd⟩
  · by_cases z : i = j
    · subst z
      rw [List.getElem?_set_self hlt] at h
      cases h
      exact ⟨_, h1, hd⟩
    · rw [List.getElem?_set_ne z] at h
      obtain ⟨v, q1, q2⟩ := R.fz j d h
      exact ⟨v, q1, Dq.up up d q2⟩
  · by_cases z : i = j
    · subst z
      rw [List.getElem?_set_self hlt] at h
      cases h
    · rw [List.getElem?_set_ne z] at h
      obtain ⟨q, ws, b1, b2, b3, b4, b5, b6⟩ := R.ow j es h
      have w : q ≠ p := fun e => z (R.dis i j ds es p hi h h1 (by rw [b1, e]))
      exact ⟨q, ws, b1, by rw [upd_ne w]; exact b2, b3, DqAll.up up es b4, b5, b6⟩
  · have e1 : i ≠ j := fun z => by
      subst z
      rw [List.getElem?_set_self hlt] at a1
      cases a1
    have e2 : i ≠ k := fun z => by
      subst z
      rw [List.getElem?_set_self hlt] at a2
      cases a2
    rw [List.getElem?_set_ne e1] at a1
    rw [List.getElem?_set_ne e2] at a2
    exact R.dis j k es fs q a1 a2 a3 a4
  · by_cases z : i = j
    · subst z
      rw [List.getElem?_set_self hlt] at h
      cases h
    · rw [List.getElem?_set_ne z] at h
      exact R.nond j r a t h
  · by_cases z : i = j
    · subst z
      rw [List.getElem?_set_self hlt] at h
      cases h
    · rw [List.getElem?_set_ne z] at h
      exact R.dl j h
  · obtain ⟨vr, vt, b1, b2, b3, b4, b5⟩ := R.deck dl c h
    exact ⟨vr, vt, up _ _ b1, Dq.up up _ b2, Dq.up up _ b3, by rw [upd_ne (h6 dl c h).symm]; exact b4, b5⟩
  · refine ⟨R.ext.fsub.trans up, R.ext.hsub, fun a u h => ?_, R.ext.there⟩
    by_cases z : a = p
    · subst z
      exact .inr h5
    · rw [upd_ne z] at h
      exact R.ext.new a u h
  · obtain ⟨b1, b2, b3, b4⟩ := R.pend q ws h
    have z : q ≠ p := fun e => b3 i ds hi (by rw [h1, e])
    refine ⟨b1, by rw [upd_ne z]; exact b2, fun j es hj => ?_, b4⟩
    by_cases w : i = j
    · subst w
      rw [List.getElem?_set_self hlt] at hj
      cases hj
    · rw [List.getElem?_set_ne w] at hj
      exact b3 j es hj
theorem evo_set {i : Nat} {ds : List D} (hi : σ[i]? = some (some (.ow ds))) : Evo σ (σ.set i (some (.fz (.list ds)))) := by
  have hlt : i < σ.length := (List.getElem?_eq_some_iff.mp hi).1
  refine ⟨List.length_set, fun j => ?_⟩
  by_cases z : i = j
  · subst z
    exact .inr ⟨ds, hi, List.getElem?_set_self hlt⟩
  · exact .inl (List.getElem?_set_ne z)
/-- an operation's end -/
theorem Rep.res (R : Rep Y ρ FH H σ' σ g) {v : V} {sv : SV} (n : NewRes Y.K FH H FH2 H2 v sv) : Rep Y ρ FH2 H2 σ' σ g ∧ Sub FH FH2 := by
  cases sv with
  | fz d =>
    obtain ⟨_, ⟨rfl, rfl⟩ | ⟨p, o, hn, rfl, rfl⟩⟩ := n
    · exact ⟨R, Sub.refl _⟩
    · exact ⟨R.newF hn, Sub.new (R.sub.free hn)⟩
  | ow ds =>
    obtain ⟨rfl, p, vs, hn, rfl, rfl, a⟩ := n
    exact ⟨R.newL hn, Sub.refl _⟩
  | deal => exact n.elim
  | nd _ _ _ => exact n.elim
theorem Rep.slotNe (R : Rep Y ρ FH H σ' σ g) {p : Addr} (hn : H p = none) : ∀ (i : Nat) (es : List D), σ[i]? = some (some (.ow es)) → σ'[i]? ≠ some (some (.ref p)) := fun i es h e => by
  obtain ⟨q, vs, h1, _, h3, _⟩ := R.ow i es h
  rw [h1] at e
  cases e
  rw [hn] at h3
  cases h3
theorem Rep.pdNe (R : Rep Y ρ FH H σ' σ g) {p : Addr} (hn : H p = none) : Y.pd p = none := by
  cases e : Y.pd p with
  | none => rfl
  | some vs =>
    have h := (R.pend p vs e).1
    rw [hn] at h
    cases h
theorem Rep.cellNe (R : Rep Y ρ FH H σ' σ g) {p : Addr} (hn : H p = none) : ∀ dl c, ρ = some (dl, c) → p ≠ c := fun dl c h e => by
  obtain ⟨_, _, _, _, _, _, h5⟩ := R.deck dl c h
  rw [← e, hn] at h5
  cases h5
end
end
end FD
/-! FD3: operators of the layer, as wide as the data wants them. -/
namespace FD
noncomputable section
open PySem PySem.W PySem.Spec PyProof.Rows
open L2 (Hp HO V upd upd_same upd_ne ne_of_none Rd SqL SqT Vals RelV VK TE TT TA TS TG TGs XK Cx PE PT PW PA PS PSs PG PGs PI Inv OpR UnR CallR R2 EP rI0 rI ObjOk)
section
variable {X : Cx}
/-! ### list + list, list * int -/
def rCatL : R2 := fun x y H Q => ∃ l b xs zs, x = .ref l ∧ y = .ref b ∧ Rd H l (.lst xs) ∧ Rd H b (.lst zs) ∧ xs.length + zs.length ≤ sizeLine ∧ ∀ p, H p = none → Q (.ref p) (upd H p (.lst (xs ++ zs)))
theorem op_catL : OpR X (binaryOp .Add) rCatL := by
  intro pins s σ H x y v u Q I rx ry h
  obtain ⟨l, b, xs, zs, rfl, rfl, hH, hB, hz, q⟩ := h
  cases rx
  cases ry
  obtain ⟨z, its, n, r, e⟩ := hH.ok I.hok
  obtain ⟨z2, its2, n2, r2, e2⟩ := hB.ok I.hok
  have hl := r.length
  have hl2 := r2.length
  refine PySem.P.add_list e e2 ?_ (by rw [List.size_toArray, List.size_toArray]; omega)
  have ea : its.toArray ++ its2.toArray = (its ++ its2).toArray := by simp
  rw [ea]
  exact ⟨.ref _, _, I.lnew (t' := s.toks) (r.append r2) (by rw [List.length_append]; omega), rfl, q _ I.fresh⟩
def rRepL : R2 := fun x y H Q => ∃ l k xs, x = .ref l ∧ y = .int k ∧ Rd H l (.lst xs) ∧ -(2 ^ 63) ≤ k ∧ k < 2 ^ 63 ∧ xs.length * k.toNat ≤ sizeLine ∧
  ∀ p, H p = none → Q (.ref p) (upd H p (.lst (List.replicate k.toNat xs).flatten))
theorem op_repL : OpR X (binaryOp .Mult) rRepL := by
  intro pins s σ H x y v u Q I rx ry h
  obtain ⟨l, k, xs, rfl, rfl, hH, h1, h2, hz, q⟩ := h
  cases rx
  obtain ⟨t, rfl⟩ := ry
  obtain ⟨z, its, n, r, e⟩ := hH.ok I.hok
  have hl := r.length
  have hlen : its.toArray.size * k.toNat ≤ sizeLine := by rw [List.size_toArray, ← hl]; exact hz
  have hcap : ¬ its.toArray.size * k.toNat > (2 ^ 63 - 1) / 8 := by
    have : (sizeLine : Nat) ≤ (2 ^ 63 - 1) / 8 := by decide
    omega
  have hfit : ¬ (!Builtin.List.listFitsIndex k) = true := by
    rw [fitsIndex_both h1 h2]
    exact Bool.false_ne_true
  have hlong : ¬ Builtin.List.listTooLong (its.toArray.size * k.toNat) = true := by
    rw [L2.notLongL hlen]
    exact Bool.false_ne_true
  have hnew : List.foldl (fun x1 x2 => x1 ++ x2) #[] (List.replicate (if its.toArray.isEmpty = true then 0 else k.toNat) its.toArray) = (List.replicate k.toNat its).flatten.toArray := by
    have f0 : ∀ m : Nat, List.foldl (fun x1 x2 => x1 ++ x2) #[] (List.replicate m its.toArray) = (List.replicate m its).flatten.toArray := fun m => by
      have := L2.foldl_rep its m []
      rw [List.nil_append] at this
      exact this
    rw [f0]
    cases its with
    | nil => simp
    | cons a r' => rw [if_neg (by simp)]
  refine wpAny_binaryOp_repeat_ref (T := "list") (U := "int") (by decide) ⟨_, e, rfl⟩ (fun s' => typeIs_int s' k t) noFill_list_mul F.fills_int_mul F.slot_int_rmul repeat_list F.slot_int_index.lookup
    (call_meets F.slot_int_rmul (typeIs_int s k t) F.entry_int_rmul (F.args_int_rmul_2 _ _) (int___rmul___int_list k t l its.toArray n)
      ⟨e, rfl, ⟨_, e, rfl⟩, call_meets F.slot_list_mul ⟨_, e, rfl⟩ F.entry_list_mul (F.args_list_mul_2 _ _) (AutoListH.list___mul___list_int_3 l its.toArray n k t hfit hcap hlong) ⟨e, ?_⟩⟩)
  rw [hnew]
  exact ⟨.ref _, _, I.lnew (t' := s.toks) (r.rep k.toNat) (by rw [PyProof.Rows.lm_len_rep_flat, Nat.mul_comm]; exact hz), rfl, q _ I.fresh⟩
/-! ### tuple + tuple, tuple * int -/
def rCatU (K : PySem.W.Frag) : R2 := fun x y H Q => ∃ a b xs ys, x = .ref a ∧ y = .ref b ∧ SqT K H a xs ∧ SqT K H b ys ∧ xs.length + ys.length ≤ sizeLine ∧
  (xs = [] → Q (.ref b) H) ∧ (xs ≠ [] → ys = [] → Q (.ref a) H) ∧ (xs ≠ [] → ys ≠ [] → ∀ p, H p = none → Q (.ref p) (upd H p (.tup (xs ++ ys))))
theorem op_catU : OpR X (binaryOp .Add) (rCatU X.K) := by
  intro pins s σ H x y v u Q I rx ry h
  obtain ⟨a, b, xs, ys, rfl, rfl, ha, hb, hz, q0, q1, q2⟩ := h
  cases rx
  cases ry
  obtain ⟨its, r1, p1, _⟩ := I.tuple ha
  obtain ⟨its2, r2, p2, _⟩ := I.tuple hb
  by_cases hx : its = []
  · obtain ⟨⟨cls, dd, data, sl⟩, ho, hc, n, hd⟩ := id p1
    obtain ⟨⟨cls2, dd2, data2, sl2⟩, ho2, hc2, n2, hd2⟩ := id p2
    simp only at hc hd hc2 hd2
    subst hc hd hc2 hd2
    exact concat_meets ⟨_, ho, rfl⟩ ⟨_, ho2, rfl⟩ noFill_tuple_add seq_tuple_add PySem.F.slot_tuple_add PySem.F.entry_tuple_add (PySem.F.args_tuple_add_2 _ _)
      (tuple_addW0 a b its.toArray its2.toArray n n2 dd dd2 sl sl2 (by simp [hx])) ⟨ho, ho2, ⟨.ref b, H, I, rfl, q0 (r1.nil_iff.mp hx)⟩⟩
  · have hx' : xs ≠ [] := fun z => hx (r1.nil_iff.mpr z)
    refine HT.cat_tup p1 p2 hx (fun z => ⟨.ref a, H, I, rfl, q1 hx' (r2.nil_iff.mp z)⟩) (fun z => ?_) (by rw [← r1.length, ← r2.length]; exact hz)
    refine ⟨.ref s.heap.objs.size, _, I.laid (t' := s.toks) (o := .tup (xs ++ ys)) (fun b ob q => Heap.get?_push_of_some _ q) (Nat.le_refl _) ?_, rfl, q2 hx' (fun w => z (r2.nil_iff.mpr w)) _ (I.hok.fresh (Nat.le_refl _))⟩
    exact ⟨by rw [List.length_append]; exact hz, _, r1.append r2, IsTup.new _ _⟩
def rRepU (K : PySem.W.Frag) : R2 := fun x y H Q => ∃ l k xs, x = .ref l ∧ y = .int k ∧ SqT K H l xs ∧ xs ≠ [] ∧ 2 ≤ k ∧ k ≤ 16777216 ∧ xs.length * k.toNat ≤ sizeLine ∧ ∀ p, H p = none → Q (.ref p) (upd H p (.tup (List.replicate k.toNat xs).flatten))
theorem op_repU : OpR X (binaryOp .Mult) (rRepU X.K) := by
  intro pins s σ H x y v u Q I rx ry h
  obtain ⟨l, k, xs, rfl, rfl, hT, hne, h1, h2, hz, q⟩ := h
  cases rx
  obtain ⟨t, rfl⟩ := ry
  obtain ⟨its, r, ⟨⟨cls, dd, data, sl⟩, ho, hc, n, hd⟩, hs⟩ := I.tuple hT
  simp only at hc hd
  subst hc hd
  have hle : its.length = xs.length := r.length.symm
  have hn : its ≠ [] := fun e => hne (by
    rw [e] at hle
    exact List.eq_nil_of_length_eq_zero hle.symm)
  have hi : its.toArray.isEmpty = false := by
    cases its with
    | nil => exact absurd rfl hn
    | cons a b => rfl
  have hsz0 : its.toArray.size = xs.length := by rw [List.size_toArray, hle]
  have hk : ((k.toNat : Nat) : Int) = k := by omega
  have hm : ((its.toArray.size : Nat) : Int) * k ≤ (sizeLine : Nat) := by
    rw [hsz0, ← hk]
    exact_mod_cast hz
  have flen : (List.replicate k.toNat its).flatten.length ≤ sizeLine := by
    rw [PyProof.Rows.lm_len_rep_flat, hle, Nat.mul_comm]
    exact hz
  have c0 : (decide (k < -(2 ^ 63)) || decide (k ≥ 2 ^ 63)) = false := by
    rw [decide_eq_false (by omega), decide_eq_false (by omega)] <;> rfl
  have c1 : (its.toArray.isEmpty || k == 1) = false := by
    rw [hi, Bool.false_or]
    exact beq_eq_false_iff_ne.mpr (by omega)
  have c2 : (decide (k ≤ 0) || its.toArray.isEmpty) = false := by
    rw [hi, Bool.or_false]
    exact decide_eq_false (by omega)
  have c4 : Builtin.Tuple.tupleTooMany (((its.toArray.size : Nat) : Int) * k) = false := by
    unfold Builtin.Tuple.tupleTooMany
    exact decide_eq_false (by omega)
  have c3 : ¬ ((its.toArray.size : Nat) : Int) * k > (2 ^ 63 - 1) / 8 := by
    have : (sizeLine : Int) ≤ (2 ^ 63 - 1) / 8 := by decide
    omega
  refine wpAny_binaryOp_repeat_ref (T := "tuple") (U := "int") (by decide) ⟨_, ho, rfl⟩ (fun s' => typeIs_int s' k t) L2.noFill_tuple_mul F.fills_int_mul F.slot_int_rmul L2.repeat_tuple F.slot_int_index.lookup
    (call_meets F.slot_int_rmul (typeIs_int s k t) F.entry_int_rmul (F.args_int_rmul_2 _ _) (L2.int_rmul_tuple k t l its.toArray n dd sl)
      ⟨ho, rfl, ⟨_, ho, rfl⟩, call_meets F.slot_tuple_mul ⟨_, ho, rfl⟩ F.entry_tuple_mul (F.args_tuple_mul_2 _ _) (L2.tuple_mulW l its.toArray n dd sl k t c0 c1 c2 c3 c4 (by rw [L2.size_rep, List.size_toArray]; exact flen)) ⟨ho, ?_⟩⟩)
  rw [L2.size_rep]
  have flen2 : (List.replicate k.toNat xs).flatten.length ≤ sizeLine := by
    rw [PyProof.Rows.lm_len_rep_flat, Nat.mul_comm]
    exact hz
  refine ⟨.ref s.heap.objs.size, _, I.laid (t' := s.toks) (o := .tup (List.replicate k.toNat xs).flatten) (fun b ob q => Heap.get?_push_of_some _ q) (Nat.le_refl _) ?_, rfl, q _ (I.hok.fresh (Nat.le_refl _))⟩
  exact ⟨flen2, _, r.rep k.toNat, IsTup.new _ _⟩
end
end
end FD
set_option maxHeartbeats 4000000
/-! FD3b: tuple * int, for every count. -/
namespace FD
noncomputable section
open PySem PySem.W PySem.Spec PyProof.Rows
open L2 (Hp HO V upd upd_same upd_ne ne_of_none Rd SqL SqT Vals RelV VK TE TT TA TS TG TGs XK Cx PE PT PW PA PS PSs PG PGs PI Inv OpR UnR CallR R2 EP rI0 rI ObjOk)
theorem tuple_mul_same (l : Addr) (items : Array Value) (n : Nat) (dd : Option Addr) (sl : Array (Option Value)) (x : Int) (u : Tok) (c0 : (decide (x < -(2 ^ 63)) || decide (x ≥ 2 ^ 63)) = false) (c1 : (items.isEmpty || x == 1) = true) :
    Meets (Builtin.«tuple.__mul__» ⟨[.ref l, .int x u], []⟩) (fun _ R s => s.heap.get? l = some { cls := .type "tuple", dict := dd, data := .seq items n, slots := sl } ∧ R (.ok (.ret (Value.ref l))) s) :=
  .of_wp fun prog w A R s h => by
    obtain ⟨hp, g, d, tk, os⟩ := s
    obtain ⟨hl, h⟩ := h
    have f1 := AutoSeq1.idx_int
    wp_walk using wpAny_loadPart' hl
    repeat (first
      | (refine wpAny_ite_false (decide_eq_false (by rw [c0]; exact Bool.false_ne_true)) ?_; wp_walk using wpAny_loadPart' hl)
      | (refine wpAny_ite_true (decide_eq_true c1) ?_; wp_walk using wpAny_loadPart' hl))
    exact ⟨_, rfl, h⟩
theorem tuple_mul_nil (l : Addr) (items : Array Value) (n : Nat) (dd : Option Addr) (sl : Array (Option Value)) (x : Int) (u : Tok) (c0 : (decide (x < -(2 ^ 63)) || decide (x ≥ 2 ^ 63)) = false) (c1 : (items.isEmpty || x == 1) = false) (c2 : (decide (x ≤ 0) || items.isEmpty) = true) :
    Meets (Builtin.«tuple.__mul__» ⟨[.ref l, .int x u], []⟩) (fun _ R s => s.heap.get? l = some { cls := .type "tuple", dict := dd, data := .seq items n, slots := sl } ∧
      R (.ok (.ret (Value.ref s.heap.objs.size))) { s with heap := s.heap.push { cls := Value.type "tuple", data := Data.seq #[] }, toks := s.toks }) :=
  .of_wp fun prog w A R s h => by
    obtain ⟨hp, g, d, tk, os⟩ := s
    obtain ⟨hl, h⟩ := h
    have f1 := AutoSeq1.idx_int
    wp_walk using wpAny_loadPart' hl
    repeat (first
      | (refine wpAny_ite_false (decide_eq_false (by rw [c0]; exact Bool.false_ne_true)) ?_; wp_walk using wpAny_loadPart' hl)
      | (refine wpAny_ite_false (decide_eq_false (by rw [c1]; exact Bool.false_ne_true)) ?_; wp_walk using wpAny_loadPart' hl)
      | (refine wpAny_ite_true (decide_eq_true c2) ?_; wp_walk using wpAny_loadPart' hl))
    exact ⟨_, rfl, h⟩
section
variable {X : Cx}
def rRepV (K : PySem.W.Frag) : R2 := fun x y H Q => ∃ l k xs, x = .ref l ∧ y = .int k ∧ SqT K H l xs ∧ -(2 ^ 63) ≤ k ∧ k < 2 ^ 63 ∧ xs.length * k.toNat ≤ sizeLine ∧ (xs = [] ∨ k = 1 → Q (.ref l) H) ∧ (xs ≠ [] → k ≤ 0 → ∀ p, H p = none → Q (.ref p) (upd H p (.tup []))) ∧
  (xs ≠ [] → 2 ≤ k → ∀ p, H p = none → Q (.ref p) (upd H p (.tup (List.replicate k.toNat xs).flatten)))
theorem op_repV : OpR X (binaryOp .Mult) (rRepV X.K) := by
  intro pins s σ H x y v u Q I rx ry h
  obtain ⟨l, k, xs, rfl, rfl, hT, h1, h2, hz, q1, q2, q3⟩ := h
  by_cases hk : xs ≠ [] ∧ 2 ≤ k
  · refine op_repU pins s σ H _ _ v u Q I rx ry ⟨l, k, xs, rfl, rfl, hT, hk.1, hk.2, ?_, hz, q3 hk.1 hk.2⟩
    have lp : 1 ≤ xs.length := by
      cases xs with
      | nil => exact absurd rfl hk.1
      | cons a b => rw [List.length_cons]; omega
    have : k.toNat ≤ xs.length * k.toNat := Nat.le_mul_of_pos_left _ lp
    have sl : (sizeLine : Nat) = 16777216 := rfl
    omega
  cases rx
  obtain ⟨t, rfl⟩ := ry
  obtain ⟨its, r, ⟨⟨cls, dd, data, sl⟩, ho, hc, n, hd⟩, hs⟩ := I.tuple hT
  simp only at hc hd
  subst hc hd
  have hle : its.length = xs.length := r.length.symm
  have c0 : (decide (k < -(2 ^ 63)) || decide (k ≥ 2 ^ 63)) = false := by
    rw [decide_eq_false (by omega), decide_eq_false (by omega)] <;> rfl
  have em : its.toArray.isEmpty = decide (xs = []) := by
    cases its with
    | nil =>
      cases xs with
      | nil => rfl
      | cons a b => simp at hle
    | cons a b =>
      cases xs with
      | nil => simp at hle
      | cons a b => rfl
  refine wpAny_binaryOp_repeat_ref (T := "tuple") (U := "int") (by decide) ⟨_, ho, rfl⟩ (fun s' => typeIs_int s' k t) L2.noFill_tuple_mul F.fills_int_mul F.slot_int_rmul L2.repeat_tuple F.slot_int_index.lookup
    (call_meets F.slot_int_rmul (typeIs_int s k t) F.entry_int_rmul (F.args_int_rmul_2 _ _) (L2.int_rmul_tuple k t l its.toArray n dd sl)
      ⟨ho, rfl, ⟨_, ho, rfl⟩, ?_⟩)
  by_cases hs : xs = [] ∨ k = 1
  · have c1 : (its.toArray.isEmpty || k == 1) = true := by
      rw [em]
      rcases hs with z | z
      · rw [decide_eq_true z]; rfl
      · subst z; simp
    refine call_meets F.slot_tuple_mul ⟨_, ho, rfl⟩ F.entry_tuple_mul (F.args_tuple_mul_2 _ _) (tuple_mul_same l its.toArray n dd sl k t c0 c1) ⟨ho, ?_⟩
    exact ⟨.ref l, H, I, rfl, q1 hs⟩
  · have h3 : xs ≠ [] := fun z => hs (.inl z)
    have h4 : k ≠ 1 := fun z => hs (.inr z)
    have h5 : k ≤ 0 := by
      have : ¬ 2 ≤ k := fun z => hk ⟨h3, z⟩
      omega
    have c1 : (its.toArray.isEmpty || k == 1) = false := by
      rw [em, decide_eq_false h3, Bool.false_or]
      exact beq_eq_false_iff_ne.mpr h4
    have c2 : (decide (k ≤ 0) || its.toArray.isEmpty) = true := by rw [decide_eq_true h5]; rfl
    refine call_meets F.slot_tuple_mul ⟨_, ho, rfl⟩ F.entry_tuple_mul (F.args_tuple_mul_2 _ _) (tuple_mul_nil l its.toArray n dd sl k t c0 c1 c2) ⟨ho, ?_⟩
    refine ⟨.ref s.heap.objs.size, _, I.laid (t' := s.toks) (o := .tup []) (fun b ob q => Heap.get?_push_of_some _ q) (Nat.le_refl _) ?_, rfl, q2 h3 h5 _ (I.hok.fresh (Nat.le_refl _))⟩
    exact ⟨Nat.zero_le _, _, .nil, IsTup.new _ _⟩
end
end
end FD
set_option maxHeartbeats 2000000
/-! FD4: what a combinator says of a reading: expressions. -/
namespace FD
noncomputable section
open PySem
open L2 (Hp HO V upd upd_same upd_ne ne_of_none Rd SqL SqT Vals RelV VK TE TT TA TS TG TGs St XK Cx PE PT PW PA PS PSs PG PGs PI Inv OpR UnR CallR R2 rI0 rI tOp tUn tVar tC tCB tCons tNil)

def Good (Y : Yx) {α : Type} (o : Out α) (P : α → Sl → G → Prop) : Prop := match o with
  | .ok a σ g => P a σ g
  | .exc e σ g => Y.Ex e σ g
  | .stuck => False
section
variable {Y : Yx} {α β : Type}
theorem Good.mono {o : Out α} {P P' : α → Sl → G → Prop} (h : Good Y o P) (k : ∀ a σ g, P a σ g → P' a σ g) : Good Y o P' := by
  cases o with
  | ok a σ g => exact k a σ g h
  | exc e σ g => exact h
  | stuck => exact h
theorem Good.monoE {o : Out α} {P P' : α → Sl → G → Prop} (h : Good Y o P) (k : ∀ a σ g, o = .ok a σ g → P a σ g → P' a σ g) : Good Y o P' := by
  cases o with
  | ok a σ g => exact k a σ g rfl h
  | exc e σ g => exact h
  | stuck => exact h
theorem Good.bind {o : Out α} {k : α → Ev β} {P : β → Sl → G → Prop} (h : Good Y (o.bind k) P) : Good Y o (fun a σ g => Good Y (k a σ g) P) := by
  cases o with
  | ok a σ g => exact h
  | exc e σ g => exact h
  | stuck => exact h
theorem Good.lift {o : Option α} {σ : Sl} {g : G} {P : α → Sl → G → Prop} (h : Good Y (liftO o σ g) P) : ∃ a, o = some a ∧ P a σ g := by
  cases o with
  | none => exact h.elim
  | some a => exact ⟨a, rfl, h⟩
end

abbrev RelT (α : Type) := Rho → Hp → Hp → St → Sl → V → α → Prop
/-- looked at -/
def RelP (Y : Yx) : RelT D := fun _ FH _ σ' σ v d => Dq Y.K FH v d ∨ ∃ (i : Nat) (ds : List D), d = .list ds ∧ σ[i]? = some (some (.ow ds)) ∧ σ'[i]? = some (some v)
/-- never changes any more -/
def RelD (Y : Yx) : RelT D := fun _ FH _ _ _ v d => Dq Y.K FH v d
/-- a deck just made -/
def NdOk (Y : Yx) (ρ : Rho) (FH H : Hp) (σ' : St) (σ : Sl) (v : V) (r : D) (i : Int) (t : D) : Prop :=
  ∃ p c vr vt, v = .ref p ∧ FH p = none ∧ FH c = none ∧ H p = some (.lst [vr, .ref c, vt]) ∧ H c = some (.lst [.int i]) ∧ Dq Y.K FH vr r ∧ Dq Y.K FH vt t ∧ Y.H0 p = none ∧ Y.H0 c = none ∧ p ≠ c ∧
    (∀ (j : Nat) (es : List D), σ[j]? = some (some (.ow es)) → σ'[j]? ≠ some (some (.ref p)) ∧ σ'[j]? ≠ some (some (.ref c))) ∧ (∀ dl c', ρ = some (dl, c') → p ≠ c' ∧ c ≠ c') ∧ Y.pd p = none ∧ Y.pd c = none
/-- own -/
def RelO (Y : Yx) : RelT SV := fun ρ FH H σ' σ v sv => match sv with
  | .fz d => Dq Y.K FH v d
  | .ow ds => ∃ p vs, v = .ref p ∧ Fresh Y ρ FH H σ' σ p vs ds
  | .deal => ∃ dl c, ρ = some (dl, c) ∧ v = .ref dl
  | .nd r i t => NdOk Y ρ FH H σ' σ v r i t
def SndE (Y : Yx) {α : Type} (R : RelT α) (te : TE) (f : Ev α) : Prop :=
  ∀ (ρ : Rho) (FH H : Hp) (σ' : St) (σ : Sl) (g : G) (Q : VK), Rep Y ρ FH H σ' σ g → Good Y (f σ g) (fun a σ2 g2 => ∀ v FH2 H2, Rep Y ρ FH2 H2 σ' σ2 g2 → Sub FH FH2 → Evo σ σ2 → R ρ FH2 H2 σ' σ2 v a → Q v H2) → te σ' H Q
def SndT (Y : Yx) (tt : TT) (f : Ev Bool) : Prop :=
  ∀ (ρ : Rho) (FH H : Hp) (σ' : St) (σ : Sl) (g : G) (Q : Bool → Hp → Prop), Rep Y ρ FH H σ' σ g → Good Y (f σ g) (fun b σ2 g2 => ∀ FH2 H2, Rep Y ρ FH2 H2 σ' σ2 g2 → Sub FH FH2 → Evo σ σ2 → Q b H2) → tt σ' H Q
def SndA (Y : Yx) (ta : TA) (f : Ev (List D)) : Prop :=
  ∀ (ρ : Rho) (FH H : Hp) (σ' : St) (σ : Sl) (g : G) (Q : List V → Hp → Prop), Rep Y ρ FH H σ' σ g → Good Y (f σ g) (fun as σ2 g2 => ∀ vs FH2 H2, Rep Y ρ FH2 H2 σ' σ2 g2 → Sub FH FH2 → Evo σ σ2 → DqAll Y.K FH2 vs as → Q vs H2) → ta σ' H Q

section
variable {Y : Yx} {ρ : Rho} {FH H FH2 H2 : Hp} {σ' : St} {σ σ2 : Sl} {g g2 : G}
theorem RelP.up {v : V} {d : D} (h : RelP Y ρ FH H σ' σ v d) (S : Sub FH FH2) (E : Evo σ σ2) (R2 : Rep Y ρ FH2 H2 σ' σ2 g2) : RelP Y ρ FH2 H2 σ' σ2 v d := by
  rcases h with h | ⟨i, ds, e, h1, h2⟩
  · exact .inl (Dq.up S d h)
  · rcases E.2 i with q | ⟨es, q1, q2⟩
    · exact .inr ⟨i, ds, e, q.trans h1, h2⟩
    · rw [h1] at q1
      cases q1
      obtain ⟨w, z1, z2⟩ := R2.fz i _ q2
      rw [h2] at z1
      cases z1
      subst e
      exact .inl z2
theorem RelP.list {v : V} {ds : List D} (R : Rep Y ρ FH H σ' σ g) (h : RelP Y ρ FH H σ' σ v (.list ds)) : ∃ p vs, v = .ref p ∧ Rd H p (.lst vs) ∧ DqAll Y.K FH vs ds := by
  rcases h with h | ⟨i, es, e, h1, h2⟩
  · cases h with
    | lst h a => exact ⟨_, _, rfl, R.sub.rd h, a⟩
  · cases e
    obtain ⟨p, vs, q1, q2, q3, q4, _⟩ := R.ow i _ h1
    rw [h2] at q1
    cases q1
    exact ⟨p, vs, rfl, .inl q3, q4⟩
theorem RelP.tup {v : V} {ds : List D} (h : RelP Y ρ FH H σ' σ v (.tuple ds)) : ∃ p vs, v = .ref p ∧ SqT Y.K FH p vs ∧ DqAll Y.K FH vs ds := by
  rcases h with h | ⟨i, es, e, h1, h2⟩
  · cases h with
    | tup h a => exact ⟨_, _, rfl, h, a⟩
  · cases e
theorem RelP.int {v : V} {i : Int} (h : RelP Y ρ FH H σ' σ v (.int i)) : v = .int i := by
  rcases h with h | ⟨_, _, e, _⟩
  · cases h
    rfl
  · cases e
theorem RelP.str {v : V} {x : Str} (h : RelP Y ρ FH H σ' σ v (.str x)) : v = .str x := by
  rcases h with h | ⟨_, _, e, _⟩
  · cases h
    rfl
  · cases e
theorem RelP.bl {v : V} {b : Bool} (h : RelP Y ρ FH H σ' σ v (.bool b)) : v = .bl b := by
  rcases h with h | ⟨_, _, e, _⟩
  · cases h
    rfl
  · cases e
theorem RelP.non {v : V} (h : RelP Y ρ FH H σ' σ v .none) : v = .non := by
  rcases h with h | ⟨_, _, e, _⟩
  · cases h
    rfl
  · cases e
theorem RelP.dq {v : V} {d : D} (R : Rep Y ρ FH H σ' σ g) (h : RelP Y ρ FH H σ' σ v d) : Dq Y.K H v d := by
  rcases h with h | ⟨i, ds, e, h1, h2⟩
  · exact Dq.up R.sub d h
  · subst e
    obtain ⟨p, vs, q1, q2, q3, q4, _⟩ := R.ow i _ h1
    rw [h2] at q1
    cases q1
    exact .lst (.inl q3) (DqAll.up R.sub ds q4)
theorem RelP.dp {v : V} {d : D} (R : Rep Y ρ FH H σ' σ g) (h : RelP Y ρ FH H σ' σ v d) : L2.Dp Y.K H v d := Dq.dp d (h.dq R)
theorem NewRes.own {v : V} {sv : SV} (n : NewRes Y.K FH H FH2 H2 v sv) (R : Rep Y ρ FH H σ' σ g) : RelO Y ρ FH2 H2 σ' σ v sv := by
  cases sv with
  | fz d => exact n.1
  | ow ds =>
    obtain ⟨rfl, p, vs, hn, rfl, rfl, a⟩ := n
    exact ⟨p, vs, rfl, R.sub.free hn, upd_same, a, R.old hn, R.cellNe hn, R.slotNe hn, R.pdNe hn⟩
  | deal => exact n.elim
  | nd _ _ _ => exact n.elim

variable {te ta tb tc : TE} {f f1 f2 f3 : Ev D} {fo : Ev SV}
/-! ### from own to frozen, to looked at -/
theorem snd_cD (h : SndE Y (RelO Y) te fo) : SndE Y (RelD Y) te (cD fo) := by
  intro ρ FH H σ' σ g Q R hg
  refine h ρ FH H σ' σ g Q R (hg.bind.mono fun sv σ2 g2 q v FH2 H2 R2 S E rel => ?_)
  obtain ⟨d, e, q⟩ := q.lift
  cases sv with
  | fz d' =>
    simp only [dOf, Option.some.injEq] at e
    subst e
    exact q v FH2 H2 R2 S E rel
  | ow ds =>
    simp only [dOf, Option.some.injEq] at e
    subst e
    obtain ⟨p, vs, rfl, F⟩ := rel
    exact q _ _ H2 (R2.freeze F) (S.trans (Sub.new F.f)) E (dq_frozen F.f F.a)
  | deal => simp [dOf] at e
  | nd _ _ _ => simp [dOf] at e
theorem snd_P (h : SndE Y (RelD Y) te f) : SndE Y (RelP Y) te f := by
  intro ρ FH H σ' σ g Q R hg
  exact h ρ FH H σ' σ g Q R (hg.mono fun d σ2 g2 q v FH2 H2 R2 S E rel => q v FH2 H2 R2 S E (.inl rel))
/-! ### names, constants -/
theorem snd_cVP {i : Nat} : SndE Y (RelP Y) (tVar i) (cVP i) := by
  intro ρ FH H σ' σ g Q R hg
  unfold cVP at hg
  split at hg
  · rename_i d e
    obtain ⟨v, h1, h2⟩ := R.fz i d e
    exact ⟨v, h1, hg v FH H R (Sub.refl _) (Evo.refl _) (.inl h2)⟩
  · rename_i ds e
    obtain ⟨p, vs, h1, _⟩ := R.ow i ds e
    exact ⟨_, h1, hg _ FH H R (Sub.refl _) (Evo.refl _) (.inr ⟨i, ds, rfl, e, h1⟩)⟩
  · exact hg.elim
theorem snd_cVE {i : Nat} : SndE Y (RelO Y) (tVar i) (cVE i) := by
  intro ρ FH H σ' σ g Q R hg
  unfold cVE at hg
  split at hg
  · rename_i d e
    obtain ⟨v, h1, h2⟩ := R.fz i d e
    exact ⟨v, h1, hg v FH H R (Sub.refl _) (Evo.refl _) h2⟩
  · rename_i ds e
    obtain ⟨p, vs, h1, h2, R2, h3⟩ := R.freezeSlot e
    exact ⟨_, h1, hg _ _ H R2 (Sub.new h2) (evo_set e) h3⟩
  · rename_i e
    obtain ⟨dl, c, h1, h2⟩ := R.dl i e
    exact ⟨_, h2, hg _ FH H R (Sub.refl _) (Evo.refl _) ⟨dl, c, h1, rfl⟩⟩
  · exact hg.elim
theorem snd_cK {v : V} {d : D} (h : Dq Y.K (fun _ => none) v d) : SndE Y (RelO Y) (tC v) (cK d) := by
  intro ρ FH H σ' σ g Q R hg
  exact hg v FH H R (Sub.refl _) (Evo.refl _) (Dq.up (fun _ _ e => by cases e) d h)
/-! ### operations -/
def Op1 (Y : Yx) (r : V → Hp → VK → Prop) (op : D → Option SV) : Prop := ∀ (ρ : Rho) (FH H : Hp) (σ' : St) (σ : Sl) (g : G) (v : V) (d : D) (sv : SV) (Q : VK), Rep Y ρ FH H σ' σ g → RelP Y ρ FH H σ' σ v d → op d = some sv →
  (∀ v2 FH2 H2, NewRes Y.K FH H FH2 H2 v2 sv → Q v2 H2) → r v H Q
def Op2 (Y : Yx) (r : R2) (op : D → D → Option SV) : Prop := ∀ (ρ : Rho) (FH H : Hp) (σ' : St) (σ : Sl) (g : G) (v u : V) (d e : D) (sv : SV) (Q : VK), Rep Y ρ FH H σ' σ g → RelP Y ρ FH H σ' σ v d → RelP Y ρ FH H σ' σ u e → op d e = some sv →
  (∀ v2 FH2 H2, NewRes Y.K FH H FH2 H2 v2 sv → Q v2 H2) → r v u H Q
def OpB (Y : Yx) (r : R2) (op : D → D → Option Bool) : Prop := ∀ (ρ : Rho) (FH H : Hp) (σ' : St) (σ : Sl) (g : G) (v u : V) (d e : D) (b : Bool) (Q : VK), Rep Y ρ FH H σ' σ g → RelP Y ρ FH H σ' σ v d → RelP Y ρ FH H σ' σ u e → op d e = some b →
  Q (.bl b) H → r v u H Q
theorem snd_c1 {r : V → Hp → VK → Prop} {op : D → Option SV} (ha : SndE Y (RelP Y) ta f) (ho : Op1 Y r op) : SndE Y (RelO Y) (tUn r ta) (c1 op f) := by
  intro ρ FH H σ' σ g Q R hg
  refine ha ρ FH H σ' σ g _ R (hg.bind.mono fun d σ2 g2 q v FH2 H2 R2 S E rel => ?_)
  obtain ⟨sv, e, q⟩ := q.lift
  refine ho ρ FH2 H2 σ' σ2 g2 v d sv Q R2 rel e fun v2 FH3 H3 n => ?_
  obtain ⟨R3, S3⟩ := R2.res n
  exact q v2 FH3 H3 R3 (S.trans S3) E (n.own R2)
theorem snd_c2 {r : R2} {op : D → D → Option SV} (ha : SndE Y (RelP Y) ta f1) (hb : SndE Y (RelP Y) tb f2) (ho : Op2 Y r op) : SndE Y (RelO Y) (tOp r ta tb) (c2 op f1 f2) := by
  intro ρ FH H σ' σ g Q R hg
  refine ha ρ FH H σ' σ g _ R (hg.bind.mono fun d σ2 g2 q v FH2 H2 R2 S E rel => ?_)
  refine hb ρ FH2 H2 σ' σ2 g2 _ R2 (q.bind.mono fun e σ3 g3 q u FH3 H3 R3 S3 E3 rel3 => ?_)
  obtain ⟨sv, eq, q⟩ := q.lift
  refine ho ρ FH3 H3 σ' σ3 g3 v u d e sv Q R3 (rel.up S3 E3 R3) rel3 eq fun v2 FH4 H4 n => ?_
  obtain ⟨R4, S4⟩ := R3.res n
  exact q v2 FH4 H4 R4 ((S.trans S3).trans S4) (E.trans E3) (n.own R3)
/-- a comparison, as a value that is a bool -/
def RelB (Y : Yx) : RelT Bool := fun _ _ _ _ _ v b => v = .bl b
theorem snd_cCmp {r : R2} {op : D → D → Option Bool} (ha : SndE Y (RelP Y) ta f1) (hb : SndE Y (RelP Y) tb f2) (ho : OpB Y r op) : SndE Y (RelB Y) (tOp r ta tb) (cCmp op f1 f2) := by
  intro ρ FH H σ' σ g Q R hg
  refine ha ρ FH H σ' σ g _ R (hg.bind.mono fun d σ2 g2 q v FH2 H2 R2 S E rel => ?_)
  refine hb ρ FH2 H2 σ' σ2 g2 _ R2 (q.bind.mono fun e σ3 g3 q u FH3 H3 R3 S3 E3 rel3 => ?_)
  obtain ⟨b, eq, q⟩ := q.lift
  exact ho ρ FH3 H3 σ' σ3 g3 v u d e b Q R3 (rel.up S3 E3 R3) rel3 eq (q _ FH3 H3 R3 (S.trans S3) (E.trans E3) rfl)
theorem snd_cB {fb : Ev Bool} (h : SndE Y (RelB Y) te fb) : SndE Y (RelO Y) te (cB fb) := by
  intro ρ FH H σ' σ g Q R hg
  refine h ρ FH H σ' σ g Q R (hg.bind.mono fun b σ2 g2 q v FH2 H2 R2 S E rel => ?_)
  have e : v = .bl b := rel
  subst e
  exact q _ FH2 H2 R2 S E (Dq.bl b)
/-- as a test -/
theorem snd_tTest {fb : Ev Bool} (h : SndE Y (RelB Y) te fb) : SndT Y (L2.tTest te) fb := by
  intro ρ FH H σ' σ g Q R hg
  refine h ρ FH H σ' σ g _ R (hg.mono fun b σ2 g2 q v FH2 H2 R2 S E rel => ?_)
  exact ⟨b, rel, q FH2 H2 R2 S E⟩
theorem snd_cChain {r r' : R2} {op op' : D → D → Option Bool} (ha : SndE Y (RelP Y) ta f1) (hb : SndE Y (RelP Y) tb f2) (hc : SndE Y (RelP Y) tc f3) (ho : OpB Y r op) (ho' : OpB Y r' op') : SndE Y (RelB Y) (L2.tChain r r' ta tb tc) (cChain op op' f1 f2 f3) := by
  intro ρ FH H σ' σ g Q R hg
  refine ha ρ FH H σ' σ g _ R (hg.bind.mono fun d σ2 g2 q v FH2 H2 R2 S E rel => ?_)
  refine hb ρ FH2 H2 σ' σ2 g2 _ R2 (q.bind.mono fun e σ3 g3 q u FH3 H3 R3 S3 E3 rel3 => ?_)
  obtain ⟨b, eq, q⟩ := q.bind.lift
  refine ho ρ FH3 H3 σ' σ3 g3 v u d e b _ R3 (rel.up S3 E3 R3) rel3 eq ⟨b, rfl, ?_⟩
  cases b with
  | false =>
    rw [if_neg Bool.false_ne_true] at q ⊢
    exact q _ FH3 H3 R3 (S.trans S3) (E.trans E3) rfl
  | true =>
    rw [if_pos rfl] at q ⊢
    refine hc ρ FH3 H3 σ' σ3 g3 _ R3 (q.bind.mono fun x σ4 g4 q w FH4 H4 R4 S4 E4 rel4 => ?_)
    obtain ⟨b2, eq2, q⟩ := q.lift
    exact ho' ρ FH4 H4 σ' σ4 g4 u w e x b2 Q R4 (rel3.up S4 E4 R4) rel4 eq2 (q _ FH4 H4 R4 ((S.trans S3).trans S4) ((E.trans E3).trans E4) rfl)
/-! ### tests -/
section
variable {t u : TT} {b1 b2 : Ev Bool}
theorem snd_cAnd (ha : SndT Y t b1) (hb : SndT Y u b2) : SndT Y (L2.tAnd t u) (cAnd b1 b2) := by
  intro ρ FH H σ' σ g Q R hg
  refine ha ρ FH H σ' σ g _ R (hg.bind.mono fun p σ2 g2 q FH2 H2 R2 S E => ?_)
  cases p with
  | true =>
    rw [if_pos rfl] at q ⊢
    exact hb ρ FH2 H2 σ' σ2 g2 Q R2 (q.mono fun p σ3 g3 q FH3 H3 R3 S3 E3 => q FH3 H3 R3 (S.trans S3) (E.trans E3))
  | false =>
    rw [if_neg Bool.false_ne_true] at q ⊢
    exact q FH2 H2 R2 S E
theorem snd_cOr (ha : SndT Y t b1) (hb : SndT Y u b2) : SndT Y (L2.tOr t u) (cOr b1 b2) := by
  intro ρ FH H σ' σ g Q R hg
  refine ha ρ FH H σ' σ g _ R (hg.bind.mono fun p σ2 g2 q FH2 H2 R2 S E => ?_)
  cases p with
  | false =>
    rw [if_neg Bool.false_ne_true] at q ⊢
    exact hb ρ FH2 H2 σ' σ2 g2 Q R2 (q.mono fun p σ3 g3 q FH3 H3 R3 S3 E3 => q FH3 H3 R3 (S.trans S3) (E.trans E3))
  | true =>
    rw [if_pos rfl] at q ⊢
    exact q FH2 H2 R2 S E
theorem snd_cNot (ha : SndT Y t b1) : SndT Y (L2.tNot t) (cNot b1) := by
  intro ρ FH H σ' σ g Q R hg
  exact ha ρ FH H σ' σ g _ R (hg.bind.mono fun p σ2 g2 q FH2 H2 R2 S E => q FH2 H2 R2 S E)
theorem snd_cIteE {α : Type} {Rl : RelT α} {fa fb : Ev α} (ht : SndT Y t b1) (ha : SndE Y Rl ta fa) (hb : SndE Y Rl tb fb) : SndE Y Rl (L2.tIf t ta tb) (cIte b1 fa fb) := by
  intro ρ FH H σ' σ g Q R hg
  refine ht ρ FH H σ' σ g _ R (hg.bind.mono fun p σ2 g2 q FH2 H2 R2 S E => ?_)
  cases p with
  | true =>
    rw [if_pos rfl] at q ⊢
    exact ha ρ FH2 H2 σ' σ2 g2 Q R2 (q.mono fun p σ3 g3 q v FH3 H3 R3 S3 E3 => q v FH3 H3 R3 (S.trans S3) (E.trans E3))
  | false =>
    rw [if_neg Bool.false_ne_true] at q ⊢
    exact hb ρ FH2 H2 σ' σ2 g2 Q R2 (q.mono fun p σ3 g3 q v FH3 H3 R3 S3 E3 => q v FH3 H3 R3 (S.trans S3) (E.trans E3))
/-- the values of and, or, not where all parts are bools -/
theorem snd_andV (ha : SndE Y (RelB Y) ta b1) (hb : SndE Y (RelB Y) tb b2) : SndE Y (RelB Y) (L2.tAndV ta tb) (cAnd b1 b2) := by
  intro ρ FH H σ' σ g Q R hg
  refine ha ρ FH H σ' σ g _ R (hg.bind.mono fun p σ2 g2 q v FH2 H2 R2 S E rel => ⟨p, rel, ?_⟩)
  cases p with
  | true =>
    rw [if_pos rfl] at q ⊢
    exact hb ρ FH2 H2 σ' σ2 g2 Q R2 (q.mono fun p σ3 g3 q v FH3 H3 R3 S3 E3 => q v FH3 H3 R3 (S.trans S3) (E.trans E3))
  | false =>
    rw [if_neg Bool.false_ne_true] at q ⊢
    exact q _ FH2 H2 R2 S E rfl
theorem snd_orV (ha : SndE Y (RelB Y) ta b1) (hb : SndE Y (RelB Y) tb b2) : SndE Y (RelB Y) (L2.tOrV ta tb) (cOr b1 b2) := by
  intro ρ FH H σ' σ g Q R hg
  refine ha ρ FH H σ' σ g _ R (hg.bind.mono fun p σ2 g2 q v FH2 H2 R2 S E rel => ⟨p, rel, ?_⟩)
  cases p with
  | false =>
    rw [if_neg Bool.false_ne_true] at q ⊢
    exact hb ρ FH2 H2 σ' σ2 g2 Q R2 (q.mono fun p σ3 g3 q v FH3 H3 R3 S3 E3 => q v FH3 H3 R3 (S.trans S3) (E.trans E3))
  | true =>
    rw [if_pos rfl] at q ⊢
    exact q _ FH2 H2 R2 S E rfl
theorem snd_notV (ha : SndE Y (RelB Y) ta b1) : SndE Y (RelB Y) (L2.tNotV ta) (cNot b1) := by
  intro ρ FH H σ' σ g Q R hg
  exact ha ρ FH H σ' σ g _ R (hg.bind.mono fun p σ2 g2 q v FH2 H2 R2 S E rel => ⟨p, rel, q _ FH2 H2 R2 S E rfl⟩)
end
/-! ### truth -/
theorem tru_of {d : D} {v : V} {k : Bool} (R : Rep Y ρ FH H σ' σ g) (rel : RelP Y ρ FH H σ' σ v d) (e : pyTruth d = some k) : L2.TruV Y.K v H k := by
  cases d with
  | none =>
    cases rel.non
    simp only [pyTruth, Option.some.injEq] at e
    exact e.symm
  | bool b =>
    cases rel.bl
    simp only [pyTruth, Option.some.injEq] at e
    exact e.symm
  | int i =>
    cases rel.int
    simp only [pyTruth, Option.some.injEq] at e
    exact e.symm
  | str x =>
    cases rel.str
    simp only [pyTruth] at e
    split at e
    · rename_i h
      cases e
      exact ⟨h, rfl⟩
    · cases e
  | list ds =>
    obtain ⟨p, vs, rfl, h1, h2⟩ := rel.list R
    simp only [pyTruth, Option.some.injEq] at e
    refine .inl ⟨vs, .inl h1, ?_⟩
    rw [← e]
    cases h2 <;> rfl
  | tuple ds =>
    obtain ⟨p, vs, rfl, h1, h2⟩ := rel.tup
    simp only [pyTruth, Option.some.injEq] at e
    refine .inr (.inl ⟨vs, R.sub.sqt h1, ?_⟩)
    rw [← e]
    cases h2 <;> rfl
  | dict _ => simp [pyTruth] at e
theorem snd_cTru (ha : SndE Y (RelP Y) ta f) : SndT Y (fun σ H Q => ta σ H fun x H' => ∃ k, L2.TruV Y.K x H' k ∧ Q k H') (cTru f) := by
  intro ρ FH H σ' σ g Q R hg
  refine ha ρ FH H σ' σ g _ R (hg.bind.mono fun d σ2 g2 q v FH2 H2 R2 S E rel => ?_)
  obtain ⟨k, e, q⟩ := q.lift
  exact ⟨k, tru_of R2 rel e, q FH2 H2 R2 S E⟩
/-! ### several -/
theorem snd_cNil : SndA Y tNil cNil := by
  intro ρ FH H σ' σ g Q R hg
  exact hg [] FH H R (Sub.refl _) (Evo.refl _) .nil
theorem snd_cCons {t : TA} {r : Ev (List D)} (ha : SndE Y (RelD Y) te f) (hr : SndA Y t r) : SndA Y (tCons te t) (cCons f r) := by
  intro ρ FH H σ' σ g Q R hg
  refine ha ρ FH H σ' σ g _ R (hg.bind.mono fun d σ2 g2 q v FH2 H2 R2 S E rel => ?_)
  refine hr ρ FH2 H2 σ' σ2 g2 _ R2 (q.bind.mono fun ds σ3 g3 q vs FH3 H3 R3 S3 E3 rel3 => ?_)
  exact q _ FH3 H3 R3 (S.trans S3) (E.trans E3) (.cons (Dq.up S3 d rel) rel3)
theorem snd_cTup {t : TA} {r : Ev (List D)} (hr : SndA Y t r) : SndE Y (RelO Y) (L2.tTup t) (cTup r) := by
  intro ρ FH H σ' σ g Q R hg
  refine hr ρ FH H σ' σ g _ R (hg.bind.mono fun ds σ2 g2 q vs FH2 H2 R2 S E rel => ?_)
  obtain ⟨sv, e, q⟩ := q.lift
  split at e
  · rename_i hl
    cases e
    refine ⟨by rw [rel.len]; exact hl, fun p hn => ?_⟩
    have hf := R2.sub.free hn
    exact q _ _ _ (R2.newF hn) (S.trans (Sub.new hf)) E (.tup (.inl (.inl upd_same)) (DqAll.up (Sub.new hf) ds rel))
  · cases e
theorem snd_cLst {t : TA} {r : Ev (List D)} (hr : SndA Y t r) : SndE Y (RelO Y) (L2.tLst t) (cLst r) := by
  intro ρ FH H σ' σ g Q R hg
  refine hr ρ FH H σ' σ g _ R (hg.bind.mono fun ds σ2 g2 q vs FH2 H2 R2 S E rel => ?_)
  obtain ⟨sv, e, q⟩ := q.lift
  split at e
  · rename_i hl
    cases e
    refine ⟨by rw [rel.len]; exact hl, fun p hn => ?_⟩
    exact q _ _ _ (R2.newL hn) S E ⟨p, vs, rfl, R2.sub.free hn, upd_same, rel, R2.old hn, R2.cellNe hn, R2.slotNe hn, R2.pdNe hn⟩
  · cases e
/-! ### slices -/
def SndB (Y : Yx) (tl : L2.TO) (f : Ev (Option Int)) : Prop :=
  ∀ (ρ : Rho) (FH H : Hp) (σ' : St) (σ : Sl) (g : G) (Q : Option Int → Hp → Prop), Rep Y ρ FH H σ' σ g → Good Y (f σ g) (fun b σ2 g2 => ∀ FH2 H2, Rep Y ρ FH2 H2 σ' σ2 g2 → Sub FH FH2 → Evo σ σ2 → Q b H2) → tl σ' H Q
theorem snd_noB : SndB Y L2.tNoPart cNoB := fun ρ FH H σ' σ g Q R hg => hg FH H R (Sub.refl _) (Evo.refl _)
theorem snd_cBd (ha : SndE Y (RelP Y) ta f) : SndB Y (L2.tPart ta) (cBd f) := by
  intro ρ FH H σ' σ g Q R hg
  refine ha ρ FH H σ' σ g _ R (hg.bind.mono fun d σ2 g2 q v FH2 H2 R2 S E rel => ?_)
  obtain ⟨o, e, q⟩ := q.lift
  cases d with
  | int i =>
    simp only [intOf, Option.map_some, Option.some.injEq] at e
    subst e
    exact ⟨i, rel.int, q FH2 H2 R2 S E⟩
  | _ => simp [intOf] at e
def OpS (Y : Yx) (r : V → Option Int → Option Int → Hp → VK → Prop) : Prop := ∀ (ρ : Rho) (FH H : Hp) (σ' : St) (σ : Sl) (g : G) (v : V) (lo hi : Option Int) (d : D) (sv : SV) (Q : VK), Rep Y ρ FH H σ' σ g → RelP Y ρ FH H σ' σ v d → pySlice d lo hi = some sv →
  (∀ v2 FH2 H2, NewRes Y.K FH H FH2 H2 v2 sv → Q v2 H2) → r v lo hi H Q
theorem snd_cSlice {r : V → Option Int → Option Int → Hp → VK → Prop} {tl th : L2.TO} {lo hi : Ev (Option Int)} (ha : SndE Y (RelP Y) ta f) (hl : SndB Y tl lo) (hh : SndB Y th hi) (ho : OpS Y r) : SndE Y (RelO Y) (L2.tSl r ta tl th) (cSlice f lo hi) := by
  intro ρ FH H σ' σ g Q R hg
  refine ha ρ FH H σ' σ g _ R (hg.bind.mono fun d σ2 g2 q v FH2 H2 R2 S E rel => ?_)
  refine hl ρ FH2 H2 σ' σ2 g2 _ R2 (q.bind.mono fun l σ3 g3 q FH3 H3 R3 S3 E3 => ?_)
  refine hh ρ FH3 H3 σ' σ3 g3 _ R3 (q.bind.mono fun h σ4 g4 q FH4 H4 R4 S4 E4 => ?_)
  obtain ⟨sv, e, q⟩ := q.lift
  refine ho ρ FH4 H4 σ' σ4 g4 v l h d sv Q R4 ((rel.up S3 E3 R3).up S4 E4 R4) e fun v2 FH5 H5 n => ?_
  obtain ⟨R5, S5⟩ := R4.res n
  exact q v2 FH5 H5 R5 (((S.trans S3).trans S4).trans S5) ((E.trans E3).trans E4) (n.own R4)
end
end
end FD
/-! FD5: each operation on data, by the layer's rule. -/
namespace FD
noncomputable section
open PySem
open L2 (Hp HO V upd upd_same upd_ne ne_of_none Rd SqL SqT Vals RelV VK TE TT TA TS TG TGs St XK Cx PE PT PW PA PS PSs PG PGs PI Inv OpR UnR CallR R2 rI0 rI tOp tUn tVar tC tCB tCons tNil SlR IxR MtR)

/-- a result that makes nothing -/
theorem res0 {K : PySem.W.Frag} {FH H : Hp} {v : V} {d : D} (h : Dq K FH v d) : NewRes K FH H FH H v (.fz d) := ⟨h, .inl ⟨rfl, rfl⟩⟩
theorem resInt {K : PySem.W.Frag} {FH H : Hp} (i : Int) : NewRes K FH H FH H (.int i) (.fz (.int i)) := res0 (.int i)
theorem resTup {K : PySem.W.Frag} {FH H : Hp} {p : Addr} {vs : List V} {ds : List D} (hn : H p = none) (s : Sub FH H) (a : DqAll K FH vs ds) : NewRes K FH H (upd FH p (.tup vs)) (upd H p (.tup vs)) (.ref p) (.fz (.tuple ds)) :=
  ⟨.tup (.inl (.inl upd_same)) (DqAll.up (Sub.new (s.free hn)) ds a), .inr ⟨p, _, hn, rfl, rfl⟩⟩
theorem resLst {K : PySem.W.Frag} {FH H : Hp} {p : Addr} {vs : List V} {ds : List D} (hn : H p = none) (a : DqAll K FH vs ds) : NewRes K FH H FH (upd H p (.lst vs)) (.ref p) (.ow ds) :=
  ⟨rfl, p, vs, hn, rfl, rfl, a⟩

section
variable {Y : Yx} {X : Cx}
/-! ### arithmetic -/
def rAdd (K : PySem.W.Frag) : R2 := fun x y H Q => rI0 (fun i j => .int (i + j)) x y H Q ∨ (∃ i j, x = .str i ∧ y = .str j ∧ i.length + j.length ≤ sizeLine ∧ Q (.str (i ++ j)) H) ∨ L2.rCatA K x y H Q ∨ rCatL x y H Q
theorem op_add : OpR X (binaryOp .Add) (rAdd X.K) := L2.op_add.or (L2.op_add_str.or (L2.op_catA.or op_catL))
theorem sl16 : (sizeLine : Nat) = 16777216 := sizeLine_eq
theorem o2_add : Op2 Y (rAdd Y.K) pyAdd := by
  intro ρ FH H σ' σ g v u d e sv Q R hd he eq k
  cases d with
  | int i =>
    cases e with
    | int j =>
      simp only [pyAdd, sInt, Option.some.injEq] at eq
      subst eq
      exact .inl ⟨i, j, hd.int, he.int, k _ FH H (resInt _)⟩
    | _ => simp [pyAdd] at eq
  | str x =>
    cases e with
    | str y =>
      simp only [pyAdd] at eq
      split at eq
      · rename_i hl
        cases eq
        exact .inr (.inl ⟨x, y, hd.str, he.str, by rw [sl16]; exact hl, k _ FH H (res0 (.str _))⟩)
      · cases eq
    | _ => simp [pyAdd] at eq
  | tuple xs =>
    cases e with
    | tuple ys =>
      simp only [pyAdd] at eq
      split at eq
      · rename_i hl
        cases eq
        obtain ⟨p, vs, rfl, h1, h2⟩ := hd.tup
        obtain ⟨q, ws, rfl, h3, h4⟩ := he.tup
        refine .inr (.inr (.inl ⟨p, q, vs, ws, rfl, rfl, R.sub.sqt h1, R.sub.sqt h3, by rw [sl16, h2.len, h4.len]; exact hl, fun e => ?_, fun e1 e2 => ?_, fun e1 e2 z hn => ?_⟩))
        · have e' := h2.nil_iff.mp e
          subst e'
          exact k _ FH H (res0 (.tup h3 h4))
        · have e' := h4.nil_iff.mp e2
          subst e'
          rw [List.append_nil] at k
          exact k _ FH H (res0 (.tup h1 h2))
        · exact k _ _ _ (resTup hn R.sub (h2.app h4))
      · cases eq
    | _ => simp [pyAdd] at eq
  | list xs =>
    cases e with
    | list ys =>
      simp only [pyAdd] at eq
      split at eq
      · rename_i hl
        cases eq
        obtain ⟨p, vs, rfl, h1, h2⟩ := hd.list R
        obtain ⟨q, ws, rfl, h3, h4⟩ := he.list R
        exact .inr (.inr (.inr ⟨p, q, vs, ws, rfl, rfl, h1, h3, by rw [sl16, h2.len, h4.len]; exact hl, fun z hn => k _ _ _ (resLst hn (h2.app h4))⟩))
      · cases eq
    | _ => simp [pyAdd] at eq
  | _ => cases e <;> simp [pyAdd] at eq
def rSub : R2 := rI0 fun i j => .int (i - j)
theorem op_sub : OpR X (binaryOp .Sub) rSub := L2.op_sub
theorem o2_sub : Op2 Y rSub pySub := by
  intro ρ FH H σ' σ g v u d e sv Q R hd he eq k
  cases d with
  | int i =>
    cases e with
    | int j =>
      simp only [pySub, sInt, Option.some.injEq] at eq
      subst eq
      exact ⟨i, j, hd.int, he.int, k _ FH H (resInt _)⟩
    | _ => simp [pySub] at eq
  | _ => cases e <;> simp [pySub] at eq
def rMul (K : PySem.W.Frag) : R2 := fun x y H Q => rI L2.CMulW (fun i j => .int (i * j)) x y H Q ∨ rRepV K x y H Q ∨ rRepL x y H Q
theorem op_mul : OpR X (binaryOp .Mult) (rMul X.K) := L2.op_mulW.or (op_repV.or op_repL)
theorem o2_mul : Op2 Y (rMul Y.K) pyMul := by
  intro ρ FH H σ' σ g v u d e sv Q R hd he eq k
  cases d with
  | int i =>
    cases e with
    | int j =>
      simp only [pyMul] at eq
      split at eq
      · rename_i hm
        simp only [sInt, Option.some.injEq] at eq
        subst eq
        exact .inl ⟨i, j, hd.int, he.int, hm, k _ FH H (resInt _)⟩
      · cases eq
    | _ => simp [pyMul] at eq
  | tuple xs =>
    cases e with
    | int j =>
      simp only [pyMul] at eq
      split at eq
      · rename_i hm
        cases eq
        obtain ⟨p, vs, rfl, h1, h2⟩ := hd.tup
        have hm : -(2 ^ 62) ≤ j ∧ j < 2 ^ 62 ∧ xs.length * j.toNat ≤ 16777216 := hm
        refine .inr (.inl ⟨p, j, vs, rfl, he.int, R.sub.sqt h1, by omega, by omega, by rw [sl16, h2.len]; exact hm.2.2, fun z => ?_, fun z1 z2 q hn => ?_, fun z1 z2 q hn => k _ _ _ (resTup hn R.sub (h2.rep _))⟩)
        · have e : reps xs j.toNat = xs := by
            rcases z with z | z
            · rw [h2.nil_iff.mp z]
              simp [reps]
            · subst z
              simp [reps]
          rw [e] at k
          exact k _ FH H (res0 (.tup h1 h2))
        · have e : j.toNat = 0 := by omega
          have e2 : reps xs j.toNat = [] := by rw [e]; rfl
          rw [e2] at k
          exact k _ _ _ (resTup hn R.sub .nil)
      · cases eq
    | _ => simp [pyMul] at eq
  | list xs =>
    cases e with
    | int j =>
      simp only [pyMul] at eq
      split at eq
      · rename_i hm
        cases eq
        obtain ⟨p, vs, rfl, h1, h2⟩ := hd.list R
        have hm : -(2 ^ 62) ≤ j ∧ j < 2 ^ 62 ∧ xs.length * j.toNat ≤ 16777216 := hm
        exact .inr (.inr ⟨p, j, vs, rfl, he.int, h1, by omega, by omega, by rw [sl16, h2.len]; exact hm.2.2, fun q hn => k _ _ _ (resLst hn (h2.rep _))⟩)
      · cases eq
    | _ => simp [pyMul] at eq
  | _ => cases e <;> simp [pyMul] at eq
def rDiv : R2 := rI L2.CDivW fun i j => .int (i / j)
theorem op_div : OpR X (binaryOp .FloorDiv) rDiv := L2.op_fdivW
theorem o2_div : Op2 Y rDiv pyFloorDiv := by
  intro ρ FH H σ' σ g v u d e sv Q R hd he eq k
  cases d with
  | int i =>
    cases e with
    | int j =>
      simp only [pyFloorDiv] at eq
      split at eq
      · rename_i hm
        simp only [sInt, Option.some.injEq] at eq
        subst eq
        exact ⟨i, j, hd.int, he.int, hm, k _ FH H (resInt _)⟩
      · cases eq
    | _ => simp [pyFloorDiv] at eq
  | _ => cases e <;> simp [pyFloorDiv] at eq
def rMod : R2 := rI (fun _ j => j ≠ 0) fun i j => .int (i.fmod j)
theorem op_mod : OpR X (binaryOp .Mod) rMod := L2.op_modN
theorem o2_mod : Op2 Y rMod pyMod := by
  intro ρ FH H σ' σ g v u d e sv Q R hd he eq k
  cases d with
  | int i =>
    cases e with
    | int j =>
      simp only [pyMod] at eq
      split at eq
      · cases eq
      · rename_i hm
        simp only [sInt, Option.some.injEq] at eq
        subst eq
        exact ⟨i, j, hd.int, he.int, hm, k _ FH H (resInt _)⟩
    | _ => simp [pyMod] at eq
  | _ => cases e <;> simp [pyMod] at eq
def rPow : R2 := rI L2.CPow fun i j => .int (i ^ j.toNat)
theorem op_pow : OpR X (binaryOp .Pow) rPow := L2.op_pow
theorem o2_pow : Op2 Y rPow pyPow := by
  intro ρ FH H σ' σ g v u d e sv Q R hd he eq k
  cases d with
  | int i =>
    cases e with
    | int j =>
      simp only [pyPow] at eq
      split at eq
      · rename_i hm
        simp only [sInt, Option.some.injEq] at eq
        subst eq
        exact ⟨i, j, hd.int, he.int, hm, k _ FH H (resInt _)⟩
      · cases eq
    | _ => simp [pyPow] at eq
  | _ => cases e <;> simp [pyPow] at eq
def rNeg : V → Hp → VK → Prop := L2.rU fun i => .int (-i)
theorem un_neg : UnR X (unaryOp .USub) rNeg := L2.un_neg
theorem o1_neg : Op1 Y rNeg pyNeg := by
  intro ρ FH H σ' σ g v d sv Q R hd eq k
  cases d with
  | int i =>
    simp only [pyNeg, sInt, Option.some.injEq] at eq
    subst eq
    exact ⟨i, hd.int, k _ FH H (resInt _)⟩
  | _ => simp [pyNeg] at eq
/-! ### comparisons -/
def rEqq (K : PySem.W.Frag) : R2 := fun x y H Q => L2.rEq x y H Q ∨ L2.rEqD K x y H Q
theorem op_eq (hu : X.A.units + 64 < cLine) : OpR X (compareOp .Eq) (rEqq X.K) := L2.op_eq.or (L2.op_eqD hu)
def rNee (K : PySem.W.Frag) : R2 := fun x y H Q => L2.rNe x y H Q ∨ L2.rNeD K x y H Q
theorem op_ne (hu : X.A.units + 64 < cLine) : OpR X (compareOp .NotEq) (rNee X.K) := L2.op_ne.or (L2.op_neD hu)
theorem eqOk_cases {d e : D} (h : eqOk d e = true) : (∃ i j, d = .int i ∧ e = .int j) ∨ (∃ i j, d = .str i ∧ e = .str j) ∨ (∃ i j, d = .bool i ∧ e = .bool j) ∨ (d = .none ∧ e = .none) ∨ (SeqAt.shaped d = true ∧ SeqAt.shaped e = true) := by
  unfold eqOk at h
  split at h
  · exact .inl ⟨_, _, rfl, rfl⟩
  · exact .inr (.inl ⟨_, _, rfl, rfl⟩)
  · exact .inr (.inr (.inl ⟨_, _, rfl, rfl⟩))
  · exact .inr (.inr (.inr (.inl ⟨rfl, rfl⟩)))
  · rw [Bool.and_eq_true] at h
    exact .inr (.inr (.inr (.inr h)))
theorem ob_eq : OpB Y (rEqq Y.K) pyEq := by
  intro ρ FH H σ' σ g v u d e b Q R hd he eq k
  unfold pyEq at eq
  split at eq
  · rename_i h
    cases eq
    rcases eqOk_cases h with ⟨i, j, rfl, rfl⟩ | ⟨i, j, rfl, rfl⟩ | ⟨i, j, rfl, rfl⟩ | ⟨rfl, rfl⟩ | ⟨h1, h2⟩
    · rw [hd.int, he.int]
      exact .inl ⟨rfl, by rw [L2.dec_int]; exact k⟩
    · rw [hd.str, he.str]
      exact .inl ⟨rfl, by rw [L2.dec_str]; exact k⟩
    · rw [hd.bl, he.bl]
      exact .inl ⟨rfl, by rw [L2.dec_bl]; exact k⟩
    · rw [hd.non, he.non]
      exact .inl ⟨rfl, k⟩
    · exact .inr ⟨d, e, hd.dp R, he.dp R, h1, h2, k⟩
  · cases eq
theorem ob_ne : OpB Y (rNee Y.K) pyNe := by
  intro ρ FH H σ' σ g v u d e b Q R hd he eq k
  unfold pyNe at eq
  split at eq
  · rename_i h
    cases eq
    rcases eqOk_cases h with ⟨i, j, rfl, rfl⟩ | ⟨i, j, rfl, rfl⟩ | ⟨i, j, rfl, rfl⟩ | ⟨rfl, rfl⟩ | ⟨h1, h2⟩
    · rw [hd.int, he.int]
      exact .inl ⟨rfl, by rw [L2.dec_int]; exact k⟩
    · rw [hd.str, he.str]
      exact .inl ⟨rfl, by rw [L2.dec_str]; exact k⟩
    · rw [hd.bl, he.bl]
      exact .inl ⟨rfl, by rw [L2.dec_bl]; exact k⟩
    · rw [hd.non, he.non]
      exact .inl ⟨rfl, k⟩
    · exact .inr ⟨d, e, hd.dp R, he.dp R, h1, h2, k⟩
  · cases eq
def rLt : R2 := rI0 fun i j => .bl (decide (i < j))
def rLe : R2 := rI0 fun i j => .bl (decide (i ≤ j))
def rGt : R2 := rI0 fun i j => .bl (decide (j < i))
def rGe : R2 := rI0 fun i j => .bl (decide (j ≤ i))
theorem ob_lt : OpB Y rLt pyLt := by
  intro ρ FH H σ' σ g v u d e b Q R hd he eq k
  cases d with
  | int i =>
    cases e with
    | int j =>
      simp only [pyLt, Option.some.injEq] at eq
      subst eq
      exact ⟨i, j, hd.int, he.int, k⟩
    | _ => simp [pyLt] at eq
  | _ => cases e <;> simp [pyLt] at eq
theorem ob_le : OpB Y rLe pyLe := by
  intro ρ FH H σ' σ g v u d e b Q R hd he eq k
  cases d with
  | int i =>
    cases e with
    | int j =>
      simp only [pyLe, Option.some.injEq] at eq
      subst eq
      exact ⟨i, j, hd.int, he.int, k⟩
    | _ => simp [pyLe] at eq
  | _ => cases e <;> simp [pyLe] at eq
theorem ob_gt : OpB Y rGt pyGt := by
  intro ρ FH H σ' σ g v u d e b Q R hd he eq k
  cases d with
  | int i =>
    cases e with
    | int j =>
      simp only [pyGt, Option.some.injEq] at eq
      subst eq
      exact ⟨i, j, hd.int, he.int, k⟩
    | _ => simp [pyGt] at eq
  | _ => cases e <;> simp [pyGt] at eq
theorem ob_ge : OpB Y rGe pyGe := by
  intro ρ FH H σ' σ g v u d e b Q R hd he eq k
  cases d with
  | int i =>
    cases e with
    | int j =>
      simp only [pyGe, Option.some.injEq] at eq
      subst eq
      exact ⟨i, j, hd.int, he.int, k⟩
    | _ => simp [pyGe] at eq
  | _ => cases e <;> simp [pyGe] at eq
def rIs : R2 := fun x y H Q => y = .non ∧ Q (.bl (decide (x = .non))) H
def rIsNot : R2 := fun x y H Q => y = .non ∧ Q (.bl (!decide (x = .non))) H
theorem non_iff {ρ : Rho} {FH H : Hp} {σ' : St} {σ : Sl} {g : G} {v : V} {d : D} (R : Rep Y ρ FH H σ' σ g) (h : RelP Y ρ FH H σ' σ v d) : decide (v = .non) = (match d with | .none => true | _ => false) := by
  have h := h.dq R
  cases h <;> rfl
theorem op_is : OpR X (compareOp .Is) rIs := L2.op_isN
theorem op_isnot : OpR X (compareOp .IsNot) rIsNot := L2.op_notN
theorem ob_is : OpB Y rIs pyIs := by
  intro ρ FH H σ' σ g v u d e b Q R hd he eq k
  cases e with
  | none =>
    refine ⟨he.non, ?_⟩
    rw [non_iff R hd]
    cases d <;> (simp only [pyIs, Option.some.injEq] at eq; subst eq; exact k)
  | _ => cases d <;> simp [pyIs] at eq
theorem ob_isnot : OpB Y rIsNot pyIsNot := by
  intro ρ FH H σ' σ g v u d e b Q R hd he eq k
  cases e with
  | none =>
    refine ⟨he.non, ?_⟩
    rw [non_iff R hd]
    cases d <;> (simp only [pyIsNot, Option.some.injEq] at eq; subst eq; exact k)
  | _ => cases d <;> simp [pyIsNot] at eq
def rInU (K : PySem.W.Frag) : R2 := fun x y H Q => ∃ d ds, L2.Dp K H x d ∧ L2.Dp K H y (.tuple ds) ∧ SeqAt.shaped d = true ∧ SeqAt.shaped (.tuple ds) = true ∧ Q (.bl (ds.any fun z => PyData.eqv z d)) H
def rNotInU (K : PySem.W.Frag) : R2 := fun x y H Q => ∃ d ds, L2.Dp K H x d ∧ L2.Dp K H y (.tuple ds) ∧ SeqAt.shaped d = true ∧ SeqAt.shaped (.tuple ds) = true ∧ Q (.bl (!ds.any fun z => PyData.eqv z d)) H
theorem room_in {ds : List D} {d : D} {n : Nat} (h : SeqAt.shaped d = true) (hu : n + 65 < cLine) : n + 1 + min (PyData.depthAll ds) d.depth < cLine := by
  have := SeqAt.depth_of_shaped h
  have := Nat.min_le_right (PyData.depthAll ds) d.depth
  omega
theorem op_inU (hu : X.A.units + 65 < cLine) : OpR X (compareOp .In) (rInU X.K) := by
  intro pins s σ H x y v u Q I rx ry h
  obtain ⟨d, ds, hd, he, sd, se, q⟩ := h
  obtain ⟨as, r1⟩ := L2.Dp.reads I d x v hd rx
  obtain ⟨bs, r2⟩ := L2.Dp.reads I (.tuple ds) y u he ry
  exact SeqAt.in_tuple_reads r2 r1 (SeqAt.canLay_of_shaped se) (SeqAt.canLay_of_shaped sd) (room_in sd hu) ⟨.bl _, H, I, rfl, q⟩
theorem op_notInU (hu : X.A.units + 65 < cLine) : OpR X (compareOp .NotIn) (rNotInU X.K) := by
  intro pins s σ H x y v u Q I rx ry h
  obtain ⟨d, ds, hd, he, sd, se, q⟩ := h
  obtain ⟨as, r1⟩ := L2.Dp.reads I d x v hd rx
  obtain ⟨bs, r2⟩ := L2.Dp.reads I (.tuple ds) y u he ry
  exact SeqAt.notIn_tuple_reads r2 r1 (SeqAt.canLay_of_shaped se) (SeqAt.canLay_of_shaped sd) (room_in sd hu) ⟨.bl _, H, I, rfl, q⟩
def rInn (K : PySem.W.Frag) : R2 := fun x y H Q => L2.rInD K x y H Q ∨ rInU K x y H Q ∨ (∃ i j, x = .str i ∧ y = .str j ∧ Q (.bl (!(Builtin.Str.occurrences j i 0 j.length 1).isEmpty)) H)
def rNotInn (K : PySem.W.Frag) : R2 := fun x y H Q => L2.rNotInD K x y H Q ∨ rNotInU K x y H Q ∨ (∃ i j, x = .str i ∧ y = .str j ∧ Q (.bl (!(!(Builtin.Str.occurrences j i 0 j.length 1).isEmpty))) H)
theorem op_in (hu : X.A.units + 65 < cLine) : OpR X (compareOp .In) (rInn X.K) := (L2.op_inD hu).or ((op_inU hu).or L2.op_in_str)
theorem op_notin (hu : X.A.units + 65 < cLine) : OpR X (compareOp .NotIn) (rNotInn X.K) := (L2.op_notInD hu).or ((op_notInU hu).or L2.op_notin_str)
theorem pyIn_cases {d e : D} {b : Bool} (h : pyIn d e = some b) : (∃ ds, e = .list ds ∧ SeqAt.shaped d = true ∧ SeqAt.shaped (.list ds) = true ∧ b = ds.any fun z => PyData.eqv z d) ∨
    (∃ ds, e = .tuple ds ∧ SeqAt.shaped d = true ∧ SeqAt.shaped (.tuple ds) = true ∧ b = ds.any fun z => PyData.eqv z d) ∨ ∃ i j, d = .str i ∧ e = .str j ∧ b = !(Builtin.Str.occurrences j i 0 j.length 1).isEmpty := by
  unfold pyIn at h
  split at h
  · split at h
    · rename_i q
      rw [Bool.and_eq_true] at q
      cases h
      exact .inl ⟨_, rfl, q.1, q.2, rfl⟩
    · cases h
  · split at h
    · rename_i q
      rw [Bool.and_eq_true] at q
      cases h
      exact .inr (.inl ⟨_, rfl, q.1, q.2, rfl⟩)
    · cases h
  · cases h
    exact .inr (.inr ⟨_, _, rfl, rfl, rfl⟩)
  · cases h
theorem ob_in : OpB Y (rInn Y.K) pyIn := by
  intro ρ FH H σ' σ g v u d e b Q R hd he eq k
  rcases pyIn_cases eq with ⟨ds, rfl, h1, h2, rfl⟩ | ⟨ds, rfl, h1, h2, rfl⟩ | ⟨i, j, rfl, rfl, rfl⟩
  · exact .inl ⟨d, ds, hd.dp R, he.dp R, h1, h2, k⟩
  · exact .inr (.inl ⟨d, ds, hd.dp R, he.dp R, h1, h2, k⟩)
  · exact .inr (.inr ⟨i, j, hd.str, he.str, k⟩)
theorem ob_notin : OpB Y (rNotInn Y.K) pyNotIn := by
  intro ρ FH H σ' σ g v u d e b Q R hd he eq k
  unfold pyNotIn at eq
  rw [Option.map_eq_some_iff] at eq
  obtain ⟨c, eq, rfl⟩ := eq
  rcases pyIn_cases eq with ⟨ds, rfl, h1, h2, rfl⟩ | ⟨ds, rfl, h1, h2, rfl⟩ | ⟨i, j, rfl, rfl, rfl⟩
  · exact .inl ⟨d, ds, hd.dp R, he.dp R, h1, h2, k⟩
  · exact .inr (.inl ⟨d, ds, hd.dp R, he.dp R, h1, h2, k⟩)
  · exact .inr (.inr ⟨i, j, hd.str, he.str, k⟩)
/-! ### items, slices -/
theorem ixN_eq (n : Nat) (i : Int) : ixN n i = L2.ixN n i := rfl
theorem atI_dq {K : PySem.W.Frag} {H : Hp} {vs : List V} {ds : List D} {i : Int} {d : D} (a : DqAll K H vs ds) (h : atI ds i = some d) : ∃ v, L2.atI vs i = some v ∧ Dq K H v d := by
  unfold atI at h
  unfold L2.atI
  rw [a.len]
  rw [← ixN_eq]
  cases e : ixN ds.length i with
  | none =>
    rw [e] at h
    cases h
  | some j =>
    rw [e] at h
    exact a.get h
theorem o2_ix : Op2 Y (L2.rIx Y.K) pyIx := by
  intro ρ FH H σ' σ g v u d e sv Q R hd he eq k
  cases d with
  | list ds =>
    cases e with
    | int i =>
      simp only [pyIx, Option.map_eq_some_iff] at eq
      obtain ⟨c, h1, rfl⟩ := eq
      obtain ⟨p, vs, rfl, h2, h3⟩ := hd.list R
      obtain ⟨w, h4, h5⟩ := atI_dq h3 h1
      exact .inl ⟨p, vs, i, w, rfl, he.int, .inl h2, h4, k _ FH H (res0 h5)⟩
    | _ => simp [pyIx] at eq
  | tuple ds =>
    cases e with
    | int i =>
      simp only [pyIx, Option.map_eq_some_iff] at eq
      obtain ⟨c, h1, rfl⟩ := eq
      obtain ⟨p, vs, rfl, h2, h3⟩ := hd.tup
      obtain ⟨w, h4, h5⟩ := atI_dq h3 h1
      exact .inr (.inl ⟨p, vs, i, w, rfl, he.int, R.sub.sqt h2, h4, k _ FH H (res0 h5)⟩)
    | _ => simp [pyIx] at eq
  | str x =>
    cases e with
    | int i =>
      simp only [pyIx] at eq
      split at eq
      · rename_i hl
        rw [Option.map_eq_some_iff] at eq
        obtain ⟨c, h1, rfl⟩ := eq
        exact .inr (.inr ⟨x, i, c, hd.str, he.int, by rw [sl16]; exact hl, h1, k _ FH H (res0 (.str _))⟩)
      · cases eq
    | _ => simp [pyIx] at eq
  | _ => cases e <;> simp [pyIx] at eq
def rSl (K : PySem.W.Frag) : V → Option Int → Option Int → Hp → VK → Prop := fun x lo hi H Q => L2.rSlL K x lo hi H Q ∨ L2.rSlA K x lo hi H Q ∨ L2.rSlS x lo hi H Q
theorem sl_any : SlR X (rSl X.K) := L2.sl_list.or (L2.sl_tupA.or L2.sl_str)
theorem cut_dq {K : PySem.W.Frag} {H : Hp} {vs : List V} {ds : List D} (a : DqAll K H vs ds) (lo hi : Option Int) : DqAll K H (L2.cutV vs lo hi) (cut ds lo hi) := by
  unfold L2.cutV cut
  rw [← a.len]
  exact (a.drop _).take _
theorem cut_whole {α : Type} {xs : List α} {lo hi : Option Int} (h : HT.sIx xs.length 0 lo = 0 ∧ HT.sIx xs.length xs.length hi = xs.length) : cut xs lo hi = xs := by
  have h1 : sIx xs.length 0 lo = 0 := h.1
  have h2 : sIx xs.length xs.length hi = xs.length := h.2
  unfold cut
  rw [h1, h2, List.drop_zero, Nat.sub_zero, List.take_length]
theorem os_sl : OpS Y (rSl Y.K) := by
  intro ρ FH H σ' σ g v lo hi d sv Q R hd eq k
  cases d with
  | list ds =>
    simp only [pySlice, Option.some.injEq] at eq
    subst eq
    obtain ⟨p, vs, rfl, h2, h3⟩ := hd.list R
    exact .inl ⟨p, vs, rfl, .inl h2, fun q hn => k _ _ _ (resLst hn (cut_dq h3 lo hi))⟩
  | tuple ds =>
    simp only [pySlice, Option.some.injEq] at eq
    subst eq
    obtain ⟨p, vs, rfl, h2, h3⟩ := hd.tup
    refine .inr (.inl ⟨p, vs, rfl, R.sub.sqt h2, fun e => ?_, fun e q hn => k _ _ _ (resTup hn R.sub (cut_dq h3 lo hi))⟩)
    rw [h3.len] at e
    rw [cut_whole e] at k
    exact k _ FH H (res0 (.tup h2 h3))
  | str x =>
    simp only [pySlice] at eq
    split at eq
    · rename_i hl
      cases eq
      refine .inr (.inr ⟨x, hd.str, by rw [sl16]; exact hl, ?_⟩)
      have e : L2.cutS x lo hi = ⟨(cut x.cps.toList lo hi).toArray⟩ := by
        show (⟨((x.cps.toList.drop (HT.sIx x.length 0 lo)).take (HT.sIx x.length x.length hi - HT.sIx x.length 0 lo)).toArray⟩ : Str) = _
        unfold cut
        rw [Array.length_toList]
        rfl
      rw [e]
      exact k _ FH H (res0 (.str _))
    · cases eq
  | _ => simp [pySlice] at eq
/-! ### built-in functions of one argument -/
def r1 (r : List V → Hp → VK → Prop) : V → Hp → VK → Prop := fun x H Q => r [x] H Q
def r2 (r : List V → Hp → VK → Prop) : R2 := fun x y H Q => r [x, y] H Q
def rLen (K : PySem.W.Frag) : List V → Hp → VK → Prop := fun xs H Q => ∃ x n, xs = [x] ∧ L2.LenV K x H n ∧ Q (.int n) H
theorem o1_len : Op1 Y (r1 (rLen Y.K)) pyLen := by
  intro ρ FH H σ' σ g v d sv Q R hd eq k
  cases d with
  | list ds =>
    simp only [pyLen, sInt, Option.some.injEq] at eq
    subst eq
    obtain ⟨p, vs, rfl, h2, h3⟩ := hd.list R
    exact ⟨_, vs.length, rfl, .inl ⟨vs, .inl h2, rfl⟩, by rw [h3.len]; exact k _ FH H (resInt _)⟩
  | tuple ds =>
    simp only [pyLen, sInt, Option.some.injEq] at eq
    subst eq
    obtain ⟨p, vs, rfl, h2, h3⟩ := hd.tup
    exact ⟨_, vs.length, rfl, .inr ⟨vs, R.sub.sqt h2, rfl⟩, by rw [h3.len]; exact k _ FH H (resInt _)⟩
  | str x =>
    simp only [pyLen] at eq
    split at eq
    · rename_i hl
      simp only [sInt, Option.some.injEq] at eq
      subst eq
      rw [hd.str]
      exact ⟨_, x.length, rfl, ⟨by rw [sl16]; exact hl, rfl⟩, k _ FH H (resInt _)⟩
    · cases eq
  | _ => simp [pyLen] at eq
def rAbs : List V → Hp → VK → Prop := fun xs H Q => ∃ i, xs = [.int i] ∧ Q (.int (if i < 0 then -i else i)) H
theorem o1_abs : Op1 Y (r1 rAbs) pyAbs := by
  intro ρ FH H σ' σ g v d sv Q R hd eq k
  cases d with
  | int i =>
    simp only [pyAbs, sInt, Option.some.injEq] at eq
    subst eq
    rw [hd.int]
    exact ⟨i, rfl, k _ FH H (resInt _)⟩
  | _ => simp [pyAbs] at eq
def rInt1 : List V → Hp → VK → Prop := fun xs H Q => (∃ i, xs = [.int i] ∧ Q (.int i) H) ∨ ∃ k, xs = [.bl k] ∧ Q (.int (if k then 1 else 0)) H
theorem o1_int : Op1 Y (r1 rInt1) pyInt := by
  intro ρ FH H σ' σ g v d sv Q R hd eq k
  cases d with
  | int i =>
    simp only [pyInt, sInt, Option.some.injEq] at eq
    subst eq
    rw [hd.int]
    exact .inl ⟨i, rfl, k _ FH H (resInt _)⟩
  | bool b =>
    simp only [pyInt, sInt, Option.some.injEq] at eq
    subst eq
    rw [hd.bl]
    exact .inr ⟨b, rfl, k _ FH H (resInt _)⟩
  | _ => simp [pyInt] at eq
def rStr1 : List V → Hp → VK → Prop := fun xs H Q => ∃ i, xs = [.int i] ∧ i.natAbs.log2 < 1920 ∧ Q (.str (toString i)) H
theorem o1_str : Op1 Y (r1 rStr1) pyStr := by
  intro ρ FH H σ' σ g v d sv Q R hd eq k
  cases d with
  | int i =>
    simp only [pyStr] at eq
    split at eq
    · rename_i hl
      cases eq
      rw [hd.int]
      exact ⟨i, rfl, hl, k _ FH H (res0 (.str _))⟩
    · cases eq
  | _ => simp [pyStr] at eq
theorem o1_sum : Op1 Y (r1 (L2.rSum Y.K)) pySum := by
  intro ρ FH H σ' σ g v d sv Q R hd eq k
  cases d with
  | list ds =>
    simp only [pySum, Option.map_eq_some_iff] at eq
    obtain ⟨ns, h1, rfl⟩ := eq
    obtain ⟨p, vs, rfl, h2, h3⟩ := hd.list R
    refine ⟨p, ns, rfl, .inl ?_, k _ FH H (resInt _)⟩
    rw [← h3.ints h1]
    exact h2
  | _ => simp [pySum] at eq
def rTup1 (K : PySem.W.Frag) : List V → Hp → VK → Prop := fun xs H Q => ∃ p ys, xs = [.ref p] ∧ ((SqL K H p ys ∧ ∀ l, H l = none → Q (.ref l) (upd H l (.tup ys))) ∨ (SqT K H p ys ∧ Q (.ref p) H))
theorem o1_tuple : Op1 Y (r1 (rTup1 Y.K)) pyTuple := by
  intro ρ FH H σ' σ g v d sv Q R hd eq k
  cases d with
  | list ds =>
    simp only [pyTuple, Option.some.injEq] at eq
    subst eq
    obtain ⟨p, vs, rfl, h2, h3⟩ := hd.list R
    exact ⟨p, vs, rfl, .inl ⟨.inl h2, fun l hn => k _ _ _ (resTup hn R.sub h3)⟩⟩
  | tuple ds =>
    simp only [pyTuple, Option.some.injEq] at eq
    subst eq
    obtain ⟨p, vs, rfl, h2, h3⟩ := hd.tup
    exact ⟨p, vs, rfl, .inr ⟨R.sub.sqt h2, k _ FH H (res0 (.tup h2 h3))⟩⟩
  | _ => simp [pyTuple] at eq
def rList1 (K : PySem.W.Frag) : List V → Hp → VK → Prop := fun xs H Q => ∃ p ys, xs = [.ref p] ∧ (SqL K H p ys ∨ SqT K H p ys) ∧ ∀ l, H l = none → Q (.ref l) (upd H l (.lst ys))
theorem o1_list : Op1 Y (r1 (rList1 Y.K)) pyList := by
  intro ρ FH H σ' σ g v d sv Q R hd eq k
  cases d with
  | list ds =>
    simp only [pyList, Option.some.injEq] at eq
    subst eq
    obtain ⟨p, vs, rfl, h2, h3⟩ := hd.list R
    exact ⟨p, vs, rfl, .inl (.inl h2), fun l hn => k _ _ _ (resLst hn h3)⟩
  | tuple ds =>
    simp only [pyList, Option.some.injEq] at eq
    subst eq
    obtain ⟨p, vs, rfl, h2, h3⟩ := hd.tup
    exact ⟨p, vs, rfl, .inr (R.sub.sqt h2), fun l hn => k _ _ _ (resLst hn h3)⟩
  | _ => simp [pyList] at eq
def rMin2 : List V → Hp → VK → Prop := fun xs H Q => ∃ i j, xs = [.int i, .int j] ∧ Q (.int (if j < i then j else i)) H
theorem o2_min : Op2 Y (r2 rMin2) pyMin2 := by
  intro ρ FH H σ' σ g v u d e sv Q R hd he eq k
  cases d with
  | int i =>
    cases e with
    | int j =>
      simp only [pyMin2, sInt, Option.some.injEq] at eq
      subst eq
      rw [hd.int, he.int]
      exact ⟨i, j, rfl, k _ FH H (resInt _)⟩
    | _ => simp [pyMin2] at eq
  | _ => cases e <;> simp [pyMin2] at eq
def rMax2 : List V → Hp → VK → Prop := fun xs H Q => ∃ i j, xs = [.int i, .int j] ∧ Q (.int (if j > i then j else i)) H
theorem o2_max : Op2 Y (r2 rMax2) pyMax2 := by
  intro ρ FH H σ' σ g v u d e sv Q R hd he eq k
  cases d with
  | int i =>
    cases e with
    | int j =>
      simp only [pyMax2, sInt, Option.some.injEq] at eq
      subst eq
      rw [hd.int, he.int]
      exact ⟨i, j, rfl, k _ FH H (resInt _)⟩
    | _ => simp [pyMax2] at eq
  | _ => cases e <;> simp [pyMax2] at eq
end
end
end FD
/-! FD6: what is walked; isinstance; index. -/
namespace FD
noncomputable section
open PySem PySem.W PySem.Spec PyProof.Rows
open L2 (Hp HO V upd upd_same upd_ne ne_of_none Rd SqL SqT Vals RelV VK TE TT TA TS TG TGs XK Cx PE PT PW PA PS PSs PG PGs PI PIE Inv OpR UnR CallR R2 rI0 rI tOp tUn tVar tC tCB tCons tNil SlR IxR MtR It Turn ObjOk TI EP Gl)

/-! ### enumerate over a tuple -/
theorem meets_enumerate_newU (l : Addr) (items : Array Value) (n : Nat) (dct : Option Addr) (sl : Array (Option Value)) :
    Meets (Builtin.«enumerate.__new__» ⟨[.type "enumerate", .ref l], []⟩) (fun _ R s => s.heap.get? l = some { cls := .type "tuple", dict := dct, data := .seq items n, slots := sl } ∧
      R (.ok (.ret (.ref (s.heap.push { cls := .type "tuple_iterator", data := .fields #[.ref l, .int 0 0] }).objs.size)))
        { s with heap := (s.heap.push { cls := .type "tuple_iterator", data := .fields #[.ref l, .int 0 0] }).push { cls := .type "enumerate", data := .fields #[.none, .bool false, .ref s.heap.objs.size, rawInt 0, .none, .none] } }) :=
  .of_wp fun prog w A R s h => by
    obtain ⟨hp, g, d, tk, os⟩ := s; obtain ⟨hl, h⟩ := h
    have hsub := sub_enumerate
    have hL : Heap.IsTuple (Shared.heap ⟨hp, g, d, tk, os⟩) l items := ⟨_, hl, rfl, n, rfl⟩
    wp_walk using wpAny_loadPart' hl
    refine wpAny_stack_any fun st => wpAny_pure ?_
    split
    · rename_i c _ _ _ _ _
      cases (c == Value.type "enumerate")
      · wp_walk using wpAny_loadPart' hl, wpAny_pyIter_tuple hL
        exact ⟨_, rfl, h⟩
      · wp_walk using wpAny_loadPart' hl, wpAny_pyIter_tuple hL
        exact ⟨_, rfl, h⟩
    · wp_walk using wpAny_loadPart' hl, wpAny_pyIter_tuple hL
      exact ⟨_, rfl, h⟩
theorem call_enumerate_tuple {prog : Program} {w : World} {A : Around} {E : Value → Shared → Prop} {s : Shared} {l : Addr} {items : Array Value} {Q : Value → Shared → Prop} (hL : s.heap.IsTuple l items)
    (h : ∀ h', IsEnum h' (s.heap.objs.size + 1) s.heap.objs.size 0 .none → h'.IsTupleIter s.heap.objs.size l 0 → h'.objs.size = s.heap.objs.size + 2 →
      (∀ b o, s.heap.get? b = some o → h'.get? b = some o) → Q (.ref (s.heap.objs.size + 1)) { s with heap := h' }) :
    wpAny (model prog w) A (call (.type "enumerate") [.ref l]) Q E s := by
  obtain ⟨⟨c, dct, dt, sl⟩, hl, hc, n, hd⟩ := hL
  replace hc : c = .type "tuple" := hc
  replace hd : dt = .seq items n := hd
  subst hc hd
  refine callType_new F.called_enumerate (by decide) (F.typeCall_enumerate_1 _) (F.newCall_enumerate_1 _) (fun obj => F.args_object_init_2 obj _) F.entry_enumerate_new
    (meets_enumerate_newU l items n dct sl) ⟨hl, ?_⟩
  have hz : (s.heap.push { cls := .type "tuple_iterator", data := .fields #[.ref l, .int 0 0] }).objs.size = s.heap.objs.size + 1 := Heap.size_push ..
  show _ ∧ _
  rw [hz]
  have he : IsEnum ((s.heap.push { cls := .type "tuple_iterator", data := .fields #[.ref l, .int 0 0] }).push
      { cls := .type "enumerate", data := .fields #[.none, .bool false, .ref s.heap.objs.size, rawInt 0, .none, .none] }) (s.heap.objs.size + 1) s.heap.objs.size 0 .none := by
    have := Heap.get?_push_size (s.heap.push { cls := .type "tuple_iterator", data := .fields #[.ref l, .int 0 0] })
      (o := { cls := .type "enumerate", data := .fields #[.none, .bool false, .ref s.heap.objs.size, rawInt 0, .none, .none] }) rfl
    rw [hz] at this; exact this
  refine ⟨⟨_, he, rfl⟩, h _ he ⟨_, Heap.get?_push_of_some _ (Heap.get?_push_size _ rfl), rfl, rfl⟩ (by rw [Heap.size_push, hz]) fun b o x => Heap.get?_push_of_some _ (Heap.get?_push_of_some _ x)⟩
def IteU (K : PySem.W.Frag) (a : Addr) : It :=
  ⟨fun i H => ∃ (xs : List V) (x : V), SqT K H a xs ∧ xs[i]? = some x, fun i H v H' => ∃ T x, v = .ref T ∧ H T = none ∧ H' = upd H T (.tup [.int (i : Nat), x]) ∧ ∀ xs, SqT K H a xs → xs[i]? = some x, fun i H => ∃ xs : List V, SqT K H a xs ∧ xs.length ≤ i⟩
theorem turn_enumU {P : Program} {w : World} {K : PySem.W.Frag} {elts : List Expr} {kk : Nat} {tpos : Pos} (a e it : Addr) :
    Turn P w K (.Tuple elts kk tpos) (IteU K a) [e, it] e (fun i h => (∃ old, IsEnum h e it ((i : Nat) : Int) old) ∧ h.IsTupleIter it a i ∧ e ≠ it ∧ a ≠ it ∧ a ≠ e) where
  mem := by simp
  obj := fun i h st b hb => by
    obtain ⟨⟨old, he⟩, ⟨o, ho, hc, hd⟩, _⟩ := st
    have e' : b = e ∨ b = it := by simpa using hb
    rcases e' with z | z
    · rw [z]; exact ⟨_, he, fun v q => nomatch q⟩
    · rw [z]; exact ⟨o, ho, fun v q => by rw [hd] at q; cases q⟩
  keep := fun i h h' st k => let ⟨⟨old, he⟩, hi, hne⟩ := st; ⟨⟨old, k e (by simp) _ he⟩, hi.at fun o q => k it (by simp) o q, hne⟩
  item := by
    intro X hP hw hK hc i pins s σ H E I hf st hg
    subst hP hw hK
    obtain ⟨⟨old, he⟩, hit, hne, hai, hae⟩ := st
    obtain ⟨xs, x, hq, hx⟩ := hg
    obtain ⟨its, rv, p, hz⟩ := I.tuple hq
    have hel : e < s.heap.objs.size := Heap.lt_size he
    have hil : it < s.heap.objs.size := by obtain ⟨_, q, _⟩ := hit; exact Heap.lt_size q
    have hix : i < its.toArray.size := by
      obtain ⟨u, hu, _⟩ := rv.get hx
      have := (List.getElem?_eq_some_iff.mp hu).1
      simpa using this
    have hd : X.A.in1.handled = none := I.ok.hd hc
    refine wpAny_pyNext_enum_itemD (Draws.tuple hd it a hai its.toArray) he ⟨hit, p⟩ hix hne (by simp; exact ⟨hne, hae.symm⟩) fun u h' tk hu ho hit' hT hsz hk => ?_
    have hu' : its[i]? = some u := by simpa using hu
    have ru : RelV x u := by
      obtain ⟨u2, h1, h2⟩ := rv.get hx
      rw [hu'] at h1
      cases h1
      exact h2
    refine ⟨_, rfl, wpAny_letOwnedTupleGo_enum (s := { s with heap := h', toks := tk + 1 }) ho fun h'' he' sb => ?_⟩
    have hT2 : h''.get? s.heap.objs.size = some { cls := .type "tuple", data := .seq #[.int i tk, u] } := (sb.2 _ (Nat.ne_of_gt hel)).trans hT
    have new : ObjOk X.prog X.w (upd H s.heap.objs.size (.tup [.int (i : Nat), x])) h'' s.heap.objs.size (.tup [.int (i : Nat), x]) :=
      ⟨by show 2 ≤ sizeLine; decide, [.int i tk, u], .cons ⟨_, rfl⟩ (.cons ru .nil), ⟨_, hT2, rfl, _, rfl⟩⟩
    have I1 : Inv X pins σ (upd H s.heap.objs.size (.tup [.int (i : Nat), x])) { s with heap := h'', toks := tk + 1 } :=
      I.turnedNew (ch := [e, it]) (fun b ob hb q => (sb.2 b (fun z => hb (by simp [z]))).trans (hk b ob (fun z => hb (by simp [z])) (fun z => hb (by simp [z])) q)) hf (Nat.le_refl _) new
    refine ⟨.ref s.heap.objs.size, _, I1, rfl, ⟨_, x, rfl, I.hok.fresh (Nat.le_refl _), rfl, fun ys hy => by rw [I.tuple_inj hy hq]; exact hx⟩, ⟨⟨u, ?_⟩, hit'.1.at fun o q => (sb.2 it (Ne.symm hne)).trans q, hne, hai, hae⟩, fun b hb => ?_⟩
    · have e1 : ((i + 1 : Nat) : Int) = (i : Int) + 1 := by omega
      rw [e1]; exact he'
    · have hb' : b < s.heap.objs.size := by
        have e' : b = e ∨ b = it := by simpa using hb
        rcases e' with z | z
        · rw [z]; exact hel
        · rw [z]; exact hil
      rw [upd_ne (Nat.ne_of_lt hb')]
      exact (hf b hb).1
  done := by
    intro X hP hw hK hc i pins s σ H E I hf st hg
    subst hP hw hK
    obtain ⟨⟨old, he⟩, hit, hne, hai, hae⟩ := st
    obtain ⟨xs, hq, hx⟩ := hg
    obtain ⟨its, rv, p, hz⟩ := I.tuple hq
    obtain ⟨f0, f1, f2, f3, f4, f5⟩ := hf it (by simp)
    have hl := rv.length
    have hT : s.TypeIs (.ref e) "enumerate" := ⟨_, he, rfl⟩
    have hd : X.A.in1.handled = none := I.ok.hd hc
    unfold pyNext
    refine wpAny_bind (wpAny_attempt (wpAny_callSpecial?_slot (name := Str.ofString "__next__") hT F.slot_enumerate_next
      (wpAny_call_entry F.slot_enumerate_next hT F.entry_enumerate_next ?_ (F.args_enumerate_next_1 _))))
    show wpAny _ _ (field (.ref e) 2 >>= _) _ _ _
    refine wpAny_bind (wpAny_field he rfl (x := .ref it) rfl ?_)
    refine wpAny_bind (wpAny_nextOf_tuple_end hd hit p (by simp; omega) fun h' x he' hx' => ?_)
    obtain ⟨o, ho, hc⟩ := hx'
    refine wpAny_bind (wpAny_isInstance (T := "StopIteration") (b := true) ⟨o, ho, hc⟩ isSubtype_stop ?_)
    exact wpAny_pure ⟨rfl, I.turned (t' := s.toks) (fun b o hb q => he' b o hb q) f0 f1 f3 f4 f5⟩
  self := fun A i s Q E st h => let ⟨⟨_, he⟩, _⟩ := st; wpAny_pyIter_enum he h
def iEnumA (K : PySem.W.Frag) (ta : TA) : TI := fun σ H R => ta σ H fun vs H1 => ∃ a xs, vs = [.ref a] ∧ ((SqL K H1 a xs ∧ R (L2.Ite K a) H1) ∨ (SqT K H1 a xs ∧ R (IteU K a) H1))
theorem pi_enumA {X : Cx} {e : Expr} {ta : TA} {p pos tpos : Pos} {elts : List Expr} {kk : Nat} (hg : Gl X "enumerate") (hm : X.mg "enumerate" = none) (ha : L2.PA X [e] ta) (hs : starEach [e] X.env = [(false, eval e X.env)]) :
    PI X (.Tuple elts kk tpos) (.Call (.Name "enumerate" p) [e] [] pos) (iEnumA X.K ta) := by
  refine ⟨fun pins s σ H R I h => ?_⟩
  refine Call_ (L2.ld_blt I hg hm boot_enumerate (PyProof.Rows.callWith_type1 (L2.thn (ha.run pos pins s σ H _ I h) fun us s1 ⟨vs, H1, I1, r1, q1⟩ => ?_) hs rfl))
  obtain ⟨a, xs, ex, q⟩ := q1
  subst ex
  cases r1 with
  | cons r rr =>
    cases rr
    cases r
    have two : ∀ b ∈ [s1.heap.objs.size + 1, s1.heap.objs.size], s1.heap.objs.size ≤ b := fun b hb => by
      have e' : b = s1.heap.objs.size + 1 ∨ b = s1.heap.objs.size := by simpa using hb
      rcases e' with z | z
      · rw [z]; exact Nat.le_add_right _ _
      · rw [z]; exact Nat.le_refl _
    rcases q with ⟨hq, q⟩ | ⟨hq, q⟩
    · obtain ⟨its, rv, p', hz⟩ := I1.list hq
      refine call_enumerate_list p'.isList fun h' he hit hsz hk => wpAny_pyIter_enum he ?_
      have I2 : Inv X pins σ H1 { s1 with heap := h' } := I1.kept (t' := s1.toks) hk
      exact ⟨s1.heap.objs.size + 1, [s1.heap.objs.size + 1, s1.heap.objs.size], _, _, H1, rfl, I2, L2.turn_enum a (s1.heap.objs.size + 1) s1.heap.objs.size, ⟨⟨.none, he⟩, hit, Nat.succ_ne_self _⟩, fun b hb => I1.fpOk (two b hb) (I1.hok.fresh (two b hb)), q⟩
    · obtain ⟨its, rv, p', hz⟩ := I1.tuple hq
      have hlt : a < s1.heap.objs.size := p'.lt
      refine call_enumerate_tuple p' fun h' he hit hsz hk => wpAny_pyIter_enum he ?_
      have I2 : Inv X pins σ H1 { s1 with heap := h' } := I1.kept (t' := s1.toks) hk
      exact ⟨s1.heap.objs.size + 1, [s1.heap.objs.size + 1, s1.heap.objs.size], _, _, H1, rfl, I2, turn_enumU a (s1.heap.objs.size + 1) s1.heap.objs.size, ⟨⟨.none, he⟩, hit, Nat.succ_ne_self _, Nat.ne_of_lt hlt, Nat.ne_of_lt (Nat.lt_succ_of_lt hlt)⟩, fun b hb => I1.fpOk (two b hb) (I1.hok.fresh (two b hb)), q⟩
/-! ### a value that is walked itself -/
def iAny (K : PySem.W.Frag) (tl : TE) : TI := fun σ H R => tl σ H fun x H1 => (∃ a, x = .ref a ∧ (∃ xs, SqL K H1 a xs) ∧ R (L2.Itl K a) H1) ∨ (∃ a, x = .ref a ∧ (∃ xs, SqT K H1 a xs) ∧ R (L2.Itt K a) H1) ∨ ∃ z, x = .str z ∧ R (L2.Its z) H1
theorem pi_any {X : Cx} {tg l : Expr} {tl : TE} (hl : PE X l tl) : PI X tg l (iAny X.K tl) := by
  refine ⟨fun pins s σ H R I h => ?_⟩
  -- the value first, then by its kind
  have key : ∀ (v : Value) (s1 : Shared) (x : V) (H1 : Hp), Inv X pins σ H1 s1 → RelV x v → ((∃ a, x = .ref a ∧ (∃ xs, SqL X.K H1 a xs) ∧ R (L2.Itl X.K a) H1) ∨ (∃ a, x = .ref a ∧ (∃ xs, SqT X.K H1 a xs) ∧ R (L2.Itt X.K a) H1) ∨ ∃ z, x = .str z ∧ R (L2.Its z) H1) →
      wpAny (model X.prog X.w) X.A (pyIter v) (PIE X pins σ tg R) X.xe s1 := by
    intro v s1 x H1 I1 r1 q1
    rcases q1 with ⟨a, e, ⟨xs, hq⟩, q⟩ | ⟨a, e, ⟨xs, hq⟩, q⟩ | ⟨z, e, q⟩
    · subst e
      cases r1
      obtain ⟨its, rv, p, hz⟩ := I1.list hq
      refine wpAny_pyIter_list p.isList ?_
      refine ⟨s1.heap.objs.size, [s1.heap.objs.size], _, _, H1, rfl, I1.kept (t' := s1.toks) fun b o e => Heap.get?_push_of_some _ e, L2.turn_list a _, ⟨_, Heap.get?_push_size _ rfl, rfl, rfl⟩, fun b hb => ?_, q⟩
      have e : b = s1.heap.objs.size := by simpa using hb
      subst e
      exact I1.fpOk (Nat.le_refl _) (I1.hok.fresh (Nat.le_refl _))
    · subst e
      cases r1
      obtain ⟨its, rv, p, hz⟩ := I1.tuple hq
      refine wpAny_pyIter_tuple (show s1.heap.IsTuple a its.toArray from p) ?_
      refine ⟨s1.heap.objs.size, [s1.heap.objs.size], _, _, H1, rfl, I1.kept (t' := s1.toks) fun b o e => Heap.get?_push_of_some _ e, L2.turn_tuple a _, ⟨_, Heap.get?_push_size _ rfl, rfl, rfl⟩, fun b hb => ?_, q⟩
      have e : b = s1.heap.objs.size := by simpa using hb
      subst e
      exact I1.fpOk (Nat.le_refl _) (I1.hok.fresh (Nat.le_refl _))
    · subst e
      obtain ⟨t, rfl⟩ := r1
      cases ha : z.cps.all (· < 128)
      · exact wpAny_pyIter_wide ha (L2.pi_one (tk := s1.toks) I1 _ (L2.turn_str _ z t "str_iterator" (.inr rfl)) ⟨_, Heap.get?_push_size _ rfl, rfl, rfl⟩ q)
      · exact wpAny_pyIter_ascii ha (L2.pi_one (tk := s1.toks) I1 _ (L2.turn_str _ z t "str_ascii_iterator" (.inl rfl)) ⟨_, Heap.get?_push_size _ rfl, rfl, rfl⟩ q)
  exact L2.thn (hl.run pins s σ H _ I h) fun v s1 ⟨x, H1, I1, r1, q1⟩ => key v s1 x H1 I1 r1 q1
end
end FD
/-! FD7: walked things, isinstance, index, arguments, the deck, calls: what a combinator says of a reading. -/
namespace FD
noncomputable section
open PySem
open L2 (Hp HO V upd upd_same upd_ne ne_of_none Rd SqL SqT Vals RelV VK TE TT TA TS TG TGs St XK Cx PE PT PW PA PS PSs PG PGs PI Inv OpR UnR CallR R2 rI0 rI tOp tUn tVar tC tCB tCons tNil SlR IxR MtR It TI XK Sp)
section
variable {Y : Yx} {X : Cx}
/-! ### walked -/
def ItOk (Y : Yx) (J : It) (FH : Hp) (ds : List D) : Prop :=
  ∀ (i : Nat) (ρ : Rho) (FH1 H1 : Hp) (σ' : St) (σ : Sl) (g : G), Rep Y ρ FH1 H1 σ' σ g → Sub FH FH1 →
    (∀ d, ds[i]? = some d → J.go i H1 ∧ ∀ x H2, J.yld i H1 x H2 → ∃ FH2, NewRes Y.K FH1 H1 FH2 H2 x (.fz d)) ∧ (ds.length ≤ i → J.stop i H1)
/-- .. in whichever frame -/
def ItAll (Y : Yx) (J : It) (FH : Hp) (ds : List D) : Prop := ∀ Y' : Yx, Y'.K = Y.K → ItOk Y' J FH ds
def SndI (Y : Yx) (ti : TI) (f : Ev (List D)) : Prop :=
  ∀ (ρ : Rho) (FH H : Hp) (σ' : St) (σ : Sl) (g : G) (R : It → Hp → Prop), Rep Y ρ FH H σ' σ g → Good Y (f σ g) (fun ds σ2 g2 => ∀ J FH2 H2, Rep Y ρ FH2 H2 σ' σ2 g2 → Sub FH FH2 → Evo σ σ2 → ItAll Y J FH2 ds → R J H2) → ti σ' H R
theorem itOk_list {FH : Hp} {a : Addr} {vs : List V} {ds : List D} (h : Rd FH a (.lst vs)) (q : DqAll Y.K FH vs ds) : ItOk Y (L2.Itl Y.K a) FH ds := by
  intro i ρ FH1 H1 σ' σ g R S
  have hs : SqL Y.K H1 a vs := .inl (R.sub.rd (S.rd h))
  have q1 := DqAll.up S ds q
  refine ⟨fun d hd => ?_, fun hl => ⟨vs, hs, by rw [q.len]; exact hl⟩⟩
  obtain ⟨v, h1, h2⟩ := q1.get hd
  refine ⟨⟨vs, v, hs, h1⟩, fun x H2 y => ?_⟩
  obtain ⟨e, y⟩ := y
  subst e
  have e2 := y vs hs
  rw [h1] at e2
  cases e2
  exact ⟨FH1, res0 h2⟩
theorem itOk_tup {FH : Hp} {a : Addr} {vs : List V} {ds : List D} (h : SqT Y.K FH a vs) (q : DqAll Y.K FH vs ds) : ItOk Y (L2.Itt Y.K a) FH ds := by
  intro i ρ FH1 H1 σ' σ g R S
  have hs : SqT Y.K H1 a vs := R.sub.sqt (S.sqt h)
  have q1 := DqAll.up S ds q
  refine ⟨fun d hd => ?_, fun hl => ⟨vs, hs, by rw [q.len]; exact hl⟩⟩
  obtain ⟨v, h1, h2⟩ := q1.get hd
  refine ⟨⟨vs, v, hs, h1⟩, fun x H2 y => ?_⟩
  obtain ⟨e, y⟩ := y
  subst e
  have e2 := y vs hs
  rw [h1] at e2
  cases e2
  exact ⟨FH1, res0 h2⟩
theorem itOk_str {FH : Hp} {z : Str} : ItOk Y (L2.Its z) FH (z.cps.toList.map fun c => .str ⟨#[c]⟩) := by
  intro i ρ FH1 H1 σ' σ g R S
  refine ⟨fun d hd => ?_, fun hl => ?_⟩
  · rw [List.getElem?_map, Option.map_eq_some_iff] at hd
    obtain ⟨c, h1, rfl⟩ := hd
    have hi : i < z.cps.size := by
      have := (List.getElem?_eq_some_iff.mp h1).1
      simpa using this
    refine ⟨hi, fun x H2 y => ?_⟩
    obtain ⟨e, c', h2, rfl⟩ := y
    subst e
    have e3 : z.cps.toList[i]? = some c' := by simpa using h2
    rw [h1] at e3
    cases e3
    exact ⟨FH1, res0 (.str _)⟩
  · show z.cps.size ≤ i
    simpa using hl
theorem itOk_rng {FH : Hp} {lo : Int} {n : Nat} : ItOk Y (L2.Itr lo n) FH ((List.range n).map fun i => .int (lo + (i : Nat))) := by
  intro i ρ FH1 H1 σ' σ g R S
  refine ⟨fun d hd => ?_, fun hl => ?_⟩
  · rw [List.getElem?_map, Option.map_eq_some_iff] at hd
    obtain ⟨c, h1, rfl⟩ := hd
    have hi : i < n := by
      have := (List.getElem?_eq_some_iff.mp h1).1
      simpa using this
    rw [List.getElem?_range hi] at h1
    cases h1
    refine ⟨hi, fun x H2 y => ?_⟩
    obtain ⟨e, rfl⟩ := y
    subst e
    exact ⟨FH1, res0 (.int _)⟩
  · show n ≤ i
    simpa using hl
theorem enumD_get : ∀ (ds : List D) (n i : Nat), (enumD n ds)[i]? = (ds[i]?).map fun x => .tuple [.int ((n + i : Nat) : Int), x]
  | [], _, _ => by simp [enumD]
  | x :: r, n, 0 => by simp [enumD]
  | x :: r, n, i + 1 => by
    rw [enumD, List.getElem?_cons_succ, List.getElem?_cons_succ, enumD_get r (n + 1) i]
    have e : n + 1 + i = n + (i + 1) := by omega
    rw [e]
theorem enumD_len : ∀ (ds : List D) (n : Nat), (enumD n ds).length = ds.length
  | [], _ => rfl
  | x :: r, n => by rw [enumD, List.length_cons, List.length_cons, enumD_len r (n + 1)]
theorem resPair {ρ : Rho} {FH H : Hp} {σ' : St} {σ : Sl} {g : G} (R : Rep Y ρ FH H σ' σ g) {T : Addr} {x y : V} {a b : D} (hn : H T = none) (h1 : Dq Y.K FH x a) (h2 : Dq Y.K FH y b) : ∃ FH2, NewRes Y.K FH H FH2 (upd H T (.tup [x, y])) (.ref T) (.fz (.tuple [a, b])) :=
  ⟨_, resTup hn R.sub (.cons h1 (.cons h2 .nil))⟩
theorem itOk_enumL {FH : Hp} {a : Addr} {vs : List V} {ds : List D} (h : Rd FH a (.lst vs)) (q : DqAll Y.K FH vs ds) : ItOk Y (L2.Ite Y.K a) FH (enumD 0 ds) := by
  intro i ρ FH1 H1 σ' σ g R S
  have hs : SqL Y.K H1 a vs := .inl (R.sub.rd (S.rd h))
  have q1 := DqAll.up S ds q
  refine ⟨fun d hd => ?_, fun hl => ⟨vs, hs, by rw [q.len]; rw [enumD_len] at hl; exact hl⟩⟩
  rw [enumD_get, Option.map_eq_some_iff] at hd
  obtain ⟨c, hd, rfl⟩ := hd
  obtain ⟨v, h1, h2⟩ := q1.get hd
  refine ⟨⟨vs, v, hs, h1⟩, fun x H2 y => ?_⟩
  obtain ⟨T, w, rfl, hn, rfl, y⟩ := y
  have e2 := y vs hs
  rw [h1] at e2
  cases e2
  rw [Nat.zero_add]
  exact resPair R hn (.int _) h2
theorem itOk_enumU {FH : Hp} {a : Addr} {vs : List V} {ds : List D} (h : SqT Y.K FH a vs) (q : DqAll Y.K FH vs ds) : ItOk Y (IteU Y.K a) FH (enumD 0 ds) := by
  intro i ρ FH1 H1 σ' σ g R S
  have hs : SqT Y.K H1 a vs := R.sub.sqt (S.sqt h)
  have q1 := DqAll.up S ds q
  refine ⟨fun d hd => ?_, fun hl => ⟨vs, hs, by rw [q.len]; rw [enumD_len] at hl; exact hl⟩⟩
  rw [enumD_get, Option.map_eq_some_iff] at hd
  obtain ⟨c, hd, rfl⟩ := hd
  obtain ⟨v, h1, h2⟩ := q1.get hd
  refine ⟨⟨vs, v, hs, h1⟩, fun x H2 y => ?_⟩
  obtain ⟨T, w, rfl, hn, rfl, y⟩ := y
  have e2 := y vs hs
  rw [h1] at e2
  cases e2
  rw [Nat.zero_add]
  exact resPair R hn (.int _) h2
theorem zipD_get : ∀ (xs ys : List D) (i : Nat) (d : D), (zipD xs ys)[i]? = some d → ∃ x y, xs[i]? = some x ∧ ys[i]? = some y ∧ d = .tuple [x, y]
  | [], _, _, _, h => by simp [zipD] at h
  | _ :: _, [], _, _, h => by simp [zipD] at h
  | x :: r, y :: s, 0, d, h => by
    simp only [zipD, List.getElem?_cons_zero, Option.some.injEq] at h
    exact ⟨x, y, rfl, rfl, h.symm⟩
  | x :: r, y :: s, i + 1, d, h => by
    simp only [zipD, List.getElem?_cons_succ] at h
    obtain ⟨a, b, h1, h2, h3⟩ := zipD_get r s i d h
    exact ⟨a, b, by simpa using h1, by simpa using h2, h3⟩
theorem zipD_len : ∀ (xs ys : List D), (zipD xs ys).length = min xs.length ys.length
  | [], _ => by simp [zipD]
  | _ :: _, [] => by simp [zipD]
  | x :: r, y :: s => by
    rw [zipD, List.length_cons, zipD_len r s, List.length_cons, List.length_cons]
    omega
theorem itOk_zipL {FH : Hp} {a b : Addr} {vs ws : List V} {ds es : List D} (h : Rd FH a (.lst vs)) (q : DqAll Y.K FH vs ds) (h' : Rd FH b (.lst ws)) (q' : DqAll Y.K FH ws es) : ItOk Y (L2.Itz Y.K a b) FH (zipD ds es) := by
  intro i ρ FH1 H1 σ' σ g R S
  have hs : SqL Y.K H1 a vs := .inl (R.sub.rd (S.rd h))
  have hs' : SqL Y.K H1 b ws := .inl (R.sub.rd (S.rd h'))
  have q1 := DqAll.up S ds q
  have q2 := DqAll.up S es q'
  refine ⟨fun d hd => ?_, fun hl => ⟨vs, ws, hs, hs', ?_⟩⟩
  · obtain ⟨c, c', e1, e2, rfl⟩ := zipD_get _ _ _ _ hd
    obtain ⟨v, h1, h2⟩ := q1.get e1
    obtain ⟨v', h1', h2'⟩ := q2.get e2
    refine ⟨⟨vs, ws, v, v', hs, hs', h1, h1'⟩, fun x H2 y => ?_⟩
    obtain ⟨T, w, w', rfl, hn, rfl, y, y'⟩ := y
    have e2 := y vs hs
    rw [h1] at e2
    cases e2
    have e2 := y' ws hs'
    rw [h1'] at e2
    cases e2
    exact resPair R hn h2 h2'
  · rw [zipD_len] at hl
    rw [q.len, q'.len]
    omega
theorem itOk_zipU {FH : Hp} {a b : Addr} {vs ws : List V} {ds es : List D} (h : SqT Y.K FH a vs) (q : DqAll Y.K FH vs ds) (h' : SqT Y.K FH b ws) (q' : DqAll Y.K FH ws es) : ItOk Y (RZ.ItzT Y.K a b) FH (zipD ds es) := by
  intro i ρ FH1 H1 σ' σ g R S
  have hs : SqT Y.K H1 a vs := R.sub.sqt (S.sqt h)
  have hs' : SqT Y.K H1 b ws := R.sub.sqt (S.sqt h')
  have q1 := DqAll.up S ds q
  have q2 := DqAll.up S es q'
  refine ⟨fun d hd => ?_, fun hl => ⟨vs, ws, hs, hs', ?_⟩⟩
  · obtain ⟨c, c', e1, e2, rfl⟩ := zipD_get _ _ _ _ hd
    obtain ⟨v, h1, h2⟩ := q1.get e1
    obtain ⟨v', h1', h2'⟩ := q2.get e2
    refine ⟨⟨vs, ws, v, v', hs, hs', h1, h1'⟩, fun x H2 y => ?_⟩
    obtain ⟨T, w, w', rfl, hn, rfl, y, y'⟩ := y
    have e2 := y vs hs
    rw [h1] at e2
    cases e2
    have e2 := y' ws hs'
    rw [h1'] at e2
    cases e2
    exact resPair R hn h2 h2'
  · rw [zipD_len] at hl
    rw [q.len, q'.len]
    omega
theorem itAll_list {FH : Hp} {a : Addr} {vs : List V} {ds : List D} (h : Rd FH a (.lst vs)) (q : DqAll Y.K FH vs ds) : ItAll Y (L2.Itl Y.K a) FH ds := fun Y' e => by
  rw [← e] at q ⊢
  exact itOk_list h q
theorem itAll_tup {FH : Hp} {a : Addr} {vs : List V} {ds : List D} (h : SqT Y.K FH a vs) (q : DqAll Y.K FH vs ds) : ItAll Y (L2.Itt Y.K a) FH ds := fun Y' e => by
  rw [← e] at h q ⊢
  exact itOk_tup h q
theorem itAll_str {FH : Hp} {z : Str} : ItAll Y (L2.Its z) FH (z.cps.toList.map fun c => .str ⟨#[c]⟩) := fun Y' e => itOk_str
theorem itAll_rng {FH : Hp} {lo : Int} {n : Nat} : ItAll Y (L2.Itr lo n) FH ((List.range n).map fun i => .int (lo + (i : Nat))) := fun Y' e => itOk_rng
theorem itAll_enumL {FH : Hp} {a : Addr} {vs : List V} {ds : List D} (h : Rd FH a (.lst vs)) (q : DqAll Y.K FH vs ds) : ItAll Y (L2.Ite Y.K a) FH (enumD 0 ds) := fun Y' e => by
  rw [← e] at q ⊢
  exact itOk_enumL h q
theorem itAll_enumU {FH : Hp} {a : Addr} {vs : List V} {ds : List D} (h : SqT Y.K FH a vs) (q : DqAll Y.K FH vs ds) : ItAll Y (IteU Y.K a) FH (enumD 0 ds) := fun Y' e => by
  rw [← e] at h q ⊢
  exact itOk_enumU h q
theorem itAll_zipL {FH : Hp} {a b : Addr} {vs ws : List V} {ds es : List D} (h : Rd FH a (.lst vs)) (q : DqAll Y.K FH vs ds) (h' : Rd FH b (.lst ws)) (q' : DqAll Y.K FH ws es) : ItAll Y (L2.Itz Y.K a b) FH (zipD ds es) := fun Y' e => by
  rw [← e] at q q' ⊢
  exact itOk_zipL h q h' q'
theorem itAll_zipU {FH : Hp} {a b : Addr} {vs ws : List V} {ds es : List D} (h : SqT Y.K FH a vs) (q : DqAll Y.K FH vs ds) (h' : SqT Y.K FH b ws) (q' : DqAll Y.K FH ws es) : ItAll Y (RZ.ItzT Y.K a b) FH (zipD ds es) := fun Y' e => by
  rw [← e] at h q h' q' ⊢
  exact itOk_zipU h q h' q'
variable {ta tb : TE} {f f1 f2 : Ev D}
theorem snd_iSeq (ha : SndE Y (RelD Y) ta f) : SndI Y (iAny Y.K ta) (iSeq f) := by
  intro ρ FH H σ' σ g Q R hg
  refine ha ρ FH H σ' σ g _ R (hg.bind.mono fun d σ2 g2 q v FH2 H2 R2 S E rel => ?_)
  obtain ⟨ds, e, q⟩ := q.lift
  cases rel with
  | lst h a =>
    simp only [seqOf, Option.some.injEq] at e
    subst e
    exact .inl ⟨_, rfl, ⟨_, .inl (R2.sub.rd h)⟩, q _ FH2 H2 R2 S E (itAll_list h a)⟩
  | tup h a =>
    simp only [seqOf, Option.some.injEq] at e
    subst e
    exact .inr (.inl ⟨_, rfl, ⟨_, R2.sub.sqt h⟩, q _ FH2 H2 R2 S E (itAll_tup h a)⟩)
  | str x =>
    simp only [seqOf] at e
    split at e
    · cases e
      exact .inr (.inr ⟨x, rfl, q _ FH2 H2 R2 S E itAll_str⟩)
    · cases e
  | non => simp [seqOf] at e
  | bl b => simp [seqOf] at e
  | int i => simp [seqOf] at e
theorem snd_iR1 (ha : SndE Y (RelP Y) ta f) : SndI Y (L2.iRng1 (tCons ta tNil)) (iR1 f) := by
  intro ρ FH H σ' σ g Q R hg
  refine ha ρ FH H σ' σ g _ R (hg.bind.mono fun d σ2 g2 q v FH2 H2 R2 S E rel => ?_)
  obtain ⟨ds, e, q⟩ := q.lift
  cases d with
  | int n =>
    simp only [rng1] at e
    split at e
    · rename_i hn
      cases e
      rw [rel.int]
      refine ⟨n, rfl, hn.1, hn.2, q _ FH2 H2 R2 S E ?_⟩
      have := itAll_rng (Y := Y) (FH := FH2) (lo := 0) (n := n.toNat)
      unfold rngD
      rw [Int.sub_zero]
      exact this
    · cases e
  | _ => simp [rng1] at e
theorem snd_iR2 (ha : SndE Y (RelP Y) ta f1) (hb : SndE Y (RelP Y) tb f2) : SndI Y (L2.iRng2 (tCons ta (tCons tb tNil))) (iR2 f1 f2) := by
  intro ρ FH H σ' σ g Q R hg
  refine ha ρ FH H σ' σ g _ R (hg.bind.mono fun d σ2 g2 q v FH2 H2 R2 S E rel => ?_)
  refine hb ρ FH2 H2 σ' σ2 g2 _ R2 (q.bind.mono fun e σ3 g3 q u FH3 H3 R3 S3 E3 rel3 => ?_)
  obtain ⟨ds, eq, q⟩ := q.lift
  have rel := rel.up S3 E3 R3
  cases d with
  | int m =>
    cases e with
    | int n =>
      simp only [rng2] at eq
      split at eq
      · rename_i hn
        cases eq
        rw [rel.int, rel3.int]
        exact ⟨m, n, rfl, ⟨hn.1.1, hn.1.2, hn.2.1, hn.2.2⟩, q _ FH3 H3 R3 (S.trans S3) (E.trans E3) itAll_rng⟩
      · cases eq
    | _ => simp [rng2] at eq
  | _ => cases e <;> simp [rng2] at eq
theorem snd_iEnum (ha : SndE Y (RelD Y) ta f) : SndI Y (iEnumA Y.K (tCons ta tNil)) (iEnum f) := by
  intro ρ FH H σ' σ g Q R hg
  refine ha ρ FH H σ' σ g _ R (hg.bind.mono fun d σ2 g2 q v FH2 H2 R2 S E rel => ?_)
  obtain ⟨ds, e, q⟩ := q.lift
  cases rel with
  | lst h a =>
    simp only [lseqOf, Option.map_some, Option.some.injEq] at e
    subst e
    exact ⟨_, _, rfl, .inl ⟨.inl (R2.sub.rd h), q _ FH2 H2 R2 S E (itAll_enumL h a)⟩⟩
  | tup h a =>
    simp only [lseqOf, Option.map_some, Option.some.injEq] at e
    subst e
    exact ⟨_, _, rfl, .inr ⟨R2.sub.sqt h, q _ FH2 H2 R2 S E (itAll_enumU h a)⟩⟩
  | str x => simp [lseqOf] at e
  | non => simp [lseqOf] at e
  | bl b => simp [lseqOf] at e
  | int i => simp [lseqOf] at e
theorem snd_iZip (ha : SndE Y (RelD Y) ta f1) (hb : SndE Y (RelD Y) tb f2) : SndI Y (RZ.iZipA Y.K (tCons ta (tCons tb tNil))) (iZip f1 f2) := by
  intro ρ FH H σ' σ g Q R hg
  refine ha ρ FH H σ' σ g _ R (hg.bind.mono fun d σ2 g2 q v FH2 H2 R2 S E rel => ?_)
  refine hb ρ FH2 H2 σ' σ2 g2 _ R2 (q.bind.mono fun e σ3 g3 q u FH3 H3 R3 S3 E3 rel3 => ?_)
  obtain ⟨ds, eq, q⟩ := q.lift
  have rel := Dq.up S3 d rel
  unfold zipK at eq
  split at eq
  · cases eq
    cases rel with
    | lst h a =>
      cases rel3 with
      | lst h' a' => exact ⟨_, _, _, _, rfl, .inl ⟨.inl (R3.sub.rd h), .inl (R3.sub.rd h'), q _ FH3 H3 R3 (S.trans S3) (E.trans E3) (itAll_zipL h a h' a')⟩⟩
  · cases eq
    cases rel with
    | tup h a =>
      cases rel3 with
      | tup h' a' => exact ⟨_, _, _, _, rfl, .inr ⟨R3.sub.sqt h, R3.sub.sqt h', q _ FH3 H3 R3 (S.trans S3) (E.trans E3) (itAll_zipU h a h' a')⟩⟩
  · cases eq
/-! ### isinstance -/
theorem tyx_of {ρ : Rho} {FH H : Hp} {σ' : St} {σ : Sl} {g : G} {v : V} {d : D} {T : BT} {b : Bool} (R : Rep Y ρ FH H σ' σ g) (rel : RelP Y ρ FH H σ' σ v d) (e : pyIsI T d = some b) :
    ∃ t : String, L2.TyX Y.K H v (.type t) ∧ L2.kitB t T.nm = some b := by
  have rel := rel.dq R
  cases rel with
  | non =>
    refine ⟨"NoneType", .base .non, ?_⟩
    cases T <;> (simp only [pyIsI, Option.some.injEq] at e; subst e; decide +kernel)
  | bl x =>
    refine ⟨"bool", .base (.bl x), ?_⟩
    cases T <;> (simp only [pyIsI, Option.some.injEq] at e; subst e; decide +kernel)
  | int i =>
    refine ⟨"int", .base (.int i), ?_⟩
    cases T <;> (simp only [pyIsI, Option.some.injEq] at e; subst e; decide +kernel)
  | str x =>
    refine ⟨"str", .base (.str x), ?_⟩
    cases T <;> (simp only [pyIsI, Option.some.injEq] at e; subst e; decide +kernel)
  | lst h a =>
    refine ⟨"list", ?_, ?_⟩
    · rcases h with h | ⟨o, h⟩
      · exact .base (.lst h)
      · exact .base (.frz h)
    · cases T <;> (simp only [pyIsI, Option.some.injEq] at e; subst e; decide +kernel)
  | tup h a =>
    refine ⟨"tuple", ?_, ?_⟩
    · rcases h with (h | ⟨o, h⟩) | ⟨o, its, n, h, hc, _⟩
      · exact .base (.tup h)
      · exact .fTuple h
      · exact .kTuple h hc
    · cases T <;> (simp only [pyIsI, Option.some.injEq] at e; subst e; decide +kernel)
theorem snd_cIsI {T : BT} (ha : SndE Y (RelP Y) ta f) : SndE Y (RelB Y) (tCB (L2.rIsi Y.K) (tCons ta (tCons (tC (.ty T.nm)) tNil))) (cIsI T f) := by
  intro ρ FH H σ' σ g Q R hg
  refine ha ρ FH H σ' σ g _ R (hg.bind.mono fun d σ2 g2 q v FH2 H2 R2 S E rel => ?_)
  obtain ⟨b, e, q⟩ := q.lift
  obtain ⟨t, h1, h2⟩ := tyx_of R2 rel e
  exact ⟨v, _, _, _, b, rfl, .ty T.nm, h1, L2.kit_ty h2, q _ FH2 H2 R2 S E rfl⟩
end
end
end FD
/-! FD8: stored names, the deck, calls, comprehensions. -/
namespace FD
noncomputable section
open PySem
open L2 (Hp HO V upd upd_same upd_ne ne_of_none Rd SqL SqT Vals RelV VK TE TT TA TS TG TGs St XK Cx PE PT PW PA PS PSs PG PGs PI Inv OpR UnR CallR R2 rI0 rI tOp tUn tVar tC tCB tCons tNil SlR IxR MtR It TI XK Sp wipe)
section
variable {Y : Yx} {ρ : Rho} {FH H FH2 H2 : Hp} {σ' : St} {σ σ2 : Sl} {g g2 : G}
/-! ### stored names -/
theorem getSet {α : Type} {l : List α} {i j : Nat} {a b : α} (h : (l.set i a)[j]? = some b) : (i = j ∧ b = a ∧ i < l.length) ∨ (i ≠ j ∧ l[j]? = some b) := by
  by_cases z : i = j
  · subst z
    by_cases w : i < l.length
    · rw [List.getElem?_set_self w] at h
      exact .inl ⟨rfl, (Option.some.inj h).symm, w⟩
    · rw [List.getElem?_eq_none (by rw [List.length_set]; omega)] at h
      cases h
  · rw [List.getElem?_set_ne z] at h
    exact .inr ⟨z, h⟩
theorem Rep.setFz (R : Rep Y ρ FH H σ' σ g) (i : Nat) {v : V} {d : D} (hd : Dq Y.K FH v d) : Rep Y ρ FH H (σ'.set i (some v)) (σ.set i (some (.fz d))) g := by
  have hl := R.len
  have old : ∀ {j : Nat} {es : List D}, (σ.set i (some (SV.fz d)))[j]? = some (some (.ow es)) → i ≠ j ∧ σ[j]? = some (some (.ow es)) := fun {j es} h => by
    rcases getSet h with ⟨_, e, _⟩ | q
    · cases e
    · exact q
  refine ⟨R.sub, by rw [List.length_set, List.length_set]; exact hl, fun j e h => ?_, fun j es h => ?_, fun j k es fs p a1 a2 a3 a4 => ?_, fun j r a t h => ?_, fun j h => ?_, R.deck, R.ext, R.rho, R.cf, fun q vs h => ?_⟩
  · rcases getSet h with ⟨rfl, e1, w⟩ | ⟨z, q⟩
    · cases e1
      exact ⟨v, List.getElem?_set_self (by rw [hl]; exact w), hd⟩
    · rw [List.getElem?_set_ne z]
      exact R.fz j e q
  · obtain ⟨z, q⟩ := old h
    rw [List.getElem?_set_ne z]
    exact R.ow j es q
  · obtain ⟨z1, q1⟩ := old a1
    obtain ⟨z2, q2⟩ := old a2
    rw [List.getElem?_set_ne z1] at a3
    rw [List.getElem?_set_ne z2] at a4
    exact R.dis j k es fs p q1 q2 a3 a4
  · rcases getSet h with ⟨_, e, _⟩ | ⟨_, q⟩
    · cases e
    · exact R.nond j r a t q
  · rcases getSet h with ⟨_, e, _⟩ | ⟨z, q⟩
    · cases e
    · rw [List.getElem?_set_ne z]
      exact R.dl j q
  · obtain ⟨h1, h2, h3, h4⟩ := R.pend q vs h
    refine ⟨h1, h2, fun j es hj => ?_, h4⟩
    obtain ⟨z, q⟩ := old hj
    rw [List.getElem?_set_ne z]
    exact h3 j es q
theorem Rep.setOw (R : Rep Y ρ FH H σ' σ g) (i : Nat) {p : Addr} {vs : List V} {ds : List D} (F : Fresh Y ρ FH H σ' σ p vs ds) : Rep Y ρ FH H (σ'.set i (some (.ref p))) (σ.set i (some (.ow ds))) g := by
  have hl := R.len
  refine ⟨R.sub, by rw [List.length_set, List.length_set]; exact hl, fun j e h => ?_, fun j es h => ?_, fun j k es fs q a1 a2 a3 a4 => ?_, fun j r a t h => ?_, fun j h => ?_, R.deck, R.ext, R.rho, R.cf, fun q ws h => ?_⟩
  · rcases getSet h with ⟨_, e1, _⟩ | ⟨z, q⟩
    · cases e1
    · rw [List.getElem?_set_ne z]
      exact R.fz j e q
  · rcases getSet h with ⟨rfl, e1, w⟩ | ⟨z, q⟩
    · cases e1
      exact ⟨p, vs, List.getElem?_set_self (by rw [hl]; exact w), F.f, F.h, F.a, F.o, F.c⟩
    · rw [List.getElem?_set_ne z]
      exact R.ow j es q
  · rcases getSet a1 with ⟨rfl, e1, w1⟩ | ⟨z1, q1⟩
    · rcases getSet a2 with ⟨rfl, _, _⟩ | ⟨z2, q2⟩
      · rfl
      · rw [List.getElem?_set_self (by rw [hl]; exact w1)] at a3
        cases a3
        rw [List.getElem?_set_ne z2] at a4
        exact absurd a4 (F.s k fs q2)
    · rw [List.getElem?_set_ne z1] at a3
      rcases getSet a2 with ⟨rfl, e2, w2⟩ | ⟨z2, q2⟩
      · rw [List.getElem?_set_self (by rw [hl]; exact w2)] at a4
        cases a4
        exact absurd a3 (F.s j es q1)
      · rw [List.getElem?_set_ne z2] at a4
        exact R.dis j k es fs q q1 q2 a3 a4
  · rcases getSet h with ⟨_, e, _⟩ | ⟨_, q⟩
    · cases e
    · exact R.nond j r a t q
  · rcases getSet h with ⟨_, e, _⟩ | ⟨z, q⟩
    · cases e
    · rw [List.getElem?_set_ne z]
      exact R.dl j q
  · obtain ⟨h1, h2, h3, h4⟩ := R.pend q ws h
    refine ⟨h1, h2, fun j es hj => ?_, h4⟩
    rcases getSet hj with ⟨rfl, _, w⟩ | ⟨z, q'⟩
    · rw [List.getElem?_set_self (by rw [hl]; exact w)]
      intro e
      cases e
      rw [F.d] at h
      cases h
    · rw [List.getElem?_set_ne z]
      exact h3 j es q'
/-- slots may be forgotten -/
theorem Rep.forget (R : Rep Y ρ FH H σ' σ g) {σ1' : St} {σ1 : Sl} (hl : σ1'.length = σ1.length) (h : ∀ (i : Nat) (x : SV), σ1[i]? = some (some x) → σ[i]? = some (some x) ∧ σ1'[i]? = σ'[i]?) : Rep Y ρ FH H σ1' σ1 g := by
  refine ⟨R.sub, hl, fun j e q => ?_, fun j es q => ?_, fun j k es fs p a1 a2 a3 a4 => ?_, fun j r a t q => ?_, fun j q => ?_, R.deck, R.ext, R.rho, R.cf, fun p vs q => ?_⟩
  · obtain ⟨h1, h2⟩ := h j _ q
    rw [h2]
    exact R.fz j e h1
  · obtain ⟨h1, h2⟩ := h j _ q
    rw [h2]
    exact R.ow j es h1
  · obtain ⟨h1, h2⟩ := h j _ a1
    obtain ⟨h3, h4⟩ := h k _ a2
    rw [h2] at a3
    rw [h4] at a4
    exact R.dis j k es fs p h1 h3 a3 a4
  · exact R.nond j r a t (h j _ q).1
  · obtain ⟨h1, h2⟩ := h j _ q
    rw [h2]
    exact R.dl j h1
  · obtain ⟨b1, b2, b3, b4⟩ := R.pend p vs q
    refine ⟨b1, b2, fun j es hj => ?_, b4⟩
    obtain ⟨h1, h2⟩ := h j _ hj
    rw [h2]
    exact b3 j es h1

/-! ### targets -/
def Agree {α : Type} (vs : List Nat) (a b : List α) : Prop := a.length = b.length ∧ ∀ i, i ∉ vs → a[i]? = b[i]?
theorem Agree.refl {α : Type} (vs : List Nat) (a : List α) : Agree vs a a := ⟨rfl, fun _ _ => rfl⟩
theorem Agree.trans {α : Type} {vs : List Nat} {a b c : List α} (h : Agree vs a b) (h2 : Agree vs b c) : Agree vs a c := ⟨h.1.trans h2.1, fun i hi => (h.2 i hi).trans (h2.2 i hi)⟩
theorem Agree.set {α : Type} {vs : List Nat} {a : List α} {i : Nat} {x : α} (hi : i ∈ vs) : Agree vs a (a.set i x) := ⟨by rw [List.length_set], fun j hj => by
  rw [List.getElem?_set_ne (show i ≠ j from fun e => hj (by rw [← e]; exact hi))]⟩
theorem Agree.symm {α : Type} {vs : List Nat} {a b : List α} (h : Agree vs a b) : Agree vs b a := ⟨h.1.symm, fun i hi => (h.2 i hi).symm⟩
theorem wipe_len (σ : St) : ∀ vs, (wipe σ vs).length = σ.length := L2.wipe_length σ
theorem wipe_get {σ : St} : ∀ (vs : List Nat) (i : Nat), (wipe σ vs)[i]? = if i ∈ vs ∧ i < σ.length then some none else σ[i]?
  | [], i => by simp [wipe]
  | v :: vs, i => by
    show ((wipe σ vs).set v none)[i]? = _
    by_cases z : v = i
    · subst z
      by_cases w : v < σ.length
      · rw [List.getElem?_set_self (by rw [wipe_len]; exact w), if_pos ⟨List.mem_cons_self, w⟩]
      · rw [List.getElem?_eq_none (by rw [List.length_set, wipe_len]; omega), if_neg (fun h => w h.2), List.getElem?_eq_none (by omega)]
    · rw [List.getElem?_set_ne z, wipe_get vs i]
      have e : (i ∈ v :: vs) ↔ i ∈ vs := by
        simp only [List.mem_cons]
        exact ⟨fun h => h.resolve_left (fun e => z e.symm), .inr⟩
      simp only [e]
theorem wipeS_len (σ : Sl) : ∀ vs, (wipeS σ vs).length = σ.length
  | [] => rfl
  | v :: vs => by
    show ((wipeS σ vs).set v none).length = _
    rw [List.length_set, wipeS_len σ vs]
theorem wipeS_get {σ : Sl} : ∀ (vs : List Nat) (i : Nat), (wipeS σ vs)[i]? = if i ∈ vs ∧ i < σ.length then some none else σ[i]?
  | [], i => by simp [wipeS]
  | v :: vs, i => by
    show ((wipeS σ vs).set v none)[i]? = _
    by_cases z : v = i
    · subst z
      by_cases w : v < σ.length
      · rw [List.getElem?_set_self (by rw [wipeS_len]; exact w), if_pos ⟨List.mem_cons_self, w⟩]
      · rw [List.getElem?_eq_none (by rw [List.length_set, wipeS_len]; omega), if_neg (fun h => w h.2), List.getElem?_eq_none (by omega)]
    · rw [List.getElem?_set_ne z, wipeS_get vs i]
      have e : (i ∈ v :: vs) ↔ i ∈ vs := by
        simp only [List.mem_cons]
        exact ⟨fun h => h.resolve_left (fun e => z e.symm), .inr⟩
      simp only [e]
theorem Agree.wipe {vs : List Nat} {a b : St} (h : Agree vs a b) : wipe a vs = wipe b vs := by
  refine List.ext_getElem? fun i => ?_
  rw [wipe_get, wipe_get, h.1]
  by_cases z : i ∈ vs ∧ i < b.length
  · rw [if_pos z, if_pos z]
  · rw [if_neg z, if_neg z]
    by_cases w : i ∈ vs
    · have : ¬ i < b.length := fun e => z ⟨w, e⟩
      rw [List.getElem?_eq_none (by rw [h.1]; omega), List.getElem?_eq_none (by omega)]
    · exact h.2 i w
def SndG (Y : Yx) (vs : List Nat) (gt : TG) (t : TgF) : Prop :=
  ∀ (ρ : Rho) (FH H : Hp) (σ' : St) (σ : Sl) (g : G) (v : V) (d : D) (Q : St → Hp → Prop), Rep Y ρ FH H σ' σ g → Dq Y.K FH v d → Good Y (t d σ g) (fun _ σ2 g2 => ∀ σ2' FH2 H2, Rep Y ρ FH2 H2 σ2' σ2 g2 → Sub FH FH2 → Agree vs σ' σ2' → Agree vs σ σ2 → Q σ2' H2) → gt v σ' H Q
def SndGs (Y : Yx) (vs : List Nat) (gt : TGs) (t : List D → Ev Unit) : Prop :=
  ∀ (ρ : Rho) (FH H : Hp) (σ' : St) (σ : Sl) (g : G) (xs : List V) (ds : List D) (Q : St → Hp → Prop), Rep Y ρ FH H σ' σ g → DqAll Y.K FH xs ds → Good Y (t ds σ g) (fun _ σ2 g2 => ∀ σ2' FH2 H2, Rep Y ρ FH2 H2 σ2' σ2 g2 → Sub FH FH2 → Agree vs σ' σ2' → Agree vs σ σ2 → Q σ2' H2) → gt xs σ' H Q
theorem snd_gNm {vs : List Nat} {i : Nat} (hi : i ∈ vs) : SndG Y vs (L2.gName i) (gNm i) := by
  intro ρ FH H σ' σ g v d Q R hd hg
  exact hg _ FH H (R.setFz i hd) (Sub.refl _) (Agree.set hi) (Agree.set hi)
theorem snd_gN {vs : List Nat} : SndGs Y vs L2.gNil gN := by
  intro ρ FH H σ' σ g xs ds Q R hd hg
  cases hd with
  | nil => exact ⟨rfl, hg σ' FH H R (Sub.refl _) (Agree.refl _ _) (Agree.refl _ _)⟩
  | cons a b => exact hg.elim
theorem snd_gC {vs : List Nat} {gt : TG} {gts : TGs} {t : TgF} {ts : List D → Ev Unit} (h1 : SndG Y vs gt t) (h2 : SndGs Y vs gts ts) : SndGs Y vs (L2.gCons gt gts) (gC t ts) := by
  intro ρ FH H σ' σ g xs ds Q R hd hg
  cases hd with
  | nil => exact hg.elim
  | cons a b =>
    refine ⟨_, _, rfl, h1 ρ FH H σ' σ g _ _ _ R a (Good.mono (Good.bind hg) fun _ σ2 g2 q σ2' FH2 H2 R2 S A1 A2 => ?_)⟩
    exact h2 ρ FH2 H2 σ2' σ2 g2 _ _ Q R2 (DqAll.up S _ b) (q.mono fun _ σ3 g3 q σ3' FH3 H3 R3 S3 A3 A4 => q σ3' FH3 H3 R3 (S.trans S3) (A1.trans A3) (A2.trans A4))
theorem snd_gTp {vs : List Nat} {gts : TGs} {ts : List D → Ev Unit} {n : Nat} (h : SndGs Y vs gts ts) : SndG Y vs (L2.gTup Y.K n gts) (gTp n ts) := by
  intro ρ FH H σ' σ g v d Q R hd hg
  cases hd with
  | tup h1 a =>
    have hg : Good Y (if _ = n then _ else _) _ := hg
    split at hg
    · rename_i hl
      exact ⟨_, _, rfl, R.sub.sqt h1, by rw [a.len]; exact hl, h ρ FH H σ' σ g _ _ Q R a hg⟩
    · exact hg.elim
  | lst h1 a => exact hg.elim
  | non => exact hg.elim
  | bl _ => exact hg.elim
  | int _ => exact hg.elim
  | str _ => exact hg.elim

/-! ### arguments, calls -/
def ArgRel (K : PySem.W.Frag) (ρ : Rho) (FH : Hp) (v : V) : SV → Prop
  | .fz d => Dq K FH v d
  | .deal => ∃ dl c, ρ = some (dl, c) ∧ v = .ref dl
  | _ => False
inductive ArgAll (K : PySem.W.Frag) (ρ : Rho) (FH : Hp) : List V → List SV → Prop
  | nil : ArgAll K ρ FH [] []
  | cons {v : V} {vs : List V} {a : SV} {as : List SV} : ArgRel K ρ FH v a → ArgAll K ρ FH vs as → ArgAll K ρ FH (v :: vs) (a :: as)
theorem ArgRel.up {K : PySem.W.Frag} (S : Sub FH FH2) {v : V} : ∀ {a : SV}, ArgRel K ρ FH v a → ArgRel K ρ FH2 v a
  | .fz d, h => Dq.up S d h
  | .deal, h => h
theorem ArgAll.len {K : PySem.W.Frag} : ∀ {vs : List V} {as : List SV}, ArgAll K ρ FH vs as → vs.length = as.length
  | _, _, .nil => rfl
  | _, _, .cons _ h => by rw [List.length_cons, List.length_cons, ArgAll.len h]
def SndAS (Y : Yx) (ta : TA) (f : Ev (List SV)) : Prop :=
  ∀ (ρ : Rho) (FH H : Hp) (σ' : St) (σ : Sl) (g : G) (Q : List V → Hp → Prop), Rep Y ρ FH H σ' σ g → Good Y (f σ g) (fun as σ2 g2 => ∀ vs FH2 H2, Rep Y ρ FH2 H2 σ' σ2 g2 → Sub FH FH2 → Evo σ σ2 → ArgAll Y.K ρ FH2 vs as → Q vs H2) → ta σ' H Q
theorem snd_cANil : SndAS Y tNil cANil := by
  intro ρ FH H σ' σ g Q R hg
  exact hg [] FH H R (Sub.refl _) (Evo.refl _) .nil
theorem snd_cACons {te : TE} {t : TA} {f : Ev SV} {r : Ev (List SV)} (ha : SndE Y (RelO Y) te f) (hr : SndAS Y t r) : SndAS Y (tCons te t) (cACons f r) := by
  intro ρ FH H σ' σ g Q R hg
  refine ha ρ FH H σ' σ g _ R (hg.bind.mono fun sv σ2 g2 q v FH2 H2 R2 S E rel => ?_)
  obtain ⟨a, e, q⟩ := q.bind.lift
  have key : ∃ FH3, Rep Y ρ FH3 H2 σ' σ2 g2 ∧ Sub FH2 FH3 ∧ ArgRel Y.K ρ FH3 v a := by
    cases sv with
    | fz d =>
      simp only [argOk, Option.some.injEq] at e
      subst e
      exact ⟨FH2, R2, Sub.refl _, rel⟩
    | ow ds =>
      simp only [argOk, Option.some.injEq] at e
      subst e
      obtain ⟨p, vs, rfl, F⟩ := rel
      exact ⟨_, R2.freeze F, Sub.new F.f, dq_frozen F.f F.a⟩
    | deal =>
      simp only [argOk, Option.some.injEq] at e
      subst e
      exact ⟨FH2, R2, Sub.refl _, rel⟩
    | nd _ _ _ => simp [argOk] at e
  obtain ⟨FH3, R3, S3, rel3⟩ := key
  refine hr ρ FH3 H2 σ' σ2 g2 _ R3 (q.bind.mono fun as σ4 g4 q vs FH4 H4 R4 S4 E4 rel4 => ?_)
  exact q _ FH4 H4 R4 ((S.trans S3).trans S4) (E.trans E4) (.cons (rel3.up S4) rel4)
/-- what a def hands back -/
def RetOk (K : PySem.W.Frag) (H FH2 H2 : Hp) (v : V) : SV → Prop
  | .fz d => Dq K FH2 v d
  | .ow ds => ∃ p vs, v = .ref p ∧ FH2 p = none ∧ H2 p = some (.lst vs) ∧ DqAll K FH2 vs ds ∧ H p = none
  | .nd r i t => ∃ p c vr vt, v = .ref p ∧ FH2 p = none ∧ FH2 c = none ∧ H2 p = some (.lst [vr, .ref c, vt]) ∧ H2 c = some (.lst [.int i]) ∧ Dq K FH2 vr r ∧ Dq K FH2 vt t ∧ H p = none ∧ H c = none ∧ p ≠ c
  | .deal => False
/-- a def's promise: it does what sem says -/
abbrev XCT := Rho → Hp → Hp → Exn → G → XK → Prop
def spF (K : PySem.W.Frag) (XC : XCT) (lw : Bool) (ar : Nat) (sem : List SV → G → FOut) : Sp := fun vs H Q E => ∃ (ρ : Rho) (FH : Hp) (as : List SV) (g : G), (lw = true → ρ = none) ∧ Sub FH H ∧ (∀ dl c, ρ = some (dl, c) → DeckOk K FH H dl c g) ∧ ArgAll K ρ FH vs as ∧ as.length = ar ∧
  match sem as g with
  | .ok r g2 => ∀ v FH2 H2, Ext ρ FH H FH2 H2 → Sub FH2 H2 → (∀ dl c, ρ = some (dl, c) → DeckOk K FH2 H2 dl c g2) → RetOk K H FH2 H2 v r → Q v H2
  | .exc e g2 => XC ρ FH H e g2 E
  | .stuck => False
theorem spF_len {K : PySem.W.Frag} {XC : XCT} {lw : Bool} {ar : Nat} {sem : List SV → G → FOut} : ∀ vs H Q E, spF K XC lw ar sem vs H Q E → vs.length = ar := fun vs H Q E h => by
  obtain ⟨ρ, FH, as, g, _, _, _, h3, h4, _⟩ := h
  rw [h3.len, h4]
/-- behind a call -/
theorem Rep.after (R : Rep Y ρ FH H σ' σ g) (e : Ext ρ FH H FH2 H2) (s : Sub FH2 H2) (d : ∀ dl c, ρ = some (dl, c) → DeckOk Y.K FH2 H2 dl c g2) : Rep Y ρ FH2 H2 σ' σ g2 := by
  have nf : ∀ p vs, H p = some (HO.lst vs) → FH p = none → FH2 p = none := fun p vs h1 h2 => by
    cases q : FH2 p with
    | none => rfl
    | some o =>
      rcases e.new p o q with z | z
      · rw [h2] at z
        cases z
      · rw [h1] at z
        cases z
  refine ⟨s, R.len, fun i d' h => ?_, fun i ds h => ?_, R.dis, R.nond, R.dl, d, ⟨R.ext.fsub.trans e.fsub, fun a o h hc => ?_, fun a o h => ?_, fun a o h => ?_⟩, R.rho, R.cf, fun p vs h => ?_⟩
  · obtain ⟨v, h1, h2⟩ := R.fz i d' h
    exact ⟨v, h1, Dq.up e.fsub d' h2⟩
  · obtain ⟨p, vs, h1, h2, h3, h4, h5, h6⟩ := R.ow i ds h
    exact ⟨p, vs, h1, nf p vs h3 h2, e.hsub p _ h3 h6, DqAll.up e.fsub ds h4, h5, h6⟩
  · refine e.hsub a o (R.ext.hsub a o h hc) fun dl c hr => ?_
    rcases R.cf dl c hr with z | z
    · exact hc dl c z
    · intro w
      rw [w, z] at h
      cases h
  · rcases e.new a o h with z | z
    · exact R.ext.new a o z
    · right
      cases q : Y.H0 a with
      | none => rfl
      | some u =>
        obtain ⟨o', w⟩ := R.ext.there a u q
        rw [z] at w
        cases w
  · obtain ⟨o', q⟩ := R.ext.there a o h
    exact e.there a o' q
  · obtain ⟨h1, h2, h3, h4⟩ := R.pend p vs h
    exact ⟨e.hsub p _ h1 h4.1, nf p vs h1 h2, h3, h4⟩
theorem RetOk.own (R : Rep Y ρ FH H σ' σ g) {v : V} {r : SV} (h : RetOk Y.K H FH2 H2 v r) : RelO Y ρ FH2 H2 σ' σ v r := by
  cases r with
  | fz d => exact h
  | ow ds =>
    obtain ⟨p, vs, rfl, h1, h2, h3, h4⟩ := h
    exact ⟨p, vs, rfl, h1, h2, h3, R.old h4, R.cellNe h4, R.slotNe h4, R.pdNe h4⟩
  | nd r i t =>
    obtain ⟨p, c, vr, vt, rfl, h1, h2, h3, h4, h5, h6, h7, h8, h9⟩ := h
    exact ⟨p, c, vr, vt, rfl, h1, h2, h3, h4, h5, h6, R.old h7, R.old h8, h9, fun j es hj => ⟨R.slotNe h7 j es hj, R.slotNe h8 j es hj⟩, fun dl c' hr => ⟨R.cellNe h7 dl c' hr, R.cellNe h8 dl c' hr⟩, R.pdNe h7, R.pdNe h8⟩
  | deal => exact h.elim
theorem snd_cCall {t : TA} {r : Ev (List SV)} {ct : CT} {k ar : Nat} {XC : XCT} {E : St → XK} (hr : SndAS Y t r)
    (har : ∀ as g, ct k as g ≠ .stuck → as.length = ar)
    (hx : ∀ (e : Exn) (σ : Sl) (g g3 : G) (ρ : Rho) (FH H : Hp) (σ' : St), Y.Ex e σ g3 → Rep Y ρ FH H σ' σ g → XC ρ FH H e g3 (E σ')) :
    SndE Y (RelO Y) (L2.tCallSD (spF Y.K XC false ar (ct k)) [] E t) (cCall ct k r) := by
  intro ρ FH H σ' σ g Q R hg
  refine hr ρ FH H σ' σ g _ R (hg.bind.mono fun as σ2 g2 q vs FH2 H2 R2 S Ev rel => ?_)
  show spF Y.K XC false ar (ct k) (vs ++ []) H2 Q (E σ')
  rw [List.append_nil]
  refine ⟨ρ, FH2, as, g2, (fun z => nomatch z), R2.sub, R2.deck, rel, har as g2 ?_, ?_⟩
  · intro z
    rw [z] at q
    exact q
  · cases e : ct k as g2 with
    | ok v g3 =>
      rw [e] at q
      intro w FH3 H3 x s d ro
      exact q w FH3 H3 (R2.after x s d) (S.trans x.fsub) Ev (ro.own R2)
    | exc e' g3 =>
      rw [e] at q
      exact hx e' σ2 g2 g3 ρ FH2 H2 σ' q R2
    | stuck =>
      rw [e] at q
      exact q
/-! ### the deck -/
theorem snd_cVIx {i : Nat} {tb : TE} {f : Ev D} (hb : SndE Y (RelP Y) tb f) : SndE Y (RelO Y) (tOp (L2.rIx Y.K) (tVar i) tb) (cVIx i f) := by
  intro ρ FH H σ' σ g Q R hg
  unfold cVIx at hg
  split at hg
  · rename_i e
    obtain ⟨dl, c, h1, h2⟩ := R.dl i e
    refine ⟨_, h2, hb ρ FH H σ' σ g _ R (hg.bind.mono fun b σ2 g2 q u FH2 H2 R2 S E rel => ?_)⟩
    obtain ⟨vr, vt, q1, q2, q3, q4, q5⟩ := R2.deck dl c h1
    have hs : SqL Y.K H2 dl [vr, .ref c, vt] := .inl (.inl (R2.sub _ _ q1))
    split at q
    · rw [rel.int]
      exact .inl ⟨dl, _, 0, vr, rfl, rfl, hs, L2.atI_nat (j := 0) rfl, q _ FH2 H2 R2 S E q2⟩
    · rw [rel.int]
      exact .inl ⟨dl, _, 2, vt, rfl, rfl, hs, L2.atI_nat (j := 2) rfl, q _ FH2 H2 R2 S E q3⟩
    · exact q.elim
  · exact snd_c2 snd_cVP hb o2_ix ρ FH H σ' σ g Q R hg
theorem snd_cV10 {i : Nat} : SndE Y (RelO Y) (tOp (L2.rIx Y.K) (tOp (L2.rIx Y.K) (tVar i) (tC (.int 1))) (tC (.int 0))) (cV10 i) := by
  intro ρ FH H σ' σ g Q R hg
  unfold cV10 at hg
  split at hg
  · rename_i e
    obtain ⟨dl, c, h1, h2⟩ := R.dl i e
    obtain ⟨vr, vt, q1, q2, q3, q4, q5⟩ := R.deck dl c h1
    have hs : SqL Y.K H dl [vr, .ref c, vt] := .inl (.inl (R.sub _ _ q1))
    exact ⟨_, h2, .inl ⟨dl, _, 1, .ref c, rfl, rfl, hs, L2.atI_nat (j := 1) rfl, .inl ⟨c, _, 0, .int g.at_, rfl, rfl, .inl (.inl q5), L2.atI_nat (j := 0) rfl, hg _ FH H R (Sub.refl _) (Evo.refl _) (.int _)⟩⟩⟩
  · exact snd_c2 (snd_P (snd_cD (snd_c2 snd_cVP (snd_P (snd_cD (snd_cK (.int 1)))) o2_ix))) (snd_P (snd_cD (snd_cK (.int 0)))) o2_ix ρ FH H σ' σ g Q R hg
end
end
end FD
/-! FD9: comprehensions. -/
namespace FD
noncomputable section
open PySem
open L2 (Hp HO V upd upd_same upd_ne ne_of_none Rd SqL SqT Vals RelV VK TE TT TA TS TG TGs St XK Cx PE PT PW PA PS PSs PG PGs PI Inv OpR UnR CallR R2 rI0 rI tOp tUn tVar tC tCB tCons tNil SlR IxR MtR It TI XK Sp wipe tLc)
section
variable {Y : Yx} {ρ : Rho} {FH H FH2 H2 : Hp} {σ' : St} {σ σ2 : Sl} {g g2 : G}
/-- within a comprehension whose list at p holds acc; no exception leaves -/
def Yx.under (Y : Yx) (p : Addr) (acc : List V) : Yx := { Y with Ex := fun _ _ _ => False, pd := fun q => if q = p then some acc else Y.pd q }
theorem Rep.toUnder (R : Rep Y ρ FH H σ' σ g) {p : Addr} {acc : List V} (F : FH p = none) (hp : H p = some (.lst acc)) (h0 : Y.H0 p = none) (hc : ∀ dl c, ρ = some (dl, c) → p ≠ c) (hs : ∀ (i : Nat) (es : List D), σ[i]? = some (some (.ow es)) → σ'[i]? ≠ some (some (.ref p))) :
    Rep (Y.under p acc) ρ FH H σ' σ g :=
  ⟨R.sub, R.len, R.fz, R.ow, R.dis, R.nond, R.dl, R.deck, R.ext, R.rho, R.cf, fun q vs h => by
    have h : (if q = p then some acc else Y.pd q) = some vs := h
    by_cases z : q = p
    · rw [if_pos z] at h
      cases h
      subst z
      exact ⟨hp, F, hs, hc, h0⟩
    · rw [if_neg z] at h
      exact R.pend q vs h⟩
theorem Rep.ofUnder {p : Addr} {acc : List V} (R : Rep (Y.under p acc) ρ FH H σ' σ g) (hn : Y.pd p = none) : Rep Y ρ FH H σ' σ g :=
  ⟨R.sub, R.len, R.fz, R.ow, R.dis, R.nond, R.dl, R.deck, R.ext, R.rho, R.cf, fun q vs h => R.pend q vs (by
    show (if q = p then some acc else Y.pd q) = some vs
    by_cases z : q = p
    · rw [z, hn] at h
      cases h
    · rw [if_neg z]
      exact h)⟩
theorem Rep.underAt {p : Addr} {acc : List V} (R : Rep (Y.under p acc) ρ FH H σ' σ g) : H p = some (.lst acc) ∧ FH p = none ∧ (∀ (i : Nat) (es : List D), σ[i]? = some (some (.ow es)) → σ'[i]? ≠ some (some (.ref p))) ∧ (∀ dl c, ρ = some (dl, c) → p ≠ c) ∧ Y.H0 p = none :=
  R.pend p acc (by
    show (if p = p then some acc else Y.pd p) = some acc
    rw [if_pos rfl])
/-- the list under way grows -/
theorem Rep.grow {p : Addr} {acc acc2 : List V} (R : Rep (Y.under p acc) ρ FH H σ' σ g) : Rep (Y.under p acc2) ρ FH (upd H p (.lst acc2)) σ' σ g := by
  obtain ⟨a1, a2, a3, a4, a5⟩ := R.underAt
  refine ⟨R.sub.upd2 a2, R.len, R.fz, fun i ds h => ?_, R.dis, R.nond, R.dl, fun dl c h => ?_, ⟨R.ext.fsub, fun a u h hc => ?_, R.ext.new, fun a u h => ?_⟩, R.rho, R.cf, fun q vs h => ?_⟩
  · obtain ⟨q, vs, h1, h2, h3, h4, h5, h6⟩ := R.ow i ds h
    have z : q ≠ p := fun e => a3 i ds h (by rw [h1, e])
    exact ⟨q, vs, h1, h2, by rw [upd_ne z]; exact h3, h4, h5, h6⟩
  · obtain ⟨vr, vt, h1, h2, h3, h4, h5⟩ := R.deck dl c h
    exact ⟨vr, vt, h1, h2, h3, h4, by rw [upd_ne (a4 dl c h).symm]; exact h5⟩
  · have z : a ≠ p := fun e => by
      have h : Y.H0 a = some u := h
      rw [e, a5] at h
      cases h
    rw [upd_ne z]
    exact R.ext.hsub a u h hc
  · have z : a ≠ p := fun e => by
      have h : Y.H0 a = some u := h
      rw [e, a5] at h
      cases h
    rw [upd_ne z]
    exact R.ext.there a u h
  · have h : (if q = p then some acc2 else Y.pd q) = some vs := h
    by_cases z : q = p
    · rw [if_pos z] at h
      cases h
      subst z
      exact ⟨upd_same, a2, a3, a4, a5⟩
    · rw [if_neg z] at h
      have h' : (Y.under p acc).pd q = some vs := by
        show (if q = p then some acc else Y.pd q) = some vs
        rw [if_neg z]
        exact h
      obtain ⟨b1, b2, b3, b4⟩ := R.pend q vs h'
      exact ⟨by rw [upd_ne z]; exact b1, b2, b3, b4⟩
theorem good_noX {α : Type} {o : Out α} {P : α → Sl → G → Prop} (h : Good Y (noX o) P) (p : Addr) (acc : List V) : Good (Y.under p acc) o P := by
  cases o with
  | ok a σ g => exact h
  | exc e σ g => exact h.elim
  | stuck => exact h.elim
/-- as Evo, but for the slots of vs -/
def EvoX (vs : List Nat) (σ σ2 : Sl) : Prop := σ2.length = σ.length ∧ ∀ i : Nat, i ∉ vs → σ2[i]? = σ[i]? ∨ ∃ ds, σ[i]? = some (some (.ow ds)) ∧ σ2[i]? = some (some (.fz (.list ds)))
theorem EvoX.step {vs : List Nat} {a b c d : Sl} (h : EvoX vs a b) (ag : Agree vs b c) (e : Evo c d) : EvoX vs a (wipeS d vs) := by
  refine ⟨by rw [wipeS_len, e.1, ← ag.1, h.1], fun i hi => ?_⟩
  rw [wipeS_get, if_neg (fun z => hi z.1)]
  rcases e.2 i with q | ⟨ds, q1, q2⟩
  · rw [q, ← ag.2 i hi]
    exact h.2 i hi
  · rw [← ag.2 i hi] at q1
    rcases h.2 i hi with z | ⟨es, z1, z2⟩
    · rw [z] at q1
      exact .inr ⟨ds, q1, q2⟩
    · rw [z2] at q1
      cases q1
theorem backS_len (σ0 σ : Sl) : ∀ vs, (backS σ0 σ vs).length = σ.length
  | [] => rfl
  | v :: vs => by
    unfold backS
    split
    · rw [List.length_set, backS_len σ0 σ vs]
    · exact backS_len σ0 σ vs
theorem backS_get {σ0 σ : Sl} (hl : σ0.length = σ.length) : ∀ (vs : List Nat) (i : Nat), (backS σ0 σ vs)[i]? = if i ∈ vs then σ0[i]? else σ[i]?
  | [], i => by simp [backS]
  | v :: vs, i => by
    have ih := backS_get hl vs i
    unfold backS
    have e : (i ∈ v :: vs) ↔ (i = v ∨ i ∈ vs) := List.mem_cons
    split
    · rename_i o ho
      by_cases z : v = i
      · subst z
        have w : v < σ.length := by rw [← hl]; exact (List.getElem?_eq_some_iff.mp ho).1
        rw [List.getElem?_set_self (by rw [backS_len]; exact w), if_pos List.mem_cons_self, ho]
      · rw [List.getElem?_set_ne z, ih]
        have e' : (i ∈ v :: vs) ↔ i ∈ vs := ⟨fun h => (e.mp h).resolve_left (fun q => z q.symm), fun h => e.mpr (.inr h)⟩
        simp only [e']
    · rename_i ho
      rw [ih]
      by_cases z : i = v
      · subst z
        have w : σ.length ≤ i := by rw [← hl]; exact List.getElem?_eq_none_iff.mp ho
        rw [if_pos List.mem_cons_self, ho]
        split
        · rfl
        · exact List.getElem?_eq_none w
      · have e' : (i ∈ v :: vs) ↔ i ∈ vs := ⟨fun h => (e.mp h).resolve_left z, fun h => e.mpr (.inr h)⟩
        simp only [e']
theorem idle_get {σ : Sl} : ∀ {vs : List Nat}, idleS σ vs = true → ∀ i ∈ vs, ∀ x, σ[i]? = some (some x) → ∃ d, x = .fz d
  | [], _, i, hi, _, _ => by simp at hi
  | v :: vs, h, i, hi, x, hx => by
    unfold idleS at h
    rw [Bool.and_eq_true] at h
    rcases List.mem_cons.mp hi with rfl | hi
    · have h1 := h.1
      rw [hx] at h1
      cases x with
      | fz d => exact ⟨d, rfl⟩
      | _ => simp at h1
    · exact idle_get h.2 i hi x hx
theorem wipe_agree (vs : List Nat) (a : St) : Agree vs a (wipe a vs) := ⟨(wipe_len a vs).symm, fun i hi => by rw [wipe_get, if_neg (fun z => hi z.1)]⟩

theorem snd_cLc {it : Ev (List D)} {vs : List Nat} {tg : TgF} {t : Ev Bool} {f : Ev D} {wi : TI} {gt : TG} {tt : TT} {te : TE} (hi : SndI Y wi it) (hg' : ∀ p acc, SndG (Y.under p acc) vs gt tg) (ht : ∀ p acc, SndT (Y.under p acc) tt t)
    (he : ∀ p acc, SndE (Y.under p acc) (RelD (Y.under p acc)) te f) : SndE Y (RelO Y) (tLc wi gt tt te vs) (cLc it vs tg t f) := by
  intro ρ FH H σ' σ g Q R hg
  refine hi ρ FH H σ' σ g _ R (hg.bind.mono fun xs σ1 g1 q J FH1 H1 R1 S1 E1 io => ?_)
  split at q
  next idle =>
    intro Dp hD
    have q0 := (good_noX q Dp []).bind
    -- what holds between two turns
    let P : List D → Sl → G → Prop := fun ys σ2 g2 => Good Y (Out.ok (SV.ow ys) (backS σ1 σ2 vs) g2) (fun a σ3 g3 => ∀ v FH2 H2, Rep Y ρ FH2 H2 σ' σ3 g3 → Sub FH FH2 → Evo σ σ3 → RelO Y ρ FH2 H2 σ' σ3 v a → Q v H2)
    refine ⟨fun i m Hi => ∃ (σi : Sl) (gi : G) (FHi : Hp) (av : List V) (ad : List D), m = xs.length - i ∧ i ≤ xs.length ∧ Rep (Y.under Dp av) ρ FHi Hi (wipe σ' vs) σi gi ∧ Sub FH1 FHi ∧ EvoX vs σ1 σi ∧ DqAll Y.K FHi av ad ∧
      Good (Y.under Dp av) (compL tg t f vs (xs.drop i) ad σi gi) P, ?_, ?_⟩
    · refine ⟨_, wipeS σ1 vs, g1, FH1, [], [], rfl, Nat.zero_le _, ?_, Sub.refl _, ⟨wipeS_len _ _, fun i hi => .inl (by rw [wipeS_get, if_neg (fun z => hi z.1)])⟩, .nil, q0⟩
      have R2 : Rep Y ρ FH1 (upd H1 Dp (.lst [])) σ' σ1 g1 := R1.newL hD
      have R3 : Rep Y ρ FH1 (upd H1 Dp (.lst [])) (wipe σ' vs) (wipeS σ1 vs) g1 := R2.forget (by rw [wipe_len, wipeS_len]; exact R1.len) fun i x h => by
        rw [wipeS_get] at h
        split at h
        · cases h
        · rename_i z
          refine ⟨h, ?_⟩
          have hlt : i < σ1.length := (List.getElem?_eq_some_iff.mp h).1
          rw [wipe_get, if_neg (fun w => z ⟨w.1, hlt⟩)]
      refine R3.toUnder (R1.sub.free hD) upd_same (R1.old hD) (R1.cellNe hD) fun i es h e => ?_
      obtain ⟨p, ws, h1, _, h3, _⟩ := R3.ow i es h
      rw [h1] at e
      cases e
      rw [wipeS_get] at h
      by_cases w : i ∈ vs ∧ i < σ1.length
      · rw [if_pos w] at h
        cases h
      · rw [if_neg w] at h
        obtain ⟨p2, ws2, z1, _, z3, _⟩ := R1.ow i es h
        have hlt : i < σ1.length := (List.getElem?_eq_some_iff.mp h).1
        rw [wipe_get, if_neg (fun y => w ⟨y.1, hlt⟩), z1] at h1
        cases h1
        rw [hD] at z3
        cases z3
    · rintro i m Hi ⟨σi, gi, FHi, av, ad, rfl, hle, Ri, Si, Ei, Ai, Gi⟩
      obtain ⟨d1, d2, d3, d4, d5⟩ := Ri.underAt
      have io' := io Y rfl i ρ FHi Hi _ σi gi (Ri.ofUnder (Y := Y) (R1.pdNe hD)) Si
      by_cases hlt : i < xs.length
      · -- one more turn
        obtain ⟨go, yl⟩ := io'.1 xs[i] (List.getElem?_eq_getElem hlt)
        refine .inr ⟨go, fun H' => ∃ (σj : Sl) (gj : G) (FHj : Hp) (av : List V) (ad : List D), Rep (Y.under Dp av) ρ FHj H' (wipe σ' vs) σj gj ∧ Sub FH1 FHj ∧ EvoX vs σ1 σj ∧ DqAll Y.K FHj av ad ∧ Good (Y.under Dp av) (compL tg t f vs (xs.drop (i + 1)) ad σj gj) P,
          fun H' ⟨σj, gj, FHj, av, ad, w1, w2, w3, w4, w5⟩ => ⟨xs.length - (i + 1), by omega, σj, gj, FHj, av, ad, rfl, hlt, w1, w2, w3, w4, w5⟩, fun x H' y => ?_⟩
        obtain ⟨FH', nr⟩ := yl x H' y
        obtain ⟨R', S'⟩ := Ri.res (Y := Y.under Dp av) nr
        have Gi2 : Good (Y.under Dp av) ((tg xs[i] σi gi).bind fun _ σ1 g1 => (t σ1 g1).bind fun b σ2 g2 =>
            if b = true then (f σ2 g2).bind fun y σ3 g3 => if ad.length < 16777216 then compL tg t f vs (xs.drop (i + 1)) (ad ++ [y]) (wipeS σ3 vs) g3 else .stuck
            else compL tg t f vs (xs.drop (i + 1)) ad (wipeS σ2 vs) g2) P := by
          rw [List.drop_eq_getElem_cons hlt] at Gi
          exact Gi
        refine hg' Dp av ρ FH' H' _ σi gi x xs[i] _ R' nr.1 (Gi2.bind.mono fun _ σ2 g2 q2 σ2' FH2 H2 R2 S2 A1 A2 => ?_)
        have ew : wipe σ2' vs = wipe σ' vs := by
          rw [← A1.wipe]
          exact ((wipe_agree vs σ').wipe).symm
        refine ⟨by rw [ew], ?_⟩
        refine ht Dp av ρ FH2 H2 σ2' σ2 g2 _ R2 (q2.bind.mono fun b σ3 g3 q3 FH3 H3 R3 S3 E3 => ?_)
        -- the slots at a turn's end
        have endSlots : ∀ {σ4 : Sl} {g4 : G} {FH4 H4 : Hp} {acc : List V}, Rep (Y.under Dp acc) ρ FH4 H4 σ2' σ4 g4 → Evo σ2 σ4 → Rep (Y.under Dp acc) ρ FH4 H4 (wipe σ' vs) (wipeS σ4 vs) g4 := fun {σ4 g4 FH4 H4 acc} R4 E4 => by
          refine R4.forget ?_ fun j z h => ?_
          · have := R4.len
            rw [wipeS_len, ← this, wipe_len]
            have a := A1.1
            rw [wipe_len] at a
            exact a
          · rw [wipeS_get] at h
            split at h
            · cases h
            · rename_i w
              refine ⟨h, ?_⟩
              have hlt : j < σ4.length := (List.getElem?_eq_some_iff.mp h).1
              have hj : j ∉ vs := fun y => w ⟨y, hlt⟩
              exact A1.2 j hj
        cases b with
        | true =>
          rw [if_pos rfl] at q3 ⊢
          refine he Dp av ρ FH3 H3 σ2' σ3 g3 _ R3 (q3.bind.mono fun y' σ4 g4 q4 v4 FH4 H4 R4 S4 E4 rel => ?_)
          split at q4
          next hsz =>
            have all := ((S'.trans S2).trans S3).trans S4
            refine ⟨av, R4.underAt.1, by rw [Ai.len, sl16]; exact hsz, wipeS σ4 vs, g4, FH4, av ++ [v4], ad ++ [y'], (endSlots R4 (E3.trans E4)).grow, Si.trans all, Ei.step A2 (E3.trans E4), (DqAll.up all _ Ai).app (.one rel), ?_⟩
            exact q4
          next => exact q4.elim
        | false =>
          rw [if_neg Bool.false_ne_true] at q3 ⊢
          have all := (S'.trans S2).trans S3
          exact ⟨wipeS σ3 vs, g3, FH3, av, ad, endSlots R3 E3, Si.trans all, Ei.step A2 E3, DqAll.up all _ Ai, q3⟩
      · -- the end
        have e : i = xs.length := by omega
        subst e
        refine .inl ⟨io'.2 (Nat.le_refl _), ?_⟩
        rw [List.drop_length] at Gi
        have fin : P ad σi gi := Gi
        have hl : σ1.length = σi.length := Ei.1.symm
        have Rb := Ri.ofUnder (Y := Y) (R1.pdNe hD)
        have slot : ∀ (j : Nat) (x : SV), (backS σ1 σi vs)[j]? = some (some x) → (j ∈ vs ∧ σ1[j]? = some (some x) ∧ ∃ d, x = .fz d) ∨ (j ∉ vs ∧ σi[j]? = some (some x) ∧ (wipe σ' vs)[j]? = σ'[j]?) := fun j x h => by
          rw [backS_get hl] at h
          by_cases z : j ∈ vs
          · rw [if_pos z] at h
            exact .inl ⟨z, h, idle_get idle j z x h⟩
          · rw [if_neg z] at h
            exact .inr ⟨z, h, by rw [wipe_get, if_neg (fun y => z y.1)]⟩
        have R3 : Rep Y ρ FHi Hi σ' (backS σ1 σi vs) gi := by
          refine ⟨Rb.sub, by rw [backS_len, ← hl]; exact R1.len, fun j d h => ?_, fun j es h => ?_, fun j k es fs p a1 a2 a3 a4 => ?_, fun j r a t h => ?_, fun j h => ?_, Rb.deck, Rb.ext, Rb.rho, Rb.cf, fun p ws h => ?_⟩
          · rcases slot j _ h with ⟨_, z, _⟩ | ⟨_, z, w⟩
            · obtain ⟨v, b1, b2⟩ := R1.fz j d z
              exact ⟨v, b1, Dq.up Si d b2⟩
            · rw [← w]
              exact Rb.fz j d z
          · rcases slot j _ h with ⟨_, _, d, z⟩ | ⟨_, z, w⟩
            · cases z
            · rw [← w]
              exact Rb.ow j es z
          · rcases slot j _ a1 with ⟨_, _, d, z⟩ | ⟨_, z1, w1⟩
            · cases z
            · rcases slot k _ a2 with ⟨_, _, d, z⟩ | ⟨_, z2, w2⟩
              · cases z
              · rw [← w1] at a3
                rw [← w2] at a4
                exact Rb.dis j k es fs p z1 z2 a3 a4
          · rcases slot j _ h with ⟨_, _, d, z⟩ | ⟨_, z, _⟩
            · cases z
            · exact Rb.nond j r a t z
          · rcases slot j _ h with ⟨_, _, d, z⟩ | ⟨_, z, w⟩
            · cases z
            · rw [← w]
              exact Rb.dl j z
          · obtain ⟨b1, b2, b3, b4⟩ := Rb.pend p ws h
            refine ⟨b1, b2, fun j es hj => ?_, b4⟩
            rcases slot j _ hj with ⟨_, _, d, z⟩ | ⟨_, z, w⟩
            · cases z
            · rw [← w]
              exact b3 j es z
        refine fin (.ref Dp) FHi Hi R3 (S1.trans Si) (E1.trans ⟨by rw [backS_len, hl], fun j => ?_⟩) ⟨Dp, av, rfl, d2, d1, Ai, d5, d4, fun j es hj => ?_, R1.pdNe hD⟩
        · rw [backS_get hl]
          by_cases z : j ∈ vs
          · rw [if_pos z]
            exact .inl rfl
          · rw [if_neg z]
            exact Ei.2 j z
        · rcases slot j _ hj with ⟨_, _, d, z⟩ | ⟨_, z, w⟩
          · cases z
          · rw [← w]
            exact d3 j es z
  next => exact q.elim
end
end
end FD
/-! FD9b: comprehensions of two clauses. -/
namespace FD
noncomputable section
open PySem
open L2 (Hp HO V upd upd_same upd_ne ne_of_none Rd SqL SqT Vals RelV VK TE TT TA TS TG TGs St XK Cx PE PT PW PA PS PSs PG PGs PI Inv OpR UnR CallR R2 rI0 rI tOp tUn tVar tC tCB tCons tNil SlR IxR MtR It TI XK Sp wipe tLc tLc2)
/-- for x in .. if t: for y in it1 if t1: f -/
def compL2 (tg : TgF) (t : Ev Bool) (it1 : Ev (List D)) (tg1 : TgF) (t1 : Ev Bool) (f : Ev D) (vs vs1 : List Nat) : List D → List D → Ev (List D)
  | [], acc, σ, g => .ok acc σ g
  | x :: xs, acc, σ, g => (tg x σ g).bind fun _ σ1 g1 => (t σ1 g1).bind fun b σ2 g2 =>
      if b = true then (it1 σ2 g2).bind fun ys σ3 g3 => (compL tg1 t1 f vs1 ys acc (wipeS σ3 vs1) g3).bind fun acc2 σ4 g4 => compL2 tg t it1 tg1 t1 f vs vs1 xs acc2 (wipeS σ4 vs) g4
      else compL2 tg t it1 tg1 t1 f vs vs1 xs acc (wipeS σ2 vs) g2
def cLc2 (it : Ev (List D)) (vs vs1 : List Nat) (tg : TgF) (t : Ev Bool) (it1 : Ev (List D)) (tg1 : TgF) (t1 : Ev Bool) (f : Ev D) : Ev SV := fun σ g => (it σ g).bind fun xs σ1 g1 =>
  if idleS σ1 vs = true then noX ((compL2 tg t it1 tg1 t1 f vs vs1 xs [] (wipeS σ1 vs) g1).bind fun ys σ2 g2 => .ok (.ow ys) (backS σ1 σ2 vs) g2) else .stuck
section
variable {Y : Yx} {ρ : Rho} {FH H FH2 H2 : Hp} {σ' : St} {σ σ2 : Sl} {g g2 : G}
theorem EvoX.refl (vs : List Nat) (σ : Sl) : EvoX vs σ σ := ⟨rfl, fun _ _ => .inl rfl⟩
theorem EvoX.trans {vs : List Nat} {a b c : Sl} (h : EvoX vs a b) (h2 : EvoX vs b c) : EvoX vs a c := by
  refine ⟨h2.1.trans h.1, fun i hi => ?_⟩
  rcases h2.2 i hi with q | ⟨ds, q1, q2⟩
  · rw [q]; exact h.2 i hi
  · rcases h.2 i hi with z | ⟨es, z1, z2⟩
    · rw [z] at q1; exact .inr ⟨ds, q1, q2⟩
    · rw [z2] at q1; cases q1
/-- the slots' own part: a wiped frame for a wiped frame -/
theorem rep_wipe {vs : List Nat} {p : Addr} {acc : List V} (R : Rep (Y.under p acc) ρ FH H σ' σ g) : Rep (Y.under p acc) ρ FH H (wipe σ' vs) (wipeS σ vs) g :=
  R.forget (by rw [wipe_len, wipeS_len]; exact R.len) fun i x h => by
    rw [wipeS_get] at h
    split at h
    · cases h
    · rename_i z
      refine ⟨h, ?_⟩
      have hlt : i < σ.length := (List.getElem?_eq_some_iff.mp h).1
      rw [wipe_get, if_neg (fun w => z ⟨w.1, hlt⟩)]
/-- the inner walk -/
theorem snd_in {vs1 : List Nat} {tg1 : TgF} {t1 : Ev Bool} {f : Ev D} {g1t : TG} {tt1 : TT} {te : TE} (hg' : ∀ p acc, SndG (Y.under p acc) vs1 g1t tg1) (ht : ∀ p acc, SndT (Y.under p acc) tt1 t1)
    (he : ∀ p acc, SndE (Y.under p acc) (RelD (Y.under p acc)) te f) {Dp : Addr} (hpd : Y.pd Dp = none) {J : It} {ys : List D} {σb : St} {FH1 : Hp} {σ1 : Sl} (io : ItOk Y J FH1 ys)
    {P : List D → Sl → G → Prop} {Nx : Hp → Prop}
    (fin : ∀ (ad : List D) (σ4 : Sl) (g4 : G) (av : List V) (FH4 H4 : Hp), P ad σ4 g4 → Rep (Y.under Dp av) ρ FH4 H4 (wipe σb vs1) σ4 g4 → Sub FH1 FH4 → EvoX vs1 σ1 σ4 → DqAll Y.K FH4 av ad → Nx H4)
    {av0 : List V} {ad0 : List D} {σ0 : Sl} {g0 : G} {H1 : Hp} (R0 : Rep (Y.under Dp av0) ρ FH1 H1 (wipe σb vs1) σ0 g0) (E0 : EvoX vs1 σ1 σ0) (A0 : DqAll Y.K FH1 av0 ad0)
    (G0 : Good (Y.under Dp av0) (compL tg1 t1 f vs1 ys ad0 σ0 g0) P) :
    ∃ W1 : Nat → Nat → Hp → Prop, (∃ m, W1 0 m H1) ∧ ∀ j k H, W1 j k H →
      (J.stop j H ∧ Nx H) ∨ (J.go j H ∧ ∃ Nx1 : Hp → Prop, (∀ H', Nx1 H' → ∃ k', k' < k ∧ W1 (j + 1) k' H') ∧ ∀ x H', J.yld j H x H' → g1t x (wipe σb vs1) H' fun σ3 H5 => wipe σ3 vs1 = wipe σb vs1 ∧ tt1 σ3 H5 fun b H6 =>
        if b = true then te σ3 H6 fun y H7 => ∃ acc, H7 Dp = some (.lst acc) ∧ acc.length < sizeLine ∧ Nx1 (upd H7 Dp (.lst (acc ++ [y]))) else Nx1 H6) := by
  refine ⟨fun j k Hi => ∃ (σi : Sl) (gi : G) (FHi : Hp) (av : List V) (ad : List D), k = ys.length - j ∧ j ≤ ys.length ∧ Rep (Y.under Dp av) ρ FHi Hi (wipe σb vs1) σi gi ∧ Sub FH1 FHi ∧ EvoX vs1 σ1 σi ∧ DqAll Y.K FHi av ad ∧
      Good (Y.under Dp av) (compL tg1 t1 f vs1 (ys.drop j) ad σi gi) P, ⟨_, σ0, g0, FH1, av0, ad0, rfl, Nat.zero_le _, R0, Sub.refl _, E0, A0, G0⟩, ?_⟩
  rintro j m Hi ⟨σi, gi, FHi, av, ad, rfl, hle, Ri, Si, Ei, Ai, Gi⟩
  have io' := io j ρ FHi Hi _ σi gi (Ri.ofUnder (Y := Y) hpd) Si
  by_cases hlt : j < ys.length
  · obtain ⟨go, yl⟩ := io'.1 ys[j] (List.getElem?_eq_getElem hlt)
    refine .inr ⟨go, fun H' => ∃ (σj : Sl) (gj : G) (FHj : Hp) (av : List V) (ad : List D), Rep (Y.under Dp av) ρ FHj H' (wipe σb vs1) σj gj ∧ Sub FH1 FHj ∧ EvoX vs1 σ1 σj ∧ DqAll Y.K FHj av ad ∧ Good (Y.under Dp av) (compL tg1 t1 f vs1 (ys.drop (j + 1)) ad σj gj) P,
      fun H' ⟨σj, gj, FHj, av, ad, w1, w2, w3, w4, w5⟩ => ⟨ys.length - (j + 1), by omega, σj, gj, FHj, av, ad, rfl, hlt, w1, w2, w3, w4, w5⟩, fun x H' y => ?_⟩
    obtain ⟨FH', nr⟩ := yl x H' y
    obtain ⟨R', S'⟩ := Ri.res (Y := Y.under Dp av) nr
    have Gi2 : Good (Y.under Dp av) ((tg1 ys[j] σi gi).bind fun _ σ1 g1 => (t1 σ1 g1).bind fun b σ2 g2 =>
        if b = true then (f σ2 g2).bind fun y σ3 g3 => if ad.length < 16777216 then compL tg1 t1 f vs1 (ys.drop (j + 1)) (ad ++ [y]) (wipeS σ3 vs1) g3 else .stuck
        else compL tg1 t1 f vs1 (ys.drop (j + 1)) ad (wipeS σ2 vs1) g2) P := by
      rw [List.drop_eq_getElem_cons hlt] at Gi
      exact Gi
    refine hg' Dp av ρ FH' H' _ σi gi x ys[j] _ R' nr.1 (Gi2.bind.mono fun _ σ2 g2 q2 σ2' FH2 H2 R2 S2 A1 A2 => ?_)
    have ew : wipe σ2' vs1 = wipe σb vs1 := by
      rw [← A1.wipe]
      exact ((wipe_agree vs1 σb).wipe).symm
    refine ⟨ew, ?_⟩
    refine ht Dp av ρ FH2 H2 σ2' σ2 g2 _ R2 (q2.bind.mono fun b σ3 g3 q3 FH3 H3 R3 S3 E3 => ?_)
    have endSlots : ∀ {σ4 : Sl} {g4 : G} {FH4 H4 : Hp} {acc : List V}, Rep (Y.under Dp acc) ρ FH4 H4 σ2' σ4 g4 → Rep (Y.under Dp acc) ρ FH4 H4 (wipe σb vs1) (wipeS σ4 vs1) g4 := fun {σ4 g4 FH4 H4 acc} R4 => by
      rw [← ew]
      exact rep_wipe R4
    cases b with
    | true =>
      rw [if_pos rfl] at q3 ⊢
      refine he Dp av ρ FH3 H3 σ2' σ3 g3 _ R3 (q3.bind.mono fun y' σ4 g4 q4 v4 FH4 H4 R4 S4 E4 rel => ?_)
      split at q4
      next hsz =>
        have all := ((S'.trans S2).trans S3).trans S4
        exact ⟨av, R4.underAt.1, by rw [Ai.len, sl16]; exact hsz, wipeS σ4 vs1, g4, FH4, av ++ [v4], ad ++ [y'], (endSlots R4).grow, Si.trans all, Ei.step A2 (E3.trans E4), (DqAll.up all _ Ai).app (.one rel), q4⟩
      next => exact q4.elim
    | false =>
      rw [if_neg Bool.false_ne_true] at q3 ⊢
      have all := (S'.trans S2).trans S3
      exact ⟨wipeS σ3 vs1, g3, FH3, av, ad, endSlots R3, Si.trans all, Ei.step A2 E3, DqAll.up all _ Ai, q3⟩
  · have e : j = ys.length := by omega
    subst e
    refine .inl ⟨io'.2 (Nat.le_refl _), ?_⟩
    rw [List.drop_length] at Gi
    have P1 : P ad σi gi := Gi
    exact fin ad σi gi av FHi Hi P1 Ri Si Ei Ai
theorem wipe_wipe {vs vs1 : List Nat} (hv : ∀ i ∈ vs1, i ∈ vs) (a : St) : wipe (wipe a vs1) vs = wipe a vs := by
  refine List.ext_getElem? fun i => ?_
  rw [wipe_get, wipe_get, wipe_get, wipe_len]
  by_cases z : i ∈ vs ∧ i < a.length
  · rw [if_pos z, if_pos z]
  · rw [if_neg z, if_neg z, if_neg (fun w => z ⟨hv i w.1, w.2⟩)]
theorem EvoX.step2 {vs vs1 : List Nat} {a b c d e : Sl} (h : EvoX vs a b) (ag : Agree vs b c) (e1 : Evo c d) (h2 : EvoX vs1 (wipeS d vs1) e) (hv : ∀ i ∈ vs1, i ∈ vs) : EvoX vs a (wipeS e vs) := by
  have k := h.step ag e1
  refine ⟨by rw [wipeS_len, h2.1, wipeS_len, ← k.1, wipeS_len], fun i hi => ?_⟩
  have k2 := k.2 i hi
  rw [wipeS_get, if_neg (fun z => hi z.1)] at k2 ⊢
  have h3 := h2.2 i (fun z => hi (hv i z))
  rw [wipeS_get, if_neg (fun z => hi (hv i z.1))] at h3
  rcases h3 with q | ⟨ds, q1, q2⟩
  · rw [q]
    exact k2
  · rcases k2 with z | ⟨es, z1, z2⟩
    · rw [z] at q1
      exact .inr ⟨ds, q1, q2⟩
    · rw [z2] at q1
      cases q1
theorem snd_cLc2 {it it1 : Ev (List D)} {vs vs1 : List Nat} {tg tg1 : TgF} {t t1 : Ev Bool} {f : Ev D} {wi wi1 : TI} {gt gt1 : TG} {tt tt1 : TT} {te : TE} (hv : ∀ i ∈ vs1, i ∈ vs) (hi : SndI Y wi it) (hg' : ∀ p acc, SndG (Y.under p acc) vs gt tg) (ht : ∀ p acc, SndT (Y.under p acc) tt t)
    (hi1 : ∀ p acc, SndI (Y.under p acc) wi1 it1) (hg1 : ∀ p acc, SndG (Y.under p acc) vs1 gt1 tg1) (ht1 : ∀ p acc, SndT (Y.under p acc) tt1 t1)
    (he : ∀ p acc, SndE (Y.under p acc) (RelD (Y.under p acc)) te f) : SndE Y (RelO Y) (tLc2 wi gt tt wi1 gt1 tt1 te vs vs1) (cLc2 it vs vs1 tg t it1 tg1 t1 f) := by
  intro ρ FH H σ' σ g Q R hg
  refine hi ρ FH H σ' σ g _ R (hg.bind.mono fun xs σ1 g1 q J FH1 H1 R1 S1 E1 io => ?_)
  split at q
  next idle =>
    intro Dp hD
    have q0 := (good_noX q Dp []).bind
    -- what holds between two turns
    let P : List D → Sl → G → Prop := fun ys σ2 g2 => Good Y (Out.ok (SV.ow ys) (backS σ1 σ2 vs) g2) (fun a σ3 g3 => ∀ v FH2 H2, Rep Y ρ FH2 H2 σ' σ3 g3 → Sub FH FH2 → Evo σ σ3 → RelO Y ρ FH2 H2 σ' σ3 v a → Q v H2)
    refine ⟨fun i m Hi => ∃ (σi : Sl) (gi : G) (FHi : Hp) (av : List V) (ad : List D), m = xs.length - i ∧ i ≤ xs.length ∧ Rep (Y.under Dp av) ρ FHi Hi (wipe σ' vs) σi gi ∧ Sub FH1 FHi ∧ EvoX vs σ1 σi ∧ DqAll Y.K FHi av ad ∧
      Good (Y.under Dp av) (compL2 tg t it1 tg1 t1 f vs vs1 (xs.drop i) ad σi gi) P, ?_, ?_⟩
    · refine ⟨_, wipeS σ1 vs, g1, FH1, [], [], rfl, Nat.zero_le _, ?_, Sub.refl _, ⟨wipeS_len _ _, fun i hi => .inl (by rw [wipeS_get, if_neg (fun z => hi z.1)])⟩, .nil, q0⟩
      have R2 : Rep Y ρ FH1 (upd H1 Dp (.lst [])) σ' σ1 g1 := R1.newL hD
      have R3 : Rep Y ρ FH1 (upd H1 Dp (.lst [])) (wipe σ' vs) (wipeS σ1 vs) g1 := R2.forget (by rw [wipe_len, wipeS_len]; exact R1.len) fun i x h => by
        rw [wipeS_get] at h
        split at h
        · cases h
        · rename_i z
          refine ⟨h, ?_⟩
          have hlt : i < σ1.length := (List.getElem?_eq_some_iff.mp h).1
          rw [wipe_get, if_neg (fun w => z ⟨w.1, hlt⟩)]
      refine R3.toUnder (R1.sub.free hD) upd_same (R1.old hD) (R1.cellNe hD) fun i es h e => ?_
      obtain ⟨p, ws, h1, _, h3, _⟩ := R3.ow i es h
      rw [h1] at e
      cases e
      rw [wipeS_get] at h
      by_cases w : i ∈ vs ∧ i < σ1.length
      · rw [if_pos w] at h
        cases h
      · rw [if_neg w] at h
        obtain ⟨p2, ws2, z1, _, z3, _⟩ := R1.ow i es h
        have hlt : i < σ1.length := (List.getElem?_eq_some_iff.mp h).1
        rw [wipe_get, if_neg (fun y => w ⟨y.1, hlt⟩), z1] at h1
        cases h1
        rw [hD] at z3
        cases z3
    · rintro i m Hi ⟨σi, gi, FHi, av, ad, rfl, hle, Ri, Si, Ei, Ai, Gi⟩
      obtain ⟨d1, d2, d3, d4, d5⟩ := Ri.underAt
      have io' := io Y rfl i ρ FHi Hi _ σi gi (Ri.ofUnder (Y := Y) (R1.pdNe hD)) Si
      by_cases hlt : i < xs.length
      · -- one more turn
        obtain ⟨go, yl⟩ := io'.1 xs[i] (List.getElem?_eq_getElem hlt)
        refine .inr ⟨go, fun H' => ∃ (σj : Sl) (gj : G) (FHj : Hp) (av : List V) (ad : List D), Rep (Y.under Dp av) ρ FHj H' (wipe σ' vs) σj gj ∧ Sub FH1 FHj ∧ EvoX vs σ1 σj ∧ DqAll Y.K FHj av ad ∧ Good (Y.under Dp av) (compL2 tg t it1 tg1 t1 f vs vs1 (xs.drop (i + 1)) ad σj gj) P,
          fun H' ⟨σj, gj, FHj, av, ad, w1, w2, w3, w4, w5⟩ => ⟨xs.length - (i + 1), by omega, σj, gj, FHj, av, ad, rfl, hlt, w1, w2, w3, w4, w5⟩, fun x H' y => ?_⟩
        obtain ⟨FH', nr⟩ := yl x H' y
        obtain ⟨R', S'⟩ := Ri.res (Y := Y.under Dp av) nr
        have Gi2 : Good (Y.under Dp av) ((tg xs[i] σi gi).bind fun _ σ1 g1 => (t σ1 g1).bind fun b σ2 g2 =>
            if b = true then (it1 σ2 g2).bind fun ys σ3 g3 => (compL tg1 t1 f vs1 ys ad (wipeS σ3 vs1) g3).bind fun acc2 σ4 g4 => compL2 tg t it1 tg1 t1 f vs vs1 (xs.drop (i + 1)) acc2 (wipeS σ4 vs) g4
            else compL2 tg t it1 tg1 t1 f vs vs1 (xs.drop (i + 1)) ad (wipeS σ2 vs) g2) P := by
          rw [List.drop_eq_getElem_cons hlt] at Gi
          exact Gi
        refine hg' Dp av ρ FH' H' _ σi gi x xs[i] _ R' nr.1 (Gi2.bind.mono fun _ σ2 g2 q2 σ2' FH2 H2 R2 S2 A1 A2 => ?_)
        have ew : wipe σ2' vs = wipe σ' vs := by
          rw [← A1.wipe]
          exact ((wipe_agree vs σ').wipe).symm
        refine ⟨by rw [ew], ?_⟩
        refine ht Dp av ρ FH2 H2 σ2' σ2 g2 _ R2 (q2.bind.mono fun b σ3 g3 q3 FH3 H3 R3 S3 E3 => ?_)
        -- the slots at a turn's end
        have endSlots : ∀ {σ4 : Sl} {g4 : G} {FH4 H4 : Hp} {acc : List V}, Rep (Y.under Dp acc) ρ FH4 H4 σ2' σ4 g4 → Evo σ2 σ4 → Rep (Y.under Dp acc) ρ FH4 H4 (wipe σ' vs) (wipeS σ4 vs) g4 := fun {σ4 g4 FH4 H4 acc} R4 E4 => by
          refine R4.forget ?_ fun j z h => ?_
          · have := R4.len
            rw [wipeS_len, ← this, wipe_len]
            have a := A1.1
            rw [wipe_len] at a
            exact a
          · rw [wipeS_get] at h
            split at h
            · cases h
            · rename_i w
              refine ⟨h, ?_⟩
              have hlt : j < σ4.length := (List.getElem?_eq_some_iff.mp h).1
              have hj : j ∉ vs := fun y => w ⟨y, hlt⟩
              exact A1.2 j hj
        cases b with
        | true =>
          rw [if_pos rfl] at q3 ⊢
          refine hi1 Dp av ρ FH3 H3 σ2' σ3 g3 _ R3 (q3.bind.mono fun ys σ4 g4 q4 J1 FH4 H4 R4 S4 E4 io1 => ?_)
          have all := ((S'.trans S2).trans S3).trans S4
          refine snd_in (Y := Y) hg1 ht1 he (R1.pdNe hD) (io1 Y rfl) (σ1 := wipeS σ4 vs1) (P := fun acc2 σ5 g5 => Good (Y.under Dp av) (compL2 tg t it1 tg1 t1 f vs vs1 (xs.drop (i + 1)) acc2 (wipeS σ5 vs) g5) P) (fun ad5 σ5 g5 av5 FH5 H5 p5 R5 S5 E5 A5 => ?_) (rep_wipe R4) (EvoX.refl _ _) (DqAll.up all _ Ai) q4.bind
          have R6 := rep_wipe (vs := vs) R5
          rw [wipe_wipe hv, ew] at R6
          exact ⟨wipeS σ5 vs, g5, FH5, av5, ad5, R6, Si.trans (all.trans S5), Ei.step2 A2 (E3.trans E4) E5 hv, A5, p5⟩
        | false =>
          rw [if_neg Bool.false_ne_true] at q3 ⊢
          have all := (S'.trans S2).trans S3
          exact ⟨wipeS σ3 vs, g3, FH3, av, ad, endSlots R3 E3, Si.trans all, Ei.step A2 E3, DqAll.up all _ Ai, q3⟩
      · -- the end
        have e : i = xs.length := by omega
        subst e
        refine .inl ⟨io'.2 (Nat.le_refl _), ?_⟩
        rw [List.drop_length] at Gi
        have fin : P ad σi gi := Gi
        have hl : σ1.length = σi.length := Ei.1.symm
        have Rb := Ri.ofUnder (Y := Y) (R1.pdNe hD)
        have slot : ∀ (j : Nat) (x : SV), (backS σ1 σi vs)[j]? = some (some x) → (j ∈ vs ∧ σ1[j]? = some (some x) ∧ ∃ d, x = .fz d) ∨ (j ∉ vs ∧ σi[j]? = some (some x) ∧ (wipe σ' vs)[j]? = σ'[j]?) := fun j x h => by
          rw [backS_get hl] at h
          by_cases z : j ∈ vs
          · rw [if_pos z] at h
            exact .inl ⟨z, h, idle_get idle j z x h⟩
          · rw [if_neg z] at h
            exact .inr ⟨z, h, by rw [wipe_get, if_neg (fun y => z y.1)]⟩
        have R3 : Rep Y ρ FHi Hi σ' (backS σ1 σi vs) gi := by
          refine ⟨Rb.sub, by rw [backS_len, ← hl]; exact R1.len, fun j d h => ?_, fun j es h => ?_, fun j k es fs p a1 a2 a3 a4 => ?_, fun j r a t h => ?_, fun j h => ?_, Rb.deck, Rb.ext, Rb.rho, Rb.cf, fun p ws h => ?_⟩
          · rcases slot j _ h with ⟨_, z, _⟩ | ⟨_, z, w⟩
            · obtain ⟨v, b1, b2⟩ := R1.fz j d z
              exact ⟨v, b1, Dq.up Si d b2⟩
            · rw [← w]
              exact Rb.fz j d z
          · rcases slot j _ h with ⟨_, _, d, z⟩ | ⟨_, z, w⟩
            · cases z
            · rw [← w]
              exact Rb.ow j es z
          · rcases slot j _ a1 with ⟨_, _, d, z⟩ | ⟨_, z1, w1⟩
            · cases z
            · rcases slot k _ a2 with ⟨_, _, d, z⟩ | ⟨_, z2, w2⟩
              · cases z
              · rw [← w1] at a3
                rw [← w2] at a4
                exact Rb.dis j k es fs p z1 z2 a3 a4
          · rcases slot j _ h with ⟨_, _, d, z⟩ | ⟨_, z, _⟩
            · cases z
            · exact Rb.nond j r a t z
          · rcases slot j _ h with ⟨_, _, d, z⟩ | ⟨_, z, w⟩
            · cases z
            · rw [← w]
              exact Rb.dl j z
          · obtain ⟨b1, b2, b3, b4⟩ := Rb.pend p ws h
            refine ⟨b1, b2, fun j es hj => ?_, b4⟩
            rcases slot j _ hj with ⟨_, _, d, z⟩ | ⟨_, z, w⟩
            · cases z
            · rw [← w]
              exact b3 j es z
        refine fin (.ref Dp) FHi Hi R3 (S1.trans Si) (E1.trans ⟨by rw [backS_len, hl], fun j => ?_⟩) ⟨Dp, av, rfl, d2, d1, Ai, d5, d4, fun j es hj => ?_, R1.pdNe hD⟩
        · rw [backS_get hl]
          by_cases z : j ∈ vs
          · rw [if_pos z]
            exact .inl rfl
          · rw [if_neg z]
            exact Ei.2 j z
        · rcases slot j _ hj with ⟨_, _, d, z⟩ | ⟨_, z, w⟩
          · cases z
          · rw [← w]
            exact d3 j es z
  next => exact q.elim
end
end
end FD
/-! FD10: statements. -/
namespace FD
noncomputable section
open PySem
open L2 (Hp HO V upd upd_same upd_ne ne_of_none Rd SqL SqT Vals RelV VK TE TT TA TS TG TGs St XK Cx PE PT PW PA PS PSs PG PGs PI Inv OpR UnR CallR R2 rI0 rI tOp tUn tVar tC tCB tCons tNil SlR IxR MtR It TI XK Sp wipe tLc Ends)
/-- behind a statement -/
def Aft (Y : Yx) (FH : Hp) (Dn : Ends) (fl : Fl) (σ2 : Sl) (g2 : G) : Prop := match fl with
  | .nx => ∀ ρ2 FH2 H2 σ2', Rep Y ρ2 FH2 H2 σ2' σ2 g2 → Sub FH FH2 → Dn.nx σ2' H2
  | .bk => ∀ ρ2 FH2 H2 σ2', Rep Y ρ2 FH2 H2 σ2' σ2 g2 → Sub FH FH2 → Dn.bk σ2' H2
  | .ct => ∀ ρ2 FH2 H2 σ2', Rep Y ρ2 FH2 H2 σ2' σ2 g2 → Sub FH FH2 → Dn.ct σ2' H2
  | .rt r => ∀ ρ2 FH2 H2 σ2' v, Rep Y ρ2 FH2 H2 σ2' σ2 g2 → Sub FH FH2 → RelO Y ρ2 FH2 H2 σ2' σ2 v r → Dn.rt v H2
def SndS (Y : Yx) (ts : TS) (f : Ev Fl) : Prop :=
  ∀ (ρ : Rho) (FH H : Hp) (σ' : St) (σ : Sl) (g : G) (Dn : Ends), Rep Y ρ FH H σ' σ g → Good Y (f σ g) (Aft Y FH Dn) → ts Dn σ' H
section
variable {Y : Yx} {ρ : Rho} {FH H FH2 H2 : Hp} {σ' : St} {σ σ2 : Sl} {g g2 : G} {ta tb tc te : TE} {f f1 f2 f3 : Ev D} {fo : Ev SV} {t1 t2 : TS} {s1 s2 : Ev Fl}
theorem Aft.up (S : Sub FH FH2) {Dn : Ends} {fl : Fl} {σ2 : Sl} {g2 : G} (h : Aft Y FH Dn fl σ2 g2) : Aft Y FH2 Dn fl σ2 g2 := by
  cases fl with
  | nx => exact fun ρ2 FH3 H3 σ3 R S3 => h ρ2 FH3 H3 σ3 R (S.trans S3)
  | bk => exact fun ρ2 FH3 H3 σ3 R S3 => h ρ2 FH3 H3 σ3 R (S.trans S3)
  | ct => exact fun ρ2 FH3 H3 σ3 R S3 => h ρ2 FH3 H3 σ3 R (S.trans S3)
  | rt r => exact fun ρ2 FH3 H3 σ3 v R S3 => h ρ2 FH3 H3 σ3 v R (S.trans S3)
theorem snd_sPass : SndS Y L2.tNext sPass := fun ρ FH H σ' σ g Dn R hg => hg ρ FH H σ' R (Sub.refl _)
theorem snd_sBrk : SndS Y L2.tBreak sBrk := fun ρ FH H σ' σ g Dn R hg => hg ρ FH H σ' R (Sub.refl _)
theorem snd_sCnt : SndS Y L2.tCont sCnt := fun ρ FH H σ' σ g Dn R hg => hg ρ FH H σ' R (Sub.refl _)
theorem snd_sSeq (h1 : SndS Y t1 s1) (h2 : SndS Y t2 s2) : SndS Y (L2.tSeq t1 t2) (sSeq s1 s2) := by
  intro ρ FH H σ' σ g Dn R hg
  refine h1 ρ FH H σ' σ g _ R (hg.bind.mono fun fl σ2 g2 q => ?_)
  cases fl with
  | nx => exact fun ρ2 FH2 H2 σ2' R2 S => h2 ρ2 FH2 H2 σ2' σ2 g2 Dn R2 (q.mono fun fl σ3 g3 q => q.up S)
  | bk => exact q
  | ct => exact q
  | rt r => exact q
theorem snd_sRet (h : SndE Y (RelO Y) te fo) : SndS Y (L2.tRet te) (sRet fo) := by
  intro ρ FH H σ' σ g Dn R hg
  refine h ρ FH H σ' σ g _ R (hg.bind.mono fun sv σ2 g2 q v FH2 H2 R2 S E rel => ?_)
  cases sv with
  | fz d => exact q ρ FH2 H2 σ' v R2 S rel
  | ow ds => exact q ρ FH2 H2 σ' v R2 S rel
  | nd _ _ _ => exact q ρ FH2 H2 σ' v R2 S rel
  | deal => exact q.elim
theorem snd_sRetV {i : Nat} : SndS Y (L2.tRet (tVar i)) (sRet (cVR i)) := by
  intro ρ FH H σ' σ g Dn R hg
  have hg : Good Y ((cVR i σ g).bind _) (Aft Y FH Dn) := hg
  unfold cVR at hg
  split at hg
  · rename_i d e
    obtain ⟨v, h1, h2⟩ := R.fz i d e
    exact ⟨v, h1, hg ρ FH H σ' v R (Sub.refl _) h2⟩
  · rename_i ds e
    obtain ⟨p, vs, h1, h2, h3, h4, h5, h6⟩ := R.ow i ds e
    have R2 : Rep Y ρ FH H σ' (σ.set i none) g := R.forget (by rw [List.length_set]; exact R.len) fun j x h => by
      rcases getSet h with ⟨_, z, _⟩ | ⟨_, z⟩
      · cases z
      · exact ⟨z, rfl⟩
    refine ⟨_, h1, hg ρ FH H σ' _ R2 (Sub.refl _) ⟨p, vs, rfl, h2, h3, h4, h5, h6, fun j es hj hr => ?_, ?_⟩⟩
    · rcases getSet hj with ⟨_, z, _⟩ | ⟨w, z⟩
      · cases z
      · exact w (R.dis i j ds es p e z h1 hr)
    · cases q : Y.pd p with
      | none => rfl
      | some ws => exact absurd h1 ((R.pend p ws q).2.2.1 i ds e)
  · exact hg.elim
theorem snd_sRetN : SndS Y L2.tRetN sRetN := fun ρ FH H σ' σ g Dn R hg => hg ρ FH H σ' _ R (Sub.refl _) .non
theorem Rep.pdNew (R : Rep Y ρ FH H σ' σ g) {p : Addr} {acc : List V} (hn : H p = none) : Rep (Y.under p acc) ρ FH (upd H p (.lst acc)) σ' σ g := by
  have R2 := R.newL (o := .lst acc) hn
  refine R2.toUnder (R.sub.free hn) upd_same (R.old hn) (R.cellNe hn) fun i es h e => ?_
  exact R.slotNe hn i es h e
theorem snd_sRetDeal (h1 : SndE Y (RelD Y) ta f1) (h2 : SndE Y (RelD Y) tb f2) (h3 : ∀ p acc, SndE (Y.under p acc) (RelD (Y.under p acc)) tc f3) :
    SndS Y (L2.tRet (L2.tLst (tCons ta (tCons (L2.tLst (tCons tb tNil)) (tCons tc tNil))))) (sRetDeal f1 f2 f3) := by
  intro ρ FH H σ' σ g Dn R hg
  refine h1 ρ FH H σ' σ g _ R (hg.bind.mono fun r σ2 g2 q vr FH2 H2 R2 S2 E2 rel2 => ?_)
  refine h2 ρ FH2 H2 σ' σ2 g2 _ R2 (q.bind.mono fun a σ3 g3 q va FH3 H3 R3 S3 E3 rel3 => ?_)
  cases rel3 with
  | int i =>
    refine ⟨show 1 ≤ sizeLine by decide, fun c hc => ?_⟩
    have q0 := good_noX (Y := Y) q.bind c [.int i]
    have R4 := R3.pdNew (acc := [.int i]) hc
    refine h3 c [.int i] ρ FH3 (upd H3 c (.lst [.int i])) σ' σ3 g3 _ R4 (q0.mono fun t σ4 g4 q vt FH4 H4 R4 S4 E4 rel4 => ?_)
    refine ⟨show 3 ≤ sizeLine by decide, fun p hp => ?_⟩
    obtain ⟨b1, b2, b3, b4, b5⟩ := R4.underAt
    have R5 : Rep Y ρ FH4 (upd H4 p (.lst [vr, .ref c, vt])) σ' σ4 g4 := (R4.ofUnder (Y := Y) (R3.pdNe hc)).newL hp
    have pc : p ≠ c := fun e => by
      rw [e, b1] at hp
      cases hp
    have R4' := R4.ofUnder (Y := Y) (R3.pdNe hc)
    refine q ρ FH4 _ σ' _ R5 ((S2.trans S3).trans S4) ⟨p, c, vr, vt, rfl, R4.sub.free hp, b2, upd_same, by rw [upd_ne pc.symm]; exact b1, Dq.up (S3.trans S4) _ rel2, rel4, R4.old hp, b5, pc, fun j es hj => ⟨R4'.slotNe hp j es hj, b3 j es hj⟩, fun dl c' hr => ⟨R4'.cellNe hp dl c' hr, b4 dl c' hr⟩, R4'.pdNe hp, R3.pdNe hc⟩
  | non => exact q.elim
  | bl _ => exact q.elim
  | str _ => exact q.elim
  | lst _ _ => exact q.elim
  | tup _ _ => exact q.elim
/-- the slot at i holds the deck just made -/
theorem Rep.setDeal (R : Rep Y ρ FH H σ' σ g) (i : Nat) {v : V} {r : D} {a : Int} {t : D} (h0 : Y.ρ0 = none) (hρ : ∀ (j : Nat), σ[j]? ≠ some (some .deal)) (n : NdOk Y ρ FH H σ' σ v r a t) : ∃ dl c FH2, Rep Y (some (dl, c)) FH2 H (σ'.set i (some v)) (σ.set i (some .deal)) ⟨r, t, a⟩ ∧ Sub FH FH2 := by
  obtain ⟨p, c, vr, vt, rfl, h1, h2, h3, h4, h5, h6, h7, h8, h9, h10, h11, h12, h13⟩ := n
  have up : Sub FH (upd FH p (.lst [vr, .ref c, vt])) := Sub.new h1
  have hl := R.len
  have old : ∀ {j : Nat} {es : List D}, (σ.set i (some SV.deal))[j]? = some (some (.ow es)) → i ≠ j ∧ σ[j]? = some (some (.ow es)) := fun {j es} h => by
    rcases getSet h with ⟨_, e, _⟩ | q
    · cases e
    · exact q
  refine ⟨p, c, _, ⟨R.sub.to h3, by rw [List.length_set, List.length_set]; exact hl, fun j e h => ?_, fun j es h => ?_, fun j k es fs q a1 a2 a3 a4 => ?_, fun j r a t h => ?_, fun j h => ?_, fun dl c' h => ?_, ⟨R.ext.fsub.trans up, R.ext.hsub, fun b u h => ?_, R.ext.there⟩, fun x h => ?_, fun dl c' h => ?_, fun q ws h => ?_⟩, up⟩
  · rcases getSet h with ⟨_, z, _⟩ | ⟨z, q⟩
    · cases z
    · rw [List.getElem?_set_ne z]
      obtain ⟨v, b1, b2⟩ := R.fz j e q
      exact ⟨v, b1, Dq.up up e b2⟩
  · obtain ⟨z, q⟩ := old h
    rw [List.getElem?_set_ne z]
    obtain ⟨x, ws, b1, b2, b3, b4, b5, b6⟩ := R.ow j es q
    have xp : x ≠ p := fun e => (h10 j es q).1 (by rw [b1, e])
    have xc : x ≠ c := fun e => (h10 j es q).2 (by rw [b1, e])
    exact ⟨x, ws, b1, by rw [upd_ne xp]; exact b2, b3, DqAll.up up es b4, b5, fun dl c' hr => by cases hr; exact xc⟩
  · obtain ⟨z1, q1⟩ := old a1
    obtain ⟨z2, q2⟩ := old a2
    rw [List.getElem?_set_ne z1] at a3
    rw [List.getElem?_set_ne z2] at a4
    exact R.dis j k es fs q q1 q2 a3 a4
  · rcases getSet h with ⟨_, z, _⟩ | ⟨_, q⟩
    · cases z
    · exact R.nond j r a t q
  · rcases getSet h with ⟨rfl, _, w⟩ | ⟨_, q⟩
    · exact ⟨p, c, rfl, List.getElem?_set_self (by rw [hl]; exact w)⟩
    · exact absurd q (hρ j)
  · cases h
    exact ⟨vr, vt, upd_same, Dq.up up _ h5, Dq.up up _ h6, by rw [upd_ne h9.symm]; exact h2, h4⟩
  · by_cases z : b = p
    · subst z
      exact .inr h7
    · rw [upd_ne z] at h
      exact R.ext.new b u h
  · rw [h0] at h
    cases h
  · cases h
    exact .inr h8
  · obtain ⟨b1, b2, b3, b4⟩ := R.pend q ws h
    have qp : q ≠ p := fun e => by
      rw [e, h12] at h
      cases h
    have qc : q ≠ c := fun e => by
      rw [e, h13] at h
      cases h
    refine ⟨b1, by rw [upd_ne qp]; exact b2, fun j es hj => ?_, fun dl c' hr => by cases hr; exact qc, b4.2⟩
    obtain ⟨z, w⟩ := old hj
    rw [List.getElem?_set_ne z]
    exact b3 j es w
theorem noDeal_get : ∀ {σ : Sl}, noDeal σ = true → ∀ j : Nat, σ[j]? ≠ some (some .deal)
  | [], _, j, h => by simp at h
  | none :: r, h, 0, q => by simp at q
  | none :: r, h, j + 1, q => noDeal_get (σ := r) (by simpa [noDeal] using h) j (by simpa using q)
  | some .deal :: r, h, _, _ => by simp [noDeal] at h
  | some (.fz d) :: r, h, 0, q => by simp at q
  | some (.fz d) :: r, h, j + 1, q => noDeal_get (σ := r) (by simpa [noDeal] using h) j (by simpa using q)
  | some (.ow d) :: r, h, 0, q => by simp at q
  | some (.ow d) :: r, h, j + 1, q => noDeal_get (σ := r) (by simpa [noDeal] using h) j (by simpa using q)
  | some (.nd _ _ _) :: r, h, 0, q => by simp at q
  | some (.nd _ _ _) :: r, h, j + 1, q => noDeal_get (σ := r) (by simpa [noDeal] using h) j (by simpa using q)
theorem snd_sAsg {i : Nat} (h : SndE Y (RelO Y) te fo) : SndS Y (L2.tAsg te (L2.gName i)) (sAsg i fo) := by
  intro ρ FH H σ' σ g Dn R hg
  refine h ρ FH H σ' σ g _ R (hg.bind.mono fun sv σ2 g2 q v FH2 H2 R2 S E rel => ?_)
  cases sv with
  | fz d => exact q ρ FH2 H2 _ (R2.setFz i rel) S
  | ow ds =>
    obtain ⟨p, vs, rfl, F⟩ := rel
    exact q ρ FH2 H2 _ (R2.setOw i F) S
  | nd _ _ _ => exact q.elim
  | deal => exact q.elim
theorem snd_sAsgN {i : Nat} (h0 : Y.ρ0 = none) (h : SndE Y (RelO Y) te fo) : SndS Y (L2.tAsg te (L2.gName i)) (sAsgN i fo) := by
  intro ρ FH H σ' σ g Dn R hg
  refine h ρ FH H σ' σ g _ R (hg.bind.mono fun sv σ2 g2 q v FH2 H2 R2 S E rel => ?_)
  cases sv with
  | fz d => exact q ρ FH2 H2 _ (R2.setFz i rel) S
  | ow ds =>
    obtain ⟨p, vs, rfl, F⟩ := rel
    exact q ρ FH2 H2 _ (R2.setOw i F) S
  | nd r a t =>
    have q : Good Y (if noDeal σ2 = true then _ else _) _ := q
    split at q
    · rename_i nd
      obtain ⟨dl, c, FH3, R3, S3⟩ := R2.setDeal i h0 (noDeal_get nd) rel
      exact q _ FH3 H2 _ R3 (S.trans S3)
    · exact q.elim
  | deal => exact q.elim
theorem snd_sUnp {vs : List Nat} {gt : TG} {tg : TgF} (h : SndE Y (RelD Y) te f) (hg : SndG Y vs gt tg) : SndS Y (L2.tAsg te gt) (sUnp tg f) := by
  intro ρ FH H σ' σ g Dn R hg'
  refine h ρ FH H σ' σ g _ R (hg'.bind.mono fun d σ2 g2 q v FH2 H2 R2 S E rel => ?_)
  exact hg ρ FH2 H2 σ' σ2 g2 v d _ R2 rel (q.bind.mono fun _ σ3 g3 q σ3' FH3 H3 R3 S3 _ _ => q ρ FH3 H3 σ3' R3 (S.trans S3))
theorem snd_sPar {i j : Nat} (h1 : SndE Y (RelD Y) ta f1) (h2 : SndE Y (RelD Y) tb f2) : SndS Y (L2.tPar i j (tCons ta (tCons tb tNil))) (sPar i j f1 f2) := by
  intro ρ FH H σ' σ g Dn R hg
  refine h1 ρ FH H σ' σ g _ R (hg.bind.mono fun a σ2 g2 q x FH2 H2 R2 S2 E2 rel2 => ?_)
  refine h2 ρ FH2 H2 σ' σ2 g2 _ R2 (q.bind.mono fun b σ3 g3 q y FH3 H3 R3 S3 E3 rel3 => ?_)
  exact ⟨x, y, rfl, q ρ FH3 H3 _ ((R3.setFz i (Dq.up S3 a rel2)).setFz j rel3) (S2.trans S3)⟩
theorem snd_sAug {i : Nat} {op : D → D → Option SV} {r : R2} (h : SndE Y (RelP Y) te f) (ho : Op2 Y r op) : SndS Y (L2.tAug i te r) (sAug op i f) := by
  intro ρ FH H σ' σ g Dn R hg
  have hg : Good Y (match σ[i]? with
    | some (some (.fz d)) => (f σ g).bind fun b σ g => match op d b with
      | some (.fz r) => .ok .nx (σ.set i (some (.fz r))) g
      | _ => .stuck
    | _ => .stuck) (Aft Y FH Dn) := hg
  split at hg
  · rename_i d e
    obtain ⟨x, h1, h2⟩ := R.fz i d e
    refine ⟨x, h1, h ρ FH H σ' σ g _ R (hg.bind.mono fun b σ2 g2 q y FH2 H2 R2 S E rel => ?_)⟩
    split at q
    · rename_i r' er
      refine ho ρ FH2 H2 σ' σ2 g2 x y d b _ _ R2 (.inl (Dq.up S d h2)) rel er fun v2 FH3 H3 n => ?_
      obtain ⟨R3, S3⟩ := R2.res n
      exact q ρ FH3 H3 _ (R3.setFz i n.1) (S.trans S3)
    · exact q.elim
  · exact hg.elim
theorem setAt_dq {K : PySem.W.Frag} {vs : List V} {ds es : List D} {i : Int} {v : V} {d : D} (a : DqAll K FH vs ds) (hd : Dq K FH v d) (h : setAt ds i d = some es) : ∃ j, L2.ixN vs.length i = some j ∧ DqAll K FH (vs.set j v) es := by
  unfold setAt at h
  rw [Option.map_eq_some_iff] at h
  obtain ⟨j, h1, rfl⟩ := h
  exact ⟨j, by rw [a.len]; exact h1, a.set hd j⟩
/-- the frame's own list at slot i changes -/
theorem Rep.change (R : Rep Y ρ FH H σ' σ g) {i : Nat} {ds es : List D} {p : Addr} {ws : List V} (hi : σ[i]? = some (some (.ow ds))) (hp : σ'[i]? = some (some (.ref p))) (a : DqAll Y.K FH ws es) : Rep Y ρ FH (upd H p (.lst ws)) σ' (σ.set i (some (.ow es))) g := by
  obtain ⟨p', vs, h1, h2, h3, h4, h5, h6⟩ := R.ow i ds hi
  rw [hp] at h1
  cases h1
  have hlt : i < σ.length := (List.getElem?_eq_some_iff.mp hi).1
  have old : ∀ {j : Nat} {x : SV}, i ≠ j → (σ.set i (some (.ow es)))[j]? = some (some x) → σ[j]? = some (some x) := fun {j x} z h => by
    rw [List.getElem?_set_ne z] at h
    exact h
  refine ⟨R.sub.upd2 h2, by rw [List.length_set]; exact R.len, fun j e h => ?_, fun j fs h => ?_, fun j k fs gs q a1 a2 a3 a4 => ?_, fun j r b t h => ?_, fun j h => ?_, fun dl c h => ?_, ⟨R.ext.fsub, fun b u h hc => ?_, R.ext.new, fun b u h => ?_⟩, R.rho, R.cf, fun q us h => ?_⟩
  · rcases getSet h with ⟨_, z, _⟩ | ⟨_, q⟩
    · cases z
    · exact R.fz j e q
  · rcases getSet h with ⟨rfl, z, _⟩ | ⟨z, q⟩
    · cases z
      exact ⟨p, ws, hp, h2, upd_same, a, h5, h6⟩
    · obtain ⟨q', us, b1, b2, b3, b4, b5, b6⟩ := R.ow j fs q
      have w : q' ≠ p := fun e => z (R.dis i j ds fs p hi q hp (by rw [b1, e]))
      exact ⟨q', us, b1, b2, by rw [upd_ne w]; exact b3, b4, b5, b6⟩
  · by_cases z1 : i = j
    · by_cases z2 : i = k
      · rw [← z1, ← z2]
      · rw [← z1] at a3
        exact z1 ▸ (R.dis i k ds gs q hi (old z2 a2) a3 a4)
    · by_cases z2 : i = k
      · rw [← z2] at a4
        exact z2 ▸ (R.dis j i fs ds q (old z1 a1) hi a3 a4)
      · exact R.dis j k fs gs q (old z1 a1) (old z2 a2) a3 a4
  · rcases getSet h with ⟨_, z, _⟩ | ⟨_, q⟩
    · cases z
    · exact R.nond j r b t q
  · rcases getSet h with ⟨_, z, _⟩ | ⟨_, q⟩
    · cases z
    · exact R.dl j q
  · obtain ⟨vr, vt, b1, b2, b3, b4, b5⟩ := R.deck dl c h
    exact ⟨vr, vt, b1, b2, b3, b4, by rw [upd_ne (h6 dl c h).symm]; exact b5⟩
  · have z : b ≠ p := fun e => by
      rw [e, h5] at h
      cases h
    rw [upd_ne z]
    exact R.ext.hsub b u h hc
  · have z : b ≠ p := fun e => by
      rw [e, h5] at h
      cases h
    rw [upd_ne z]
    exact R.ext.there b u h
  · obtain ⟨b1, b2, b3, b4⟩ := R.pend q us h
    have z : q ≠ p := fun e => b3 i ds hi (by rw [hp, e])
    refine ⟨by rw [upd_ne z]; exact b1, b2, fun j fs hj => ?_, b4⟩
    rcases getSet hj with ⟨rfl, _, _⟩ | ⟨_, w⟩
    · exact b3 i ds hi
    · exact b3 j fs w
theorem isOw_some {o : Option (Option SV)} (h : isOw o = true) : ∃ ds, o = some (some (.ow ds)) := by
  unfold isOw at h
  split at h
  · exact ⟨_, rfl⟩
  · cases h
theorem snd_sSetIx {i : Nat} {tk : TE} {fk fe : Ev D} (he : SndE Y (RelD Y) te fe) (hk : SndE Y (RelP Y) tk fk) : SndS Y (L2.tAsg te (L2.gSub (tVar i) tk L2.rSetL)) (sSetIx i fk fe) := by
  intro ρ FH H σ' σ g Dn R hg
  refine he ρ FH H σ' σ g _ R (hg.bind.mono fun d σ2 g2 q v FH2 H2 R2 S2 E2 rel2 => ?_)
  split at q
  · rename_i ow
    obtain ⟨ds0, h0⟩ := isOw_some ow
    obtain ⟨p, vs, hp, _⟩ := R2.ow i ds0 h0
    refine ⟨_, hp, hk ρ FH2 H2 σ' σ2 g2 _ R2 (q.bind.mono fun k σ3 g3 q u FH3 H3 R3 S3 E3 rel3 => ?_)⟩
    split at q
    · rename_i ds k' e
      rw [rel3.int]
      split at q
      · rename_i es he'
        obtain ⟨p', ws, b1, b2, b3, b4, _⟩ := R3.ow i ds e
        rw [hp] at b1
        cases b1
        obtain ⟨j, hj, a'⟩ := setAt_dq b4 (Dq.up S3 d rel2) he'
        exact ⟨p, ws, k', j, rfl, rfl, b3, hj, q ρ FH3 _ σ' (R3.change e hp a') (S2.trans S3)⟩
      · exact q.elim
    · exact q.elim
  · exact q.elim
theorem snd_sApp {i : Nat} {fe : Ev D} (he : SndE Y (RelD Y) te fe) : SndS Y (L2.tDrop (L2.tBM Y.K "list" L2.rAppend (tVar i) (tCons te tNil))) (sApp i fe) := by
  intro ρ FH H σ' σ g Dn R hg
  have hg : Good Y (if isOw σ[i]? = true then _ else _) (Aft Y FH Dn) := hg
  split at hg
  · rename_i ow
    obtain ⟨ds0, h0⟩ := isOw_some ow
    obtain ⟨p, vs, hp, _, h3, _⟩ := R.ow i ds0 h0
    refine ⟨_, hp, .inl ⟨rfl, vs, .inl (.inl h3)⟩, he ρ FH H σ' σ g _ R (hg.bind.mono fun d σ2 g2 q v FH2 H2 R2 S2 E2 rel2 => ?_)⟩
    split at q
    · rename_i ds e
      split at q
      · rename_i hl
        obtain ⟨p', ws, b1, b2, b3, b4, _⟩ := R2.ow i ds e
        rw [hp] at b1
        cases b1
        exact ⟨p, ws, v, rfl, rfl, b3, by rw [b4.len, sl16]; exact hl, q ρ FH2 _ σ' (R2.change e hp (b4.app (.one rel2))) S2⟩
      · exact q.elim
    · exact q.elim
  · exact hg.elim
/-- deal[1][0] = e -/
theorem snd_sSetDeal {i : Nat} {fe : Ev D} (he : SndE Y (RelD Y) te fe) : SndS Y (L2.tAsg te (L2.gSub (tOp (L2.rIx Y.K) (tVar i) (tC (.int 1))) (tC (.int 0)) L2.rSetL)) (sSetDeal i fe) := by
  intro ρ FH H σ' σ g Dn R hg
  refine he ρ FH H σ' σ g _ R (hg.bind.mono fun d σ2 g2 q v FH2 H2 R2 S2 E2 rel2 => ?_)
  split at q
  · rename_i k e
    cases rel2
    obtain ⟨dl, c, h1, h2⟩ := R2.dl i e
    obtain ⟨vr, vt, q1, q2, q3, q4, q5⟩ := R2.deck dl c h1
    have hs : SqL Y.K H2 dl [vr, .ref c, vt] := .inl (.inl (R2.sub _ _ q1))
    refine ⟨_, h2, .inl ⟨dl, _, 1, .ref c, rfl, rfl, hs, L2.atI_nat (j := 1) rfl, c, [.int g2.at_], 0, 0, rfl, rfl, q5, rfl, q ρ FH2 _ σ' ?_ S2⟩⟩
    refine ⟨R2.sub.upd2 q4, R2.len, R2.fz, fun j es h => ?_, R2.dis, R2.nond, R2.dl, fun dl' c' h => ?_, ⟨R2.ext.fsub, fun b u h hc => ?_, R2.ext.new, fun b u h => ?_⟩, R2.rho, R2.cf, fun p us h => ?_⟩
    · obtain ⟨p, us, b1, b2, b3, b4, b5, b6⟩ := R2.ow j es h
      exact ⟨p, us, b1, b2, by rw [upd_ne (b6 dl c h1)]; exact b3, b4, b5, b6⟩
    · rw [h1] at h
      cases h
      exact ⟨vr, vt, q1, q2, q3, q4, upd_same⟩
    · have z : b ≠ c := fun w => by
        rcases R2.cf dl c h1 with x | x
        · exact hc dl c x w
        · rw [w, x] at h
          cases h
      rw [upd_ne z]
      exact R2.ext.hsub b u h hc
    · by_cases z : b = c
      · exact ⟨_, by rw [z]; exact upd_same⟩
      · rw [upd_ne z]
        exact R2.ext.there b u h
    · obtain ⟨b1, b2, b3, b4⟩ := R2.pend p us h
      exact ⟨by rw [upd_ne (b4.1 dl c h1)]; exact b1, b2, b3, b4⟩
  · exact q.elim
/-! ### if, for, while -/
theorem snd_sIf {tt : TT} {b : Ev Bool} (ht : SndT Y tt b) (h1 : SndS Y t1 s1) (h2 : SndS Y t2 s2) : SndS Y (L2.tIfS tt t1 t2) (sIf b s1 s2) := by
  intro ρ FH H σ' σ g Dn R hg
  refine ht ρ FH H σ' σ g _ R (Good.bind (o := b σ g) hg |>.mono fun p σ2 g2 q FH2 H2 R2 S E => ?_)
  cases p with
  | true =>
    rw [if_pos rfl] at q ⊢
    exact h1 ρ FH2 H2 σ' σ2 g2 Dn R2 (q.mono fun fl σ3 g3 q => q.up S)
  | false =>
    rw [if_neg Bool.false_ne_true] at q ⊢
    exact h2 ρ FH2 H2 σ' σ2 g2 Dn R2 (q.mono fun fl σ3 g3 q => q.up S)
theorem mask_len : ∀ (a b : Sl), (mask a b).length = b.length
  | [], b => by cases b <;> rfl
  | none :: r0, [] => rfl
  | none :: r0, _ :: r => by
    show (none :: mask r0 r).length = _
    rw [List.length_cons, List.length_cons, mask_len r0 r]
  | some _ :: r0, [] => rfl
  | some _ :: r0, o :: r => by
    show (o :: mask r0 r).length = _
    rw [List.length_cons, List.length_cons, mask_len r0 r]
theorem mask_get : ∀ (a b : Sl) (i : Nat) (x : SV), (mask a b)[i]? = some (some x) → b[i]? = some (some x)
  | [], b, _, _, h => by cases b <;> exact h
  | none :: r0, [], _, _, h => h
  | none :: r0, _ :: r, 0, x, h => by
    have h : some none = some (some x) := h
    cases h
  | none :: r0, _ :: r, i + 1, x, h => mask_get r0 r i x h
  | some _ :: r0, [], _, _, h => h
  | some _ :: r0, o :: r, 0, x, h => h
  | some _ :: r0, o :: r, i + 1, x, h => mask_get r0 r i x h
theorem Rep.masked (R : Rep Y ρ FH H σ' σ g) (a : Sl) : Rep Y ρ FH H σ' (mask a σ) g := R.forget (by rw [mask_len]; exact R.len) fun i x h => ⟨mask_get a σ i x h, rfl⟩
theorem snd_sFor {it : Ev (List D)} {vs : List Nat} {tg : TgF} {b : Ev Fl} {wi : TI} {gt : TG} {tb : TS} (hi : SndI Y wi it) (hg' : SndG Y vs gt tg) (hb : SndS Y tb b) : SndS Y (L2.tFor wi gt tb) (sFor it tg b) := by
  intro ρ FH H σ' σ g Dn R hg
  refine hi ρ FH H σ' σ g _ R (hg.bind.mono fun xs σ1 g1 q J FH1 H1 R1 S1 E1 io => ?_)
  have q := q.mono (P' := Aft Y FH1 Dn) fun fl σ3 g3 q => q.up S1
  refine ⟨fun i m σi' Hi => ∃ (ρi : Rho) (σi : Sl) (gi : G) (FHi : Hp), m = xs.length - i ∧ i ≤ xs.length ∧ Rep Y ρi FHi Hi σi' σi gi ∧ Sub FH1 FHi ∧ Good Y (forL tg b (xs.drop i) σi gi) (Aft Y FH1 Dn), ⟨_, ρ, σ1, g1, FH1, rfl, Nat.zero_le _, R1, Sub.refl _, q⟩, ?_⟩
  rintro i m σi' Hi ⟨ρi, σi, gi, FHi, rfl, hle, Ri, Si, Gi⟩
  have io' := io Y rfl i ρi FHi Hi _ σi gi Ri Si
  by_cases hlt : i < xs.length
  · obtain ⟨go, yl⟩ := io'.1 xs[i] (List.getElem?_eq_getElem hlt)
    refine .inr ⟨go, fun σj' Hj => ∃ (ρj : Rho) (σj : Sl) (gj : G) (FHj : Hp), Rep Y ρj FHj Hj σj' σj gj ∧ Sub FH1 FHj ∧ Good Y (forL tg b (xs.drop (i + 1)) σj gj) (Aft Y FH1 Dn),
      fun σj' Hj ⟨ρj, σj, gj, FHj, w1, w2, w3⟩ => ⟨xs.length - (i + 1), by omega, ρj, σj, gj, FHj, rfl, hlt, w1, w2, w3⟩, fun x H' y => ?_⟩
    obtain ⟨FH', nr⟩ := yl x H' y
    obtain ⟨R', S'⟩ := Ri.res nr
    rw [List.drop_eq_getElem_cons hlt] at Gi
    have Gi2 : Good Y ((tg xs[i] σi gi).bind fun _ σ1 g1 => (b σ1 g1).bind fun f σ2 g2 => match f with
        | .nx => forL tg b (xs.drop (i + 1)) (mask σi σ2) g2
        | .ct => forL tg b (xs.drop (i + 1)) (mask σi σ2) g2
        | .bk => .ok .nx (mask σi σ2) g2
        | .rt r => .ok (.rt r) σ2 g2) (Aft Y FH1 Dn) := Gi
    refine hg' ρi FH' H' σi' σi gi x xs[i] _ R' nr.1 (Gi2.bind.mono fun _ σ2 g2 q2 σ2' FH2 H2 R2 S2 _ _ => ?_)
    have all := (Si.trans S').trans S2
    refine hb ρi FH2 H2 σ2' σ2 g2 _ R2 (q2.bind.mono fun fl σ3 g3 q3 => ?_)
    cases fl with
    | nx => exact fun ρ3 FH3 H3 σ3' R3 S3 => ⟨ρ3, _, g3, FH3, R3.masked σi, all.trans S3, q3⟩
    | ct => exact fun ρ3 FH3 H3 σ3' R3 S3 => ⟨ρ3, _, g3, FH3, R3.masked σi, all.trans S3, q3⟩
    | bk => exact fun ρ3 FH3 H3 σ3' R3 S3 => q3 ρ3 FH3 H3 σ3' (R3.masked σi) (all.trans S3)
    | rt r => exact fun ρ3 FH3 H3 σ3' v R3 S3 rel => q3 ρ3 FH3 H3 σ3' v R3 (all.trans S3) rel
  · have e : i = xs.length := by omega
    subst e
    rw [List.drop_length] at Gi
    have Gi : Aft Y FH1 Dn .nx σi gi := Gi
    exact .inl ⟨io'.2 (Nat.le_refl _), Gi ρi FHi Hi σi' Ri Si⟩
theorem snd_sWhile {tt : TT} {t : Ev Bool} {b : Ev Fl} {tb : TS} {n : Nat} (ht : SndT Y tt t) (hb : SndS Y tb b) : SndS Y (L2.tWhile tt tb) (whileL t b n) := by
  intro ρ FH H σ' σ g Dn R hg
  refine ⟨fun m σi' Hi => ∃ (ρi : Rho) (σi : Sl) (gi : G) (FHi : Hp), Rep Y ρi FHi Hi σi' σi gi ∧ Sub FH FHi ∧ Good Y (whileL t b m σi gi) (Aft Y FH Dn), ⟨n, ρ, σ, g, FH, R, Sub.refl _, hg⟩, ?_⟩
  rintro m σi' Hi ⟨ρi, σi, gi, FHi, Ri, Si, Gi⟩
  cases m with
  | zero => exact Gi.elim
  | succ m =>
    have Gi2 : Good Y ((t σi gi).bind fun p σ1 g1 => if p = true then (b σ1 g1).bind fun f σ2 g2 => match f with
        | .nx => whileL t b m (mask σi σ2) g2
        | .ct => whileL t b m (mask σi σ2) g2
        | .bk => .ok .nx (mask σi σ2) g2
        | .rt r => .ok (.rt r) σ2 g2
      else .ok .nx σ1 g1) (Aft Y FH Dn) := Gi
    refine ht ρi FHi Hi σi' σi gi _ Ri (Gi2.bind.mono fun p σ2 g2 q FH2 H2 R2 S2 E2 => ?_)
    cases p with
    | true =>
      rw [if_pos rfl] at q ⊢
      refine ⟨fun σj' Hj => ∃ (ρj : Rho) (σj : Sl) (gj : G) (FHj : Hp), Rep Y ρj FHj Hj σj' σj gj ∧ Sub FH FHj ∧ Good Y (whileL t b m σj gj) (Aft Y FH Dn), fun σj' Hj w => ⟨m, Nat.lt_succ_self m, w⟩, ?_⟩
      have all := Si.trans S2
      refine hb ρi FH2 H2 σi' σ2 g2 _ R2 (q.bind.mono fun fl σ3 g3 q3 => ?_)
      cases fl with
      | nx => exact fun ρ3 FH3 H3 σ3' R3 S3 => ⟨ρ3, _, g3, FH3, R3.masked σi, all.trans S3, q3⟩
      | ct => exact fun ρ3 FH3 H3 σ3' R3 S3 => ⟨ρ3, _, g3, FH3, R3.masked σi, all.trans S3, q3⟩
      | bk => exact fun ρ3 FH3 H3 σ3' R3 S3 => q3 ρ3 FH3 H3 σ3' (R3.masked σi) (all.trans S3)
      | rt r => exact fun ρ3 FH3 H3 σ3' v R3 S3 rel => q3 ρ3 FH3 H3 σ3' v R3 (all.trans S3) rel
    | false =>
      rw [if_neg Bool.false_ne_true] at q ⊢
      exact q ρi FH2 H2 σi' R2 (Si.trans S2)
end
end
end FD
set_option maxHeartbeats 4000000
/-! FD11: from a text to its combinators: expressions. -/
namespace FD
noncomputable section
open PySem
open L2 (Hp HO V upd upd_same upd_ne ne_of_none Rd SqL SqT Vals RelV VK TE TT TA TS TG TGs St XK Cx PE PT PW PA PS PSs PG PGs PI Inv OpR UnR CallR R2 rI0 rI tOp tUn tVar tC tCB tCons tNil SlR IxR MtR It TI XK Sp wipe tLc Ends Gl Vis Loc FnOk Room Binds)

structure Ctx where
  /-- the slots' names -/
  N : List Str
  /-- the scope that runs -/
  sc : Scope
  /-- names that may be stored -/
  sto : List Str
  /-- defs: place, number of arguments -/
  fns : List (Str × Nat × Nat)
  /-- constants -/
  cs : List (Str × D)
  law : Bool
  /-- it hands back the deck -/
  mkd : Bool

def ixOf (x : Str) : List Str → Option Nat
  | [] => none
  | y :: r => if x = y then some 0 else (ixOf x r).map (· + 1)
theorem ixOf_get {x : Str} : ∀ {l : List Str} {i : Nat}, ixOf x l = some i → l[i]? = some x
  | [], i, h => by simp [ixOf] at h
  | y :: r, i, h => by
    unfold ixOf at h
    split at h
    · rename_i e
      cases h
      rw [e]
      rfl
    · rw [Option.map_eq_some_iff] at h
      obtain ⟨j, h1, rfl⟩ := h
      rw [List.getElem?_cons_succ]
      exact ixOf_get h1
/-- the slot of a name that is seen -/
def Ctx.slot (c : Ctx) (x : Str) : Option Nat := match c.sc.names.lookup x with
  | some .local => ixOf x c.N
  | some .cell => ixOf x c.N
  | some .free => ixOf x c.N
  | _ => none
def Ctx.isGl (c : Ctx) (x : Str) : Bool := match c.sc.names.lookup x with
  | some .globalImplicit => true
  | _ => false
/-- names of the interpreter's that no text may bind -/
def blts : List Str := ["len", "abs", "int", "str", "sum", "tuple", "list", "min", "max", "sorted", "isinstance", "range", "enumerate", "zip", "bool"]
def okName (x : Str) : Bool := x != ("__debug__" : Str) && x != ("__classdict__" : Str) && x != ("__name__" : Str)

def bop : Operator → Option (D → D → Option SV)
  | .Add => some pyAdd
  | .Sub => some pySub
  | .Mult => some pyMul
  | .FloorDiv => some pyFloorDiv
  | .Mod => some pyMod
  | .Pow => some pyPow
  | _ => none
def cop : CmpOp → Option (D → D → Option Bool)
  | .Eq => some pyEq
  | .NotEq => some pyNe
  | .Lt => some pyLt
  | .LtE => some pyLe
  | .Gt => some pyGt
  | .GtE => some pyGe
  | .Is => some pyIs
  | .IsNot => some pyIsNot
  | .In => some pyIn
  | .NotIn => some pyNotIn
/-- built-in functions of one argument -/
def f1 (x : Str) : Option (D → Option SV) :=
  if x = "len" then some pyLen else if x = "abs" then some pyAbs else if x = "int" then some pyInt else if x = "str" then some pyStr else if x = "sum" then some pySum
  else if x = "tuple" then some pyTuple else if x = "list" then some pyList else none
def f2 (x : Str) : Option (D → D → Option SV) := if x = "min" then some pyMin2 else if x = "max" then some pyMax2 else none
def btOf (x : Str) : Option BT := if x = "int" then some .int else if x = "bool" then some .bool else if x = "str" then some .str else if x = "list" then some .list else if x = "tuple" then some .tuple else none
@[simp] def boolOf : D → Option Bool
  | .bool b => some b
  | _ => none
@[simp] def cOfB (f : Ev D) : Ev Bool := fun σ g => (f σ g).bind fun d => liftO (boolOf d)

/-- xs.index(x) -/
@[simp] def cIxL (f1 f2 : Ev D) : Ev SV := fun σ g => (f1 σ g).bind fun a σ g => match a with
  | .list ds => (f2 σ g).bind fun b => liftO (pyIndex (.list ds) b)
  | _ => .stuck
/-- .. of a constant tuple -/
@[simp] def cIxK (d : D) (f : Ev D) : Ev SV := fun σ g => match d with
  | .tuple ds => (f σ g).bind fun b => liftO (pyIndexK (.tuple ds) b)
  | _ => .stuck
structure Cmp where
  O : Ctx → Expr → Option (Ev SV)
  B : Ctx → Expr → Option (Ev Bool)
  T : Ctx → Expr → Option (Ev Bool)
namespace Cmp
variable (C : Cmp)
def Dd (c : Ctx) (e : Expr) : Option (Ev D) := (C.O c e).map cD
def P (c : Ctx) (e : Expr) : Option (Ev D) := match e with
  | .Name x _ => match c.slot x with
    | some i => if okName x then some (cVP i) else none
    | none => C.Dd c e
  | e => C.Dd c e
def Ds (c : Ctx) : List Expr → Option (Ev (List D))
  | [] => some cNil
  | e :: es => (C.Dd c e).bind fun f => (Ds c es).map fun r => cCons f r
def As (c : Ctx) : List Expr → Option (Ev (List SV))
  | [] => some cANil
  | e :: es => (C.O c e).bind fun f => (As c es).map fun r => cACons f r
def Bd (c : Ctx) : Option Expr → Option (Ev (Option Int))
  | none => some cNoB
  | some e => (C.P c e).map cBd
/-- and, or of values that are bools -/
def Bs (c : Ctx) (op : BoolOp) : List Expr → Option (Ev Bool)
  | [] => none
  | [e] => C.B c e
  | e :: es => (C.B c e).bind fun f => (Bs c op es).map fun r => match op with
    | .And => cAnd f r
    | .Or => cOr f r
def Ts (c : Ctx) (op : BoolOp) : List Expr → Option (Ev Bool)
  | [] => none
  | [e] => C.T c e
  | e :: es => (C.T c e).bind fun f => (Ts c op es).map fun r => match op with
    | .And => cAnd f r
    | .Or => cOr f r
/-- what is walked -/
def I (c : Ctx) (tg iter : Expr) : Option (Ev (List D)) := match tg, iter with
  | _, .Call (.Name x _) [a] [] _ =>
    if x = "range" then (if c.isGl x then (C.P c a).map iR1 else none)
    else if x = "enumerate" then (match tg with
      | .Tuple _ _ _ => if c.isGl x then (C.Dd c a).map iEnum else none
      | _ => none)
    else (C.Dd c iter).map iSeq
  | _, .Call (.Name x _) [a, b] [] _ =>
    if x = "range" then (if c.isGl x then (C.P c a).bind fun f => (C.P c b).map fun h => iR2 f h else none)
    else if x = "zip" then (match tg with
      | .Tuple _ _ _ => if c.isGl x then (C.Dd c a).bind fun f => (C.Dd c b).map fun h => iZip f h else none
      | _ => none)
    else (C.Dd c iter).map iSeq
  | _, e => (C.Dd c e).map iSeq
/-- a clause's tests -/
def fs (c : Ctx) : List Expr → Option (Ev Bool)
  | [] => some cYes
  | [b] => C.T c b
  | _ => none
end Cmp
/-- targets whose slots are among vs -/
def tgL (f : Expr → Option TgF) : List Expr → Option (List D → Ev Unit)
  | [] => some gN
  | e :: es => (f e).bind fun t => (tgL f es).map fun r => gC t r
def tgOf (c : Ctx) (vs : List Nat) : Nat → Expr → Option TgF
  | 0, _ => none
  | n + 1, e => match e with
    | .Name x _ => if c.sto.contains x then (match ixOf x c.N with
      | some i => if vs.contains i then some (gNm i) else none
      | none => none) else none
    | .Tuple es _ _ => (tgL (tgOf c vs n) es).map (gTp es.length)
    | _ => none
/-- a comprehension's own names with their slots -/
def ownOf (N : List Str) (scope : Scope) : List (Str × Nat) := scope.names.filterMap fun (n, k) => match k with
  | .local => (ixOf n N).map fun i => (n, i)
  | .cell => (ixOf n N).map fun i => (n, i)
  | _ => none
def Ctx.blk (c : Ctx) (scope : Scope) : Ctx := { c with sc := L2.relS scope c.sc, sto := (ownOf c.N scope).map (·.1) }
/-- the slots of a target's names -/
def tgIx (N : List Str) : Expr → List Nat
  | .Name x _ => (ixOf x N).toList
  | .Tuple es _ _ => es.filterMap fun e => match e with
    | .Name x _ => ixOf x N
    | _ => none
  | _ => []
def isCon (e : Expr) (i : Int) : Bool := match e with
  | .Constant (.int j) _ _ => i == j
  | _ => false

section
variable (ct : CT)
def stepO (C : Cmp) (c : Ctx) (e : Expr) : Option (Ev SV) := match e with
  | .Constant (.int i) _ _ => some (cK (.int i))
  | .Constant (.bool b) _ _ => some (cK (.bool b))
  | .Constant .none _ _ => some (cK .none)
  | .Constant (.str x) _ _ => some (cK (.str x))
  | .Name x _ => match c.slot x with
    | some i => if okName x then some (cVE i) else none
    | none => if c.isGl x && okName x then (c.cs.lookup x).map cK else none
  | .BinOp a op b _ => (bop op).bind fun o => (C.P c a).bind fun f => (C.P c b).map fun h => c2 o f h
  | .UnaryOp .USub a _ => (C.P c a).map fun f => c1 pyNeg f
  | .UnaryOp .Not a p => (C.B c (.UnaryOp .Not a p)).map cB
  | .BoolOp op es p => (C.B c (.BoolOp op es p)).map cB
  | .Compare a ops es p => (C.B c (.Compare a ops es p)).map cB
  | .IfExp t a b _ => (C.T c t).bind fun ft => (C.O c a).bind fun fa => (C.O c b).map fun fb => cIte ft fa fb
  | .Tuple es _ _ => (C.Ds c es).map cTup
  | .List es _ => (C.Ds c es).map cLst
  | .Subscript a (.Slice lo hi none _) _ => (C.P c a).bind fun f => (C.Bd c lo).bind fun l => (C.Bd c hi).map fun h => cSlice f l h
  | .Subscript a b _ =>
    match a with
    | .Name x _ => (match c.slot x with
      | some i => if okName x then (C.P c b).map fun h => cVIx i h else none
      | none => (C.P c a).bind fun f => (C.P c b).map fun h => c2 pyIx f h)
    | .Subscript (.Name x _) k _ => (match c.slot x with
      | some i => if isCon k 1 && isCon b 0 && okName x then some (cV10 i) else (C.P c a).bind fun f => (C.P c b).map fun h => c2 pyIx f h
      | none => (C.P c a).bind fun f => (C.P c b).map fun h => c2 pyIx f h)
    | _ => (C.P c a).bind fun f => (C.P c b).map fun h => c2 pyIx f h
  | .Call (.Name x q) (a :: as) [] p =>
    if c.isGl x && okName x then
      (if x = "isinstance" then (C.B c (.Call (.Name x q) (a :: as) [] p)).map cB
      else match c.fns.lookup x with
        | some (i, n) => (C.As c (a :: as)).map fun r => cCall ct i r
        | none => match as with
          | [] => (f1 x).bind fun o => (C.P c a).map fun f => c1 o f
          | [b] => (f2 x).bind fun o => (C.P c a).bind fun f => (C.P c b).map fun h => c2 o f h
          | _ => none)
    else none
  | .Call (.Attribute (.Name x _) m ap) [a] [] cp =>
    if m = "index" && ap.endLine == cp.line && okName x then
      (match c.slot x with
      | some i => (C.P c a).map fun h => cIxL (cVP i) h
      | none => if c.isGl x then (match c.cs.lookup x with
        | some d => (C.P c a).map fun h => cIxK d h
        | none => none) else none)
    else none
  | .ListComp elt [⟨tg, iter, ifs, 0⟩] scope _ =>
    let own := ownOf c.N scope
    let vs := own.map (·.2)
    if L2.blkC c.N c.sc scope own then
      (C.I c tg iter).bind fun it => (tgOf (c.blk scope) vs 5 tg).bind fun t => (match ifs with
        | [] => some cYes
        | [b] => C.T (c.blk scope) b
        | _ => none).bind fun ft => (C.Dd (c.blk scope) elt).map fun f => cLc it vs t ft f
    else none
  | .ListComp elt [⟨tg, iter, ifs, 0⟩, ⟨tg1, iter1, ifs1, 0⟩] scope _ =>
    if L2.blkC c.N c.sc scope (ownOf c.N scope) && (tgIx c.N tg1).all ((ownOf c.N scope).map (·.2)).contains then
      (C.I c tg iter).bind fun it => (tgOf (c.blk scope) ((ownOf c.N scope).map (·.2)) 5 tg).bind fun t => (C.fs (c.blk scope) ifs).bind fun ft =>
        (C.I (c.blk scope) tg1 iter1).bind fun it1 => (tgOf (c.blk scope) (tgIx c.N tg1) 5 tg1).bind fun t1 => (C.fs (c.blk scope) ifs1).bind fun ft1 =>
          (C.Dd (c.blk scope) elt).map fun f => cLc2 it ((ownOf c.N scope).map (·.2)) (tgIx c.N tg1) t ft it1 t1 ft1 f
    else none
  | _ => none
def stepB (C : Cmp) (c : Ctx) (e : Expr) : Option (Ev Bool) := match e with
  | .Compare a [op] [b] _ => (cop op).bind fun o => (C.P c a).bind fun f => (C.P c b).map fun h => cCmp o f h
  | .Compare a [op, op'] [b, d] _ => (cop op).bind fun o => (cop op').bind fun o' => (C.P c a).bind fun f => (C.P c b).bind fun h => (C.P c d).map fun k => cChain o o' f h k
  | .BoolOp op es _ => C.Bs c op es
  | .UnaryOp .Not a _ => (C.B c a).map cNot
  | .Call (.Name x q) [a, .Name y r] [] p =>
    if x = "isinstance" then
      (if c.isGl x && c.isGl y then (btOf y).bind fun t => (C.P c a).map fun f => cIsI t f else none)
    else (C.Dd c (.Call (.Name x q) [a, .Name y r] [] p)).map cOfB
  | e => (C.Dd c e).map cOfB
def stepT (C : Cmp) (c : Ctx) (e : Expr) : Option (Ev Bool) := match e with
  | .BoolOp op es _ => C.Ts c op es
  | .UnaryOp .Not a _ => (C.T c a).map cNot
  | .Compare a [op] [b] p => stepB C c (.Compare a [op] [b] p)
  | .Compare a [op, op'] [b, d] p => stepB C c (.Compare a [op, op'] [b, d] p)
  | .Compare _ _ _ _ => none
  | .IfExp _ _ _ _ => none
  | .Call (.Name x q) [a, .Name y r] [] p => if x = "isinstance" then C.B c (.Call (.Name x q) [a, .Name y r] [] p) else (C.P c (.Call (.Name x q) [a, .Name y r] [] p)).map cTru
  | e => (C.P c e).map cTru
def stepC (C : Cmp) : Cmp := ⟨stepO ct C, stepB C, stepT C⟩
def cmp : Nat → Cmp
  | 0 => ⟨fun _ _ => none, fun _ _ => none, fun _ _ => none⟩
  | n + 1 => stepC ct (cmp n)
end
end
end FD
/-! FD12: a text's combinators say what its run does: expressions. -/
namespace FD
noncomputable section
open PySem
open L2 (Hp HO V upd upd_same upd_ne ne_of_none Rd SqL SqT Vals RelV VK TE TT TA TS TG TGs St XK Cx PE PT PW PA PS PSs PG PGs PI Inv OpR UnR CallR R2 rI0 rI tOp tUn tVar tC tCB tCons tNil SlR IxR MtR It TI XK Sp wipe tLc Ends Gl Vis Loc FnOk Room Binds CX0)

def XC0 : XCT := fun _ _ _ _ _ _ => False
structure Fix where
  prog : Program
  w : World
  K : PySem.W.Frag
  mg : Str → Option Value
  base : Heap
  A : Around
structure FixOk (B : Fix) (ct : CT) (fns : List (Str × Nat × Nat)) (cs : List (Str × D)) : Prop where
  un : B.A.units + 80 < cLine
  bs : ∀ x ∈ blts, B.mg x = none
  fns : ∀ x i n, fns.lookup x = some (i, n) → (∀ as g, ct i as g ≠ .stuck → as.length = n) ∧ ∃ (fa : Addr) (fd : FuncData) (k : Nat) (ps : List Str), B.mg x = some (.ref fa) ∧ PySem.W.keepIn B.K (.ref fa) = true ∧ Room k B.A ∧ Binds B.K fd ps [] ∧
    FnOk B.prog B.w B.K B.mg B.base CX0 k fa fd ps (spF B.K XC0 false n (ct i))
  cs : ∀ x d, cs.lookup x = some d → ∃ u v, B.mg x = some u ∧ RelV v u ∧ Dq B.K (fun _ => none) v d ∧ ∀ ds, d = .tuple ds → ∃ p o, v = .ref p ∧ B.K.lookup p = some o ∧ o.cls = .type "tuple" ∧ o.dict = none
structure XOk (B : Fix) (c : Ctx) (X : Cx) : Prop where
  eP : X.prog = B.prog
  eW : X.w = B.w
  eK : X.K = B.K
  eM : X.mg = B.mg
  eB : X.base = B.base
  eA : X.A = B.A
  hN : X.N = c.N
  nd : c.N.Nodup
  sc : X.env.scope = c.sc
  kind : c.sc.kind = .function
  sto : ∀ x, c.sto.contains x = true → Loc X.env.scope x ∧ (X.fn x = true ∨ X.env.scope.names.lookup x = some .local)
  calm : X.calm = true
  pass : PassesOwn (model X.prog X.w) X.A X.env X.xe
structure YOk (B : Fix) (Y : Yx) : Prop where
  K : Y.K = B.K
  ex : ∀ e σ g, ¬ Y.Ex e σ g
theorem YOk.under {B : Fix} {Y : Yx} (h : YOk B Y) (p : Addr) (acc : List V) : YOk B (Y.under p acc) := ⟨h.K, fun _ _ _ z => z⟩

/-! ### forms -/
def noStar : Expr → Bool
  | .Starred _ _ => false
  | .Slice _ _ _ _ => false
  | .Set _ _ _ => false
  | _ => true
theorem star_cons {e : Expr} {es : List Expr} {env : Env} (h : noStar e = true) : starEach (e :: es) env = (false, eval e env) :: starEach es env := by
  cases e <;> first | rfl | (simp [noStar] at h)
theorem noback {pos : Pos} {env : Env} : ∀ {es : List Expr}, (∀ e ∈ es, noStar e = true) → (backTo pos (starEach es env)).any (·.1) = false
  | [], _ => rfl
  | e :: es, h => by
    rw [star_cons (h e List.mem_cons_self)]
    show (false || (backTo pos (starEach es env)).any (·.1)) = false
    rw [noback fun x hx => h x (List.mem_cons_of_mem _ hx)]
    rfl
theorem plainIx {b : Expr} (h : noStar b = true) : L2.PlainIx b := by
  intro o i
  cases b <;> first | rfl | (simp [noStar] at h)
theorem noBehind {op : CmpOp} {b : Expr} (h : noStar b = true) : behindInMarks op b = false := by
  cases b <;> first | rfl | (simp [noStar] at h)
theorem noFold {e : Expr} {env : Env} (h : noStar e = true) : ∀ x, foldedSetIterable e env x = pure x := by
  intro x
  cases e <;> first | rfl | (simp [noStar] at h)

/-! ### what is shown of a level -/
section
variable {ct : CT} {C : Cmp}
def SO (ct : CT) (C : Cmp) : Prop := ∀ c e f, C.O c e = some f → noStar e = true ∧ ∀ B, FixOk B ct c.fns c.cs → ∃ te, (∀ X, XOk B c X → PE X e te) ∧ ∀ Y, YOk B Y → SndE Y (RelO Y) te f
def SB (ct : CT) (C : Cmp) : Prop := ∀ c e f, C.B c e = some f → noStar e = true ∧ ∀ B, FixOk B ct c.fns c.cs → ∃ te, (∀ X, XOk B c X → PE X e te) ∧ ∀ Y, YOk B Y → SndE Y (RelB Y) te f
def ST (ct : CT) (C : Cmp) : Prop := ∀ c e f, C.T c e = some f → noStar e = true ∧ ∀ B, FixOk B ct c.fns c.cs → ∃ tt, (∀ X, XOk B c X → PT X e tt) ∧ ∀ Y, YOk B Y → SndT Y tt f
/-- an expression's reading in mode R -/
def Sd {α : Type} (ct : CT) (R : Yx → RelT α) (c : Ctx) (e : Expr) (f : Ev α) : Prop := noStar e = true ∧ ∀ B, FixOk B ct c.fns c.cs → ∃ te, (∀ X, XOk B c X → PE X e te) ∧ ∀ Y, YOk B Y → SndE Y (R Y) te f
theorem map_some {α β : Type} {o : Option α} {k : α → β} {b : β} (h : o.map k = some b) : ∃ a, o = some a ∧ k a = b := by
  cases o with
  | none => cases h
  | some a => exact ⟨a, rfl, Option.some.inj h⟩
theorem bind_some {α β : Type} {o : Option α} {k : α → Option β} {b : β} (h : o.bind k = some b) : ∃ a, o = some a ∧ k a = some b := by
  cases o with
  | none => cases h
  | some a => exact ⟨a, rfl, h⟩
theorem sd_D (hO : SO ct C) {c : Ctx} {e : Expr} {f : Ev D} (h : C.Dd c e = some f) : Sd ct RelD c e f := by
  obtain ⟨g, h1, rfl⟩ := map_some h
  obtain ⟨n, q⟩ := hO c e g h1
  refine ⟨n, fun B hB => ?_⟩
  obtain ⟨te, a, b⟩ := q B hB
  exact ⟨te, a, fun Y hY => snd_cD (b Y hY)⟩
theorem slot_vis {c : Ctx} {x : Str} {i : Nat} (h : c.slot x = some i) : c.N[i]? = some x ∧ Vis c.sc x := by
  unfold Ctx.slot at h
  split at h
  · rename_i e; exact ⟨ixOf_get h, .inl e⟩
  · rename_i e; exact ⟨ixOf_get h, .inr (.inl e)⟩
  · rename_i e; exact ⟨ixOf_get h, .inr (.inr e)⟩
  · cases h
theorem okName_1 {x : Str} (h : okName x = true) : (x == ("__debug__" : Str)) = false ∧ (x == ("__classdict__" : Str)) = false ∧ x ≠ "__name__" := by
  unfold okName at h
  simp only [Bool.and_eq_true, bne_iff_ne, ne_eq] at h
  exact ⟨by simpa using h.1.1, by simpa using h.1.2, h.2⟩
theorem pe_slot {B : Fix} {c : Ctx} {X : Cx} {x : Str} {i : Nat} {pos : Pos} (hX : XOk B c X) (h : c.slot x = some i) (ok : okName x = true) : PE X (.Name x pos) (tVar i) := by
  obtain ⟨h1, h2⟩ := slot_vis h
  obtain ⟨o1, o2, _⟩ := okName_1 ok
  exact L2.pe_var (by rw [hX.hN]; exact h1) (by rw [hX.sc]; exact h2) o1 o2
theorem sd_P (hO : SO ct C) {c : Ctx} {e : Expr} {f : Ev D} (h : C.P c e = some f) : Sd ct RelP c e f := by
  have gen : ∀ {e : Expr} {f : Ev D}, C.Dd c e = some f → Sd ct RelP c e f := fun {e f} h => by
    obtain ⟨n, q⟩ := sd_D hO h
    refine ⟨n, fun B hB => ?_⟩
    obtain ⟨te, a, b⟩ := q B hB
    exact ⟨te, a, fun Y hY => snd_P (b Y hY)⟩
  unfold Cmp.P at h
  split at h
  · split at h
    · rename_i x pos _ i hi
      split at h
      · rename_i ok
        cases h
        exact ⟨rfl, fun B hB => ⟨tVar i, fun X hX => pe_slot hX hi ok, fun Y hY => snd_cVP⟩⟩
      · cases h
    · exact gen h
  · exact gen h
/-- arguments: no star, a reading of the row -/
theorem sd_Ds (hO : SO ct C) {c : Ctx} : ∀ {es : List Expr} {f : Ev (List D)}, C.Ds c es = some f → (∀ e ∈ es, noStar e = true) ∧ ∀ B, FixOk B ct c.fns c.cs → ∃ ta, (∀ X, XOk B c X → PA X es ta) ∧ ∀ Y, YOk B Y → SndA Y ta f
  | [], f, h => by
    cases h
    exact ⟨(fun e he => nomatch he), fun B hB => ⟨tNil, fun X hX => L2.pa_nil, fun Y hY => snd_cNil⟩⟩
  | e :: es, f, h => by
    obtain ⟨g, h1, h2⟩ := bind_some h
    obtain ⟨r, h3, rfl⟩ := map_some h2
    obtain ⟨n, q⟩ := sd_D hO h1
    obtain ⟨ns, qs⟩ := sd_Ds hO h3
    refine ⟨fun x hx => (List.mem_cons.mp hx).elim (fun z => z ▸ n) (ns x), fun B hB => ?_⟩
    obtain ⟨te, a, b⟩ := q B hB
    obtain ⟨ta, a2, b2⟩ := qs B hB
    exact ⟨tCons te ta, fun X hX => L2.pa_cons (a X hX) (a2 X hX) (star_cons n), fun Y hY => snd_cCons (b Y hY) (b2 Y hY)⟩
theorem sd_As (hO : SO ct C) {c : Ctx} : ∀ {es : List Expr} {f : Ev (List SV)}, C.As c es = some f → (∀ e ∈ es, noStar e = true) ∧ ∀ B, FixOk B ct c.fns c.cs → ∃ ta, (∀ X, XOk B c X → PA X es ta) ∧ ∀ Y, YOk B Y → SndAS Y ta f
  | [], f, h => by
    cases h
    exact ⟨(fun e he => nomatch he), fun B hB => ⟨tNil, fun X hX => L2.pa_nil, fun Y hY => snd_cANil⟩⟩
  | e :: es, f, h => by
    obtain ⟨g, h1, h2⟩ := bind_some h
    obtain ⟨r, h3, rfl⟩ := map_some h2
    obtain ⟨n, q⟩ := hO c e g h1
    obtain ⟨ns, qs⟩ := sd_As hO h3
    refine ⟨fun x hx => (List.mem_cons.mp hx).elim (fun z => z ▸ n) (ns x), fun B hB => ?_⟩
    obtain ⟨te, a, b⟩ := q B hB
    obtain ⟨ta, a2, b2⟩ := qs B hB
    exact ⟨tCons te ta, fun X hX => L2.pa_cons (a X hX) (a2 X hX) (star_cons n), fun Y hY => snd_cACons (b Y hY) (b2 Y hY)⟩
theorem sd_Bd (hO : SO ct C) {c : Ctx} {o : Option Expr} {f : Ev (Option Int)} (h : C.Bd c o = some f) : ∀ B, FixOk B ct c.fns c.cs → ∃ tl, (∀ X, XOk B c X → L2.PO X o tl) ∧ ∀ Y, YOk B Y → SndB Y tl f := by
  cases o with
  | none =>
    cases h
    exact fun B hB => ⟨L2.tNoPart, fun X hX => L2.po_none, fun Y hY => snd_noB⟩
  | some e =>
    obtain ⟨g, h1, rfl⟩ := map_some h
    obtain ⟨n, q⟩ := sd_P hO h1
    intro B hB
    obtain ⟨te, a, b⟩ := q B hB
    exact ⟨L2.tPart te, fun X hX => L2.po_some (a X hX), fun Y hY => snd_cBd (b Y hY)⟩
/-- and, or: the values -/
theorem sd_Bs (hB : SB ct C) {c : Ctx} {op : BoolOp} : ∀ {es : List Expr} {f : Ev Bool}, C.Bs c op es = some f → ∀ B, FixOk B ct c.fns c.cs → ∃ te, (∀ X, XOk B c X → ∀ pos, PE X (.BoolOp op es pos) te) ∧ ∀ Y, YOk B Y → SndE Y (RelB Y) te f
  | [], f, h => by cases h
  | [e], f, h => by
    intro B hB'
    obtain ⟨_, q⟩ := hB c e f h
    obtain ⟨te, a, b⟩ := q B hB'
    exact ⟨te, fun X hX pos => L2.pe_one (a X hX), b⟩
  | e :: e2 :: es, f, h => by
    intro B hB'
    obtain ⟨g, h1, h2⟩ := bind_some h
    obtain ⟨r, h3, rfl⟩ := map_some h2
    obtain ⟨_, q⟩ := hB c e g h1
    obtain ⟨te, a, b⟩ := q B hB'
    obtain ⟨tr, a2, b2⟩ := sd_Bs hB h3 B hB'
    cases op with
    | And => exact ⟨L2.tAndV te tr, fun X hX pos => L2.pe_and (a X hX) (a2 X hX pos), fun Y hY => snd_andV (b Y hY) (b2 Y hY)⟩
    | Or => exact ⟨L2.tOrV te tr, fun X hX pos => L2.pe_or (a X hX) (a2 X hX pos), fun Y hY => snd_orV (b Y hY) (b2 Y hY)⟩
theorem sd_Ts (hT : ST ct C) {c : Ctx} {op : BoolOp} : ∀ {es : List Expr} {f : Ev Bool}, C.Ts c op es = some f → ∀ B, FixOk B ct c.fns c.cs → ∃ tt, (∀ X, XOk B c X → ∀ pos, PW X (.BoolOp op es pos) tt) ∧ ∀ Y, YOk B Y → SndT Y tt f
  | [], f, h => by cases h
  | [e], f, h => by
    intro B hB'
    obtain ⟨_, q⟩ := hT c e f h
    obtain ⟨te, a, b⟩ := q B hB'
    cases op with
    | And => exact ⟨te, fun X hX pos => L2.pw_and1 (a X hX), b⟩
    | Or => exact ⟨te, fun X hX pos => L2.pw_or1 (a X hX), b⟩
  | e :: e2 :: es, f, h => by
    intro B hB'
    obtain ⟨g, h1, h2⟩ := bind_some h
    obtain ⟨r, h3, rfl⟩ := map_some h2
    obtain ⟨_, q⟩ := hT c e g h1
    obtain ⟨te, a, b⟩ := q B hB'
    obtain ⟨tr, a2, b2⟩ := sd_Ts hT h3 B hB'
    cases op with
    | And => exact ⟨L2.tAnd te tr, fun X hX pos => L2.pw_and (a X hX) (a2 X hX pos), fun Y hY => snd_cAnd (b Y hY) (b2 Y hY)⟩
    | Or => exact ⟨L2.tOr te tr, fun X hX pos => L2.pw_or (a X hX) (a2 X hX pos), fun Y hY => snd_cOr (b Y hY) (b2 Y hY)⟩
theorem snd_cOfB {Y : Yx} {te : TE} {f : Ev D} (h : SndE Y (RelD Y) te f) : SndE Y (RelB Y) te (cOfB f) := by
  intro ρ FH H σ' σ g Q R hg
  refine h ρ FH H σ' σ g Q R (hg.bind.mono fun d σ2 g2 q v FH2 H2 R2 S E rel => ?_)
  obtain ⟨b, e, q⟩ := q.lift
  cases d with
  | bool b' =>
    simp only [boolOf, Option.some.injEq] at e
    subst e
    cases rel
    exact q _ FH2 H2 R2 S E rfl
  | _ => simp [boolOf] at e
/-! ### single operations by their names -/
theorem isGl_gl {B : Fix} {c : Ctx} {X : Cx} {x : Str} (hX : XOk B c X) (h : c.isGl x = true) : Gl X x := by
  unfold Ctx.isGl at h
  show X.env.scope.names.lookup x = _
  rw [hX.sc]
  split at h
  · assumption
  · cases h
theorem op_bop {B : Fix} {op : Operator} {o : D → D → Option SV} (h : bop op = some o) : ∃ r : R2, (∀ c X, XOk B c X → OpR X (binaryOp op) r) ∧ ∀ Y, YOk B Y → Op2 Y r o := by
  cases op with
  | Add => cases h; exact ⟨rAdd B.K, fun c X hX => hX.eK ▸ op_add, fun Y hY => hY.K ▸ o2_add⟩
  | Sub => cases h; exact ⟨rSub, fun c X hX => op_sub, fun Y hY => o2_sub⟩
  | Mult => cases h; exact ⟨rMul B.K, fun c X hX => hX.eK ▸ op_mul, fun Y hY => hY.K ▸ o2_mul⟩
  | FloorDiv => cases h; exact ⟨rDiv, fun c X hX => op_div, fun Y hY => o2_div⟩
  | Mod => cases h; exact ⟨rMod, fun c X hX => op_mod, fun Y hY => o2_mod⟩
  | Pow => cases h; exact ⟨rPow, fun c X hX => op_pow, fun Y hY => o2_pow⟩
  | _ => cases h
theorem op_cop {B : Fix} {op : CmpOp} {o : D → D → Option Bool} (hu : B.A.units + 80 < cLine) (h : cop op = some o) : ∃ r : R2, (∀ c X, XOk B c X → OpR X (compareOp op) r) ∧ ∀ Y, YOk B Y → OpB Y r o := by
  have u64 : ∀ {c X}, XOk B c X → X.A.units + 64 < cLine := fun {c X} hX => by rw [hX.eA]; omega
  have u65 : ∀ {c X}, XOk B c X → X.A.units + 65 < cLine := fun {c X} hX => by rw [hX.eA]; omega
  cases op with
  | Eq => cases h; exact ⟨rEqq B.K, fun c X hX => hX.eK ▸ op_eq (u64 hX), fun Y hY => hY.K ▸ ob_eq⟩
  | NotEq => cases h; exact ⟨rNee B.K, fun c X hX => hX.eK ▸ op_ne (u64 hX), fun Y hY => hY.K ▸ ob_ne⟩
  | Lt => cases h; exact ⟨rLt, fun c X hX => L2.op_lt, fun Y hY => ob_lt⟩
  | LtE => cases h; exact ⟨rLe, fun c X hX => L2.op_le, fun Y hY => ob_le⟩
  | Gt => cases h; exact ⟨rGt, fun c X hX => L2.op_gt, fun Y hY => ob_gt⟩
  | GtE => cases h; exact ⟨rGe, fun c X hX => L2.op_ge, fun Y hY => ob_ge⟩
  | Is => cases h; exact ⟨rIs, fun c X hX => op_is, fun Y hY => ob_is⟩
  | IsNot => cases h; exact ⟨rIsNot, fun c X hX => op_isnot, fun Y hY => ob_isnot⟩
  | In => cases h; exact ⟨rInn B.K, fun c X hX => hX.eK ▸ op_in (u65 hX), fun Y hY => hY.K ▸ ob_in⟩
  | NotIn => cases h; exact ⟨rNotInn B.K, fun c X hX => hX.eK ▸ op_notin (u65 hX), fun Y hY => hY.K ▸ ob_notin⟩
/-- a built-in function of one argument, called -/
theorem pe_f1 {B : Fix} {x : Str} {o : D → Option SV} (hb : ∀ x ∈ blts, B.mg x = none) (h : f1 x = some o) : ∃ r : List V → Hp → VK → Prop, (∀ c X, XOk B c X → c.isGl x = true → okName x = true → ∀ (e : Expr) (te : TE) (p pos : Pos), noStar e = true → PE X e te → PE X (.Call (.Name x p) [e] [] pos) (tCB r (tCons te tNil))) ∧ ∀ Y, YOk B Y → Op1 Y (r1 r) o := by
  have mg : ∀ {c X} (y : Str), XOk B c X → y ∈ blts → X.mg y = none := fun {c X} y hX hy => by rw [hX.eM]; exact hb y hy
  have pa : ∀ {X : Cx} {e : Expr} {te : TE}, noStar e = true → PE X e te → PA X [e] (tCons te tNil) := fun {X e te} n h => L2.pa_cons h L2.pa_nil (star_cons n)
  unfold f1 at h
  split at h
  · rename_i e; subst e; cases h
    exact ⟨rLen B.K, fun c X hX hg ok e te p pos n he => by
      have := L2.pe_callB (pos := pos) (p := p) L2.call_len (isGl_gl hX hg) (mg _ hX (by decide +kernel)) boot_len (pa n he) (okName_1 ok).2.2 (okName_1 ok).1 (star_cons n) rfl
      rw [hX.eK] at this
      exact this, fun Y hY => hY.K ▸ o1_len⟩
  split at h
  · rename_i e; subst e; cases h
    exact ⟨rAbs, fun c X hX hg ok e te p pos n he => L2.pe_callB L2.call_abs (isGl_gl hX hg) (mg _ hX (by decide +kernel)) PyProof.Rows.boot_abs (pa n he) (okName_1 ok).2.2 (okName_1 ok).1 (star_cons n) rfl, fun Y hY => o1_abs⟩
  split at h
  · rename_i e; subst e; cases h
    exact ⟨rInt1, fun c X hX hg ok e te p pos n he => L2.pe_callTy L2.call_int1 (isGl_gl hX hg) (mg _ hX (by decide +kernel)) PyProof.Rows.boot_int (pa n he) (okName_1 ok).2.2 (okName_1 ok).1 (star_cons n) rfl, fun Y hY => o1_int⟩
  split at h
  · rename_i e; subst e; cases h
    exact ⟨rStr1, fun c X hX hg ok e te p pos n he => L2.pe_callTy L2.call_str_int (isGl_gl hX hg) (mg _ hX (by decide +kernel)) PyProof.Rows.boot_str (pa n he) (okName_1 ok).2.2 (okName_1 ok).1 (star_cons n) rfl, fun Y hY => o1_str⟩
  split at h
  · rename_i e; subst e; cases h
    exact ⟨L2.rSum B.K, fun c X hX hg ok e te p pos n he => by
      have := L2.pe_callB (pos := pos) (p := p) (L2.cr_sum hX.calm) (isGl_gl hX hg) (mg _ hX (by decide +kernel)) PyProof.Rows.boot_sum (pa n he) (okName_1 ok).2.2 (okName_1 ok).1 (star_cons n) rfl
      rw [hX.eK] at this
      exact this, fun Y hY => hY.K ▸ o1_sum⟩
  split at h
  · rename_i e; subst e; cases h
    exact ⟨rTup1 B.K, fun c X hX hg ok e te p pos n he => by
      have := L2.pe_callTy (pos := pos) (p := p) L2.call_tuple_of (isGl_gl hX hg) (mg _ hX (by decide +kernel)) PyProof.Rows.boot_tuple (pa n he) (okName_1 ok).2.2 (okName_1 ok).1 (star_cons n) rfl
      rw [hX.eK] at this
      exact this, fun Y hY => hY.K ▸ o1_tuple⟩
  split at h
  · rename_i e; subst e; cases h
    exact ⟨rList1 B.K, fun c X hX hg ok e te p pos n he => by
      have := L2.pe_callTy (pos := pos) (p := p) L2.call_list_of (isGl_gl hX hg) (mg _ hX (by decide +kernel)) PyProof.Rows.boot_list (pa n he) (okName_1 ok).2.2 (okName_1 ok).1 (star_cons n) rfl
      rw [hX.eK] at this
      exact this, fun Y hY => hY.K ▸ o1_list⟩
  · cases h
theorem pe_f2 {B : Fix} {x : Str} {o : D → D → Option SV} (hb : ∀ x ∈ blts, B.mg x = none) (h : f2 x = some o) : ∃ r : List V → Hp → VK → Prop, (∀ c X, XOk B c X → c.isGl x = true → okName x = true → ∀ (e e2 : Expr) (te te2 : TE) (p pos : Pos), noStar e = true → noStar e2 = true → PE X e te → PE X e2 te2 → PE X (.Call (.Name x p) [e, e2] [] pos) (tCB r (tCons te (tCons te2 tNil)))) ∧ ∀ Y, YOk B Y → Op2 Y (r2 r) o := by
  have mg : ∀ {c X} (y : Str), XOk B c X → y ∈ blts → X.mg y = none := fun {c X} y hX hy => by rw [hX.eM]; exact hb y hy
  have nb : ∀ {X : Cx} {e2 : Expr} {pos : Pos}, noStar e2 = true → (backTo pos (starEach [e2] X.env)).any (·.1) = false := fun {X e2 pos} n => noback fun x hx => by
    have : x = e2 := by simpa using hx
    rw [this]; exact n
  unfold f2 at h
  split at h
  · rename_i e; subst e; cases h
    exact ⟨rMin2, fun c X hX hg ok e e2 te te2 p pos n n2 he he2 => L2.pe_callB (L2.call_min2 hX.calm) (isGl_gl hX hg) (mg _ hX (by decide +kernel)) PyProof.Rows.boot_min (L2.pa_cons he (L2.pa_cons he2 L2.pa_nil (star_cons n2)) (star_cons n)) (okName_1 ok).2.2 (okName_1 ok).1 (star_cons n) (nb n2), fun Y hY => o2_min⟩
  split at h
  · rename_i e; subst e; cases h
    exact ⟨rMax2, fun c X hX hg ok e e2 te te2 p pos n n2 he he2 => L2.pe_callB (L2.call_max2 hX.calm) (isGl_gl hX hg) (mg _ hX (by decide +kernel)) PyProof.Rows.boot_max (L2.pa_cons he (L2.pa_cons he2 L2.pa_nil (star_cons n2)) (star_cons n)) (okName_1 ok).2.2 (okName_1 ok).1 (star_cons n) (nb n2), fun Y hY => o2_max⟩
  · cases h
end
end
end FD
/-! FD13: what is walked, targets, comprehensions, calls: each level from the one below. -/
namespace FD
noncomputable section
open PySem
open L2 (Hp HO V upd upd_same upd_ne ne_of_none Rd SqL SqT Vals RelV VK TE TT TA TS TG TGs St XK Cx PE PT PW PA PS PSs PG PGs PI Inv OpR UnR CallR R2 rI0 rI tOp tUn tVar tC tCB tCons tNil SlR IxR MtR It TI XK Sp wipe tLc Ends Gl Vis Loc FnOk Room Binds CX0)
section
variable {ct : CT} {C : Cmp}
/-! ### walked -/
def SdI (ct : CT) (c : Ctx) (tg iter : Expr) (f : Ev (List D)) : Prop := noStar iter = true ∧ ∀ B, FixOk B ct c.fns c.cs → ∃ wi, (∀ X, XOk B c X → PI X tg iter wi) ∧ ∀ Y, YOk B Y → SndI Y wi f
theorem sdI_seq (hO : SO ct C) {c : Ctx} {tg iter : Expr} {f : Ev (List D)} (h : (C.Dd c iter).map iSeq = some f) : SdI ct c tg iter f := by
  obtain ⟨g, h1, rfl⟩ := map_some h
  obtain ⟨n, q⟩ := sd_D hO h1
  refine ⟨n, fun B hB => ?_⟩
  obtain ⟨te, a, b⟩ := q B hB
  exact ⟨iAny B.K te, fun X hX => by have := pi_any (tg := tg) (a X hX); rw [hX.eK] at this; exact this, fun Y hY => by have := snd_iSeq (b Y hY); rw [hY.K] at this; exact this⟩
theorem mgB {B : Fix} {c : Ctx} {X : Cx} (hb : ∀ x ∈ blts, B.mg x = none) (y : Str) (hX : XOk B c X) (hy : y ∈ blts) : X.mg y = none := by rw [hX.eM]; exact hb y hy
theorem sd_I (hO : SO ct C) {c : Ctx} {tg iter : Expr} {f : Ev (List D)} (h : C.I c tg iter = some f) : SdI ct c tg iter f := by
  unfold Cmp.I at h
  split at h
  · rename_i x p a pos
    split at h
    · rename_i e
      subst e
      split at h
      · rename_i gl
        obtain ⟨g, h1, rfl⟩ := map_some h
        obtain ⟨n, q⟩ := sd_P hO h1
        refine ⟨rfl, fun B hB => ?_⟩
        obtain ⟨te, a1, b1⟩ := q B hB
        exact ⟨L2.iRng1 (tCons te tNil), fun X hX => L2.pi_range1 (isGl_gl hX gl) (mgB hB.bs _ hX (by decide +kernel)) (L2.pa_cons (a1 X hX) L2.pa_nil (star_cons n)) (star_cons n), fun Y hY => snd_iR1 (b1 Y hY)⟩
      · cases h
    · split at h
      · rename_i e
        subst e
        split at h
        · split at h
          · rename_i gl
            obtain ⟨g, h1, rfl⟩ := map_some h
            obtain ⟨n, q⟩ := sd_D hO h1
            refine ⟨rfl, fun B hB => ?_⟩
            obtain ⟨te, a1, b1⟩ := q B hB
            exact ⟨iEnumA B.K (tCons te tNil), fun X hX => by
              rw [← hX.eK]
              exact pi_enumA (isGl_gl hX gl) (mgB hB.bs _ hX (by decide +kernel)) (L2.pa_cons (a1 X hX) L2.pa_nil (star_cons n)) (star_cons n), fun Y hY => by have := snd_iEnum (b1 Y hY); rw [hY.K] at this; exact this⟩
          · cases h
        · cases h
      · exact sdI_seq hO h
  · rename_i x p a b pos
    split at h
    · rename_i e
      subst e
      split at h
      · rename_i gl
        obtain ⟨g, h1, h⟩ := bind_some h
        obtain ⟨g2, h2, rfl⟩ := map_some h
        obtain ⟨n, q⟩ := sd_P hO h1
        obtain ⟨n2, q2⟩ := sd_P hO h2
        refine ⟨rfl, fun B hB => ?_⟩
        obtain ⟨te, a1, b1⟩ := q B hB
        obtain ⟨te2, a2, b2⟩ := q2 B hB
        exact ⟨L2.iRng2 (tCons te (tCons te2 tNil)), fun X hX => L2.pi_range2 (isGl_gl hX gl) (mgB hB.bs _ hX (by decide +kernel)) (L2.pa_cons (a1 X hX) (L2.pa_cons (a2 X hX) L2.pa_nil (star_cons n2)) (star_cons n)) (by rw [star_cons n, star_cons n2] <;> rfl) (by rw [star_cons n2] <;> rfl), fun Y hY => snd_iR2 (b1 Y hY) (b2 Y hY)⟩
      · cases h
    · split at h
      · rename_i e
        subst e
        split at h
        · split at h
          · rename_i gl
            obtain ⟨g, h1, h⟩ := bind_some h
            obtain ⟨g2, h2, rfl⟩ := map_some h
            obtain ⟨n, q⟩ := sd_D hO h1
            obtain ⟨n2, q2⟩ := sd_D hO h2
            refine ⟨rfl, fun B hB => ?_⟩
            obtain ⟨te, a1, b1⟩ := q B hB
            obtain ⟨te2, a2, b2⟩ := q2 B hB
            exact ⟨RZ.iZipA B.K (tCons te (tCons te2 tNil)), fun X hX => by
              rw [← hX.eK]
              exact RZ.pi_zipA (isGl_gl hX gl) (mgB hB.bs _ hX (by decide +kernel)) (L2.pa_cons (a1 X hX) (L2.pa_cons (a2 X hX) L2.pa_nil (star_cons n2)) (star_cons n)) (star_cons n) (noback fun x hx => by
                have e : x = b := by simpa using hx
                rw [e]; exact n2), fun Y hY => by have := snd_iZip (b1 Y hY) (b2 Y hY); rw [hY.K] at this; exact this⟩
          · cases h
        · cases h
      · exact sdI_seq hO h
  · exact sdI_seq hO h
/-! ### targets -/
theorem asg_cons {e : Expr} {es : List Expr} {env : Env} (h : noStar e = true) : assignEach (e :: es) env = (false, assign e env) :: assignEach es env := by
  cases e <;> first | rfl | (simp [noStar] at h)
theorem asg_len {env : Env} : ∀ {es : List Expr}, (∀ e ∈ es, noStar e = true) → (assignEach es env).length = es.length ∧ (assignEach es env).findIdx? (·.1) = none
  | [], _ => ⟨rfl, rfl⟩
  | e :: es, h => by
    obtain ⟨h1, h2⟩ := asg_len (env := env) fun x hx => h x (List.mem_cons_of_mem _ hx)
    rw [asg_cons (h e List.mem_cons_self)]
    refine ⟨by rw [List.length_cons, List.length_cons, h1], ?_⟩
    rw [List.findIdx?_cons, h2]
    rfl
def SdG (ct : CT) (c : Ctx) (vs : List Nat) (e : Expr) (t : TgF) : Prop := noStar e = true ∧ ∀ B : Fix, ∃ gt, (∀ X, XOk B c X → PG X e gt) ∧ ∀ Y, YOk B Y → SndG Y vs gt t
theorem sd_gs {c : Ctx} {vs : List Nat} {F : Expr → Option TgF} (hF : ∀ e t, F e = some t → SdG ct c vs e t) : ∀ {es : List Expr} {t : List D → Ev Unit}, tgL F es = some t → (∀ e ∈ es, noStar e = true) ∧ ∀ B : Fix, ∃ gts, (∀ X, XOk B c X → PGs X es gts) ∧ ∀ Y, YOk B Y → SndGs Y vs gts t
  | [], t, h => by
    cases h
    exact ⟨(fun e he => nomatch he), fun B => ⟨L2.gNil, fun X hX => L2.pgs_nil, fun Y hY => snd_gN⟩⟩
  | e :: es, t, h => by
    obtain ⟨g, h1, h2⟩ := bind_some h
    obtain ⟨r, h3, rfl⟩ := map_some h2
    obtain ⟨n, q⟩ := hF e g h1
    obtain ⟨ns, qs⟩ := sd_gs hF h3
    refine ⟨fun x hx => (List.mem_cons.mp hx).elim (fun z => z ▸ n) (ns x), fun B => ?_⟩
    obtain ⟨gt, a, b⟩ := q B
    obtain ⟨gts, a2, b2⟩ := qs B
    exact ⟨L2.gCons gt gts, fun X hX => L2.pgs_cons (a X hX) (a2 X hX) (by rw [asg_cons n]; rfl), fun Y hY => snd_gC (b Y hY) (b2 Y hY)⟩
theorem sd_tg {c : Ctx} {vs : List Nat} : ∀ {n : Nat} {e : Expr} {t : TgF}, tgOf c vs n e = some t → SdG ct c vs e t
  | 0, e, t, h => by cases h
  | n + 1, e, t, h => by
    unfold tgOf at h
    split at h
    · rename_i x pos
      split at h
      · rename_i hs
        split at h
        · rename_i i hi
          split at h
          · rename_i hv
            cases h
            refine ⟨rfl, fun B => ⟨L2.gName i, fun X hX => ?_, fun Y hY => snd_gNm (by simpa using hv)⟩⟩
            obtain ⟨q1, q2⟩ := hX.sto x hs
            exact L2.pg_name (by rw [hX.hN]; exact hX.nd) (by rw [hX.hN]; exact ixOf_get hi) q1 q2
          · cases h
        · cases h
      · cases h
    · rename_i es k pos
      obtain ⟨ts, h1, rfl⟩ := map_some h
      obtain ⟨ns, q⟩ := sd_gs (ct := ct) (fun e t h => sd_tg (n := n) h) h1
      refine ⟨rfl, fun B => ?_⟩
      obtain ⟨gts, a, b⟩ := q B
      refine ⟨L2.gTup B.K es.length gts, fun X hX => ?_, fun Y hY => by have := snd_gTp (n := es.length) (b Y hY); rw [hY.K] at this; exact this⟩
      obtain ⟨l1, l2⟩ := asg_len (env := X.env) ns
      have := L2.pg_tup (pos := pos) (k := k) hX.calm (a X hX) l1 l2
      rw [hX.eK] at this
      exact this
    · cases h
/-! ### a comprehension's block -/
theorem mem_own {N : List Str} {scope : Scope} {x : Str} {i : Nat} (h : (x, i) ∈ ownOf N scope) : ∃ k, (x, k) ∈ scope.names ∧ (k = .local ∨ k = .cell) ∧ ixOf x N = some i := by
  unfold ownOf at h
  rw [List.mem_filterMap] at h
  obtain ⟨⟨n, k⟩, h1, h2⟩ := h
  cases k with
  | «local» =>
    obtain ⟨j, e1, e2⟩ := map_some (show (ixOf n N).map (fun i => (n, i)) = some (x, i) from h2)
    cases e2
    exact ⟨_, h1, .inl rfl, e1⟩
  | cell =>
    obtain ⟨j, e1, e2⟩ := map_some (show (ixOf n N).map (fun i => (n, i)) = some (x, i) from h2)
    cases e2
    exact ⟨_, h1, .inr rfl, e1⟩
  | free => cases h2
  | globalExplicit => cases h2
  | globalImplicit => cases h2
theorem xok_blk {B : Fix} {c : Ctx} {X : Cx} {scope : Scope} (hX : XOk B c X) (ok : L2.BlkOk c.N c.sc scope (ownOf c.N scope)) (s : Shared) (H : Hp) (Cc : Addr) (cl : List (Str × Addr)) (fp : List Addr) :
    XOk B (c.blk scope) (X.blk s H scope (compEnvC scope cl Cc X.env) fp) := by
  have esc : (compEnvC scope cl Cc X.env).scope = L2.relS scope c.sc := by
    show relabel scope X.env = _
    unfold relabel L2.relS
    show ({ scope with names := scope.names.map _ } : Scope) = _
    have : ∀ n, X.env.kindOf n = c.sc.names.lookup n := fun n => by
      show X.env.scope.names.lookup n = _
      rw [hX.sc]
    simp only [this, hX.sc]
  refine ⟨hX.eP, hX.eW, hX.eK, hX.eM, hX.eB, hX.eA, hX.hN, hX.nd, esc, ok.kind, fun x hx => ?_, hX.calm, PassesOwn.never⟩
  have hx : x ∈ (ownOf c.N scope).map (·.1) := by simpa [Ctx.blk] using hx
  rw [List.mem_map] at hx
  obtain ⟨⟨y, i⟩, h1, e⟩ := hx
  have e : y = x := e
  subst e
  obtain ⟨k, h2, h3, _⟩ := mem_own h1
  have lk : scope.names.lookup y = some k := ok.uniq _ h2
  have lk2 : (compEnvC scope cl Cc X.env).scope.names.lookup y = some k := by
    rw [esc]
    exact L2.lookup_relS_keep (by rcases h3 with z | z <;> (rw [z]; decide)) lk
  rcases h3 with z | z
  · subst z
    exact ⟨.inl lk2, .inr lk2⟩
  · subst z
    exact ⟨.inr lk2, .inl (by show (scope.names.lookup y == some NameKind.cell) = true; rw [lk]; rfl)⟩
theorem FixOk.blk {B : Fix} {c : Ctx} {scope : Scope} (h : FixOk B ct c.fns c.cs) : FixOk B ct (c.blk scope).fns (c.blk scope).cs := h
end
end
end FD
/-! FD14: a level of expressions from the one below. -/
namespace FD
noncomputable section
open PySem
open L2 (Hp HO V upd upd_same upd_ne ne_of_none Rd SqL SqT Vals RelV VK TE TT TA TS TG TGs St XK Cx PE PT PW PA PS PSs PG PGs PI Inv OpR UnR CallR R2 rI0 rI tOp tUn tVar tC tCB tCons tNil SlR IxR MtR It TI XK Sp wipe tLc Ends Gl Vis Loc FnOk Room Binds CX0)
section
variable {ct : CT} {C : Cmp}
/-- a comparison, as a value and as a test -/
def SdCmp (ct : CT) (c : Ctx) (e : Expr) (f : Ev Bool) : Prop := noStar e = true ∧ ∀ B, FixOk B ct c.fns c.cs → ∃ te, (∀ X, XOk B c X → PE X e te ∧ PT X e (L2.tTest te)) ∧ ∀ Y, YOk B Y → SndE Y (RelB Y) te f
theorem SdCmp.val {c : Ctx} {e : Expr} {f : Ev Bool} (h : SdCmp ct c e f) : Sd ct RelB c e f := ⟨h.1, fun B hB => let ⟨te, a, b⟩ := h.2 B hB; ⟨te, fun X hX => (a X hX).1, b⟩⟩
theorem sb_cmp {c : Ctx} {op : CmpOp} {a b : Expr} {pos : Pos} {f : Ev Bool} (hO : SO ct C) (h : ((cop op).bind fun o => (C.P c a).bind fun f => (C.P c b).map fun h => cCmp o f h) = some f) : SdCmp ct c (.Compare a [op] [b] pos) f := by
  obtain ⟨o, h1, h⟩ := bind_some h
  obtain ⟨g, h2, h⟩ := bind_some h
  obtain ⟨g2, h3, rfl⟩ := map_some h
  obtain ⟨n, q⟩ := sd_P hO h2
  obtain ⟨n2, q2⟩ := sd_P hO h3
  refine ⟨rfl, fun B hB => ?_⟩
  obtain ⟨te, a1, b1⟩ := q B hB
  obtain ⟨te2, a2, b2⟩ := q2 B hB
  obtain ⟨r, x1, x2⟩ := op_cop (B := B) hB.un h1
  exact ⟨tOp r te te2, fun X hX => ⟨L2.pe_cmpR (x1 c X hX) (a1 X hX) (a2 X hX) (noBehind n2), L2.pt_cmpR (x1 c X hX) (a1 X hX) (a2 X hX) (noBehind n2)⟩, fun Y hY => snd_cCmp (b1 Y hY) (b2 Y hY) (x2 Y hY)⟩
theorem sb_chain {c : Ctx} {op op' : CmpOp} {a b d : Expr} {pos : Pos} {f : Ev Bool} (hO : SO ct C)
    (h : ((cop op).bind fun o => (cop op').bind fun o' => (C.P c a).bind fun f => (C.P c b).bind fun h => (C.P c d).map fun k => cChain o o' f h k) = some f) : SdCmp ct c (.Compare a [op, op'] [b, d] pos) f := by
  obtain ⟨o, h1, h⟩ := bind_some h
  obtain ⟨o', h1', h⟩ := bind_some h
  obtain ⟨g, h2, h⟩ := bind_some h
  obtain ⟨g2, h3, h⟩ := bind_some h
  obtain ⟨g3, h4, rfl⟩ := map_some h
  obtain ⟨n, q⟩ := sd_P hO h2
  obtain ⟨n2, q2⟩ := sd_P hO h3
  obtain ⟨n3, q3⟩ := sd_P hO h4
  refine ⟨rfl, fun B hB => ?_⟩
  obtain ⟨te, a1, b1⟩ := q B hB
  obtain ⟨te2, a2, b2⟩ := q2 B hB
  obtain ⟨te3, a3, b3⟩ := q3 B hB
  obtain ⟨r, x1, x2⟩ := op_cop (B := B) hB.un h1
  obtain ⟨r', x1', x2'⟩ := op_cop (B := B) hB.un h1'
  have lm : lastMarks [op, op'] [b, d] = false := noBehind (op := op') n3
  exact ⟨L2.tChain r r' te te2 te3, fun X hX => ⟨L2.pe_chain (x1 c X hX) (x1' c X hX) (a1 X hX) (a2 X hX) (a3 X hX) lm, L2.pt_chain (x1 c X hX) (x1' c X hX) (a1 X hX) (a2 X hX) (a3 X hX) lm⟩, fun Y hY => snd_cChain (b1 Y hY) (b2 Y hY) (b3 Y hY) (x2 Y hY) (x2' Y hY)⟩
theorem sb_gen {c : Ctx} {e : Expr} {f : Ev Bool} (hO : SO ct C) (h : (C.Dd c e).map cOfB = some f) : Sd ct RelB c e f := by
  obtain ⟨g, h1, rfl⟩ := map_some h
  obtain ⟨n, q⟩ := sd_D hO h1
  refine ⟨n, fun B hB => ?_⟩
  obtain ⟨te, a1, b1⟩ := q B hB
  exact ⟨te, a1, fun Y hY => snd_cOfB (b1 Y hY)⟩
theorem bt_ty {y : Str} {t : BT} (h : btOf y = some t) : y = t.nm ∧ bootBuiltins y = some (.type t.nm) ∧ y ∈ blts ∧ okName y = true := by
  unfold btOf at h
  split at h
  · rename_i e; cases h; subst e; exact ⟨rfl, PyProof.Rows.boot_int, by decide +kernel, by decide +kernel⟩
  split at h
  · rename_i e; cases h; subst e; exact ⟨rfl, PyProof.Rows.boot_bool, by decide +kernel, by decide +kernel⟩
  split at h
  · rename_i e; cases h; subst e; exact ⟨rfl, PyProof.Rows.boot_str, by decide +kernel, by decide +kernel⟩
  split at h
  · rename_i e; cases h; subst e; exact ⟨rfl, PyProof.Rows.boot_list, by decide +kernel, by decide +kernel⟩
  split at h
  · rename_i e; cases h; subst e; exact ⟨rfl, PyProof.Rows.boot_tuple, by decide +kernel, by decide +kernel⟩
  · cases h
theorem stepB_ok (hO : SO ct C) (hB' : SB ct C) {c : Ctx} {e : Expr} {f : Ev Bool} (h : stepB C c e = some f) : Sd ct RelB c e f := by
  unfold stepB at h
  split at h
  · exact (sb_cmp hO h).val
  · exact (sb_chain hO h).val
  · rename_i op es pos
    refine ⟨rfl, fun B hB => ?_⟩
    obtain ⟨te, a1, b1⟩ := sd_Bs hB' h B hB
    exact ⟨te, fun X hX => a1 X hX pos, b1⟩
  · obtain ⟨g, h1, rfl⟩ := map_some h
    obtain ⟨n, q⟩ := hB' _ _ _ h1
    refine ⟨rfl, fun B hB => ?_⟩
    obtain ⟨te, a1, b1⟩ := q B hB
    exact ⟨L2.tNotV te, fun X hX => L2.pe_not (a1 X hX), fun Y hY => snd_notV (b1 Y hY)⟩
  · rename_i x q a y r p
    split at h
    · rename_i e
      subst e
      split at h
      · rename_i gl
        rw [Bool.and_eq_true] at gl
        obtain ⟨t, h1, h⟩ := bind_some h
        obtain ⟨g, h2, rfl⟩ := map_some h
        obtain ⟨n, q⟩ := sd_P hO h2
        refine ⟨rfl, fun B hB => ?_⟩
        obtain ⟨te, a1, b1⟩ := q B hB
        obtain ⟨e1, e2, e3, e4⟩ := bt_ty h1
        refine ⟨tCB (L2.rIsi B.K) (tCons te (tCons (tC (.ty t.nm)) tNil)), fun X hX => ?_, fun Y hY => by have := snd_cIsI (T := t) (b1 Y hY); rw [hY.K] at this; exact this⟩
        have hy : PE X (.Name y r) (tC (.ty t.nm)) := L2.pe_bltn (isGl_gl hX gl.2) (mgB hB.bs _ hX e3) e2 rfl (okName_1 e4).2.2 (okName_1 e4).1
        rw [← hX.eK]
        exact L2.pe_callB L2.call_isi (isGl_gl hX gl.1) (mgB hB.bs _ hX (by decide +kernel)) PyProof.Rows.boot_isinstance (L2.pa_cons (a1 X hX) (L2.pa_cons hy L2.pa_nil (star_cons rfl)) (star_cons n)) (by decide +kernel) (by decide +kernel) (star_cons n) rfl
      · cases h
    · exact sb_gen hO h
  · exact sb_gen hO h
theorem st_gen {c : Ctx} {e : Expr} {f : Ev Bool} (hO : SO ct C) (hp : ∀ (env : Env) whole, isTrue e env whole = (do let v ← whole; standAt e.pos; holding [v] (truthy v))) (h : (C.P c e).map cTru = some f) :
    noStar e = true ∧ ∀ B, FixOk B ct c.fns c.cs → ∃ tt, (∀ X, XOk B c X → PT X e tt) ∧ ∀ Y, YOk B Y → SndT Y tt f := by
  obtain ⟨g, h1, rfl⟩ := map_some h
  obtain ⟨n, q⟩ := sd_P hO h1
  refine ⟨n, fun B hB => ?_⟩
  obtain ⟨te, a1, b1⟩ := q B hB
  refine ⟨fun σ H Q => te σ H fun x H' => ∃ k, L2.TruV B.K x H' k ∧ Q k H', fun X hX => ?_, fun Y hY => by have := snd_cTru (b1 Y hY); rw [hY.K] at this; exact this⟩
  have := L2.pt_truth (a1 X hX) (hp X.env)
  rw [hX.eK] at this
  exact this
theorem st_val {c : Ctx} {e : Expr} {f : Ev Bool} (hB' : SB ct C) (hp : ∀ (env : Env) whole, isTrue e env whole = (do let v ← whole; standAt e.pos; holding [v] (truthy v))) (h : C.B c e = some f) :
    noStar e = true ∧ ∀ B, FixOk B ct c.fns c.cs → ∃ tt, (∀ X, XOk B c X → PT X e tt) ∧ ∀ Y, YOk B Y → SndT Y tt f := by
  obtain ⟨n, q⟩ := hB' _ _ _ h
  refine ⟨n, fun B hB => ?_⟩
  obtain ⟨te, a1, b1⟩ := q B hB
  exact ⟨L2.tB te, fun X hX => L2.pt_val (a1 X hX) (hp X.env), fun Y hY => snd_tTest (b1 Y hY)⟩
theorem cmp_t {c : Ctx} {e : Expr} {f : Ev Bool} (z : SdCmp ct c e f) : noStar e = true ∧ ∀ B, FixOk B ct c.fns c.cs → ∃ tt, (∀ X, XOk B c X → PT X e tt) ∧ ∀ Y, YOk B Y → SndT Y tt f :=
  ⟨z.1, fun B hB => let ⟨te, a, b⟩ := z.2 B hB; ⟨L2.tTest te, fun X hX => (a X hX).2, fun Y hY => snd_tTest (b Y hY)⟩⟩
theorem stepT_ok (hO : SO ct C) (hB' : SB ct C) (hT : ST ct C) {c : Ctx} {e : Expr} {f : Ev Bool} (h : stepT C c e = some f) :
    noStar e = true ∧ ∀ B, FixOk B ct c.fns c.cs → ∃ tt, (∀ X, XOk B c X → PT X e tt) ∧ ∀ Y, YOk B Y → SndT Y tt f := by
  unfold stepT at h
  split at h
  · rename_i op es pos
    refine ⟨rfl, fun B hB => ?_⟩
    obtain ⟨te, a1, b1⟩ := sd_Ts hT h B hB
    exact ⟨te, fun X hX => (a1 X hX pos).pt, b1⟩
  · obtain ⟨g, h1, rfl⟩ := map_some h
    obtain ⟨n, q⟩ := hT _ _ _ h1
    refine ⟨rfl, fun B hB => ?_⟩
    obtain ⟨te, a1, b1⟩ := q B hB
    exact ⟨L2.tNot te, fun X hX => L2.pt_not (a1 X hX), fun Y hY => snd_cNot (b1 Y hY)⟩
  · exact cmp_t (sb_cmp hO h)
  · exact cmp_t (sb_chain hO h)
  · cases h
  · cases h
  · split at h
    · exact st_val hB' (fun _ _ => rfl) h
    · exact st_gen hO (fun _ _ => rfl) h
  · rename_i n1 n2 n3 n4 n5 n6 _
    refine st_gen hO (fun env whole => ?_) h
    cases e with
    | BoolOp op es pos => exact absurd rfl (n1 op es pos)
    | UnaryOp op a pos =>
      cases op with
      | Not => exact absurd rfl (n2 a pos)
      | _ => rfl
    | Compare a ops es pos => exact absurd rfl (n5 a ops es pos)
    | IfExp t a b pos => exact absurd rfl (n6 t a b pos)
    | _ => rfl
end
end
end FD
/-! FD15: all levels of expressions. -/
namespace FD
noncomputable section
open PySem PySem.W PySem.Spec PyProof.Rows
open L2 (Hp HO V upd upd_same upd_ne ne_of_none Rd SqL SqT Vals RelV VK TE TT TA TS TG TGs XK Cx PE PT PW PA PS PSs PG PGs PI Inv OpR UnR CallR R2 rI0 rI tOp tUn tVar tC tCB tCons tNil SlR IxR MtR It TI XK Sp wipe tLc Ends Gl Vis Loc FnOk Room Binds CX0 EP)
/-! ### index -/
def rIndexU (K : PySem.W.Frag) : V → List V → Hp → VK → Prop := fun x xs H Q => ∃ (a : Addr) (y : V) (d : PyData) (ds : List PyData) (j : Nat) (z : PyData), x = V.ref a ∧ xs = [y] ∧ L2.Dp K H (V.ref a) (.tuple ds) ∧ L2.Dp K H y d ∧
  SeqAt.shaped (.tuple ds) = true ∧ SeqAt.shaped d = true ∧ ds[j]? = some z ∧ PyData.eqv z d = true ∧ (∀ (m : Nat) (z' : PyData), m < j → ds[m]? = some z' → PyData.eqv z' d = false) ∧ Q (.int (j : Nat)) H
theorem mt_indexU {X : Cx} (hu : X.A.units + 65 < cLine) : MtR X "tuple.index" (rIndexU X.K) := by
  intro pins s σ H x xs v us Q I rx rxs h
  obtain ⟨a, y, d, ds, j, z, rfl, rfl, hl, hy, sl, sd, hz, hzj, hno, q⟩ := h
  cases rx
  cases rxs with
  | cons ry rt =>
    rename_i uy ut
    cases rt
    obtain ⟨bs, r1⟩ := L2.Dp.reads I d y uy hy ry
    have hxs : PyData.canLayAll0 ds = true := SeqAt.canLay_of_shaped sl
    have hroom : X.A.units + 1 + min (PyData.depthAll ds) d.depth < cLine := room_in sd hu
    cases hl with
    | tup hs ha =>
      obtain ⟨its, rv, ⟨⟨cls, dd, data, sls⟩, ho, hc, n, hdt⟩, hlen⟩ := I.tuple hs
      simp only at hc hdt
      subst hc hdt
      obtain ⟨as, h4⟩ := L2.Dp.readsAll I ds _ its ha rv
      have hn : its.length = ds.length := SeqAt.ReadsAll.length ds its as h4
      have hmap : its.map (SeqAt.readOf s.heap) = ds := SeqAt.readsAll_map ds its as hxs h4
      have hvl := rv.length
      have hsl := sizeLine_eq
      obtain ⟨hjd, _⟩ := List.getElem?_eq_some_iff.mp hz
      have hjl : j < its.length := by omega
      have hj : j < its.toArray.size := by simpa using hjl
      have at_ : ∀ (m : Nat) (hm : m < its.toArray.size) (z' : PyData), ds[m]? = some z' → SeqAt.readOf s.heap its.toArray[m] = z' := by
        intro m hm z' hz'
        have hml : m < its.length := by simpa using hm
        rw [← hmap, List.getElem?_map, List.getElem?_eq_getElem hml] at hz'
        have e1 : SeqAt.readOf s.heap its[m] = z' := Option.some.inj (show some (SeqAt.readOf s.heap its[m]) = some z' from hz')
        simpa using e1
      refine call_meets PySem.F.slot_tuple_index ⟨_, ho, rfl⟩ PySem.F.entry_tuple_index (PySem.F.args_tuple_index_2 _ _)
        (TI.tuple_indexAt a its.toArray n dd sls uy (fun u => PyData.eqv (SeqAt.readOf s.heap u) d) j hj ?_ ?_) ⟨ho, SeqAt.items_eqAt (vs := its.toArray) (show ReadsAll s.heap its.toArray.toList ds as from h4) r1 hxs (SeqAt.canLay_of_shaped sd) hroom, ?_⟩
      · show PyData.eqv (SeqAt.readOf s.heap its.toArray[j]) d = true
        rw [at_ j hj z hz]
        exact hzj
      · intro m hm hmj
        have hmd : m < ds.length := by omega
        have hz' : ds[m]? = some ds[m] := List.getElem?_eq_getElem hmd
        show PyData.eqv (SeqAt.readOf s.heap its.toArray[m]) d = false
        rw [at_ m hm _ hz']
        exact hno m _ hmj hz'
      · exact ⟨.int (j : Nat), H, I.tok _, ⟨_, rfl⟩, q⟩
theorem firstIx_spec {d : D} : ∀ {ds : List D} {j : Nat}, firstIx d ds = some j → ∃ z, ds[j]? = some z ∧ PyData.eqv z d = true ∧ ∀ (m : Nat) (z' : D), m < j → ds[m]? = some z' → PyData.eqv z' d = false
  | [], j, h => by cases h
  | z :: r, j, h => by
    unfold firstIx at h
    split at h
    · rename_i e
      cases h
      exact ⟨z, rfl, e, fun m z' hm => absurd hm (Nat.not_lt_zero m)⟩
    · rename_i e
      rw [Option.map_eq_some_iff] at h
      obtain ⟨j', h1, rfl⟩ := h
      obtain ⟨w, w1, w2, w3⟩ := firstIx_spec h1
      refine ⟨w, by rw [List.getElem?_cons_succ]; exact w1, w2, fun m z' hm hz => ?_⟩
      cases m with
      | zero =>
        simp only [List.getElem?_cons_zero, Option.some.injEq] at hz
        subst hz
        simpa using e
      | succ m =>
        rw [List.getElem?_cons_succ] at hz
        exact w3 m z' (by omega) hz
section
variable {Y : Yx}
theorem snd_cIxL {ta tb : TE} {f1 f2 : Ev D} (ha : SndE Y (RelP Y) ta f1) (hb : SndE Y (RelP Y) tb f2) : SndE Y (RelO Y) (L2.tBM Y.K "list" (L2.rIndexD Y.K) ta (tCons tb tNil)) (cIxL f1 f2) := by
  intro ρ FH H σ' σ g Q R hg
  refine ha ρ FH H σ' σ g _ R (hg.bind.mono fun d σ2 g2 q v FH2 H2 R2 S E rel => ?_)
  cases d with
  | list ds =>
    obtain ⟨p, vs, rfl, h1, h2⟩ := rel.list R2
    refine ⟨.inl ⟨rfl, vs, .inl h1⟩, hb ρ FH2 H2 σ' σ2 g2 _ R2 (q.bind.mono fun e σ3 g3 q u FH3 H3 R3 S3 E3 rel3 => ?_)⟩
    obtain ⟨sv, eq, q⟩ := q.lift
    simp only [pyIndex] at eq
    split at eq
    · rename_i sh
      rw [Bool.and_eq_true] at sh
      rw [Option.map_eq_some_iff] at eq
      obtain ⟨j, fj, rfl⟩ := eq
      obtain ⟨z, w1, w2, w3⟩ := firstIx_spec fj
      exact ⟨p, u, e, ds, j, z, rfl, rfl, (rel.up S3 E3 R3).dp R3, rel3.dp R3, sh.2, sh.1, w1, w2, w3, q _ FH3 H3 R3 (S.trans S3) (E.trans E3) (.int _)⟩
    · cases eq
  | _ => exact q.elim
theorem snd_cIxK {p : Addr} {o : Obj} {d : D} {tb : TE} {f : Ev D} (hk : Y.K.lookup p = some o) (hc : o.cls = .type "tuple") (hd : o.dict = none) (hv : Dq Y.K (fun _ => none) (.ref p) d) (hb : SndE Y (RelP Y) tb f) :
    SndE Y (RelO Y) (L2.tBM Y.K "tuple" (rIndexU Y.K) (tC (.ref p)) (tCons tb tNil)) (cIxK d f) := by
  intro ρ FH H σ' σ g Q R hg
  cases d with
  | tuple ds =>
    refine ⟨.inr (.inl ⟨rfl, o, hk, hc, hd⟩), hb ρ FH H σ' σ g _ R (Good.mono (Good.bind hg) fun e σ3 g3 q u FH3 H3 R3 S3 E3 rel3 => ?_)⟩
    obtain ⟨sv, eq, q⟩ := q.lift
    simp only [pyIndexK] at eq
    split at eq
    · rename_i sh
      rw [Bool.and_eq_true] at sh
      rw [Option.map_eq_some_iff] at eq
      obtain ⟨j, fj, rfl⟩ := eq
      obtain ⟨z, w1, w2, w3⟩ := firstIx_spec fj
      exact ⟨p, u, e, ds, j, z, rfl, rfl, Dq.dp _ (Dq.up (fun _ _ e => by cases e) _ hv), rel3.dp R3, sh.2, sh.1, w1, w2, w3, q _ FH3 H3 R3 S3 E3 (.int _)⟩
    · cases eq
  | _ => exact hg.elim
end
section
variable {ct : CT} {C : Cmp}
theorem few_ok {e : Expr} {env : Env} {cpos : Pos} (n : noStar e = true) : ((backTo cpos (starEach [e] env)).all (fun x => !x.1) && (backToKw cpos (keywordEach [] env)).all (fun x => x.1.isSome)
      && decide (([e] : List Expr).length + ([] : List Keyword).length + (if ([] : List Keyword).isEmpty then 0 else 1) < 30)) = true := by
  rw [star_cons n]
  rfl
theorem so_bin {c : Ctx} {a b : Expr} {op : Operator} {pos : Pos} {f : Ev SV} (hO : SO ct C) (h : ((bop op).bind fun o => (C.P c a).bind fun f => (C.P c b).map fun h => c2 o f h) = some f) : Sd ct RelO c (.BinOp a op b pos) f := by
  obtain ⟨o, h1, h⟩ := bind_some h
  obtain ⟨g, h2, h⟩ := bind_some h
  obtain ⟨g2, h3, rfl⟩ := map_some h
  obtain ⟨n, q⟩ := sd_P hO h2
  obtain ⟨n2, q2⟩ := sd_P hO h3
  refine ⟨rfl, fun B hB => ?_⟩
  obtain ⟨te, a1, b1⟩ := q B hB
  obtain ⟨te2, a2, b2⟩ := q2 B hB
  obtain ⟨r, x1, x2⟩ := op_bop (B := B) h1
  exact ⟨tOp r te te2, fun X hX => L2.pe_op (x1 c X hX) (a1 X hX) (a2 X hX), fun Y hY => snd_c2 (b1 Y hY) (b2 Y hY) (x2 Y hY)⟩
theorem so_ix {c : Ctx} {a b : Expr} {pos : Pos} {f : Ev SV} (hO : SO ct C) (h : ((C.P c a).bind fun f => (C.P c b).map fun h => c2 pyIx f h) = some f) : Sd ct RelO c (.Subscript a b pos) f := by
  obtain ⟨g, h2, h⟩ := bind_some h
  obtain ⟨g2, h3, rfl⟩ := map_some h
  obtain ⟨n, q⟩ := sd_P hO h2
  obtain ⟨n2, q2⟩ := sd_P hO h3
  refine ⟨rfl, fun B hB => ?_⟩
  obtain ⟨te, a1, b1⟩ := q B hB
  obtain ⟨te2, a2, b2⟩ := q2 B hB
  refine ⟨tOp (L2.rIx B.K) te te2, fun X hX => ?_, fun Y hY => by have := snd_c2 (b1 Y hY) (b2 Y hY) o2_ix; rw [hY.K] at this; exact this⟩
  rw [← hX.eK]
  exact L2.pe_ix L2.ix_seq (a1 X hX) (a2 X hX) (plainIx n2)
theorem isCon_eq {e : Expr} {i : Int} (h : isCon e i = true) : ∃ k pos, e = .Constant (.int i) k pos := by
  unfold isCon at h
  split at h
  · rename_i j k pos
    have e : i = j := by simpa using h
    subst e
    exact ⟨k, pos, rfl⟩
  · cases h
theorem so_call {c : Ctx} {x : Str} {q p : Pos} {a : Expr} {as : List Expr} {f : Ev SV} {i n : Nat} (hO : SO ct C) (gl : c.isGl x = true) (ok : okName x = true) (hf : c.fns.lookup x = some (i, n)) (h : (C.As c (a :: as)).map (fun r => cCall ct i r) = some f) :
    Sd ct RelO c (.Call (.Name x q) (a :: as) [] p) f := by
  obtain ⟨r, h1, rfl⟩ := map_some h
  obtain ⟨ns, qs⟩ := sd_As hO h1
  refine ⟨rfl, fun B hB => ?_⟩
  obtain ⟨ta, a1, b1⟩ := qs B hB
  obtain ⟨har, fa, fd, k, ps, m1, m2, m3, m4, m5⟩ := hB.fns x i n hf
  have n0 := ns a List.mem_cons_self
  refine ⟨L2.tCallSD (spF B.K XC0 false n (ct i)) [] (fun _ => L2.E0) ta, fun X hX => ?_, fun Y hY => ?_⟩
  · obtain ⟨e1, e2, e3, e4, e5, e6⟩ : X.prog = B.prog ∧ X.w = B.w ∧ X.K = B.K ∧ X.mg = B.mg ∧ X.base = B.base ∧ X.A = B.A := ⟨hX.eP, hX.eW, hX.eK, hX.eM, hX.eB, hX.eA⟩
    refine L2.pe_callSD (k := k) (f := fa) (fd := fd) (ps := ps) (CX := CX0) (ds := []) ?_ (by rw [e6]; exact m3) (isGl_gl hX gl) (by rw [e4]; exact m1) (by rw [e3]; exact m2) (by rw [e3]; exact m4) .nil (fun σ => ?_) (a1 X hX) (okName_1 ok).1 (star_cons n0) (noback fun z hz => ns z (List.mem_cons_of_mem _ hz))
    · rw [e1, e2, e3, e4, e5]
      exact m5
    · intro _ _ _ _ _ _ z
      exact z.elim
  · have := snd_cCall (k := i) (ct := ct) (ar := n) (XC := XC0) (E := fun _ => L2.E0) (b1 Y hY) har (fun e σ g g3 ρ FH H σ' z _ => (hY.ex e σ g3 z).elim)
    rw [hY.K] at this
    exact this
/-- a comprehension, as a value and stored under a name at once -/
def SdLc (ct : CT) (c : Ctx) (e : Expr) (f : Ev SV) : Prop := noStar e = true ∧ ∀ B, FixOk B ct c.fns c.cs → ∃ te, (∀ X, XOk B c X → PE X e te ∧ ∀ (i : Nat) (y : Str) (py spos : Pos), X.N[i]? = some y → X.env.scope.names.lookup y = some .local → swapsWith e (some (.Name y py)) spos.line X.env = pure true →
  PS X (.Assign [.Name y py] e spos) (L2.tAsg te (L2.gName i))) ∧ ∀ Y, YOk B Y → SndE Y (RelO Y) te f
theorem so_lc {c : Ctx} {elt tg iter : Expr} {ifs : List Expr} {scope : Scope} {pos : Pos} {f : Ev SV} (hO : SO ct C) (hT : ST ct C) (h : (if L2.blkC c.N c.sc scope (ownOf c.N scope) = true then
      (C.I c tg iter).bind fun it => (tgOf (c.blk scope) ((ownOf c.N scope).map (·.2)) 5 tg).bind fun t => (match ifs with
        | [] => some cYes
        | [b] => C.T (c.blk scope) b
        | _ => none).bind fun ft => (C.Dd (c.blk scope) elt).map fun f => cLc it (List.map Prod.snd (ownOf c.N scope)) t ft f
    else none) = some f) : SdLc ct c (.ListComp elt [⟨tg, iter, ifs, 0⟩] scope pos) f := by
  split at h
  · rename_i bk
    have bo := L2.blkOk_by bk
    obtain ⟨it, h1, h⟩ := bind_some h
    obtain ⟨t, h2, h⟩ := bind_some h
    obtain ⟨ft, h3, h⟩ := bind_some h
    obtain ⟨fe, h4, rfl⟩ := map_some h
    obtain ⟨n1, q1⟩ := sd_I hO h1
    obtain ⟨n2, q2⟩ := sd_tg (ct := ct) h2
    obtain ⟨n4, q4⟩ := sd_D hO h4
    refine ⟨rfl, fun B hB => ?_⟩
    obtain ⟨wi, a1, b1⟩ := q1 B hB
    obtain ⟨gt, a2, b2⟩ := q2 B
    obtain ⟨te, a4, b4⟩ := q4 B (FixOk.blk hB)
    have q3 : ∃ tt, (∀ X, XOk B (c.blk scope) X → L2.PTs X ifs tt) ∧ ∀ Y, YOk B Y → SndT Y tt ft := by
      split at h3
      · cases h3
        exact ⟨L2.tYes, fun X hX => L2.pts_nil, fun Y hY ρ FH H σ' σ g Q R hg => hg FH H R (Sub.refl _) (Evo.refl _)⟩
      · obtain ⟨_, q⟩ := hT _ _ _ h3
        obtain ⟨tt, a, b⟩ := q B (FixOk.blk hB)
        exact ⟨tt, fun X hX => L2.pts_one (a X hX), b⟩
      · cases h3
    obtain ⟨tt, a3, b3⟩ := q3
    refine ⟨tLc wi gt tt te (List.map Prod.snd (ownOf c.N scope)), fun X hX => ?_, fun Y hY => snd_cLc (b1 Y hY) (fun p acc => b2 _ (hY.under p acc)) (fun p acc => b3 _ (hY.under p acc)) (fun p acc => b4 _ (hY.under p acc))⟩
    have bo' : L2.BlkOk X.N X.env.scope scope (ownOf c.N scope) := by rw [hX.hN, hX.sc]; exact bo
    have nd : X.N.Nodup := by rw [hX.hN]; exact hX.nd
    exact ⟨L2.pe_lc hX.calm nd (a1 X hX) bo' (fun s H Cc cl fp => a2 _ (xok_blk hX bo s H Cc cl fp)) (fun s H Cc cl fp => a3 _ (xok_blk hX bo s H Cc cl fp)) (fun s H Cc cl fp => a4 _ (xok_blk hX bo s H Cc cl fp)) (noFold n1),
      fun i y py spos hi hy hs => L2.ps_setLc hX.calm nd hi hy hs (a1 X hX) bo' (fun s H Cc cl fp => a2 _ (xok_blk hX bo s H Cc cl fp)) (fun s H Cc cl fp => a3 _ (xok_blk hX bo s H Cc cl fp)) (fun s H Cc cl fp => a4 _ (xok_blk hX bo s H Cc cl fp)) (noFold n1)⟩
  · cases h
theorem sd_fs (hT : ST ct C) {c : Ctx} {ifs : List Expr} {ft : Ev Bool} (h3 : C.fs c ifs = some ft) {B : Fix} (hB : FixOk B ct c.fns c.cs) : ∃ tt, (∀ X, XOk B c X → L2.PTs X ifs tt) ∧ ∀ Y, YOk B Y → SndT Y tt ft := by
  unfold Cmp.fs at h3
  split at h3
  · cases h3
    exact ⟨L2.tYes, fun X hX => L2.pts_nil, fun Y hY ρ FH H σ' σ g Q R hg => hg FH H R (Sub.refl _) (Evo.refl _)⟩
  · obtain ⟨_, q⟩ := hT _ _ _ h3
    obtain ⟨tt, a, b⟩ := q B hB
    exact ⟨tt, fun X hX => L2.pts_one (a X hX), b⟩
  · cases h3
theorem so_lc2 {c : Ctx} {elt tg iter tg1 iter1 : Expr} {ifs ifs1 : List Expr} {scope : Scope} {pos : Pos} {f : Ev SV} (hO : SO ct C) (hT : ST ct C) (h : (if (L2.blkC c.N c.sc scope (ownOf c.N scope) && (tgIx c.N tg1).all ((ownOf c.N scope).map (·.2)).contains) = true then
      (C.I c tg iter).bind fun it => (tgOf (c.blk scope) ((ownOf c.N scope).map (·.2)) 5 tg).bind fun t => (C.fs (c.blk scope) ifs).bind fun ft =>
        (C.I (c.blk scope) tg1 iter1).bind fun it1 => (tgOf (c.blk scope) (tgIx c.N tg1) 5 tg1).bind fun t1 => (C.fs (c.blk scope) ifs1).bind fun ft1 =>
          (C.Dd (c.blk scope) elt).map fun f => cLc2 it ((ownOf c.N scope).map (·.2)) (tgIx c.N tg1) t ft it1 t1 ft1 f
    else none) = some f) : Sd ct RelO c (.ListComp elt [⟨tg, iter, ifs, 0⟩, ⟨tg1, iter1, ifs1, 0⟩] scope pos) f := by
  split at h
  · rename_i bk
    rw [Bool.and_eq_true] at bk
    have bo := L2.blkOk_by bk.1
    have hv : ∀ i ∈ tgIx c.N tg1, i ∈ (ownOf c.N scope).map (·.2) := fun i hi => List.mem_of_elem_eq_true (List.all_eq_true.mp bk.2 i hi)
    obtain ⟨it, h1, h⟩ := bind_some h
    obtain ⟨t, h2, h⟩ := bind_some h
    obtain ⟨ft, h3, h⟩ := bind_some h
    obtain ⟨it1, h5, h⟩ := bind_some h
    obtain ⟨t1, h6, h⟩ := bind_some h
    obtain ⟨ft1, h7, h⟩ := bind_some h
    obtain ⟨fe, h4, rfl⟩ := map_some h
    obtain ⟨n1, q1⟩ := sd_I hO h1
    obtain ⟨n2, q2⟩ := sd_tg (ct := ct) h2
    obtain ⟨n5, q5⟩ := sd_I hO h5
    obtain ⟨n6, q6⟩ := sd_tg (ct := ct) h6
    obtain ⟨n4, q4⟩ := sd_D hO h4
    refine ⟨rfl, fun B hB => ?_⟩
    obtain ⟨wi, a1, b1⟩ := q1 B hB
    obtain ⟨gt, a2, b2⟩ := q2 B
    obtain ⟨tt, a3, b3⟩ := sd_fs hT h3 (FixOk.blk hB)
    obtain ⟨wi1, a5, b5⟩ := q5 B (FixOk.blk hB)
    obtain ⟨gt1, a6, b6⟩ := q6 B
    obtain ⟨tt1, a7, b7⟩ := sd_fs hT h7 (FixOk.blk hB)
    obtain ⟨te, a4, b4⟩ := q4 B (FixOk.blk hB)
    refine ⟨L2.tLc2 wi gt tt wi1 gt1 tt1 te ((ownOf c.N scope).map (·.2)) (tgIx c.N tg1), fun X hX => ?_, fun Y hY => snd_cLc2 hv (b1 Y hY) (fun p acc => b2 _ (hY.under p acc)) (fun p acc => b3 _ (hY.under p acc)) (fun p acc => b5 _ (hY.under p acc)) (fun p acc => b6 _ (hY.under p acc)) (fun p acc => b7 _ (hY.under p acc)) (fun p acc => b4 _ (hY.under p acc))⟩
    have bo' : L2.BlkOk X.N X.env.scope scope (ownOf c.N scope) := by rw [hX.hN, hX.sc]; exact bo
    have nd : X.N.Nodup := by rw [hX.hN]; exact hX.nd
    exact L2.pe_lc2 hX.calm nd (a1 X hX) bo' hv (fun s H Cc cl fp => a2 _ (xok_blk hX bo s H Cc cl fp)) (fun s H Cc cl fp => a3 _ (xok_blk hX bo s H Cc cl fp)) (fun s H Cc cl fp => a5 _ (xok_blk hX bo s H Cc cl fp)) (fun s H Cc cl fp => a6 _ (xok_blk hX bo s H Cc cl fp))
      (fun s H Cc cl fp => a7 _ (xok_blk hX bo s H Cc cl fp)) (fun s H Cc cl fp => a4 _ (xok_blk hX bo s H Cc cl fp)) (noFold n1) (fun env x => noFold n5 x)
  · cases h
theorem stepO_ok (hO : SO ct C) (hB' : SB ct C) (hT : ST ct C) {c : Ctx} {e : Expr} {f : Ev SV} (h : stepO ct C c e = some f) : Sd ct RelO c e f := by
  have viaB : ∀ {e : Expr} {f : Ev SV}, (C.B c e).map cB = some f → Sd ct RelO c e f := fun {e f} h => by
    obtain ⟨g, h1, rfl⟩ := map_some h
    obtain ⟨n, q⟩ := hB' _ _ _ h1
    refine ⟨n, fun B hB => ?_⟩
    obtain ⟨te, a1, b1⟩ := q B hB
    exact ⟨te, a1, fun Y hY => snd_cB (b1 Y hY)⟩
  unfold stepO at h
  split at h
  · cases h
    exact ⟨rfl, fun B hB => ⟨_, fun X hX => L2.pe_int, fun Y hY => snd_cK (.int _)⟩⟩
  · cases h
    exact ⟨rfl, fun B hB => ⟨_, fun X hX => L2.pe_bl, fun Y hY => snd_cK (.bl _)⟩⟩
  · cases h
    exact ⟨rfl, fun B hB => ⟨_, fun X hX => L2.pe_non, fun Y hY => snd_cK .non⟩⟩
  · cases h
    exact ⟨rfl, fun B hB => ⟨_, fun X hX => L2.pe_str, fun Y hY => snd_cK (.str _)⟩⟩
  · -- a name
    rename_i x pos
    split at h
    · rename_i i hi
      split at h
      · rename_i ok
        cases h
        exact ⟨rfl, fun B hB => ⟨tVar i, fun X hX => pe_slot hX hi ok, fun Y hY => snd_cVE⟩⟩
      · cases h
    · split at h
      · rename_i gl
        rw [Bool.and_eq_true] at gl
        obtain ⟨d, h1, rfl⟩ := map_some h
        refine ⟨rfl, fun B hB => ?_⟩
        obtain ⟨u, v, m1, m2, m3, _⟩ := hB.cs x d h1
        exact ⟨tC v, fun X hX => L2.pe_glob (isGl_gl hX gl.1) (by rw [hX.eM]; exact m1) m2 (okName_1 gl.2).1, fun Y hY => snd_cK (by rw [hY.K]; exact m3)⟩
      · cases h
  · exact so_bin hO h
  · obtain ⟨g, h1, rfl⟩ := map_some h
    obtain ⟨n, q⟩ := sd_P hO h1
    refine ⟨rfl, fun B hB => ?_⟩
    obtain ⟨te, a1, b1⟩ := q B hB
    exact ⟨tUn rNeg te, fun X hX => L2.pe_un un_neg (a1 X hX), fun Y hY => snd_c1 (b1 Y hY) o1_neg⟩
  · exact viaB h
  · exact viaB h
  · exact viaB h
  · obtain ⟨ft, h1, h⟩ := bind_some h
    obtain ⟨fa, h2, h⟩ := bind_some h
    obtain ⟨fb, h3, rfl⟩ := map_some h
    obtain ⟨_, q1⟩ := hT _ _ _ h1
    obtain ⟨_, q2⟩ := hO _ _ _ h2
    obtain ⟨_, q3⟩ := hO _ _ _ h3
    refine ⟨rfl, fun B hB => ?_⟩
    obtain ⟨tt, a1, b1⟩ := q1 B hB
    obtain ⟨t2, a2, b2⟩ := q2 B hB
    obtain ⟨t3, a3, b3⟩ := q3 B hB
    exact ⟨L2.tIf tt t2 t3, fun X hX => L2.pe_ifExp (a1 X hX) (a2 X hX) (a3 X hX), fun Y hY => snd_cIteE (b1 Y hY) (b2 Y hY) (b3 Y hY)⟩
  · obtain ⟨r, h1, rfl⟩ := map_some h
    obtain ⟨_, q⟩ := sd_Ds hO h1
    refine ⟨rfl, fun B hB => ?_⟩
    obtain ⟨ta, a1, b1⟩ := q B hB
    exact ⟨L2.tTup ta, fun X hX => L2.pe_tup (a1 X hX), fun Y hY => snd_cTup (b1 Y hY)⟩
  · obtain ⟨r, h1, rfl⟩ := map_some h
    obtain ⟨_, q⟩ := sd_Ds hO h1
    refine ⟨rfl, fun B hB => ?_⟩
    obtain ⟨ta, a1, b1⟩ := q B hB
    exact ⟨L2.tLst ta, fun X hX => L2.pe_lst (a1 X hX), fun Y hY => snd_cLst (b1 Y hY)⟩
  · obtain ⟨g, h1, h⟩ := bind_some h
    obtain ⟨l, h2, h⟩ := bind_some h
    obtain ⟨u, h3, rfl⟩ := map_some h
    obtain ⟨n, q⟩ := sd_P hO h1
    refine ⟨rfl, fun B hB => ?_⟩
    obtain ⟨te, a1, b1⟩ := q B hB
    obtain ⟨tl, a2, b2⟩ := sd_Bd hO h2 B hB
    obtain ⟨th, a3, b3⟩ := sd_Bd hO h3 B hB
    refine ⟨L2.tSl (rSl B.K) te tl th, fun X hX => ?_, fun Y hY => by have := snd_cSlice (b1 Y hY) (b2 Y hY) (b3 Y hY) os_sl; rw [hY.K] at this; exact this⟩
    rw [← hX.eK]
    exact L2.pe_slice sl_any (a1 X hX) (a2 X hX) (a3 X hX)
  · -- an item
    rename_i a b pos _
    split at h
    · rename_i x xp
      split at h
      · rename_i i hi
        split at h
        · rename_i ok
          obtain ⟨g, h1, rfl⟩ := map_some h
          obtain ⟨n2, q⟩ := sd_P hO h1
          refine ⟨rfl, fun B hB => ?_⟩
          obtain ⟨te, a1, b1⟩ := q B hB
          refine ⟨tOp (L2.rIx B.K) (tVar i) te, fun X hX => ?_, fun Y hY => by have := snd_cVIx (i := i) (b1 Y hY); rw [hY.K] at this; exact this⟩
          rw [← hX.eK]
          exact L2.pe_ix L2.ix_seq (pe_slot hX hi ok) (a1 X hX) (plainIx n2)
        · cases h
      · exact so_ix hO h
    · rename_i x xp k kp
      split at h
      · rename_i i hi
        split at h
        · rename_i ok
          cases h
          rw [Bool.and_eq_true, Bool.and_eq_true] at ok
          obtain ⟨k1, p1, rfl⟩ := isCon_eq ok.1.1
          obtain ⟨k2, p2, rfl⟩ := isCon_eq ok.1.2
          refine ⟨rfl, fun B hB => ⟨tOp (L2.rIx B.K) (tOp (L2.rIx B.K) (tVar i) (tC (.int 1))) (tC (.int 0)), fun X hX => ?_, fun Y hY => by have := snd_cV10 (Y := Y) (i := i); rw [hY.K] at this; exact this⟩⟩
          rw [← hX.eK]
          exact L2.pe_ix L2.ix_seq (L2.pe_ix L2.ix_seq (pe_slot hX hi ok.2) L2.pe_int (plainIx rfl)) L2.pe_int (plainIx rfl)
        · exact so_ix hO h
      · exact so_ix hO h
    · exact so_ix hO h
  · -- a call
    rename_i x q a as p
    split at h
    · rename_i gl
      rw [Bool.and_eq_true] at gl
      split at h
      · exact viaB h
      · split at h
        · rename_i i n hf
          exact so_call hO gl.1 gl.2 hf h
        · split at h
          · obtain ⟨o, h1, h⟩ := bind_some h
            obtain ⟨g, h2, rfl⟩ := map_some h
            obtain ⟨n, q⟩ := sd_P hO h2
            refine ⟨rfl, fun B hB => ?_⟩
            obtain ⟨te, a1, b1⟩ := q B hB
            obtain ⟨r, x1, x2⟩ := pe_f1 (B := B) hB.bs h1
            exact ⟨tCB r (tCons te tNil), fun X hX => x1 c X hX gl.1 gl.2 a te _ _ n (a1 X hX), fun Y hY => snd_c1 (b1 Y hY) (x2 Y hY)⟩
          · rename_i b
            obtain ⟨o, h1, h⟩ := bind_some h
            obtain ⟨g, h2, h⟩ := bind_some h
            obtain ⟨g2, h3, rfl⟩ := map_some h
            obtain ⟨n, q⟩ := sd_P hO h2
            obtain ⟨n2, q2⟩ := sd_P hO h3
            refine ⟨rfl, fun B hB => ?_⟩
            obtain ⟨te, a1, b1⟩ := q B hB
            obtain ⟨te2, a2, b2⟩ := q2 B hB
            obtain ⟨r, x1, x2⟩ := pe_f2 (B := B) hB.bs h1
            exact ⟨tCB r (tCons te (tCons te2 tNil)), fun X hX => x1 c X hX gl.1 gl.2 a b te te2 _ _ n n2 (a1 X hX) (a2 X hX), fun Y hY => snd_c2 (b1 Y hY) (b2 Y hY) (x2 Y hY)⟩
          · cases h
    · cases h
  · -- index
    rename_i x xp m ap a cp
    split at h
    · rename_i ok
      rw [Bool.and_eq_true, Bool.and_eq_true] at ok
      have em : m = "index" := by simpa using ok.1.1
      subst em
      split at h
      · rename_i i hi
        obtain ⟨g, h1, rfl⟩ := map_some h
        obtain ⟨n, q⟩ := sd_P hO h1
        refine ⟨rfl, fun B hB => ?_⟩
        obtain ⟨te, a1, b1⟩ := q B hB
        refine ⟨L2.tBM B.K "list" (L2.rIndexD B.K) (tVar i) (tCons te tNil), fun X hX => ?_, fun Y hY => by have := snd_cIxL (snd_cVP (i := i)) (b1 Y hY); rw [hY.K] at this; exact this⟩
        have u65 : X.A.units + 65 < cLine := by have := hB.un; rw [hX.eA]; omega
        rw [← hX.eK]
        exact L2.pe_bm PySem.F.plainAttrs_list PySem.F.slot_list_index PySem.F.type_list_index (L2.mt_indexD u65) (pe_slot hX hi ok.2) (L2.pa_cons (a1 X hX) L2.pa_nil (star_cons n)) rfl (few_ok n) ok.1.2 (star_cons n) rfl
      · split at h
        · rename_i gl
          split at h
          · rename_i d hd
            obtain ⟨g, h1, rfl⟩ := map_some h
            obtain ⟨n, q⟩ := sd_P hO h1
            refine ⟨rfl, fun B hB => ?_⟩
            obtain ⟨te, a1, b1⟩ := q B hB
            obtain ⟨u, v, m1, m2, m3, m4⟩ := hB.cs x d hd
            have u65 : ∀ {X : Cx}, XOk B c X → X.A.units + 65 < cLine := fun {X} hX => by have := hB.un; rw [hX.eA]; omega
            by_cases isT : ∃ ds, d = .tuple ds
            · obtain ⟨ds, rfl⟩ := isT
              obtain ⟨p, o, rfl, w1, w2, w3⟩ := m4 ds rfl
              refine ⟨L2.tBM B.K "tuple" (rIndexU B.K) (tC (.ref p)) (tCons te tNil), fun X hX => ?_, fun Y hY => by have := snd_cIxK (Y := Y) (by rw [hY.K]; exact w1) w2 w3 (by rw [hY.K]; exact m3) (b1 Y hY); rw [hY.K] at this; exact this⟩
              rw [← hX.eK]
              exact L2.pe_bm PySem.F.plainAttrs_tuple PySem.F.slot_tuple_index PySem.F.type_tuple_index (mt_indexU (u65 hX)) (L2.pe_glob (isGl_gl hX gl) (by rw [hX.eM]; exact m1) m2 (okName_1 ok.2).1) (L2.pa_cons (a1 X hX) L2.pa_nil (star_cons n)) rfl (few_ok n) ok.1.2 (star_cons n) rfl
            · refine ⟨L2.tBM B.K "tuple" (rIndexU B.K) (tC v) (tCons te tNil), fun X hX => ?_, fun Y hY ρ FH H σ' σ g Q R hg => ?_⟩
              · rw [← hX.eK]
                exact L2.pe_bm PySem.F.plainAttrs_tuple PySem.F.slot_tuple_index PySem.F.type_tuple_index (mt_indexU (u65 hX)) (L2.pe_glob (isGl_gl hX gl) (by rw [hX.eM]; exact m1) m2 (okName_1 ok.2).1) (L2.pa_cons (a1 X hX) L2.pa_nil (star_cons n)) rfl (few_ok n) ok.1.2 (star_cons n) rfl
              · cases d with
                | tuple ds => exact absurd ⟨ds, rfl⟩ isT
                | _ => exact hg.elim
          · cases h
        · cases h
    · cases h
  · obtain ⟨n, q⟩ := so_lc hO hT h
    exact ⟨n, fun B hB => let ⟨te, a, b⟩ := q B hB; ⟨te, fun X hX => (a X hX).1, b⟩⟩
  · exact so_lc2 hO hT h
  · cases h
theorem cmp_ok : ∀ n : Nat, SO ct (cmp ct n) ∧ SB ct (cmp ct n) ∧ ST ct (cmp ct n)
  | 0 => ⟨(fun c e f h => nomatch h), (fun c e f h => nomatch h), (fun c e f h => nomatch h)⟩
  | n + 1 => by
    obtain ⟨h1, h2, h3⟩ := cmp_ok n
    exact ⟨fun c e f h => stepO_ok h1 h2 h3 h, fun c e f h => stepB_ok h1 h2 h, fun c e f h => stepT_ok h1 h2 h3 h⟩
end
end
end FD
/-! FD16: statements from a text. -/
namespace FD
noncomputable section
open PySem PySem.W PySem.Spec PyProof.Rows
open L2 (Hp HO V upd upd_same upd_ne ne_of_none Rd SqL SqT Vals RelV VK TE TT TA TS TG TGs XK Cx PE PT PW PA PS PSs PG PGs PI Inv OpR UnR CallR R2 rI0 rI tOp tUn tVar tC tCB tCons tNil SlR IxR MtR It TI XK Sp wipe tLc Ends Gl Vis Loc FnOk Room Binds CX0 EP)
def pyAugAdd : D → D → Option SV
  | .int i, .int j => sInt (i + j)
  | .str x, .str y => if x.length + y.length ≤ 16777216 then some (.fz (.str (x ++ y))) else none
  | _, _ => none
def aop : Operator → Option (D → D → Option SV)
  | .Add => some pyAugAdd
  | .Sub => some pySub
  | _ => none
def Ctx.loc (c : Ctx) (x : Str) : Bool := match c.sc.names.lookup x with
  | some .local => true
  | _ => false
/-- the slot of a name that may be stored -/
def Ctx.put (c : Ctx) (x : Str) : Option Nat := if c.sto.contains x && okName x then ixOf x c.N else none
section
variable (ct : CT) (w m : Nat)
/-- may a value of this form be stored by a plain store -/
def plainVal : Expr → Bool
  | .ListComp _ _ _ _ => false
  | .SetComp _ _ _ _ => false
  | .DictComp _ _ _ _ _ => false
  | _ => true
def lcSwaps (c : Ctx) (y : Str) (pline : Nat) (scope : Scope) (vline : Nat) : Bool :=
  c.loc y && pline == vline && !(scope.names.any fun (n, k) => n == y && (k == .local || k == .cell))
def cVal (c : Ctx) (e : Expr) : Option (Ev SV) := match e with
  | .ListComp elt [⟨tg, iter, ifs, 0⟩] scope pos => stepO ct (cmp ct m) c (.ListComp elt [⟨tg, iter, ifs, 0⟩] scope pos)
  | e => if plainVal e then (cmp ct m).O c e else none
def cAss (c : Ctx) (x : Str) (e : Expr) : Option (Ev Fl) := (c.put x).bind fun i => (cVal ct m c e).map fun f => if c.law then sAsgN i f else sAsg i f
def ssOf (F : Ctx → Stmt → Option (Ev Fl)) (c : Ctx) : List Stmt → Option (Ev Fl)
  | [] => some sPass
  | [s] => F c s
  | s :: r => (F c s).bind fun f => (ssOf F c r).map fun h => sSeq f h
def stepS (F : Ctx → Stmt → Option (Ev Fl)) (c : Ctx) (st : Stmt) : Option (Ev Fl) := match st with
  | .Pass _ => some sPass
  | .Break _ => some sBrk
  | .Continue _ => some sCnt
  | .Return none _ => some sRetN
  | .Return (some (.Name x _)) _ => (match c.slot x with
    | some i => if okName x then some (sRet (cVR i)) else none
    | none => if c.isGl x && okName x then (c.cs.lookup x).map fun d => sRet (cK d) else none)
  | .Return (some (.List [a, .List [b] p1, d] p2)) _ =>
    if c.mkd then ((cmp ct m).Dd c a).bind fun f1 => ((cmp ct m).Dd c b).bind fun f2 => ((cmp ct m).Dd c d).map fun f3 => sRetDeal f1 f2 f3
    else ((cmp ct m).O c (.List [a, .List [b] p1, d] p2)).map sRet
  | .Return (some e) _ => ((cmp ct m).O c e).map sRet
  | .Assign [.Name x _] e _ => cAss ct m c x e
  | .Assign [.Tuple [.Name x px, .Name y py] tk tp] (.Tuple [a, b] vk vp) _ =>
    if c.loc x && c.loc y && x != y && px.line == py.line && !((foldedForSure 8 a && foldedForSure 8 b) || (constantsAlone 8 a && constantsAlone 8 b)) then (c.put x).bind fun i => (c.put y).bind fun j => ((cmp ct m).Dd c a).bind fun f1 => ((cmp ct m).Dd c b).map fun f2 => sPar i j f1 f2
    else if c.loc x && c.loc y && x != y && px.line == py.line && (foldedForSure 8 a && foldedForSure 8 b) then (tgOf c (List.range c.N.length) 5 (.Tuple [.Name x px, .Name y py] tk tp)).bind fun t => ((cmp ct m).Dd c (.Tuple [a, b] vk vp)).map fun f => sUnp t f
    else none
  | .Assign [.Tuple es k p] e _ => (match e with
    | .Tuple _ _ _ => none
    | e => if plainVal e then (tgOf c (List.range c.N.length) 5 (.Tuple es k p)).bind fun t => ((cmp ct m).Dd c e).map fun f => sUnp t f else none)
  | .Assign [.Subscript (.Name x _) k _] e _ => if okName x && plainVal e then (c.slot x).bind fun i => ((cmp ct m).P c k).bind fun fk => ((cmp ct m).Dd c e).map fun fe => sSetIx i fk fe else none
  | .Assign [.Subscript (.Subscript (.Name x _) k1 _) k2 _] e _ =>
    if okName x && plainVal e && isCon k1 1 && isCon k2 0 then (c.slot x).bind fun i => ((cmp ct m).Dd c e).map fun fe => sSetDeal i fe else none
  | .AugAssign (.Name x _) op e _ => (aop op).bind fun o => (c.put x).bind fun i => ((cmp ct m).P c e).map fun f => sAug o i f
  | .Expr (.Call (.Attribute (.Name x _) mn ap) [e] [] cp) _ =>
    if mn = "append" && ap.endLine == cp.line && okName x then (c.slot x).bind fun i => ((cmp ct m).Dd c e).map fun f => sApp i f else none
  | .If t a b _ => ((cmp ct m).T c t).bind fun ft => (ssOf F c a).bind fun fa => (ssOf F c b).map fun fb => sIf ft fa fb
  | .For tg iter body [] _ => ((cmp ct m).I c tg iter).bind fun it => (tgOf c (List.range c.N.length) 5 tg).bind fun t => (ssOf F c body).map fun fb => sFor it t fb
  | .While t body [] _ => ((cmp ct m).T c t).bind fun ft => (ssOf F c body).map fun fb => whileL ft fb w
  | _ => none
def cmpS : Nat → Ctx → Stmt → Option (Ev Fl)
  | 0 => fun _ _ => none
  | n + 1 => stepS ct w m (cmpS n)
/-- a def's body -/
def cmpBody (n : Nat) (c : Ctx) (b : List Stmt) : Option (Ev Fl) := ssOf (cmpS ct w m n) c b
end
def SdS (ct : CT) (c : Ctx) (st : Stmt) (f : Ev Fl) : Prop := ∀ B, FixOk B ct c.fns c.cs → ∃ ts, (∀ X, XOk B c X → PS X st ts) ∧ ∀ Y, YOk B Y → (c.law = true → Y.ρ0 = none) → SndS Y ts f
def SdSs (ct : CT) (c : Ctx) (st : List Stmt) (f : Ev Fl) : Prop := ∀ B, FixOk B ct c.fns c.cs → ∃ ts, (∀ X, XOk B c X → PSs X st ts) ∧ ∀ Y, YOk B Y → (c.law = true → Y.ρ0 = none) → SndS Y ts f
section
variable {ct : CT} {w m : Nat}
theorem sd_ss {F : Ctx → Stmt → Option (Ev Fl)} {c : Ctx} (hF : ∀ st f, F c st = some f → SdS ct c st f) : ∀ {ss : List Stmt} {f : Ev Fl}, ssOf F c ss = some f → SdSs ct c ss f
  | [], f, h => by
    cases h
    exact fun B hB => ⟨L2.tNext, fun X hX => L2.pss_nil, fun Y hY _ => snd_sPass⟩
  | [s], f, h => by
    intro B hB
    obtain ⟨ts, a, b⟩ := hF s f h B hB
    exact ⟨ts, fun X hX => L2.pss_one (a X hX), b⟩
  | s :: s2 :: r, f, h => by
    obtain ⟨g, h1, h⟩ := bind_some h
    obtain ⟨g2, h2, rfl⟩ := map_some h
    intro B hB
    obtain ⟨t1, a1, b1⟩ := hF s g h1 B hB
    obtain ⟨t2, a2, b2⟩ := sd_ss hF h2 B hB
    exact ⟨L2.tSeq t1 t2, fun X hX => L2.pss_cons (a1 X hX) (a2 X hX), fun Y hY hl => snd_sSeq (b1 Y hY hl) (b2 Y hY hl)⟩
theorem put_at {c : Ctx} {x : Str} {i : Nat} (h : c.put x = some i) : c.sto.contains x = true ∧ c.N[i]? = some x ∧ okName x = true := by
  unfold Ctx.put at h
  split at h
  · rename_i q
    rw [Bool.and_eq_true] at q
    exact ⟨q.1, ixOf_get h, q.2⟩
  · cases h
theorem swap_plain {e : Expr} {t : Option Expr} {l : Nat} {env : Env} (h : plainVal e = true) : swapsWith e t l env = pure false := by
  cases e <;> first | rfl | (simp [plainVal] at h)
theorem sd_ass {c : Ctx} {x : Str} {px spos : Pos} {e : Expr} {f : Ev Fl} (h : cAss ct m c x e = some f) : SdS ct c (.Assign [.Name x px] e spos) f := by
  obtain ⟨i, h1, h⟩ := bind_some h
  obtain ⟨g, h2, rfl⟩ := map_some h
  obtain ⟨p1, p2, p3⟩ := put_at h1
  -- the evaluator's side
  have ev : ∀ {te : TE} {Y : Yx}, (c.law = true → Y.ρ0 = none) → SndE Y (RelO Y) te g → SndS Y (L2.tAsg te (L2.gName i)) (if c.law then sAsgN i g else sAsg i g) := fun {te Y} hl q => by
    by_cases z : c.law = true
    · rw [if_pos z]
      exact snd_sAsgN (hl z) q
    · rw [if_neg z]
      exact snd_sAsg q
  unfold cVal at h2
  split at h2
  · rename_i elt tg iter ifs scope pos _
    intro B hB
    obtain ⟨c1, c2, c3⟩ := cmp_ok (ct := ct) m
    obtain ⟨n, q⟩ := so_lc c1 c3 (c := c) (elt := elt) (tg := tg) (iter := iter) (ifs := ifs) (scope := scope) (pos := pos) h2
    obtain ⟨te, a, b⟩ := q B hB
    refine ⟨L2.tAsg te (L2.gName i), fun X hX => ?_, fun Y hY hl => ev hl (b Y hY)⟩
    obtain ⟨a1, a2⟩ := a X hX
    obtain ⟨s1, s2⟩ := hX.sto x p1
    have hi : X.N[i]? = some x := by rw [hX.hN]; exact p2
    have sw : swapsWith (.ListComp elt [⟨tg, iter, ifs, 0⟩] scope pos) (some (.Name x px)) spos.line X.env = pure (X.env.blockKind == .function && X.env.kindOf x == some .local && px.line == pos.line && !(scope.names.any fun (n, k) => n == x && (k == .local || k == .cell))) := rfl
    by_cases z : (X.env.blockKind == .function && X.env.kindOf x == some .local && px.line == pos.line && !(scope.names.any fun (n, k) => n == x && (k == .local || k == .cell))) = true
    · rw [z] at sw
      rw [Bool.and_eq_true, Bool.and_eq_true, Bool.and_eq_true] at z
      exact a2 i x px spos hi (by simpa [Env.kindOf] using z.1.1.2) sw
    · have z : (X.env.blockKind == .function && X.env.kindOf x == some .local && px.line == pos.line && !(scope.names.any fun (n, k) => n == x && (k == .local || k == .cell))) = false := Bool.eq_false_iff.mpr z
      rw [z] at sw
      exact L2.ps_set (by rw [hX.hN]; exact hX.nd) hi s1 a1 sw s2
  · split at h2
    · rename_i pl
      intro B hB
      obtain ⟨n, q⟩ := (cmp_ok (ct := ct) m).1 _ _ _ h2
      obtain ⟨te, a, b⟩ := q B hB
      refine ⟨L2.tAsg te (L2.gName i), fun X hX => ?_, fun Y hY hl => ev hl (b Y hY)⟩
      obtain ⟨s1, s2⟩ := hX.sto x p1
      exact L2.ps_set (by rw [hX.hN]; exact hX.nd) (by rw [hX.hN]; exact p2) s1 (a X hX) (swap_plain pl) s2
    · cases h2
theorem swSole {t e : Expr} {l : Nat} {env : Env} (h : plainVal e = true) : swapsWithSole [t] e l env = pure false := swap_plain h
theorem swNone {t e : Expr} {env : Env} (h : ∀ es k p, t ≠ .Tuple es k p) (h2 : ∀ es p, t ≠ .List es p) : swappedStores [t] e env = pure none := by
  cases t with
  | Tuple es k p => exact absurd rfl (h es k p)
  | List es p => exact absurd rfl (h2 es p)
  | _ => rfl
theorem swNone2 {es : List Expr} {k : Nat} {p : Pos} {e : Expr} {env : Env} (h : ∀ vs k p, e ≠ .Tuple vs k p) : swappedStores [.Tuple es k p] e env = pure none := by
  cases e with
  | Tuple vs k p => exact absurd rfl (h vs k p)
  | _ => rfl
theorem loc_at {B : Fix} {c : Ctx} {X : Cx} {x : Str} (hX : XOk B c X) (h : c.loc x = true) : X.env.scope.names.lookup x = some .local := by
  unfold Ctx.loc at h
  rw [hX.sc]
  split at h
  · assumption
  · cases h
theorem sw2 {env : Env} {x y : Str} {px py pt : Pos} {kt k2 pt2} {a b : Expr} (hk : env.blockKind = .function) (lx : env.scope.names.lookup x = some .local) (ly : env.scope.names.lookup y = some .local) (xy : x ≠ y) (hl : (px.line == py.line) = true)
    (hc : (!((foldedForSure 8 a && foldedForSure 8 b) || (constantsAlone 8 a && constantsAlone 8 b))) = true) (n1 : noStar a = true) (n2 : noStar b = true) :
    swappedStores [.Tuple [.Name x px, .Name y py] kt pt] (.Tuple [a, b] k2 pt2) env = pure (some [x, y]) := by
  have k1 : env.kindOf x = some .local := lx
  have k2' : env.kindOf y = some .local := ly
  have hl : px.line = py.line := by simpa using hl
  have xy' : (y == x) = false := by simpa using fun q => xy q.symm
  simp only [Bool.not_eq_true', Bool.or_eq_false_iff] at hc
  obtain ⟨hc1, hc2⟩ := hc
  have t1 : ∀ e p, a = .Starred e p → False := fun e p q => by subst q; cases n1
  have t2 : ∀ e p, b = .Starred e p → False := fun e p q => by subst q; cases n2
  clear n1 n2
  have bb : (ScopeKind.function != ScopeKind.function) = false := by decide
  unfold swappedStores
  simp [hk, k1, k2', hl, List.eraseDups, List.eraseDupsBy, List.eraseDupsBy.loop, xy', hc1, hc2, Expr.pos, bb]

theorem folded_star {e : Expr} (h : foldedForSure 8 e = true) : ∀ v p, e = .Starred v p → False := fun v p q => by
  subst q
  simp [foldedForSure] at h
theorem sw3 {env : Env} {x y : Str} {px py pt : Pos} {kt k2 pt2} {a b : Expr} (hk : env.blockKind = .function) (lx : env.scope.names.lookup x = some .local) (ly : env.scope.names.lookup y = some .local) (xy : x ≠ y) (hl : (px.line == py.line) = true)
    (hc : (foldedForSure 8 a && foldedForSure 8 b) = true) :
    swappedStores [.Tuple [.Name x px, .Name y py] kt pt] (.Tuple [a, b] k2 pt2) env = pure none := by
  have k1 : env.kindOf x = some .local := lx
  have k2' : env.kindOf y = some .local := ly
  have hl : px.line = py.line := by simpa using hl
  have xy' : (y == x) = false := by simpa using fun q => xy q.symm
  have bb : (ScopeKind.function != ScopeKind.function) = false := by decide
  rw [Bool.and_eq_true] at hc
  have t1 := folded_star hc.1
  have t2 := folded_star hc.2
  have c1 := hc.1
  have c2 := hc.2
  unfold swappedStores
  simp [hk, k1, k2', hl, List.eraseDups, List.eraseDupsBy, List.eraseDupsBy.loop, xy', c1, c2, Expr.pos, bb]
theorem stepS_ok {F : Ctx → Stmt → Option (Ev Fl)} (hF : ∀ c st f, F c st = some f → SdS ct c st f) {c : Ctx} {st : Stmt} {f : Ev Fl} (h : stepS ct w m F c st = some f) : SdS ct c st f := by
  have hO := (cmp_ok (ct := ct) m).1
  have hT := (cmp_ok (ct := ct) m).2.2
  have ret : ∀ {e : Expr} {pos : Pos} {f : Ev Fl}, ((cmp ct m).O c e).map sRet = some f → SdS ct c (.Return (some e) pos) f := fun {e pos f} h => by
    obtain ⟨g, h1, rfl⟩ := map_some h
    intro B hB
    obtain ⟨_, q⟩ := hO _ _ _ h1
    obtain ⟨te, a, b⟩ := q B hB
    exact ⟨L2.tRet te, fun X hX => L2.ps_ret (a X hX), fun Y hY _ => snd_sRet (b Y hY)⟩
  unfold stepS at h
  split at h
  · cases h
    exact fun B hB => ⟨L2.tNext, fun X hX => L2.ps_pass, fun Y hY _ => snd_sPass⟩
  · cases h
    exact fun B hB => ⟨L2.tBreak, fun X hX => L2.ps_break, fun Y hY _ => snd_sBrk⟩
  · cases h
    exact fun B hB => ⟨L2.tCont, fun X hX => L2.ps_continue, fun Y hY _ => snd_sCnt⟩
  · cases h
    exact fun B hB => ⟨L2.tRetN, fun X hX => L2.ps_retN, fun Y hY _ => snd_sRetN⟩
  · -- return x
    rename_i x xp pos
    split at h
    · rename_i i hi
      split at h
      · rename_i ok
        cases h
        exact fun B hB => ⟨L2.tRet (tVar i), fun X hX => L2.ps_ret (pe_slot hX hi ok), fun Y hY _ => snd_sRetV⟩
      · cases h
    · split at h
      · rename_i gl
        rw [Bool.and_eq_true] at gl
        obtain ⟨d, h1, rfl⟩ := map_some h
        intro B hB
        obtain ⟨u, v, m1, m2, m3, _⟩ := hB.cs x d h1
        exact ⟨L2.tRet (tC v), fun X hX => L2.ps_ret (L2.pe_glob (isGl_gl hX gl.1) (by rw [hX.eM]; exact m1) m2 (okName_1 gl.2).1), fun Y hY _ => snd_sRet (snd_cK (by rw [hY.K]; exact m3))⟩
      · cases h
  · -- return [row, [at], total]
    rename_i a b p1 d p2 pos
    split at h
    · obtain ⟨f1, h1, h⟩ := bind_some h
      obtain ⟨f2, h2, h⟩ := bind_some h
      obtain ⟨f3, h3, rfl⟩ := map_some h
      obtain ⟨n1, q1⟩ := sd_D hO h1
      obtain ⟨n2, q2⟩ := sd_D hO h2
      obtain ⟨n3, q3⟩ := sd_D hO h3
      intro B hB
      obtain ⟨t1, a1, b1⟩ := q1 B hB
      obtain ⟨t2, a2, b2⟩ := q2 B hB
      obtain ⟨t3, a3, b3⟩ := q3 B hB
      exact ⟨_, fun X hX => L2.ps_ret (L2.pe_lst (L2.pa_cons (a1 X hX) (L2.pa_cons (L2.pe_lst (L2.pa_cons (a2 X hX) L2.pa_nil (star_cons n2))) (L2.pa_cons (a3 X hX) L2.pa_nil (star_cons n3)) (star_cons rfl)) (star_cons n1))),
        fun Y hY _ => snd_sRetDeal (b1 Y hY) (b2 Y hY) (fun p acc => b3 _ (hY.under p acc))⟩
    · exact ret h
  · exact ret h
  · exact sd_ass h
  · -- a, b = x, y
    rename_i x px y py kt pt a b k2 pt2 pos
    split at h
    · rename_i z
      rw [Bool.and_eq_true, Bool.and_eq_true, Bool.and_eq_true, Bool.and_eq_true] at z
      obtain ⟨⟨⟨⟨z1, z2⟩, z3⟩, z4⟩, z5⟩ := z
      have z3 : x ≠ y := by simpa using z3
      obtain ⟨i, h1, h⟩ := bind_some h
      obtain ⟨j, h2, h⟩ := bind_some h
      obtain ⟨f1, h3, h⟩ := bind_some h
      obtain ⟨f2, h4, rfl⟩ := map_some h
      obtain ⟨n1, q1⟩ := sd_D hO h3
      obtain ⟨n2, q2⟩ := sd_D hO h4
      obtain ⟨p1, p2, p3⟩ := put_at h1
      obtain ⟨r1, r2, r3⟩ := put_at h2
      intro B hB
      obtain ⟨t1, a1, b1⟩ := q1 B hB
      obtain ⟨t2, a2, b2⟩ := q2 B hB
      have hij : i ≠ j := fun q => by
        subst q
        rw [p2] at r2
        exact z3 (Option.some.inj r2)
      refine ⟨L2.tPar i j (tCons t1 (tCons t2 tNil)), fun X hX => ?_, fun Y hY _ => snd_sPar (b1 Y hY) (b2 Y hY)⟩
      have lx : X.env.scope.names.lookup x = some .local := loc_at hX z1
      have ly : X.env.scope.names.lookup y = some .local := loc_at hX z2
      exact L2.ps_par hX.calm (by rw [hX.hN]; exact hX.nd) (by rw [hX.hN]; exact p2) (by rw [hX.hN]; exact r2) hij lx ly (L2.pa_cons (a1 X hX) (L2.pa_cons (a2 X hX) L2.pa_nil (star_cons n2)) (star_cons n1)) (sw2 (by unfold Env.blockKind; rw [hX.sc, hX.kind]; rfl) lx ly z3 z4 z5 n1 n2) rfl
    · split at h
      · rename_i z
        rw [Bool.and_eq_true, Bool.and_eq_true, Bool.and_eq_true, Bool.and_eq_true] at z
        obtain ⟨⟨⟨⟨z1, z2⟩, z3⟩, z4⟩, z5⟩ := z
        have z3 : x ≠ y := by simpa using z3
        obtain ⟨t, h1, h⟩ := bind_some h
        obtain ⟨g, h2, rfl⟩ := map_some h
        obtain ⟨n1, q1⟩ := sd_tg (ct := ct) h1
        obtain ⟨n2, q2⟩ := sd_D hO h2
        intro B hB
        obtain ⟨gt, a1, b1⟩ := q1 B
        obtain ⟨te, a2, b2⟩ := q2 B hB
        refine ⟨L2.tAsg te gt, fun X hX => ?_, fun Y hY _ => snd_sUnp (b2 Y hY) (b1 Y hY)⟩
        have lx : X.env.scope.names.lookup x = some .local := loc_at hX z1
        have ly : X.env.scope.names.lookup y = some .local := loc_at hX z2
        exact L2.ps_asg (a2 X hX) (a1 X hX) rfl (sw3 (by unfold Env.blockKind; rw [hX.sc, hX.kind]; rfl) lx ly z3 z4 z5) rfl
      · cases h
  · rename_i es k p e pos _
    split at h
    · cases h
    · rename_i nt
      split at h
      · rename_i pl
        obtain ⟨t, h1, h⟩ := bind_some h
        obtain ⟨g, h2, rfl⟩ := map_some h
        obtain ⟨n1, q1⟩ := sd_tg (ct := ct) h1
        obtain ⟨n2, q2⟩ := sd_D hO h2
        intro B hB
        obtain ⟨gt, a1, b1⟩ := q1 B
        obtain ⟨te, a2, b2⟩ := q2 B hB
        exact ⟨L2.tAsg te gt, fun X hX => L2.ps_asg (a2 X hX) (a1 X hX) (swSole pl) (swNone2 fun vs k p e => nt vs k p e) rfl, fun Y hY _ => snd_sUnp (b2 Y hY) (b1 Y hY)⟩
      · cases h
  · rename_i x xp k sp e pos
    split at h
    · rename_i ok
      rw [Bool.and_eq_true] at ok
      obtain ⟨i, h1, h⟩ := bind_some h
      obtain ⟨fk, h2, h⟩ := bind_some h
      obtain ⟨fe, h3, rfl⟩ := map_some h
      obtain ⟨n2, q2⟩ := sd_P hO h2
      obtain ⟨n3, q3⟩ := sd_D hO h3
      intro B hB
      obtain ⟨tk, a2, b2⟩ := q2 B hB
      obtain ⟨te, a3, b3⟩ := q3 B hB
      refine ⟨L2.tAsg te (L2.gSub (tVar i) tk L2.rSetL), fun X hX => L2.ps_asg (a3 X hX) (L2.pg_sub (pe_slot hX h1 ok.1) (a2 X hX) L2.set_list ?_) (swSole ok.2) (swNone (fun _ _ _ z => by cases z) (fun _ _ z => by cases z)) rfl, fun Y hY _ => snd_sSetIx (b3 Y hY) (b2 Y hY)⟩
      intro v
      cases k <;> first | rfl | (simp [noStar] at n2)
    · cases h
  · rename_i x xp k1 sp k2 sp2 e pos
    split at h
    · rename_i ok
      rw [Bool.and_eq_true, Bool.and_eq_true, Bool.and_eq_true] at ok
      obtain ⟨c1, c2, rfl⟩ := isCon_eq ok.1.2
      obtain ⟨c3, c4, rfl⟩ := isCon_eq ok.2
      obtain ⟨i, h1, h⟩ := bind_some h
      obtain ⟨fe, h3, rfl⟩ := map_some h
      obtain ⟨n3, q3⟩ := sd_D hO h3
      intro B hB
      obtain ⟨te, a3, b3⟩ := q3 B hB
      refine ⟨L2.tAsg te (L2.gSub (tOp (L2.rIx B.K) (tVar i) (tC (.int 1))) (tC (.int 0)) L2.rSetL), fun X hX => ?_, fun Y hY _ => by have := snd_sSetDeal (i := i) (b3 Y hY); rw [hY.K] at this; exact this⟩
      rw [← hX.eK]
      exact L2.ps_asg (a3 X hX) (L2.pg_sub (L2.pe_ix L2.ix_seq (pe_slot hX h1 ok.1.1.1) L2.pe_int (plainIx rfl)) L2.pe_int L2.set_list (fun v => rfl)) (swSole ok.1.1.2) (swNone (fun _ _ _ z => by cases z) (fun _ _ z => by cases z)) rfl
    · cases h
  · -- x op= e
    rename_i x xp op e pos
    obtain ⟨o, h1, h⟩ := bind_some h
    obtain ⟨i, h2, h⟩ := bind_some h
    obtain ⟨g, h3, rfl⟩ := map_some h
    obtain ⟨p1, p2, p3⟩ := put_at h2
    obtain ⟨n3, q3⟩ := sd_P hO h3
    intro B hB
    obtain ⟨te, a3, b3⟩ := q3 B hB
    have key : ∃ r : R2, (∀ X : Cx, L2.PIp X op r) ∧ ∀ Y : Yx, Op2 Y r o := by
      cases op with
      | Add =>
        cases h1
        refine ⟨fun x y H Q => rI0 (fun i j => .int (i + j)) x y H Q ∨ ∃ i j, x = .str i ∧ y = .str j ∧ i.length + j.length ≤ sizeLine ∧ Q (.str (i ++ j)) H, fun X => L2.iop_add.or L2.iop_add_str, fun Y => ?_⟩
        intro ρ FH H σ' σ g v u d e sv Q R hd he eq k
        cases d with
        | int i =>
          cases e with
          | int j =>
            simp only [pyAugAdd, sInt, Option.some.injEq] at eq
            subst eq
            exact .inl ⟨i, j, hd.int, he.int, k _ FH H (resInt _)⟩
          | _ => simp [pyAugAdd] at eq
        | str x =>
          cases e with
          | str y =>
            simp only [pyAugAdd] at eq
            split at eq
            · rename_i hl
              cases eq
              exact .inr ⟨x, y, hd.str, he.str, by rw [sl16]; exact hl, k _ FH H (res0 (.str _))⟩
            · cases eq
          | _ => simp [pyAugAdd] at eq
        | _ => cases e <;> simp [pyAugAdd] at eq
      | Sub =>
        cases h1
        exact ⟨rSub, fun X => L2.iop_sub, fun Y => o2_sub⟩
      | _ => cases h1
    obtain ⟨r, k1, k2⟩ := key
    refine ⟨L2.tAug i te r, fun X hX => ?_, fun Y hY _ => snd_sAug (b3 Y hY) (k2 Y)⟩
    obtain ⟨s1, s2⟩ := hX.sto x p1
    exact L2.ps_aug (by rw [hX.hN]; exact hX.nd) (by rw [hX.hN]; exact p2) s1 (a3 X hX) (k1 X) s2
  · -- append
    rename_i x xp mn ap e cp pos
    split at h
    · rename_i ok
      rw [Bool.and_eq_true, Bool.and_eq_true] at ok
      have em : mn = "append" := by simpa using ok.1.1
      subst em
      obtain ⟨i, h1, h⟩ := bind_some h
      obtain ⟨g, h2, rfl⟩ := map_some h
      obtain ⟨n, q⟩ := sd_D hO h2
      intro B hB
      obtain ⟨te, a1, b1⟩ := q B hB
      refine ⟨L2.tDrop (L2.tBM B.K "list" L2.rAppend (tVar i) (tCons te tNil)), fun X hX => ?_, fun Y hY _ => by have := snd_sApp (i := i) (b1 Y hY); rw [hY.K] at this; exact this⟩
      rw [← hX.eK]
      exact L2.ps_expr (L2.pe_bm PySem.F.plainAttrs_list PySem.F.slot_list_append PySem.F.type_list_append L2.mt_append (pe_slot hX h1 ok.2) (L2.pa_cons (a1 X hX) L2.pa_nil (star_cons n)) rfl (few_ok n) ok.1.2 (star_cons n) rfl) rfl
    · cases h
  · obtain ⟨ft, h1, h⟩ := bind_some h
    obtain ⟨fa, h2, h⟩ := bind_some h
    obtain ⟨fb, h3, rfl⟩ := map_some h
    obtain ⟨_, q1⟩ := hT _ _ _ h1
    have q2 := sd_ss (fun st f h => hF c st f h) h2
    have q3 := sd_ss (fun st f h => hF c st f h) h3
    intro B hB
    obtain ⟨tt, a1, b1⟩ := q1 B hB
    obtain ⟨t2, a2, b2⟩ := q2 B hB
    obtain ⟨t3, a3, b3⟩ := q3 B hB
    exact ⟨L2.tIfS tt t2 t3, fun X hX => L2.ps_if (a1 X hX) (a2 X hX) (a3 X hX), fun Y hY hl => snd_sIf (b1 Y hY) (b2 Y hY hl) (b3 Y hY hl)⟩
  · obtain ⟨it, h1, h⟩ := bind_some h
    obtain ⟨t, h2, h⟩ := bind_some h
    obtain ⟨fb, h3, rfl⟩ := map_some h
    obtain ⟨n1, q1⟩ := sd_I hO h1
    obtain ⟨n2, q2⟩ := sd_tg (ct := ct) h2
    have q3 := sd_ss (fun st f h => hF c st f h) h3
    intro B hB
    obtain ⟨wi, a1, b1⟩ := q1 B hB
    obtain ⟨gt, a2, b2⟩ := q2 B
    obtain ⟨tb, a3, b3⟩ := q3 B hB
    exact ⟨L2.tFor wi gt tb, fun X hX => L2.ps_for hX.pass hX.calm (a1 X hX) (a2 X hX) (a3 X hX) (noFold n1), fun Y hY hl => snd_sFor (b1 Y hY) (b2 Y hY) (b3 Y hY hl)⟩
  · obtain ⟨ft, h1, h⟩ := bind_some h
    obtain ⟨fb, h3, rfl⟩ := map_some h
    obtain ⟨_, q1⟩ := hT _ _ _ h1
    have q3 := sd_ss (fun st f h => hF c st f h) h3
    intro B hB
    obtain ⟨tt, a1, b1⟩ := q1 B hB
    obtain ⟨tb, a3, b3⟩ := q3 B hB
    exact ⟨L2.tWhile tt tb, fun X hX => L2.ps_while hX.pass (a1 X hX) (a3 X hX), fun Y hY hl => snd_sWhile (b1 Y hY) (b3 Y hY hl)⟩
  · cases h
theorem cmpS_ok : ∀ (n : Nat) (c : Ctx) (st : Stmt) (f : Ev Fl), cmpS ct w m n c st = some f → SdS ct c st f
  | 0, c, st, f, h => nomatch h
  | n + 1, c, st, f, h => stepS_ok (fun c st f h => cmpS_ok n c st f h) h
theorem cmpBody_ok {n : Nat} {c : Ctx} {b : List Stmt} {f : Ev Fl} (h : cmpBody ct w m n c b = some f) : SdSs ct c b f := sd_ss (fun st f h => cmpS_ok n c st f h) h
end
end
end FD
/-! FD17: a def, the defs of a text, the law. -/
namespace FD
noncomputable section
open PySem PySem.W PySem.Spec PyProof.Rows
open L2 (Hp HO V upd upd_same upd_ne ne_of_none Rd SqL SqT Vals RelV VK TE TT TA TS TG TGs XK Cx PE PT PW PA PS PSs PG PGs PI Inv OpR UnR CallR R2 rI0 rI tOp tUn tVar tC tCB tCons tNil SlR IxR MtR It TI XK Sp wipe tLc Ends Gl Vis Loc FnOk Room Binds CX0 EP cxOf start Fun FnScope defBody defScope defArgs)
theorem arg_at {K : PySem.W.Frag} {ρ : Rho} {FH : Hp} : ∀ {vs : List V} {as : List SV}, ArgAll K ρ FH vs as → ∀ (i : Nat) (a : SV), as[i]? = some a → ∃ v, vs[i]? = some v ∧ ArgRel K ρ FH v a
  | _, _, .nil, i, a, h => by simp at h
  | _, _, .cons h _, 0, a, e => by
    cases e
    exact ⟨_, rfl, h⟩
  | _, _, .cons _ t, i + 1, a, e => arg_at t i a e
theorem startS_at {n : Nat} {as : List SV} {i : Nat} {sv : SV} (h : (startS n as)[i]? = some (some sv)) : as[i]? = some sv := by
  unfold startS at h
  by_cases q : i < as.length
  · rw [List.getElem?_append_left (by simpa using q), List.getElem?_map] at h
    cases e : as[i]? with
    | none => rw [e] at h; cases h
    | some x => rw [e] at h; cases h; rfl
  · rw [List.getElem?_append_right (by simpa using q), List.getElem?_replicate] at h
    split at h <;> cases h
theorem start_at {N : List Str} {vs : List V} {i : Nat} {v : V} (h : vs[i]? = some v) : (L2.start N vs)[i]? = some (some v) := by
  unfold L2.start
  have q : i < vs.length := by
    cases Nat.lt_or_ge i vs.length with
    | inl q => exact q
    | inr q => rw [List.getElem?_eq_none q] at h; cases h
  rw [List.getElem?_append_left (by simpa using q), List.getElem?_map, h]
  rfl
def y0 (K : PySem.W.Frag) (ρ : Rho) (FH H : Hp) : Yx := ⟨K, ρ, FH, H, fun _ _ _ => False, fun _ => none⟩
theorem rep_start {K : PySem.W.Frag} {ρ : Rho} {FH H : Hp} {N : List Str} {vs : List V} {as : List SV} {g : G} (hs : Sub FH H) (hd : ∀ dl c, ρ = some (dl, c) → DeckOk K FH H dl c g) (ha : ArgAll K ρ FH vs as) :
    Rep (y0 K ρ FH H) ρ FH H (L2.start N vs) (startS N.length as) g := by
  have no : ∀ {i : Nat} {sv : SV}, (startS N.length as)[i]? = some (some sv) → ∃ v, (L2.start N vs)[i]? = some (some v) ∧ ArgRel K ρ FH v sv := fun {i sv} h => by
    obtain ⟨v, h1, h2⟩ := arg_at ha i sv (startS_at h)
    exact ⟨v, start_at h1, h2⟩
  refine ⟨hs, ?_, fun i d h => no h, fun i ds h => ?_, fun i j ds es p h _ _ _ => ?_, fun i r a t h => ?_, fun i h => ?_, hd, Ext.refl, fun x h => h, fun dl c h => .inl h, fun p vs h => nomatch h⟩
  · simp [L2.start, startS, ha.len]
  · obtain ⟨_, _, q⟩ := no h
    exact q.elim
  · obtain ⟨_, _, q⟩ := no h
    exact q.elim
  · obtain ⟨_, _, q⟩ := no h
    exact q.elim
  · obtain ⟨v, h1, dl, c, h2, h3⟩ := no h
    exact ⟨dl, c, h2, by rw [h1, h3]⟩
section
variable {P : Program} {w : World} {K : PySem.W.Frag} {mg : Str → Option Value} {base : Heap}
/-- what a def does -/
def semF (ar n : Nat) (b : Ev Fl) : List SV → G → FOut := fun as g => if as.length = ar then runF n b as g else .stuck
theorem callN_at {w : Nat} {T : List Fn} {k i : Nat} {f : Fn} (h : T[i]? = some f) : callN w T (k + 1) i = semF f.ar f.n (f.body (callN w T k) w) := by
  funext as g
  show (match T[i]? with
    | some f => if as.length = f.ar then runF f.n (f.body (callN w T k) w) as g else .stuck
    | none => .stuck) = _
  rw [h]
  rfl
/-- names in the slots -/
def locB (sc : Scope) (x : Str) : Bool := match sc.names.lookup x with
  | some .local => true
  | some .cell => true
  | _ => false
theorem locB_loc {sc : Scope} {x : Str} (h : locB sc x = true) : Loc sc x := by
  unfold locB at h
  split at h
  · exact .inl (by assumption)
  · exact .inr (by assumption)
  · cases h
theorem fn_ok {ct : CT} {c : Ctx} {x qual : Str} {st : Stmt} {f : Addr} {fd : FuncData} {ps : List Str} {k lim m n ar : Nat} {sem : Ev Fl}
    (F : Fun K x qual st f fd) (S : FnScope c.N ps (defScope st)) (hps : ps.length = ar) (hsc : c.sc = defScope st) (hsto : c.sto.all (locB (defScope st)) = true)
    (hbs : ∀ x ∈ blts, mg x = none)
    (hfns : ∀ x i n, c.fns.lookup x = some (i, n) → (∀ as g, ct i as g ≠ .stuck → as.length = n) ∧ ∃ (fa : Addr) (fd : FuncData) (ps : List Str), mg x = some (.ref fa) ∧ PySem.W.keepIn K (.ref fa) = true ∧ Binds K fd ps [] ∧ FnOk P w K mg base CX0 k fa fd ps (spF K XC0 false n (ct i)))
    (hcs : ∀ x d, c.cs.lookup x = some d → ∃ u v, mg x = some u ∧ RelV v u ∧ Dq K (fun _ => none) v d ∧ ∀ ds, d = .tuple ds → ∃ p o, v = .ref p ∧ K.lookup p = some o ∧ o.cls = .type "tuple" ∧ o.dict = none)
    (hc : cmpBody ct lim m n c (defBody st) = some sem) : FnOk P w K mg base CX0 (k + 1) f fd ps (spF K XC0 c.law ar (semF ar c.N.length sem)) := by
  refine F.ok S (fun vs H Q E h => by rw [spF_len _ _ _ _ h, hps]) fun cdv A outer s H vs Q E hr h => ?_
  have hB : FixOk ⟨P, w, K, mg, base, A.deeper (envOfC qual (defScope st) s.heap.objs.size f cdv)⟩ ct c.fns c.cs :=
    ⟨Nat.lt_of_le_of_lt (by show (A.deeper _).units + 80 ≤ (A.deeper _).units + 16 * k + 200; omega) hr.un, hbs, fun x i n h => by
      obtain ⟨a, fa, fd, ps, b1, b2, b3, b4⟩ := hfns x i n h
      exact ⟨a, fa, fd, k, ps, b1, b2, hr, b3, b4⟩, hcs⟩
  obtain ⟨ts, a1, a2⟩ := cmpBody_ok hc _ hB
  obtain ⟨ρ, FH, as, g, hl, hs, hd, ha, hlen, h⟩ := h
  refine ⟨ts, a1 _ ⟨rfl, rfl, rfl, rfl, rfl, rfl, rfl, S.nd, hsc.symm, by rw [hsc]; exact S.kind, fun y hy => ⟨locB_loc ?_, .inl rfl⟩, rfl, PassesOwn.never⟩, a2 (y0 K ρ FH H) ⟨rfl, fun _ _ _ z => z⟩ hl ρ FH H _ (startS c.N.length as) g _ (rep_start hs hd ha) ?_⟩
  · rw [List.all_eq_true] at hsto
    exact hsto y (List.mem_of_elem_eq_true hy)
  · unfold semF at h
    rw [if_pos hlen] at h
    unfold runF at h
    have dk : ∀ {ρ2 : Rho} {FH2 H2 : Hp} {σ2' σ2 g2}, Rep (y0 K ρ FH H) ρ2 FH2 H2 σ2' σ2 g2 → ∀ dl c, ρ = some (dl, c) → DeckOk K FH2 H2 dl c g2 := fun R dl c e => R.deck dl c (R.rho _ e)
    cases e : sem (startS c.N.length as) g with
    | stuck => rw [e] at h; exact h
    | exc x σ g2 => rw [e] at h; exact h
    | ok fl σ2 g2 =>
      rw [e] at h
      cases fl with
      | nx => exact fun ρ2 FH2 H2 σ2' R S2 => h .non FH2 H2 R.ext R.sub (dk R) .non
      | bk => exact h.elim
      | ct => exact h.elim
      | rt r =>
        cases r with
        | deal => exact h.elim
        | fz d => exact fun ρ2 FH2 H2 σ2' v R S2 q => h v FH2 H2 R.ext R.sub (dk R) q
        | ow ds =>
          intro ρ2 FH2 H2 σ2' v R S2 q
          obtain ⟨p, vs, rfl, q⟩ := q
          exact h _ FH2 H2 R.ext R.sub (dk R) ⟨p, vs, rfl, q.f, q.h, q.a, q.o⟩
        | nd r i t =>
          intro ρ2 FH2 H2 σ2' v R S2 q
          obtain ⟨p, c, vr, vt, rfl, q1, q2, q3, q4, q5, q6, q7, q8, q9, _⟩ := q
          exact h _ FH2 H2 R.ext R.sub (dk R) ⟨p, c, vr, vt, rfl, q1, q2, q3, q4, q5, q6, q7, q8, q9⟩
/-- the defs of a text: each lies behind the top as it is written -/
structure DefOk (K : PySem.W.Frag) (mg : Str → Option Value) (T : List Fn) (fns : List (Str × Nat × Nat)) (cs : List (Str × D)) (lim m n : Nat) (x : Str) (i ar : Nat) : Prop where
  ex : ∃ (fn : Fn) (c : Ctx) (st : Stmt) (f : Addr) (fd : FuncData) (ps : List Str), T[i]? = some fn ∧ fn.ar = ar ∧ fn.n = c.N.length ∧ c.fns = fns ∧ c.cs = cs ∧ c.law = false ∧ Fun K x x st f fd ∧ mg x = some (.ref f) ∧ FnScope c.N ps (defScope st) ∧ ps.length = ar ∧ Binds K fd ps [] ∧ c.sc = defScope st ∧
    c.sto.all (locB (defScope st)) = true ∧ ∀ ct, cmpBody ct lim m n c (defBody st) = some (fn.body ct lim)
theorem tab_ok {T : List Fn} {fns : List (Str × Nat × Nat)} {cs : List (Str × D)} {lim m n : Nat} (hbs : ∀ x ∈ blts, mg x = none)
    (hcs : ∀ x d, cs.lookup x = some d → ∃ u v, mg x = some u ∧ RelV v u ∧ Dq K (fun _ => none) v d ∧ ∀ ds, d = .tuple ds → ∃ p o, v = .ref p ∧ K.lookup p = some o ∧ o.cls = .type "tuple" ∧ o.dict = none)
    (D : ∀ x i ar, fns.lookup x = some (i, ar) → DefOk K mg T fns cs lim m n x i ar) : ∀ (k : Nat) (x : Str) (i ar : Nat), fns.lookup x = some (i, ar) →
      (∀ as g, callN lim T k i as g ≠ .stuck → as.length = ar) ∧ ∃ (fa : Addr) (fd : FuncData) (ps : List Str), mg x = some (.ref fa) ∧ PySem.W.keepIn K (.ref fa) = true ∧ Binds K fd ps [] ∧ FnOk P w K mg base CX0 k fa fd ps (spF K XC0 false ar (callN lim T k i))
  | 0, x, i, ar, h => by
    obtain ⟨fn, c, st, f, fd, ps, h1, h2, h3, h4, h5, hlw, h6, h7, h8, h9, h10, h11, h12, h13⟩ := (D x i ar h).ex
    refine ⟨fun as g z => absurd rfl z, f, fd, ps, h7, h6.kp, h10, ⟨fun vs H Q E q => by rw [spF_len _ _ _ _ q, h9], fun A outer s H args us vs Q E hr e0 hb r q => ?_⟩⟩
    obtain ⟨_, _, _, _, _, _, _, _, _, q⟩ := q
    exact q.elim
  | k + 1, x, i, ar, h => by
    obtain ⟨fn, c, st, f, fd, ps, h1, h2, h3, h4, h5, hlw, h6, h7, h8, h9, h10, h11, h12, h13⟩ := (D x i ar h).ex
    subst h2
    refine ⟨fun as g z => ?_, f, fd, ps, h7, h6.kp, h10, ?_⟩
    · rw [callN_at h1] at z
      unfold semF at z
      split at z
      · assumption
      · exact absurd rfl z
    · rw [callN_at h1]
      have q := fn_ok (P := P) (w := w) (K := K) (mg := mg) (base := base) (ct := callN lim T k) (k := k) h6 h8 h9 h11 h12 hbs (by rw [h4]; exact fun x i n h => tab_ok hbs hcs D k x i n h) (by rw [h5]; exact hcs) (h13 (callN lim T k))
      rw [hlw, ← h3] at q
      exact q
end
/-- the law's own promise -/
theorem sp_law {K : PySem.W.Frag} {sem : List SV → G → FOut} {H : Hp} {a : Addr} {ns : List Int} (hK : ∀ p o, K.lookup p = some o → o.cls ≠ .type "list") (hS : SqL K H a (ns.map V.int)) (g0 : G) (h : ∃ g, sem [.fz (.list (ns.map .int))] g0 = .ok (.fz (.bool true)) g) :
    spF K XC0 true 1 sem [.ref a] H (fun v _ => v = .bl true) fun _ _ _ => False := by
  obtain ⟨g, h⟩ := h
  refine ⟨none, H, [.fz (.list (ns.map .int))], g0, fun _ => rfl, Sub.refl _, fun _ _ z => (nomatch z), .cons ?_ .nil, rfl, ?_⟩
  · rcases hS with q | ⟨o, its, n, q, q2, _⟩
    · refine .lst q ?_
      clear h q hK
      induction ns with
      | nil => exact .nil
      | cons x r ih => exact .cons (.int x) ih
    · exact absurd q2 (hK a o q)
  · rw [h]
    intro v FH2 H2 _ _ _ q
    cases q
    rfl
/-- no list among the written part's objects -/
def noList (K : PySem.W.Frag) : Bool := K.all fun r => match r.2.cls with
  | .type n => n != ("list" : Str)
  | _ => true
theorem mem_lk {α β : Type} [BEq α] [LawfulBEq α] : ∀ {l : List (α × β)} {a : α} {b : β}, l.lookup a = some b → (a, b) ∈ l
  | (k, v) :: l, a, b, h => by
    rw [List.lookup_cons] at h
    split at h
    · rename_i e
      cases h
      rw [eq_of_beq e]
      exact List.mem_cons_self
    · exact List.mem_cons_of_mem _ (mem_lk h)
theorem noList_ok {K : PySem.W.Frag} (h : noList K = true) : ∀ p o, K.lookup p = some o → o.cls ≠ .type "list" := by
  intro p o e z
  have q := mem_lk e
  rw [noList, List.all_eq_true] at h
  have := h _ q
  simp only [z] at this
  exact absurd this (by decide)
end
end FD
/-! FD18: the constants of a text, checked in the written part. -/
namespace FD
noncomputable section
open PySem PySem.W PySem.Spec PyProof.Rows
open L2 (Hp HO V Rd SqL SqT Vals RelV FnOk Binds Fun FnScope defBody defScope)
def CsOk (K : PySem.W.Frag) (mg : Str → Option Value) (x : Str) (d : D) : Prop := ∃ u v, mg x = some u ∧ RelV v u ∧ Dq K (fun _ => none) v d ∧ ∀ ds, d = .tuple ds → ∃ p o, v = .ref p ∧ K.lookup p = some o ∧ o.cls = .type "tuple" ∧ o.dict = none
theorem lookupAll {α : Type} {P : Str → α → Prop} : ∀ {l : List (Str × α)}, (∀ y ∈ l, P y.1 y.2) → ∀ x d, l.lookup x = some d → P x d := fun {l} h x d e => h (x, d) (mem_lk e)
theorem csAll {K : PySem.W.Frag} {mg : Str → Option Value} {cs : List (Str × D)} (h : ∀ y ∈ cs, CsOk K mg y.1 y.2) : ∀ x d, cs.lookup x = some d → CsOk K mg x d := lookupAll (P := CsOk K mg) h
theorem fnsAll {P : Str → Nat → Nat → Prop} {l : List (Str × Nat × Nat)} (h : ∀ y ∈ l, P y.1 y.2.1 y.2.2) : ∀ x i ar, l.lookup x = some (i, ar) → P x i ar := fun x i ar e => h (x, i, ar) (mem_lk e)
/-- does the value u stand for d -/
def isTupT (v : Value) : Bool := match v with
  | .type n => decide (n = "tuple")
  | _ => false
mutual
def chk (K : PySem.W.Frag) (u : Value) : D → Bool
  | .none => match u with
    | .none => true
    | _ => false
  | .bool b => match u with
    | .bool c => c == b
    | _ => false
  | .int i => match u with
    | .int j _ => j == i
    | _ => false
  | .str x => match u with
    | .str y _ => y == x
    | _ => false
  | .tuple ds => match u with
    | .ref p => (match K.lookup p with
      | some ⟨c, none, .seq its _, _⟩ => isTupT c && decide (its.size ≤ 16777216) && chks K its.toList ds
      | _ => false)
    | _ => false
  | _ => false
def chks (K : PySem.W.Frag) (us : List Value) : List D → Bool
  | [] => us.isEmpty
  | d :: ds => match us with
    | [] => false
    | u :: us => chk K u d && chks K us ds
end
mutual
theorem chk_ok {K : PySem.W.Frag} : ∀ (d : D) (u : Value), chk K u d = true → ∃ v, RelV v u ∧ Dq K (fun _ => none) v d ∧ ∀ ds, d = .tuple ds → ∃ p o, v = .ref p ∧ K.lookup p = some o ∧ o.cls = .type "tuple" ∧ o.dict = none
  | .none, u, h => by
    unfold chk at h
    split at h
    · exact ⟨.non, rfl, .non, fun _ z => nomatch z⟩
    · cases h
  | .bool b, u, h => by
    unfold chk at h
    split at h
    · rename_i c
      rw [eq_of_beq h]
      exact ⟨.bl b, rfl, .bl b, fun _ z => nomatch z⟩
    · cases h
  | .int i, u, h => by
    unfold chk at h
    split at h
    · rename_i j t
      rw [eq_of_beq h]
      exact ⟨.int i, ⟨t, rfl⟩, .int i, fun _ z => nomatch z⟩
    · cases h
  | .str x, u, h => by
    unfold chk at h
    split at h
    · rename_i j t
      rw [eq_of_beq h]
      exact ⟨.str x, ⟨t, rfl⟩, .str x, fun _ z => nomatch z⟩
    · cases h
  | .tuple ds, u, h => by
    unfold chk at h
    split at h
    · rename_i p
      split at h
      · rename_i c its n sl e
        rw [Bool.and_eq_true, Bool.and_eq_true] at h
        obtain ⟨⟨h1, h2⟩, h3⟩ := h
        have hc : c = .type "tuple" := by
          unfold isTupT at h1
          split at h1
          · rw [of_decide_eq_true h1]
          · cases h1
        have h2 := of_decide_eq_true h2
        obtain ⟨vs, r, a⟩ := chks_ok ds _ h3
        subst hc
        refine ⟨.ref p, rfl, .tup (.inr ⟨_, its, n, e, rfl, rfl, by rw [sl16]; exact h2, r⟩) a, fun _ _ => ⟨p, _, rfl, e, rfl, rfl⟩⟩
      · cases h
    · cases h
  | .list _, u, h => by unfold chk at h; cases h
  | .dict _, u, h => by unfold chk at h; cases h
theorem chks_ok {K : PySem.W.Frag} : ∀ (ds : List D) (us : List Value), chks K us ds = true → ∃ vs, Vals vs us ∧ DqAll K (fun _ => none) vs ds
  | [], us, h => by
    unfold chks at h
    cases us with
    | nil => exact ⟨[], .nil, .nil⟩
    | cons _ _ => cases h
  | d :: ds, us, h => by
    unfold chks at h
    split at h
    · cases h
    · rw [Bool.and_eq_true] at h
      obtain ⟨v, r1, a1, _⟩ := chk_ok d _ h.1
      obtain ⟨vs, r2, a2⟩ := chks_ok ds _ h.2
      exact ⟨v :: vs, .cons r1 r2, .cons a1 a2⟩
end
theorem csOk_mk {K : PySem.W.Frag} {mg : Str → Option Value} {x : Str} {u : Value} {d : D} (h : mg x = some u) (c : chk K u d = true) : CsOk K mg x d := by
  obtain ⟨v, r, a, t⟩ := chk_ok d u c
  exact ⟨u, v, h, r, a, t⟩
end
end FD
/-! FDP: the plain side: the laws' common defs. -/
namespace FD
noncomputable section
open PySem
@[simp] theorem sIf_at (t : Ev Bool) (a b : Ev Fl) (σ : Sl) (g : G) : sIf t a b σ g = (t σ g).bind fun p σ g => if p = true then a σ g else b σ g := rfl
theorem mulOk64 {i j : Int} (h : i.natAbs < 2 ^ 64) (h2 : j.natAbs < 2 ^ 64) : MulOk i j := by
  unfold MulOk
  have a : ∀ n : Nat, n < 2 ^ 64 → n.log2 < 64 := fun n h => by
    by_cases z : n = 0
    · subst z; decide
    · exact (Nat.log2_lt z).mpr h
  have := a _ h
  have := a _ h2
  omega
theorem mulI {i j : Int} (h : i.natAbs < 2 ^ 64) (h2 : j.natAbs < 2 ^ 64) : pyMul (.int i) (.int j) = some (.fz (.int (i * j))) := if_pos (mulOk64 h h2)
theorem modI {i j : Int} (h : 0 < j) : pyMod (.int i) (.int j) = some (.fz (.int (i % j))) := by
  show (if j = 0 then none else sInt (i.fmod j)) = _
  rw [if_neg (by omega), Int.fmod_eq_emod_of_nonneg _ (by omega)]
  rfl
theorem divI {i j : Int} (h : 0 < j) (h2 : j < 2 ^ 64) : pyFloorDiv (.int i) (.int j) = some (.fz (.int (i / j))) := by
  refine if_pos ⟨h, ?_⟩
  have : j.natAbs < 2 ^ 64 := by omega
  have q := (Nat.log2_lt (n := j.natAbs) (k := 64) (by omega)).mpr this
  omega
@[simp] theorem addI (i j : Int) : pyAdd (.int i) (.int j) = some (.fz (.int (i + j))) := rfl
@[simp] theorem lenL (xs : List D) : pyLen (.list xs) = some (.fz (.int xs.length)) := rfl
@[simp] theorem lenU (xs : List D) : pyLen (.tuple xs) = some (.fz (.int xs.length)) := rfl
@[simp] theorem ltI (i j : Int) : pyLt (.int i) (.int j) = some (decide (i < j)) := rfl
@[simp] theorem leI (i j : Int) : pyLe (.int i) (.int j) = some (decide (i ≤ j)) := rfl
@[simp] theorem gtI (i j : Int) : pyGt (.int i) (.int j) = some (decide (j < i)) := rfl
@[simp] theorem geI (i j : Int) : pyGe (.int i) (.int j) = some (decide (j ≤ i)) := rfl
theorem ixNat {α : Type} {xs : List α} {i : Int} {n : Nat} {x : α} (hi : i = n) (h : xs[n]? = some x) : atI xs i = some x := by
  subst hi
  have q : n < xs.length := by
    cases Nat.lt_or_ge n xs.length with
    | inl q => exact q
    | inr q => rw [List.getElem?_eq_none q] at h; cases h
  unfold atI ixN
  rw [if_pos (by omega), if_pos (by omega)]
  exact h
theorem ixL {xs : List D} {i : Int} {n : Nat} {x : D} (hi : i = n) (h : xs[n]? = some x) : pyIx (.list xs) (.int i) = some (.fz x) := by
  show (atI xs i).map SV.fz = _
  rw [ixNat hi h]; rfl
theorem ixU {xs : List D} {i : Int} {n : Nat} {x : D} (hi : i = n) (h : xs[n]? = some x) : pyIx (.tuple xs) (.int i) = some (.fz x) := by
  show (atI xs i).map SV.fz = _
  rw [ixNat hi h]; rfl
theorem rng1N {n : Nat} (h : n < 2 ^ 60) : rng1 (.int n) = some (rngD 0 n) := by
  have q : Rg n := ⟨by omega, by omega⟩
  simp [rng1, q]
/-! ### the deck -/
/-- a deck: its row's numbers, its total; at most c drawn -/
structure Dk (c : Nat) (g : G) : Prop where
  row : ∃ ns : List Int, g.row = .list (ns.map .int)
  tot : ∃ t : Int, g.tot = .int t ∧ t.natAbs < 2 ^ 63
  lo : 0 ≤ g.at_
  hi : g.at_ ≤ c
theorem Dk.mono {c d : Nat} {g : G} (h : Dk c g) (e : c ≤ d) : Dk d g := ⟨h.row, h.tot, h.lo, by have := h.hi; omega⟩
def b_law_take (ct : CT) (w : Nat) : Ev Fl :=
  (sSeq (sAsg 2 (cV10 0))
  (sSeq (sSetDeal 0 (cD (c2 pyAdd (cVP 2) (cD (cK (.int 1))))))
  (sSeq (sIf (cCmp pyLt (cVP 2) (cD (c1 pyLen (cD (cVIx 0 (cD (cK (.int 0))))))))
    (sRet (c2 pyMod (cD (c2 pyIx (cD (cVIx 0 (cD (cK (.int 0))))) (cVP 2))) (cVP 1)))
    sPass)
  (sSeq (sAsg 3 (c2 pyMod (cD (c2 pyAdd (cD (c2 pyAdd (cD (c2 pyMul (cVP 2) (cD (cK (.int 7919))))) (cD (c2 pyMul (cD (cVIx 0 (cD (cK (.int 2))))) (cD (cK (.int 31))))))) (cD (cK (.int 17))))) (cD (cK (.int 2147483629)))))
  (sSeq (sFor (iR1 (cD (cK (.int 3)))) (gNm 4)
    (sAsg 3 (c2 pyMod (cD (c2 pyAdd (cD (c2 pyAdd (cD (c2 pyMul (cVP 3) (cVP 3))) (cD (c2 pyMul (cD (cK (.int 48271))) (cVP 2))))) (cD (cK (.int 12345))))) (cD (cK (.int 2147483647))))))
  (sRet (c2 pyMod (cD (c2 pyFloorDiv (cVP 3) (cD (cK (.int 7))))) (cVP 1))))))))
section
variable {w k i : Nat} {T : List Fn}
theorem take_ok (hT : T[i]? = some ⟨2, 5, b_law_take⟩) {c : Nat} {g : G} (h : Dk c g) (hc : c < 2 ^ 40) {m : Int} (hm : 0 < m) :
    ∃ v g', callN w T (k + 1) i [.deal, .fz (.int m)] g = .ok (.fz (.int v)) g' ∧ 0 ≤ v ∧ v < m ∧ Dk (c + 1) g' := by
  obtain ⟨row, tot, at_⟩ := g
  obtain ⟨⟨ns, h1⟩, ⟨t, h2, h3⟩, h4, h5⟩ := h
  simp only at h1 h2 h4 h5
  subst h1 h2
  rw [callN_at hT]
  by_cases q : at_ < ns.length
  · obtain ⟨x, hx⟩ : ∃ x, ns[at_.toNat]? = some x := ⟨_, List.getElem?_eq_getElem (by omega)⟩
    have e : (ns.map PyData.int)[at_.toNat]? = some (.int x) := by rw [List.getElem?_map, hx]; rfl
    refine ⟨x % m, ⟨.list (ns.map .int), .int t, at_ + 1⟩, ?_, Int.emod_nonneg _ (by omega), Int.emod_lt_of_pos _ hm, ⟨⟨ns, rfl⟩, ⟨t, rfl, h3⟩, by simp only; omega, by simp only; omega⟩⟩
    have e2 := ixL (i := at_) (n := at_.toNat) (by omega) e
    simp [semF, runF, b_law_take, q, e2, modI hm]
  · have bd : at_.natAbs < 2 ^ 64 := by omega
    have loop : ∀ (xs : List D) (y : Int), 0 ≤ y → y < 2 ^ 31 → ∃ y' : Int, 0 ≤ y' ∧ forL (gNm 4)
        (sAsg 3 (c2 pyMod (cD (c2 pyAdd (cD (c2 pyAdd (cD (c2 pyMul (cVP 3) (cVP 3))) (cD (c2 pyMul (cD (cK (.int 48271))) (cVP 2))))) (cD (cK (.int 12345))))) (cD (cK (.int 2147483647))))) xs
        [some .deal, some (.fz (.int m)), some (.fz (.int at_)), some (.fz (.int y)), none] ⟨.list (ns.map .int), .int t, at_ + 1⟩ = .ok .nx [some .deal, some (.fz (.int m)), some (.fz (.int at_)), some (.fz (.int y')), none] ⟨.list (ns.map .int), .int t, at_ + 1⟩ := by
      intro xs
      induction xs with
      | nil => exact fun y h _ => ⟨y, h, rfl⟩
      | cons x r ih =>
        intro y h1 h2
        have p1 := mulI (i := y) (j := y) (by omega) (by omega)
        have p2 := mulI (i := 48271) (j := at_) (by omega) (by omega)
        have p3 : ∀ z, pyMod (.int z) (.int 2147483647) = _ := fun z => modI (i := z) (j := 2147483647) (by omega)
        have b1 := Int.emod_lt_of_pos (y * y + 48271 * at_ + 12345) (b := 2147483647) (by decide)
        have b2 := Int.emod_nonneg (y * y + 48271 * at_ + 12345) (b := 2147483647) (by decide)
        obtain ⟨y', q1, q2⟩ := ih _ b2 (by omega)
        refine ⟨y', q1, ?_⟩
        rw [← q2]
        simp [forL, p1, p2, p3]
    have p1 := mulI (i := at_) (j := 7919) (by omega) (by omega)
    have p2 := mulI (i := t) (j := 31) (by omega) (by omega)
    have p3 : ∀ z, pyMod (.int z) (.int 2147483629) = _ := fun z => modI (i := z) (j := 2147483629) (by omega)
    have p4 : ∀ z, pyFloorDiv (.int z) (.int 7) = _ := fun z => divI (i := z) (j := 7) (by omega) (by omega)
    have p5 : ∀ z, pyMod (.int z) (.int m) = _ := fun z => modI (i := z) hm
    have b1 := Int.emod_lt_of_pos (at_ * 7919 + t * 31 + 17) (b := 2147483629) (by decide)
    have b2 := Int.emod_nonneg (at_ * 7919 + t * 31 + 17) (b := 2147483629) (by decide)
    obtain ⟨y', q1, q2⟩ := loop (rngD 0 3) _ b2 (by omega)
    have r : rng1 (.int 3) = some (rngD 0 3) := rng1N (n := 3) (by decide)
    refine ⟨y' / 7 % m, ⟨.list (ns.map .int), .int t, at_ + 1⟩, ?_, Int.emod_nonneg _ (by omega), Int.emod_lt_of_pos _ hm, ⟨⟨ns, rfl⟩, ⟨t, rfl, h3⟩, by simp only; omega, by simp only; omega⟩⟩
    simp [semF, runF, b_law_take, q, p1, p2, p3, r, q2, p4, p5]
end
end
end FD
/-! FDP2: the plain side: _law_deal. -/
namespace FD
noncomputable section
open PySem
def b_law_deal (ct : CT) (w : Nat) : Ev Fl :=
  (sSeq (sAsg 1 (cLst cNil))
  (sSeq (sFor (iR1 (cD (c2 pyMin2 (cD (c1 pyLen (cVP 0))) (cD (cK (.int 63)))))) (gNm 2)
    (sSeq (sAsg 3 (c1 pyAbs (cD (c1 pyInt (cD (cVIx 0 (cVP 2)))))))
    (sIf (cCmp pyGe (cVP 3) (cD (c2 pyPow (cD (cK (.int 10))) (cD (cK (.int 18))))))
      (sFor (iR1 (cD (cK (.int 40)))) (gNm 4)
        (sIf (cCmp pyGt (cVP 3) (cD (cK (.int 0))))
          (sSeq (sApp 1 (cD (c2 pyMod (cVP 3) (cD (cK (.int 1009))))))
          (sAsg 3 (c2 pyFloorDiv (cVP 3) (cD (cK (.int 1009))))))
          sPass))
      (sSeq (sAsg 3 (c2 pyAdd (cD (c2 pyAdd (cD (c2 pyMul (cD (c2 pyMod (cVP 3) (cD (cK (.int 2147483629))))) (cD (cK (.int 48271))))) (cD (c2 pyMul (cVP 2) (cD (cK (.int 69621))))))) (cD (cK (.int 11)))))
      (sFor (iR1 (cD (cK (.int 5)))) (gNm 4)
        (sSeq (sAsg 3 (c2 pyMod (cD (c2 pyAdd (cD (c2 pyAdd (cD (c2 pyMul (cVP 3) (cD (cK (.int 16807))))) (cD (cK (.int 12345))))) (cVP 4))) (cD (cK (.int 2147483647)))))
        (sApp 1 (cD (c2 pyMod (cD (c2 pyFloorDiv (cVP 3) (cD (cK (.int 7))))) (cD (cK (.int 1009))))))))))))
  (sSeq (sAsg 5 (c2 pyAdd (cD (c1 pySum (cVP 1))) (cD (c1 pyLen (cVP 0)))))
  (sRetDeal (cD (cVE 1)) (cD (cK (.int 0))) (cD (cVE 5))))))
def RowOk (R : List Int) : Prop := ∀ x ∈ R, 0 ≤ x ∧ x < 1009
theorem RowOk.snoc {R : List Int} (h : RowOk R) (y : Int) : RowOk (R ++ [y % 1009]) := by
  intro x hx
  rcases List.mem_append.mp hx with q | q
  · exact h x q
  · rw [List.mem_singleton.mp q]
    exact ⟨Int.emod_nonneg _ (by decide), Int.emod_lt_of_pos _ (by decide)⟩
theorem RowOk.sum : ∀ {R : List Int}, RowOk R → 0 ≤ R.sum ∧ R.sum ≤ 1009 * R.length
  | [], _ => by simp
  | x :: R, h => by
    have := RowOk.sum (R := R) fun y hy => h y (List.mem_cons_of_mem _ hy)
    have := h x List.mem_cons_self
    rw [List.sum_cons, List.length_cons]
    omega
theorem intsOf_map : ∀ ns : List Int, intsOf (ns.map .int) = some ns
  | [] => rfl
  | x :: r => by show (intsOf (r.map .int)).map _ = _; rw [intsOf_map r]; rfl
theorem sumL (ns : List Int) : pySum (.list (ns.map .int)) = some (.fz (.int ns.sum)) := by
  show (intsOf _).map _ = _
  rw [intsOf_map]; rfl
theorem rngD_mem {n : Nat} {x : D} (h : x ∈ rngD 0 n) : ∃ j : Nat, x = .int j ∧ j < n := by
  unfold rngD at h
  rw [List.mem_map] at h
  obtain ⟨j, h1, rfl⟩ := h
  rw [List.mem_range] at h1
  exact ⟨j, by simp, by omega⟩
theorem rngD_len (n : Nat) : (rngD 0 n).length = n := by simp [rngD]
theorem pow10_18 : pyPow (.int 10) (.int 18) = some (.fz (.int 1000000000000000000)) := if_pos ⟨by decide, by decide, by decide⟩
section
variable {w k i : Nat} {T : List Fn} {S : D} {kk : Option SV} {g : G}
theorem deal_in1 : ∀ (xs : List D) (R : List Int) (c : Int), RowOk R → R.length + xs.length ≤ 100000 → ∃ R' c', RowOk R' ∧ R'.length ≤ R.length + xs.length ∧
    forL (gNm 4) (sIf (cCmp pyGt (cVP 3) (cD (cK (.int 0))))
          (sSeq (sApp 1 (cD (c2 pyMod (cVP 3) (cD (cK (.int 1009))))))
          (sAsg 3 (c2 pyFloorDiv (cVP 3) (cD (cK (.int 1009))))))
          sPass) xs [some (.fz S), some (.ow (R.map .int)), kk, some (.fz (.int c)), none, none] g = .ok .nx [some (.fz S), some (.ow (R'.map .int)), kk, some (.fz (.int c')), none, none] g
  | [], R, c, h, _ => ⟨R, c, h, by simp, rfl⟩
  | x :: r, R, c, h, hl => by
    rw [List.length_cons] at hl ⊢
    by_cases q : 0 < c
    · obtain ⟨R', c', h1, h2, h3⟩ := deal_in1 r (R ++ [c % 1009]) (c / 1009) (h.snoc c) (by rw [List.length_append]; simp only [List.length_cons, List.length_nil]; omega)
      rw [List.length_append] at h2
      simp only [List.length_cons, List.length_nil] at h2
      refine ⟨R', c', h1, by omega, ?_⟩
      rw [← h3]
      have p1 := modI (i := c) (j := 1009) (by omega)
      have p2 := divI (i := c) (j := 1009) (by omega) (by omega)
      have p3 : R.length < 16777216 := by omega
      cases kk <;> simp [forL, q, p1, p2, p3]
    · obtain ⟨R', c', h1, h2, h3⟩ := deal_in1 r R c h (by omega)
      refine ⟨R', c', h1, by omega, ?_⟩
      rw [← h3]
      cases kk <;> simp [forL, q]
theorem deal_in2 : ∀ (xs : List D) (R : List Int) (c : Int), (∀ x ∈ xs, ∃ j : Nat, x = .int j) → RowOk R → c.natAbs < 2 ^ 60 → R.length + xs.length ≤ 100000 → ∃ R' c', RowOk R' ∧ R'.length ≤ R.length + xs.length ∧
    forL (gNm 4) (sSeq (sAsg 3 (c2 pyMod (cD (c2 pyAdd (cD (c2 pyAdd (cD (c2 pyMul (cVP 3) (cD (cK (.int 16807))))) (cD (cK (.int 12345))))) (cVP 4))) (cD (cK (.int 2147483647)))))
        (sApp 1 (cD (c2 pyMod (cD (c2 pyFloorDiv (cVP 3) (cD (cK (.int 7))))) (cD (cK (.int 1009))))))) xs [some (.fz S), some (.ow (R.map .int)), kk, some (.fz (.int c)), none, none] g = .ok .nx [some (.fz S), some (.ow (R'.map .int)), kk, some (.fz (.int c')), none, none] g
  | [], R, c, _, h, _, _ => ⟨R, c, h, by simp, rfl⟩
  | x :: r, R, c, hx, h, hc, hl => by
    rw [List.length_cons] at hl ⊢
    obtain ⟨j, rfl⟩ := hx x List.mem_cons_self
    have b1 := Int.emod_lt_of_pos (c * 16807 + 12345 + j) (b := 2147483647) (by decide)
    have b2 := Int.emod_nonneg (c * 16807 + 12345 + j) (b := 2147483647) (by decide)
    obtain ⟨R', c', h1, h2, h3⟩ := deal_in2 r (R ++ [(c * 16807 + 12345 + j) % 2147483647 / 7 % 1009]) ((c * 16807 + 12345 + j) % 2147483647) (fun y hy => hx y (List.mem_cons_of_mem _ hy)) (h.snoc _) (by omega) (by rw [List.length_append]; simp only [List.length_cons, List.length_nil]; omega)
    rw [List.length_append] at h2
    simp only [List.length_cons, List.length_nil] at h2
    refine ⟨R', c', h1, by omega, ?_⟩
    rw [← h3]
    have p1 := mulI (i := c) (j := 16807) (by omega) (by omega)
    have p2 : ∀ z, pyMod (.int z) (.int 2147483647) = _ := fun z => modI (i := z) (j := 2147483647) (by omega)
    have p3 : ∀ z, pyFloorDiv (.int z) (.int 7) = _ := fun z => divI (i := z) (j := 7) (by omega) (by omega)
    have p4 : ∀ z, pyMod (.int z) (.int 1009) = _ := fun z => modI (i := z) (j := 1009) (by omega)
    have p5 : R.length < 16777216 := by omega
    cases kk <;> simp [forL, p1, p2, p3, p4, p5]
theorem deal_out {ns : List Int} (hn : ns.length ≤ 63) : ∀ (xs : List D) (R : List Int), (∀ x ∈ xs, ∃ j : Nat, x = .int j ∧ j < ns.length) → RowOk R → R.length + 40 * xs.length ≤ 10000 → ∃ R', RowOk R' ∧ R'.length ≤ R.length + 40 * xs.length ∧
    forL (gNm 2) (sSeq (sAsg 3 (c1 pyAbs (cD (c1 pyInt (cD (cVIx 0 (cVP 2)))))))
    (sIf (cCmp pyGe (cVP 3) (cD (c2 pyPow (cD (cK (.int 10))) (cD (cK (.int 18))))))
      (sFor (iR1 (cD (cK (.int 40)))) (gNm 4)
        (sIf (cCmp pyGt (cVP 3) (cD (cK (.int 0))))
          (sSeq (sApp 1 (cD (c2 pyMod (cVP 3) (cD (cK (.int 1009))))))
          (sAsg 3 (c2 pyFloorDiv (cVP 3) (cD (cK (.int 1009))))))
          sPass))
      (sSeq (sAsg 3 (c2 pyAdd (cD (c2 pyAdd (cD (c2 pyMul (cD (c2 pyMod (cVP 3) (cD (cK (.int 2147483629))))) (cD (cK (.int 48271))))) (cD (c2 pyMul (cVP 2) (cD (cK (.int 69621))))))) (cD (cK (.int 11)))))
      (sFor (iR1 (cD (cK (.int 5)))) (gNm 4)
        (sSeq (sAsg 3 (c2 pyMod (cD (c2 pyAdd (cD (c2 pyAdd (cD (c2 pyMul (cVP 3) (cD (cK (.int 16807))))) (cD (cK (.int 12345))))) (cVP 4))) (cD (cK (.int 2147483647)))))
        (sApp 1 (cD (c2 pyMod (cD (c2 pyFloorDiv (cVP 3) (cD (cK (.int 7))))) (cD (cK (.int 1009))))))))))) xs [some (.fz (.list (ns.map .int))), some (.ow (R.map .int)), none, none, none, none] g = .ok .nx [some (.fz (.list (ns.map .int))), some (.ow (R'.map .int)), none, none, none, none] g
  | [], R, _, h, _ => ⟨R, h, by simp, rfl⟩
  | x :: r, R, hx, h, hl => by
    rw [List.length_cons] at hl ⊢
    obtain ⟨j, rfl, hj⟩ := hx x List.mem_cons_self
    obtain ⟨z, hz⟩ : ∃ z, ns[j]? = some z := ⟨_, List.getElem?_eq_getElem hj⟩
    have e : (ns.map PyData.int)[j]? = some (.int z) := by rw [List.getElem?_map, hz]; rfl
    have e2 := ixL (i := (j : Int)) (n := j) rfl e
    have pw : pyPow (.int 10) (.int 18) = some (.fz (.int 1000000000000000000)) := pow10_18
    obtain ⟨a, ha⟩ : ∃ a, (if z < 0 then -z else z) = a := ⟨_, rfl⟩
    have e3 : pyAbs (.int z) = some (.fz (.int a)) := by rw [← ha]; rfl
    have e4 : pyInt (.int z) = some (.fz (.int z)) := rfl
    by_cases q : 1000000000000000000 ≤ a
    · obtain ⟨R1, c1', h1, h2, h3⟩ := deal_in1 (S := .list (ns.map .int)) (kk := some (.fz (.int j))) (g := g) (rngD 0 40) R a h (by rw [show (rngD 0 40).length = 40 from rfl]; omega)
      rw [show (rngD 0 40).length = 40 from rfl] at h2
      obtain ⟨R', k1, k2, k3⟩ := deal_out hn r R1 (fun y hy => hx y (List.mem_cons_of_mem _ hy)) h1 (by omega)
      refine ⟨R', k1, by omega, ?_⟩
      rw [← k3]
      have r40 : rng1 (.int 40) = some (rngD 0 40) := rng1N (n := 40) (by decide)
      simp [forL, e2, e3, e4, pw, q, r40, h3]
    · have b1 := Int.emod_lt_of_pos a (b := 2147483629) (by decide)
      have b2 := Int.emod_nonneg a (b := 2147483629) (by decide)
      have hj2 : j < 63 := by omega
      obtain ⟨R1, c1', h1, h2, h3⟩ := deal_in2 (S := .list (ns.map .int)) (kk := some (.fz (.int j))) (g := g) (rngD 0 5) R (a % 2147483629 * 48271 + j * 69621 + 11) (fun y hy => by
        obtain ⟨j, e, _⟩ := rngD_mem (n := 5) hy
        exact ⟨j, e⟩) h (by omega) (by rw [show (rngD 0 5).length = 5 from rfl]; omega)
      rw [show (rngD 0 5).length = 5 from rfl] at h2
      obtain ⟨R', k1, k2, k3⟩ := deal_out hn r R1 (fun y hy => hx y (List.mem_cons_of_mem _ hy)) h1 (by omega)
      refine ⟨R', k1, by omega, ?_⟩
      rw [← k3]
      have r5 : rng1 (.int 5) = some (rngD 0 5) := rng1N (n := 5) (by decide)
      have p1 := mulI (i := a % 2147483629) (j := 48271) (by omega) (by omega)
      have p2 := mulI (i := (j : Int)) (j := 69621) (by omega) (by omega)
      have p3 := modI (i := a) (j := 2147483629) (by omega)
      simp [forL, e2, e3, e4, pw, q, p1, p2, p3, r5, h3]
theorem deal_ok (hT : T[i]? = some ⟨1, 6, b_law_deal⟩) {ns : List Int} (hn : ns.length ≤ 63) : ∃ r t, callN w T (k + 1) i [.fz (.list (ns.map .int))] g = .ok (.nd r 0 t) g ∧ Dk 0 ⟨r, t, 0⟩ := by
  obtain ⟨R, h1, h2, h3⟩ := deal_out (g := g) hn (rngD 0 ns.length) [] (fun x hx => rngD_mem hx) (fun x hx => absurd hx (by simp)) (by rw [rngD_len]; simp only [List.length_nil]; omega)
  rw [rngD_len, List.length_nil] at h2
  have h4 := h1.sum
  refine ⟨.list (R.map .int), .int (R.sum + ns.length), ?_, ⟨⟨R, rfl⟩, ⟨_, rfl, by omega⟩, by simp, by simp⟩⟩
  rw [callN_at hT]
  have m : pyMin2 (.int ns.length) (.int 63) = some (.fz (.int ns.length)) := by
    show sInt (if (63 : Int) < ns.length then 63 else ns.length) = _
    rw [if_neg (by omega)]; rfl
  have r := rng1N (n := ns.length) (by omega)
  rw [List.map_nil] at h3
  simp [semF, runF, b_law_deal, m, r, h3, sumL]
end
end
end FD
/-! FDP3: the plain side: _law_same, _law_bool. -/
namespace FD
noncomputable section
open PySem
def b_law_same (ct : CT) (w : Nat) : Ev Fl :=
  (sSeq (sIf (cOr (cIsI .tuple (cVP 1)) (cIsI .list (cVP 1)))
    (sSeq (sIf (cOr (cAnd (cIsI .tuple (cVP 1)) (cNot (cIsI .tuple (cVP 0)))) (cAnd (cIsI .list (cVP 1)) (cNot (cIsI .list (cVP 0)))))
      (sRet (cK (.bool false)))
      sPass)
    (sSeq (sIf (cCmp pyNe (cD (c1 pyLen (cVP 0))) (cD (c1 pyLen (cVP 1))))
      (sRet (cK (.bool false)))
      sPass)
    (sSeq (sFor (iR1 (cD (c1 pyLen (cVP 1)))) (gNm 2)
      (sIf (cNot (cTru (cD (cCall ct 2 (cACons (cVIx 0 (cVP 2)) (cACons (cVIx 1 (cVP 2)) cANil))))))
        (sRet (cK (.bool false)))
        sPass))
    (sRet (cK (.bool true))))))
    sPass)
  (sSeq (sIf (cOr (cIsI .bool (cVP 0)) (cIsI .bool (cVP 1)))
    (sRet (cB (cAnd (cIsI .bool (cVP 0)) (cAnd (cIsI .bool (cVP 1)) (cCmp pyEq (cVP 0) (cVP 1))))))
    sPass)
  (sSeq (sIf (cIsI .int (cVP 1))
    (sRet (cB (cAnd (cIsI .int (cVP 0)) (cCmp pyEq (cVP 0) (cVP 1)))))
    sPass)
  (sSeq (sIf (cIsI .str (cVP 1))
    (sRet (cB (cAnd (cIsI .str (cVP 0)) (cCmp pyEq (cVP 0) (cVP 1)))))
    sPass)
  (sRet (cB (cAnd (cCmp pyIs (cVP 0) (cD (cK .none))) (cCmp pyIs (cVP 1) (cD (cK .none))))))))))
def b_law_bool (ct : CT) (w : Nat) : Ev Fl :=
  (sRet (cB (cAnd (cIsI .bool (cVP 0)) (cCmp pyEq (cVP 0) (cVP 1)))))
@[simp] theorem eqII (i j : Int) : pyEq (.int i) (.int j) = some (decide (i = j)) := by
  show some (i == j) = _
  rw [Option.some.injEq]
  exact Bool.eq_iff_iff.mpr (by simp)
@[simp] theorem neII (i j : Int) : pyNe (.int i) (.int j) = some (!decide (i = j)) := by
  show some (!(i == j)) = _
  rw [Option.some.injEq]
  exact Bool.eq_iff_iff.mpr (by simp)
@[simp] theorem eqBB (i j : Bool) : pyEq (.bool i) (.bool j) = some (i == j) := rfl
@[simp] theorem eqSS (i j : Str) : pyEq (.str i) (.str j) = some (i == j) := rfl
@[simp] theorem neSS (i j : Str) : pyNe (.str i) (.str j) = some (!(i == j)) := rfl
/-- data of a depth, of a size that the model lets pass -/
def Sm : Nat → D → Prop
  | _, .none => True
  | _, .bool _ => True
  | _, .int _ => True
  | _, .str _ => True
  | n + 1, .list ds => ds.length < 2 ^ 60 ∧ ∀ d ∈ ds, Sm n d
  | n + 1, .tuple ds => ds.length < 2 ^ 60 ∧ ∀ d ∈ ds, Sm n d
  | _, _ => False
section
variable {w : Nat} {T : List Fn}
theorem same_loop (ct : CT) {g : G} {s : D} {ds : List D} (hs : s = .list ds ∨ s = .tuple ds) (hc : ∀ d ∈ ds, ct 2 [.fz d, .fz d] g = .ok (.fz (.bool true)) g) : ∀ xs : List D, (∀ x ∈ xs, ∃ j : Nat, x = .int j ∧ j < ds.length) →
    forL (gNm 2) (sIf (cNot (cTru (cD (cCall ct 2 (cACons (cVIx 0 (cVP 2)) (cACons (cVIx 1 (cVP 2)) cANil))))))
        (sRet (cK (.bool false)))
        sPass) xs [some (.fz s), some (.fz s), none] g = .ok .nx [some (.fz s), some (.fz s), none] g
  | [], _ => rfl
  | x :: r, h => by
    obtain ⟨j, rfl, hj⟩ := h x List.mem_cons_self
    have ih := same_loop ct hs hc r fun y hy => h y (List.mem_cons_of_mem _ hy)
    obtain ⟨z, hz⟩ : ∃ z, ds[j]? = some z := ⟨_, List.getElem?_eq_getElem hj⟩
    have e1 := ixL (i := (j : Int)) (n := j) rfl hz
    have e2 := ixU (i := (j : Int)) (n := j) rfl hz
    have e3 := hc z (List.mem_of_getElem? hz)
    rcases hs with rfl | rfl <;> simp [forL, e1, e2, e3, pyTruth, ih]
theorem same_refl (hT : T[2]? = some ⟨2, 3, b_law_same⟩) {g : G} : ∀ (n : Nat) (d : D), Sm n d → ∀ k, n ≤ k → callN w T (k + 1) 2 [.fz d, .fz d] g = .ok (.fz (.bool true)) g := by
  intro n
  induction n with
  | zero =>
    intro d hd k hk
    rw [callN_at hT]
    cases d with
    | none => simp [semF, runF, b_law_same, pyIsI, pyIs]
    | bool b => simp [semF, runF, b_law_same, pyIsI]
    | int b => simp [semF, runF, b_law_same, pyIsI]
    | str b => simp [semF, runF, b_law_same, pyIsI]
    | list ds => exact absurd hd (by simp [Sm])
    | tuple ds => exact absurd hd (by simp [Sm])
    | dict ds => exact absurd hd (by simp [Sm])
  | succ n ih =>
    intro d hd k hk
    obtain ⟨k, rfl⟩ : ∃ j, k = j + 1 := ⟨k - 1, by omega⟩
    rw [callN_at hT]
    cases d with
    | none => simp [semF, runF, b_law_same, pyIsI, pyIs]
    | bool b => simp [semF, runF, b_law_same, pyIsI]
    | int b => simp [semF, runF, b_law_same, pyIsI]
    | str b => simp [semF, runF, b_law_same, pyIsI]
    | list ds =>
      have h : ds.length < 2 ^ 60 ∧ ∀ d ∈ ds, Sm n d := by simpa [Sm] using hd
      have lp := same_loop (callN w T (k + 1)) (g := g) (s := .list ds) (.inl rfl) (fun d hd => ih d (h.2 d hd) k (by omega)) (rngD 0 ds.length) fun x hx => rngD_mem hx
      have r := rng1N h.1
      simp [semF, runF, b_law_same, pyIsI, r, lp]
    | tuple ds =>
      have h : ds.length < 2 ^ 60 ∧ ∀ d ∈ ds, Sm n d := by simpa [Sm] using hd
      have lp := same_loop (callN w T (k + 1)) (g := g) (s := .tuple ds) (.inr rfl) (fun d hd => ih d (h.2 d hd) k (by omega)) (rngD 0 ds.length) fun x hx => rngD_mem hx
      have r := rng1N h.1
      simp [semF, runF, b_law_same, pyIsI, r, lp]
    | dict ds => exact absurd hd (by simp [Sm])
theorem bool_ok {k i : Nat} (hT : T[i]? = some ⟨2, 2, b_law_bool⟩) {g : G} (a b : Bool) : callN w T (k + 1) i [.fz (.bool a), .fz (.bool b)] g = .ok (.fz (.bool (a == b))) g := by
  rw [callN_at hT]
  simp [semF, runF, b_law_bool, pyIsI]
end
end
end FD
/-! FDP4: the plain side: places and cuts. -/
namespace FD
noncomputable section
open PySem
theorem atNeg {α : Type} {xs : List α} {i : Int} {m : Nat} {x : α} (hi : i = -(m : Int)) (h1 : 1 ≤ m) (hm : m ≤ xs.length) (h : xs[xs.length - m]? = some x) : atI xs i = some x := by
  subst hi
  unfold atI ixN
  rw [if_neg (by omega), if_pos (by omega)]
  show xs[(-(m : Int) + xs.length).toNat]? = _
  rw [show (-(m : Int) + xs.length).toNat = xs.length - m by omega]
  exact h
theorem ixUn {xs : List D} {i : Int} {m : Nat} {x : D} (hi : i = -(m : Int)) (h1 : 1 ≤ m) (hm : m ≤ xs.length) (h : xs[xs.length - m]? = some x) : pyIx (.tuple xs) (.int i) = some (.fz x) := by
  show (atI xs i).map SV.fz = _
  rw [atNeg hi h1 hm h]; rfl
theorem ixLn {xs : List D} {i : Int} {m : Nat} {x : D} (hi : i = -(m : Int)) (h1 : 1 ≤ m) (hm : m ≤ xs.length) (h : xs[xs.length - m]? = some x) : pyIx (.list xs) (.int i) = some (.fz x) := by
  show (atI xs i).map SV.fz = _
  rw [atNeg hi h1 hm h]; rfl
theorem cutTo {α : Type} {xs : List α} {i : Int} {n : Nat} (hi : i = n) (h : n ≤ xs.length) : cut xs none (some i) = xs.take n := by
  subst hi
  unfold cut sIx
  simp only
  rw [if_neg (by omega)]
  simp only [List.drop_zero, Nat.sub_zero]
  rw [show min ((n : Int).toNat) xs.length = n by omega]
theorem cutNeg {α : Type} {xs : List α} {i : Int} {m : Nat} (hi : i = -(m : Int)) (h1 : 1 ≤ m) : cut xs none (some i) = xs.take (xs.length - m) := by
  subst hi
  unfold cut sIx
  simp only
  rw [if_pos (by omega)]
  simp only [List.drop_zero, Nat.sub_zero]
  rw [show (-(m : Int) + xs.length).toNat = xs.length - m by omega]
theorem cutFrom {α : Type} {xs : List α} {i : Int} {n : Nat} (hi : i = n) : cut xs (some i) none = xs.drop n := by
  subst hi
  unfold cut sIx
  simp only
  rw [if_neg (by omega)]
  by_cases q : n ≤ xs.length
  · rw [show min ((n : Int).toNat) xs.length = n by omega]
    exact List.take_of_length_le (by rw [List.length_drop]; omega)
  · rw [show min ((n : Int).toNat) xs.length = xs.length by omega, List.drop_length, List.drop_of_length_le (by omega)]
    simp
@[simp] theorem sliceL (xs : List D) (lo hi : Option Int) : pySlice (.list xs) lo hi = some (.ow (cut xs lo hi)) := rfl
@[simp] theorem sliceU (xs : List D) (lo hi : Option Int) : pySlice (.tuple xs) lo hi = some (.fz (.tuple (cut xs lo hi))) := rfl
theorem addU {xs ys : List D} (h : xs.length + ys.length ≤ 16777216) : pyAdd (.tuple xs) (.tuple ys) = some (.fz (.tuple (xs ++ ys))) := if_pos h
theorem addL {xs ys : List D} (h : xs.length + ys.length ≤ 16777216) : pyAdd (.list xs) (.list ys) = some (.ow (xs ++ ys)) := if_pos h
theorem mulU {xs : List D} {k : Int} {n : Nat} (hk : k = n) (h3 : n ≤ 16777216) (h4 : xs.length * n ≤ 16777216) : pyMul (.tuple xs) (.int k) = some (.fz (.tuple (reps xs n))) := by
  subst hk
  have q : Cl (-(2 ^ 62) ≤ (n : Int) ∧ (n : Int) < 2 ^ 62 ∧ xs.length * (n : Int).toNat ≤ 16777216) := ⟨by omega, by omega, by rw [Int.toNat_natCast]; exact h4⟩
  unfold pyMul
  simp only
  rw [if_pos q, Int.toNat_natCast]
theorem mulL {xs : List D} {k : Int} {n : Nat} (hk : k = n) (h3 : n ≤ 16777216) (h4 : xs.length * n ≤ 16777216) : pyMul (.list xs) (.int k) = some (.ow (reps xs n)) := by
  subst hk
  have q : Cl (-(2 ^ 62) ≤ (n : Int) ∧ (n : Int) < 2 ^ 62 ∧ xs.length * (n : Int).toNat ≤ 16777216) := ⟨by omega, by omega, by rw [Int.toNat_natCast]; exact h4⟩
  unfold pyMul
  simp only
  rw [if_pos q, Int.toNat_natCast]
/-! ### == over data -/
@[simp] theorem shp_eq (d : D) : SeqAt.shaped d = (d.canLay0 && decide (d.depth ≤ 64)) := rfl
@[simp] theorem lay_none  : PyData.canLay0 .none = true := by rw [PyData.canLay0]
@[simp] theorem dep_none  : PyData.depth .none = 0 := by rw [PyData.depth]
@[simp] theorem lay_bool (a : Bool) : PyData.canLay0 (.bool a) = true := by rw [PyData.canLay0]
@[simp] theorem dep_bool (a : Bool) : PyData.depth (.bool a) = 0 := by rw [PyData.depth]
@[simp] theorem lay_int (a : Int) : PyData.canLay0 (.int a) = true := by rw [PyData.canLay0]
@[simp] theorem dep_int (a : Int) : PyData.depth (.int a) = 0 := by rw [PyData.depth]
@[simp] theorem lay_str (a : Str) : PyData.canLay0 (.str a) = PyData.strOk a := by rw [PyData.canLay0]
@[simp] theorem dep_str (a : Str) : PyData.depth (.str a) = 0 := by rw [PyData.depth]
@[simp] theorem lay_list (a : List D) : PyData.canLay0 (.list a) = PyData.canLayAll0 a := by rw [PyData.canLay0]
@[simp] theorem dep_list (a : List D) : PyData.depth (.list a) = PyData.depthAll a + 1 := by rw [PyData.depth]
@[simp] theorem lay_tuple (a : List D) : PyData.canLay0 (.tuple a) = PyData.canLayAll0 a := by rw [PyData.canLay0]
@[simp] theorem dep_tuple (a : List D) : PyData.depth (.tuple a) = PyData.depthAll a + 1 := by rw [PyData.depth]
@[simp] theorem layA_nil : PyData.canLayAll0 [] = true := by rw [PyData.canLayAll0]
@[simp] theorem layA_cons (x : D) (r : List D) : PyData.canLayAll0 (x :: r) = (x.canLay0 && PyData.canLayAll0 r) := by rw [PyData.canLayAll0]
@[simp] theorem depA_nil : PyData.depthAll [] = 0 := by rw [PyData.depthAll]
@[simp] theorem depA_cons (x : D) (r : List D) : PyData.depthAll (x :: r) = max x.depth (PyData.depthAll r) := by rw [PyData.depthAll]
@[simp] theorem eqv_none_none   : PyData.eqv .none .none = true := by rw [PyData.eqv]
@[simp] theorem eqv_none_bool  (b : Bool) : PyData.eqv .none (.bool b) = false := by rw [PyData.eqv]
@[simp] theorem eqv_none_int  (b : Int) : PyData.eqv .none (.int b) = false := by rw [PyData.eqv]
@[simp] theorem eqv_none_str  (b : Str) : PyData.eqv .none (.str b) = false := by rw [PyData.eqv]
@[simp] theorem eqv_none_list  (b : List D) : PyData.eqv .none (.list b) = false := by rw [PyData.eqv]
@[simp] theorem eqv_none_tuple  (b : List D) : PyData.eqv .none (.tuple b) = false := by rw [PyData.eqv]
@[simp] theorem eqv_bool_none (a : Bool)  : PyData.eqv (.bool a) .none = false := by rw [PyData.eqv]
@[simp] theorem eqv_bool_bool (a : Bool) (b : Bool) : PyData.eqv (.bool a) (.bool b) = (a == b) := by rw [PyData.eqv]
@[simp] theorem eqv_bool_int (a : Bool) (b : Int) : PyData.eqv (.bool a) (.int b) = ((if a then 1 else 0) == b) := by rw [PyData.eqv]
@[simp] theorem eqv_bool_str (a : Bool) (b : Str) : PyData.eqv (.bool a) (.str b) = false := by rw [PyData.eqv]
@[simp] theorem eqv_bool_list (a : Bool) (b : List D) : PyData.eqv (.bool a) (.list b) = false := by rw [PyData.eqv]
@[simp] theorem eqv_bool_tuple (a : Bool) (b : List D) : PyData.eqv (.bool a) (.tuple b) = false := by rw [PyData.eqv]
@[simp] theorem eqv_int_none (a : Int)  : PyData.eqv (.int a) .none = false := by rw [PyData.eqv]
@[simp] theorem eqv_int_bool (a : Int) (b : Bool) : PyData.eqv (.int a) (.bool b) = (a == (if b then 1 else 0)) := by rw [PyData.eqv]
@[simp] theorem eqv_int_int (a : Int) (b : Int) : PyData.eqv (.int a) (.int b) = (a == b) := by rw [PyData.eqv]
@[simp] theorem eqv_int_str (a : Int) (b : Str) : PyData.eqv (.int a) (.str b) = false := by rw [PyData.eqv]
@[simp] theorem eqv_int_list (a : Int) (b : List D) : PyData.eqv (.int a) (.list b) = false := by rw [PyData.eqv]
@[simp] theorem eqv_int_tuple (a : Int) (b : List D) : PyData.eqv (.int a) (.tuple b) = false := by rw [PyData.eqv]
@[simp] theorem eqv_str_none (a : Str)  : PyData.eqv (.str a) .none = false := by rw [PyData.eqv]
@[simp] theorem eqv_str_bool (a : Str) (b : Bool) : PyData.eqv (.str a) (.bool b) = false := by rw [PyData.eqv]
@[simp] theorem eqv_str_int (a : Str) (b : Int) : PyData.eqv (.str a) (.int b) = false := by rw [PyData.eqv]
@[simp] theorem eqv_str_str (a : Str) (b : Str) : PyData.eqv (.str a) (.str b) = (a == b) := by rw [PyData.eqv]
@[simp] theorem eqv_str_list (a : Str) (b : List D) : PyData.eqv (.str a) (.list b) = false := by rw [PyData.eqv]
@[simp] theorem eqv_str_tuple (a : Str) (b : List D) : PyData.eqv (.str a) (.tuple b) = false := by rw [PyData.eqv]
@[simp] theorem eqv_list_none (a : List D)  : PyData.eqv (.list a) .none = false := by rw [PyData.eqv]
@[simp] theorem eqv_list_bool (a : List D) (b : Bool) : PyData.eqv (.list a) (.bool b) = false := by rw [PyData.eqv]
@[simp] theorem eqv_list_int (a : List D) (b : Int) : PyData.eqv (.list a) (.int b) = false := by rw [PyData.eqv]
@[simp] theorem eqv_list_str (a : List D) (b : Str) : PyData.eqv (.list a) (.str b) = false := by rw [PyData.eqv]
@[simp] theorem eqv_list_list (a : List D) (b : List D) : PyData.eqv (.list a) (.list b) = PyData.eqvAll a b := by rw [PyData.eqv]
@[simp] theorem eqv_list_tuple (a : List D) (b : List D) : PyData.eqv (.list a) (.tuple b) = false := by rw [PyData.eqv]
@[simp] theorem eqv_tuple_none (a : List D)  : PyData.eqv (.tuple a) .none = false := by rw [PyData.eqv]
@[simp] theorem eqv_tuple_bool (a : List D) (b : Bool) : PyData.eqv (.tuple a) (.bool b) = false := by rw [PyData.eqv]
@[simp] theorem eqv_tuple_int (a : List D) (b : Int) : PyData.eqv (.tuple a) (.int b) = false := by rw [PyData.eqv]
@[simp] theorem eqv_tuple_str (a : List D) (b : Str) : PyData.eqv (.tuple a) (.str b) = false := by rw [PyData.eqv]
@[simp] theorem eqv_tuple_list (a : List D) (b : List D) : PyData.eqv (.tuple a) (.list b) = false := by rw [PyData.eqv]
@[simp] theorem eqv_tuple_tuple (a : List D) (b : List D) : PyData.eqv (.tuple a) (.tuple b) = PyData.eqvAll a b := by rw [PyData.eqv]
@[simp] theorem eqvA_nil : PyData.eqvAll [] [] = true := by rw [PyData.eqvAll]
@[simp] theorem eqvA_cons (x y : D) (r s : List D) : PyData.eqvAll (x :: r) (y :: s) = (PyData.eqv x y && PyData.eqvAll r s) := by rw [PyData.eqvAll]
@[simp] theorem eqvA_nc (y : D) (s : List D) : PyData.eqvAll [] (y :: s) = false := by rw [PyData.eqvAll]
@[simp] theorem eqvA_cn (y : D) (s : List D) : PyData.eqvAll (y :: s) [] = false := by rw [PyData.eqvAll]
/-- the ends of a tuple -/
theorem ixU_m1 (R : List D) (x : D) : pyIx (.tuple (R ++ [x])) (.int (-1)) = some (.fz x) := ixUn (m := 1) rfl (by decide) (by simp) (by simp)
theorem ixL_m1 (R : List D) (x : D) : pyIx (.list (R ++ [x])) (.int (-1)) = some (.fz x) := ixLn (m := 1) rfl (by decide) (by simp) (by simp)
theorem ixU_m2 (R : List D) (x y : D) : pyIx (.tuple (R ++ [x, y])) (.int (-2)) = some (.fz x) := ixUn (m := 2) rfl (by decide) (by simp) (by simp)
theorem ixU_m1' (R : List D) (x y : D) : pyIx (.tuple (R ++ [x, y])) (.int (-1)) = some (.fz y) := ixUn (m := 1) rfl (by decide) (by simp) (by simp [List.getElem?_append_right])
@[simp] theorem isNoneI (i : Int) : pyIs (.int i) .none = some false := rfl
@[simp] theorem isNoneN : pyIs .none .none = some true := rfl
@[simp] theorem isNoneU (xs : List D) : pyIs (.tuple xs) .none = some false := rfl
@[simp] theorem isNoneL (xs : List D) : pyIs (.list xs) .none = some false := rfl
@[simp] theorem isNotNoneI (i : Int) : pyIsNot (.int i) .none = some true := rfl
@[simp] theorem isNotNoneN : pyIsNot .none .none = some false := rfl
@[simp] theorem isNotNoneU (xs : List D) : pyIsNot (.tuple xs) .none = some true := rfl
@[simp] theorem isNotNoneL (xs : List D) : pyIsNot (.list xs) .none = some true := rfl
@[simp] theorem truB (b : Bool) : pyTruth (.bool b) = some b := rfl
@[simp] theorem intI (i : Int) : pyInt (.int i) = some (.fz (.int i)) := rfl
@[simp] theorem intB (b : Bool) : pyInt (.bool b) = some (.fz (.int (if b then 1 else 0))) := rfl
@[simp] theorem tupL (xs : List D) : pyTuple (.list xs) = some (.fz (.tuple xs)) := rfl
@[simp] theorem tupU (xs : List D) : pyTuple (.tuple xs) = some (.fz (.tuple xs)) := rfl
end
end FD
/-! FDQ: the plain side: ratios. -/
namespace FD
noncomputable section
open PySem
def b_law_ratio (ct : CT) (w : Nat) : Ev Fl :=
  (sSeq (sPar 2 3 (cD (c1 pyAbs (cVP 0))) (cD (c1 pyAbs (cVP 1))))
  (sSeq (sFor (iR1 (cD (cK (.int 4000)))) (gNm 4)
    (sSeq (sIf (cCmp pyEq (cVP 3) (cD (cK (.int 0))))
      sBrk
      sPass)
    (sPar 2 3 (cD (cVE 3)) (cD (c2 pyMod (cVP 2) (cVP 3))))))
  (sRet (cIte (cCmp pyGt (cVP 1) (cD (cK (.int 0)))) (cTup (cCons (cD (c2 pyFloorDiv (cVP 0) (cVP 2))) (cCons (cD (c2 pyFloorDiv (cVP 1) (cVP 2))) cNil))) (cTup (cCons (cD (c2 pyFloorDiv (cD (c1 pyNeg (cVP 0))) (cVP 2))) (cCons (cD (c2 pyFloorDiv (cD (c1 pyNeg (cVP 1))) (cVP 2))) cNil)))))))
def b_law_plus (ct : CT) (w : Nat) : Ev Fl :=
  (sRet (cCall ct 4 (cACons (c2 pyAdd (cD (c2 pyMul (cD (cVIx 0 (cD (cK (.int 0))))) (cD (cVIx 1 (cD (cK (.int 1))))))) (cD (c2 pyMul (cD (cVIx 1 (cD (cK (.int 0))))) (cD (cVIx 0 (cD (cK (.int 1)))))))) (cACons (c2 pyMul (cD (cVIx 0 (cD (cK (.int 1))))) (cD (cVIx 1 (cD (cK (.int 1)))))) cANil))))
def b_law_minus (ct : CT) (w : Nat) : Ev Fl :=
  (sRet (cCall ct 4 (cACons (c2 pySub (cD (c2 pyMul (cD (cVIx 0 (cD (cK (.int 0))))) (cD (cVIx 1 (cD (cK (.int 1))))))) (cD (c2 pyMul (cD (cVIx 1 (cD (cK (.int 0))))) (cD (cVIx 0 (cD (cK (.int 1)))))))) (cACons (c2 pyMul (cD (cVIx 0 (cD (cK (.int 1))))) (cD (cVIx 1 (cD (cK (.int 1)))))) cANil))))
def b_law_mult (ct : CT) (w : Nat) : Ev Fl :=
  (sRet (cCall ct 4 (cACons (c2 pyMul (cD (cVIx 0 (cD (cK (.int 0))))) (cD (cVIx 1 (cD (cK (.int 0)))))) (cACons (c2 pyMul (cD (cVIx 0 (cD (cK (.int 1))))) (cD (cVIx 1 (cD (cK (.int 1)))))) cANil))))
def b_law_dot (ct : CT) (w : Nat) : Ev Fl :=
  (sSeq (sAsg 2 (cTup (cCons (cD (cK (.int 0))) (cCons (cD (cK (.int 1))) cNil))))
  (sSeq (sFor (iR1 (cD (c1 pyLen (cVP 0)))) (gNm 3)
    (sAsg 2 (cCall ct 5 (cACons (cVE 2) (cACons (cCall ct 7 (cACons (cVIx 0 (cVP 3)) (cACons (cVIx 1 (cVP 3)) cANil))) cANil)))))
  (sRet (cVR 2))))
def b_law_less (ct : CT) (w : Nat) : Ev Fl :=
  (sRet (cB (cCmp pyLt (cD (c2 pyMul (cD (cVIx 0 (cD (cK (.int 0))))) (cD (cVIx 1 (cD (cK (.int 1))))))) (cD (c2 pyMul (cD (cVIx 1 (cD (cK (.int 0))))) (cD (cVIx 0 (cD (cK (.int 1))))))))))
def b_law_size (ct : CT) (w : Nat) : Ev Fl :=
  (sRet (cTup (cCons (cD (c1 pyAbs (cD (cVIx 0 (cD (cK (.int 0))))))) (cCons (cD (cVIx 0 (cD (cK (.int 1))))) cNil))))
def b_greatest_divisor (ct : CT) (w : Nat) : Ev Fl :=
  (sSeq (whileL (cCmp pyNe (cVP 1) (cD (cK (.int 0))))
    (sPar 0 1 (cD (cVE 1)) (cD (c2 pyMod (cVP 0) (cVP 1)))) w)
  (sRet (c1 pyAbs (cVP 0))))
def b_ratio (ct : CT) (w : Nat) : Ev Fl :=
  (sSeq (sIf (cCmp pyLt (cVP 1) (cD (cK (.int 0))))
    (sSeq (sAsg 0 (c1 pyNeg (cVP 0)))
    (sAsg 1 (c1 pyNeg (cVP 1))))
    sPass)
  (sSeq (sAsg 2 (cCall ct 11 (cACons (cVE 0) (cACons (cVE 1) cANil))))
  (sRet (cTup (cCons (cD (c2 pyFloorDiv (cVP 0) (cVP 2))) (cCons (cD (c2 pyFloorDiv (cVP 1) (cVP 2))) cNil))))))
def b_added (ct : CT) (w : Nat) : Ev Fl :=
  (sRet (cCall ct 12 (cACons (c2 pyAdd (cD (c2 pyMul (cD (cVIx 0 (cD (cK (.int 0))))) (cD (cVIx 1 (cD (cK (.int 1))))))) (cD (c2 pyMul (cD (cVIx 1 (cD (cK (.int 0))))) (cD (cVIx 0 (cD (cK (.int 1)))))))) (cACons (c2 pyMul (cD (cVIx 0 (cD (cK (.int 1))))) (cD (cVIx 1 (cD (cK (.int 1)))))) cANil))))
def b_opposite (ct : CT) (w : Nat) : Ev Fl :=
  (sRet (cTup (cCons (cD (c1 pyNeg (cD (cVIx 0 (cD (cK (.int 0))))))) (cCons (cD (cVIx 0 (cD (cK (.int 1))))) cNil))))
def b_less (ct : CT) (w : Nat) : Ev Fl :=
  (sRet (cCall ct 13 (cACons (cVE 0) (cACons (cCall ct 14 (cACons (cVE 1) cANil)) cANil))))
def b_times (ct : CT) (w : Nat) : Ev Fl :=
  (sRet (cCall ct 12 (cACons (c2 pyMul (cD (cVIx 0 (cD (cK (.int 0))))) (cD (cVIx 1 (cD (cK (.int 0)))))) (cACons (c2 pyMul (cD (cVIx 0 (cD (cK (.int 1))))) (cD (cVIx 1 (cD (cK (.int 1)))))) cANil))))
def b_compare (ct : CT) (w : Nat) : Ev Fl :=
  (sSeq (sAsg 2 (c2 pySub (cD (c2 pyMul (cD (cVIx 0 (cD (cK (.int 0))))) (cD (cVIx 1 (cD (cK (.int 1))))))) (cD (c2 pyMul (cD (cVIx 1 (cD (cK (.int 0))))) (cD (cVIx 0 (cD (cK (.int 1)))))))))
  (sSeq (sIf (cCmp pyLt (cVP 2) (cD (cK (.int 0))))
    (sRet (c1 pyNeg (cD (cK (.int 1)))))
    sPass)
  (sSeq (sIf (cCmp pyGt (cVP 2) (cD (cK (.int 0))))
    (sRet (cK (.int 1)))
    sPass)
  (sRet (cK (.int 0))))))
def b_noughts (ct : CT) (w : Nat) : Ev Fl :=
  (sRet (c2 pyMul (cD (cTup (cCons (cD (cK (.tuple [(.int 0), (.int 1)]))) cNil))) (cVP 0)))
def b_dot (ct : CT) (w : Nat) : Ev Fl :=
  (sSeq (sUnp (gTp 2 (gC (gNm 2) (gC (gNm 3) gN))) (cD (cTup (cCons (cD (cK (.int 0))) (cCons (cD (cK (.int 1))) cNil)))))
  (sSeq (sFor (iZip (cD (cVE 0)) (cD (cVE 1))) (gTp 2 (gC (gNm 4) (gC (gNm 5) gN)))
    (sSeq (sAsg 6 (c2 pyMul (cD (cVIx 4 (cD (cK (.int 0))))) (cD (cVIx 5 (cD (cK (.int 0)))))))
    (sIf (cCmp pyNe (cVP 6) (cD (cK (.int 0))))
      (sSeq (sAsg 7 (c2 pyMul (cD (cVIx 4 (cD (cK (.int 1))))) (cD (cVIx 5 (cD (cK (.int 1)))))))
      (sPar 2 3 (cD (c2 pyAdd (cD (c2 pyMul (cVP 2) (cVP 7))) (cD (c2 pyMul (cVP 6) (cVP 3))))) (cD (c2 pyMul (cVP 3) (cVP 7)))))
      sPass)))
  (sRet (cCall ct 12 (cACons (cVE 2) (cACons (cVE 3) cANil))))))
def b_plus (ct : CT) (w : Nat) : Ev Fl :=
  (sRet (c1 pyTuple (cD (cLc (iZip (cD (cVE 0)) (cD (cVE 1))) [2, 3] (gTp 2 (gC (gNm 2) (gC (gNm 3) gN))) cYes (cD (cCall ct 13 (cACons (cVE 2) (cACons (cVE 3) cANil))))))))
def b_minus (ct : CT) (w : Nat) : Ev Fl :=
  (sRet (c1 pyTuple (cD (cLc (iZip (cD (cVE 0)) (cD (cVE 1))) [2, 3] (gTp 2 (gC (gNm 2) (gC (gNm 3) gN))) cYes (cD (cCall ct 13 (cACons (cVE 2) (cACons (cCall ct 14 (cACons (cVE 3) cANil)) cANil))))))))
def b_is_row (ct : CT) (w : Nat) : Ev Fl :=
  (sSeq (sIf (cCmp pyNe (cD (c1 pyLen (cVP 0))) (cVP 1))
    (sRet (cK (.bool false)))
    sPass)
  (sRet (cB (cCmp pyEq (cD (c1 pyLen (cD (cLc (iSeq (cD (cVE 0))) [2, 3] (gTp 2 (gC (gNm 2) (gC (gNm 3) gN))) (cOr (cCmp pyLt (cVP 3) (cD (cK (.int 1)))) (cCmp pyNe (cD (cCall ct 11 (cACons (cVE 2) (cACons (cVE 3) cANil)))) (cD (cK (.int 1))))) (cD (cK (.int 1))))))) (cD (cK (.int 0)))))))
def b_over (ct : CT) (w : Nat) : Ev Fl :=
  (sRet (cCall ct 12 (cACons (c2 pyMul (cD (cVIx 0 (cD (cK (.int 0))))) (cD (cVIx 1 (cD (cK (.int 1)))))) (cACons (c2 pyMul (cD (cVIx 0 (cD (cK (.int 1))))) (cD (cVIx 1 (cD (cK (.int 0)))))) cANil))))
def b_scaled (ct : CT) (w : Nat) : Ev Fl :=
  (sRet (c1 pyTuple (cD (cLc (iSeq (cD (cVE 1))) [2] (gNm 2) cYes (cD (cCall ct 16 (cACons (cVE 0) (cACons (cVE 2) cANil))))))))
/-- a ratio as data -/
def qD (r : Rat) : D := .tuple [.int r.num, .int r.den]
/-- above and below have at most n binary digits -/
def Sz (n : Nat) (r : Rat) : Prop := r.num.natAbs < 2 ^ n ∧ r.den < 2 ^ n
theorem Sz.mono {m n : Nat} {r : Rat} (h : Sz m r) (e : m ≤ n) : Sz n r := ⟨Nat.lt_of_lt_of_le h.1 (Nat.pow_le_pow_right (by decide) e), Nat.lt_of_lt_of_le h.2 (Nat.pow_le_pow_right (by decide) e)⟩
theorem log_lt {a n : Nat} (h : a < 2 ^ n) (hn : 0 < n) : a.log2 < n := by
  by_cases z : a = 0
  · subst z; simpa using hn
  · exact (Nat.log2_lt z).mpr h
theorem mulS {i j : Int} {m n : Nat} (h : i.natAbs < 2 ^ m) (h2 : j.natAbs < 2 ^ n) (hm : m ≤ 100000) (hn : n ≤ 100000) : pyMul (.int i) (.int j) = some (.fz (.int (i * j))) := by
  refine if_pos ?_
  unfold MulOk
  have a := log_lt (Nat.lt_of_lt_of_le h (Nat.pow_le_pow_right (by decide) (Nat.le_succ m))) (Nat.succ_pos m)
  have b := log_lt (Nat.lt_of_lt_of_le h2 (Nat.pow_le_pow_right (by decide) (Nat.le_succ n))) (Nat.succ_pos n)
  omega
theorem divS {i j : Int} {n : Nat} (h0 : 0 < j) (h : j.natAbs < 2 ^ n) (hn : n < 9000) : pyFloorDiv (.int i) (.int j) = some (.fz (.int (i / j))) := by
  refine if_pos ⟨h0, ?_⟩
  have b := log_lt (Nat.lt_of_lt_of_le h (Nat.pow_le_pow_right (by decide) (Nat.le_succ n))) (Nat.succ_pos n)
  omega
@[simp] theorem absI (i : Int) : pyAbs (.int i) = some (.fz (.int (i.natAbs : Int))) := by
  show some (SV.fz (.int (if i < 0 then -i else i))) = _
  congr 3
  split <;> omega
theorem qix0 (r : Rat) : pyIx (qD r) (.int 0) = some (.fz (.int r.num)) := ixU (n := 0) rfl rfl
theorem qix1 (r : Rat) : pyIx (qD r) (.int 1) = some (.fz (.int r.den)) := ixU (n := 1) rfl rfl
/-! ### the greatest divisor -/
theorem gcd_while {g : G} : ∀ (n p q : Nat), q < 2 ^ n → ∀ fuel, 2 * n + 1 ≤ fuel →
    whileL (cCmp pyNe (cVP 1) (cD (cK (.int 0)))) (sPar 0 1 (cD (cVE 1)) (cD (c2 pyMod (cVP 0) (cVP 1)))) fuel [some (.fz (.int p)), some (.fz (.int q))] g = .ok .nx [some (.fz (.int (p.gcd q))), some (.fz (.int 0))] g := by
  have st : ∀ (p q fuel : Nat), q ≠ 0 → whileL (cCmp pyNe (cVP 1) (cD (cK (.int 0)))) (sPar 0 1 (cD (cVE 1)) (cD (c2 pyMod (cVP 0) (cVP 1)))) (fuel + 1) [some (.fz (.int p)), some (.fz (.int q))] g
      = whileL (cCmp pyNe (cVP 1) (cD (cK (.int 0)))) (sPar 0 1 (cD (cVE 1)) (cD (c2 pyMod (cVP 0) (cVP 1)))) fuel [some (.fz (.int q)), some (.fz (.int (p % q : Nat)))] g := fun p q fuel h => by
    have m := modI (i := (p : Int)) (j := (q : Int)) (by omega)
    have e : (p : Int) % (q : Int) = ((p % q : Nat) : Int) := by omega
    rw [e] at m
    have h' : ¬ (q : Int) = 0 := by omega
    simp [whileL, h, m]
  have zr : ∀ (p fuel : Nat), whileL (cCmp pyNe (cVP 1) (cD (cK (.int 0)))) (sPar 0 1 (cD (cVE 1)) (cD (c2 pyMod (cVP 0) (cVP 1)))) (fuel + 1) [some (.fz (.int p)), some (.fz (.int 0))] g = .ok .nx [some (.fz (.int p)), some (.fz (.int 0))] g := fun p fuel => by
    simp [whileL]
  intro n
  induction n with
  | zero =>
    intro p q hq fuel hf
    obtain rfl : q = 0 := by simpa using hq
    obtain ⟨f, rfl⟩ : ∃ f, fuel = f + 1 := ⟨fuel - 1, by omega⟩
    rw [Nat.gcd_zero_right]
    exact zr p f
  | succ n ih =>
    intro p q hq fuel hf
    obtain ⟨f, rfl⟩ : ∃ f, fuel = f + 1 := ⟨fuel - 1, by omega⟩
    by_cases z : q = 0
    · subst z
      rw [Nat.gcd_zero_right]
      exact zr p f
    · rw [st p q f z]
      obtain ⟨f, rfl⟩ : ∃ e, f = e + 1 := ⟨f - 1, by omega⟩
      have g1 : p.gcd q = q.gcd (p % q) := by rw [Nat.gcd_comm p q, Nat.gcd_rec, Nat.gcd_comm]
      by_cases z2 : p % q = 0
      · rw [g1, z2, Nat.gcd_zero_right]
        exact zr q f
      · rw [st q (p % q) f z2]
        have g2 : q.gcd (p % q) = (p % q).gcd (q % (p % q)) := by rw [Nat.gcd_comm q, Nat.gcd_rec, Nat.gcd_comm]
        rw [g1, g2]
        refine ih _ _ ?_ f (by omega)
        have l1 := Nat.mod_lt p (Nat.pos_of_ne_zero z)
        have l2 := Nat.mod_lt q (Nat.pos_of_ne_zero z2)
        have hq2 : q < 2 ^ n * 2 := by rw [← Nat.pow_succ]; exact hq
        by_cases h : 2 * (p % q) ≤ q
        · omega
        · have : q % (p % q) = q - (p % q) := by
            rw [Nat.mod_eq_sub_mod (by omega), Nat.mod_eq_of_lt (by omega)]
          omega
end
end FD
/-! FDQ2: the plain side: sums and products of ratios. -/
namespace FD
noncomputable section
open PySem
section
variable {w k i : Nat} {T : List Fn} {g : G}
theorem gd_ok (hT : T[i]? = some ⟨2, 2, b_greatest_divisor⟩) {p : Int} {q n : Nat} (h : q < 2 ^ n) (hw : 2 * n + 2 ≤ w) : callN w T (k + 1) i [.fz (.int p), .fz (.int q)] g = .ok (.fz (.int (p.natAbs.gcd q : Nat))) g := by
  rw [callN_at hT]
  have lp : whileL (cCmp pyNe (cVP 1) (cD (cK (.int 0)))) (sPar 0 1 (cD (cVE 1)) (cD (c2 pyMod (cVP 0) (cVP 1)))) w [some (.fz (.int p)), some (.fz (.int q))] g = .ok .nx [some (.fz (.int (if q = 0 then p else ((p.natAbs.gcd q : Nat) : Int)))), some (.fz (.int 0))] g := by
    obtain ⟨f, rfl⟩ : ∃ f, w = f + 1 := ⟨w - 1, by omega⟩
    by_cases z : q = 0
    · subst z
      simp [whileL]
    · have m := modI (i := p) (j := (q : Int)) (by omega)
      obtain ⟨r, hr⟩ : ∃ r : Nat, p % (q : Int) = r := ⟨(p % (q : Int)).toNat, by have := Int.emod_nonneg p (b := (q : Int)) (by omega); omega⟩
      have lr : r < q := by have := Int.emod_lt_of_pos p (b := (q : Int)) (by omega); omega
      have e := gcd_while (g := g) n q r (by omega) f (by omega)
      have gg : q.gcd r = p.natAbs.gcd q := by
        have h1 : Int.gcd (p % (q : Int)) (q : Int) = Int.gcd p (q : Int) := by
          have e : p = p % (q : Int) + (p / (q : Int)) * (q : Int) := by
            rw [Int.mul_comm]
            exact (Int.emod_add_mul_ediv p q).symm
          conv => rhs; rw [e, Int.gcd_add_mul_right_left]
        rw [hr, Int.gcd_comm] at h1
        exact h1
      rw [gg] at e
      have h' : ¬ (q : Int) = 0 := by omega
      rw [hr] at m
      simp [whileL, z, m, e]
  by_cases z : q = 0
  · subst z
    simp at lp
    simp [semF, runF, b_greatest_divisor, lp]
  · rw [if_neg z] at lp
    simp [semF, runF, b_greatest_divisor, lp]
/-! ### a ratio is made -/
theorem divInt_pos {p : Int} {q : Nat} (hq : q ≠ 0) : (Rat.divInt p q).num = p / (p.natAbs.gcd q : Nat) ∧ ((Rat.divInt p q).den : Int) = (q : Int) / (p.natAbs.gcd q : Nat) := by
  have gg : Int.gcd (q : Int) p = p.natAbs.gcd q := by rw [Int.gcd_comm]; rfl
  refine ⟨?_, ?_⟩
  · rw [Rat.num_divInt, gg, Int.sign_eq_one_of_pos (by omega), Int.one_mul]
  · rw [Rat.den_divInt, gg, if_neg (by omega)]
    simp
theorem dvdAbs {m : Nat} {p : Int} (h : m ∣ p.natAbs) : (m : Int) ∣ p := Int.dvd_natAbs.mp (Int.natCast_dvd_natCast.mpr h)
theorem sz_divInt {p : Int} {q n : Nat} (hq : q ≠ 0) (h1 : p.natAbs < 2 ^ n) (h2 : q < 2 ^ n) : Sz n (Rat.divInt p q) := by
  obtain ⟨e1, e2⟩ := divInt_pos (p := p) hq
  have gp : 0 < p.natAbs.gcd q := Nat.gcd_pos_of_pos_right _ (Nat.pos_of_ne_zero hq)
  refine ⟨?_, ?_⟩
  · rw [e1]
    have : (p / ((p.natAbs.gcd q : Nat) : Int)).natAbs ≤ p.natAbs := by
      rw [Int.natAbs_ediv_of_dvd (dvdAbs (Nat.gcd_dvd_left _ _))]
      exact Nat.div_le_self _ _
    omega
  · have : (Rat.divInt p q).den ≤ q := by
      have : (Rat.divInt p q).den = q / p.natAbs.gcd q := by
        have e3 : ((q : Int) / ((p.natAbs.gcd q : Nat) : Int)) = ((q / p.natAbs.gcd q : Nat) : Int) := by simp
        omega
      rw [this]
      exact Nat.div_le_self _ _
    omega
theorem ratio_ok (hG : T[11]? = some ⟨2, 2, b_greatest_divisor⟩) (hT : T[i]? = some ⟨2, 3, b_ratio⟩) {p : Int} {q n : Nat} (hq : q ≠ 0) (h1 : p.natAbs < 2 ^ n) (h2 : q < 2 ^ n) (hn : n < 9000) (hw : 2 * n + 2 ≤ w) :
    callN w T (k + 2) i [.fz (.int p), .fz (.int q)] g = .ok (.fz (qD (Rat.divInt p q))) g := by
  have e := gd_ok (k := k) (g := g) hG (p := p) h2 hw
  obtain ⟨e1, e2⟩ := divInt_pos (p := p) hq
  have gp : 0 < p.natAbs.gcd q := Nat.gcd_pos_of_pos_right _ (Nat.pos_of_ne_zero hq)
  have gl : p.natAbs.gcd q ≤ q := Nat.gcd_le_right _ (Nat.pos_of_ne_zero hq)
  rw [callN_at hT]
  have d : ∀ x, pyFloorDiv (.int x) (.int ((p.natAbs.gcd q : Nat) : Int)) = _ := fun x => divS (i := x) (n := n) (by omega) (by omega) hn
  have nq : ¬ (q : Int) < 0 := by omega
  unfold qD
  rw [e1, e2]
  simp [semF, runF, b_ratio, nq, e, d]
/-- the law's own way -/
theorem law_gcd_loop {g : G} {p0 q0 : SV} : ∀ (n a b : Nat), b < 2 ^ n → ∀ xs : List D, 2 * n + 1 ≤ xs.length →
    forL (gNm 4) (sSeq (sIf (cCmp pyEq (cVP 3) (cD (cK (.int 0))))
      sBrk
      sPass)
    (sPar 2 3 (cD (cVE 3)) (cD (c2 pyMod (cVP 2) (cVP 3))))) xs [some p0, some q0, some (.fz (.int a)), some (.fz (.int b)), none] g = .ok .nx [some p0, some q0, some (.fz (.int (a.gcd b))), some (.fz (.int 0)), none] g := by
  have st : ∀ (a b : Nat) (x : D) (xs : List D), b ≠ 0 → forL (gNm 4) (sSeq (sIf (cCmp pyEq (cVP 3) (cD (cK (.int 0))))
      sBrk
      sPass)
    (sPar 2 3 (cD (cVE 3)) (cD (c2 pyMod (cVP 2) (cVP 3))))) (x :: xs) [some p0, some q0, some (.fz (.int a)), some (.fz (.int b)), none] g
      = forL (gNm 4) (sSeq (sIf (cCmp pyEq (cVP 3) (cD (cK (.int 0))))
      sBrk
      sPass)
    (sPar 2 3 (cD (cVE 3)) (cD (c2 pyMod (cVP 2) (cVP 3))))) xs [some p0, some q0, some (.fz (.int b)), some (.fz (.int (a % b : Nat))), none] g := fun a b x xs h => by
    have m := modI (i := (a : Int)) (j := (b : Int)) (by omega)
    have e : (a : Int) % (b : Int) = ((a % b : Nat) : Int) := by omega
    rw [e] at m
    simp [forL, h, m]
  have zr : ∀ (a : Nat) (x : D) (xs : List D), forL (gNm 4) (sSeq (sIf (cCmp pyEq (cVP 3) (cD (cK (.int 0))))
      sBrk
      sPass)
    (sPar 2 3 (cD (cVE 3)) (cD (c2 pyMod (cVP 2) (cVP 3))))) (x :: xs) [some p0, some q0, some (.fz (.int a)), some (.fz (.int 0)), none] g = .ok .nx [some p0, some q0, some (.fz (.int a)), some (.fz (.int 0)), none] g := fun a x xs => by
    simp [forL]
  intro n
  induction n with
  | zero =>
    intro a b hb xs hx
    obtain rfl : b = 0 := by simpa using hb
    match xs, hx with
    | x :: xs, _ =>
      rw [Nat.gcd_zero_right]
      exact zr a x xs
  | succ n ih =>
    intro a b hb xs hx
    match xs, hx with
    | [_], hx => simp at hx
    | x :: y :: xs, hx =>
      by_cases z : b = 0
      · subst z
        rw [Nat.gcd_zero_right]
        exact zr a x _
      · rw [st a b x _ z]
        have g1 : a.gcd b = b.gcd (a % b) := by rw [Nat.gcd_comm a b, Nat.gcd_rec, Nat.gcd_comm]
        by_cases z2 : a % b = 0
        · rw [g1, z2, Nat.gcd_zero_right]
          exact zr b y xs
        · rw [st b (a % b) y xs z2]
          have g2 : b.gcd (a % b) = (a % b).gcd (b % (a % b)) := by rw [Nat.gcd_comm b, Nat.gcd_rec, Nat.gcd_comm]
          rw [g1, g2]
          refine ih _ _ ?_ xs (by simp only [List.length_cons] at hx; omega)
          have l1 := Nat.mod_lt a (Nat.pos_of_ne_zero z)
          have l2 := Nat.mod_lt b (Nat.pos_of_ne_zero z2)
          have hb2 : b < 2 ^ n * 2 := by rw [← Nat.pow_succ]; exact hb
          by_cases h : 2 * (a % b) ≤ b
          · omega
          · have : b % (a % b) = b - (a % b) := by
              rw [Nat.mod_eq_sub_mod (by omega), Nat.mod_eq_of_lt (by omega)]
            omega
theorem law_ratio_pos (hT : T[i]? = some ⟨2, 5, b_law_ratio⟩) {p : Int} {q n : Nat} (hq : q ≠ 0) (h1 : p.natAbs < 2 ^ n) (h2 : q < 2 ^ n) (hn : n ≤ 1990) :
    callN w T (k + 1) i [.fz (.int p), .fz (.int q)] g = .ok (.fz (qD (Rat.divInt p q))) g := by
  obtain ⟨e1, e2⟩ := divInt_pos (p := p) hq
  have gp : 0 < p.natAbs.gcd q := Nat.gcd_pos_of_pos_right _ (Nat.pos_of_ne_zero hq)
  have gl : p.natAbs.gcd q ≤ q := Nat.gcd_le_right _ (Nat.pos_of_ne_zero hq)
  rw [callN_at hT]
  have d : ∀ x, pyFloorDiv (.int x) (.int ((p.natAbs.gcd q : Nat) : Int)) = _ := fun x => divS (i := x) (n := n) (by omega) (by omega) (by omega)
  have nq : 0 < q := by omega
  have lp := law_gcd_loop (g := g) (p0 := .fz (.int p)) (q0 := .fz (.int q)) n p.natAbs q h2 (rngD 0 4000) (by rw [show (rngD 0 4000).length = 4000 from rngD_len 4000]; omega)
  have r := rng1N (n := 4000) (by decide)
  have r' : rng1 (.int 4000) = some (rngD 0 4000) := r
  unfold qD
  rw [e1, e2]
  simp [semF, runF, b_law_ratio, r', lp, nq, d]
end
end
end FD
/-! FDF0: the texts of frames, states, motions (printed by gen.py lib). -/
namespace FD
noncomputable section
open PySem
def b_places_of (ct : CT) (w : Nat) : Ev Fl :=
  (sRet (c1 pyTuple (cD (cLc (iSeq (cD (cVIx 0 (cD (cK (.int 1)))))) [1, 2] (gTp 2 (gC (gNm 1) (gC (gNm 2) gN))) cYes (cD (cVE 2))))))
def b_span (ct : CT) (w : Nat) : Ev Fl :=
  (sSeq (sAsg 2 (cCall ct 25 (cACons (cVE 0) cANil)))
  (sSeq (sPar 3 4 (cD (cVIx 2 (cD (cVIx 1 (cD (cK (.int 1))))))) (cD (cVIx 2 (cD (cVIx 1 (cD (cK (.int 2))))))))
  (sRet (cTup (cCons (cD (cCall ct 15 (cACons (cVIx 4 (cD (cK (.int 0)))) (cACons (cVIx 3 (cD (cK (.int 0)))) cANil)))) (cCons (cD (cCall ct 15 (cACons (cVIx 4 (cD (cK (.int 1)))) (cACons (cVIx 3 (cD (cK (.int 1)))) cANil)))) cNil))))))
def b_loads_plus (ct : CT) (w : Nat) : Ev Fl :=
  (sRet (c1 pyTuple (cD (cLc (iZip (cD (cVE 0)) (cD (cVE 1))) [2, 3] (gTp 2 (gC (gNm 2) (gC (gNm 3) gN))) cYes (cD (cCall ct 22 (cACons (cVE 2) (cACons (cVE 3) cANil))))))))
def b_work_of (ct : CT) (w : Nat) : Ev Fl :=
  (sSeq (sAsg 2 (cK (.tuple [(.int 0), (.int 1)])))
  (sSeq (sFor (iZip (cD (cVE 0)) (cD (cVE 1))) (gTp 2 (gC (gNm 3) (gC (gNm 4) gN)))
    (sAsg 2 (cCall ct 13 (cACons (cVE 2) (cACons (cCall ct 21 (cACons (cVE 3) (cACons (cVE 4) cANil))) cANil)))))
  (sRet (cVR 2))))
def b_are_loads (ct : CT) (w : Nat) : Ev Fl :=
  (sRet (cB (cAnd (cCmp pyEq (cD (c1 pyLen (cVP 1))) (cD (c1 pyLen (cD (cVIx 0 (cD (cK (.int 1)))))))) (cCmp pyEq (cD (c1 pyLen (cD (cLc (iSeq (cD (cVE 1))) [2] (gNm 2) (cNot (cTru (cD (cCall ct 24 (cACons (cVE 2) (cACons (cK (.int 2)) cANil)))))) (cD (cK (.int 1))))))) (cD (cK (.int 0)))))))
def b_flat (ct : CT) (w : Nat) : Ev Fl :=
  (sRet (c1 pyTuple (cD (cLc2 (iSeq (cD (cVE 0))) [1, 2] [2] (gNm 1) cYes (iSeq (cD (cVE 1))) (gNm 2) cYes (cD (cVE 2))))))
def b_paired (ct : CT) (w : Nat) : Ev Fl :=
  (sRet (c1 pyTuple (cD (cLc (iR1 (cD (c2 pyFloorDiv (cD (c1 pyLen (cVP 0))) (cD (cK (.int 2)))))) [1] (gNm 1) cYes (cD (cTup (cCons (cD (cVIx 0 (cD (c2 pyMul (cD (cK (.int 2))) (cVP 1))))) (cCons (cD (cVIx 0 (cD (c2 pyAdd (cD (c2 pyMul (cD (cK (.int 2))) (cVP 1))) (cD (cK (.int 1))))))) cNil))))))))
def b_bar_row (ct : CT) (w : Nat) : Ev Fl :=
  (sSeq (sAsg 2 (cCall ct 26 (cACons (cVE 0) (cACons (cVE 1) cANil))))
  (sSeq (sAsg 3 (c2 pyMul (cD (cLst (cCons (cD (cK (.tuple [(.tuple [(.int 0), (.int 1)]), (.tuple [(.int 0), (.int 1)])]))) cNil))) (cD (c1 pyLen (cD (cVIx 0 (cD (cK (.int 1)))))))))
  (sSeq (sSetIx 3 (cD (cVIx 1 (cD (cK (.int 1))))) (cD (cVE 2)))
  (sSeq (sSetIx 3 (cD (cVIx 1 (cD (cK (.int 2))))) (cD (cCall ct 19 (cACons (cTup (cCons (cD (c1 pyNeg (cD (cK (.int 1))))) (cCons (cD (cK (.int 1))) cNil))) (cACons (cVE 2) cANil)))))
  (sRet (cCall ct 30 (cACons (cVE 3) cANil)))))))
def b_foot_row (ct : CT) (w : Nat) : Ev Fl :=
  (sSeq (sAsg 2 (c2 pyMul (cD (cLst (cCons (cD (cK (.tuple [(.tuple [(.int 0), (.int 1)]), (.tuple [(.int 0), (.int 1)])]))) cNil))) (cD (c1 pyLen (cD (cVIx 0 (cD (cK (.int 1)))))))))
  (sSeq (sSetIx 2 (cD (cVIx 1 (cD (cK (.int 0))))) (cD (cVIx 1 (cD (cK (.int 1))))))
  (sRet (cCall ct 30 (cACons (cVE 2) cANil)))))
def b_force_rows (ct : CT) (w : Nat) : Ev Fl :=
  (sSeq (sAsg 1 (cLc (iSeq (cD (cVIx 0 (cD (cK (.int 3)))))) [2] (gNm 2) cYes (cD (cCall ct 32 (cACons (cVE 0) (cACons (cVE 2) cANil))))))
  (sRet (c1 pyTuple (cD (c2 pyAdd (cVP 1) (cD (cLc (iSeq (cD (cVIx 0 (cD (cK (.int 2)))))) [3] (gNm 3) cYes (cD (cCall ct 33 (cACons (cVE 0) (cACons (cVE 3) cANil)))))))))))
def b_forces_of (ct : CT) (w : Nat) : Ev Fl :=
  (sSeq (sAsg 2 (c2 pyMul (cD (cTup (cCons (cD (cK (.tuple [(.tuple [(.int 0), (.int 1)]), (.tuple [(.int 0), (.int 1)])]))) cNil))) (cD (c1 pyLen (cD (cVIx 0 (cD (cK (.int 1)))))))))
  (sSeq (sFor (iZip (cD (c2 pyAdd (cD (cVIx 1 (cD (cK (.int 0))))) (cD (cVIx 1 (cD (cK (.int 1))))))) (cD (cCall ct 34 (cACons (cVE 0) cANil)))) (gTp 2 (gC (gNm 3) (gC (gNm 4) gN)))
    (sIf (cCmp pyNe (cVP 3) (cD (cK (.tuple [(.int 0), (.int 1)]))))
      (sAsg 2 (cCall ct 27 (cACons (cVE 2) (cACons (cCall ct 31 (cACons (cCall ct 19 (cACons (cVE 3) (cACons (cVE 4) cANil))) cANil)) cANil))))
      sPass))
  (sRet (cVR 2))))
def b_is_state (ct : CT) (w : Nat) : Ev Fl :=
  (sRet (cB (cAnd (cCmp pyEq (cD (c1 pyLen (cVP 1))) (cD (cK (.int 2)))) (cAnd (cOfB (cD (cCall ct 24 (cACons (cVIx 1 (cD (cK (.int 0)))) (cACons (c1 pyLen (cD (cVIx 0 (cD (cK (.int 3)))))) cANil))))) (cOfB (cD (cCall ct 24 (cACons (cVIx 1 (cD (cK (.int 1)))) (cACons (c1 pyLen (cD (cVIx 0 (cD (cK (.int 2)))))) cANil)))))))))
def b_carries (ct : CT) (w : Nat) : Ev Fl :=
  (sRet (cB (cCmp pyEq (cD (cCall ct 27 (cACons (cCall ct 35 (cACons (cVE 0) (cACons (cVE 1) cANil))) (cACons (cVE 2) cANil)))) (cD (c2 pyMul (cD (cTup (cCons (cD (cK (.tuple [(.tuple [(.int 0), (.int 1)]), (.tuple [(.int 0), (.int 1)])]))) cNil))) (cD (c1 pyLen (cD (cVIx 0 (cD (cK (.int 1))))))))))))
def b_is_lawful (ct : CT) (w : Nat) : Ev Fl :=
  (sSeq (sFor (iZip (cD (cVIx 1 (cD (cK (.int 0))))) (cD (cVIx 0 (cD (cK (.int 3)))))) (gTp 2 (gC (gNm 2) (gC (gNm 3) gN)))
    (sSeq (sIf (cAnd (cCmp pyIsNot (cD (cVIx 3 (cD (cK (.int 3))))) (cD (cK .none))) (cCmp pyGt (cD (cCall ct 17 (cACons (cVE 2) (cACons (cVIx 3 (cD (cK (.int 3)))) cANil)))) (cD (cK (.int 0)))))
      (sRet (cK (.bool false)))
      sPass)
    (sIf (cAnd (cCmp pyIsNot (cD (cVIx 3 (cD (cK (.int 4))))) (cD (cK .none))) (cCmp pyGt (cD (cCall ct 17 (cACons (cCall ct 14 (cACons (cVE 2) cANil)) (cACons (cVIx 3 (cD (cK (.int 4)))) cANil)))) (cD (cK (.int 0)))))
      (sRet (cK (.bool false)))
      sPass)))
  (sRet (cB (cCmp pyEq (cD (c1 pyLen (cD (cLc (iZip (cD (cVIx 1 (cD (cK (.int 1))))) (cD (cVIx 0 (cD (cK (.int 2)))))) [4, 5] (gTp 2 (gC (gNm 4) (gC (gNm 5) gN))) (cAnd (cCmp pyEq (cD (cVIx 5 (cD (cK (.int 2))))) (cD (cK (.str "push")))) (cCmp pyLt (cD (cVIx 4 (cD (cK (.int 0))))) (cD (cK (.int 0))))) (cD (cK (.int 1))))))) (cD (cK (.int 0)))))))
def b_shows_state (ct : CT) (w : Nat) : Ev Fl :=
  (sRet (cB (cAnd (cOfB (cD (cCall ct 36 (cACons (cVE 0) (cACons (cVE 2) cANil))))) (cAnd (cOfB (cD (cCall ct 38 (cACons (cVE 0) (cACons (cVE 2) cANil))))) (cOfB (cD (cCall ct 37 (cACons (cVE 0) (cACons (cVE 2) (cACons (cVE 1) cANil))))))))))
def b_stretch (ct : CT) (w : Nat) : Ev Fl :=
  (sRet (cCall ct 21 (cACons (cCall ct 23 (cACons (cVIx 2 (cD (cVIx 1 (cD (cK (.int 2)))))) (cACons (cVIx 2 (cD (cVIx 1 (cD (cK (.int 1)))))) cANil))) (cACons (cCall ct 26 (cACons (cVE 0) (cACons (cVE 1) cANil))) cANil))))
def b_stretches (ct : CT) (w : Nat) : Ev Fl :=
  (sRet (c1 pyTuple (cD (cLc (iSeq (cD (cVIx 0 (cD (cK (.int 3)))))) [2] (gNm 2) cYes (cD (cCall ct 40 (cACons (cVE 0) (cACons (cVE 2) (cACons (cVE 1) cANil)))))))))
def b_slips (ct : CT) (w : Nat) : Ev Fl :=
  (sRet (c1 pyTuple (cD (cLc (iSeq (cD (cVIx 0 (cD (cK (.int 2)))))) [2] (gNm 2) cYes (cD (cCall ct 21 (cACons (cVIx 2 (cD (cK (.int 1)))) (cACons (cVIx 1 (cD (cVIx 2 (cD (cK (.int 0)))))) cANil))))))))
def b_resistance (ct : CT) (w : Nat) : Ev Fl :=
  (sSeq (sIf (cCmp pyEq (cVP 1) (cD (cK (.tuple [(.int 0), (.int 1)]))))
    (sRet (cK (.tuple [(.int 0), (.int 1)])))
    sPass)
  (sSeq (sAsg 2 (cIte (cCmp pyGt (cD (cVIx 1 (cD (cK (.int 0))))) (cD (cK (.int 0)))) (cVIx 0 (cD (cK (.int 3)))) (cVIx 0 (cD (cK (.int 4))))))
  (sRet (cIte (cCmp pyIs (cVP 2) (cD (cK .none))) (cK .none) (cCall ct 16 (cACons (cVE 2) (cACons (cIte (cCmp pyGt (cD (cVIx 1 (cD (cK (.int 0))))) (cD (cK (.int 0)))) (cVE 1) (cCall ct 14 (cACons (cVE 1) cANil))) cANil)))))))
def b_is_free (ct : CT) (w : Nat) : Ev Fl :=
  (sSeq (sFor (iZip (cD (cVIx 0 (cD (cK (.int 2))))) (cD (cCall ct 42 (cACons (cVE 0) (cACons (cVE 1) cANil))))) (gTp 2 (gC (gNm 2) (gC (gNm 3) gN)))
    (sIf (cOr (cCmp pyLt (cD (cVIx 3 (cD (cK (.int 0))))) (cD (cK (.int 0)))) (cAnd (cCmp pyEq (cD (cVIx 2 (cD (cK (.int 2))))) (cD (cK (.str "both")))) (cCmp pyNe (cVP 3) (cD (cK (.tuple [(.int 0), (.int 1)]))))))
      (sRet (cK (.bool false)))
      sPass))
  (sRet (cB (cCmp pyEq (cD (c1 pyLen (cD (cLc (iZip (cD (cVIx 0 (cD (cK (.int 3))))) (cD (cCall ct 41 (cACons (cVE 0) (cACons (cVE 1) cANil))))) [4, 5] (gTp 2 (gC (gNm 4) (gC (gNm 5) gN))) (cCmp pyIs (cD (cCall ct 43 (cACons (cVE 4) (cACons (cVE 5) cANil)))) (cD (cK .none))) (cD (cK (.int 1))))))) (cD (cK (.int 0)))))))
def b_resistance_of (ct : CT) (w : Nat) : Ev Fl :=
  (sSeq (sAsg 2 (cK (.tuple [(.int 0), (.int 1)])))
  (sSeq (sFor (iZip (cD (cVIx 0 (cD (cK (.int 3))))) (cD (cCall ct 41 (cACons (cVE 0) (cACons (cVE 1) cANil))))) (gTp 2 (gC (gNm 3) (gC (gNm 4) gN)))
    (sAsg 2 (cCall ct 13 (cACons (cVE 2) (cACons (cCall ct 43 (cACons (cVE 3) (cACons (cVE 4) cANil))) cANil)))))
  (sRet (cVR 2))))
def b_shows_fall (ct : CT) (w : Nat) : Ev Fl :=
  (sSeq (sIf (cOr (cNot (cTru (cD (cCall ct 29 (cACons (cVE 0) (cACons (cVE 2) cANil)))))) (cNot (cTru (cD (cCall ct 44 (cACons (cVE 0) (cACons (cVE 2) cANil)))))))
    (sRet (cK (.bool false)))
    sPass)
  (sRet (cB (cCmp pyGt (cD (cCall ct 17 (cACons (cCall ct 28 (cACons (cVE 1) (cACons (cVE 2) cANil))) (cACons (cCall ct 45 (cACons (cVE 0) (cACons (cVE 2) cANil))) cANil)))) (cD (cK (.int 0)))))))
def b_states_plus (ct : CT) (w : Nat) : Ev Fl :=
  (sRet (cTup (cCons (cD (cCall ct 22 (cACons (cVIx 0 (cD (cK (.int 0)))) (cACons (cVIx 1 (cD (cK (.int 0)))) cANil)))) (cCons (cD (cCall ct 22 (cACons (cVIx 0 (cD (cK (.int 1)))) (cACons (cVIx 1 (cD (cK (.int 1)))) cANil)))) cNil))))
def b_states_times (ct : CT) (w : Nat) : Ev Fl :=
  (sRet (cTup (cCons (cD (cCall ct 19 (cACons (cVE 0) (cACons (cVIx 1 (cD (cK (.int 0)))) cANil)))) (cCons (cD (cCall ct 19 (cACons (cVE 0) (cACons (cVIx 1 (cD (cK (.int 1)))) cANil)))) cNil))))
def b_used_bars (ct : CT) (w : Nat) : Ev Fl :=
  (sRet (cLc (iEnum (cD (cVIx 0 (cD (cK (.int 0)))))) [1, 2] (gTp 2 (gC (gNm 1) (gC (gNm 2) gN))) (cCmp pyNe (cVP 2) (cD (cK (.tuple [(.int 0), (.int 1)])))) (cD (cVE 1))))
def b_law_span (ct : CT) (w : Nat) : Ev Fl :=
  (sSeq (sAsg 2 (c2 pyIx (cD (c2 pyIx (cD (cVIx 0 (cD (cK (.int 1))))) (cD (cVIx 1 (cD (cK (.int 1))))))) (cD (cK (.int 1)))))
  (sSeq (sAsg 3 (c2 pyIx (cD (c2 pyIx (cD (cVIx 0 (cD (cK (.int 1))))) (cD (cVIx 1 (cD (cK (.int 2))))))) (cD (cK (.int 1)))))
  (sRet (cTup (cCons (cD (cCall ct 6 (cACons (cVIx 3 (cD (cK (.int 0)))) (cACons (cVIx 2 (cD (cK (.int 0)))) cANil)))) (cCons (cD (cCall ct 6 (cACons (cVIx 3 (cD (cK (.int 1)))) (cACons (cVIx 2 (cD (cK (.int 1)))) cANil)))) cNil))))))
def b_law_forces (ct : CT) (w : Nat) : Ev Fl :=
  (sSeq (sAsg 2 (cLc (iSeq (cD (cVIx 0 (cD (cK (.int 1)))))) [10] (gNm 10) cYes (cD (cTup (cCons (cD (cTup (cCons (cD (cK (.int 0))) (cCons (cD (cK (.int 1))) cNil)))) (cCons (cD (cTup (cCons (cD (cK (.int 0))) (cCons (cD (cK (.int 1))) cNil)))) cNil))))))
  (sSeq (sFor (iR1 (cD (c1 pyLen (cD (cVIx 0 (cD (cK (.int 3)))))))) (gNm 3)
    (sSeq (sAsg 4 (c2 pyIx (cD (cVIx 0 (cD (cK (.int 3))))) (cVP 3)))
    (sSeq (sAsg 5 (cCall ct 50 (cACons (cVE 0) (cACons (cVE 4) cANil))))
    (sSeq (sAsg 6 (cTup (cCons (cD (cCall ct 7 (cACons (c2 pyIx (cD (cVIx 1 (cD (cK (.int 0))))) (cVP 3)) (cACons (cVIx 5 (cD (cK (.int 0)))) cANil)))) (cCons (cD (cCall ct 7 (cACons (c2 pyIx (cD (cVIx 1 (cD (cK (.int 0))))) (cVP 3)) (cACons (cVIx 5 (cD (cK (.int 1)))) cANil)))) cNil))))
    (sSeq (sPar 7 8 (cD (cVIx 4 (cD (cK (.int 1))))) (cD (cVIx 4 (cD (cK (.int 2))))))
    (sSeq (sSetIx 2 (cVP 7) (cD (cTup (cCons (cD (cCall ct 5 (cACons (c2 pyIx (cD (cVIx 2 (cVP 7))) (cD (cK (.int 0)))) (cACons (cVIx 6 (cD (cK (.int 0)))) cANil)))) (cCons (cD (cCall ct 5 (cACons (c2 pyIx (cD (cVIx 2 (cVP 7))) (cD (cK (.int 1)))) (cACons (cVIx 6 (cD (cK (.int 1)))) cANil)))) cNil)))))
    (sSetIx 2 (cVP 8) (cD (cTup (cCons (cD (cCall ct 6 (cACons (c2 pyIx (cD (cVIx 2 (cVP 8))) (cD (cK (.int 0)))) (cACons (cVIx 6 (cD (cK (.int 0)))) cANil)))) (cCons (cD (cCall ct 6 (cACons (c2 pyIx (cD (cVIx 2 (cVP 8))) (cD (cK (.int 1)))) (cACons (cVIx 6 (cD (cK (.int 1)))) cANil)))) cNil)))))))))))
  (sSeq (sFor (iR1 (cD (c1 pyLen (cD (cVIx 0 (cD (cK (.int 2)))))))) (gNm 9)
    (sSeq (sUnp (gTp 3 (gC (gNm 10) (gC (gNm 5) (gC (gNm 11) gN)))) (cD (c2 pyIx (cD (cVIx 0 (cD (cK (.int 2))))) (cVP 9))))
    (sSeq (sAsg 12 (c2 pyIx (cD (cVIx 1 (cD (cK (.int 1))))) (cVP 9)))
    (sSetIx 2 (cVP 10) (cD (cTup (cCons (cD (cCall ct 5 (cACons (c2 pyIx (cD (cVIx 2 (cVP 10))) (cD (cK (.int 0)))) (cACons (cCall ct 7 (cACons (cVE 12) (cACons (cVIx 5 (cD (cK (.int 0)))) cANil))) cANil)))) (cCons (cD (cCall ct 5 (cACons (c2 pyIx (cD (cVIx 2 (cVP 10))) (cD (cK (.int 1)))) (cACons (cCall ct 7 (cACons (cVE 12) (cACons (cVIx 5 (cD (cK (.int 1)))) cANil))) cANil)))) cNil))))))))
  (sRet (cVR 2)))))
def b_law_lawful (ct : CT) (w : Nat) : Ev Fl :=
  (sSeq (sFor (iR1 (cD (c1 pyLen (cD (cVIx 0 (cD (cK (.int 3)))))))) (gNm 2)
    (sSeq (sPar 3 4 (cD (c2 pyIx (cD (c2 pyIx (cD (cVIx 0 (cD (cK (.int 3))))) (cVP 2))) (cD (cK (.int 3))))) (cD (c2 pyIx (cD (c2 pyIx (cD (cVIx 0 (cD (cK (.int 3))))) (cVP 2))) (cD (cK (.int 4))))))
    (sSeq (sIf (cAnd (cCmp pyIsNot (cVP 3) (cD (cK .none))) (cCmp pyLt (cD (c2 pyIx (cD (cCall ct 6 (cACons (cVE 3) (cACons (c2 pyIx (cD (cVIx 1 (cD (cK (.int 0))))) (cVP 2)) cANil)))) (cD (cK (.int 0))))) (cD (cK (.int 0)))))
      (sRet (cK (.bool false)))
      sPass)
    (sIf (cAnd (cCmp pyIsNot (cVP 4) (cD (cK .none))) (cCmp pyLt (cD (c2 pyIx (cD (cCall ct 5 (cACons (cVE 4) (cACons (c2 pyIx (cD (cVIx 1 (cD (cK (.int 0))))) (cVP 2)) cANil)))) (cD (cK (.int 0))))) (cD (cK (.int 0)))))
      (sRet (cK (.bool false)))
      sPass))))
  (sRet (cB (cCmp pyEq (cD (c1 pyLen (cD (cLc (iR1 (cD (c1 pyLen (cD (cVIx 0 (cD (cK (.int 2)))))))) [5] (gNm 5) (cAnd (cCmp pyEq (cD (c2 pyIx (cD (c2 pyIx (cD (cVIx 0 (cD (cK (.int 2))))) (cVP 5))) (cD (cK (.int 2))))) (cD (cK (.str "push")))) (cCmp pyLt (cD (c2 pyIx (cD (c2 pyIx (cD (cVIx 1 (cD (cK (.int 1))))) (cVP 5))) (cD (cK (.int 0))))) (cD (cK (.int 0))))) (cD (cK (.int 1))))))) (cD (cK (.int 0)))))))
def b_law_stretch (ct : CT) (w : Nat) : Ev Fl :=
  (sSeq (sAsg 3 (cCall ct 50 (cACons (cVE 0) (cACons (cVE 1) cANil))))
  (sSeq (sAsg 4 (cTup (cCons (cD (cCall ct 6 (cACons (c2 pyIx (cD (cVIx 2 (cD (cVIx 1 (cD (cK (.int 2))))))) (cD (cK (.int 0)))) (cACons (c2 pyIx (cD (cVIx 2 (cD (cVIx 1 (cD (cK (.int 1))))))) (cD (cK (.int 0)))) cANil)))) (cCons (cD (cCall ct 6 (cACons (c2 pyIx (cD (cVIx 2 (cD (cVIx 1 (cD (cK (.int 2))))))) (cD (cK (.int 1)))) (cACons (c2 pyIx (cD (cVIx 2 (cD (cVIx 1 (cD (cK (.int 1))))))) (cD (cK (.int 1)))) cANil)))) cNil))))
  (sRet (cCall ct 8 (cACons (cVE 4) (cACons (cVE 3) cANil))))))
def b_law_resistance (ct : CT) (w : Nat) : Ev Fl :=
  (sSeq (sAsg 2 (cTup (cCons (cD (cK (.int 0))) (cCons (cD (cK (.int 1))) cNil))))
  (sSeq (sFor (iSeq (cD (cVIx 0 (cD (cK (.int 2)))))) (gTp 3 (gC (gNm 3) (gC (gNm 4) (gC (gNm 5) gN))))
    (sSeq (sAsg 6 (cCall ct 8 (cACons (cVE 4) (cACons (cVIx 1 (cVP 3)) cANil))))
    (sIf (cOr (cCmp pyLt (cD (cVIx 6 (cD (cK (.int 0))))) (cD (cK (.int 0)))) (cAnd (cCmp pyEq (cVP 5) (cD (cK (.str "both")))) (cCmp pyNe (cD (cVIx 6 (cD (cK (.int 0))))) (cD (cK (.int 0))))))
      (sRet (cK .none))
      sPass)))
  (sSeq (sFor (iSeq (cD (cVIx 0 (cD (cK (.int 3)))))) (gNm 7)
    (sSeq (sAsg 8 (cCall ct 53 (cACons (cVE 0) (cACons (cVE 7) (cACons (cVE 1) cANil)))))
    (sSeq (sAsg 9 (cIte (cCmp pyGt (cD (cVIx 8 (cD (cK (.int 0))))) (cD (cK (.int 0)))) (cVIx 7 (cD (cK (.int 3)))) (cVIx 7 (cD (cK (.int 4))))))
    (sIf (cCmp pyNe (cD (cVIx 8 (cD (cK (.int 0))))) (cD (cK (.int 0))))
      (sSeq (sIf (cCmp pyIs (cVP 9) (cD (cK .none)))
        (sRet (cK .none))
        sPass)
      (sAsg 2 (cCall ct 5 (cACons (cVE 2) (cACons (cCall ct 7 (cACons (cVE 9) (cACons (cTup (cCons (cD (c1 pyAbs (cD (cVIx 8 (cD (cK (.int 0))))))) (cCons (cD (cVIx 8 (cD (cK (.int 1))))) cNil))) cANil))) cANil)))))
      sPass))))
  (sRet (cVR 2)))))
def b_law_work (ct : CT) (w : Nat) : Ev Fl :=
  (sSeq (sAsg 2 (cTup (cCons (cD (cK (.int 0))) (cCons (cD (cK (.int 1))) cNil))))
  (sSeq (sFor (iR1 (cD (c1 pyLen (cVP 0)))) (gNm 3)
    (sAsg 2 (cCall ct 5 (cACons (cVE 2) (cACons (cCall ct 8 (cACons (cVIx 0 (cVP 3)) (cACons (cVIx 1 (cVP 3)) cANil))) cANil)))))
  (sRet (cVR 2))))
def b_law_falls (ct : CT) (w : Nat) : Ev Fl :=
  (sSeq (sIf (cCmp pyNe (cD (c1 pyLen (cVP 2))) (cD (c1 pyLen (cD (cVIx 0 (cD (cK (.int 1))))))))
    (sRet (cK (.bool false)))
    sPass)
  (sSeq (sAsg 3 (cCall ct 54 (cACons (cVE 0) (cACons (cVE 2) cANil))))
  (sRet (cB (cAnd (cCmp pyIsNot (cVP 3) (cD (cK .none))) (cCmp pyGt (cD (c2 pyIx (cD (cCall ct 6 (cACons (cCall ct 55 (cACons (cVE 1) (cACons (cVE 2) cANil))) (cACons (cVE 3) cANil)))) (cD (cK (.int 0))))) (cD (cK (.int 0)))))))))
def b_law_limit (ct : CT) (w : Nat) : Ev Fl :=
  (sSeq (sIf (cCmp pyEq (cD (cCall ct 1 (cACons (cVE 0) (cACons (cK (.int 12)) cANil)))) (cD (cK (.int 0))))
    (sRet (cK .none))
    sPass)
  (sRet (cCall ct 4 (cACons (cCall ct 1 (cACons (cVE 0) (cACons (cK (.int 7)) cANil))) (cACons (c2 pyAdd (cD (cK (.int 1))) (cD (cCall ct 1 (cACons (cVE 0) (cACons (cK (.int 2)) cANil))))) cANil)))))
def b_law_frame (ct : CT) (w : Nat) : Ev Fl :=
  (sSeq (sAsg 2 (cLst cNil))
  (sSeq (sFor (iR1 (cD (c2 pyAdd (cVP 1) (cD (cK (.int 1)))))) (gNm 3)
    (sSeq (sApp 2 (cD (cTup (cCons (cD (cTup (cCons (cD (c2 pyMul (cD (cK (.int 2))) (cVP 3))) (cCons (cD (cK (.int 1))) cNil)))) (cCons (cD (cTup (cCons (cD (cK (.int 0))) (cCons (cD (cK (.int 1))) cNil)))) cNil)))))
    (sApp 2 (cD (cTup (cCons (cD (cTup (cCons (cD (c2 pyAdd (cD (c2 pyMul (cD (cK (.int 2))) (cVP 3))) (cD (cCall ct 1 (cACons (cVE 0) (cACons (cK (.int 2)) cANil)))))) (cCons (cD (cK (.int 1))) cNil)))) (cCons (cD (cTup (cCons (cD (c2 pyAdd (cD (cK (.int 2))) (cD (cCall ct 1 (cACons (cVE 0) (cACons (cK (.int 2)) cANil)))))) (cCons (cD (cK (.int 1))) cNil)))) cNil)))))))
  (sSeq (sAsg 4 (cLst cNil))
  (sSeq (sFor (iR1 (cVP 1)) (gNm 3)
    (sSeq (sAsg 5 (c2 pyMul (cD (cK (.int 2))) (cVP 3)))
    (sSeq (sAsg 4 (c2 pyAdd (cVP 4) (cD (cLst (cCons (cD (cTup (cCons (cD (cVE 5)) (cCons (cD (c2 pyAdd (cVP 5) (cD (cK (.int 1))))) cNil)))) (cCons (cD (cTup (cCons (cD (cVE 5)) (cCons (cD (c2 pyAdd (cVP 5) (cD (cK (.int 2))))) cNil)))) (cCons (cD (cTup (cCons (cD (c2 pyAdd (cVP 5) (cD (cK (.int 1))))) (cCons (cD (c2 pyAdd (cVP 5) (cD (cK (.int 3))))) cNil)))) cNil)))))))
    (sSeq (sApp 4 (cD (c2 pyIx (cD (cLst (cCons (cD (cTup (cCons (cD (cVE 5)) (cCons (cD (c2 pyAdd (cVP 5) (cD (cK (.int 3))))) cNil)))) (cCons (cD (cTup (cCons (cD (c2 pyAdd (cVP 5) (cD (cK (.int 1))))) (cCons (cD (c2 pyAdd (cVP 5) (cD (cK (.int 2))))) cNil)))) cNil)))) (cD (cCall ct 1 (cACons (cVE 0) (cACons (cK (.int 2)) cANil)))))))
    (sIf (cCmp pyEq (cD (cCall ct 1 (cACons (cVE 0) (cACons (cK (.int 4)) cANil)))) (cD (cK (.int 0))))
      (sSeq (sAsg 6 (cLst (cCons (cD (cTup (cCons (cD (cVE 5)) (cCons (cD (c2 pyAdd (cVP 5) (cD (cK (.int 3))))) cNil)))) (cCons (cD (cTup (cCons (cD (c2 pyAdd (cVP 5) (cD (cK (.int 1))))) (cCons (cD (c2 pyAdd (cVP 5) (cD (cK (.int 2))))) cNil)))) cNil))))
      (sAsg 4 (c2 pyAdd (cVP 4) (cD (cLc (iSeq (cD (cVE 6))) [12] (gNm 12) (cCmp pyNotIn (cVP 12) (cVP 4)) (cD (cVE 12)))))))
      sPass)))))
  (sSeq (sApp 4 (cD (cTup (cCons (cD (c2 pyMul (cD (cK (.int 2))) (cVP 1))) (cCons (cD (c2 pyAdd (cD (c2 pyMul (cD (cK (.int 2))) (cVP 1))) (cD (cK (.int 1))))) cNil)))))
  (sSeq (sIf (cCmp pyEq (cD (cCall ct 1 (cACons (cVE 0) (cACons (cK (.int 6)) cANil)))) (cD (cK (.int 0))))
    (sSeq (sAsg 7 (cCall ct 1 (cACons (cVE 0) (cACons (c1 pyLen (cVP 4)) cANil))))
    (sAsg 4 (c2 pyAdd (cD (cSlice (cVP 4) cNoB (cBd (cVP 7)))) (cD (cSlice (cVP 4) (cBd (cD (c2 pyAdd (cVP 7) (cD (cK (.int 1)))))) cNoB)))))
    sPass)
  (sSeq (sAsg 8 (c1 pyTuple (cD (cLc (iR1 (cD (c1 pyLen (cVP 4)))) [3] (gNm 3) cYes (cD (cTup (cCons (cD (c2 pyAdd (cD (cK (.str "b"))) (cD (c1 pyStr (cVP 3))))) (cCons (cD (c2 pyIx (cD (cVIx 4 (cVP 3))) (cD (cK (.int 0))))) (cCons (cD (c2 pyIx (cD (cVIx 4 (cVP 3))) (cD (cK (.int 1))))) (cCons (cD (cCall ct 57 (cACons (cVE 0) cANil))) (cCons (cD (cCall ct 57 (cACons (cVE 0) cANil))) (cCons (cD (cTup (cCons (cD (cCall ct 1 (cACons (cVE 0) (cACons (cK (.int 3)) cANil)))) (cCons (cD (cK (.int 1))) cNil)))) cNil))))))))))))
  (sSeq (sAsg 9 (c2 pyIx (cD (cLst (cCons (cD (cK (.str "both"))) (cCons (cD (cK (.str "push"))) cNil)))) (cD (c1 pyInt (cD (cB (cCmp pyEq (cD (cCall ct 1 (cACons (cVE 0) (cACons (cK (.int 3)) cANil)))) (cD (cK (.int 0))))))))))
  (sSeq (sAsg 10 (cTup (cCons (cD (cTup (cCons (cD (cK (.int 0))) (cCons (cD (cTup (cCons (cD (cTup (cCons (cD (cK (.int 1))) (cCons (cD (cK (.int 1))) cNil)))) (cCons (cD (cTup (cCons (cD (cK (.int 0))) (cCons (cD (cK (.int 1))) cNil)))) cNil)))) (cCons (cD (cK (.str "both"))) cNil))))) (cCons (cD (cTup (cCons (cD (cK (.int 0))) (cCons (cD (cTup (cCons (cD (cTup (cCons (cD (cK (.int 0))) (cCons (cD (cK (.int 1))) cNil)))) (cCons (cD (cTup (cCons (cD (cK (.int 1))) (cCons (cD (cK (.int 1))) cNil)))) cNil)))) (cCons (cD (cK (.str "both"))) cNil))))) (cCons (cD (cTup (cCons (cD (c2 pyMul (cD (cK (.int 2))) (cVP 1))) (cCons (cD (cTup (cCons (cD (cTup (cCons (cD (cK (.int 0))) (cCons (cD (cK (.int 1))) cNil)))) (cCons (cD (cTup (cCons (cD (cK (.int 1))) (cCons (cD (cK (.int 1))) cNil)))) cNil)))) (cCons (cD (cVE 9)) cNil))))) cNil)))))
  (sSeq (sAsg 11 (c1 pyTuple (cD (cLc (iR1 (cD (c1 pyLen (cVP 2)))) [3] (gNm 3) cYes (cD (cTup (cCons (cD (c2 pyAdd (cD (cK (.str "j"))) (cD (c1 pyStr (cVP 3))))) (cCons (cD (cVIx 2 (cVP 3))) cNil))))))))
  (sRet (cTup (cCons (cD (cK (.str "p"))) (cCons (cD (cVE 11)) (cCons (cD (cVE 10)) (cCons (cD (cVE 8)) cNil))))))))))))))))
def b_law_loads (ct : CT) (w : Nat) : Ev Fl :=
  (sSeq (sAsg 2 (cLst cNil))
  (sSeq (sFor (iSeq (cD (cVIx 1 (cD (cK (.int 1)))))) (gNm 3)
    (sApp 2 (cD (cIte (cCmp pyEq (cD (cCall ct 1 (cACons (cVE 0) (cACons (cK (.int 2)) cANil)))) (cD (cK (.int 0)))) (cTup (cCons (cD (cTup (cCons (cD (c2 pySub (cD (cCall ct 1 (cACons (cVE 0) (cACons (cK (.int 3)) cANil)))) (cD (cK (.int 1))))) (cCons (cD (cK (.int 1))) cNil)))) (cCons (cD (cTup (cCons (cD (c1 pyNeg (cD (cCall ct 1 (cACons (cVE 0) (cACons (cK (.int 4)) cANil)))))) (cCons (cD (cK (.int 1))) cNil)))) cNil))) (cTup (cCons (cD (cTup (cCons (cD (cK (.int 0))) (cCons (cD (cK (.int 1))) cNil)))) (cCons (cD (cTup (cCons (cD (cK (.int 0))) (cCons (cD (cK (.int 1))) cNil)))) cNil)))))))
  (sRet (c1 pyTuple (cVP 2)))))
end
end FD
namespace FD
noncomputable section
open PySem
/-- the defs that many laws share, at fixed places (see lib.json) -/
def libT : List Fn := [⟨1, 6, b_law_deal⟩, ⟨2, 5, b_law_take⟩, ⟨2, 3, b_law_same⟩, ⟨2, 2, b_law_bool⟩, ⟨2, 5, b_law_ratio⟩, ⟨2, 2, b_law_plus⟩, ⟨2, 2, b_law_minus⟩, ⟨2, 2, b_law_mult⟩, ⟨2, 4, b_law_dot⟩, ⟨2, 2, b_law_less⟩, ⟨1, 1, b_law_size⟩,
  ⟨2, 2, b_greatest_divisor⟩, ⟨2, 3, b_ratio⟩, ⟨2, 2, b_added⟩, ⟨1, 1, b_opposite⟩, ⟨2, 2, b_less⟩, ⟨2, 2, b_times⟩, ⟨2, 3, b_compare⟩, ⟨2, 2, b_over⟩, ⟨2, 3, b_scaled⟩, ⟨1, 1, b_noughts⟩, ⟨2, 8, b_dot⟩, ⟨2, 4, b_plus⟩, ⟨2, 4, b_minus⟩, ⟨2, 4, b_is_row⟩,
  ⟨1, 3, b_places_of⟩, ⟨2, 5, b_span⟩, ⟨2, 4, b_loads_plus⟩, ⟨2, 5, b_work_of⟩, ⟨2, 3, b_are_loads⟩, ⟨1, 3, b_flat⟩, ⟨1, 2, b_paired⟩, ⟨2, 4, b_bar_row⟩, ⟨2, 3, b_foot_row⟩, ⟨1, 4, b_force_rows⟩, ⟨2, 5, b_forces_of⟩, ⟨2, 2, b_is_state⟩, ⟨3, 3, b_carries⟩, ⟨2, 6, b_is_lawful⟩, ⟨3, 3, b_shows_state⟩, ⟨3, 3, b_stretch⟩, ⟨2, 3, b_stretches⟩, ⟨2, 3, b_slips⟩, ⟨2, 3, b_resistance⟩, ⟨2, 6, b_is_free⟩, ⟨2, 5, b_resistance_of⟩, ⟨3, 3, b_shows_fall⟩, ⟨2, 2, b_states_plus⟩, ⟨2, 2, b_states_times⟩, ⟨1, 3, b_used_bars⟩, ⟨2, 4, b_law_span⟩, ⟨2, 13, b_law_forces⟩, ⟨2, 6, b_law_lawful⟩, ⟨3, 5, b_law_stretch⟩, ⟨2, 10, b_law_resistance⟩, ⟨2, 4, b_law_work⟩, ⟨3, 4, b_law_falls⟩, ⟨1, 1, b_law_limit⟩, ⟨2, 13, b_law_frame⟩, ⟨2, 4, b_law_loads⟩]
/-- a table with the shared defs -/
structure HL (T : List Fn) : Prop where
  h : ∀ {i : Nat} {f : Fn}, libT[i]? = some f → T[i]? = some f
end
end FD
/-! FDQ3: the plain side: sums and products of ratios. -/
namespace FD
noncomputable section
open PySem
/-- it fits the law's own way of shortening -/
def Fit (r : Rat) : Prop := Sz 900 r
theorem nat_mul_lt {a b m n : Nat} (ha : a < 2 ^ m) (hb : b < 2 ^ n) : a * b < 2 ^ (m + n) := by
  rw [Nat.pow_add]
  exact Nat.mul_lt_mul'' ha hb
section
variable {w k : Nat} {T : List Fn} {g : G} {r s : Rat}
theorem Fit.nn (hr : Fit r) (hs : Fit s) : (r.num * s.num).natAbs < 2 ^ 1800 := by rw [Int.natAbs_mul]; exact nat_mul_lt hr.1 hs.1
theorem Fit.nd (hr : Fit r) (hs : Fit s) : (r.num * (s.den : Int)).natAbs < 2 ^ 1800 := by rw [Int.natAbs_mul, Int.natAbs_natCast]; exact nat_mul_lt hr.1 hs.2
theorem Fit.dd (hr : Fit r) (hs : Fit s) : r.den * s.den < 2 ^ 1800 := nat_mul_lt hr.2 hs.2
theorem mulF {i j : Int} (h : i.natAbs < 2 ^ 900) (h2 : j.natAbs < 2 ^ 900) : pyMul (.int i) (.int j) = some (.fz (.int (i * j))) := mulS h h2 (by decide) (by decide)
theorem Fit.dn (h : Fit r) : ((r.den : Int)).natAbs < 2 ^ 900 := by rw [Int.natAbs_natCast]; exact h.2
theorem two_pow_1801 : (2 : Nat) ^ 1801 = 2 ^ 1800 * 2 := Nat.pow_succ ..
theorem add_lt {a b : Int} (ha : a.natAbs < 2 ^ 1800) (hb : b.natAbs < 2 ^ 1800) : (a + b).natAbs < 2 ^ 1801 := by
  rw [two_pow_1801]
  generalize (2 : Nat) ^ 1800 = z at *
  omega
theorem sub_lt {a b : Int} (ha : a.natAbs < 2 ^ 1800) (hb : b.natAbs < 2 ^ 1800) : (a - b).natAbs < 2 ^ 1801 := by
  rw [two_pow_1801]
  generalize (2 : Nat) ^ 1800 = z at *
  omega
theorem lt_1801 {a : Nat} (ha : a < 2 ^ 1800) : a < 2 ^ 1801 := by
  rw [two_pow_1801]
  generalize (2 : Nat) ^ 1800 = z at *
  omega
theorem den_nz2 : r.den * s.den ≠ 0 := Nat.mul_ne_zero r.den_nz s.den_nz
theorem ratio_at (hL : HL T) (hw : 4000 ≤ w) {p : Int} {q : Nat} (hq : q ≠ 0) (h1 : p.natAbs < 2 ^ 1801) (h2 : q < 2 ^ 1801) : callN w T (k + 2) 12 [.fz (.int p), .fz (.int q)] g = .ok (.fz (qD (mkRat p q))) g := by
  rw [← Rat.divInt_ofNat]
  exact ratio_ok (n := 1801) (hL.h rfl) (hL.h rfl) hq h1 h2 (by decide) (by omega)
theorem law_ratio_at (hL : HL T) {p : Int} {q : Nat} (hq : q ≠ 0) (h1 : p.natAbs < 2 ^ 1801) (h2 : q < 2 ^ 1801) : callN w T (k + 1) 4 [.fz (.int p), .fz (.int q)] g = .ok (.fz (qD (mkRat p q))) g := by
  rw [← Rat.divInt_ofNat]
  exact law_ratio_pos (n := 1801) (hL.h rfl) hq h1 h2 (by decide)
theorem added_ok (hL : HL T) (hw : 4000 ≤ w) (hr : Fit r) (hs : Fit s) : callN w T (k + 3) 13 [.fz (qD r), .fz (qD s)] g = .ok (.fz (qD (r + s))) g := by
  have e := ratio_at (k := k) (g := g) hL hw (den_nz2 (r := r) (s := s)) (add_lt (hr.nd hs) (hs.nd hr)) (lt_1801 (hr.dd hs))
  rw [← Rat.add_def'] at e
  rw [callN_at (hL.h (i := 13) rfl)]
  have m1 := mulF hr.1 hs.dn
  have m2 := mulF hs.1 hr.dn
  have m3 := mulF hr.dn hs.dn
  have c : ((r.den : Int) * (s.den : Int)) = ((r.den * s.den : Nat) : Int) := by simp
  rw [c] at m3
  simp only [Int.natCast_mul] at m3 e
  simp [semF, runF, b_added, qix0, qix1, m1, m2, m3, e]
theorem opposite_ok (hL : HL T) : callN w T (k + 1) 14 [.fz (qD r)] g = .ok (.fz (qD (-r))) g := by
  rw [callN_at (hL.h (i := 14) rfl)]
  have e : qD (-r) = .tuple [.int (-r.num), .int r.den] := by rw [qD, Rat.neg_num, Rat.neg_den]
  rw [e]
  simp [semF, runF, b_opposite, qix0, qix1]
theorem Fit.neg (h : Fit r) : Fit (-r) := ⟨by rw [Rat.neg_num, Int.natAbs_neg]; exact h.1, by rw [Rat.neg_den]; exact h.2⟩
theorem less_ok (hL : HL T) (hw : 4000 ≤ w) (hr : Fit r) (hs : Fit s) : callN w T (k + 4) 15 [.fz (qD r), .fz (qD s)] g = .ok (.fz (qD (r - s))) g := by
  rw [callN_at (hL.h (i := 15) rfl)]
  have e := added_ok (k := k) (g := g) hL hw hr hs.neg
  have e2 := opposite_ok (w := w) (k := k + 2) (g := g) (r := s) hL
  rw [← Rat.sub_eq_add_neg] at e
  simp [semF, runF, b_less, e, e2]
theorem times_ok (hL : HL T) (hw : 4000 ≤ w) (hr : Fit r) (hs : Fit s) : callN w T (k + 3) 16 [.fz (qD r), .fz (qD s)] g = .ok (.fz (qD (r * s))) g := by
  have e := ratio_at (k := k) (g := g) hL hw (den_nz2 (r := r) (s := s)) (lt_1801 (hr.nn hs)) (lt_1801 (hr.dd hs))
  rw [← Rat.mul_def'] at e
  rw [callN_at (hL.h (i := 16) rfl)]
  have m1 := mulF hr.1 hs.1
  have m3 := mulF hr.dn hs.dn
  simp only [Int.natCast_mul] at e
  simp [semF, runF, b_times, qix0, qix1, m1, m3, e]
theorem law_plus_ok (hL : HL T) (hr : Fit r) (hs : Fit s) : callN w T (k + 2) 5 [.fz (qD r), .fz (qD s)] g = .ok (.fz (qD (r + s))) g := by
  have e := law_ratio_at (w := w) (k := k) (g := g) hL (den_nz2 (r := r) (s := s)) (add_lt (hr.nd hs) (hs.nd hr)) (lt_1801 (hr.dd hs))
  rw [← Rat.add_def'] at e
  rw [callN_at (hL.h (i := 5) rfl)]
  have m1 := mulF hr.1 hs.dn
  have m2 := mulF hs.1 hr.dn
  have m3 := mulF hr.dn hs.dn
  simp only [Int.natCast_mul] at e
  simp [semF, runF, b_law_plus, qix0, qix1, m1, m2, m3, e]
theorem law_minus_ok (hL : HL T) (hr : Fit r) (hs : Fit s) : callN w T (k + 2) 6 [.fz (qD r), .fz (qD s)] g = .ok (.fz (qD (r - s))) g := by
  have e := law_ratio_at (w := w) (k := k) (g := g) hL (den_nz2 (r := r) (s := s)) (sub_lt (hr.nd hs) (hs.nd hr)) (lt_1801 (hr.dd hs))
  rw [← Rat.sub_def'] at e
  rw [callN_at (hL.h (i := 6) rfl)]
  have m1 := mulF hr.1 hs.dn
  have m2 := mulF hs.1 hr.dn
  have m3 := mulF hr.dn hs.dn
  simp only [Int.natCast_mul] at e
  simp [semF, runF, b_law_minus, qix0, qix1, m1, m2, m3, e]
theorem law_mult_ok (hL : HL T) (hr : Fit r) (hs : Fit s) : callN w T (k + 2) 7 [.fz (qD r), .fz (qD s)] g = .ok (.fz (qD (r * s))) g := by
  have e := law_ratio_at (w := w) (k := k) (g := g) hL (den_nz2 (r := r) (s := s)) (lt_1801 (hr.nn hs)) (lt_1801 (hr.dd hs))
  rw [← Rat.mul_def'] at e
  rw [callN_at (hL.h (i := 7) rfl)]
  have m1 := mulF hr.1 hs.1
  have m3 := mulF hr.dn hs.dn
  simp only [Int.natCast_mul] at e
  simp [semF, runF, b_law_mult, qix0, qix1, m1, m3, e]
theorem law_less_ok (hL : HL T) (hr : Fit r) (hs : Fit s) : callN w T (k + 1) 9 [.fz (qD r), .fz (qD s)] g = .ok (.fz (.bool (decide (r < s)))) g := by
  rw [callN_at (hL.h (i := 9) rfl)]
  have m1 := mulF hr.1 hs.dn
  have m2 := mulF hs.1 hr.dn
  simp [semF, runF, b_law_less, qix0, qix1, m1, m2, Rat.lt_iff]
theorem compare_ok (hL : HL T) (hr : Fit r) (hs : Fit s) : callN w T (k + 1) 17 [.fz (qD r), .fz (qD s)] g = .ok (.fz (.int (if r < s then -1 else if s < r then 1 else 0))) g := by
  rw [callN_at (hL.h (i := 17) rfl)]
  have m1 := mulF hr.1 hs.dn
  have m2 := mulF hs.1 hr.dn
  have c1 : r < s ↔ r.num * s.den - s.num * r.den < 0 := by rw [Rat.lt_iff]; omega
  have c2 : s < r ↔ 0 < r.num * s.den - s.num * r.den := by rw [Rat.lt_iff]; omega
  by_cases q1 : r.num * s.den - s.num * r.den < 0
  · rw [if_pos (c1.mpr q1)]
    simp [semF, runF, b_compare, qix0, qix1, m1, m2, q1]
  · rw [if_neg (fun z => q1 (c1.mp z))]
    by_cases q2 : 0 < r.num * s.den - s.num * r.den
    · rw [if_pos (c2.mpr q2)]
      have q3 : s.num * r.den < r.num * s.den := by omega
      simp [semF, runF, b_compare, qix0, qix1, m1, m2, q1, q3]
    · rw [if_neg (fun z => q2 (c2.mp z))]
      have q3 : ¬ s.num * r.den < r.num * s.den := by omega
      simp [semF, runF, b_compare, qix0, qix1, m1, m2, q1, q3]
end
end
end FD
/-! FDQ4: how large a ratio gets: |r| ≤ A, r * d is whole. -/
namespace FD
noncomputable section
open PySem
structure Bd (A d : Nat) (r : Rat) : Prop where
  wh : ∃ n : Int, r * (d : Rat) = (n : Rat)
  lo : -(A : Rat) ≤ r
  hi : r ≤ (A : Rat)
section
variable {A B d e : Nat} {r s : Rat}
theorem Bd.add (h : Bd A d r) (h2 : Bd B d s) : Bd (A + B) d (r + s) := by
  obtain ⟨n, hn⟩ := h.wh
  obtain ⟨m, hm⟩ := h2.wh
  refine ⟨⟨n + m, ?_⟩, ?_, ?_⟩
  · rw [Rat.intCast_add, ← hn, ← hm]; grind
  · have := h.lo; have := h2.lo; rw [Rat.natCast_add]; grind
  · have := h.hi; have := h2.hi; rw [Rat.natCast_add]; grind
theorem Bd.neg (h : Bd A d r) : Bd A d (-r) := by
  obtain ⟨n, hn⟩ := h.wh
  refine ⟨⟨-n, ?_⟩, ?_, ?_⟩
  · rw [Rat.intCast_neg, ← hn]; grind
  · have := h.hi; grind
  · have := h.lo; grind
theorem Bd.sub (h : Bd A d r) (h2 : Bd B d s) : Bd (A + B) d (r - s) := by
  rw [Rat.sub_eq_add_neg]
  exact h.add h2.neg
theorem Bd.mul (h : Bd A d r) (h2 : Bd B e s) : Bd (A * B) (d * e) (r * s) := by
  obtain ⟨n, hn⟩ := h.wh
  obtain ⟨m, hm⟩ := h2.wh
  have a1 := h.lo
  have a2 := h.hi
  have b1 := h2.lo
  have b2 := h2.hi
  have p1 : 0 ≤ ((A : Rat) - r) * ((B : Rat) + s) := Rat.mul_nonneg (by grind) (by grind)
  have p2 : 0 ≤ ((A : Rat) + r) * ((B : Rat) - s) := Rat.mul_nonneg (by grind) (by grind)
  have p3 : 0 ≤ ((A : Rat) - r) * ((B : Rat) - s) := Rat.mul_nonneg (by grind) (by grind)
  have p4 : 0 ≤ ((A : Rat) + r) * ((B : Rat) + s) := Rat.mul_nonneg (by grind) (by grind)
  refine ⟨⟨n * m, ?_⟩, ?_, ?_⟩
  · rw [Rat.intCast_mul, ← hn, ← hm, Rat.natCast_mul]; grind
  · rw [Rat.natCast_mul]; grind
  · rw [Rat.natCast_mul]; grind
theorem Bd.mono (h : Bd A d r) (ha : A ≤ B) (hd : d ∣ e) : Bd B e r := by
  obtain ⟨n, hn⟩ := h.wh
  obtain ⟨c, rfl⟩ := hd
  have ab : (A : Rat) ≤ (B : Rat) := Rat.natCast_le_natCast.mpr ha
  refine ⟨⟨n * c, ?_⟩, ?_, ?_⟩
  · rw [Rat.intCast_mul, ← hn, Rat.natCast_mul]
    have : ((c : Int) : Rat) = (c : Rat) := rfl
    grind
  · have := h.lo; grind
  · have := h.hi; grind
theorem Bd.int (n : Int) : Bd n.natAbs 1 (n : Rat) := by
  refine ⟨⟨n, by grind⟩, ?_, ?_⟩
  · have h := Rat.intCast_le_intCast.mpr (show -(n.natAbs : Int) ≤ n by omega)
    exact h
  · have h := Rat.intCast_le_intCast.mpr (show n ≤ (n.natAbs : Int) by omega)
    exact h
theorem mul_den (r : Rat) : r * (r.den : Rat) = ((r.num : Int) : Rat) := by
  have e : ((r.num : Int) : Rat) / ((r.den : Int) : Rat) = r := by rw [← Rat.divInt_eq_div, Rat.num_divInt_den]
  have nz : (r.den : Rat) ≠ 0 := fun z => r.den_nz (Rat.natCast_eq_zero_iff.mp z)
  have q : ((r.num : Int) : Rat) / (r.den : Rat) * (r.den : Rat) = ((r.num : Int) : Rat) := Rat.div_mul_cancel nz
  rw [Rat.intCast_natCast] at e
  rw [e] at q
  exact q
theorem Bd.nums (h : Bd A d r) (hd : 0 < d) : r.den ≤ d ∧ r.num.natAbs ≤ A * r.den := by
  obtain ⟨m, hm⟩ := h.wh
  have e0 : r * (r.den : Rat) = ((r.num : Int) : Rat) := mul_den r
  have dp : (0 : Rat) ≤ (r.den : Rat) := Rat.natCast_nonneg
  have e1 : r.num * (d : Int) = m * (r.den : Int) := by
    refine Rat.intCast_inj.mp ?_
    rw [Rat.intCast_mul, Rat.intCast_mul, ← hm, ← e0]
    show r * (r.den : Rat) * (d : Rat) = r * (d : Rat) * (r.den : Rat)
    grind
  have dv : r.den ∣ d := by
    have q : (r.den : Int) ∣ r.num * (d : Int) := ⟨m, by rw [e1, Int.mul_comm]⟩
    have q2 : r.den ∣ r.num.natAbs * d := by
      have := Int.natAbs_dvd_natAbs.mpr q
      rw [Int.natAbs_mul, Int.natAbs_natCast, Int.natAbs_natCast] at this
      exact this
    exact (Nat.Coprime.symm r.reduced).dvd_of_dvd_mul_left q2
  have dl := Nat.le_of_dvd hd dv
  have nl : r.num.natAbs ≤ A * r.den := by
    have l1 : r.num ≤ (A : Int) * r.den := by
      refine Rat.intCast_le_intCast.mp ?_
      rw [← e0, Rat.intCast_mul]
      exact Rat.mul_le_mul_of_nonneg_right h.hi dp
    have l2 : -((A : Int) * r.den) ≤ r.num := by
      refine Rat.intCast_le_intCast.mp ?_
      rw [← e0, Rat.intCast_neg, Rat.intCast_mul]
      have := Rat.mul_le_mul_of_nonneg_right h.lo dp
      have e : -(A : Rat) * (r.den : Rat) = -((A : Rat) * (r.den : Rat)) := by grind
      rw [e] at this
      exact this
    have c : ((A * r.den : Nat) : Int) = (A : Int) * r.den := by simp
    omega
  exact ⟨dl, nl⟩
theorem Bd.sz (h : Bd A d r) (hd : 0 < d) {n : Nat} (h1 : A * d < 2 ^ n) (h2 : d < 2 ^ n) : Sz n r := by
  obtain ⟨dl, nl⟩ := h.nums hd
  exact ⟨Nat.lt_of_le_of_lt nl (Nat.lt_of_le_of_lt (Nat.mul_le_mul_left A dl) h1), Nat.lt_of_le_of_lt dl h2⟩
end
end
end FD
/-! FDQ5: the plain side: rows of ratios. -/
namespace FD
noncomputable section
open PySem
def dotR : List Rat → List Rat → Rat
  | x :: xs, y :: ys => x * y + dotR xs ys
  | _, _ => 0
def rowD (xs : List Rat) : D := .tuple (xs.map qD)
/-- a row of ratios, as a tuple or as a list -/
def Row (a : D) (xs : List Rat) : Prop := a = .tuple (xs.map qD) ∨ a = .list (xs.map qD)
theorem Row.len {a : D} {xs : List Rat} (h : Row a xs) : pyLen a = some (.fz (.int xs.length)) := by
  rcases h with rfl | rfl <;> simp
theorem Row.ix {a : D} {xs : List Rat} (h : Row a xs) {j : Nat} {x : Rat} (e : xs[j]? = some x) : pyIx a (.int j) = some (.fz (qD x)) := by
  have e2 : (xs.map qD)[j]? = some (qD x) := by rw [List.getElem?_map, e]; rfl
  rcases h with rfl | rfl
  · exact ixU rfl e2
  · exact ixL rfl e2
theorem row_rowD (xs : List Rat) : Row (rowD xs) xs := .inl rfl
/-- n is small enough to be shortened -/
def Sml (A d : Nat) : Prop := 0 < d ∧ A * d < 2 ^ 900 ∧ d < 2 ^ 900
theorem Bd.fit {A d : Nat} {r : Rat} (h : Bd A d r) (hs : Sml A d) : Fit r := h.sz hs.1 hs.2.1 hs.2.2
theorem Sml.mono {A B d e : Nat} (h : Sml B e) (ha : A ≤ B) (hd : d ≤ e) (h0 : 0 < d) : Sml A d := ⟨h0, Nat.lt_of_le_of_lt (Nat.mul_le_mul ha hd) h.2.1, Nat.lt_of_le_of_lt hd h.2.2⟩
theorem Bd.zero (A d : Nat) : Bd A d 0 := by
  refine ⟨⟨0, by grind⟩, ?_, ?_⟩
  · have := Rat.natCast_nonneg (a := A); grind
  · exact Rat.natCast_nonneg
section
variable {w k : Nat} {T : List Fn} {g : G}
theorem dotR_bd {A B d e : Nat} : ∀ (xs ys : List Rat), (∀ x ∈ xs, Bd A d x) → (∀ y ∈ ys, Bd B e y) → Bd (xs.length * (A * B)) (d * e) (dotR xs ys)
  | [], _, _, _ => Bd.zero _ _
  | x :: xs, [], _, _ => Bd.zero _ _
  | x :: xs, y :: ys, h1, h2 => by
    have ih := dotR_bd xs ys (fun x hx => h1 x (List.mem_cons_of_mem _ hx)) (fun y hy => h2 y (List.mem_cons_of_mem _ hy))
    have m := (h1 x List.mem_cons_self).mul (h2 y List.mem_cons_self)
    have := m.add ih
    rw [List.length_cons, Nat.succ_mul, Nat.add_comm]
    exact this
theorem law_dot_loop (hL : HL T) {a b : D} {xs ys : List Rat} (ha : Row a xs) (hb : Row b ys) {A B d e : Nat} (h1 : ∀ x ∈ xs, Bd A d x) (h2 : ∀ y ∈ ys, Bd B e y) (hl : xs.length ≤ ys.length) (hs : Sml ((xs.length + 1) * (A * B)) (d * e))
    (sx : ∀ x ∈ xs, Fit x) (sy : ∀ y ∈ ys, Fit y) :
    ∀ (n i : Nat) (t : Rat), i + n = xs.length → Bd (i * (A * B)) (d * e) t → forL (gNm 3)
    (sAsg 2 (cCall (callN w T (k + 2)) 5 (cACons (cVE 2) (cACons (cCall (callN w T (k + 2)) 7 (cACons (cVIx 0 (cVP 3)) (cACons (cVIx 1 (cVP 3)) cANil))) cANil)))) ((List.range' i n).map fun (j : Nat) => PyData.int j)
      [some (.fz a), some (.fz b), some (.fz (qD t)), none] g = .ok .nx [some (.fz a), some (.fz b), some (.fz (qD (t + dotR (xs.drop i) (ys.drop i)))), none] g := by
  intro n
  induction n with
  | zero =>
    intro i t hi ht
    have e1 : xs.drop i = [] := List.drop_of_length_le (by omega)
    rw [e1]
    show Out.ok _ _ _ = _
    rw [show dotR [] (ys.drop i) = 0 from by unfold dotR; rfl, Rat.add_zero]
  | succ n ih =>
    intro i t hi ht
    have l1 : i < xs.length := by omega
    have l2 : i < ys.length := by omega
    have x1 := ha.ix (List.getElem?_eq_getElem l1)
    have y1 := hb.ix (List.getElem?_eq_getElem l2)
    have mx := List.getElem_mem l1
    have my := List.getElem_mem l2
    have bm := (h1 _ mx).mul (h2 _ my)
    have fm : Fit (xs[i] * ys[i]) := bm.fit (hs.mono (by rw [Nat.succ_mul]; exact Nat.le_add_left _ _) (Nat.le_refl _) hs.1)
    have ft : Fit t := ht.fit (hs.mono (Nat.mul_le_mul_right _ (by omega)) (Nat.le_refl _) hs.1)
    have e1 := law_mult_ok (w := w) (k := k) (g := g) hL (sx _ mx) (sy _ my)
    have e2 := law_plus_ok (w := w) (k := k) (g := g) hL ft fm
    have bt : Bd ((i + 1) * (A * B)) (d * e) (t + xs[i] * ys[i]) := by
      have := ht.add bm
      rw [← Nat.succ_mul] at this
      exact this
    have r := ih (i + 1) _ (by omega) bt
    have dr : t + dotR (xs.drop i) (ys.drop i) = t + xs[i] * ys[i] + dotR (xs.drop (i + 1)) (ys.drop (i + 1)) := by
      rw [List.drop_eq_getElem_cons l1, List.drop_eq_getElem_cons l2]
      show t + (xs[i] * ys[i] + dotR (xs.drop (i + 1)) (ys.drop (i + 1))) = _
      grind
    rw [dr, ← r, List.range'_succ]
    simp [forL, x1, y1, e1, e2]
theorem law_dot_ok (hL : HL T) {a b : D} {xs ys : List Rat} (ha : Row a xs) (hb : Row b ys) {A B d e : Nat} (h1 : ∀ x ∈ xs, Bd A d x) (h2 : ∀ y ∈ ys, Bd B e y) (hl : xs.length ≤ ys.length) (hx : xs.length < 1000) (hs : Sml ((xs.length + 1) * (A * B)) (d * e))
    (s1 : Sml A d) (s2 : Sml B e) : callN w T (k + 3) 8 [.fz a, .fz b] g = .ok (.fz (qD (dotR xs ys))) g := by
  have lp := law_dot_loop (w := w) (k := k) (g := g) hL ha hb h1 h2 hl hs (fun x hx => (h1 x hx).fit s1) (fun y hy => (h2 y hy).fit s2) xs.length 0 0 (by omega) (Bd.zero _ _)
  rw [callN_at (hL.h (i := 8) rfl)]
  have q0 : PyData.tuple [.int 0, .int 1] = qD 0 := rfl
  have rg : rngD 0 xs.length = (List.range' 0 xs.length).map fun (j : Nat) => PyData.int j := by
    unfold rngD
    rw [List.range_eq_range']
    simp
  rw [← rg] at lp
  have r := rng1N (n := xs.length) (by omega)
  have z : (0 : Rat) + dotR xs ys = dotR xs ys := by grind
  simp only [List.drop_zero, z] at lp
  simp [semF, runF, b_law_dot, q0, ha.len, r, lp]
end
end
end FD
/-! FDQ6: the plain side: the program's rows. -/
namespace FD
noncomputable section
open PySem
theorem zipD_map {α β : Type} (f : α → D) (h : β → D) : ∀ (xs : List α) (ys : List β), zipD (xs.map f) (ys.map h) = (xs.zip ys).map fun p => .tuple [f p.1, h p.2]
  | [], _ => by simp [zipD]
  | x :: xs, [] => by simp [zipD]
  | x :: xs, y :: ys => by simp [zipD, zipD_map f h xs ys]
theorem dotR_zip : ∀ (xs ys : List Rat), dotR xs ys = ((xs.zip ys).map fun p => p.1 * p.2).sum
  | [], _ => by unfold dotR; simp
  | x :: xs, [] => by unfold dotR; simp
  | x :: xs, y :: ys => by
    rw [dotR, dotR_zip xs ys]
    simp
section
variable {w k : Nat} {T : List Fn} {g : G}
/-- what dot has under way: p over q is the sum so far -/
structure Under (A d n : Nat) (p : Int) (q : Nat) (t : Rat) : Prop where
  q0 : q ≠ 0
  ql : q ≤ d ^ n
  e : (p : Rat) = t * (q : Rat)
  hi : p.natAbs ≤ n * A * q
theorem Under.start (A d : Nat) : Under A d 0 0 1 0 := ⟨by decide, by simp, by grind, by simp⟩
theorem Under.val {A d n : Nat} {p : Int} {q : Nat} {t : Rat} (h : Under A d n p q t) : mkRat p q = t := by
  rw [Rat.mkRat_eq_div, h.e]
  have nz : (q : Rat) ≠ 0 := fun z => h.q0 (Rat.natCast_eq_zero_iff.mp z)
  exact Rat.mul_div_cancel nz
theorem Under.step {A d n : Nat} {p : Int} {q : Nat} {t x y : Rat} (h : Under A d n p q t) (hd : 0 < d) (hx : x.den * y.den ≤ d) (hm : (x.num * y.num).natAbs ≤ A * (x.den * y.den)) :
    Under A d (n + 1) (p * (x.den * y.den : Nat) + x.num * y.num * q) (q * (x.den * y.den)) (t + x * y) := by
  have xe := mul_den x
  have ye := mul_den y
  refine ⟨Nat.mul_ne_zero h.q0 (Nat.mul_ne_zero x.den_nz y.den_nz), ?_, ?_, ?_⟩
  · rw [Nat.pow_succ]
    exact Nat.mul_le_mul h.ql hx
  · rw [Rat.intCast_add, Rat.intCast_mul, Rat.intCast_mul, Rat.intCast_mul, h.e, ← xe, ← ye, Rat.natCast_mul, Rat.natCast_mul]
    rw [Rat.intCast_natCast, Rat.intCast_natCast, Rat.natCast_mul]
    grind
  · have h3 := h.hi
    have e1 : (p * (x.den * y.den : Nat)).natAbs = p.natAbs * (x.den * y.den) := by rw [Int.natAbs_mul, Int.natAbs_natCast]
    have e2 : (x.num * y.num * (q : Int)).natAbs = (x.num * y.num).natAbs * q := by rw [Int.natAbs_mul, Int.natAbs_natCast]
    have t1 := Int.natAbs_add_le (p * (x.den * y.den : Nat)) (x.num * y.num * q)
    rw [e1, e2] at t1
    have m1 : p.natAbs * (x.den * y.den) ≤ n * A * q * (x.den * y.den) := Nat.mul_le_mul_right _ h3
    have m2 : (x.num * y.num).natAbs * q ≤ A * (x.den * y.den) * q := Nat.mul_le_mul_right _ hm
    have c : n * A * q * (x.den * y.den) + A * (x.den * y.den) * q = (n + 1) * A * (q * (x.den * y.den)) := by grind
    omega
theorem Under.skip {A d n : Nat} {p : Int} {q : Nat} {t x y : Rat} (h : Under A d n p q t) (hd : 0 < d) (hz : x.num * y.num = 0) : Under A d (n + 1) p q (t + x * y) := by
  have xy : x * y = 0 := by
    rcases Int.mul_eq_zero.mp hz with z | z
    · rw [Rat.num_eq_zero.mp z]; grind
    · rw [Rat.num_eq_zero.mp z]; grind
  refine ⟨h.q0, Nat.le_trans h.ql (Nat.pow_le_pow_right hd (Nat.le_succ n)), ?_, ?_⟩
  · rw [xy, h.e]; grind
  · refine Nat.le_trans h.hi ?_
    exact Nat.mul_le_mul_right _ (Nat.mul_le_mul_right _ (Nat.le_succ n))
theorem pow_mono {a b m n : Nat} (h : a ≤ b) : a ^ n ≤ b ^ n := Nat.pow_le_pow_left h n
theorem dot_loop {s0 s1 : SV} {A B d e : Nat} (hd : 0 < d) (he : 0 < e) (N : Nat) (hs : (N * (A * B) + 1) * (d * e) ^ N < 2 ^ 1800) : ∀ (ps : List (Rat × Rat)) (n : Nat) (p : Int) (q : Nat) (t : Rat), (∀ x ∈ ps, Bd A d x.1 ∧ Bd B e x.2 ∧ Fit x.1 ∧ Fit x.2) → n + ps.length ≤ N → Under (A * B) (d * e) n p q t →
    ∃ p2 q2, forL (gTp 2 (gC (gNm 4) (gC (gNm 5) gN)))
    (sSeq (sAsg 6 (c2 pyMul (cD (cVIx 4 (cD (cK (.int 0))))) (cD (cVIx 5 (cD (cK (.int 0)))))))
    (sIf (cCmp pyNe (cVP 6) (cD (cK (.int 0))))
      (sSeq (sAsg 7 (c2 pyMul (cD (cVIx 4 (cD (cK (.int 1))))) (cD (cVIx 5 (cD (cK (.int 1)))))))
      (sPar 2 3 (cD (c2 pyAdd (cD (c2 pyMul (cVP 2) (cVP 7))) (cD (c2 pyMul (cVP 6) (cVP 3))))) (cD (c2 pyMul (cVP 3) (cVP 7)))))
      sPass)) (ps.map fun x => .tuple [qD x.1, qD x.2]) [some s0, some s1, some (.fz (.int p)), some (.fz (.int q)), none, none, none, none] g
      = .ok .nx [some s0, some s1, some (.fz (.int p2)), some (.fz (.int (q2 : Nat))), none, none, none, none] g ∧ Under (A * B) (d * e) (n + ps.length) p2 q2 (t + (ps.map fun x => x.1 * x.2).sum)
  | [], n, p, q, t, _, _, h => ⟨p, q, rfl, by simpa [Rat.add_zero] using h⟩
  | x :: r, n, p, q, t, hx, hn, h => by
    obtain ⟨b1, b2, f1, f2⟩ := hx x List.mem_cons_self
    rw [List.length_cons] at hn
    obtain ⟨n1, n2⟩ := b1.nums hd
    obtain ⟨m1, m2⟩ := b2.nums he
    have dd : x.1.den * x.2.den ≤ d * e := Nat.mul_le_mul n1 m1
    have nn : (x.1.num * x.2.num).natAbs ≤ (A * B) * (x.1.den * x.2.den) := by
      rw [Int.natAbs_mul]
      have := Nat.mul_le_mul n2 m2
      have c : A * x.1.den * (B * x.2.den) = A * B * (x.1.den * x.2.den) := by grind
      omega
    have de : 0 < d * e := Nat.mul_pos hd he
    have ql : q < 2 ^ 1800 := by
      have : q ≤ (d * e) ^ N := Nat.le_trans h.ql (Nat.pow_le_pow_right de (by omega))
      have : (d * e) ^ N ≤ (N * (A * B) + 1) * (d * e) ^ N := Nat.le_mul_of_pos_left _ (Nat.succ_pos _)
      omega
    have pl : p.natAbs < 2 ^ 1800 := by
      have h1 := h.hi
      have h2 : n * (A * B) * q ≤ N * (A * B) * (d * e) ^ N := Nat.mul_le_mul (Nat.mul_le_mul_right _ (by omega)) (Nat.le_trans h.ql (Nat.pow_le_pow_right de (by omega)))
      have h3 : N * (A * B) * (d * e) ^ N ≤ (N * (A * B) + 1) * (d * e) ^ N := Nat.mul_le_mul_right _ (Nat.le_succ _)
      omega
    have a0 := mulF f1.1 f2.1
    have hcons : (t + (((x :: r).map fun x => x.1 * x.2).sum)) = (t + x.1 * x.2) + (r.map fun x => x.1 * x.2).sum := by
      rw [List.map_cons, List.sum_cons]; grind
    by_cases z : x.1.num * x.2.num = 0
    · obtain ⟨p2, q2, e1, e2⟩ := dot_loop (s0 := s0) (s1 := s1) hd he N hs r (n + 1) p q _ (fun y hy => hx y (List.mem_cons_of_mem _ hy)) (by omega) (h.skip (x := x.1) (y := x.2) de z)
      refine ⟨p2, q2, ?_, ?_⟩
      · rw [List.map_cons, ← e1]
        rw [z] at a0
        simp [forL, qix0, a0]
      · rw [hcons, List.length_cons, show n + (r.length + 1) = n + 1 + r.length by omega]
        exact e2
    · obtain ⟨p2, q2, e1, e2⟩ := dot_loop (s0 := s0) (s1 := s1) hd he N hs r (n + 1) _ _ _ (fun y hy => hx y (List.mem_cons_of_mem _ hy)) (by omega) (h.step (x := x.1) (y := x.2) de dd nn)
      refine ⟨p2, q2, ?_, ?_⟩
      · rw [List.map_cons, ← e1]
        have a1 := mulF f1.dn f2.dn
        have c : ((x.1.den : Int) * (x.2.den : Int)) = ((x.1.den * x.2.den : Nat) : Int) := by simp
        rw [c] at a1
        have l4 : (((x.1.den * x.2.den : Nat) : Int)).natAbs < 2 ^ 1800 := by rw [Int.natAbs_natCast]; exact f1.dd f2
        have a2 := mulS (i := p) (j := ((x.1.den * x.2.den : Nat) : Int)) pl l4 (by decide) (by decide)
        have a3 := mulS (i := x.1.num * x.2.num) (j := (q : Int)) (f1.nn f2) (by rw [Int.natAbs_natCast]; exact ql) (by decide) (by decide)
        have a4 := mulS (i := (q : Int)) (j := ((x.1.den * x.2.den : Nat) : Int)) (by rw [Int.natAbs_natCast]; exact ql) l4 (by decide) (by decide)
        have c2 : ((q : Int) * ((x.1.den * x.2.den : Nat) : Int)) = ((q * (x.1.den * x.2.den) : Nat) : Int) := by simp
        rw [c2] at a4
        generalize ((x.1.den * x.2.den : Nat) : Int) = D1 at *
        generalize ((q * (x.1.den * x.2.den) : Nat) : Int) = D2 at *
        simp [forL, qix0, qix1, a0, a1, a2, a3, a4, z]
      · rw [hcons, List.length_cons, show n + (r.length + 1) = n + 1 + r.length by omega]
        exact e2
theorem dot_ok (hL : HL T) (hw : 4000 ≤ w) {xs ys : List Rat} {A B d e : Nat} (h1 : ∀ x ∈ xs, Bd A d x) (h2 : ∀ y ∈ ys, Bd B e y) (s1 : Sml A d) (s2 : Sml B e) (hs : (xs.length * (A * B) + 1) * (d * e) ^ xs.length < 2 ^ 1800) :
    callN w T (k + 3) 21 [.fz (rowD xs), .fz (rowD ys)] g = .ok (.fz (qD (dotR xs ys))) g := by
  have zl : (xs.zip ys).length ≤ xs.length := by rw [List.length_zip]; exact Nat.min_le_left _ _
  obtain ⟨p2, q2, e1, e2⟩ := dot_loop (g := g) (s0 := .fz (rowD xs)) (s1 := .fz (rowD ys)) s1.1 s2.1 xs.length hs (xs.zip ys) 0 0 1 0 (fun x hx => by
    have m1 := (List.of_mem_zip hx).1
    have m2 := (List.of_mem_zip hx).2
    exact ⟨h1 _ m1, h2 _ m2, (h1 _ m1).fit s1, (h2 _ m2).fit s2⟩) (by omega) (Under.start _ _)
  rw [← dotR_zip, Nat.zero_add] at e2
  have z : (0 : Rat) + dotR xs ys = dotR xs ys := by grind
  rw [z] at e2
  have de : 0 < d * e := Nat.mul_pos s1.1 s2.1
  have ql : q2 < 2 ^ 1801 := by
    refine lt_1801 ?_
    have a : q2 ≤ (d * e) ^ xs.length := Nat.le_trans e2.ql (Nat.pow_le_pow_right de zl)
    have b : (d * e) ^ xs.length ≤ (xs.length * (A * B) + 1) * (d * e) ^ xs.length := Nat.le_mul_of_pos_left _ (Nat.succ_pos _)
    exact Nat.lt_of_le_of_lt (Nat.le_trans a b) hs
  have pl : p2.natAbs < 2 ^ 1801 := by
    refine lt_1801 ?_
    have a := e2.hi
    have b : (xs.zip ys).length * (A * B) * q2 ≤ xs.length * (A * B) * (d * e) ^ xs.length := Nat.mul_le_mul (Nat.mul_le_mul_right _ zl) (Nat.le_trans e2.ql (Nat.pow_le_pow_right de zl))
    have c : xs.length * (A * B) * (d * e) ^ xs.length ≤ (xs.length * (A * B) + 1) * (d * e) ^ xs.length := Nat.mul_le_mul_right _ (Nat.le_succ _)
    exact Nat.lt_of_le_of_lt (Nat.le_trans a (Nat.le_trans b c)) hs
  have rt := ratio_at (w := w) (k := k) (g := g) hL hw e2.q0 pl ql
  rw [e2.val] at rt
  rw [callN_at (hL.h (i := 21) rfl)]
  have zz : zipK (rowD xs) (rowD ys) = some ((xs.zip ys).map fun x => .tuple [qD x.1, qD x.2]) := by
    show some (zipD (xs.map qD) (ys.map qD)) = _
    rw [zipD_map]
  have c1 : ((1 : Nat) : Int) = 1 := rfl
  rw [c1] at e1
  simp [semF, runF, b_dot, zz, e1, rt]
end
end
end FD
/-! FDQ7: the plain side: comprehensions over rows. -/
namespace FD
noncomputable section
open PySem
theorem compL_map {tg : TgF} {f : Ev D} {vs : List Nat} {σ : Sl} {g : G} {F : D → D} : ∀ (xs : List D) (acc : List D), (∀ x ∈ xs, ∃ σ1 σ3, tg x σ g = .ok () σ1 g ∧ f σ1 g = .ok (F x) σ3 g ∧ wipeS σ3 vs = σ) → acc.length + xs.length ≤ 10000000 →
    compL tg cYes f vs xs acc σ g = .ok (acc ++ xs.map F) σ g
  | [], acc, _, _ => by simp [compL]
  | x :: r, acc, h, hl => by
    obtain ⟨σ1, σ3, e1, e2, e3⟩ := h x List.mem_cons_self
    rw [List.length_cons] at hl
    have ih := compL_map (tg := tg) (f := f) (vs := vs) (σ := σ) (g := g) (F := F) r (acc ++ [F x]) (fun y hy => h y (List.mem_cons_of_mem _ hy)) (by rw [List.length_append]; simp only [List.length_cons, List.length_nil]; omega)
    have l : acc.length < 16777216 := by omega
    simp [compL, e1, e2, e3, l, ih]
theorem compL_filter {tg : TgF} {t : Ev Bool} {f : Ev D} {vs : List Nat} {σ : Sl} {g : G} {P : D → Bool} {F : D → D} : ∀ (xs : List D) (acc : List D), (∀ x ∈ xs, ∃ σ1 σ2, tg x σ g = .ok () σ1 g ∧ t σ1 g = .ok (P x) σ2 g ∧ (P x = true → ∃ σ3, f σ2 g = .ok (F x) σ3 g ∧ wipeS σ3 vs = σ) ∧ (P x = false → wipeS σ2 vs = σ)) → acc.length + xs.length ≤ 10000000 →
    compL tg t f vs xs acc σ g = .ok (acc ++ (xs.filter P).map F) σ g
  | [], acc, _, _ => by simp [compL]
  | x :: r, acc, h, hl => by
    obtain ⟨σ1, σ2, e1, e2, e3, e4⟩ := h x List.mem_cons_self
    rw [List.length_cons] at hl
    cases q : P x with
    | true =>
      obtain ⟨σ3, e5, e6⟩ := e3 q
      have ih := compL_filter (tg := tg) (t := t) (f := f) (vs := vs) (σ := σ) (g := g) (P := P) (F := F) r (acc ++ [F x]) (fun y hy => h y (List.mem_cons_of_mem _ hy)) (by rw [List.length_append]; simp only [List.length_cons, List.length_nil]; omega)
      have l : acc.length < 16777216 := by omega
      rw [q] at e2
      simp [compL, e1, e2, e5, e6, l, ih, q]
    | false =>
      have ih := compL_filter (tg := tg) (t := t) (f := f) (vs := vs) (σ := σ) (g := g) (P := P) (F := F) r acc (fun y hy => h y (List.mem_cons_of_mem _ hy)) (by omega)
      rw [q] at e2
      simp [compL, e1, e2, e4 q, ih, q]
section
variable {w k : Nat} {T : List Fn} {g : G}
def addR (xs ys : List Rat) : List Rat := (xs.zip ys).map fun p => p.1 + p.2
def subR (xs ys : List Rat) : List Rat := (xs.zip ys).map fun p => p.1 - p.2
def mulR (t : Rat) (xs : List Rat) : List Rat := xs.map fun x => t * x
/-- what two ratios in a pair are worth together -/
def on2 (f : Rat → Rat → Rat) : D → D
  | .tuple [.tuple [.int a, .int b], .tuple [.int c, .int d]] => qD (f (Rat.divInt a b) (Rat.divInt c d))
  | _ => .none
theorem on2_at (f : Rat → Rat → Rat) (x y : Rat) : on2 f (.tuple [qD x, qD y]) = qD (f x y) := by
  show qD (f (Rat.divInt x.num x.den) (Rat.divInt y.num y.den)) = _
  rw [Rat.num_divInt_den, Rat.num_divInt_den]
def on1 (f : Rat → Rat) : D → D
  | .tuple [.int a, .int b] => qD (f (Rat.divInt a b))
  | _ => .none
theorem on1_at (f : Rat → Rat) (x : Rat) : on1 f (qD x) = qD (f x) := by
  show qD (f (Rat.divInt x.num x.den)) = _
  rw [Rat.num_divInt_den]
theorem zipK_row (xs ys : List Rat) : zipK (rowD xs) (rowD ys) = some ((xs.zip ys).map fun x => .tuple [qD x.1, qD x.2]) := by
  show some (zipD (xs.map qD) (ys.map qD)) = _
  rw [zipD_map]
theorem plus_ok (hL : HL T) (hw : 4000 ≤ w) {xs ys : List Rat} (fx : ∀ x ∈ xs, Fit x) (fy : ∀ y ∈ ys, Fit y) (hl : xs.length ≤ 100000) : callN w T (k + 4) 22 [.fz (rowD xs), .fz (rowD ys)] g = .ok (.fz (rowD (addR xs ys))) g := by
  rw [callN_at (hL.h (i := 22) rfl)]
  have cm := compL_map (tg := gTp 2 (gC (gNm 2) (gC (gNm 3) gN))) (f := cD (cCall (callN w T (k + 3)) 13 (cACons (cVE 2) (cACons (cVE 3) cANil)))) (vs := [2, 3]) (σ := [some (.fz (rowD xs)), some (.fz (rowD ys)), none, none]) (g := g) (F := on2 (· + ·))
    ((xs.zip ys).map fun x => .tuple [qD x.1, qD x.2]) [] (fun x hx => by
      rw [List.mem_map] at hx
      obtain ⟨p, hp, rfl⟩ := hx
      have e := added_ok (w := w) (k := k) (g := g) hL hw (fx _ (List.of_mem_zip hp).1) (fy _ (List.of_mem_zip hp).2)
      rw [on2_at]
      exact ⟨[some (.fz (rowD xs)), some (.fz (rowD ys)), some (.fz (qD p.1)), some (.fz (qD p.2))], [some (.fz (rowD xs)), some (.fz (rowD ys)), some (.fz (qD p.1)), some (.fz (qD p.2))], by simp, by simp [e], by simp⟩) (by
      rw [List.length_map, List.length_zip, List.length_nil]
      omega)
  have m : ((xs.zip ys).map fun x => PyData.tuple [qD x.1, qD x.2]).map (on2 (· + ·)) = (addR xs ys).map qD := by
    unfold addR
    rw [List.map_map, List.map_map]
    refine List.map_congr_left fun p _ => ?_
    exact on2_at _ _ _
  rw [m, List.nil_append] at cm
  have zz := zipK_row xs ys
  unfold rowD at cm zz ⊢
  simp [cLc, semF, runF, b_plus, zz, cm]
theorem minus_ok (hL : HL T) (hw : 4000 ≤ w) {xs ys : List Rat} (fx : ∀ x ∈ xs, Fit x) (fy : ∀ y ∈ ys, Fit y) (hl : xs.length ≤ 100000) : callN w T (k + 4) 23 [.fz (rowD xs), .fz (rowD ys)] g = .ok (.fz (rowD (subR xs ys))) g := by
  rw [callN_at (hL.h (i := 23) rfl)]
  have cm := compL_map (tg := gTp 2 (gC (gNm 2) (gC (gNm 3) gN))) (f := cD (cCall (callN w T (k + 3)) 13 (cACons (cVE 2) (cACons (cCall (callN w T (k + 3)) 14 (cACons (cVE 3) cANil)) cANil)))) (vs := [2, 3]) (σ := [some (.fz (rowD xs)), some (.fz (rowD ys)), none, none]) (g := g) (F := on2 (· - ·))
    ((xs.zip ys).map fun x => .tuple [qD x.1, qD x.2]) [] (fun x hx => by
      rw [List.mem_map] at hx
      obtain ⟨p, hp, rfl⟩ := hx
      have e := added_ok (w := w) (k := k) (g := g) hL hw (fx _ (List.of_mem_zip hp).1) (fy _ (List.of_mem_zip hp).2).neg
      have e2 := opposite_ok (w := w) (k := k + 2) (g := g) (r := p.2) hL
      rw [← Rat.sub_eq_add_neg] at e
      rw [on2_at]
      exact ⟨[some (.fz (rowD xs)), some (.fz (rowD ys)), some (.fz (qD p.1)), some (.fz (qD p.2))], [some (.fz (rowD xs)), some (.fz (rowD ys)), some (.fz (qD p.1)), some (.fz (qD p.2))], by simp, by simp [e, e2], by simp⟩) (by
      rw [List.length_map, List.length_zip, List.length_nil]
      omega)
  have m : ((xs.zip ys).map fun x => PyData.tuple [qD x.1, qD x.2]).map (on2 (· - ·)) = (subR xs ys).map qD := by
    unfold subR
    rw [List.map_map, List.map_map]
    refine List.map_congr_left fun p _ => ?_
    exact on2_at _ _ _
  rw [m, List.nil_append] at cm
  have zz := zipK_row xs ys
  unfold rowD at cm zz ⊢
  simp [cLc, semF, runF, b_minus, zz, cm]
theorem scaled_ok (hL : HL T) (hw : 4000 ≤ w) {t : Rat} {xs : List Rat} (ft : Fit t) (fx : ∀ x ∈ xs, Fit x) (hl : xs.length ≤ 100000) : callN w T (k + 4) 19 [.fz (qD t), .fz (rowD xs)] g = .ok (.fz (rowD (mulR t xs))) g := by
  rw [callN_at (hL.h (i := 19) rfl)]
  have cm := compL_map (tg := gNm 2) (f := cD (cCall (callN w T (k + 3)) 16 (cACons (cVE 0) (cACons (cVE 2) cANil)))) (vs := [2]) (σ := [some (.fz (qD t)), some (.fz (rowD xs)), none]) (g := g) (F := on1 (t * ·))
    (xs.map qD) [] (fun x hx => by
      rw [List.mem_map] at hx
      obtain ⟨p, hp, rfl⟩ := hx
      have e := times_ok (w := w) (k := k) (g := g) hL hw ft (fx _ hp)
      rw [on1_at]
      exact ⟨[some (.fz (qD t)), some (.fz (rowD xs)), some (.fz (qD p))], [some (.fz (qD t)), some (.fz (rowD xs)), some (.fz (qD p))], by simp, by simp [e], by simp⟩) (by
      rw [List.length_map, List.length_nil]
      omega)
  have m : (xs.map qD).map (on1 (t * ·)) = (mulR t xs).map qD := by
    unfold mulR
    rw [List.map_map, List.map_map]
    refine List.map_congr_left fun p _ => ?_
    exact on1_at _ _
  rw [m, List.nil_append] at cm
  unfold rowD at cm ⊢
  simp [cLc, semF, runF, b_scaled, cm]
end
end
end FD
/-! FDQ8: the plain side: is_row, noughts, a ratio's size. -/
namespace FD
noncomputable section
open PySem
/-- two whole numbers as data -/
def pD (p : Int × Int) : D := .tuple [.int p.1, .int p.2]
/-- is that a ratio written shortest -/
def okp (p : Int × Int) : Bool := decide (1 ≤ p.2) && decide (Nat.gcd p.1.natAbs p.2.natAbs = 1)
def badD : D → Bool
  | .tuple [.int a, .int b] => !okp (a, b)
  | _ => false
theorem qD_pD (r : Rat) : qD r = pD (r.num, (r.den : Int)) := rfl
theorem okp_rat (r : Rat) : okp (r.num, (r.den : Int)) = true := by
  unfold okp
  have h := Nat.pos_of_ne_zero r.den_nz
  rw [Bool.and_eq_true]
  refine ⟨decide_eq_true (by show (1 : Int) ≤ (r.den : Int); omega), decide_eq_true ?_⟩
  show Nat.gcd r.num.natAbs ((r.den : Int)).natAbs = 1
  rw [Int.natAbs_natCast]
  exact r.reduced
section
variable {w k : Nat} {T : List Fn} {g : G}
theorem is_row_ok (hL : HL T) (hw : 4000 ≤ w) {ps : List (Int × Int)} (hs : ∀ p ∈ ps, p.2.natAbs < 2 ^ 1900) (hl : ps.length ≤ 100000) (width : Int) :
    callN w T (k + 2) 24 [.fz (.tuple (ps.map pD)), .fz (.int width)] g = .ok (.fz (.bool (decide ((ps.length : Int) = width) && ps.all okp))) g := by
  rw [callN_at (hL.h (i := 24) rfl)]
  by_cases q : (ps.length : Int) = width
  · have cf := compL_filter (tg := gTp 2 (gC (gNm 2) (gC (gNm 3) gN))) (t := cOr (cCmp pyLt (cVP 3) (cD (cK (.int 1)))) (cCmp pyNe (cD (cCall (callN w T (k + 1)) 11 (cACons (cVE 2) (cACons (cVE 3) cANil)))) (cD (cK (.int 1))))) (f := cD (cK (.int 1))) (vs := [2, 3])
      (σ := [some (.fz (.tuple (ps.map pD))), some (.fz (.int width)), none, none]) (g := g) (P := badD) (F := fun _ => .int 1) (ps.map pD) [] (fun x hx => by
        rw [List.mem_map] at hx
        obtain ⟨p, hp, rfl⟩ := hx
        obtain ⟨a, b⟩ := p
        have hb := hs _ hp
        have hb : b.natAbs < 2 ^ 1900 := hb
        refine ⟨[some (.fz (.tuple (ps.map pD))), some (.fz (.int width)), some (.fz (.int a)), some (.fz (.int b))], [some (.fz (.tuple (ps.map pD))), some (.fz (.int width)), some (.fz (.int a)), some (.fz (.int b))], by simp [pD], ?_, fun _ => ⟨_, rfl, by simp⟩, fun _ => by simp⟩
        by_cases z : b < 1
        · have e : badD (pD (a, b)) = true := by
            show (!okp (a, b)) = true
            unfold okp
            rw [decide_eq_false (show ¬ (1 : Int) ≤ b by omega)]
            rfl
          rw [e]
          simp [z]
        · obtain ⟨n, rfl⟩ : ∃ n : Nat, b = n := ⟨b.toNat, by omega⟩
          have hb : n < 2 ^ 1900 := by rw [Int.natAbs_natCast] at hb; exact hb
          have e1 := gd_ok (w := w) (k := k) (g := g) (hL.h (i := 11) rfl) (p := a) hb (by omega)
          have e : badD (pD (a, (n : Int))) = !decide (a.natAbs.gcd n = 1) := by
            show (!okp (a, (n : Int))) = _
            unfold okp
            rw [decide_eq_true (show (1 : Int) ≤ (n : Int) by omega), Bool.true_and]
            simp only [Int.natAbs_natCast]
          rw [e]
          have c : (((a.natAbs.gcd n : Nat) : Int) = 1) ↔ (a.natAbs.gcd n = 1) := by omega
          simp [z, e1, c]) (by rw [List.length_map, List.length_nil]; omega)
    have lf : (((ps.map pD).filter badD).length : Int) = 0 ↔ ps.all okp = true := by
      have e : (ps.map pD).filter badD = (ps.filter fun p => !okp p).map pD := by
        rw [List.filter_map]
        rfl
      rw [e, List.length_map, List.all_eq_true]
      constructor
      · intro h p hp
        have h0 : (ps.filter fun p => !okp p) = [] := List.length_eq_zero_iff.mp (by omega)
        have := List.filter_eq_nil_iff.mp h0 p hp
        simpa using this
      · intro h
        have h0 : (ps.filter fun p => !okp p) = [] := List.filter_eq_nil_iff.mpr fun p hp => by rw [h p hp]; simp
        rw [h0]; rfl
    rw [List.nil_append] at cf
    have sq : seqOf (.tuple (ps.map pD)) = some (ps.map pD) := rfl
    have fin : decide ((((ps.map pD).filter badD).length : Int) = 0) = ps.all okp := by
      cases z : ps.all okp with
      | true => exact decide_eq_true (lf.mpr z)
      | false => exact decide_eq_false fun y => by rw [lf.mp y] at z; cases z
    generalize hF : (ps.map pD).filter badD = F at *
    subst q
    simp [cLc, semF, runF, b_is_row, cf]
    rw [← fin]
    exact decide_eq_decide.mpr ⟨fun h => by rw [h]; rfl, fun h => List.length_eq_zero_iff.mp (by omega)⟩
  · simp [semF, runF, b_is_row, q]
theorem is_row_row (hL : HL T) (hw : 4000 ≤ w) {xs : List Rat} (hs : ∀ x ∈ xs, Fit x) (hl : xs.length ≤ 100000) (width : Int) : callN w T (k + 2) 24 [.fz (rowD xs), .fz (.int width)] g = .ok (.fz (.bool (decide ((xs.length : Int) = width)))) g := by
  have h := is_row_ok (w := w) (k := k) (g := g) hL hw (ps := xs.map fun r => (r.num, (r.den : Int))) (fun p hp => by
    rw [List.mem_map] at hp
    obtain ⟨r, hr, rfl⟩ := hp
    show ((r.den : Int)).natAbs < 2 ^ 1900
    rw [Int.natAbs_natCast]
    exact Nat.lt_of_lt_of_le (hs r hr).2 (Nat.pow_le_pow_right (by decide) (by decide))) (by rw [List.length_map]; exact hl) width
  have e : (xs.map fun r => (r.num, (r.den : Int))).map pD = xs.map qD := by
    rw [List.map_map]
    rfl
  have a : (xs.map fun r => (r.num, (r.den : Int))).all okp = true := by
    rw [List.all_map]
    exact List.all_eq_true.mpr fun r _ => okp_rat r
  rw [e, a, List.length_map, Bool.and_true] at h
  exact h
theorem law_size_ok (hL : HL T) {r : Rat} : callN w T (k + 1) 10 [.fz (qD r)] g = .ok (.fz (qD (if r < 0 then -r else r))) g := by
  rw [callN_at (hL.h (i := 10) rfl)]
  have e : qD (if r < 0 then -r else r) = .tuple [.int (r.num.natAbs : Int), .int r.den] := by
    have c : r < 0 ↔ r.num < 0 := by
      rw [Rat.lt_iff]
      simp
    by_cases z : r < 0
    · rw [if_pos z, qD, Rat.neg_num, Rat.neg_den]
      have := c.mp z
      rw [show -r.num = (r.num.natAbs : Int) by omega]
    · rw [if_neg z, qD]
      have : ¬ r.num < 0 := fun y => z (c.mpr y)
      rw [show ((r.num.natAbs : Nat) : Int) = r.num by omega]
  rw [e]
  simp [semF, runF, b_law_size, qix0, qix1]
theorem noughts_ok (hL : HL T) {n : Nat} (hn : n ≤ 100000) : callN w T (k + 1) 20 [.fz (.int n)] g = .ok (.fz (rowD (List.replicate n 0))) g := by
  rw [callN_at (hL.h (i := 20) rfl)]
  have m := mulU (xs := [.tuple [.int 0, .int 1]]) (k := (n : Int)) (n := n) rfl (by omega) (by simp; omega)
  have e : reps [.tuple [.int 0, .int 1]] n = (List.replicate n (0 : Rat)).map qD := by
    rw [List.map_replicate]
    have : ∀ m : Nat, (List.replicate m ([.tuple [.int 0, .int 1]] : List D)).flatten = List.replicate m (qD 0) := fun m => by
      induction m with
      | zero => rfl
      | succ m ih => rw [List.replicate_succ, List.replicate_succ, List.flatten_cons, ih]; rfl
    exact this n
  rw [e] at m
  unfold rowD
  simp [-List.map_replicate, semF, runF, b_noughts, m]
end
end
end FD
/-! FDF1: frames as Lean records. -/
namespace FD
noncomputable section
open PySem
/-- a place, a force, a way: two ratios -/
structure V2 where
  x : Rat
  y : Rat
def V2.row (v : V2) : List Rat := [v.x, v.y]
def vD (v : V2) : D := .tuple [qD v.x, qD v.y]
theorem vD_row (v : V2) : vD v = rowD v.row := rfl
def oqD : Option Rat → D
  | none => .none
  | some r => qD r
structure Bar where
  name : Str
  i : Nat
  j : Nat
  pull : Option Rat
  push : Option Rat
  wt : Rat
structure Foot where
  at_ : Nat
  way : V2
  both : Bool
structure Frame where
  name : Str
  joints : List (Str × V2)
  feet : List Foot
  bars : List Bar
def barD (b : Bar) : D := .tuple [.str b.name, .int b.i, .int b.j, oqD b.pull, oqD b.push, qD b.wt]
def footD (f : Foot) : D := .tuple [.int f.at_, vD f.way, .str (if f.both then "both" else "push")]
def frD (f : Frame) : D := .tuple [.str f.name, .tuple (f.joints.map fun j => .tuple [.str j.1, vD j.2]), .tuple (f.feet.map footD), .tuple (f.bars.map barD)]
def Frame.places (f : Frame) : List V2 := f.joints.map (·.2)
def V2.sub (a b : V2) : V2 := ⟨a.x - b.x, a.y - b.y⟩
def V2.add (a b : V2) : V2 := ⟨a.x + b.x, a.y + b.y⟩
def V2.smul (t : Rat) (a : V2) : V2 := ⟨t * a.x, t * a.y⟩
def V2.dot (a b : V2) : Rat := a.x * b.x + a.y * b.y
theorem dot_row (a b : V2) : dotR a.row b.row = a.dot b := by
  show a.x * b.x + (a.y * b.y + 0) = _
  unfold V2.dot
  grind
section
variable {w k : Nat} {T : List Fn} {g : G}
theorem fr1 (f : Frame) : pyIx (frD f) (.int 1) = some (.fz (.tuple (f.joints.map fun j => .tuple [.str j.1, vD j.2]))) := ixU (n := 1) rfl rfl
theorem fr2 (f : Frame) : pyIx (frD f) (.int 2) = some (.fz (.tuple (f.feet.map footD))) := ixU (n := 2) rfl rfl
theorem fr3 (f : Frame) : pyIx (frD f) (.int 3) = some (.fz (.tuple (f.bars.map barD))) := ixU (n := 3) rfl rfl
theorem br1 (b : Bar) : pyIx (barD b) (.int 1) = some (.fz (.int b.i)) := ixU (n := 1) rfl rfl
theorem br2 (b : Bar) : pyIx (barD b) (.int 2) = some (.fz (.int b.j)) := ixU (n := 2) rfl rfl
theorem br3 (b : Bar) : pyIx (barD b) (.int 3) = some (.fz (oqD b.pull)) := ixU (n := 3) rfl rfl
theorem br4 (b : Bar) : pyIx (barD b) (.int 4) = some (.fz (oqD b.push)) := ixU (n := 4) rfl rfl
theorem ft0 (b : Foot) : pyIx (footD b) (.int 0) = some (.fz (.int b.at_)) := ixU (n := 0) rfl rfl
theorem ft1 (b : Foot) : pyIx (footD b) (.int 1) = some (.fz (vD b.way)) := ixU (n := 1) rfl rfl
theorem v0 (v : V2) : pyIx (vD v) (.int 0) = some (.fz (qD v.x)) := ixU (n := 0) rfl rfl
theorem v1 (v : V2) : pyIx (vD v) (.int 1) = some (.fz (qD v.y)) := ixU (n := 1) rfl rfl
/-- the second of a pair -/
def sndD : D → D
  | .tuple [_, b] => b
  | _ => .none
theorem places_ok (hL : HL T) {f : Frame} (hn : f.joints.length ≤ 1000) : callN w T (k + 1) 25 [.fz (frD f)] g = .ok (.fz (.tuple (f.places.map vD))) g := by
  rw [callN_at (hL.h (i := 25) rfl)]
  have cm := compL_map (tg := gTp 2 (gC (gNm 1) (gC (gNm 2) gN))) (f := cD (cVE 2)) (vs := [1, 2]) (σ := [some (.fz (frD f)), none, none]) (g := g) (F := sndD)
    (f.joints.map fun j => .tuple [.str j.1, vD j.2]) [] (fun x hx => by
      rw [List.mem_map] at hx
      obtain ⟨j, _, rfl⟩ := hx
      exact ⟨[some (.fz (frD f)), some (.fz (.str j.1)), some (.fz (vD j.2))], [some (.fz (frD f)), some (.fz (.str j.1)), some (.fz (vD j.2))], by simp, by simp [sndD], by simp⟩) (by rw [List.length_map, List.length_nil]; omega)
  have m : (f.joints.map fun j => PyData.tuple [.str j.1, vD j.2]).map sndD = f.places.map vD := by
    unfold Frame.places
    rw [List.map_map, List.map_map]
    rfl
  rw [m, List.nil_append] at cm
  simp [cLc, semF, runF, b_places_of, fr1, cm]
def FitV (v : V2) : Prop := Fit v.x ∧ Fit v.y
theorem span_ok (hL : HL T) (hw : 4000 ≤ w) {f : Frame} {b : Bar} {p q : V2} (hn : f.joints.length ≤ 1000) (hp : f.places[b.i]? = some p) (hq : f.places[b.j]? = some q) (fp : FitV p) (fq : FitV q) :
    callN w T (k + 5) 26 [.fz (frD f), .fz (barD b)] g = .ok (.fz (vD (q.sub p))) g := by
  rw [callN_at (hL.h (i := 26) rfl)]
  have e1 := places_ok (w := w) (k := k + 3) (g := g) hL hn
  have i1 : pyIx (.tuple (f.places.map vD)) (.int b.i) = some (.fz (vD p)) := ixU rfl (by rw [List.getElem?_map, hp]; rfl)
  have i2 : pyIx (.tuple (f.places.map vD)) (.int b.j) = some (.fz (vD q)) := ixU rfl (by rw [List.getElem?_map, hq]; rfl)
  have l1 := less_ok (w := w) (k := k) (g := g) hL hw fq.1 fp.1
  have l2 := less_ok (w := w) (k := k) (g := g) hL hw fq.2 fp.2
  have e : PyData.tuple [qD (q.x - p.x), qD (q.y - p.y)] = vD (q.sub p) := rfl
  simp [semF, runF, b_span, e1, br1, br2, i1, i2, v0, v1, l1, l2, e]
end
end
end FD
/-! FDF2: loads, forces. -/
namespace FD
noncomputable section
open PySem
def lsD (ls : List V2) : D := .tuple (ls.map vD)
def addV (a b : List V2) : List V2 := (a.zip b).map fun p => p.1.add p.2
section
variable {w k : Nat} {T : List Fn} {g : G}
/-- a pair of vectors, read back -/
def rat2 : D → Rat
  | .tuple [.int a, .int b] => Rat.divInt a b
  | _ => 0
def v2of : D → V2
  | .tuple [a, b] => ⟨rat2 a, rat2 b⟩
  | _ => ⟨0, 0⟩
theorem rat2_at (r : Rat) : rat2 (qD r) = r := Rat.num_divInt_den r
theorem v2of_at (v : V2) : v2of (vD v) = v := by
  show (⟨rat2 (qD v.x), rat2 (qD v.y)⟩ : V2) = v
  rw [rat2_at, rat2_at]
def onV2 (f : V2 → V2 → V2) : D → D
  | .tuple [a, b] => vD (f (v2of a) (v2of b))
  | _ => .none
theorem onV2_at (f : V2 → V2 → V2) (a b : V2) : onV2 f (.tuple [vD a, vD b]) = vD (f a b) := by
  show vD (f (v2of (vD a)) (v2of (vD b))) = _
  rw [v2of_at, v2of_at]
theorem loads_plus_ok (hL : HL T) (hw : 4000 ≤ w) {xs ys : List V2} (fx : ∀ x ∈ xs, FitV x) (fy : ∀ y ∈ ys, FitV y) (hl : xs.length ≤ 100000) : callN w T (k + 5) 27 [.fz (lsD xs), .fz (lsD ys)] g = .ok (.fz (lsD (addV xs ys))) g := by
  rw [callN_at (hL.h (i := 27) rfl)]
  have cm := compL_map (tg := gTp 2 (gC (gNm 2) (gC (gNm 3) gN))) (f := cD (cCall (callN w T (k + 4)) 22 (cACons (cVE 2) (cACons (cVE 3) cANil)))) (vs := [2, 3]) (σ := [some (.fz (lsD xs)), some (.fz (lsD ys)), none, none]) (g := g) (F := onV2 V2.add)
    ((xs.zip ys).map fun x => .tuple [vD x.1, vD x.2]) [] (fun x hx => by
      rw [List.mem_map] at hx
      obtain ⟨p, hp, rfl⟩ := hx
      have a1 := fx _ (List.of_mem_zip hp).1
      have a2 := fy _ (List.of_mem_zip hp).2
      have e := plus_ok (w := w) (k := k) (g := g) hL hw (xs := p.1.row) (ys := p.2.row) (fun z hz => by
        simp only [V2.row, List.mem_cons, List.not_mem_nil, or_false] at hz
        rcases hz with rfl | rfl
        · exact a1.1
        · exact a1.2) (fun z hz => by
        simp only [V2.row, List.mem_cons, List.not_mem_nil, or_false] at hz
        rcases hz with rfl | rfl
        · exact a2.1
        · exact a2.2) (by show 2 ≤ 100000; decide)
      have e2 : rowD (addR p.1.row p.2.row) = vD (p.1.add p.2) := rfl
      rw [e2, ← vD_row, ← vD_row] at e
      rw [onV2_at]
      exact ⟨[some (.fz (lsD xs)), some (.fz (lsD ys)), some (.fz (vD p.1)), some (.fz (vD p.2))], [some (.fz (lsD xs)), some (.fz (lsD ys)), some (.fz (vD p.1)), some (.fz (vD p.2))], by simp, by simp [e], by simp⟩) (by
      rw [List.length_map, List.length_zip, List.length_nil]
      omega)
  have m : ((xs.zip ys).map fun x => PyData.tuple [vD x.1, vD x.2]).map (onV2 V2.add) = (addV xs ys).map vD := by
    unfold addV
    rw [List.map_map, List.map_map]
    refine List.map_congr_left fun p _ => ?_
    exact onV2_at _ _ _
  rw [m, List.nil_append] at cm
  have zz : zipK (lsD xs) (lsD ys) = some ((xs.zip ys).map fun x => .tuple [vD x.1, vD x.2]) := by
    show some (zipD (xs.map vD) (ys.map vD)) = _
    rw [zipD_map]
  unfold lsD at cm zz ⊢
  simp [cLc, semF, runF, b_loads_plus, zz, cm]
def BdV (A d : Nat) (v : V2) : Prop := Bd A d v.x ∧ Bd A d v.y
theorem BdV.row {A d : Nat} {v : V2} (h : BdV A d v) : ∀ x ∈ v.row, Bd A d x := fun z hz => by
  simp only [V2.row, List.mem_cons, List.not_mem_nil, or_false] at hz
  rcases hz with rfl | rfl
  · exact h.1
  · exact h.2
def workR : List V2 → List V2 → Rat
  | a :: as, b :: bs => a.dot b + workR as bs
  | _, _ => 0
theorem dot_bd {A B d e : Nat} {a b : V2} (h : BdV A d a) (h2 : BdV B e b) : Bd (2 * (A * B)) (d * e) (a.dot b) := by
  have := (h.1.mul h2.1).add (h.2.mul h2.2)
  rw [← Nat.two_mul] at this
  exact this
theorem vdot_ok (hL : HL T) (hw : 4000 ≤ w) {a b : V2} {A B d e : Nat} (h : BdV A d a) (h2 : BdV B e b) (s1 : Sml A d) (s2 : Sml B e) (hs : (2 * (A * B) + 1) * (d * e) ^ 2 < 2 ^ 1800) : callN w T (k + 3) 21 [.fz (vD a), .fz (vD b)] g = .ok (.fz (qD (a.dot b))) g := by
  have := dot_ok (w := w) (k := k) (g := g) hL hw (xs := a.row) (ys := b.row) h.row h2.row s1 s2 hs
  rw [dot_row] at this
  exact this
theorem work_loop (hL : HL T) (hw : 4000 ≤ w) {A B d e : Nat} (s1 : Sml A d) (s2 : Sml B e) (hs : (2 * (A * B) + 1) * (d * e) ^ 2 < 2 ^ 1800) {s0 s1' : SV} (N : Nat) (hN : Sml ((N + 1) * (2 * (A * B))) (d * e)) : ∀ (ps : List (V2 × V2)) (n : Nat) (t : Rat), (∀ p ∈ ps, BdV A d p.1 ∧ BdV B e p.2) → n + ps.length ≤ N → Bd (n * (2 * (A * B))) (d * e) t →
    forL (gTp 2 (gC (gNm 3) (gC (gNm 4) gN))) (sAsg 2 (cCall (callN w T (k + 3)) 13 (cACons (cVE 2) (cACons (cCall (callN w T (k + 3)) 21 (cACons (cVE 3) (cACons (cVE 4) cANil))) cANil)))) (ps.map fun p => .tuple [vD p.1, vD p.2]) [some s0, some s1', some (.fz (qD t)), none, none] g
      = .ok .nx [some s0, some s1', some (.fz (qD (t + (ps.map fun p => p.1.dot p.2).sum))), none, none] g
  | [], n, t, _, _, _ => by
    simp [forL, Rat.add_zero]
  | p :: r, n, t, hp, hn, ht => by
    obtain ⟨b1, b2⟩ := hp p List.mem_cons_self
    rw [List.length_cons] at hn
    have bd := dot_bd b1 b2
    have fd : Fit (p.1.dot p.2) := bd.fit (hN.mono (Nat.le_mul_of_pos_left _ (Nat.succ_pos _)) (Nat.le_refl _) hN.1)
    have ft : Fit t := ht.fit (hN.mono (Nat.mul_le_mul_right _ (by omega)) (Nat.le_refl _) hN.1)
    have e1 := vdot_ok (w := w) (k := k) (g := g) hL hw b1 b2 s1 s2 hs
    have e2 := added_ok (w := w) (k := k) (g := g) hL hw ft fd
    have bt : Bd ((n + 1) * (2 * (A * B))) (d * e) (t + p.1.dot p.2) := by
      have := ht.add bd
      rw [← Nat.succ_mul] at this
      exact this
    have ih := work_loop hL hw s1 s2 hs (s0 := s0) (s1' := s1') N hN r (n + 1) _ (fun q hq => hp q (List.mem_cons_of_mem _ hq)) (by omega) bt
    have dr : t + ((p :: r).map fun p => p.1.dot p.2).sum = t + p.1.dot p.2 + (r.map fun p => p.1.dot p.2).sum := by
      rw [List.map_cons, List.sum_cons]; grind
    rw [dr, ← ih]
    simp [forL, e1, e2]
theorem workR_zip : ∀ (xs ys : List V2), workR xs ys = ((xs.zip ys).map fun p => p.1.dot p.2).sum
  | [], _ => by unfold workR; simp
  | x :: xs, [] => by unfold workR; simp
  | x :: xs, y :: ys => by
    rw [workR, workR_zip xs ys]
    simp
theorem work_of_ok (hL : HL T) (hw : 4000 ≤ w) {ls ms : List V2} {A B d e : Nat} (h1 : ∀ l ∈ ls, BdV A d l) (h2 : ∀ m ∈ ms, BdV B e m) (s1 : Sml A d) (s2 : Sml B e) (hs : (2 * (A * B) + 1) * (d * e) ^ 2 < 2 ^ 1800) (hN : Sml ((ls.length + 1) * (2 * (A * B))) (d * e)) :
    callN w T (k + 4) 28 [.fz (lsD ls), .fz (lsD ms)] g = .ok (.fz (qD (workR ls ms))) g := by
  rw [callN_at (hL.h (i := 28) rfl)]
  have zl : (ls.zip ms).length ≤ ls.length := by rw [List.length_zip]; exact Nat.min_le_left _ _
  have lp := work_loop (w := w) (k := k) (g := g) hL hw s1 s2 hs (s0 := .fz (lsD ls)) (s1' := .fz (lsD ms)) ls.length hN (ls.zip ms) 0 0 (fun p hp => ⟨h1 _ (List.of_mem_zip hp).1, h2 _ (List.of_mem_zip hp).2⟩) (by omega) (Bd.zero _ _)
  rw [← workR_zip] at lp
  have z : (0 : Rat) + workR ls ms = workR ls ms := by grind
  rw [z] at lp
  have q0 : PyData.tuple [.int 0, .int 1] = qD 0 := rfl
  have zz : zipK (lsD ls) (lsD ms) = some ((ls.zip ms).map fun x => .tuple [vD x.1, vD x.2]) := by
    show some (zipD (ls.map vD) (ms.map vD)) = _
    rw [zipD_map]
  simp [semF, runF, b_work_of, q0, zz, lp]
theorem BdV.fit {A d : Nat} {v : V2} (h : BdV A d v) (s : Sml A d) : FitV v := ⟨h.1.fit s, h.2.fit s⟩
theorem BdV.sub {A B d : Nat} {a b : V2} (h : BdV A d a) (h2 : BdV B d b) : BdV (A + B) d (a.sub b) := ⟨h.1.sub h2.1, h.2.sub h2.2⟩
theorem vminus_ok (hL : HL T) (hw : 4000 ≤ w) {a b : V2} (h : FitV a) (h2 : FitV b) : callN w T (k + 4) 23 [.fz (vD a), .fz (vD b)] g = .ok (.fz (vD (a.sub b))) g := by
  have e := minus_ok (w := w) (k := k) (g := g) hL hw (xs := a.row) (ys := b.row) (fun z hz => by
    simp only [V2.row, List.mem_cons, List.not_mem_nil, or_false] at hz
    rcases hz with rfl | rfl
    · exact h.1
    · exact h.2) (fun z hz => by
    simp only [V2.row, List.mem_cons, List.not_mem_nil, or_false] at hz
    rcases hz with rfl | rfl
    · exact h2.1
    · exact h2.2) (by show 2 ≤ 100000; decide)
  exact e
theorem stretch_ok (hL : HL T) (hw : 4000 ≤ w) {f : Frame} {b : Bar} {ms : List V2} {p q u v : V2} {A B d e : Nat} (hn : f.joints.length ≤ 1000) (hp : f.places[b.i]? = some p) (hq : f.places[b.j]? = some q) (hu : ms[b.i]? = some u) (hv : ms[b.j]? = some v)
    (bp : BdV A d p) (bq : BdV A d q) (bu : BdV B e u) (bv : BdV B e v) (s1 : Sml (A + A) d) (s2 : Sml (B + B) e) (hs : (2 * ((B + B) * (A + A)) + 1) * (e * d) ^ 2 < 2 ^ 1800) :
    callN w T (k + 6) 40 [.fz (frD f), .fz (barD b), .fz (lsD ms)] g = .ok (.fz (qD ((v.sub u).dot (q.sub p)))) g := by
  rw [callN_at (hL.h (i := 40) rfl)]
  have l1 : A ≤ A + A := Nat.le_add_left _ _
  have l2 : B ≤ B + B := Nat.le_add_left _ _
  have t1 : Sml A d := s1.mono l1 (Nat.le_refl _) s1.1
  have t2 : Sml B e := s2.mono l2 (Nat.le_refl _) s2.1
  have e1 := span_ok (w := w) (k := k) (g := g) hL hw hn hp hq (bp.fit t1) (bq.fit t1)
  have e2 := vminus_ok (w := w) (k := k + 1) (g := g) hL hw (bv.fit t2) (bu.fit t2)
  have e3 := vdot_ok (w := w) (k := k + 2) (g := g) hL hw (bv.sub bu) (bq.sub bp) s2 s1 hs
  have i1 : pyIx (lsD ms) (.int b.i) = some (.fz (vD u)) := ixU rfl (by rw [List.getElem?_map, hu]; rfl)
  have i2 : pyIx (lsD ms) (.int b.j) = some (.fz (vD v)) := ixU rfl (by rw [List.getElem?_map, hv]; rfl)
  simp [semF, runF, b_stretch, br1, br2, i1, i2, e1, e2, e3]
end
end
end FD
/-! FDF3: stretches and slips. -/
namespace FD
noncomputable section
open PySem
/-- a comprehension over the images of a list -/
theorem compL_img {α : Type} {tg : TgF} {f : Ev D} {vs : List Nat} {σ : Sl} {g : G} (h : α → D) (F : α → D) : ∀ (as : List α) (acc : List D), (∀ a ∈ as, ∃ σ1 σ3, tg (h a) σ g = .ok () σ1 g ∧ f σ1 g = .ok (F a) σ3 g ∧ wipeS σ3 vs = σ) → acc.length + as.length ≤ 10000000 →
    compL tg cYes f vs (as.map h) acc σ g = .ok (acc ++ as.map F) σ g
  | [], acc, _, _ => by simp [compL]
  | x :: r, acc, hx, hl => by
    obtain ⟨σ1, σ3, e1, e2, e3⟩ := hx x List.mem_cons_self
    rw [List.length_cons] at hl
    have ih := compL_img (tg := tg) (f := f) (vs := vs) (σ := σ) (g := g) h F r (acc ++ [F x]) (fun y hy => hx y (List.mem_cons_of_mem _ hy)) (by rw [List.length_append]; simp only [List.length_cons, List.length_nil]; omega)
    have l : acc.length < 16777216 := by omega
    simp [compL, e1, e2, e3, l, ih]
def V2.z : V2 := ⟨0, 0⟩
def vAt (l : List V2) (i : Nat) : V2 := (l[i]?).getD V2.z
def Frame.span (f : Frame) (b : Bar) : V2 := (vAt f.places b.j).sub (vAt f.places b.i)
def Frame.stretch (f : Frame) (ms : List V2) (b : Bar) : Rat := ((vAt ms b.j).sub (vAt ms b.i)).dot (f.span b)
def Frame.stretches (f : Frame) (ms : List V2) : List Rat := f.bars.map (f.stretch ms)
def slipR (ms : List V2) (ft : Foot) : Rat := ft.way.dot (vAt ms ft.at_)
def Frame.slips (f : Frame) (ms : List V2) : List Rat := f.feet.map (slipR ms)
/-- the frame's bars and feet stand at its joints; all of it is small -/
structure FrOk (f : Frame) (A d : Nat) : Prop where
  nj : f.joints.length ≤ 1000
  nb : f.bars.length ≤ 1000
  nf : f.feet.length ≤ 1000
  bi : ∀ b ∈ f.bars, b.i < f.joints.length ∧ b.j < f.joints.length ∧ b.i ≠ b.j
  fi : ∀ t ∈ f.feet, t.at_ < f.joints.length
  pl : ∀ p ∈ f.places, BdV A d p
  wy : ∀ t ∈ f.feet, BdV A d t.way
theorem vAt_get {l : List V2} {i : Nat} (h : i < l.length) : l[i]? = some (vAt l i) := by
  unfold vAt
  rw [List.getElem?_eq_getElem h]
  rfl
theorem vAt_mem {l : List V2} {i : Nat} (h : i < l.length) : vAt l i ∈ l := List.mem_of_getElem? (vAt_get h)
section
variable {w k : Nat} {T : List Fn} {g : G}
theorem stretch_at (hL : HL T) (hw : 4000 ≤ w) {f : Frame} {b : Bar} (hb : b ∈ f.bars) {ms : List V2} {A B d e : Nat} (hf : FrOk f A d) (hm : ms.length = f.joints.length) (bm : ∀ m ∈ ms, BdV B e m) (s1 : Sml (A + A) d) (s2 : Sml (B + B) e) (hs : (2 * ((B + B) * (A + A)) + 1) * (e * d) ^ 2 < 2 ^ 1800) :
    callN w T (k + 6) 40 [.fz (frD f), .fz (barD b), .fz (lsD ms)] g = .ok (.fz (qD (f.stretch ms b))) g := by
  obtain ⟨hi, hj, _⟩ := hf.bi b hb
  have pl : f.places.length = f.joints.length := by unfold Frame.places; rw [List.length_map]
  exact stretch_ok hL hw hf.nj (vAt_get (by omega)) (vAt_get (by omega)) (vAt_get (by omega)) (vAt_get (by omega)) (hf.pl _ (vAt_mem (by omega))) (hf.pl _ (vAt_mem (by omega))) (bm _ (vAt_mem (by omega))) (bm _ (vAt_mem (by omega))) s1 s2 hs
theorem stretches_ok (hL : HL T) (hw : 4000 ≤ w) {f : Frame} {ms : List V2} {A B d e : Nat} (hf : FrOk f A d) (hm : ms.length = f.joints.length) (bm : ∀ m ∈ ms, BdV B e m) (s1 : Sml (A + A) d) (s2 : Sml (B + B) e) (hs : (2 * ((B + B) * (A + A)) + 1) * (e * d) ^ 2 < 2 ^ 1800) :
    callN w T (k + 7) 41 [.fz (frD f), .fz (lsD ms)] g = .ok (.fz (rowD (f.stretches ms))) g := by
  rw [callN_at (hL.h (i := 41) rfl)]
  have cm := compL_img (tg := gNm 2) (f := cD (cCall (callN w T (k + 6)) 40 (cACons (cVE 0) (cACons (cVE 2) (cACons (cVE 1) cANil))))) (vs := [2]) (σ := [some (.fz (frD f)), some (.fz (lsD ms)), none]) (g := g) barD (fun b => qD (f.stretch ms b)) f.bars [] (fun b hb => by
    have e1 := stretch_at (w := w) (k := k) (g := g) hL hw hb hf hm bm s1 s2 hs
    exact ⟨[some (.fz (frD f)), some (.fz (lsD ms)), some (.fz (barD b))], [some (.fz (frD f)), some (.fz (lsD ms)), some (.fz (barD b))], by simp, by simp [e1], by simp⟩) (by rw [List.length_nil]; have := hf.nb; omega)
  rw [List.nil_append] at cm
  have r : rowD (f.stretches ms) = .tuple (f.bars.map fun b => qD (f.stretch ms b)) := by
    unfold rowD Frame.stretches
    rw [List.map_map]
    rfl
  rw [r]
  simp [cLc, semF, runF, b_stretches, fr3, cm]
theorem slips_ok (hL : HL T) (hw : 4000 ≤ w) {f : Frame} {ms : List V2} {A B d e : Nat} (hf : FrOk f A d) (hm : ms.length = f.joints.length) (bm : ∀ m ∈ ms, BdV B e m) (s1 : Sml A d) (s2 : Sml B e) (hs : (2 * (A * B) + 1) * (d * e) ^ 2 < 2 ^ 1800) :
    callN w T (k + 4) 42 [.fz (frD f), .fz (lsD ms)] g = .ok (.fz (rowD (f.slips ms))) g := by
  rw [callN_at (hL.h (i := 42) rfl)]
  have cm := compL_img (tg := gNm 2) (f := cD (cCall (callN w T (k + 3)) 21 (cACons (cVIx 2 (cD (cK (.int 1)))) (cACons (cVIx 1 (cD (cVIx 2 (cD (cK (.int 0)))))) cANil)))) (vs := [2]) (σ := [some (.fz (frD f)), some (.fz (lsD ms)), none]) (g := g) footD (fun t => qD (slipR ms t)) f.feet [] (fun t ht => by
    have hi := hf.fi t ht
    have i1 : pyIx (lsD ms) (.int t.at_) = some (.fz (vD (vAt ms t.at_))) := ixU rfl (by rw [List.getElem?_map, vAt_get (by omega)]; rfl)
    have e1 := vdot_ok (w := w) (k := k) (g := g) hL hw (hf.wy t ht) (bm _ (vAt_mem (l := ms) (i := t.at_) (by omega))) s1 s2 hs
    have e2 : t.way.dot (vAt ms t.at_) = slipR ms t := rfl
    rw [e2] at e1
    exact ⟨[some (.fz (frD f)), some (.fz (lsD ms)), some (.fz (footD t))], [some (.fz (frD f)), some (.fz (lsD ms)), some (.fz (footD t))], by simp, by simp [ft0, ft1, i1, e1], by simp⟩) (by rw [List.length_nil]; have := hf.nf; omega)
  rw [List.nil_append] at cm
  have r : rowD (f.slips ms) = .tuple (f.feet.map fun t => qD (slipR ms t)) := by
    unfold rowD Frame.slips
    rw [List.map_map]
    rfl
  rw [r]
  simp [cLc, semF, runF, b_slips, fr2, cm]
end
end
end FD
/-! FDF4: the law's own spans, stretches, works. -/
namespace FD
noncomputable section
open PySem
section
variable {w k : Nat} {T : List Fn} {g : G}
theorem jt_at {f : Frame} {i : Nat} (h : i < f.joints.length) : ∃ n : Str, pyIx (.tuple (f.joints.map fun j => .tuple [.str j.1, vD j.2])) (.int i) = some (.fz (.tuple [.str n, vD (vAt f.places i)])) := by
  have e : f.places[i]? = some (f.joints[i].2) := by
    unfold Frame.places
    rw [List.getElem?_map, List.getElem?_eq_getElem h]
    rfl
  have e2 : vAt f.places i = f.joints[i].2 := by
    unfold vAt
    rw [e]
    rfl
  refine ⟨f.joints[i].1, ixU (n := i) rfl ?_⟩
  rw [List.getElem?_map, List.getElem?_eq_getElem h, e2]
  rfl
theorem pr1 (a b : D) : pyIx (.tuple [a, b]) (.int 1) = some (.fz b) := ixU (n := 1) rfl rfl
theorem law_span_ok (hL : HL T) {f : Frame} {b : Bar} (hi : b.i < f.joints.length) (hj : b.j < f.joints.length) (fi : FitV (vAt f.places b.i)) (fj : FitV (vAt f.places b.j)) :
    callN w T (k + 3) 50 [.fz (frD f), .fz (barD b)] g = .ok (.fz (vD (f.span b))) g := by
  rw [callN_at (hL.h (i := 50) rfl)]
  obtain ⟨n1, e1⟩ := jt_at hi
  obtain ⟨n2, e2⟩ := jt_at hj
  have l1 := law_minus_ok (w := w) (k := k) (g := g) hL fj.1 fi.1
  have l2 := law_minus_ok (w := w) (k := k) (g := g) hL fj.2 fi.2
  have e : PyData.tuple [qD ((vAt f.places b.j).x - (vAt f.places b.i).x), qD ((vAt f.places b.j).y - (vAt f.places b.i).y)] = vD (f.span b) := rfl
  simp [semF, runF, b_law_span, fr1, br1, br2, e1, e2, pr1, v0, v1, l1, l2, e]
theorem law_vdot_ok (hL : HL T) {a b : V2} {A B d e : Nat} (h : BdV A d a) (h2 : BdV B e b) (s1 : Sml A d) (s2 : Sml B e) (hs : Sml (3 * (A * B)) (d * e)) : callN w T (k + 3) 8 [.fz (vD a), .fz (vD b)] g = .ok (.fz (qD (a.dot b))) g := by
  have := law_dot_ok (w := w) (k := k) (g := g) hL (a := vD a) (b := vD b) (xs := a.row) (ys := b.row) (.inl rfl) (.inl rfl) h.row h2.row (Nat.le_refl _) (by show 2 < 1000; decide) hs s1 s2
  rw [dot_row] at this
  exact this
theorem law_stretch_ok (hL : HL T) {f : Frame} {b : Bar} (hb : b ∈ f.bars) {ms : List V2} {A B d e : Nat} (hf : FrOk f A d) (hm : ms.length = f.joints.length) (bm : ∀ m ∈ ms, BdV B e m) (s1 : Sml (A + A) d) (s2 : Sml (B + B) e) (hs : Sml (3 * ((B + B) * (A + A))) (e * d)) :
    callN w T (k + 4) 53 [.fz (frD f), .fz (barD b), .fz (lsD ms)] g = .ok (.fz (qD (f.stretch ms b))) g := by
  obtain ⟨hi, hj, _⟩ := hf.bi b hb
  have pl : f.places.length = f.joints.length := by unfold Frame.places; rw [List.length_map]
  have l1 : A ≤ A + A := Nat.le_add_left _ _
  have l2 : B ≤ B + B := Nat.le_add_left _ _
  have t1 : Sml A d := s1.mono l1 (Nat.le_refl _) s1.1
  have t2 : Sml B e := s2.mono l2 (Nat.le_refl _) s2.1
  have bp := hf.pl _ (vAt_mem (l := f.places) (i := b.i) (by omega))
  have bq := hf.pl _ (vAt_mem (l := f.places) (i := b.j) (by omega))
  have bu := bm _ (vAt_mem (l := ms) (i := b.i) (by omega))
  have bv := bm _ (vAt_mem (l := ms) (i := b.j) (by omega))
  have e1 := law_span_ok (w := w) (k := k) (g := g) hL hi hj (bp.fit t1) (bq.fit t1)
  have i1 : pyIx (lsD ms) (.int b.i) = some (.fz (vD (vAt ms b.i))) := ixU rfl (by rw [List.getElem?_map, vAt_get (by omega)]; rfl)
  have i2 : pyIx (lsD ms) (.int b.j) = some (.fz (vD (vAt ms b.j))) := ixU rfl (by rw [List.getElem?_map, vAt_get (by omega)]; rfl)
  have m1 := law_minus_ok (w := w) (k := k + 1) (g := g) hL (bv.fit t2).1 (bu.fit t2).1
  have m2 := law_minus_ok (w := w) (k := k + 1) (g := g) hL (bv.fit t2).2 (bu.fit t2).2
  have sp : BdV (A + A) d (f.span b) := bq.sub bp
  have e3 := law_vdot_ok (w := w) (k := k) (g := g) hL (bv.sub bu) sp s2 s1 hs
  have ed : PyData.tuple [qD ((vAt ms b.j).x - (vAt ms b.i).x), qD ((vAt ms b.j).y - (vAt ms b.i).y)] = vD ((vAt ms b.j).sub (vAt ms b.i)) := rfl
  have es : ((vAt ms b.j).sub (vAt ms b.i)).dot (f.span b) = f.stretch ms b := rfl
  rw [es] at e3
  rw [callN_at (hL.h (i := 53) rfl)]
  simp [semF, runF, b_law_stretch, br1, br2, i1, i2, e1, v0, v1, m1, m2, ed, e3]
theorem law_work_loop (hL : HL T) {A B d e : Nat} (s1 : Sml A d) (s2 : Sml B e) {ls ms : List V2} (h1 : ∀ l ∈ ls, BdV A d l) (h2 : ∀ m ∈ ms, BdV B e m) (hl : ls.length ≤ ms.length) (hs : Sml (3 * (A * B)) (d * e)) (hN : Sml ((ls.length + 1) * (2 * (A * B))) (d * e)) :
    ∀ (n i : Nat) (t : Rat), i + n = ls.length → Bd (i * (2 * (A * B))) (d * e) t → forL (gNm 3) (sAsg 2 (cCall (callN w T (k + 3)) 5 (cACons (cVE 2) (cACons (cCall (callN w T (k + 3)) 8 (cACons (cVIx 0 (cVP 3)) (cACons (cVIx 1 (cVP 3)) cANil))) cANil)))) ((List.range' i n).map fun (j : Nat) => PyData.int j)
      [some (.fz (lsD ls)), some (.fz (lsD ms)), some (.fz (qD t)), none] g = .ok .nx [some (.fz (lsD ls)), some (.fz (lsD ms)), some (.fz (qD (t + workR (ls.drop i) (ms.drop i)))), none] g := by
  intro n
  induction n with
  | zero =>
    intro i t hi ht
    have e1 : ls.drop i = [] := List.drop_of_length_le (by omega)
    rw [e1]
    show Out.ok _ _ _ = _
    rw [show workR [] (ms.drop i) = 0 from by unfold workR; rfl, Rat.add_zero]
  | succ n ih =>
    intro i t hi ht
    have l1 : i < ls.length := by omega
    have l2 : i < ms.length := by omega
    have x1 : pyIx (lsD ls) (.int i) = some (.fz (vD ls[i])) := ixU rfl (by rw [List.getElem?_map, List.getElem?_eq_getElem l1]; rfl)
    have y1 : pyIx (lsD ms) (.int i) = some (.fz (vD ms[i])) := ixU rfl (by rw [List.getElem?_map, List.getElem?_eq_getElem l2]; rfl)
    have b1 := h1 _ (List.getElem_mem l1)
    have b2 := h2 _ (List.getElem_mem l2)
    have bm := dot_bd b1 b2
    have fm : Fit (ls[i].dot ms[i]) := bm.fit (hN.mono (Nat.le_mul_of_pos_left _ (Nat.succ_pos _)) (Nat.le_refl _) hN.1)
    have ft : Fit t := ht.fit (hN.mono (Nat.mul_le_mul_right _ (by omega)) (Nat.le_refl _) hN.1)
    have e1 := law_vdot_ok (w := w) (k := k) (g := g) hL b1 b2 s1 s2 hs
    have e2 := law_plus_ok (w := w) (k := k + 1) (g := g) hL ft fm
    have bt : Bd ((i + 1) * (2 * (A * B))) (d * e) (t + ls[i].dot ms[i]) := by
      have := ht.add bm
      rw [← Nat.succ_mul] at this
      exact this
    have r := ih (i + 1) _ (by omega) bt
    have dr : t + workR (ls.drop i) (ms.drop i) = t + ls[i].dot ms[i] + workR (ls.drop (i + 1)) (ms.drop (i + 1)) := by
      rw [List.drop_eq_getElem_cons l1, List.drop_eq_getElem_cons l2]
      show t + (ls[i].dot ms[i] + workR (ls.drop (i + 1)) (ms.drop (i + 1))) = _
      grind
    rw [dr, ← r, List.range'_succ]
    simp [forL, x1, y1, e1, e2]
theorem law_work_ok (hL : HL T) {A B d e : Nat} (s1 : Sml A d) (s2 : Sml B e) {ls ms : List V2} (h1 : ∀ l ∈ ls, BdV A d l) (h2 : ∀ m ∈ ms, BdV B e m) (hl : ls.length ≤ ms.length) (hx : ls.length ≤ 1000) (hs : Sml (3 * (A * B)) (d * e)) (hN : Sml ((ls.length + 1) * (2 * (A * B))) (d * e)) :
    callN w T (k + 4) 55 [.fz (lsD ls), .fz (lsD ms)] g = .ok (.fz (qD (workR ls ms))) g := by
  have lp := law_work_loop (w := w) (k := k) (g := g) hL s1 s2 h1 h2 hl hs hN ls.length 0 0 (by omega) (Bd.zero _ _)
  rw [callN_at (hL.h (i := 55) rfl)]
  have q0 : PyData.tuple [.int 0, .int 1] = qD 0 := rfl
  have rg : rngD 0 ls.length = (List.range' 0 ls.length).map fun (j : Nat) => PyData.int j := by
    unfold rngD
    rw [List.range_eq_range']
    simp
  rw [← rg] at lp
  have r := rng1N (n := ls.length) (by omega)
  have z : (0 : Rat) + workR ls ms = workR ls ms := by grind
  simp only [List.drop_zero, z] at lp
  have ln : pyLen (lsD ls) = some (.fz (.int ls.length)) := by simp [lsD]
  simp [semF, runF, b_law_work, q0, ln, r, lp]
end
end
end FD
/-! FDF5: rows of forces. -/
namespace FD
noncomputable section
open PySem
def flatR (vs : List V2) : List Rat := vs.flatMap V2.row
def zeroV (n : Nat) : List V2 := List.replicate n V2.z
def barVec (f : Frame) (b : Bar) : List V2 := ((zeroV f.joints.length).set b.i (f.span b)).set b.j ((f.span b).smul (-1))
def footVec (f : Frame) (t : Foot) : List V2 := (zeroV f.joints.length).set t.at_ t.way
def rowsV (f : Frame) : List (List V2) := f.bars.map (barVec f) ++ f.feet.map (footVec f)
def accV (t : List V2) (ps : List (Rat × List V2)) : List V2 := ps.foldl (fun t p => addV t (p.2.map (V2.smul p.1))) t
structure Stt where
  qs : List Rat
  rs : List Rat
def stD (s : Stt) : D := .tuple [rowD s.qs, rowD s.rs]
def forcesV (f : Frame) (s : Stt) : List V2 := accV (zeroV f.joints.length) ((s.qs ++ s.rs).zip (rowsV f))
theorem V2.ext' {a b : V2} (h1 : a.x = b.x) (h2 : a.y = b.y) : a = b := by cases a; cases b; simp_all
@[simp] theorem zeroV_len (n : Nat) : (zeroV n).length = n := List.length_replicate
@[simp] theorem barVec_len (f : Frame) (b : Bar) : (barVec f b).length = f.joints.length := by simp [barVec]
@[simp] theorem footVec_len (f : Frame) (b : Foot) : (footVec f b).length = f.joints.length := by simp [footVec]
theorem rngD_nat (n : Nat) : rngD 0 n = (List.range n).map fun (j : Nat) => PyData.int j := by
  unfold rngD
  simp
theorem range_vAt (vs : List V2) : (List.range vs.length).map (vAt vs) = vs := by
  refine List.ext_getElem (by simp) fun i h1 h2 => ?_
  rw [List.getElem_map, List.getElem_range]
  unfold vAt
  rw [List.getElem?_eq_getElem h2]
  rfl
theorem flatR_get : ∀ (vs : List V2) (j : Nat), j < vs.length → (flatR vs)[2 * j]? = some (vAt vs j).x ∧ (flatR vs)[2 * j + 1]? = some (vAt vs j).y
  | [], j, h => absurd h (by simp)
  | v :: vs, 0, _ => by simp [flatR, V2.row, vAt]
  | v :: vs, j + 1, h => by
    rw [List.length_cons] at h
    have ih := flatR_get vs j (by omega)
    have e : vAt (v :: vs) (j + 1) = vAt vs j := by simp [vAt]
    rw [e]
    have c : flatR (v :: vs) = v.x :: v.y :: flatR vs := by simp [flatR, V2.row]
    rw [c, show 2 * (j + 1) = 2 * j + 1 + 1 by omega]
    exact ih
theorem flatR_len : ∀ (vs : List V2), (flatR vs).length = 2 * vs.length
  | [] => rfl
  | v :: vs => by
    have c : flatR (v :: vs) = v.x :: v.y :: flatR vs := by simp [flatR, V2.row]
    rw [c, List.length_cons, List.length_cons, flatR_len vs, List.length_cons]; omega
theorem flatR_mul (t : Rat) : ∀ (vs : List V2), mulR t (flatR vs) = flatR (vs.map (V2.smul t))
  | [] => rfl
  | v :: vs => by
    have c : ∀ (v : V2) (vs : List V2), flatR (v :: vs) = v.x :: v.y :: flatR vs := fun v vs => by simp [flatR, V2.row]
    rw [c, List.map_cons, c, ← flatR_mul t vs]
    rfl
theorem flatR_mem {vs : List V2} {x : Rat} (h : x ∈ flatR vs) : ∃ v ∈ vs, x = v.x ∨ x = v.y := by
  unfold flatR at h
  rw [List.mem_flatMap] at h
  obtain ⟨v, hv, hx⟩ := h
  simp only [V2.row, List.mem_cons, List.not_mem_nil, or_false] at hx
  exact ⟨v, hv, hx⟩
theorem setAtN {xs : List D} {i : Nat} (d : D) (h : i < xs.length) : setAt xs i d = some (xs.set i d) := by
  unfold setAt ixN
  rw [if_pos (by omega), if_pos (by omega)]
  rfl
theorem setV {l : List V2} {i : Nat} (v : V2) (h : i < l.length) : setAt (l.map vD) i (vD v) = some ((l.set i v).map vD) := by
  rw [setAtN _ (by rw [List.length_map]; exact h), List.map_set]
theorem zero_reps (n : Nat) : reps [.tuple [.tuple [.int 0, .int 1], .tuple [.int 0, .int 1]]] n = (zeroV n).map vD := by
  have : ∀ m : Nat, (List.replicate m ([.tuple [.tuple [.int 0, .int 1], .tuple [.int 0, .int 1]]] : List D)).flatten = (List.replicate m V2.z).map vD := fun m => by
    induction m with
    | zero => rfl
    | succ m ih => rw [List.replicate_succ, List.replicate_succ, List.flatten_cons, ih]; rfl
  exact this n
theorem z_lit : PyData.tuple [.tuple [.int 0, .int 1], .tuple [.int 0, .int 1]] = vD V2.z := rfl
theorem m1_lit : PyData.tuple [.int (-1), .int 1] = qD (-1) := rfl
theorem q0_lit : PyData.tuple [.int 0, .int 1] = qD 0 := rfl
theorem eqQ (r s : Rat) : pyEq (qD r) (qD s) = some (decide (r = s)) := by
  have c : r = s ↔ r.num = s.num ∧ (r.den : Int) = s.den := by
    exact ⟨fun h => by rw [h]; exact ⟨rfl, rfl⟩, fun h => Rat.ext h.1 (by omega)⟩
  have d : decide (r = s) = ((r.num == s.num) && ((r.den : Int) == s.den)) := by
    rw [Bool.eq_iff_iff]
    simp [c]
  rw [d]
  simp [pyEq, qD, eqOk]
theorem neQ (r s : Rat) : pyNe (qD r) (qD s) = some (!decide (r = s)) := by
  have h := eqQ r s
  unfold pyEq at h
  unfold pyNe
  split at h
  · rename_i z
    rw [if_pos z]
    injection h with h
    rw [h]
  · cases h
section
variable {w k : Nat} {T : List Fn} {g : G}
theorem flat_loop (a : SV) : ∀ (vs : List V2) (acc : List D), acc.length + 2 * vs.length ≤ 100000 →
    compL2 (gNm 1) cYes (iSeq (cD (cVE 1))) (gNm 2) cYes (cD (cVE 2)) [1, 2] [2] (vs.map vD) acc [some a, none, none] g = .ok (acc ++ (flatR vs).map qD) [some a, none, none] g
  | [], acc, _ => by simp [compL2, flatR]
  | v :: vs, acc, h => by
    rw [List.length_cons] at h
    have ih := flat_loop a vs (acc ++ [qD v.x, qD v.y]) (by simp; omega)
    have c : flatR (v :: vs) = v.x :: v.y :: flatR vs := by simp [flatR, V2.row]
    have l1 : acc.length < 16777216 := by omega
    have l2 : acc.length + 1 < 16777216 := by omega
    rw [c]
    simp [compL2, compL, vD, l1, l2, ih]
theorem flat_ok (hL : HL T) {vs : List V2} (h : vs.length ≤ 10000) : callN w T (k + 1) 30 [.fz (.list (vs.map vD))] g = .ok (.fz (rowD (flatR vs))) g := by
  rw [callN_at (hL.h (i := 30) rfl)]
  have lp := flat_loop (g := g) (.fz (.list (vs.map vD))) vs [] (by simp; omega)
  rw [List.nil_append] at lp
  simp [cLc2, semF, runF, b_flat, lp, rowD]
theorem paired_ok (hL : HL T) {vs : List V2} (h : vs.length ≤ 10000) : callN w T (k + 1) 31 [.fz (rowD (flatR vs))] g = .ok (.fz (lsD vs)) g := by
  rw [callN_at (hL.h (i := 31) rfl)]
  have cm := compL_img (tg := gNm 1) (f := cD (cTup (cCons (cD (cVIx 0 (cD (c2 pyMul (cD (cK (.int 2))) (cVP 1))))) (cCons (cD (cVIx 0 (cD (c2 pyAdd (cD (c2 pyMul (cD (cK (.int 2))) (cVP 1))) (cD (cK (.int 1))))))) cNil)))) (vs := [1]) (σ := [some (.fz (rowD (flatR vs))), none]) (g := g) (fun (j : Nat) => PyData.int j) (fun j => vD (vAt vs j)) (List.range vs.length) [] (fun j hj => by
    rw [List.mem_range] at hj
    obtain ⟨f1, f2⟩ := flatR_get vs j hj
    have i1 : pyIx (rowD (flatR vs)) (.int (2 * (j : Int))) = some (.fz (qD (vAt vs j).x)) := ixU (n := 2 * j) (by omega) (by rw [List.getElem?_map, f1]; rfl)
    have i2 : pyIx (rowD (flatR vs)) (.int (2 * (j : Int) + 1)) = some (.fz (qD (vAt vs j).y)) := ixU (n := 2 * j + 1) (by omega) (by rw [List.getElem?_map, f2]; rfl)
    have m := mulI (i := 2) (j := (j : Int)) (by omega) (by omega)
    exact ⟨[some (.fz (rowD (flatR vs))), some (.fz (.int j))], [some (.fz (rowD (flatR vs))), some (.fz (.int j))], by simp, by simp [m, i1, i2, vD], by simp⟩) (by simp; omega)
  rw [List.nil_append, ← rngD_nat] at cm
  have r : (List.range vs.length).map (fun j => vD (vAt vs j)) = vs.map vD := by
    have := congrArg (List.map vD) (range_vAt vs)
    rw [List.map_map] at this
    exact this
  rw [r] at cm
  have ln : pyLen (rowD (flatR vs)) = some (.fz (.int (2 * (vs.length : Int)))) := by
    show some (SV.fz (.int ((flatR vs).map qD).length)) = _
    rw [List.length_map, flatR_len, Int.natCast_mul]
    rfl
  have dv := divI (i := 2 * (vs.length : Int)) (j := 2) (by omega) (by omega)
  rw [show 2 * (vs.length : Int) / 2 = vs.length by omega] at dv
  have rg := rng1N (n := vs.length) (by omega)
  generalize hd : rngD 0 (vs.length : Int) = R at *
  simp [cLc, semF, runF, b_paired, ln, dv, rg, cm, lsD]
theorem span_at (hL : HL T) (hw : 4000 ≤ w) {f : Frame} {b : Bar} {A d : Nat} (hf : FrOk f A d) (hb : b ∈ f.bars) (s : Sml A d) : callN w T (k + 5) 26 [.fz (frD f), .fz (barD b)] g = .ok (.fz (vD (f.span b))) g := by
  obtain ⟨hi, hj, _⟩ := hf.bi b hb
  have pl : f.places.length = f.joints.length := by unfold Frame.places; rw [List.length_map]
  exact span_ok hL hw hf.nj (vAt_get (by omega)) (vAt_get (by omega)) ((hf.pl _ (vAt_mem (by omega))).fit s) ((hf.pl _ (vAt_mem (by omega))).fit s)
theorem span_bd {f : Frame} {b : Bar} {A d : Nat} (hf : FrOk f A d) (hb : b ∈ f.bars) : BdV (A + A) d (f.span b) := by
  obtain ⟨hi, hj, _⟩ := hf.bi b hb
  have pl : f.places.length = f.joints.length := by unfold Frame.places; rw [List.length_map]
  exact (hf.pl _ (vAt_mem (by omega))).sub (hf.pl _ (vAt_mem (by omega)))
theorem vscaled_ok (hL : HL T) (hw : 4000 ≤ w) {t : Rat} {v : V2} (ft : Fit t) (fv : FitV v) : callN w T (k + 4) 19 [.fz (qD t), .fz (vD v)] g = .ok (.fz (vD (v.smul t))) g :=
  scaled_ok (w := w) (k := k) (g := g) hL hw (xs := v.row) ft (fun z hz => by
    simp only [V2.row, List.mem_cons, List.not_mem_nil, or_false] at hz
    rcases hz with rfl | rfl
    · exact fv.1
    · exact fv.2) (by show 2 ≤ 100000; decide)
theorem bar_row_ok (hL : HL T) (hw : 4000 ≤ w) {f : Frame} {b : Bar} {A d : Nat} (hf : FrOk f A d) (hb : b ∈ f.bars) (s : Sml (A + A) d) :
    callN w T (k + 6) 32 [.fz (frD f), .fz (barD b)] g = .ok (.fz (rowD (flatR (barVec f b)))) g := by
  obtain ⟨hi, hj, _⟩ := hf.bi b hb
  have nj := hf.nj
  have e1 := span_at (w := w) (k := k) (g := g) hL hw hf hb (s.mono (Nat.le_add_left _ _) (Nat.le_refl _) s.1)
  have ml := mulL (xs := [vD V2.z]) (k := (f.joints.length : Int)) (n := f.joints.length) rfl (by omega) (by simp; omega)
  rw [show reps [vD V2.z] f.joints.length = _ from zero_reps f.joints.length] at ml
  have e2 := vscaled_ok (w := w) (k := k + 1) (g := g) (t := -1) (v := f.span b) hL hw ⟨by decide, by decide⟩ ((span_bd hf hb).fit s)
  have s1 := setV (l := zeroV f.joints.length) (i := b.i) (f.span b) (by simp; omega)
  have s2 := setV (l := (zeroV f.joints.length).set b.i (f.span b)) (i := b.j) ((f.span b).smul (-1)) (by simp; omega)
  have e3 := flat_ok (w := w) (k := k + 4) (g := g) (vs := barVec f b) hL (by simp; omega)
  have bv : ((zeroV f.joints.length).set b.i (f.span b)).set b.j ((f.span b).smul (-1)) = barVec f b := rfl
  rw [bv] at s2
  rw [callN_at (hL.h (i := 32) rfl)]
  simp [-List.map_set, semF, runF, b_bar_row, z_lit, m1_lit, e1, ml, fr1, br1, br2, s1, s2, e2, e3]
theorem foot_row_ok (hL : HL T) {f : Frame} {t : Foot} {A d : Nat} (hf : FrOk f A d) (ht : t ∈ f.feet) :
    callN w T (k + 2) 33 [.fz (frD f), .fz (footD t)] g = .ok (.fz (rowD (flatR (footVec f t)))) g := by
  have hi := hf.fi t ht
  have nj := hf.nj
  have ml := mulL (xs := [vD V2.z]) (k := (f.joints.length : Int)) (n := f.joints.length) rfl (by omega) (by simp; omega)
  rw [show reps [vD V2.z] f.joints.length = _ from zero_reps f.joints.length] at ml
  have s1 := setV (l := zeroV f.joints.length) (i := t.at_) t.way (by simp; omega)
  have e3 := flat_ok (w := w) (k := k) (g := g) (vs := footVec f t) hL (by simp; omega)
  have bv : (zeroV f.joints.length).set t.at_ t.way = footVec f t := rfl
  rw [bv] at s1
  rw [callN_at (hL.h (i := 33) rfl)]
  simp [-List.map_set, semF, runF, b_foot_row, z_lit, ml, fr1, ft0, ft1, s1, e3]
def flD (v : List V2) : D := rowD (flatR v)
theorem force_rows_ok (hL : HL T) (hw : 4000 ≤ w) {f : Frame} {A d : Nat} (hf : FrOk f A d) (s : Sml (A + A) d) :
    callN w T (k + 7) 34 [.fz (frD f)] g = .ok (.fz (.tuple ((rowsV f).map flD))) g := by
  have c1 := compL_img (tg := gNm 2) (f := cD (cCall (callN w T (k + 6)) 32 (cACons (cVE 0) (cACons (cVE 2) cANil)))) (vs := [2]) (σ := [some (.fz (frD f)), none, none, none]) (g := g) barD (fun b => flD (barVec f b)) f.bars [] (fun b hb => by
    have e1 := bar_row_ok (w := w) (k := k) (g := g) hL hw hf hb s
    exact ⟨[some (.fz (frD f)), none, some (.fz (barD b)), none], [some (.fz (frD f)), none, some (.fz (barD b)), none], by simp, by simp [e1, flD], by simp⟩) (by have := hf.nb; simp; omega)
  have c2 := compL_img (tg := gNm 3) (f := cD (cCall (callN w T (k + 6)) 33 (cACons (cVE 0) (cACons (cVE 3) cANil)))) (vs := [3]) (σ := [some (.fz (frD f)), some (.ow (f.bars.map fun b => flD (barVec f b))), none, none]) (g := g) footD (fun b => flD (footVec f b)) f.feet [] (fun b hb => by
    have e1 := foot_row_ok (w := w) (k := k + 4) (g := g) hL hf hb
    exact ⟨[some (.fz (frD f)), some (.ow (f.bars.map fun b => flD (barVec f b))), none, some (.fz (footD b))], [some (.fz (frD f)), some (.ow (f.bars.map fun b => flD (barVec f b))), none, some (.fz (footD b))], by simp, by simp [e1, flD], by simp⟩) (by have := hf.nf; simp; omega)
  rw [List.nil_append] at c1 c2
  have ad := addL (xs := f.bars.map fun b => flD (barVec f b)) (ys := f.feet.map fun b => flD (footVec f b)) (by have := hf.nf; have := hf.nb; simp; omega)
  have r : (rowsV f).map flD = (f.bars.map fun b => flD (barVec f b)) ++ f.feet.map fun b => flD (footVec f b) := by
    unfold rowsV
    rw [List.map_append, List.map_map, List.map_map]
    rfl
  rw [r, callN_at (hL.h (i := 34) rfl)]
  generalize (f.bars.map fun b => flD (barVec f b)) = X at *
  generalize (f.feet.map fun b => flD (footVec f b)) = Y at *
  simp [cLc, semF, runF, b_force_rows, fr2, fr3, c1, c2, ad]
end
end
end FD
/-! FDF6: forces. -/
namespace FD
noncomputable section
open PySem
theorem addV_len {a b : List V2} (h : a.length = b.length) : (addV a b).length = a.length := by
  unfold addV
  rw [List.length_map, List.length_zip, h, Nat.min_self]
theorem addV_get {a b : List V2} {i : Nat} (h : a.length = b.length) (h1 : i < a.length) : vAt (addV a b) i = (vAt a i).add (vAt b i) := by
  unfold vAt addV
  have h2 : i < b.length := by omega
  rw [List.getElem?_map, List.getElem?_eq_getElem (by rw [List.length_zip]; omega), List.getElem?_eq_getElem h1, List.getElem?_eq_getElem h2, List.getElem_zip]
  rfl
theorem vAt_ext {a b : List V2} (h : a.length = b.length) (e : ∀ i, i < a.length → vAt a i = vAt b i) : a = b := by
  refine List.ext_getElem h fun i h1 h2 => ?_
  have := e i h1
  unfold vAt at this
  rw [List.getElem?_eq_getElem h1, List.getElem?_eq_getElem h2] at this
  exact this
theorem vAt_set {a : List V2} {i j : Nat} {v : V2} (h : j < a.length) : vAt (a.set i v) j = if i = j then v else vAt a j := by
  unfold vAt
  rw [List.getElem?_set]
  split
  · rename_i e
    subst e
    rw [if_pos h]
    rfl
  · rfl
theorem vAt_map {a : List V2} {f : V2 → V2} {j : Nat} (h : j < a.length) : vAt (a.map f) j = f (vAt a j) := by
  unfold vAt
  rw [List.getElem?_map, List.getElem?_eq_getElem h]
  rfl
theorem vAt_zero {n j : Nat} : vAt (zeroV n) j = V2.z := by
  unfold vAt zeroV
  rw [List.getElem?_replicate]
  split <;> rfl
theorem V2.smul_z (t : Rat) : V2.z.smul t = V2.z := V2.ext' (by show t * 0 = 0; grind) (by show t * 0 = 0; grind)
theorem V2.add_z (v : V2) : v.add V2.z = v := V2.ext' (by show v.x + 0 = v.x; grind) (by show v.y + 0 = v.y; grind)
theorem V2.zero_smul (v : V2) : v.smul 0 = V2.z := V2.ext' (by show 0 * v.x = 0; grind) (by show 0 * v.y = 0; grind)
theorem addV_zero_smul {a b : List V2} (h : a.length = b.length) : addV a (b.map (V2.smul 0)) = a := by
  refine vAt_ext (addV_len (by rw [List.length_map]; exact h)) fun i hi => ?_
  rw [addV_len (by rw [List.length_map]; exact h)] at hi
  rw [addV_get (by rw [List.length_map]; exact h) hi, vAt_map (by omega), V2.zero_smul, V2.add_z]
/-- what a bar adds -/
def barStep (t : List V2) (i j : Nat) (p : V2) : List V2 := (t.set i ((vAt t i).add p)).set j ((vAt t j).sub p)
def footStep (t : List V2) (i : Nat) (p : V2) : List V2 := t.set i ((vAt t i).add p)
theorem barStep_eq {f : Frame} {b : Bar} {t : List V2} {q : Rat} (ht : t.length = f.joints.length) (hi : b.i < f.joints.length) (hj : b.j < f.joints.length) (hne : b.i ≠ b.j) :
    barStep t b.i b.j ((f.span b).smul q) = addV t ((barVec f b).map (V2.smul q)) := by
  have l : t.length = ((barVec f b).map (V2.smul q)).length := by rw [List.length_map, barVec_len]; exact ht
  refine vAt_ext (by unfold barStep; rw [addV_len l, List.length_set, List.length_set]) fun k hk => ?_
  unfold barStep at hk ⊢
  rw [List.length_set, List.length_set] at hk
  rw [addV_get l hk, vAt_map (by simp; omega), vAt_set (by rw [List.length_set]; exact hk), vAt_set hk]
  unfold barVec
  rw [vAt_set (by simp; omega), vAt_set (by simp; omega), vAt_zero]
  by_cases z : b.j = k
  · rw [if_pos z, if_pos z, ← z]
    refine V2.ext' ?_ ?_
    · show (vAt t b.j).x - q * (f.span b).x = (vAt t b.j).x + q * (-1 * (f.span b).x)
      grind
    · show (vAt t b.j).y - q * (f.span b).y = (vAt t b.j).y + q * (-1 * (f.span b).y)
      grind
  · rw [if_neg z, if_neg z]
    by_cases y : b.i = k
    · rw [if_pos y, if_pos y, ← y]
    · rw [if_neg y, if_neg y, V2.smul_z, V2.add_z]
theorem footStep_eq {f : Frame} {b : Foot} {t : List V2} {q : Rat} (ht : t.length = f.joints.length) (hi : b.at_ < f.joints.length) :
    footStep t b.at_ (b.way.smul q) = addV t ((footVec f b).map (V2.smul q)) := by
  have l : t.length = ((footVec f b).map (V2.smul q)).length := by rw [List.length_map, footVec_len]; exact ht
  refine vAt_ext (by unfold footStep; rw [addV_len l, List.length_set]) fun k hk => ?_
  unfold footStep at hk ⊢
  rw [List.length_set] at hk
  rw [addV_get l hk, vAt_map (by simp; omega), vAt_set hk]
  unfold footVec
  rw [vAt_set (by simp; omega), vAt_zero]
  by_cases y : b.at_ = k
  · rw [if_pos y, if_pos y, ← y]
  · rw [if_neg y, if_neg y, V2.smul_z, V2.add_z]
theorem BdV.smul {A B d e : Nat} {t : Rat} {v : V2} (h : Bd A d t) (h2 : BdV B e v) : BdV (A * B) (d * e) (v.smul t) := ⟨h.mul h2.1, h.mul h2.2⟩
theorem BdV.add {A B d : Nat} {a b : V2} (h : BdV A d a) (h2 : BdV B d b) : BdV (A + B) d (a.add b) := ⟨h.1.add h2.1, h.2.add h2.2⟩
theorem BdV.zero (A d : Nat) : BdV A d V2.z := ⟨Bd.zero _ _, Bd.zero _ _⟩
theorem addV_mem {a b : List V2} {v : V2} (h : v ∈ addV a b) : ∃ x ∈ a, ∃ y ∈ b, v = x.add y := by
  unfold addV at h
  rw [List.mem_map] at h
  obtain ⟨p, hp, rfl⟩ := h
  exact ⟨_, (List.of_mem_zip hp).1, _, (List.of_mem_zip hp).2, rfl⟩
section
variable {w k : Nat} {T : List Fn} {g : G}
theorem forces_loop (hL : HL T) (hw : 4000 ≤ w) {n0 B C d e : Nat} (s1 : Sml B d) (s2 : Sml C e) {s0 s1' : SV} (N : Nat) (hn : n0 ≤ 10000) (hN : Sml ((N + 1) * (B * C)) (d * e)) : ∀ (ps : List (Rat × List V2)) (n : Nat) (t : List V2),
    (∀ p ∈ ps, Bd B d p.1 ∧ p.2.length = n0 ∧ ∀ v ∈ p.2, BdV C e v) → n + ps.length ≤ N → t.length = n0 → (∀ v ∈ t, BdV (n * (B * C)) (d * e) v) →
    forL (gTp 2 (gC (gNm 3) (gC (gNm 4) gN))) (sIf (cCmp pyNe (cVP 3) (cD (cK (.tuple [(.int 0), (.int 1)]))))
      (sAsg 2 (cCall (callN w T (k + 5)) 27 (cACons (cVE 2) (cACons (cCall (callN w T (k + 5)) 31 (cACons (cCall (callN w T (k + 5)) 19 (cACons (cVE 3) (cACons (cVE 4) cANil))) cANil)) cANil))))
      sPass) (ps.map fun p => .tuple [qD p.1, flD p.2]) [some s0, some s1', some (.fz (lsD t)), none, none] g = .ok .nx [some s0, some s1', some (.fz (lsD (accV t ps))), none, none] g ∧ (accV t ps).length = n0 ∧ ∀ v ∈ accV t ps, BdV ((n + ps.length) * (B * C)) (d * e) v
  | [], n, t, _, _, hl, ht => by
    refine ⟨by simp [forL, accV], hl, ?_⟩
    simpa [accV] using ht
  | p :: r, n, t, hp, hn2, hl, ht => by
    obtain ⟨b1, l1, b2⟩ := hp p List.mem_cons_self
    rw [List.length_cons] at hn2
    have lm : t.length = (p.2.map (V2.smul p.1)).length := by rw [List.length_map]; omega
    have bt : ∀ v ∈ addV t (p.2.map (V2.smul p.1)), BdV ((n + 1) * (B * C)) (d * e) v := fun v hv => by
      obtain ⟨x, hx, y, hy, rfl⟩ := addV_mem hv
      rw [List.mem_map] at hy
      obtain ⟨z, hz, rfl⟩ := hy
      have := (ht x hx).add (BdV.smul b1 (b2 z hz))
      rw [← Nat.succ_mul] at this
      exact this
    obtain ⟨ih, ih1, ih2⟩ := forces_loop hL hw s1 s2 (s0 := s0) (s1' := s1') N hn hN r (n + 1) (addV t (p.2.map (V2.smul p.1))) (fun q hq => hp q (List.mem_cons_of_mem _ hq)) (by omega) (by rw [addV_len lm]; exact hl) bt
    have ac : accV t (p :: r) = accV (addV t (p.2.map (V2.smul p.1))) r := rfl
    refine ⟨?_, by rw [ac]; exact ih1, by rw [ac, List.length_cons, show n + (r.length + 1) = n + 1 + r.length by omega]; exact ih2⟩
    rw [ac, ← ih]
    have ne := neQ p.1 0
    by_cases z : p.1 = 0
    · rw [decide_eq_true z] at ne
      rw [show addV t (p.2.map (V2.smul p.1)) = t by rw [z, addV_zero_smul (by omega)]]
      simp [forL, q0_lit, ne]
    · have sm : ∀ v ∈ p.2.map (V2.smul p.1), FitV v := fun v hv => by
        rw [List.mem_map] at hv
        obtain ⟨y, hy, rfl⟩ := hv
        exact (BdV.smul b1 (b2 y hy)).fit (hN.mono (Nat.le_mul_of_pos_left _ (Nat.succ_pos _)) (Nat.le_refl _) hN.1)
      have e1 := scaled_ok (w := w) (k := k + 1) (g := g) hL hw (t := p.1) (xs := flatR p.2) (b1.fit s1) (fun x hx => by
        obtain ⟨v, hv, h⟩ := flatR_mem hx
        rcases h with rfl | rfl
        · exact ((b2 v hv).fit s2).1
        · exact ((b2 v hv).fit s2).2) (by rw [flatR_len]; omega)
      rw [flatR_mul] at e1
      have e2 := paired_ok (w := w) (k := k + 4) (g := g) (vs := p.2.map (V2.smul p.1)) hL (by rw [List.length_map]; omega)
      have e3 := loads_plus_ok (w := w) (k := k) (g := g) hL hw (xs := t) (ys := p.2.map (V2.smul p.1)) (fun x hx => (ht x hx).fit (hN.mono (Nat.mul_le_mul_right _ (by omega)) (Nat.le_refl _) hN.1)) sm (by omega)
      have fl : flD p.2 = rowD (flatR p.2) := rfl
      rw [decide_eq_false z] at ne
      simp only [flD] at ne ⊢
      simp [forL, q0_lit, ne, e1, e2, e3]
theorem rowsV_mem {f : Frame} {A d : Nat} (hf : FrOk f A d) {v : List V2} (h : v ∈ rowsV f) : v.length = f.joints.length ∧ ∀ x ∈ v, BdV (A + A) d x := by
  unfold rowsV at h
  rw [List.mem_append, List.mem_map, List.mem_map] at h
  have z : ∀ x ∈ zeroV f.joints.length, BdV (A + A) d x := fun x hx => by
    unfold zeroV at hx
    rw [(List.mem_replicate.mp hx).2]
    exact BdV.zero _ _
  rcases h with ⟨b, hb, rfl⟩ | ⟨b, hb, rfl⟩
  · refine ⟨barVec_len _ _, fun x hx => ?_⟩
    have s := span_bd hf hb
    unfold barVec at hx
    rcases List.mem_or_eq_of_mem_set hx with h | rfl
    · rcases List.mem_or_eq_of_mem_set h with h | rfl
      · exact z x h
      · exact s
    · have e : (f.span b).smul (-1) = ⟨-(f.span b).x, -(f.span b).y⟩ := V2.ext' (by show -1 * (f.span b).x = -(f.span b).x; grind) (by show -1 * (f.span b).y = -(f.span b).y; grind)
      rw [e]
      exact ⟨s.1.neg, s.2.neg⟩
  · refine ⟨footVec_len _ _, fun x hx => ?_⟩
    unfold footVec at hx
    rcases List.mem_or_eq_of_mem_set hx with h | rfl
    · exact z x h
    · exact ⟨(hf.wy b hb).1.mono (Nat.le_add_left _ _) (Nat.dvd_refl _), (hf.wy b hb).2.mono (Nat.le_add_left _ _) (Nat.dvd_refl _)⟩
/-- a state's numbers are small -/
structure StOk (f : Frame) (s : Stt) (B e : Nat) : Prop where
  nq : s.qs.length = f.bars.length
  nr : s.rs.length = f.feet.length
  bq : ∀ q ∈ s.qs, Bd B e q
  br : ∀ r ∈ s.rs, Bd B e r
theorem st0 (s : Stt) : pyIx (stD s) (.int 0) = some (.fz (rowD s.qs)) := ixU (n := 0) rfl rfl
theorem st1 (s : Stt) : pyIx (stD s) (.int 1) = some (.fz (rowD s.rs)) := ixU (n := 1) rfl rfl
theorem forces_of_ok (hL : HL T) (hw : 4000 ≤ w) {f : Frame} {s : Stt} {A B d e : Nat} (hf : FrOk f A d) (hs : StOk f s B e) (s1 : Sml (A + A) d) (s2 : Sml B e) (hN : Sml (2001 * (B * (A + A))) (e * d)) :
    callN w T (k + 8) 35 [.fz (frD f), .fz (stD s)] g = .ok (.fz (lsD (forcesV f s))) g ∧ (forcesV f s).length = f.joints.length ∧ ∀ v ∈ forcesV f s, BdV (2000 * (B * (A + A))) (e * d) v := by
  have nb := hf.nb
  have nf := hf.nf
  have nj := hf.nj
  have lz : ((s.qs ++ s.rs).zip (rowsV f)).length ≤ 2000 := by
    rw [List.length_zip, List.length_append, hs.nq, hs.nr]; omega
  obtain ⟨lp, ll, lb⟩ := forces_loop (w := w) (k := k + 2) (g := g) hL hw s2 s1 (s0 := .fz (frD f)) (s1' := .fz (stD s)) (n0 := f.joints.length) 2000 (by omega) hN ((s.qs ++ s.rs).zip (rowsV f)) 0 (zeroV f.joints.length) (fun p hp => by
    have h1 := (List.of_mem_zip hp).1
    have h2 := rowsV_mem hf (List.of_mem_zip hp).2
    refine ⟨?_, h2⟩
    rcases List.mem_append.mp h1 with h | h
    · exact hs.bq _ h
    · exact hs.br _ h) (by omega) (zeroV_len _) (fun v hv => by
    unfold zeroV at hv
    rw [(List.mem_replicate.mp hv).2]
    exact BdV.zero _ _)
  refine ⟨?_, ll, fun v hv => ?_⟩
  · have e1 := force_rows_ok (w := w) (k := k) (g := g) hL hw hf s1
    have ml := mulU (xs := [vD V2.z]) (k := (f.joints.length : Int)) (n := f.joints.length) rfl (by omega) (by simp; omega)
    rw [show reps [vD V2.z] f.joints.length = _ from zero_reps f.joints.length] at ml
    have ad : pyAdd (rowD s.qs) (rowD s.rs) = some (.fz (rowD (s.qs ++ s.rs))) := by
      show pyAdd (.tuple _) (.tuple _) = _
      rw [addU (by rw [List.length_map, List.length_map, hs.nq, hs.nr]; omega), ← List.map_append]
      rfl
    have zz : zipK (rowD (s.qs ++ s.rs)) (.tuple ((rowsV f).map flD)) = some (((s.qs ++ s.rs).zip (rowsV f)).map fun p => .tuple [qD p.1, flD p.2]) := by
      show some (zipD ((s.qs ++ s.rs).map qD) _) = _
      rw [zipD_map]
    have lz : PyData.tuple ((zeroV f.joints.length).map vD) = lsD (zeroV f.joints.length) := rfl
    rw [lz] at ml
    rw [callN_at (hL.h (i := 35) rfl)]
    simp only [semF, runF, b_forces_of]
    unfold forcesV
    generalize (s.qs ++ s.rs).zip (rowsV f) = Z at *
    simp [z_lit, fr1, ml, st0, st1, ad, e1, zz, lp]
  · have := lb v hv
    rw [Nat.zero_add] at this
    exact ⟨this.1.mono (Nat.mul_le_mul_right _ (by omega)) (Nat.dvd_refl _), this.2.mono (Nat.mul_le_mul_right _ (by omega)) (Nat.dvd_refl _)⟩
end
end
end FD
/-! FDF7: lawful states. -/
namespace FD
noncomputable section
open PySem
/-- a comprehension with a test over the images of a list -/
theorem compL_imgF {α : Type} {tg : TgF} {t : Ev Bool} {f : Ev D} {vs : List Nat} {σ : Sl} {g : G} (h : α → D) (P : α → Bool) (F : α → D) : ∀ (as : List α) (acc : List D), (∀ a ∈ as, ∃ σ1 σ2, tg (h a) σ g = .ok () σ1 g ∧ t σ1 g = .ok (P a) σ2 g ∧ (P a = true → ∃ σ3, f σ2 g = .ok (F a) σ3 g ∧ wipeS σ3 vs = σ) ∧ (P a = false → wipeS σ2 vs = σ)) → acc.length + as.length ≤ 10000000 →
    compL tg t f vs (as.map h) acc σ g = .ok (acc ++ (as.filter P).map F) σ g
  | [], acc, _, _ => by simp [compL]
  | x :: r, acc, hx, hl => by
    obtain ⟨σ1, σ2, e1, e2, e3, e4⟩ := hx x List.mem_cons_self
    rw [List.length_cons] at hl
    cases q : P x with
    | true =>
      obtain ⟨σ3, e5, e6⟩ := e3 q
      have ih := compL_imgF (tg := tg) (t := t) (f := f) (vs := vs) (σ := σ) (g := g) h P F r (acc ++ [F x]) (fun y hy => hx y (List.mem_cons_of_mem _ hy)) (by rw [List.length_append]; simp only [List.length_cons, List.length_nil]; omega)
      have l : acc.length < 16777216 := by omega
      rw [q] at e2
      simp [compL, e1, e2, e5, e6, l, ih, q]
    | false =>
      have ih := compL_imgF (tg := tg) (t := t) (f := f) (vs := vs) (σ := σ) (g := g) h P F r acc (fun y hy => hx y (List.mem_cons_of_mem _ hy)) (by omega)
      have e5 := e4 q
      rw [q] at e2
      simp [compL, e1, e2, e5, ih, q]
theorem count0 {α β : Type} (P : α → Bool) (F : α → β) (as : List α) : decide ((((as.filter P).map F).length : Int) = 0) = as.all fun a => !P a := by
  rw [List.length_map, Bool.eq_iff_iff, decide_eq_true_iff, List.all_eq_true]
  constructor
  · intro h a ha
    have : as.filter P = [] := List.length_eq_zero_iff.mp (by omega)
    have := List.filter_eq_nil_iff.mp this a ha
    simpa using this
  · intro h
    have : as.filter P = [] := List.filter_eq_nil_iff.mpr fun a ha => by have := h a ha; simpa using this
    rw [this]; rfl
def overB (lim : Option Rat) (x : Rat) : Bool := match lim with
  | none => false
  | some p => decide (p < x)
def lawQ (ps : List (Rat × Bar)) : Bool := ps.all fun p => !overB p.2.pull p.1 && !overB p.2.push (-p.1)
def lawR (ps : List (Rat × Foot)) : Bool := ps.all fun p => !(!p.2.both && decide (p.1 < 0))
def lawfulB (f : Frame) (s : Stt) : Bool := lawQ (s.qs.zip f.bars) && lawR (s.rs.zip f.feet)
theorem num_neg {r : Rat} : r.num < 0 ↔ r < 0 := by
  rw [Rat.lt_iff]
  simp
theorem num_pos {r : Rat} : 0 < r.num ↔ 0 < r := by
  rw [Rat.lt_iff]
  simp
theorem num_zero {r : Rat} : r.num = 0 ↔ r = 0 := Rat.num_eq_zero
@[simp] theorem isNotQ (r : Rat) : pyIsNot (qD r) .none = some true := rfl
@[simp] theorem isQ (r : Rat) : pyIs (qD r) .none = some false := rfl
@[simp] theorem oq_none : oqD none = .none := rfl
@[simp] theorem oq_some (r : Rat) : oqD (some r) = qD r := rfl
theorem ft2 (b : Foot) : pyIx (footD b) (.int 2) = some (.fz (.str (if b.both then "both" else "push"))) := ixU (n := 2) rfl rfl
theorem push_eq (b : Bool) : ((if b then ("both" : Str) else "push") == ("push" : Str)) = !b := by cases b <;> decide
theorem both_eq (b : Bool) : ((if b then ("both" : Str) else "push") == ("both" : Str)) = b := by cases b <;> decide
section
variable {w k : Nat} {T : List Fn} {g : G}
theorem cmp_gt (r s : Rat) : decide ((0 : Int) < (if r < s then -1 else if s < r then 1 else 0)) = decide (s < r) := by
  by_cases a : r < s
  · rw [if_pos a, decide_eq_false (show ¬ (0 : Int) < -1 by omega), decide_eq_false (fun h => by grind)]
  · rw [if_neg a]
    by_cases b : s < r
    · rw [if_pos b, decide_eq_true b]; rfl
    · rw [if_neg b, decide_eq_false b]; rfl
/-- the bounds of a frame's bars are small -/
def LimOk (f : Frame) (L l : Nat) : Prop := ∀ b ∈ f.bars, ∀ p, b.pull = some p ∨ b.push = some p → Bd L l p
theorem pull_step (hL : HL T) {b : Bar} {q : Rat} (fq : Fit q) (fp : ∀ p, b.pull = some p → Fit p) {s0 s1 s4 s5 : Option SV} : cAnd (cCmp pyIsNot (cD (cVIx 3 (cD (cK (.int 3))))) (cD (cK .none))) (cCmp pyGt (cD (cCall (callN w T (k + 1)) 17 (cACons (cVE 2) (cACons (cVIx 3 (cD (cK (.int 3)))) cANil)))) (cD (cK (.int 0)))) [s0, s1, some (.fz (qD q)), some (.fz (barD b)), s4, s5] g
    = .ok (overB b.pull q) [s0, s1, some (.fz (qD q)), some (.fz (barD b)), s4, s5] g := by
  have e3 := br3 b
  unfold overB
  cases h : b.pull with
  | none =>
    rw [h] at e3
    simp [e3]
  | some p =>
    rw [h] at e3
    have c := compare_ok (w := w) (k := k) (g := g) hL fq (fp p h)
    have cg := cmp_gt q p
    simp only [oq_some] at e3
    simp [e3, c]
    simpa using cg
theorem push_step (hL : HL T) {b : Bar} {q : Rat} (fq : Fit q) (fp : ∀ p, b.push = some p → Fit p) {s0 s1 s4 s5 : Option SV} : cAnd (cCmp pyIsNot (cD (cVIx 3 (cD (cK (.int 4))))) (cD (cK .none))) (cCmp pyGt (cD (cCall (callN w T (k + 1)) 17 (cACons (cCall (callN w T (k + 1)) 14 (cACons (cVE 2) cANil)) (cACons (cVIx 3 (cD (cK (.int 4)))) cANil)))) (cD (cK (.int 0)))) [s0, s1, some (.fz (qD q)), some (.fz (barD b)), s4, s5] g
    = .ok (overB b.push (-q)) [s0, s1, some (.fz (qD q)), some (.fz (barD b)), s4, s5] g := by
  have e3 := br4 b
  unfold overB
  cases h : b.push with
  | none =>
    rw [h] at e3
    simp [e3]
  | some p =>
    rw [h] at e3
    have c := compare_ok (w := w) (k := k) (g := g) hL fq.neg (fp p h)
    have o := opposite_ok (w := w) (k := k) (g := g) (r := q) hL
    have cg := cmp_gt (-q) p
    simp only [oq_some] at e3
    simp [e3, o, c]
    simpa using cg
theorem lawful_loop (hL : HL T) {s0 s1 : SV} : ∀ (ps : List (Rat × Bar)), (∀ p ∈ ps, Fit p.1 ∧ (∀ r, p.2.pull = some r ∨ p.2.push = some r → Fit r)) →
    (lawQ ps = true → forL (gTp 2 (gC (gNm 2) (gC (gNm 3) gN))) (sSeq (sIf (cAnd (cCmp pyIsNot (cD (cVIx 3 (cD (cK (.int 3))))) (cD (cK .none))) (cCmp pyGt (cD (cCall (callN w T (k + 1)) 17 (cACons (cVE 2) (cACons (cVIx 3 (cD (cK (.int 3)))) cANil)))) (cD (cK (.int 0)))))
      (sRet (cK (.bool false)))
      sPass)
    (sIf (cAnd (cCmp pyIsNot (cD (cVIx 3 (cD (cK (.int 4))))) (cD (cK .none))) (cCmp pyGt (cD (cCall (callN w T (k + 1)) 17 (cACons (cCall (callN w T (k + 1)) 14 (cACons (cVE 2) cANil)) (cACons (cVIx 3 (cD (cK (.int 4)))) cANil)))) (cD (cK (.int 0)))))
      (sRet (cK (.bool false)))
      sPass)) (ps.map fun p => .tuple [qD p.1, barD p.2]) [some s0, some s1, none, none, none, none] g = .ok .nx [some s0, some s1, none, none, none, none] g) ∧
    (lawQ ps = false → ∃ σ, forL (gTp 2 (gC (gNm 2) (gC (gNm 3) gN))) (sSeq (sIf (cAnd (cCmp pyIsNot (cD (cVIx 3 (cD (cK (.int 3))))) (cD (cK .none))) (cCmp pyGt (cD (cCall (callN w T (k + 1)) 17 (cACons (cVE 2) (cACons (cVIx 3 (cD (cK (.int 3)))) cANil)))) (cD (cK (.int 0)))))
      (sRet (cK (.bool false)))
      sPass)
    (sIf (cAnd (cCmp pyIsNot (cD (cVIx 3 (cD (cK (.int 4))))) (cD (cK .none))) (cCmp pyGt (cD (cCall (callN w T (k + 1)) 17 (cACons (cCall (callN w T (k + 1)) 14 (cACons (cVE 2) cANil)) (cACons (cVIx 3 (cD (cK (.int 4)))) cANil)))) (cD (cK (.int 0)))))
      (sRet (cK (.bool false)))
      sPass)) (ps.map fun p => .tuple [qD p.1, barD p.2]) [some s0, some s1, none, none, none, none] g = .ok (.rt (.fz (.bool false))) σ g)
  | [], _ => ⟨fun _ => rfl, fun h => by simp [lawQ] at h⟩
  | p :: r, hp => by
    obtain ⟨fq, fl⟩ := hp p List.mem_cons_self
    have ih := lawful_loop hL (s0 := s0) (s1 := s1) r fun q hq => hp q (List.mem_cons_of_mem _ hq)
    have p1 := pull_step (w := w) (k := k) (g := g) hL (b := p.2) fq (fun r h => fl r (.inl h)) (s0 := some s0) (s1 := some s1) (s4 := none) (s5 := none)
    have p2 := push_step (w := w) (k := k) (g := g) hL (b := p.2) fq (fun r h => fl r (.inr h)) (s0 := some s0) (s1 := some s1) (s4 := none) (s5 := none)
    have c : lawQ (p :: r) = ((!overB p.2.pull p.1 && !overB p.2.push (-p.1)) && lawQ r) := rfl
    rw [c, List.map_cons]
    generalize hA : cAnd (cCmp pyIsNot (cD (cVIx 3 (cD (cK (.int 3))))) (cD (cK .none))) (cCmp pyGt (cD (cCall (callN w T (k + 1)) 17 (cACons (cVE 2) (cACons (cVIx 3 (cD (cK (.int 3)))) cANil)))) (cD (cK (.int 0)))) = A at *
    generalize hB : cAnd (cCmp pyIsNot (cD (cVIx 3 (cD (cK (.int 4))))) (cD (cK .none))) (cCmp pyGt (cD (cCall (callN w T (k + 1)) 17 (cACons (cCall (callN w T (k + 1)) 14 (cACons (cVE 2) cANil)) (cACons (cVIx 3 (cD (cK (.int 4)))) cANil)))) (cD (cK (.int 0)))) = B at *
    generalize hbody : sSeq (sIf A (sRet (cK (.bool false))) sPass) (sIf B (sRet (cK (.bool false))) sPass) = body at *
    have bd : body [some s0, some s1, some (.fz (qD p.1)), some (.fz (barD p.2)), none, none] g = if overB p.2.pull p.1 || overB p.2.push (-p.1) then .ok (.rt (.fz (.bool false))) [some s0, some s1, some (.fz (qD p.1)), some (.fz (barD p.2)), none, none] g else .ok .nx [some s0, some s1, some (.fz (qD p.1)), some (.fz (barD p.2)), none, none] g := by
      rw [← hbody]
      cases h1 : overB p.2.pull p.1 <;> cases h2 : overB p.2.push (-p.1) <;> rw [h1] at p1 <;> rw [h2] at p2 <;> simp [p1, p2]
    refine ⟨fun h => ?_, fun h => ?_⟩
    · rw [Bool.and_eq_true] at h
      have i1 := ih.1 h.2
      have h3 : (overB p.2.pull p.1 || overB p.2.push (-p.1)) = false := by
        have := h.1
        cases h1 : overB p.2.pull p.1 <;> cases h2 : overB p.2.push (-p.1) <;> simp [h1, h2] at this ⊢
      rw [h3] at bd
      rw [← i1]
      simp [forL, bd]
    · cases h3 : (overB p.2.pull p.1 || overB p.2.push (-p.1)) with
      | true =>
        rw [h3] at bd
        refine ⟨[some s0, some s1, some (.fz (qD p.1)), some (.fz (barD p.2)), none, none], ?_⟩
        simp [forL, bd]
      | false =>
        rw [h3] at bd
        obtain ⟨σ, i2⟩ := ih.2 (by
          cases h1 : overB p.2.pull p.1 <;> cases h2 : overB p.2.push (-p.1) <;> simp [h1, h2] at h h3 ⊢
          exact h)
        refine ⟨σ, ?_⟩
        rw [← i2]
        simp [forL, bd]
theorem is_lawful_ok (hL : HL T) {f : Frame} {s : Stt} {B e L l : Nat} (hf : f.bars.length ≤ 1000) (hf2 : f.feet.length ≤ 1000) (hs : StOk f s B e) (hl : LimOk f L l) (s1 : Sml B e) (s2 : Sml L l) :
    callN w T (k + 2) 38 [.fz (frD f), .fz (stD s)] g = .ok (.fz (.bool (lawfulB f s))) g := by
  have lp := lawful_loop (w := w) (k := k) (g := g) hL (s0 := .fz (frD f)) (s1 := .fz (stD s)) (s.qs.zip f.bars) (fun p hp => ⟨(hs.bq _ (List.of_mem_zip hp).1).fit s1, fun r h => (hl _ (List.of_mem_zip hp).2 r h).fit s2⟩)
  have cf := compL_imgF (tg := gTp 2 (gC (gNm 4) (gC (gNm 5) gN))) (t := cAnd (cCmp pyEq (cD (cVIx 5 (cD (cK (.int 2))))) (cD (cK (.str "push")))) (cCmp pyLt (cD (cVIx 4 (cD (cK (.int 0))))) (cD (cK (.int 0))))) (f := cD (cK (.int 1))) (vs := [4, 5]) (σ := [some (.fz (frD f)), some (.fz (stD s)), none, none, none, none]) (g := g)
    (fun (p : Rat × Foot) => PyData.tuple [qD p.1, footD p.2]) (fun p => !p.2.both && decide (p.1 < 0)) (fun _ => .int 1) (s.rs.zip f.feet) [] (fun p hp => by
      refine ⟨[some (.fz (frD f)), some (.fz (stD s)), none, none, some (.fz (qD p.1)), some (.fz (footD p.2))], [some (.fz (frD f)), some (.fz (stD s)), none, none, some (.fz (qD p.1)), some (.fz (footD p.2))], by simp, ?_, fun _ => ⟨_, rfl, by simp⟩, fun _ => by simp⟩
      have n := num_neg (r := p.1)
      have pe := push_eq p.2.both
      cases hb : p.2.both <;> rw [hb] at pe <;> simp [ft2, hb, qix0, n] at pe ⊢ <;> simp [pe]) (by
      rw [List.length_zip, List.length_nil]; omega)
  rw [List.nil_append] at cf
  have z1 : zipK (rowD s.qs) (.tuple (f.bars.map barD)) = some ((s.qs.zip f.bars).map fun p => .tuple [qD p.1, barD p.2]) := by
    show some (zipD (s.qs.map qD) _) = _
    rw [zipD_map]
  have z2 : zipK (rowD s.rs) (.tuple (f.feet.map footD)) = some ((s.rs.zip f.feet).map fun p => .tuple [qD p.1, footD p.2]) := by
    show some (zipD (s.rs.map qD) _) = _
    rw [zipD_map]
  have c0 := count0 (fun (p : Rat × Foot) => !p.2.both && decide (p.1 < 0)) (fun _ => PyData.int 1) (s.rs.zip f.feet)
  have lr : lawR (s.rs.zip f.feet) = (s.rs.zip f.feet).all fun p => !(!p.2.both && decide (p.1 < 0)) := rfl
  rw [← lr] at c0
  have r := callN_at (w := w) (T := T) (k := k + 1) (hL.h (i := 38) rfl)
  rw [r]
  generalize ((s.rs.zip f.feet).filter fun (p : Rat × Foot) => !p.2.both && decide (p.1 < 0)).map (fun _ => PyData.int 1) = R at *
  generalize hX : (s.rs.zip f.feet).map (fun (p : Rat × Foot) => PyData.tuple [qD p.1, footD p.2]) = X at *
  generalize hY : (s.qs.zip f.bars).map (fun (p : Rat × Bar) => PyData.tuple [qD p.1, barD p.2]) = Y at *
  unfold lawfulB
  cases h : lawQ (s.qs.zip f.bars) with
  | true =>
    have l1 := lp.1 h
    simp [-decide_eq_decide, semF, runF, b_is_lawful, fr2, fr3, st0, st1, z1, z2, l1, cLc, cf]
    simpa using c0
  | false =>
    obtain ⟨σ, l2⟩ := lp.2 h
    simp [semF, runF, b_is_lawful, fr2, fr3, st0, st1, z1, l2]
end
end
end FD
/-! FDF8: the law's own forces. -/
namespace FD
noncomputable section
open PySem
theorem rowGet {xs : List Rat} {i : Nat} (h : i < xs.length) : pyIx (rowD xs) (.int i) = some (.fz (qD xs[i])) := ixU rfl (by rw [List.getElem?_map, List.getElem?_eq_getElem h]; rfl)
theorem barGet {f : Frame} {i : Nat} (h : i < f.bars.length) : pyIx (.tuple (f.bars.map barD)) (.int i) = some (.fz (barD f.bars[i])) := ixU rfl (by rw [List.getElem?_map, List.getElem?_eq_getElem h]; rfl)
theorem footGet {f : Frame} {i : Nat} (h : i < f.feet.length) : pyIx (.tuple (f.feet.map footD)) (.int i) = some (.fz (footD f.feet[i])) := ixU rfl (by rw [List.getElem?_map, List.getElem?_eq_getElem h]; rfl)
theorem vGetL {l : List V2} {i : Nat} (h : i < l.length) : pyIx (.list (l.map vD)) (.int i) = some (.fz (vD (vAt l i))) := ixL rfl (by rw [List.getElem?_map, vAt_get h]; rfl)
theorem vGetU {l : List V2} {i : Nat} (h : i < l.length) : pyIx (lsD l) (.int i) = some (.fz (vD (vAt l i))) := ixU rfl (by rw [List.getElem?_map, vAt_get h]; rfl)
theorem zip_drop_cons {α β : Type} {xs : List α} {ys : List β} {i : Nat} (h1 : i < xs.length) (h2 : i < ys.length) : (xs.drop i).zip (ys.drop i) = (xs[i], ys[i]) :: (xs.drop (i + 1)).zip (ys.drop (i + 1)) := by
  rw [List.drop_eq_getElem_cons h1, List.drop_eq_getElem_cons h2]; rfl
/-- the law's way: bars one by one -/
def barAcc (f : Frame) (t : List V2) (ps : List (Rat × Bar)) : List V2 := ps.foldl (fun t p => barStep t p.2.i p.2.j ((f.span p.2).smul p.1)) t
def footAcc (t : List V2) (ps : List (Rat × Foot)) : List V2 := ps.foldl (fun t p => footStep t p.2.at_ (p.2.way.smul p.1)) t
theorem barStep_len (t : List V2) (i j : Nat) (p : V2) : (barStep t i j p).length = t.length := by unfold barStep; rw [List.length_set, List.length_set]
theorem footStep_len (t : List V2) (i : Nat) (p : V2) : (footStep t i p).length = t.length := by unfold footStep; rw [List.length_set]
theorem barStep_bd {t : List V2} {i j n : Nat} {p : V2} {M d : Nat} (hi : i < t.length) (hj : j < t.length) (ht : ∀ v ∈ t, BdV (n * M) d v) (hp : BdV M d p) : ∀ v ∈ barStep t i j p, BdV ((n + 1) * M) d v := fun v hv => by
  have up : ∀ v, BdV (n * M) d v → BdV ((n + 1) * M) d v := fun v h => ⟨h.1.mono (Nat.mul_le_mul_right _ (by omega)) (Nat.dvd_refl _), h.2.mono (Nat.mul_le_mul_right _ (by omega)) (Nat.dvd_refl _)⟩
  unfold barStep at hv
  rcases List.mem_or_eq_of_mem_set hv with h | rfl
  · rcases List.mem_or_eq_of_mem_set h with h | rfl
    · exact up v (ht v h)
    · rw [Nat.succ_mul]; exact (ht _ (vAt_mem hi)).add hp
  · rw [Nat.succ_mul]; exact (ht _ (vAt_mem hj)).sub hp
theorem footStep_bd {t : List V2} {i n : Nat} {p : V2} {M d : Nat} (hi : i < t.length) (ht : ∀ v ∈ t, BdV (n * M) d v) (hp : BdV M d p) : ∀ v ∈ footStep t i p, BdV ((n + 1) * M) d v := fun v hv => by
  have up : ∀ v, BdV (n * M) d v → BdV ((n + 1) * M) d v := fun v h => ⟨h.1.mono (Nat.mul_le_mul_right _ (by omega)) (Nat.dvd_refl _), h.2.mono (Nat.mul_le_mul_right _ (by omega)) (Nat.dvd_refl _)⟩
  unfold footStep at hv
  rcases List.mem_or_eq_of_mem_set hv with h | rfl
  · exact up v (ht v h)
  · rw [Nat.succ_mul]; exact (ht _ (vAt_mem hi)).add hp
/-- both ways are one -/
theorem barAcc_eq {f : Frame} {A d : Nat} (hf : FrOk f A d) : ∀ (ps : List (Rat × Bar)) (t : List V2), (∀ p ∈ ps, p.2 ∈ f.bars) → t.length = f.joints.length → barAcc f t ps = accV t (ps.map fun p => (p.1, barVec f p.2)) ∧ (barAcc f t ps).length = f.joints.length
  | [], t, _, h => ⟨rfl, h⟩
  | p :: r, t, hp, h => by
    obtain ⟨hi, hj, hne⟩ := hf.bi _ (hp p List.mem_cons_self)
    have st := barStep_eq (f := f) (b := p.2) (t := t) (q := p.1) h hi hj hne
    have ih := barAcc_eq hf r (barStep t p.2.i p.2.j ((f.span p.2).smul p.1)) (fun q hq => hp q (List.mem_cons_of_mem _ hq)) (by rw [barStep_len]; exact h)
    have c : barAcc f t (p :: r) = barAcc f (barStep t p.2.i p.2.j ((f.span p.2).smul p.1)) r := rfl
    rw [c]
    refine ⟨?_, ih.2⟩
    rw [ih.1, st]
    rfl
theorem footAcc_eq {f : Frame} {A d : Nat} (hf : FrOk f A d) : ∀ (ps : List (Rat × Foot)) (t : List V2), (∀ p ∈ ps, p.2 ∈ f.feet) → t.length = f.joints.length → footAcc t ps = accV t (ps.map fun p => (p.1, footVec f p.2)) ∧ (footAcc t ps).length = f.joints.length
  | [], t, _, h => ⟨rfl, h⟩
  | p :: r, t, hp, h => by
    have hi := hf.fi _ (hp p List.mem_cons_self)
    have st := footStep_eq (f := f) (b := p.2) (t := t) (q := p.1) h hi
    have ih := footAcc_eq hf r (footStep t p.2.at_ (p.2.way.smul p.1)) (fun q hq => hp q (List.mem_cons_of_mem _ hq)) (by rw [footStep_len]; exact h)
    have c : footAcc t (p :: r) = footAcc (footStep t p.2.at_ (p.2.way.smul p.1)) r := rfl
    rw [c]
    refine ⟨?_, ih.2⟩
    rw [ih.1, st]
    rfl
theorem forces_eq {f : Frame} {s : Stt} {A d : Nat} (hf : FrOk f A d) (h1 : s.qs.length = f.bars.length) : footAcc (barAcc f (zeroV f.joints.length) (s.qs.zip f.bars)) (s.rs.zip f.feet) = forcesV f s := by
  obtain ⟨e1, l1⟩ := barAcc_eq hf (s.qs.zip f.bars) (zeroV f.joints.length) (fun p hp => (List.of_mem_zip hp).2) (zeroV_len _)
  obtain ⟨e2, _⟩ := footAcc_eq hf (s.rs.zip f.feet) _ (fun p hp => (List.of_mem_zip hp).2) l1
  rw [e2, e1]
  unfold forcesV rowsV
  have z : (s.qs ++ s.rs).zip (f.bars.map (barVec f) ++ f.feet.map (footVec f)) = (s.qs.zip f.bars).map (fun p => (p.1, barVec f p.2)) ++ (s.rs.zip f.feet).map fun p => (p.1, footVec f p.2) := by
    rw [List.zip_append (by rw [List.length_map]; exact h1), List.zip_map_right, List.zip_map_right]
    rfl
  rw [z]
  unfold accV
  rw [List.foldl_append]
section
variable {w k : Nat} {T : List Fn} {g : G}
theorem law_bars_loop (hL : HL T) {f : Frame} {s : Stt} {A B d e : Nat} (hf : FrOk f A d) (hs : StOk f s B e) (s1 : Sml (A + A) d) (s2 : Sml B e) (hN : Sml (1001 * (B * (A + A))) (e * d)) : ∀ (n i : Nat) (t : List V2), i + n = f.bars.length → t.length = f.joints.length → (∀ v ∈ t, BdV (i * (B * (A + A))) (e * d) v) →
    forL (gNm 3)
    (sSeq (sAsg 4 (c2 pyIx (cD (cVIx 0 (cD (cK (.int 3))))) (cVP 3)))
    (sSeq (sAsg 5 (cCall (callN w T (k + 3)) 50 (cACons (cVE 0) (cACons (cVE 4) cANil))))
    (sSeq (sAsg 6 (cTup (cCons (cD (cCall (callN w T (k + 3)) 7 (cACons (c2 pyIx (cD (cVIx 1 (cD (cK (.int 0))))) (cVP 3)) (cACons (cVIx 5 (cD (cK (.int 0)))) cANil)))) (cCons (cD (cCall (callN w T (k + 3)) 7 (cACons (c2 pyIx (cD (cVIx 1 (cD (cK (.int 0))))) (cVP 3)) (cACons (cVIx 5 (cD (cK (.int 1)))) cANil)))) cNil))))
    (sSeq (sPar 7 8 (cD (cVIx 4 (cD (cK (.int 1))))) (cD (cVIx 4 (cD (cK (.int 2))))))
    (sSeq (sSetIx 2 (cVP 7) (cD (cTup (cCons (cD (cCall (callN w T (k + 3)) 5 (cACons (c2 pyIx (cD (cVIx 2 (cVP 7))) (cD (cK (.int 0)))) (cACons (cVIx 6 (cD (cK (.int 0)))) cANil)))) (cCons (cD (cCall (callN w T (k + 3)) 5 (cACons (c2 pyIx (cD (cVIx 2 (cVP 7))) (cD (cK (.int 1)))) (cACons (cVIx 6 (cD (cK (.int 1)))) cANil)))) cNil)))))
    (sSetIx 2 (cVP 8) (cD (cTup (cCons (cD (cCall (callN w T (k + 3)) 6 (cACons (c2 pyIx (cD (cVIx 2 (cVP 8))) (cD (cK (.int 0)))) (cACons (cVIx 6 (cD (cK (.int 0)))) cANil)))) (cCons (cD (cCall (callN w T (k + 3)) 6 (cACons (c2 pyIx (cD (cVIx 2 (cVP 8))) (cD (cK (.int 1)))) (cACons (cVIx 6 (cD (cK (.int 1)))) cANil)))) cNil)))))))))) ((List.range' i n).map fun (j : Nat) => PyData.int j) [some (.fz (frD f)), some (.fz (stD s)), some (.ow (t.map vD)), none, none, none, none, none, none, none, none, none, none] g
      = .ok .nx [some (.fz (frD f)), some (.fz (stD s)), some (.ow ((barAcc f t ((s.qs.drop i).zip (f.bars.drop i))).map vD)), none, none, none, none, none, none, none, none, none, none] g ∧
      ∀ v ∈ barAcc f t ((s.qs.drop i).zip (f.bars.drop i)), BdV (f.bars.length * (B * (A + A))) (e * d) v := by
  intro n
  induction n with
  | zero =>
    intro i t hi hl ht
    rw [List.drop_of_length_le (l := f.bars) (by omega), List.zip_nil_right]
    have : i = f.bars.length := by omega
    subst this
    exact ⟨rfl, ht⟩
  | succ n ih =>
    intro i t hi hl ht
    have nb := hf.nb
    have l1 : i < f.bars.length := by omega
    have l2 : i < s.qs.length := by rw [hs.nq]; omega
    have hb : f.bars[i] ∈ f.bars := List.getElem_mem l1
    obtain ⟨hbi, hbj, hne⟩ := hf.bi _ hb
    have bq := hs.bq _ (List.getElem_mem l2)
    have sp := span_bd hf hb
    have bp := BdV.smul bq sp
    have fp : FitV ((f.span f.bars[i]).smul s.qs[i]) := bp.fit (hN.mono (Nat.le_mul_of_pos_left _ (by decide)) (Nat.le_refl _) hN.1)
    have ft : ∀ v ∈ t, FitV v := fun v hv => (ht v hv).fit (hN.mono (Nat.mul_le_mul_right _ (by omega)) (Nat.le_refl _) hN.1)
    have pl : f.places.length = f.joints.length := by unfold Frame.places; rw [List.length_map]
    have s0 : Sml A d := s1.mono (Nat.le_add_left _ _) (Nat.le_refl _) s1.1
    have e1 := law_span_ok (w := w) (k := k) (g := g) hL hbi hbj ((hf.pl _ (vAt_mem (l := f.places) (by omega))).fit s0) ((hf.pl _ (vAt_mem (l := f.places) (by omega))).fit s0)
    have m1 := law_mult_ok (w := w) (k := k + 1) (g := g) hL (bq.fit s2) (sp.fit s1).1
    have m2 := law_mult_ok (w := w) (k := k + 1) (g := g) hL (bq.fit s2) (sp.fit s1).2
    have e6 : PyData.tuple [qD (s.qs[i] * (f.span f.bars[i]).x), qD (s.qs[i] * (f.span f.bars[i]).y)] = vD ((f.span f.bars[i]).smul s.qs[i]) := rfl
    have fi := ft _ (vAt_mem (l := t) (i := f.bars[i].i) (by omega))
    have fj := ft _ (vAt_mem (l := t) (i := f.bars[i].j) (by omega))
    have p1 := law_plus_ok (w := w) (k := k + 1) (g := g) hL fi.1 fp.1
    have p2 := law_plus_ok (w := w) (k := k + 1) (g := g) hL fi.2 fp.2
    have q1 := law_minus_ok (w := w) (k := k + 1) (g := g) hL fj.1 fp.1
    have q2 := law_minus_ok (w := w) (k := k + 1) (g := g) hL fj.2 fp.2
    generalize hP : (f.span f.bars[i]).smul s.qs[i] = P at *
    have e7 : PyData.tuple [qD ((vAt t f.bars[i].i).x + P.x), qD ((vAt t f.bars[i].i).y + P.y)] = vD ((vAt t f.bars[i].i).add P) := rfl
    have e8 : PyData.tuple [qD ((vAt t f.bars[i].j).x - P.x), qD ((vAt t f.bars[i].j).y - P.y)] = vD ((vAt t f.bars[i].j).sub P) := rfl
    have g1 := vGetL (l := t) (i := f.bars[i].i) (by omega)
    have g2 := vGetL (l := t.set f.bars[i].i ((vAt t f.bars[i].i).add P)) (i := f.bars[i].j) (by rw [List.length_set]; omega)
    rw [vAt_set (by omega), if_neg hne] at g2
    have st1' := setV (l := t) (i := f.bars[i].i) ((vAt t f.bars[i].i).add P) (by omega)
    have st2' := setV (l := t.set f.bars[i].i ((vAt t f.bars[i].i).add P)) (i := f.bars[i].j) ((vAt t f.bars[i].j).sub P) (by rw [List.length_set]; omega)
    have bs : (t.set f.bars[i].i ((vAt t f.bars[i].i).add P)).set f.bars[i].j ((vAt t f.bars[i].j).sub P) = barStep t f.bars[i].i f.bars[i].j P := rfl
    rw [bs] at st2'
    obtain ⟨r1, r2⟩ := ih (i + 1) (barStep t f.bars[i].i f.bars[i].j P) (by omega) (by rw [barStep_len]; exact hl) (barStep_bd (by omega) (by omega) ht bp)
    have bg := barGet (f := f) l1
    have qg := rowGet (xs := s.qs) l2
    rw [zip_drop_cons l2 l1]
    have c : barAcc f t ((s.qs[i], f.bars[i]) :: (s.qs.drop (i + 1)).zip (f.bars.drop (i + 1))) = barAcc f (barStep t f.bars[i].i f.bars[i].j P) ((s.qs.drop (i + 1)).zip (f.bars.drop (i + 1))) := by rw [← hP]; rfl
    rw [c]
    refine ⟨?_, r2⟩
    rw [← r1, List.range'_succ, List.map_cons]
    simp [-List.map_set, forL, fr3, bg, e1, st0, qg, v0, v1, m1, m2, e6, br1, br2, g1, p1, p2, e7, st1', g2, q1, q2, e8, st2']
theorem law_feet_loop (hL : HL T) {f : Frame} {s : Stt} {A B M d e D : Nat} (hf : FrOk f A d) (hs : StOk f s B e) (s1 : Sml A d) (s2 : Sml B e) (n0 : Nat) (hM : B * A ≤ M) (hN : Sml ((n0 + 1001) * M) (e * d)) : ∀ (n i : Nat) (t : List V2), i + n = f.feet.length → t.length = f.joints.length → (∀ v ∈ t, BdV ((n0 + i) * M) (e * d) v) →
    forL (gNm 9)
    (sSeq (sUnp (gTp 3 (gC (gNm 10) (gC (gNm 5) (gC (gNm 11) gN)))) (cD (c2 pyIx (cD (cVIx 0 (cD (cK (.int 2))))) (cVP 9))))
    (sSeq (sAsg 12 (c2 pyIx (cD (cVIx 1 (cD (cK (.int 1))))) (cVP 9)))
    (sSetIx 2 (cVP 10) (cD (cTup (cCons (cD (cCall (callN w T (k + 3)) 5 (cACons (c2 pyIx (cD (cVIx 2 (cVP 10))) (cD (cK (.int 0)))) (cACons (cCall (callN w T (k + 3)) 7 (cACons (cVE 12) (cACons (cVIx 5 (cD (cK (.int 0)))) cANil))) cANil)))) (cCons (cD (cCall (callN w T (k + 3)) 5 (cACons (c2 pyIx (cD (cVIx 2 (cVP 10))) (cD (cK (.int 1)))) (cACons (cCall (callN w T (k + 3)) 7 (cACons (cVE 12) (cACons (cVIx 5 (cD (cK (.int 1)))) cANil))) cANil)))) cNil)))))))  ((List.range' i n).map fun (j : Nat) => PyData.int j) [some (.fz (frD f)), some (.fz (stD s)), some (.ow (t.map vD)), none, none, none, none, none, none, none, none, none, none] g
      = .ok .nx [some (.fz (frD f)), some (.fz (stD s)), some (.ow ((footAcc t ((s.rs.drop i).zip (f.feet.drop i))).map vD)), none, none, none, none, none, none, none, none, none, none] g := by
  intro n
  induction n with
  | zero =>
    intro i t hi hl ht
    rw [List.drop_of_length_le (l := f.feet) (by omega), List.zip_nil_right]
    rfl
  | succ n ih =>
    intro i t hi hl ht
    have nb := hf.nf
    have l1 : i < f.feet.length := by omega
    have l2 : i < s.rs.length := by rw [hs.nr]; omega
    have hb : f.feet[i] ∈ f.feet := List.getElem_mem l1
    have hbi := hf.fi _ hb
    have bq := hs.br _ (List.getElem_mem l2)
    have sp := hf.wy _ hb
    have bp0 := BdV.smul bq sp
    have bp : BdV M (e * d) (f.feet[i].way.smul s.rs[i]) := ⟨bp0.1.mono hM (Nat.dvd_refl _), bp0.2.mono hM (Nat.dvd_refl _)⟩
    have fp : FitV (f.feet[i].way.smul s.rs[i]) := bp.fit (hN.mono (Nat.le_mul_of_pos_left _ (by omega)) (Nat.le_refl _) hN.1)
    have ft : ∀ v ∈ t, FitV v := fun v hv => (ht v hv).fit (hN.mono (Nat.mul_le_mul_right _ (by omega)) (Nat.le_refl _) hN.1)
    have m1 := law_mult_ok (w := w) (k := k + 1) (g := g) hL (bq.fit s2) (sp.fit s1).1
    have m2 := law_mult_ok (w := w) (k := k + 1) (g := g) hL (bq.fit s2) (sp.fit s1).2
    have fi := ft _ (vAt_mem (l := t) (i := f.feet[i].at_) (by omega))
    have p1 := law_plus_ok (w := w) (k := k + 1) (g := g) hL fi.1 fp.1
    have p2 := law_plus_ok (w := w) (k := k + 1) (g := g) hL fi.2 fp.2
    have e6 : s.rs[i] * f.feet[i].way.x = (f.feet[i].way.smul s.rs[i]).x := rfl
    have e6' : s.rs[i] * f.feet[i].way.y = (f.feet[i].way.smul s.rs[i]).y := rfl
    rw [e6] at m1
    rw [e6'] at m2
    generalize hP : f.feet[i].way.smul s.rs[i] = P at *
    have e7 : PyData.tuple [qD ((vAt t f.feet[i].at_).x + P.x), qD ((vAt t f.feet[i].at_).y + P.y)] = vD ((vAt t f.feet[i].at_).add P) := rfl
    have g1 := vGetL (l := t) (i := f.feet[i].at_) (by omega)
    have st1' := setV (l := t) (i := f.feet[i].at_) ((vAt t f.feet[i].at_).add P) (by omega)
    have bs : t.set f.feet[i].at_ ((vAt t f.feet[i].at_).add P) = footStep t f.feet[i].at_ P := rfl
    rw [bs] at st1'
    have r1 := ih (i + 1) (footStep t f.feet[i].at_ P) (by omega) (by rw [footStep_len]; exact hl) (footStep_bd (by omega) ht bp)
    have bg := footGet (f := f) l1
    have qg := rowGet (xs := s.rs) l2
    rw [zip_drop_cons l2 l1]
    have c : footAcc t ((s.rs[i], f.feet[i]) :: (s.rs.drop (i + 1)).zip (f.feet.drop (i + 1))) = footAcc (footStep t f.feet[i].at_ P) ((s.rs.drop (i + 1)).zip (f.feet.drop (i + 1))) := by rw [← hP]; rfl
    rw [c, ← r1, List.range'_succ, List.map_cons]
    have fd : footD f.feet[i] = .tuple [.int f.feet[i].at_, vD f.feet[i].way, .str (if f.feet[i].both then "both" else "push")] := rfl
    rw [fd] at bg
    simp [-List.map_set, forL, fr2, bg, st1, qg, v0, v1, m1, m2, g1, p1, p2, e7, st1']
theorem law_forces_ok (hL : HL T) {f : Frame} {s : Stt} {A B d e : Nat} (hf : FrOk f A d) (hs : StOk f s B e) (s1 : Sml (A + A) d) (s2 : Sml B e) (hN : Sml (2001 * (B * (A + A))) (e * d)) :
    callN w T (k + 4) 51 [.fz (frD f), .fz (stD s)] g = .ok (.ow ((forcesV f s).map vD)) g := by
  have nb := hf.nb
  have nf := hf.nf
  have nj := hf.nj
  have c0 := compL_img (tg := gNm 10) (f := cD (cTup (cCons (cD (cTup (cCons (cD (cK (.int 0))) (cCons (cD (cK (.int 1))) cNil)))) (cCons (cD (cTup (cCons (cD (cK (.int 0))) (cCons (cD (cK (.int 1))) cNil)))) cNil)))) (vs := [10]) (σ := [some (.fz (frD f)), some (.fz (stD s)), none, none, none, none, none, none, none, none, none, none, none]) (g := g) (fun (j : Str × V2) => PyData.tuple [.str j.1, vD j.2]) (fun _ => vD V2.z) f.joints [] (fun j hj => by
    exact ⟨[some (.fz (frD f)), some (.fz (stD s)), none, none, none, none, none, none, none, none, some (.fz (.tuple [.str j.1, vD j.2])), none, none], [some (.fz (frD f)), some (.fz (stD s)), none, none, none, none, none, none, none, none, some (.fz (.tuple [.str j.1, vD j.2])), none, none], by simp, by simp [z_lit], by simp⟩) (by rw [List.length_nil]; omega)
  have zz : f.joints.map (fun _ => vD V2.z) = (zeroV f.joints.length).map vD := by
    unfold zeroV
    rw [List.map_const', List.map_replicate]
  rw [List.nil_append, zz] at c0
  obtain ⟨l1, b1⟩ := law_bars_loop (w := w) (k := k) (g := g) hL hf hs s1 s2 (hN.mono (Nat.mul_le_mul_right _ (by decide)) (Nat.le_refl _) hN.1) f.bars.length 0 (zeroV f.joints.length) (by omega) (zeroV_len _) (fun v hv => by
    unfold zeroV at hv
    rw [(List.mem_replicate.mp hv).2]
    exact BdV.zero _ _)
  rw [List.drop_zero, List.drop_zero] at l1 b1
  obtain ⟨e1, ll⟩ := barAcc_eq hf (s.qs.zip f.bars) (zeroV f.joints.length) (fun p hp => (List.of_mem_zip hp).2) (zeroV_len _)
  have l2 := law_feet_loop (w := w) (k := k) (g := g) (M := B * (A + A)) (D := 0) hL hf hs (s1.mono (Nat.le_add_left _ _) (Nat.le_refl _) s1.1) s2 f.bars.length (Nat.mul_le_mul_left _ (Nat.le_add_left _ _)) (hN.mono (Nat.mul_le_mul_right _ (by omega)) (Nat.le_refl _) hN.1) f.feet.length 0 _ (by omega) ll b1
  rw [List.drop_zero, List.drop_zero, forces_eq hf hs.nq] at l2
  rw [← List.range_eq_range', ← rngD_nat] at l1 l2
  have r1 := rng1N (n := f.bars.length) (by omega)
  have r2 := rng1N (n := f.feet.length) (by omega)
  rw [callN_at (hL.h (i := 51) rfl)]
  generalize (forcesV f s).map vD = X at *
  generalize (barAcc f (zeroV f.joints.length) (s.qs.zip f.bars)).map vD = Y at *
  generalize (zeroV f.joints.length).map vD = Z at *
  simp [cLc, semF, runF, b_law_forces, fr1, fr2, fr3, c0, r1, r2, l1, l2]
end
end
end FD
/-! FDF9: lawful by the law; balance. -/
namespace FD
noncomputable section
open PySem
theorem range_all {α : Type} (P : α → Bool) (l : List α) : ((List.range l.length).all fun j => !(l[j]?).any P) = l.all fun a => !P a := by
  rw [Bool.eq_iff_iff, List.all_eq_true, List.all_eq_true]
  constructor
  · intro h a ha
    obtain ⟨i, hi, rfl⟩ := List.getElem_of_mem ha
    have := h i (List.mem_range.mpr hi)
    rw [List.getElem?_eq_getElem hi] at this
    exact this
  · intro h j hj
    rw [List.mem_range] at hj
    rw [List.getElem?_eq_getElem hj]
    exact h _ (List.getElem_mem hj)
@[simp] theorem lay_qD (r : Rat) : (qD r).canLay0 = true := by simp [qD]
@[simp] theorem dep_qD (r : Rat) : (qD r).depth = 1 := by simp [qD]
@[simp] theorem lay_vD (r : V2) : (vD r).canLay0 = true := by simp [vD]
@[simp] theorem dep_vD (r : V2) : (vD r).depth = 2 := by simp [vD]
theorem layA_map {α : Type} (f : α → D) : ∀ l : List α, (∀ x ∈ l, (f x).canLay0 = true) → PyData.canLayAll0 (l.map f) = true
  | [], _ => by simp
  | x :: r, h => by
    have := layA_map f r fun y hy => h y (List.mem_cons_of_mem _ hy)
    simp [this, h x List.mem_cons_self]
theorem depA_map {α : Type} (f : α → D) (n : Nat) : ∀ l : List α, (∀ x ∈ l, (f x).depth ≤ n) → PyData.depthAll (l.map f) ≤ n
  | [], _ => by simp
  | x :: r, h => by
    have := depA_map f n r fun y hy => h y (List.mem_cons_of_mem _ hy)
    have := h x List.mem_cons_self
    simp
    omega
theorem shp_map {α : Type} (f : α → D) (n : Nat) (hn : n < 64) (l : List α) (h : ∀ x ∈ l, (f x).canLay0 = true) (h2 : ∀ x ∈ l, (f x).depth ≤ n) : SeqAt.shaped (.tuple (l.map f)) = true := by
  have := layA_map f l h
  have := depA_map f n l h2
  simp [*]
  omega
theorem eqvA_map {α : Type} [DecidableEq α] (f : α → D) (hf : ∀ a b, (f a).eqv (f b) = decide (a = b)) : ∀ (l m : List α), PyData.eqvAll (l.map f) (m.map f) = decide (l = m)
  | [], [] => by simp
  | [], y :: s => by simp
  | x :: r, [] => by simp
  | x :: r, y :: s => by
    have ih := eqvA_map f hf r s
    simp [ih, hf]
theorem eqv_qD (r s : Rat) : (qD r).eqv (qD s) = decide (r = s) := by
  have h := eqQ r s
  unfold pyEq at h
  split at h
  · injection h
  · cases h
instance : DecidableEq V2 := fun a b => if h : a.x = b.x ∧ a.y = b.y then .isTrue (V2.ext' h.1 h.2) else .isFalse fun e => h (by rw [e]; exact ⟨rfl, rfl⟩)
theorem eqv_vD (r s : V2) : (vD r).eqv (vD s) = decide (r = s) := by
  have c : r = s ↔ r.x = s.x ∧ r.y = s.y := ⟨fun h => by rw [h]; exact ⟨rfl, rfl⟩, fun h => V2.ext' h.1 h.2⟩
  have d : decide (r = s) = (decide (r.x = s.x) && decide (r.y = s.y)) := by
    rw [Bool.eq_iff_iff]
    simp [c]
  rw [d]
  simp [vD, eqv_qD]
theorem eqL (a b : List V2) : pyEq (lsD a) (lsD b) = some (decide (a = b)) := by
  have h1 : SeqAt.shaped (lsD a) = true := shp_map vD 2 (by decide) a (fun x _ => lay_vD x) (fun x _ => by rw [dep_vD]; exact Nat.le_refl _)
  have h2 : SeqAt.shaped (lsD b) = true := shp_map vD 2 (by decide) b (fun x _ => lay_vD x) (fun x _ => by rw [dep_vD]; exact Nat.le_refl _)
  have ok : eqOk (lsD a) (lsD b) = true := by
    show (SeqAt.shaped (lsD a) && SeqAt.shaped (lsD b)) = true
    rw [h1, h2]; rfl
  unfold pyEq
  rw [if_pos ok]
  have e : (lsD a).eqv (lsD b) = PyData.eqvAll (a.map vD) (b.map vD) := eqv_tuple_tuple _ _
  rw [e, eqvA_map vD eqv_vD]
section
variable {w k : Nat} {T : List Fn} {g : G}
theorem lt_sub (p q : Rat) : decide ((p - q).num < 0) = decide (p < q) := by
  rw [Bool.eq_iff_iff, decide_eq_true_iff, decide_eq_true_iff, num_neg]
  grind
theorem lt_add (p q : Rat) : decide ((p + q).num < 0) = decide (p < -q) := by
  rw [Bool.eq_iff_iff, decide_eq_true_iff, decide_eq_true_iff, num_neg]
  grind
theorem law_lawful_loop (hL : HL T) {f : Frame} {s : Stt} {B e L l : Nat} (hs : StOk f s B e) (hl : LimOk f L l) (s1 : Sml B e) (s2 : Sml L l) : ∀ (n i : Nat), i + n = f.bars.length →
    (lawQ ((s.qs.drop i).zip (f.bars.drop i)) = true → forL (gNm 2) (sSeq (sPar 3 4 (cD (c2 pyIx (cD (c2 pyIx (cD (cVIx 0 (cD (cK (.int 3))))) (cVP 2))) (cD (cK (.int 3))))) (cD (c2 pyIx (cD (c2 pyIx (cD (cVIx 0 (cD (cK (.int 3))))) (cVP 2))) (cD (cK (.int 4))))))
    (sSeq (sIf (cAnd (cCmp pyIsNot (cVP 3) (cD (cK .none))) (cCmp pyLt (cD (c2 pyIx (cD (cCall (callN w T (k + 2)) 6 (cACons (cVE 3) (cACons (c2 pyIx (cD (cVIx 1 (cD (cK (.int 0))))) (cVP 2)) cANil)))) (cD (cK (.int 0))))) (cD (cK (.int 0)))))
      (sRet (cK (.bool false)))
      sPass)
    (sIf (cAnd (cCmp pyIsNot (cVP 4) (cD (cK .none))) (cCmp pyLt (cD (c2 pyIx (cD (cCall (callN w T (k + 2)) 5 (cACons (cVE 4) (cACons (c2 pyIx (cD (cVIx 1 (cD (cK (.int 0))))) (cVP 2)) cANil)))) (cD (cK (.int 0))))) (cD (cK (.int 0)))))
      (sRet (cK (.bool false)))
      sPass))) ((List.range' i n).map fun (j : Nat) => PyData.int j) [some (.fz (frD f)), some (.fz (stD s)), none, none, none, none] g = .ok .nx [some (.fz (frD f)), some (.fz (stD s)), none, none, none, none] g) ∧
    (lawQ ((s.qs.drop i).zip (f.bars.drop i)) = false → ∃ σ, forL (gNm 2) (sSeq (sPar 3 4 (cD (c2 pyIx (cD (c2 pyIx (cD (cVIx 0 (cD (cK (.int 3))))) (cVP 2))) (cD (cK (.int 3))))) (cD (c2 pyIx (cD (c2 pyIx (cD (cVIx 0 (cD (cK (.int 3))))) (cVP 2))) (cD (cK (.int 4))))))
    (sSeq (sIf (cAnd (cCmp pyIsNot (cVP 3) (cD (cK .none))) (cCmp pyLt (cD (c2 pyIx (cD (cCall (callN w T (k + 2)) 6 (cACons (cVE 3) (cACons (c2 pyIx (cD (cVIx 1 (cD (cK (.int 0))))) (cVP 2)) cANil)))) (cD (cK (.int 0))))) (cD (cK (.int 0)))))
      (sRet (cK (.bool false)))
      sPass)
    (sIf (cAnd (cCmp pyIsNot (cVP 4) (cD (cK .none))) (cCmp pyLt (cD (c2 pyIx (cD (cCall (callN w T (k + 2)) 5 (cACons (cVE 4) (cACons (c2 pyIx (cD (cVIx 1 (cD (cK (.int 0))))) (cVP 2)) cANil)))) (cD (cK (.int 0))))) (cD (cK (.int 0)))))
      (sRet (cK (.bool false)))
      sPass))) ((List.range' i n).map fun (j : Nat) => PyData.int j) [some (.fz (frD f)), some (.fz (stD s)), none, none, none, none] g = .ok (.rt (.fz (.bool false))) σ g) := by
  intro n
  induction n with
  | zero =>
    intro i hi
    rw [List.drop_of_length_le (l := f.bars) (by omega), List.zip_nil_right]
    exact ⟨fun _ => rfl, fun h => by simp [lawQ] at h⟩
  | succ n ih =>
    intro i hi
    have l1 : i < f.bars.length := by omega
    have l2 : i < s.qs.length := by rw [hs.nq]; omega
    have hb : f.bars[i] ∈ f.bars := List.getElem_mem l1
    have fq := (hs.bq _ (List.getElem_mem l2)).fit s1
    have bg := barGet (f := f) l1
    have qg := rowGet (xs := s.qs) l2
    rw [zip_drop_cons l2 l1, List.range'_succ, List.map_cons]
    have ih1 := ih (i + 1) (by omega)
    generalize hA : cAnd (cCmp pyIsNot (cVP 3) (cD (cK .none))) (cCmp pyLt (cD (c2 pyIx (cD (cCall (callN w T (k + 2)) 6 (cACons (cVE 3) (cACons (c2 pyIx (cD (cVIx 1 (cD (cK (.int 0))))) (cVP 2)) cANil)))) (cD (cK (.int 0))))) (cD (cK (.int 0)))) = XA at *
    generalize hB : cAnd (cCmp pyIsNot (cVP 4) (cD (cK .none))) (cCmp pyLt (cD (c2 pyIx (cD (cCall (callN w T (k + 2)) 5 (cACons (cVE 4) (cACons (c2 pyIx (cD (cVIx 1 (cD (cK (.int 0))))) (cVP 2)) cANil)))) (cD (cK (.int 0))))) (cD (cK (.int 0)))) = XB at *
    have p1 : XA [some (.fz (frD f)), some (.fz (stD s)), some (.fz (.int i)), some (.fz (oqD f.bars[i].pull)), some (.fz (oqD f.bars[i].push)), none] g = .ok (overB f.bars[i].pull s.qs[i]) [some (.fz (frD f)), some (.fz (stD s)), some (.fz (.int i)), some (.fz (oqD f.bars[i].pull)), some (.fz (oqD f.bars[i].push)), none] g := by
      rw [← hA]
      unfold overB
      cases h : f.bars[i].pull with
      | none => simp
      | some p =>
        have m := law_minus_ok (w := w) (k := k) (g := g) hL ((hl _ hb p (.inl h)).fit s2) fq
        have lt := lt_sub p s.qs[i]
        simp [st0, qg, m, qix0]
        simpa using lt
    have p2 : XB [some (.fz (frD f)), some (.fz (stD s)), some (.fz (.int i)), some (.fz (oqD f.bars[i].pull)), some (.fz (oqD f.bars[i].push)), none] g = .ok (overB f.bars[i].push (-s.qs[i])) [some (.fz (frD f)), some (.fz (stD s)), some (.fz (.int i)), some (.fz (oqD f.bars[i].pull)), some (.fz (oqD f.bars[i].push)), none] g := by
      rw [← hB]
      unfold overB
      cases h : f.bars[i].push with
      | none => simp
      | some p =>
        have m := law_plus_ok (w := w) (k := k) (g := g) hL ((hl _ hb p (.inr h)).fit s2) fq
        have lt := lt_add p s.qs[i]
        simp [st0, qg, m, qix0]
        simpa using lt
    have c : lawQ ((s.qs[i], f.bars[i]) :: (s.qs.drop (i + 1)).zip (f.bars.drop (i + 1))) = ((!overB f.bars[i].pull s.qs[i] && !overB f.bars[i].push (-s.qs[i])) && lawQ ((s.qs.drop (i + 1)).zip (f.bars.drop (i + 1)))) := rfl
    rw [c]
    refine ⟨fun h => ?_, fun h => ?_⟩
    · rw [Bool.and_eq_true] at h
      have i1 := ih1.1 h.2
      have h4 : overB f.bars[i].pull s.qs[i] = false ∧ overB f.bars[i].push (-s.qs[i]) = false := by
        have := h.1
        cases h1 : overB f.bars[i].pull s.qs[i] <;> cases h2 : overB f.bars[i].push (-s.qs[i]) <;> simp [h1, h2] at this ⊢
      rw [h4.1] at p1
      rw [h4.2] at p2
      rw [← i1]
      simp [forL, fr3, bg, br3, br4, p1, p2]
    · cases h1 : overB f.bars[i].pull s.qs[i] with
      | true =>
        rw [h1] at p1
        exact ⟨_, by simp [forL, fr3, bg, br3, br4, p1]; rfl⟩
      | false =>
        rw [h1] at p1
        cases h2 : overB f.bars[i].push (-s.qs[i]) with
        | true =>
          rw [h2] at p2
          exact ⟨_, by simp [forL, fr3, bg, br3, br4, p1, p2]; rfl⟩
        | false =>
          rw [h2] at p2
          rw [h1, h2] at h
          obtain ⟨σ, i2⟩ := ih1.2 (by simpa using h)
          refine ⟨σ, ?_⟩
          rw [← i2]
          simp [forL, fr3, bg, br3, br4, p1, p2]
theorem law_lawful_ok (hL : HL T) {f : Frame} {s : Stt} {B e L l : Nat} (hf : f.bars.length ≤ 1000) (hf2 : f.feet.length ≤ 1000) (hs : StOk f s B e) (hl : LimOk f L l) (s1 : Sml B e) (s2 : Sml L l) :
    callN w T (k + 3) 52 [.fz (frD f), .fz (stD s)] g = .ok (.fz (.bool (lawfulB f s))) g := by
  have lp := law_lawful_loop (w := w) (k := k) (g := g) hL hs hl s1 s2 f.bars.length 0 (by omega)
  rw [List.drop_zero, List.drop_zero, ← List.range_eq_range', ← rngD_nat] at lp
  have zl : (s.rs.zip f.feet).length = f.feet.length := by rw [List.length_zip, hs.nr, Nat.min_self]
  have cf := compL_imgF (tg := gNm 5) (t := cAnd (cCmp pyEq (cD (c2 pyIx (cD (c2 pyIx (cD (cVIx 0 (cD (cK (.int 2))))) (cVP 5))) (cD (cK (.int 2))))) (cD (cK (.str "push")))) (cCmp pyLt (cD (c2 pyIx (cD (c2 pyIx (cD (cVIx 1 (cD (cK (.int 1))))) (cVP 5))) (cD (cK (.int 0))))) (cD (cK (.int 0))))) (f := cD (cK (.int 1))) (vs := [5]) (σ := [some (.fz (frD f)), some (.fz (stD s)), none, none, none, none]) (g := g)
    (fun (j : Nat) => PyData.int j) (fun j => ((s.rs.zip f.feet)[j]?).any fun p => !p.2.both && decide (p.1 < 0)) (fun _ => .int 1) (List.range (s.rs.zip f.feet).length) [] (fun j hj => by
      rw [List.mem_range, zl] at hj
      have hr : j < s.rs.length := by rw [hs.nr]; exact hj
      have fg := footGet (f := f) hj
      have rg := rowGet (xs := s.rs) hr
      have e : (s.rs.zip f.feet)[j]? = some (s.rs[j], f.feet[j]) := by
        rw [List.getElem?_eq_getElem (by omega), List.getElem_zip]
      rw [e]
      refine ⟨[some (.fz (frD f)), some (.fz (stD s)), none, none, none, some (.fz (.int j))], [some (.fz (frD f)), some (.fz (stD s)), none, none, none, some (.fz (.int j))], by simp, ?_, fun _ => ⟨_, rfl, by simp⟩, fun _ => by simp⟩
      have n := num_neg (r := s.rs[j])
      have pe := push_eq f.feet[j].both
      cases hb : f.feet[j].both <;> rw [hb] at pe <;> simp [fr2, fg, st1, rg, ft2, hb, qix0, n] at pe ⊢ <;> simp [pe]) (by
      rw [List.length_range, zl, List.length_nil]; omega)
  rw [List.nil_append] at cf
  have c0 := count0 (fun j => ((s.rs.zip f.feet)[j]?).any fun (p : Rat × Foot) => !p.2.both && decide (p.1 < 0)) (fun _ => PyData.int 1) (List.range (s.rs.zip f.feet).length)
  rw [range_all (fun (p : Rat × Foot) => !p.2.both && decide (p.1 < 0)) (s.rs.zip f.feet)] at c0
  have lr : lawR (s.rs.zip f.feet) = (s.rs.zip f.feet).all fun p => !(!p.2.both && decide (p.1 < 0)) := rfl
  rw [← lr] at c0
  rw [zl] at c0 cf
  have r1 := rng1N (n := f.bars.length) (by omega)
  have r2 := rng1N (n := f.feet.length) (by omega)
  rw [← rngD_nat] at cf
  rw [callN_at (hL.h (i := 52) rfl)]
  generalize ((List.range f.feet.length).filter fun j => ((s.rs.zip f.feet)[j]?).any fun (p : Rat × Foot) => !p.2.both && decide (p.1 < 0)).map (fun _ => PyData.int 1) = R at *
  unfold lawfulB
  generalize rngD 0 (f.bars.length : Int) = RB at *
  generalize rngD 0 (f.feet.length : Int) = RF at *
  cases h : lawQ (s.qs.zip f.bars) with
  | true =>
    have l1 := lp.1 h
    simp [-decide_eq_decide, semF, runF, b_law_lawful, fr2, fr3, r1, r2, l1, cLc, cf]
    simpa using c0
  | false =>
    obtain ⟨σ, l2⟩ := lp.2 h
    simp [semF, runF, b_law_lawful, fr3, r1, l2]
theorem is_state_gen (hL : HL T) (hw : 4000 ≤ w) {f : Frame} {ps rs : List (Int × Int)} (h1 : ∀ p ∈ ps, p.2.natAbs < 2 ^ 1900) (h2 : ∀ p ∈ rs, p.2.natAbs < 2 ^ 1900) (l1 : ps.length ≤ 100000) (l2 : rs.length ≤ 100000) :
    callN w T (k + 3) 36 [.fz (frD f), .fz (.tuple [.tuple (ps.map pD), .tuple (rs.map pD)])] g = .ok (.fz (.bool ((decide ((ps.length : Int) = f.bars.length) && ps.all okp) && (decide ((rs.length : Int) = f.feet.length) && rs.all okp)))) g := by
  have e1 := is_row_ok (w := w) (k := k) (g := g) hL hw h1 l1 f.bars.length
  have e2 := is_row_ok (w := w) (k := k) (g := g) hL hw h2 l2 f.feet.length
  have i0 : pyIx (.tuple [.tuple (ps.map pD), .tuple (rs.map pD)]) (.int 0) = some (.fz (.tuple (ps.map pD))) := ixU (n := 0) rfl rfl
  have i1 : pyIx (.tuple [.tuple (ps.map pD), .tuple (rs.map pD)]) (.int 1) = some (.fz (.tuple (rs.map pD))) := ixU (n := 1) rfl rfl
  have ln : pyLen (.tuple [.tuple (ps.map pD), .tuple (rs.map pD)]) = some (.fz (.int 2)) := rfl
  have lb : pyLen (.tuple (f.bars.map barD)) = some (.fz (.int f.bars.length)) := by simp
  have lf : pyLen (.tuple (f.feet.map footD)) = some (.fz (.int f.feet.length)) := by simp
  generalize PyData.tuple [.tuple (ps.map pD), .tuple (rs.map pD)] = S at *
  generalize hX : (decide ((ps.length : Int) = f.bars.length) && ps.all okp) = X at *
  generalize hY : (decide ((rs.length : Int) = f.feet.length) && rs.all okp) = Y at *
  rw [callN_at (hL.h (i := 36) rfl)]
  cases X <;> cases Y <;> simp [cOfB, semF, runF, b_is_state, ln, fr2, fr3, lb, lf, i0, i1, e1, e2]
def nd (r : Rat) : Int × Int := (r.num, (r.den : Int))
theorem row_pD (xs : List Rat) : rowD xs = .tuple ((xs.map nd).map pD) := by
  unfold rowD
  rw [List.map_map]
  rfl
theorem nd_okp (xs : List Rat) : (xs.map nd).all okp = true := by
  rw [List.all_map]
  exact List.all_eq_true.mpr fun r _ => okp_rat r
theorem nd_fit {xs : List Rat} (h : ∀ x ∈ xs, Fit x) : ∀ p ∈ xs.map nd, p.2.natAbs < 2 ^ 1900 := fun p hp => by
  rw [List.mem_map] at hp
  obtain ⟨r, hr, rfl⟩ := hp
  show ((r.den : Int)).natAbs < 2 ^ 1900
  rw [Int.natAbs_natCast]
  exact Nat.lt_of_lt_of_le (h r hr).2 (Nat.pow_le_pow_right (by decide) (by decide))
theorem is_state_ok (hL : HL T) (hw : 4000 ≤ w) {f : Frame} {s : Stt} {B e : Nat} (hs : StOk f s B e) (s1 : Sml B e) (l1 : s.qs.length ≤ 100000) (l2 : s.rs.length ≤ 100000) :
    callN w T (k + 3) 36 [.fz (frD f), .fz (stD s)] g = .ok (.fz (.bool true)) g := by
  have h := is_state_gen (w := w) (k := k) (g := g) (f := f) (ps := s.qs.map nd) (rs := s.rs.map nd) hL hw (nd_fit fun x hx => (hs.bq x hx).fit s1) (nd_fit fun x hx => (hs.br x hx).fit s1) (by rw [List.length_map]; exact l1) (by rw [List.length_map]; exact l2)
  rw [← row_pD, ← row_pD, nd_okp, nd_okp, List.length_map, List.length_map, hs.nq, hs.nr] at h
  unfold stD
  simpa using h
theorem carries_ok (hL : HL T) (hw : 4000 ≤ w) {f : Frame} {s : Stt} {A B d e : Nat} (hf : FrOk f A d) (hs : StOk f s B e) (s1 : Sml (A + A) d) (s2 : Sml B e) (hN : Sml (2001 * (B * (A + A))) (e * d)) {ls : List V2} (fl : ∀ v ∈ ls, FitV v) :
    callN w T (k + 9) 37 [.fz (frD f), .fz (stD s), .fz (lsD ls)] g = .ok (.fz (.bool (decide (addV (forcesV f s) ls = zeroV f.joints.length)))) g := by
  have nj := hf.nj
  obtain ⟨e1, ll, bb⟩ := forces_of_ok (w := w) (k := k) (g := g) hL hw hf hs s1 s2 hN
  have e2 := loads_plus_ok (w := w) (k := k + 3) (g := g) hL hw (xs := forcesV f s) (ys := ls) (fun v hv => (bb v hv).fit (hN.mono (Nat.mul_le_mul_right _ (by decide)) (Nat.le_refl _) hN.1)) fl (by omega)
  have ml := mulU (xs := [vD V2.z]) (k := (f.joints.length : Int)) (n := f.joints.length) rfl (by omega) (by simp; omega)
  rw [show reps [vD V2.z] f.joints.length = _ from zero_reps f.joints.length] at ml
  have lz : PyData.tuple ((zeroV f.joints.length).map vD) = lsD (zeroV f.joints.length) := rfl
  rw [lz] at ml
  have eq := eqL (addV (forcesV f s) ls) (zeroV f.joints.length)
  rw [callN_at (hL.h (i := 37) rfl)]
  simp [semF, runF, b_carries, e1, e2, z_lit, fr1, ml, eq]
theorem shows_state_ok (hL : HL T) (hw : 4000 ≤ w) {f : Frame} {s : Stt} {A B d e L l : Nat} (hf : FrOk f A d) (hs : StOk f s B e) (hl : LimOk f L l) (s1 : Sml (A + A) d) (s2 : Sml B e) (s3 : Sml L l) (hN : Sml (2001 * (B * (A + A))) (e * d)) {ls : List V2} (fl : ∀ v ∈ ls, FitV v) :
    callN w T (k + 10) 39 [.fz (frD f), .fz (lsD ls), .fz (stD s)] g = .ok (.fz (.bool (lawfulB f s && decide (addV (forcesV f s) ls = zeroV f.joints.length)))) g := by
  have nb := hf.nb
  have nf := hf.nf
  have e1 := is_state_ok (w := w) (k := k + 6) (g := g) hL hw hs s2 (by rw [hs.nq]; omega) (by rw [hs.nr]; omega)
  have e2 := is_lawful_ok (w := w) (k := k + 7) (g := g) hL nb nf hs hl s2 s3
  have e3 := carries_ok (w := w) (k := k) (g := g) hL hw hf hs s1 s2 hN fl
  rw [callN_at (hL.h (i := 39) rfl)]
  generalize decide (addV (forcesV f s) ls = zeroV f.joints.length) = Y at *
  cases h : lawfulB f s <;> rw [h] at e2 <;> simp [cOfB, semF, runF, b_shows_state, e1, e2, e3]
end
end
end FD
/-! FDF10: resistances. -/
namespace FD
noncomputable section
open PySem
def absR (s : Rat) : Rat := if 0 < s then s else -s
def limS (b : Bar) (s : Rat) : Option Rat := if 0 < s then b.pull else b.push
def resS (b : Bar) (s : Rat) : Option Rat := if s = 0 then some 0 else (limS b s).map fun l => l * absR s
def okS (t : Foot) (s : Rat) : Bool := !(decide (s < 0) || (t.both && !decide (s = 0)))
def footFree (f : Frame) (ms : List V2) : Bool := f.feet.all fun t => okS t (slipR ms t)
def barFree (f : Frame) (ms : List V2) : Bool := f.bars.all fun b => !(resS b (f.stretch ms b)).isNone
def freeB (f : Frame) (ms : List V2) : Bool := footFree f ms && barFree f ms
def resTot (f : Frame) (ms : List V2) : Rat := (f.bars.map fun b => (resS b (f.stretch ms b)).getD 0).sum
def fallsB (f : Frame) (ls ms : List V2) : Bool := freeB f ms && decide (resTot f ms < workR ls ms)
theorem absQ (s : Rat) : PyData.tuple [.int (s.num.natAbs : Int), .int s.den] = qD (absR s) := by
  unfold absR
  by_cases z : 0 < s
  · rw [if_pos z, qD]
    have := num_pos.mpr z
    rw [show ((s.num.natAbs : Nat) : Int) = s.num by omega]
  · rw [if_neg z, qD, Rat.neg_num, Rat.neg_den]
    have : ¬ 0 < s.num := fun y => z (num_pos.mp y)
    rw [show ((s.num.natAbs : Nat) : Int) = -s.num by omega]
theorem Bd.abs {A d : Nat} {s : Rat} (h : Bd A d s) : Bd A d (absR s) := by
  unfold absR
  split
  · exact h
  · exact h.neg
theorem limS_mem {b : Bar} {s p : Rat} (h : limS b s = some p) : b.pull = some p ∨ b.push = some p := by
  unfold limS at h
  split at h
  · exact .inl h
  · exact .inr h
theorem resS_bd {f : Frame} {L l A d : Nat} (hl : LimOk f L l) {b : Bar} (hb : b ∈ f.bars) {s p : Rat} (hs : Bd A d s) (h : resS b s = some p) : Bd (L * A) (l * d) p := by
  unfold resS at h
  split at h
  · injection h with h
    rw [← h]
    exact Bd.zero _ _
  · cases z : limS b s with
    | none => rw [z] at h; cases h
    | some q =>
      rw [z] at h
      injection h with h
      rw [← h]
      exact (hl b hb q (limS_mem z)).mul hs.abs
theorem stretch_bd {f : Frame} {ms : List V2} {A B d e : Nat} (hf : FrOk f A d) (hm : ms.length = f.joints.length) (bm : ∀ m ∈ ms, BdV B e m) {b : Bar} (hb : b ∈ f.bars) : Bd (2 * ((B + B) * (A + A))) (e * d) (f.stretch ms b) := by
  obtain ⟨hi, hj, _⟩ := hf.bi b hb
  have bu := bm _ (vAt_mem (l := ms) (i := b.i) (by omega))
  have bv := bm _ (vAt_mem (l := ms) (i := b.j) (by omega))
  exact dot_bd (bv.sub bu) (span_bd hf hb)
theorem slip_bd {f : Frame} {ms : List V2} {A B d e : Nat} (hf : FrOk f A d) (hm : ms.length = f.joints.length) (bm : ∀ m ∈ ms, BdV B e m) {t : Foot} (ht : t ∈ f.feet) : Bd (2 * (A * B)) (d * e) (slipR ms t) := by
  have hi := hf.fi t ht
  exact dot_bd (hf.wy t ht) (bm _ (vAt_mem (l := ms) (i := t.at_) (by omega)))
section
variable {w k : Nat} {T : List Fn} {g : G}
theorem gt0 (s : Rat) : decide ((0 : Int) < s.num) = decide (0 < s) := by
  rw [Bool.eq_iff_iff, decide_eq_true_iff, decide_eq_true_iff, num_pos]
theorem lt0 (s : Rat) : decide (s.num < (0 : Int)) = decide (s < 0) := by
  rw [Bool.eq_iff_iff, decide_eq_true_iff, decide_eq_true_iff, num_neg]
theorem eq0 (s : Rat) : decide (s.num = (0 : Int)) = decide (s = 0) := by
  rw [Bool.eq_iff_iff, decide_eq_true_iff, decide_eq_true_iff, num_zero]
theorem resistance_ok (hL : HL T) (hw : 4000 ≤ w) {b : Bar} {s : Rat} (fs : Fit s) (fl : ∀ p, limS b s = some p → Fit p) :
    callN w T (k + 4) 43 [.fz (barD b), .fz (qD s)] g = .ok (.fz (oqD (resS b s))) g := by
  have eq := eqQ s 0
  rw [callN_at (hL.h (i := 43) rfl)]
  unfold resS
  by_cases z : s = 0
  · rw [if_pos z, oq_some]
    rw [decide_eq_true z] at eq
    simp [semF, runF, b_resistance, q0_lit, eq]
  · rw [if_neg z]
    rw [decide_eq_false z] at eq
    have b3 := br3 b
    have b4 := br4 b
    have n := num_pos (r := s)
    by_cases p : 0 < s
    · have ab : absR s = s := if_pos p
      have li : limS b s = b.pull := if_pos p
      rw [li] at fl ⊢
      rw [ab]
      cases h : b.pull with
      | none =>
        rw [h] at b3
        simp [semF, runF, b_resistance, q0_lit, eq, qix0, n, p, b3]
      | some q =>
        rw [h] at b3
        have t := times_ok (w := w) (k := k) (g := g) hL hw (fl q h) fs
        simp [semF, runF, b_resistance, q0_lit, eq, qix0, n, p, b3, t]
    · have ab : absR s = -s := if_neg p
      have li : limS b s = b.push := if_neg p
      rw [li] at fl ⊢
      rw [ab]
      cases h : b.push with
      | none =>
        rw [h] at b4
        simp [semF, runF, b_resistance, q0_lit, eq, qix0, n, p, b4]
      | some q =>
        rw [h] at b4
        have t := times_ok (w := w) (k := k) (g := g) hL hw (fl q h) fs.neg
        have o := opposite_ok (w := w) (k := k + 2) (g := g) (r := s) hL
        simp [semF, runF, b_resistance, q0_lit, eq, qix0, n, p, b4, t, o]
theorem free_loop {s0 s1 : SV} : ∀ (ps : List (Foot × Rat)),
    ((ps.all fun p => okS p.1 p.2) = true → forL (gTp 2 (gC (gNm 2) (gC (gNm 3) gN))) (sIf (cOr (cCmp pyLt (cD (cVIx 3 (cD (cK (.int 0))))) (cD (cK (.int 0)))) (cAnd (cCmp pyEq (cD (cVIx 2 (cD (cK (.int 2))))) (cD (cK (.str "both")))) (cCmp pyNe (cVP 3) (cD (cK (.tuple [(.int 0), (.int 1)]))))))
      (sRet (cK (.bool false)))
      sPass) (ps.map fun p => .tuple [footD p.1, qD p.2]) [some s0, some s1, none, none, none, none] g = .ok .nx [some s0, some s1, none, none, none, none] g) ∧
    ((ps.all fun p => okS p.1 p.2) = false → ∃ σ, forL (gTp 2 (gC (gNm 2) (gC (gNm 3) gN))) (sIf (cOr (cCmp pyLt (cD (cVIx 3 (cD (cK (.int 0))))) (cD (cK (.int 0)))) (cAnd (cCmp pyEq (cD (cVIx 2 (cD (cK (.int 2))))) (cD (cK (.str "both")))) (cCmp pyNe (cVP 3) (cD (cK (.tuple [(.int 0), (.int 1)]))))))
      (sRet (cK (.bool false)))
      sPass) (ps.map fun p => .tuple [footD p.1, qD p.2]) [some s0, some s1, none, none, none, none] g = .ok (.rt (.fz (.bool false))) σ g)
  | [] => ⟨fun _ => rfl, fun h => by simp at h⟩
  | p :: r => by
    have ih := free_loop (s0 := s0) (s1 := s1) r
    have ne := neQ p.2 0
    have be := both_eq p.1.both
    have l0 := lt0 p.2
    have tst : (cOr (cCmp pyLt (cD (cVIx 3 (cD (cK (.int 0))))) (cD (cK (.int 0)))) (cAnd (cCmp pyEq (cD (cVIx 2 (cD (cK (.int 2))))) (cD (cK (.str "both")))) (cCmp pyNe (cVP 3) (cD (cK (.tuple [(.int 0), (.int 1)])))))) [some s0, some s1, some (.fz (footD p.1)), some (.fz (qD p.2)), none, none] g = .ok (!okS p.1 p.2) [some s0, some s1, some (.fz (footD p.1)), some (.fz (qD p.2)), none, none] g := by
      unfold okS
      rw [Bool.not_not]
      simp only [cOr, cAnd, cCmp, cD, cVIx, cK, cVP, c2, dOf, Out.bind_ok, liftO_some, List.getElem?_cons_succ, List.getElem?_cons_zero, qix0, ft2, ltI, l0, eqSS, be, q0_lit, ne]
      by_cases z : p.2 < 0
      · simp [z]
      · simp only [z, decide_false, Bool.false_eq_true, if_false, Bool.false_or]
        cases h : p.1.both <;> simp
    generalize cOr (cCmp pyLt (cD (cVIx 3 (cD (cK (.int 0))))) (cD (cK (.int 0)))) (cAnd (cCmp pyEq (cD (cVIx 2 (cD (cK (.int 2))))) (cD (cK (.str "both")))) (cCmp pyNe (cVP 3) (cD (cK (.tuple [(.int 0), (.int 1)]))))) = X at *
    rw [List.all_cons, List.map_cons]
    cases h : okS p.1 p.2 with
    | true =>
      rw [h] at tst
      refine ⟨fun h2 => ?_, fun h2 => ?_⟩
      · have i1 := ih.1 (by simpa using h2)
        rw [← i1]
        simp [forL, tst]
      · obtain ⟨σ, i2⟩ := ih.2 (by simpa using h2)
        refine ⟨σ, ?_⟩
        rw [← i2]
        simp [forL, tst]
    | false =>
      rw [h] at tst
      exact ⟨fun h2 => by simp at h2, fun _ => ⟨_, by simp [forL, tst]; rfl⟩⟩
theorem all_zip_map {α β : Type} (l : List α) (f : α → β) (P : α → β → Bool) : ((l.zip (l.map f)).all fun p => P p.1 p.2) = l.all fun a => P a (f a) := by
  induction l with
  | nil => rfl
  | cons x r ih => rw [List.map_cons, List.zip_cons_cons, List.all_cons, List.all_cons, ih]
theorem zip_map_self {α β : Type} (l : List α) (f : α → β) : l.zip (l.map f) = l.map fun a => (a, f a) := by
  induction l with
  | nil => rfl
  | cons x r ih => rw [List.map_cons, List.zip_cons_cons, List.map_cons, ih]
theorem lim_fit {f : Frame} {L l : Nat} (hl : LimOk f L l) (s3 : Sml L l) {b : Bar} (hb : b ∈ f.bars) {s p : Rat} (h : limS b s = some p) : Fit p := (hl b hb p (limS_mem h)).fit s3
structure MoOk (f : Frame) (ms : List V2) (A B d e L l : Nat) : Prop where
  hf : FrOk f A d
  hm : ms.length = f.joints.length
  bm : ∀ m ∈ ms, BdV B e m
  hl : LimOk f L l
  s1 : Sml (A + A) d
  s2 : Sml (B + B) e
  s3 : Sml L l
  hs : (2 * ((B + B) * (A + A)) + 1) * (e * d) ^ 2 < 2 ^ 1800
  hs2 : (2 * (A * B) + 1) * (d * e) ^ 2 < 2 ^ 1800
  hq : Sml (3 * ((B + B) * (A + A))) (e * d)
  hq2 : Sml (3 * (A * B)) (d * e)
  hr : Sml (1001 * (L * (2 * ((B + B) * (A + A))))) (l * (e * d))
theorem MoOk.sA {f : Frame} {ms : List V2} {A B d e L l : Nat} (h : MoOk f ms A B d e L l) : Sml A d := h.s1.mono (Nat.le_add_left _ _) (Nat.le_refl _) h.s1.1
theorem MoOk.sB {f : Frame} {ms : List V2} {A B d e L l : Nat} (h : MoOk f ms A B d e L l) : Sml B e := h.s2.mono (Nat.le_add_left _ _) (Nat.le_refl _) h.s2.1
theorem MoOk.fs {f : Frame} {ms : List V2} {A B d e L l : Nat} (h : MoOk f ms A B d e L l) {b : Bar} (hb : b ∈ f.bars) : Fit (f.stretch ms b) :=
  (stretch_bd h.hf h.hm h.bm hb).fit (h.hq.mono (by omega) (Nat.le_refl _) h.hq.1)
theorem MoOk.fr {f : Frame} {ms : List V2} {A B d e L l : Nat} (h : MoOk f ms A B d e L l) {b : Bar} (hb : b ∈ f.bars) {p : Rat} (hp : resS b (f.stretch ms b) = some p) : Fit p :=
  (resS_bd h.hl hb (stretch_bd h.hf h.hm h.bm hb) hp).fit (h.hr.mono (Nat.le_mul_of_pos_left _ (by decide)) (Nat.le_refl _) h.hr.1)
theorem is_free_ok (hL : HL T) (hw : 4000 ≤ w) {f : Frame} {ms : List V2} {A B d e L l : Nat} (h : MoOk f ms A B d e L l) :
    callN w T (k + 8) 44 [.fz (frD f), .fz (lsD ms)] g = .ok (.fz (.bool (freeB f ms))) g := by
  have nb := h.hf.nb
  have nf := h.hf.nf
  have e1 := slips_ok (w := w) (k := k + 3) (g := g) hL hw h.hf h.hm h.bm h.sA h.sB h.hs2
  have e2 := stretches_ok (w := w) (k := k) (g := g) hL hw h.hf h.hm h.bm h.s1 h.s2 h.hs
  have lp := free_loop (g := g) (s0 := .fz (frD f)) (s1 := .fz (lsD ms)) (f.feet.zip (f.slips ms))
  have fz : ((f.feet.zip (f.slips ms)).all fun p => okS p.1 p.2) = footFree f ms := all_zip_map f.feet (slipR ms) okS
  rw [fz] at lp
  have z1 : zipK (.tuple (f.feet.map footD)) (rowD (f.slips ms)) = some ((f.feet.zip (f.slips ms)).map fun p => .tuple [footD p.1, qD p.2]) := by
    show some (zipD _ ((f.slips ms).map qD)) = _
    rw [zipD_map]
  have z2 : zipK (.tuple (f.bars.map barD)) (rowD (f.stretches ms)) = some ((f.bars.zip (f.stretches ms)).map fun p => .tuple [barD p.1, qD p.2]) := by
    show some (zipD _ ((f.stretches ms).map qD)) = _
    rw [zipD_map]
  have cf := compL_imgF (tg := gTp 2 (gC (gNm 4) (gC (gNm 5) gN))) (t := cCmp pyIs (cD (cCall (callN w T (k + 7)) 43 (cACons (cVE 4) (cACons (cVE 5) cANil)))) (cD (cK .none))) (f := cD (cK (.int 1))) (vs := [4, 5]) (σ := [some (.fz (frD f)), some (.fz (lsD ms)), none, none, none, none]) (g := g)
    (fun (p : Bar × Rat) => PyData.tuple [barD p.1, qD p.2]) (fun p => (resS p.1 p.2).isNone) (fun _ => .int 1) (f.bars.zip (f.stretches ms)) [] (fun p hp => by
      have z : f.bars.zip (f.stretches ms) = _ := zip_map_self f.bars (f.stretch ms)
      rw [z, List.mem_map] at hp
      obtain ⟨b, hb, rfl⟩ := hp
      have r := resistance_ok (w := w) (k := k + 3) (g := g) (b := b) (s := f.stretch ms b) hL hw (h.fs hb) fun p hp => lim_fit h.hl h.s3 hb hp
      refine ⟨[some (.fz (frD f)), some (.fz (lsD ms)), none, none, some (.fz (barD b)), some (.fz (qD (f.stretch ms b)))], [some (.fz (frD f)), some (.fz (lsD ms)), none, none, some (.fz (barD b)), some (.fz (qD (f.stretch ms b)))], by simp, ?_, fun _ => ⟨_, rfl, by simp⟩, fun _ => by simp⟩
      cases z : resS b (f.stretch ms b) <;> rw [z] at r <;> simp [r, z]) (by
      rw [List.length_zip, List.length_nil]; omega)
  rw [List.nil_append] at cf
  have c0 := count0 (fun (p : Bar × Rat) => (resS p.1 p.2).isNone) (fun _ => PyData.int 1) (f.bars.zip (f.stretches ms))
  have bz : ((f.bars.zip (f.stretches ms)).all fun p => !(resS p.1 p.2).isNone) = barFree f ms := all_zip_map f.bars (f.stretch ms) fun a b => !(resS a b).isNone
  rw [bz] at c0
  rw [callN_at (hL.h (i := 44) rfl)]
  generalize ((f.bars.zip (f.stretches ms)).filter fun (p : Bar × Rat) => (resS p.1 p.2).isNone).map (fun _ => PyData.int 1) = R at *
  generalize (f.bars.zip (f.stretches ms)).map (fun (p : Bar × Rat) => PyData.tuple [barD p.1, qD p.2]) = X at *
  generalize (f.feet.zip (f.slips ms)).map (fun (p : Foot × Rat) => PyData.tuple [footD p.1, qD p.2]) = Y at *
  unfold freeB
  cases z : footFree f ms with
  | true =>
    have l1 := lp.1 z
    simp [-decide_eq_decide, semF, runF, b_is_free, fr2, fr3, e1, e2, z1, z2, l1, cLc, cf]
    simpa using c0
  | false =>
    obtain ⟨σ, l2⟩ := lp.2 z
    simp [semF, runF, b_is_free, fr2, fr3, e1, z1, l2]
theorem res_loop (hL : HL T) (hw : 4000 ≤ w) {f : Frame} {ms : List V2} {A B d e L l : Nat} (h : MoOk f ms A B d e L l) {s0 s1 : SV} : ∀ (bs : List Bar) (n : Nat) (t : Rat), (∀ b ∈ bs, b ∈ f.bars ∧ (resS b (f.stretch ms b)).isNone = false) → n + bs.length ≤ 1000 → Bd (n * (L * (2 * ((B + B) * (A + A))))) (l * (e * d)) t →
    forL (gTp 2 (gC (gNm 3) (gC (gNm 4) gN))) (sAsg 2 (cCall (callN w T (k + 4)) 13 (cACons (cVE 2) (cACons (cCall (callN w T (k + 4)) 43 (cACons (cVE 3) (cACons (cVE 4) cANil))) cANil)))) (bs.map fun b => .tuple [barD b, qD (f.stretch ms b)]) [some s0, some s1, some (.fz (qD t)), none, none] g
      = .ok .nx [some s0, some s1, some (.fz (qD (t + (bs.map fun b => (resS b (f.stretch ms b)).getD 0).sum))), none, none] g ∧ Bd ((n + bs.length) * (L * (2 * ((B + B) * (A + A))))) (l * (e * d)) (t + (bs.map fun b => (resS b (f.stretch ms b)).getD 0).sum)
  | [], n, t, _, _, ht => by simp [forL, Rat.add_zero]; exact ht
  | b :: r, n, t, hp, hn, ht => by
    obtain ⟨hb, hN⟩ := hp b List.mem_cons_self
    rw [List.length_cons] at hn
    cases z : resS b (f.stretch ms b) with
    | none => rw [z] at hN; cases hN
    | some q =>
      have r1 := resistance_ok (w := w) (k := k) (g := g) (b := b) (s := f.stretch ms b) hL hw (h.fs hb) fun p hp => lim_fit h.hl h.s3 hb hp
      rw [z, oq_some] at r1
      have bq := resS_bd h.hl hb (stretch_bd h.hf h.hm h.bm hb) z
      have ft : Fit t := ht.fit (h.hr.mono (Nat.mul_le_mul_right _ (by omega)) (Nat.le_refl _) h.hr.1)
      have a := added_ok (w := w) (k := k + 1) (g := g) hL hw ft (h.fr hb z)
      have bt : Bd ((n + 1) * (L * (2 * ((B + B) * (A + A))))) (l * (e * d)) (t + q) := by
        have := ht.add bq
        rw [← Nat.succ_mul] at this
        exact this
      obtain ⟨ih, ih2⟩ := res_loop hL hw h (s0 := s0) (s1 := s1) r (n + 1) (t + q) (fun c hc => hp c (List.mem_cons_of_mem _ hc)) (by omega) bt
      have dr : t + ((b :: r).map fun b => (resS b (f.stretch ms b)).getD 0).sum = t + q + (r.map fun b => (resS b (f.stretch ms b)).getD 0).sum := by
        rw [List.map_cons, List.sum_cons, z]
        show t + (q + _) = _
        grind
      rw [dr]
      refine ⟨?_, by rw [List.length_cons, show n + (r.length + 1) = n + 1 + r.length by omega]; exact ih2⟩
      rw [← ih]
      simp [forL, r1, a]
theorem barFree_at {f : Frame} {ms : List V2} (h : barFree f ms = true) : ∀ b ∈ f.bars, (resS b (f.stretch ms b)).isNone = false := fun b hb => by
  have := List.all_eq_true.mp h b hb
  simpa using this
theorem resistance_of_ok (hL : HL T) (hw : 4000 ≤ w) {f : Frame} {ms : List V2} {A B d e L l : Nat} (h : MoOk f ms A B d e L l) (hf : barFree f ms = true) :
    callN w T (k + 8) 45 [.fz (frD f), .fz (lsD ms)] g = .ok (.fz (qD (resTot f ms))) g ∧ Fit (resTot f ms) := by
  have nb := h.hf.nb
  have e2 := stretches_ok (w := w) (k := k) (g := g) hL hw h.hf h.hm h.bm h.s1 h.s2 h.hs
  have z2 : zipK (.tuple (f.bars.map barD)) (rowD (f.stretches ms)) = some (f.bars.map fun b => .tuple [barD b, qD (f.stretch ms b)]) := by
    show some (zipD _ ((f.stretches ms).map qD)) = _
    rw [zipD_map]
    have z : f.bars.zip (f.stretches ms) = _ := zip_map_self f.bars (f.stretch ms)
    rw [z, List.map_map]
    rfl
  obtain ⟨lp, lb⟩ := res_loop (w := w) (k := k + 3) (g := g) hL hw h (s0 := .fz (frD f)) (s1 := .fz (lsD ms)) f.bars 0 0 (fun b hb => ⟨hb, barFree_at hf b hb⟩) (by omega) (Bd.zero _ _)
  have rt : (0 : Rat) + (f.bars.map fun b => (resS b (f.stretch ms b)).getD 0).sum = resTot f ms := by unfold resTot; grind
  rw [rt] at lp lb
  refine ⟨?_, lb.fit (h.hr.mono (Nat.mul_le_mul_right _ (by omega)) (Nat.le_refl _) h.hr.1)⟩
  rw [callN_at (hL.h (i := 45) rfl)]
  simp [semF, runF, b_resistance_of, fr3, e2, z2, q0_lit, lp]
theorem are_loads_ok (hL : HL T) (hw : 4000 ≤ w) {f : Frame} {ms : List V2} (fm : ∀ m ∈ ms, FitV m) (hl : ms.length ≤ 100000) :
    callN w T (k + 3) 29 [.fz (frD f), .fz (lsD ms)] g = .ok (.fz (.bool (decide ((ms.length : Int) = f.joints.length)))) g := by
  have cf := compL_imgF (tg := gNm 2) (t := cNot (cTru (cD (cCall (callN w T (k + 2)) 24 (cACons (cVE 2) (cACons (cK (.int 2)) cANil)))))) (f := cD (cK (.int 1))) (vs := [2]) (σ := [some (.fz (frD f)), some (.fz (lsD ms)), none]) (g := g) vD (fun _ => false) (fun _ => .int 1) ms [] (fun m hm => by
    have r := is_row_row (w := w) (k := k) (g := g) (xs := m.row) hL hw (fun z hz => by
      simp only [V2.row, List.mem_cons, List.not_mem_nil, or_false] at hz
      rcases hz with rfl | rfl
      · exact (fm m hm).1
      · exact (fm m hm).2) (by show 2 ≤ 100000; decide) 2
    rw [← vD_row, decide_eq_true (by rfl)] at r
    exact ⟨[some (.fz (frD f)), some (.fz (lsD ms)), some (.fz (vD m))], [some (.fz (frD f)), some (.fz (lsD ms)), some (.fz (vD m))], by simp, by simp [r], fun _ => ⟨_, rfl, by simp⟩, fun _ => by simp⟩) (by rw [List.length_nil]; omega)
  have fl : ms.filter (fun _ => false) = [] := List.filter_eq_nil_iff.mpr fun _ _ => by simp
  rw [fl, List.nil_append, List.map_nil] at cf
  unfold lsD at cf ⊢
  rw [callN_at (hL.h (i := 29) rfl)]
  by_cases q : (ms.length : Int) = f.joints.length
  · simp [semF, runF, b_are_loads, fr1, q, cLc, cf]
  · simp [semF, runF, b_are_loads, fr1, q]
end
end
end FD
/-! FDF11: who falls. -/
namespace FD
noncomputable section
open PySem
theorem workR_bd {A B d e : Nat} : ∀ (ls ms : List V2), (∀ l ∈ ls, BdV A d l) → (∀ m ∈ ms, BdV B e m) → Bd (ls.length * (2 * (A * B))) (d * e) (workR ls ms)
  | [], ms, _, _ => by unfold workR; exact Bd.zero _ _
  | l :: r, [], _, _ => by unfold workR; exact Bd.zero _ _
  | l :: r, m :: s, h1, h2 => by
    have ih := workR_bd r s (fun x hx => h1 x (List.mem_cons_of_mem _ hx)) (fun x hx => h2 x (List.mem_cons_of_mem _ hx))
    have := ih.add (dot_bd (h1 l List.mem_cons_self) (h2 m List.mem_cons_self))
    rw [← Nat.succ_mul] at this
    rw [workR, List.length_cons]
    have e : l.dot m + workR r s = workR r s + l.dot m := by grind
    rw [e]
    exact this
structure WkOk (ls : List V2) (B e C c : Nat) : Prop where
  bl : ∀ v ∈ ls, BdV C c v
  ll : ls.length ≤ 1000
  s : Sml C c
  hs : (2 * (C * B) + 1) * (c * e) ^ 2 < 2 ^ 1800
  hq : Sml (3 * (C * B)) (c * e)
  hN : Sml (1001 * (2 * (C * B))) (c * e)
section
variable {w k : Nat} {T : List Fn} {g : G}
theorem WkOk.n {ls : List V2} {B e C c : Nat} (h : WkOk ls B e C c) : Sml ((ls.length + 1) * (2 * (C * B))) (c * e) := h.hN.mono (Nat.mul_le_mul_right _ (by have := h.ll; omega)) (Nat.le_refl _) h.hN.1
theorem WkOk.fit {ls ms : List V2} {B e C c : Nat} (h : WkOk ls B e C c) (bm : ∀ m ∈ ms, BdV B e m) : Fit (workR ls ms) := (workR_bd ls ms h.bl bm).fit (h.hN.mono (Nat.mul_le_mul_right _ (by have := h.ll; omega)) (Nat.le_refl _) h.hN.1)
theorem shows_fall_no (hL : HL T) (hw : 4000 ≤ w) {f : Frame} {ls : D} {ms : List V2} (fm : ∀ m ∈ ms, FitV m) (hl : ms.length ≤ 100000) (hn : ms.length ≠ f.joints.length) :
    callN w T (k + 4) 46 [.fz (frD f), .fz ls, .fz (lsD ms)] g = .ok (.fz (.bool false)) g := by
  have e1 := are_loads_ok (w := w) (k := k) (g := g) (f := f) hL hw fm hl
  rw [decide_eq_false (by omega)] at e1
  rw [callN_at (hL.h (i := 46) rfl)]
  simp [semF, runF, b_shows_fall, e1]
theorem shows_fall_ok (hL : HL T) (hw : 4000 ≤ w) {f : Frame} {ls ms : List V2} {A B d e L l C c : Nat} (h : MoOk f ms A B d e L l) (hk : WkOk ls B e C c) :
    callN w T (k + 9) 46 [.fz (frD f), .fz (lsD ls), .fz (lsD ms)] g = .ok (.fz (.bool (fallsB f ls ms))) g := by
  have nj := h.hf.nj
  have hm := h.hm
  have e1 := are_loads_ok (w := w) (k := k + 5) (g := g) (f := f) hL hw (fun m hm => (h.bm m hm).fit h.sB) (by omega)
  rw [decide_eq_true (by omega)] at e1
  have e2 := is_free_ok (w := w) (k := k) (g := g) hL hw h
  unfold fallsB
  cases z : freeB f ms with
  | false =>
    rw [z] at e2
    rw [callN_at (hL.h (i := 46) rfl)]
    simp [semF, runF, b_shows_fall, e1, e2]
  | true =>
    rw [z] at e2
    have bf : barFree f ms = true := by unfold freeB at z; rw [Bool.and_eq_true] at z; exact z.2
    obtain ⟨e3, fr⟩ := resistance_of_ok (w := w) (k := k) (g := g) hL hw h bf
    have e4 := work_of_ok (w := w) (k := k + 4) (g := g) hL hw hk.bl h.bm hk.s h.sB hk.hs hk.n
    have e5 := compare_ok (w := w) (k := k + 7) (g := g) hL (hk.fit h.bm) fr
    have cg := cmp_gt (workR ls ms) (resTot f ms)
    rw [callN_at (hL.h (i := 46) rfl)]
    simp [semF, runF, b_shows_fall, e1, e2, e3, e4, e5]
    simpa using cg
theorem law_free_loop (hL : HL T) {f : Frame} {ms : List V2} {A B d e L l : Nat} (h : MoOk f ms A B d e L l) {s2 : SV} : ∀ (fs : List Foot), (∀ t ∈ fs, t ∈ f.feet) →
    ((fs.all fun t => okS t (slipR ms t)) = true → forL (gTp 3 (gC (gNm 3) (gC (gNm 4) (gC (gNm 5) gN))))
    (sSeq (sAsg 6 (cCall (callN w T (k + 3)) 8 (cACons (cVE 4) (cACons (cVIx 1 (cVP 3)) cANil))))
    (sIf (cOr (cCmp pyLt (cD (cVIx 6 (cD (cK (.int 0))))) (cD (cK (.int 0)))) (cAnd (cCmp pyEq (cVP 5) (cD (cK (.str "both")))) (cCmp pyNe (cD (cVIx 6 (cD (cK (.int 0))))) (cD (cK (.int 0))))))
      (sRet (cK .none))
      sPass)) (fs.map footD) [some (.fz (frD f)), some (.fz (lsD ms)), some s2, none, none, none, none, none, none, none] g = .ok .nx [some (.fz (frD f)), some (.fz (lsD ms)), some s2, none, none, none, none, none, none, none] g) ∧
    ((fs.all fun t => okS t (slipR ms t)) = false → ∃ σ, forL (gTp 3 (gC (gNm 3) (gC (gNm 4) (gC (gNm 5) gN))))
    (sSeq (sAsg 6 (cCall (callN w T (k + 3)) 8 (cACons (cVE 4) (cACons (cVIx 1 (cVP 3)) cANil))))
    (sIf (cOr (cCmp pyLt (cD (cVIx 6 (cD (cK (.int 0))))) (cD (cK (.int 0)))) (cAnd (cCmp pyEq (cVP 5) (cD (cK (.str "both")))) (cCmp pyNe (cD (cVIx 6 (cD (cK (.int 0))))) (cD (cK (.int 0))))))
      (sRet (cK .none))
      sPass)) (fs.map footD) [some (.fz (frD f)), some (.fz (lsD ms)), some s2, none, none, none, none, none, none, none] g = .ok (.rt (.fz .none)) σ g)
  | [], _ => ⟨fun _ => rfl, fun h => by simp at h⟩
  | t :: r, ht => by
    have ih := law_free_loop hL h (s2 := s2) r fun c hc => ht c (List.mem_cons_of_mem _ hc)
    have hi := h.hf.fi t (ht t List.mem_cons_self)
    have hm := h.hm
    have e1 := law_vdot_ok (w := w) (k := k) (g := g) hL (h.hf.wy t (ht t List.mem_cons_self)) (h.bm _ (vAt_mem (l := ms) (i := t.at_) (by omega))) h.sA h.sB h.hq2
    have e2 : t.way.dot (vAt ms t.at_) = slipR ms t := rfl
    rw [e2] at e1
    have i1 := vGetU (l := ms) (i := t.at_) (by omega)
    have be := both_eq t.both
    have l0 := lt0 (slipR ms t)
    have z0 := eq0 (slipR ms t)
    have fd : footD t = .tuple [.int t.at_, vD t.way, .str (if t.both then "both" else "push")] := rfl
    generalize hK : (if t.both = true then ("both" : Str) else "push") = kd at *
    have tst : (cOr (cCmp pyLt (cD (cVIx 6 (cD (cK (.int 0))))) (cD (cK (.int 0)))) (cAnd (cCmp pyEq (cVP 5) (cD (cK (.str "both")))) (cCmp pyNe (cD (cVIx 6 (cD (cK (.int 0))))) (cD (cK (.int 0)))))) [some (.fz (frD f)), some (.fz (lsD ms)), some s2, some (.fz (.int t.at_)), some (.fz (vD t.way)), some (.fz (.str kd)), some (.fz (qD (slipR ms t))), none, none, none] g = .ok (!okS t (slipR ms t)) [some (.fz (frD f)), some (.fz (lsD ms)), some s2, some (.fz (.int t.at_)), some (.fz (vD t.way)), some (.fz (.str kd)), some (.fz (qD (slipR ms t))), none, none, none] g := by
      unfold okS
      rw [Bool.not_not]
      simp only [cOr, cAnd, cCmp, cD, cVIx, cK, cVP, c2, dOf, Out.bind_ok, liftO_some, List.getElem?_cons_succ, List.getElem?_cons_zero, qix0, ltI, l0, eqSS, be, neII, z0]
      by_cases z : slipR ms t < 0
      · simp [z]
      · simp only [z, decide_false, Bool.false_eq_true, if_false, Bool.false_or]
        cases t.both <;> simp
    generalize cOr (cCmp pyLt (cD (cVIx 6 (cD (cK (.int 0))))) (cD (cK (.int 0)))) (cAnd (cCmp pyEq (cVP 5) (cD (cK (.str "both")))) (cCmp pyNe (cD (cVIx 6 (cD (cK (.int 0))))) (cD (cK (.int 0))))) = X at *
    rw [List.all_cons, List.map_cons, fd]
    cases hh : okS t (slipR ms t) with
    | true =>
      rw [hh] at tst
      refine ⟨fun h2 => ?_, fun h2 => ?_⟩
      · have j1 := ih.1 (by simpa using h2)
        rw [← j1]
        simp [forL, i1, e1, tst]
      · obtain ⟨σ, j2⟩ := ih.2 (by simpa using h2)
        refine ⟨σ, ?_⟩
        rw [← j2]
        simp [forL, i1, e1, tst]
    | false =>
      rw [hh] at tst
      exact ⟨fun h2 => by simp at h2, fun _ => ⟨_, by simp [forL, i1, e1, tst]; rfl⟩⟩
theorem law_res_loop (hL : HL T) {f : Frame} {ms : List V2} {A B d e L l : Nat} (h : MoOk f ms A B d e L l) : ∀ (bs : List Bar) (n : Nat) (t : Rat), (∀ b ∈ bs, b ∈ f.bars) → n + bs.length ≤ 1000 → Bd (n * (L * (2 * ((B + B) * (A + A))))) (l * (e * d)) t →
    ((bs.all fun b => !(resS b (f.stretch ms b)).isNone) = true → forL (gNm 7) (sSeq (sAsg 8 (cCall (callN w T (k + 4)) 53 (cACons (cVE 0) (cACons (cVE 7) (cACons (cVE 1) cANil)))))
    (sSeq (sAsg 9 (cIte (cCmp pyGt (cD (cVIx 8 (cD (cK (.int 0))))) (cD (cK (.int 0)))) (cVIx 7 (cD (cK (.int 3)))) (cVIx 7 (cD (cK (.int 4))))))
    (sIf (cCmp pyNe (cD (cVIx 8 (cD (cK (.int 0))))) (cD (cK (.int 0))))
      (sSeq (sIf (cCmp pyIs (cVP 9) (cD (cK .none)))
        (sRet (cK .none))
        sPass)
      (sAsg 2 (cCall (callN w T (k + 4)) 5 (cACons (cVE 2) (cACons (cCall (callN w T (k + 4)) 7 (cACons (cVE 9) (cACons (cTup (cCons (cD (c1 pyAbs (cD (cVIx 8 (cD (cK (.int 0))))))) (cCons (cD (cVIx 8 (cD (cK (.int 1))))) cNil))) cANil))) cANil)))))
      sPass))) (bs.map barD) [some (.fz (frD f)), some (.fz (lsD ms)), some (.fz (qD t)), none, none, none, none, none, none, none] g = .ok .nx [some (.fz (frD f)), some (.fz (lsD ms)), some (.fz (qD (t + (bs.map fun b => (resS b (f.stretch ms b)).getD 0).sum))), none, none, none, none, none, none, none] g) ∧
    ((bs.all fun b => !(resS b (f.stretch ms b)).isNone) = false → ∃ σ, forL (gNm 7) (sSeq (sAsg 8 (cCall (callN w T (k + 4)) 53 (cACons (cVE 0) (cACons (cVE 7) (cACons (cVE 1) cANil)))))
    (sSeq (sAsg 9 (cIte (cCmp pyGt (cD (cVIx 8 (cD (cK (.int 0))))) (cD (cK (.int 0)))) (cVIx 7 (cD (cK (.int 3)))) (cVIx 7 (cD (cK (.int 4))))))
    (sIf (cCmp pyNe (cD (cVIx 8 (cD (cK (.int 0))))) (cD (cK (.int 0))))
      (sSeq (sIf (cCmp pyIs (cVP 9) (cD (cK .none)))
        (sRet (cK .none))
        sPass)
      (sAsg 2 (cCall (callN w T (k + 4)) 5 (cACons (cVE 2) (cACons (cCall (callN w T (k + 4)) 7 (cACons (cVE 9) (cACons (cTup (cCons (cD (c1 pyAbs (cD (cVIx 8 (cD (cK (.int 0))))))) (cCons (cD (cVIx 8 (cD (cK (.int 1))))) cNil))) cANil))) cANil)))))
      sPass))) (bs.map barD) [some (.fz (frD f)), some (.fz (lsD ms)), some (.fz (qD t)), none, none, none, none, none, none, none] g = .ok (.rt (.fz .none)) σ g)
  | [], n, t, _, _, _ => ⟨fun _ => by simp [forL, Rat.add_zero], fun h => by simp at h⟩
  | b :: r, n, t, hp, hn, ht => by
    have hb := hp b List.mem_cons_self
    have IH := fun n t a c => law_res_loop hL h r n t (fun c hc => hp c (List.mem_cons_of_mem _ hc)) a c
    rw [List.length_cons] at hn
    have fs := h.fs hb
    have e1 := law_stretch_ok (w := w) (k := k) (g := g) hL hb h.hf h.hm h.bm h.s1 h.s2 h.hq
    have n0 := gt0 (f.stretch ms b)
    have z0 := eq0 (f.stretch ms b)
    have aq := absQ (f.stretch ms b)
    have sq : pyAbs (.int (f.stretch ms b).num) = _ := absI _
    have b3 := br3 b
    have b4 := br4 b
    have up : Bd ((n + 1) * (L * (2 * ((B + B) * (A + A))))) (l * (e * d)) t := ht.mono (Nat.mul_le_mul_right _ (by omega)) (Nat.dvd_refl _)
    have lim : (cIte (cCmp pyGt (cD (cVIx 8 (cD (cK (.int 0))))) (cD (cK (.int 0)))) (cVIx 7 (cD (cK (.int 3)))) (cVIx 7 (cD (cK (.int 4))))) [some (.fz (frD f)), some (.fz (lsD ms)), some (.fz (qD t)), none, none, none, none, some (.fz (barD b)), some (.fz (qD (f.stretch ms b))), none] g = .ok (.fz (oqD (limS b (f.stretch ms b)))) [some (.fz (frD f)), some (.fz (lsD ms)), some (.fz (qD t)), none, none, none, none, some (.fz (barD b)), some (.fz (qD (f.stretch ms b))), none] g := by
      unfold limS
      simp only [cIte, cCmp, cD, cVIx, cK, cVP, c2, dOf, Out.bind_ok, liftO_some, List.getElem?_cons_succ, List.getElem?_cons_zero, qix0, gtI, n0]
      by_cases z : 0 < f.stretch ms b
      · simp [z, b3]
      · simp [z, b4]
    generalize cIte (cCmp pyGt (cD (cVIx 8 (cD (cK (.int 0))))) (cD (cK (.int 0)))) (cVIx 7 (cD (cK (.int 3)))) (cVIx 7 (cD (cK (.int 4)))) = X at *
    have stre := stretch_bd h.hf h.hm h.bm hb
    have fr : ∀ p, resS b (f.stretch ms b) = some p → Fit p := fun p hp => h.fr hb hp
    have fb : ∀ p, resS b (f.stretch ms b) = some p → Bd (L * (2 * ((B + B) * (A + A)))) (l * (e * d)) p := fun p hp => resS_bd h.hl hb stre hp
    have fL : ∀ p, limS b (f.stretch ms b) = some p → Fit p := fun p hp => lim_fit h.hl h.s3 hb hp
    rw [List.all_cons, List.map_cons, List.map_cons, List.sum_cons]
    generalize hS : f.stretch ms b = S at *
    have ft : Fit t := ht.fit (h.hr.mono (Nat.mul_le_mul_right _ (by omega)) (Nat.le_refl _) h.hr.1)
    by_cases zs : S = 0
    · have rs : resS b S = some 0 := by unfold resS; rw [if_pos zs]
      rw [rs]
      have ih := IH (n + 1) t (by omega) up
      have e0 : t + ((some (0 : Rat)).getD 0 + (r.map fun b => (resS b (f.stretch ms b)).getD 0).sum) = t + (r.map fun b => (resS b (f.stretch ms b)).getD 0).sum := by
        show t + (0 + _) = _
        grind
      rw [e0]
      have zn : S.num = 0 := num_zero.mpr zs
      refine ⟨fun h2 => ?_, fun h2 => ?_⟩
      · have j1 := ih.1 (by simpa using h2)
        rw [← j1]
        simp [forL, e1, lim, qix0, zn]
      · obtain ⟨σ, j2⟩ := ih.2 (by simpa using h2)
        refine ⟨σ, ?_⟩
        rw [← j2]
        simp [forL, e1, lim, qix0, zn]
    · have zn : ¬ S.num = 0 := fun y => zs (num_zero.mp y)
      cases hl : limS b S with
      | none =>
        have rs : resS b S = none := by unfold resS; rw [if_neg zs, hl]; rfl
        rw [hl, oq_none] at lim
        rw [rs]
        refine ⟨fun h2 => by simp at h2, fun _ => ⟨_, by simp [forL, e1, lim, qix0, zn]; rfl⟩⟩
      | some p =>
        have rs : resS b S = some (p * absR S) := by unfold resS; rw [if_neg zs, hl]; rfl
        rw [hl, oq_some] at lim
        have fp := fL p hl
        have fa : Fit (absR S) := by unfold absR; split; exact fs; exact fs.neg
        have m := law_mult_ok (w := w) (k := k + 2) (g := g) hL fp fa
        have a := law_plus_ok (w := w) (k := k + 2) (g := g) hL ft (fr _ rs)
        have bt : Bd ((n + 1) * (L * (2 * ((B + B) * (A + A))))) (l * (e * d)) (t + p * absR S) := by
          have := ht.add (fb _ rs)
          rw [← Nat.succ_mul] at this
          exact this
        have ih := IH (n + 1) (t + p * absR S) (by omega) bt
        rw [rs]
        have e0 : t + ((some (p * absR S)).getD 0 + (r.map fun b => (resS b (f.stretch ms b)).getD 0).sum) = t + p * absR S + (r.map fun b => (resS b (f.stretch ms b)).getD 0).sum := by
          show t + (p * absR S + _) = _
          grind
        rw [e0]
        refine ⟨fun h2 => ?_, fun h2 => ?_⟩
        · have j1 := ih.1 (by simpa using h2)
          rw [← j1]
          simp only [forL, gNm, sSeq, sAsg, cCall, cACons, cANil, cVE, argOk, Out.bind_ok, liftO_some, List.getElem?_cons_succ, List.getElem?_cons_zero, List.set_cons_succ, List.set_cons_zero, e1, lim, sIf_at, cCmp, cD, cVIx, cK, cVP, c2, c1, dOf, qix0, qix1, neII, zn, decide_false, Bool.not_false, if_true, isQ, Bool.false_eq_true, if_false, sPass, cTup, cCons, cNil, sq, aq, m, a, mask, List.length_cons, List.length_nil]
          simp [aq, m, a]
        · obtain ⟨σ, j2⟩ := ih.2 (by simpa using h2)
          refine ⟨σ, ?_⟩
          rw [← j2]
          simp only [forL, gNm, sSeq, sAsg, cCall, cACons, cANil, cVE, argOk, Out.bind_ok, liftO_some, List.getElem?_cons_succ, List.getElem?_cons_zero, List.set_cons_succ, List.set_cons_zero, e1, lim, sIf_at, cCmp, cD, cVIx, cK, cVP, c2, c1, dOf, qix0, qix1, neII, zn, decide_false, Bool.not_false, if_true, isQ, Bool.false_eq_true, if_false, sPass, cTup, cCons, cNil, sq, aq, m, a, mask, List.length_cons, List.length_nil]
          simp [aq, m, a]
theorem law_resistance_ok (hL : HL T) {f : Frame} {ms : List V2} {A B d e L l : Nat} (h : MoOk f ms A B d e L l) :
    callN w T (k + 5) 54 [.fz (frD f), .fz (lsD ms)] g = .ok (.fz (oqD (if freeB f ms = true then some (resTot f ms) else none))) g := by
  have nb := h.hf.nb
  have l1 := law_free_loop (w := w) (k := k + 1) (g := g) hL h (s2 := .fz (qD 0)) f.feet (fun t ht => ht)
  have l2 := law_res_loop (w := w) (k := k) (g := g) hL h f.bars 0 0 (fun t ht => ht) (by omega) (Bd.zero _ _)
  have rt : (0 : Rat) + (f.bars.map fun b => (resS b (f.stretch ms b)).getD 0).sum = resTot f ms := by unfold resTot; grind
  rw [rt] at l2
  have c1 : (f.feet.all fun t => okS t (slipR ms t)) = footFree f ms := rfl
  have c2 : (f.bars.all fun b => !(resS b (f.stretch ms b)).isNone) = barFree f ms := rfl
  rw [c1] at l1
  rw [c2] at l2
  rw [callN_at (hL.h (i := 54) rfl)]
  unfold freeB
  cases z1 : footFree f ms with
  | false =>
    obtain ⟨σ, q⟩ := l1.2 z1
    simp [semF, runF, b_law_resistance, q0_lit, fr2, q]
  | true =>
    have q := l1.1 z1
    cases z2 : barFree f ms with
    | false =>
      obtain ⟨σ, q2⟩ := l2.2 z2
      simp [semF, runF, b_law_resistance, q0_lit, fr2, fr3, q, q2]
    | true =>
      have q2 := l2.1 z2
      simp [semF, runF, b_law_resistance, q0_lit, fr2, fr3, q, q2]
theorem law_falls_ok (hL : HL T) {f : Frame} {ls ms : List V2} {A B d e L l C c : Nat} (h : MoOk f ms A B d e L l) (hk : WkOk ls B e C c) (hlm : ls.length ≤ ms.length) :
    callN w T (k + 6) 56 [.fz (frD f), .fz (lsD ls), .fz (lsD ms)] g = .ok (.fz (.bool (fallsB f ls ms))) g := by
  have hm := h.hm
  have e1 := law_resistance_ok (w := w) (k := k) (g := g) hL h
  have ln : pyLen (lsD ms) = some (.fz (.int f.joints.length)) := by simp [lsD, hm]
  have lf : pyLen (.tuple (f.joints.map fun j => .tuple [.str j.1, vD j.2])) = some (.fz (.int f.joints.length)) := by simp
  unfold fallsB
  rw [callN_at (hL.h (i := 56) rfl)]
  cases z : freeB f ms with
  | false =>
    rw [z] at e1
    simp only [Bool.false_eq_true, if_false, oq_none] at e1
    simp [semF, runF, b_law_falls, fr1, ln, e1]
  | true =>
    rw [z] at e1
    simp only [if_true, oq_some] at e1
    have bf : barFree f ms = true := by unfold freeB at z; rw [Bool.and_eq_true] at z; exact z.2
    have e4 := law_work_ok (w := w) (k := k + 1) (g := g) hL hk.s h.sB hk.bl h.bm hlm hk.ll hk.hq hk.n
    have fr : Fit (resTot f ms) := by
      have rb : ∀ (bs : List Bar), (∀ b ∈ bs, b ∈ f.bars) → Bd (bs.length * (L * (2 * ((B + B) * (A + A))))) (l * (e * d)) (bs.map fun b => (resS b (f.stretch ms b)).getD 0).sum := fun bs => by
        induction bs with
        | nil => exact fun _ => Bd.zero _ _
        | cons b r ih =>
          intro hp
          have i2 := ih fun c hc => hp c (List.mem_cons_of_mem _ hc)
          have bb : Bd (L * (2 * ((B + B) * (A + A)))) (l * (e * d)) ((resS b (f.stretch ms b)).getD 0) := by
            cases y : resS b (f.stretch ms b) with
            | none => exact Bd.zero _ _
            | some p => exact resS_bd h.hl (hp b List.mem_cons_self) (stretch_bd h.hf h.hm h.bm (hp b List.mem_cons_self)) y
          have := i2.add bb
          rw [← Nat.succ_mul] at this
          rw [List.map_cons, List.sum_cons, List.length_cons, Rat.add_comm]
          exact this
      exact (rb f.bars fun b hb => hb).fit (h.hr.mono (Nat.mul_le_mul_right _ (by have := h.hf.nb; omega)) (Nat.le_refl _) h.hr.1)
    have m := law_minus_ok (w := w) (k := k + 3) (g := g) hL (hk.fit h.bm) fr
    have fin : decide ((0 : Int) < (workR ls ms - resTot f ms).num) = decide (resTot f ms < workR ls ms) := by
      rw [gt0, Bool.eq_iff_iff, decide_eq_true_iff, decide_eq_true_iff]
      grind
    simp [semF, runF, b_law_falls, fr1, ln, e1, e4, m, qix0]
    simpa using fin
theorem states_plus_ok (hL : HL T) (hw : 4000 ≤ w) {s t : Stt} {B e : Nat} (h1 : ∀ q ∈ s.qs, Fit q) (h2 : ∀ q ∈ s.rs, Fit q) (h3 : ∀ q ∈ t.qs, Fit q) (h4 : ∀ q ∈ t.rs, Fit q) (l1 : s.qs.length ≤ 100000) (l2 : s.rs.length ≤ 100000) :
    callN w T (k + 5) 47 [.fz (stD s), .fz (stD t)] g = .ok (.fz (stD ⟨addR s.qs t.qs, addR s.rs t.rs⟩)) g := by
  have e1 := plus_ok (w := w) (k := k) (g := g) hL hw h1 h3 l1
  have e2 := plus_ok (w := w) (k := k) (g := g) hL hw h2 h4 l2
  have e : PyData.tuple [rowD (addR s.qs t.qs), rowD (addR s.rs t.rs)] = stD ⟨addR s.qs t.qs, addR s.rs t.rs⟩ := rfl
  rw [callN_at (hL.h (i := 47) rfl)]
  simp [semF, runF, b_states_plus, st0, st1, e1, e2, e]
theorem states_times_ok (hL : HL T) (hw : 4000 ≤ w) {s : Stt} {t : Rat} (ft : Fit t) (h1 : ∀ q ∈ s.qs, Fit q) (h2 : ∀ q ∈ s.rs, Fit q) (l1 : s.qs.length ≤ 100000) (l2 : s.rs.length ≤ 100000) :
    callN w T (k + 5) 48 [.fz (qD t), .fz (stD s)] g = .ok (.fz (stD ⟨mulR t s.qs, mulR t s.rs⟩)) g := by
  have e1 := scaled_ok (w := w) (k := k) (g := g) hL hw ft h1 l1
  have e2 := scaled_ok (w := w) (k := k) (g := g) hL hw ft h2 l2
  have e : PyData.tuple [rowD (mulR t s.qs), rowD (mulR t s.rs)] = stD ⟨mulR t s.qs, mulR t s.rs⟩ := rfl
  rw [callN_at (hL.h (i := 48) rfl)]
  simp [semF, runF, b_states_times, st0, st1, e1, e2, e]
theorem enumD_map {α : Type} (f : α → D) : ∀ (l : List α) (n : Nat), enumD n (l.map f) = (l.zipIdx n).map fun p => .tuple [.int (p.2 : Nat), f p.1]
  | [], n => rfl
  | x :: r, n => by
    rw [List.map_cons, enumD, enumD_map f r (n + 1), List.zipIdx_cons, List.map_cons]
def usedI (qs : List Rat) : List D := ((qs.zipIdx 0).filter fun p => !decide (p.1 = 0)).map fun p => .int (p.2 : Nat)
theorem used_bars_ok (hL : HL T) {s : Stt} (l1 : s.qs.length ≤ 100000) : callN w T (k + 1) 49 [.fz (stD s)] g = .ok (.ow (usedI s.qs)) g := by
  have cf := compL_imgF (tg := gTp 2 (gC (gNm 1) (gC (gNm 2) gN))) (t := cCmp pyNe (cVP 2) (cD (cK (.tuple [(.int 0), (.int 1)])))) (f := cD (cVE 1)) (vs := [1, 2]) (σ := [some (.fz (stD s)), none, none]) (g := g) (fun (p : Rat × Nat) => PyData.tuple [.int (p.2 : Nat), qD p.1]) (fun p => !decide (p.1 = 0)) (fun p => .int (p.2 : Nat)) (s.qs.zipIdx 0) [] (fun p hp => by
    have ne := neQ p.1 0
    exact ⟨[some (.fz (stD s)), some (.fz (.int p.2)), some (.fz (qD p.1))], [some (.fz (stD s)), some (.fz (.int p.2)), some (.fz (qD p.1))], by simp, by simp [q0_lit, ne], fun _ => ⟨[some (.fz (stD s)), some (.fz (.int p.2)), some (.fz (qD p.1))], by simp, by simp⟩, fun _ => by simp⟩) (by rw [List.length_zipIdx, List.length_nil]; omega)
  have sq : (lseqOf (rowD s.qs)).map (enumD 0) = some ((s.qs.zipIdx 0).map fun p => .tuple [.int (p.2 : Nat), qD p.1]) := by
    show some (enumD 0 (s.qs.map qD)) = _
    rw [enumD_map]
  rw [List.nil_append] at cf
  have u : ((s.qs.zipIdx 0).filter fun p => !decide (p.1 = 0)).map (fun p => PyData.int (p.2 : Nat)) = usedI s.qs := rfl
  rw [u] at cf
  rw [callN_at (hL.h (i := 49) rfl)]
  generalize usedI s.qs = U at *
  generalize hE : (s.qs.zipIdx 0).map (fun (p : Rat × Nat) => PyData.tuple [.int (p.2 : Nat), qD p.1]) = E at *
  simp only [semF, runF, b_used_bars, sRet, cLc, iEnum, cD, cVIx, c2, cVP, cK, startS]
  simp [st0, sq, cf]
  simp [rowD] at sq ⊢
  simp [sq, cf]
end
end
end FD
/-! FDF12: frames that the law draws. -/
namespace FD
noncomputable section
open PySem
theorem qI (z : Int) : PyData.tuple [.int z, .int 1] = qD (z : Rat) := rfl
theorem bd_int {A : Nat} {z : Int} (h : z.natAbs ≤ A) : Bd A 1 (z : Rat) := (Bd.int z).mono h (Nat.dvd_refl _)
theorem bd_half {A : Nat} {z : Int} {n : Nat} (hn : n = 1 ∨ n = 2) (h : z.natAbs ≤ A) : Bd A 2 (mkRat z n) := by
  have lo : (-(A : Int) : Rat) ≤ ((z : Int) : Rat) := by exact Rat.intCast_le_intCast.mpr (show -(A : Int) ≤ z by omega)
  have hi : ((z : Int) : Rat) ≤ ((A : Int) : Rat) := Rat.intCast_le_intCast.mpr (by omega)
  have ac : ((A : Int) : Rat) = (A : Rat) := rfl
  have ap : (0 : Rat) ≤ (A : Rat) := Rat.natCast_nonneg
  rcases hn with rfl | rfl
  · have e : mkRat z 1 = ((z : Int) : Rat) := by rw [Rat.mkRat_eq_div]; grind
    rw [e]
    exact ⟨⟨z * 2, by rw [Rat.intCast_mul]; rfl⟩, by grind, by grind⟩
  · have e : mkRat z 2 = ((z : Int) : Rat) / 2 := by rw [Rat.mkRat_eq_div]; rfl
    rw [e]
    exact ⟨⟨z, by grind⟩, by grind, by grind⟩
theorem mkRat_nn {z : Int} {n : Nat} (hn : n = 1 ∨ n = 2) (h : 0 ≤ z) : 0 ≤ mkRat z n := by
  have hi : ((0 : Int) : Rat) ≤ ((z : Int) : Rat) := Rat.intCast_le_intCast.mpr h
  have ac : ((0 : Int) : Rat) = (0 : Rat) := rfl
  rcases hn with rfl | rfl
  · have e : mkRat z 1 = ((z : Int) : Rat) := by rw [Rat.mkRat_eq_div]; grind
    rw [e]
    grind
  · have e : mkRat z 2 = ((z : Int) : Rat) / 2 := by rw [Rat.mkRat_eq_div]; rfl
    rw [e]
    grind
def prD (p : Nat × Nat) : D := .tuple [.int p.1, .int p.2]
theorem pr_lit (a b : Nat) : PyData.tuple [.int a, .int b] = prD (a, b) := rfl
theorem eqv_prD (p q : Nat × Nat) : (prD p).eqv (prD q) = decide (p = q) := by
  obtain ⟨a, b⟩ := p
  obtain ⟨c, d⟩ := q
  rw [Bool.eq_iff_iff]
  simp [prD]
  omega
theorem notIn_pr (p : Nat × Nat) (ps : List (Nat × Nat)) : pyNotIn (prD p) (.list (ps.map prD)) = some (!decide (p ∈ ps)) := by
  have h1 := layA_map prD ps fun x _ => by simp [prD]
  have h2 := depA_map prD 1 ps fun x _ => by simp [prD]
  have s1 : SeqAt.shaped (.list (ps.map prD)) = true := by
    simp [h1]; omega
  have s2 : SeqAt.shaped (prD p) = true := by simp [prD]
  have an : ((ps.map prD).any fun z => PyData.eqv z (prD p)) = decide (p ∈ ps) := by
    rw [List.any_map, Bool.eq_iff_iff, List.any_eq_true, decide_eq_true_iff]
    constructor
    · rintro ⟨x, hx, e⟩
      have : decide (x = p) = true := by rw [← eqv_prD]; exact e
      rw [← of_decide_eq_true this]
      exact hx
    · exact fun h => ⟨p, h, by show PyData.eqv (prD p) (prD p) = true; rw [eqv_prD]; exact decide_eq_true rfl⟩
  have pi : pyIn (prD p) (.list (ps.map prD)) = some ((ps.map prD).any fun z => PyData.eqv z (prD p)) := by
    show (if SeqAt.shaped (prD p) && SeqAt.shaped (.list (ps.map prD)) then some _ else none) = _
    rw [s1, s2]; rfl
  unfold pyNotIn
  rw [pi, an]
  rfl
theorem strI {k : Nat} (h : k < 2 ^ 64) : pyStr (.int k) = some (.fz (.str (toString (k : Int)))) := by
  refine if_pos ?_
  rw [Int.natAbs_natCast]
  by_cases z : k = 0
  · subst z; decide
  · have := (Nat.log2_lt z).mpr h
    omega
theorem strLen : ∀ k : Nat, k < 64 → ((toString (k : Int) : String) : Str).length ≤ 10 := by decide +kernel
theorem addB {k : Nat} (h : k < 64) : pyAdd (.str "b") (.str (toString (k : Int))) = some (.fz (.str ("b" ++ toString (k : Int)))) := by
  have := strLen k h
  have l : ("b" : Str).length = 1 := rfl
  exact if_pos (by rw [l]; omega)
theorem addJ {k : Nat} (h : k < 64) : pyAdd (.str "j") (.str (toString (k : Int))) = some (.fz (.str ("j" ++ toString (k : Int)))) := by
  have := strLen k h
  have l : ("j" : Str).length = 1 := rfl
  exact if_pos (by rw [l]; omega)
section
variable {w k : Nat} {T : List Fn}
theorem law_limit_ok (hL : HL T) {c : Nat} {g : G} (h : Dk c g) (hc : c < 2 ^ 32) : ∃ o g', callN w T (k + 2) 57 [.deal] g = .ok (.fz (oqD o)) g' ∧ (∀ p, o = some p → Bd 6 2 p ∧ 0 ≤ p) ∧ Dk (c + 3) g' := by
  obtain ⟨v, g1, e1, lo, hi, d1⟩ := take_ok (w := w) (k := k) (i := 1) (hL.h rfl) h (by omega) (m := 12) (by decide)
  rw [callN_at (hL.h (i := 57) rfl)]
  by_cases z : v = 0
  · exact ⟨none, g1, by simp [semF, runF, b_law_limit, e1, z], fun p hp => (nomatch hp), d1.mono (by omega)⟩
  · obtain ⟨a, g2, e2, alo, ahi, d2⟩ := take_ok (w := w) (k := k) (i := 1) (hL.h rfl) d1 (by omega) (m := 7) (by decide)
    obtain ⟨b, g3, e3, blo, bhi, d3⟩ := take_ok (w := w) (k := k) (i := 1) (hL.h rfl) d2 (by omega) (m := 2) (by decide)
    obtain ⟨n, rfl⟩ : ∃ n : Nat, b = n := ⟨b.toNat, by omega⟩
    have hn : n + 1 = 1 ∨ n + 1 = 2 := by omega
    have r := law_ratio_at (w := w) (k := k) (g := g3) hL (p := a) (q := n + 1) (by omega) (Nat.lt_of_le_of_lt (show a.natAbs ≤ 6 by omega) (by decide)) (Nat.lt_of_le_of_lt (show n + 1 ≤ 2 by omega) (by decide))
    have cst : (((n + 1 : Nat) : Int)) = 1 + (n : Int) := by omega
    rw [cst] at r
    refine ⟨some (mkRat a (n + 1)), g3, by simp [semF, runF, b_law_limit, e1, z, e2, e3, r], fun p hp => ?_, d3⟩
    injection hp with hp
    subst hp
    exact ⟨bd_half hn (by omega), mkRat_nn hn alo⟩
def plBody (ct : CT) : Ev Fl := (sSeq (sApp 2 (cD (cTup (cCons (cD (cTup (cCons (cD (c2 pyMul (cD (cK (.int 2))) (cVP 3))) (cCons (cD (cK (.int 1))) cNil)))) (cCons (cD (cTup (cCons (cD (cK (.int 0))) (cCons (cD (cK (.int 1))) cNil)))) cNil)))))
    (sApp 2 (cD (cTup (cCons (cD (cTup (cCons (cD (c2 pyAdd (cD (c2 pyMul (cD (cK (.int 2))) (cVP 3))) (cD (cCall ct 1 (cACons (cVE 0) (cACons (cK (.int 2)) cANil)))))) (cCons (cD (cK (.int 1))) cNil)))) (cCons (cD (cTup (cCons (cD (c2 pyAdd (cD (cK (.int 2))) (cD (cCall ct 1 (cACons (cVE 0) (cACons (cK (.int 2)) cANil)))))) (cCons (cD (cK (.int 1))) cNil)))) cNil))))))
theorem pl_loop (hL : HL T) {n : SV} : ∀ (m i c : Nat) (ps : List V2) (g : G), i + m ≤ 50 → ps.length + 2 * m ≤ 1000 → Dk c g → c + 2 * m < 2 ^ 31 → ∃ (ps' : List V2) (g' : G), forL (gNm 3) (plBody (callN w T (k + 1))) ((List.range' i m).map fun (j : Nat) => PyData.int j)
    [some .deal, some n, some (.ow (ps.map vD)), none, none, none, none, none, none, none, none, none, none] g = .ok .nx [some .deal, some n, some (.ow (ps'.map vD)), none, none, none, none, none, none, none, none, none, none] g' ∧ ps'.length = ps.length + 2 * m ∧ (∀ p ∈ ps', p ∈ ps ∨ BdV 110 1 p) ∧ Dk (c + 2 * m) g'
  | 0, i, c, ps, g, _, _, h, _ => ⟨ps, g, rfl, rfl, fun p h => .inl h, h⟩
  | m + 1, i, c, ps, g, hi, hl, h, hc => by
    obtain ⟨a, g1, e1, lo1, hi1, d1⟩ := take_ok (w := w) (k := k) (i := 1) (hL.h rfl) h (by omega) (m := 2) (by decide)
    obtain ⟨b, g2, e2, lo2, hi2, d2⟩ := take_ok (w := w) (k := k) (i := 1) (hL.h rfl) d1 (by omega) (m := 2) (by decide)
    have p0 : PyData.tuple [qD ((2 * (i : Int) : Int) : Rat), qD 0] = vD ⟨((2 * (i : Int) : Int) : Rat), 0⟩ := rfl
    have p1 : PyData.tuple [qD ((2 * (i : Int) + a : Int) : Rat), qD ((2 + b : Int) : Rat)] = vD ⟨((2 * (i : Int) + a : Int) : Rat), ((2 + b : Int) : Rat)⟩ := rfl
    obtain ⟨ps', g', r1, r2, r3, r4⟩ := pl_loop hL (n := n) m (i + 1) (c + 1 + 1) (ps ++ [⟨((2 * (i : Int) : Int) : Rat), 0⟩] ++ [⟨((2 * (i : Int) + a : Int) : Rat), ((2 + b : Int) : Rat)⟩]) g2 (by omega) (by simp; omega) d2 (by omega)
    refine ⟨ps', g', ?_, ?_, ?_, r4.mono (by omega)⟩
    · rw [← r1, List.range'_succ, List.map_cons]
      have mu := mulI (i := 2) (j := (i : Int)) (by omega) (by omega)
      have l1 : ps.length < 16777216 := by omega
      have l2 : ps.length + 1 < 16777216 := by omega
      simp only [List.map_append, List.map_cons, List.map_nil]
      simp [forL, plBody, mu, qI, q0_lit, p0, l1, e1, e2, p1, l2]
      rfl
    · rw [r2]; simp; omega
    · intro p hp
      rcases r3 p hp with h | h
      · simp only [List.mem_append, List.mem_singleton] at h
        rcases h with (h | rfl) | rfl
        · exact .inl h
        · exact .inr ⟨bd_int (by omega), Bd.zero _ _⟩
        · exact .inr ⟨bd_int (by omega), bd_int (by omega)⟩
      · exact .inr h
def prBody (ct : CT) : Ev Fl := (sSeq (sAsg 5 (c2 pyMul (cD (cK (.int 2))) (cVP 3)))
    (sSeq (sAsg 4 (c2 pyAdd (cVP 4) (cD (cLst (cCons (cD (cTup (cCons (cD (cVE 5)) (cCons (cD (c2 pyAdd (cVP 5) (cD (cK (.int 1))))) cNil)))) (cCons (cD (cTup (cCons (cD (cVE 5)) (cCons (cD (c2 pyAdd (cVP 5) (cD (cK (.int 2))))) cNil)))) (cCons (cD (cTup (cCons (cD (c2 pyAdd (cVP 5) (cD (cK (.int 1))))) (cCons (cD (c2 pyAdd (cVP 5) (cD (cK (.int 3))))) cNil)))) cNil)))))))
    (sSeq (sApp 4 (cD (c2 pyIx (cD (cLst (cCons (cD (cTup (cCons (cD (cVE 5)) (cCons (cD (c2 pyAdd (cVP 5) (cD (cK (.int 3))))) cNil)))) (cCons (cD (cTup (cCons (cD (c2 pyAdd (cVP 5) (cD (cK (.int 1))))) (cCons (cD (c2 pyAdd (cVP 5) (cD (cK (.int 2))))) cNil)))) cNil)))) (cD (cCall ct 1 (cACons (cVE 0) (cACons (cK (.int 2)) cANil)))))))
    (sIf (cCmp pyEq (cD (cCall ct 1 (cACons (cVE 0) (cACons (cK (.int 4)) cANil)))) (cD (cK (.int 0))))
      (sSeq (sAsg 6 (cLst (cCons (cD (cTup (cCons (cD (cVE 5)) (cCons (cD (c2 pyAdd (cVP 5) (cD (cK (.int 3))))) cNil)))) (cCons (cD (cTup (cCons (cD (c2 pyAdd (cVP 5) (cD (cK (.int 1))))) (cCons (cD (c2 pyAdd (cVP 5) (cD (cK (.int 2))))) cNil)))) cNil))))
      (sAsg 4 (c2 pyAdd (cVP 4) (cD (cLc (iSeq (cD (cVE 6))) [12] (gNm 12) (cCmp pyNotIn (cVP 12) (cVP 4)) (cD (cVE 12)))))))
      sPass))))
def PrOk (n : Nat) (p : Nat × Nat) : Prop := p.1 < p.2 ∧ p.2 < n
theorem pr_add (a b : Nat) : PyData.tuple [.int (2 * (a : Int)), .int (2 * (a : Int) + b)] = prD (2 * a, 2 * a + b) := by
  show _ = PyData.tuple [.int ((2 * a : Nat) : Int), .int ((2 * a + b : Nat) : Int)]
  rw [show ((2 * a : Nat) : Int) = 2 * (a : Int) by omega, show ((2 * a + b : Nat) : Int) = 2 * (a : Int) + b by omega]
theorem pr_add2 (a b c : Nat) : PyData.tuple [.int (2 * (a : Int) + b), .int (2 * (a : Int) + c)] = prD (2 * a + b, 2 * a + c) := by
  show _ = PyData.tuple [.int ((2 * a + b : Nat) : Int), .int ((2 * a + c : Nat) : Int)]
  rw [show ((2 * a + b : Nat) : Int) = 2 * (a : Int) + b by omega, show ((2 * a + c : Nat) : Int) = 2 * (a : Int) + c by omega]
theorem pr_loop (hL : HL T) {n s2 : SV} {N : Nat} : ∀ (m i c : Nat) (ps : List (Nat × Nat)) (g : G), i + m ≤ 50 → 2 * (i + m) + 2 ≤ N → ps.length + 10 * m ≤ 1000 → (∀ p ∈ ps, PrOk N p) → Dk c g → c + 2 * m < 2 ^ 31 → ∃ (ps' : List (Nat × Nat)) (g' : G), forL (gNm 3) (prBody (callN w T (k + 1))) ((List.range' i m).map fun (j : Nat) => PyData.int j)
    [some .deal, some n, some s2, none, some (.ow (ps.map prD)), none, none, none, none, none, none, none, none] g = .ok .nx [some .deal, some n, some s2, none, some (.ow (ps'.map prD)), none, none, none, none, none, none, none, none] g' ∧ ps.length + 4 * m ≤ ps'.length ∧ ps'.length ≤ ps.length + 6 * m ∧ (∀ p ∈ ps', PrOk N p) ∧ Dk (c + 2 * m) g'
  | 0, i, c, ps, g, _, _, _, hp, h, _ => ⟨ps, g, rfl, by omega, by omega, hp, h⟩
  | m + 1, i, c, ps, g, hi, hN, hl, hp, h, hc => by
    obtain ⟨a, g1, e1, lo1, hi1, d1⟩ := take_ok (w := w) (k := k) (i := 1) (hL.h rfl) h (by omega) (m := 2) (by decide)
    obtain ⟨b, g2, e2, lo2, hi2, d2⟩ := take_ok (w := w) (k := k) (i := 1) (hL.h rfl) d1 (by omega) (m := 4) (by decide)
    have mu := mulI (i := 2) (j := (i : Int)) (by omega) (by omega)
    have q1 := pr_add i 1
    have q2 := pr_add i 2
    have q3 := pr_add i 3
    have r12 := pr_add2 i 1 2
    have r13 := pr_add2 i 1 3
    simp only [Int.natCast_one, show ((2 : Nat) : Int) = 2 from rfl, show ((3 : Nat) : Int) = 3 from rfl] at q1 q2 q3 r12 r13
    have ad : pyAdd (.list (ps.map prD)) (.list [prD (2 * i, 2 * i + 1), prD (2 * i, 2 * i + 2), prD (2 * i + 1, 2 * i + 3)]) = some (.ow ((ps ++ [(2 * i, 2 * i + 1), (2 * i, 2 * i + 2), (2 * i + 1, 2 * i + 3)]).map prD)) := by
      rw [addL (by simp; omega), List.map_append]; rfl
    obtain ⟨x, hx, ix⟩ : ∃ x, (x = (2 * i, 2 * i + 3) ∨ x = (2 * i + 1, 2 * i + 2)) ∧ pyIx (.list [prD (2 * i, 2 * i + 3), prD (2 * i + 1, 2 * i + 2)]) (.int a) = some (.fz (prD x)) := by
      by_cases z : a = 0
      · exact ⟨_, .inl rfl, ixL (n := 0) (by omega) rfl⟩
      · exact ⟨_, .inr rfl, ixL (n := 1) (by omega) rfl⟩
    have l1 : (ps ++ [(2 * i, 2 * i + 1), (2 * i, 2 * i + 2), (2 * i + 1, 2 * i + 3)]).length < 16777216 := by simp; omega
    have ap : (ps ++ [(2 * i, 2 * i + 1), (2 * i, 2 * i + 2), (2 * i + 1, 2 * i + 3)]).map prD ++ [prD x] = (ps ++ [(2 * i, 2 * i + 1), (2 * i, 2 * i + 2), (2 * i + 1, 2 * i + 3)] ++ [x]).map prD := by simp
    have ok4 : ∀ p ∈ ps ++ [(2 * i, 2 * i + 1), (2 * i, 2 * i + 2), (2 * i + 1, 2 * i + 3)] ++ [x], PrOk N p := fun p h => by
      simp only [List.mem_append, List.mem_cons, List.not_mem_nil, or_false] at h
      unfold PrOk
      rcases h with (h | rfl | rfl | rfl) | rfl
      · exact hp p h
      · exact ⟨by show 2 * i < 2 * i + 1; omega, by show 2 * i + 1 < N; omega⟩
      · exact ⟨by show 2 * i < 2 * i + 2; omega, by show 2 * i + 2 < N; omega⟩
      · exact ⟨by show 2 * i + 1 < 2 * i + 3; omega, by show 2 * i + 3 < N; omega⟩
      · rcases hx with rfl | rfl
        · exact ⟨by show 2 * i < 2 * i + 3; omega, by show 2 * i + 3 < N; omega⟩
        · exact ⟨by show 2 * i + 1 < 2 * i + 2; omega, by show 2 * i + 2 < N; omega⟩
    have len4 : (ps ++ [(2 * i, 2 * i + 1), (2 * i, 2 * i + 2), (2 * i + 1, 2 * i + 3)] ++ [x]).length = ps.length + 4 := by simp
    generalize hX : ps ++ [(2 * i, 2 * i + 1), (2 * i, 2 * i + 2), (2 * i + 1, 2 * i + 3)] = X at *
    generalize hY : X ++ [x] = Y at *
    by_cases z : b = 0
    · have cf := compL_imgF (tg := gNm 12) (t := cCmp pyNotIn (cVP 12) (cVP 4)) (f := cD (cVE 12)) (vs := [12]) (σ := [some .deal, some n, some s2, some (.fz (.int i)), some (.ow (Y.map prD)), some (.fz (.int (2 * (i : Int)))), some (.fz (.list [prD (2 * i, 2 * i + 3), prD (2 * i + 1, 2 * i + 2)])), none, none, none, none, none, none]) (g := g2) prD (fun p => !decide (p ∈ Y)) prD [(2 * i, 2 * i + 3), (2 * i + 1, 2 * i + 2)] [] (fun p hp => by
        have ni := notIn_pr p Y
        exact ⟨[some .deal, some n, some s2, some (.fz (.int i)), some (.ow (Y.map prD)), some (.fz (.int (2 * (i : Int)))), some (.fz (.list [prD (2 * i, 2 * i + 3), prD (2 * i + 1, 2 * i + 2)])), none, none, none, none, none, some (.fz (prD p))], [some .deal, some n, some s2, some (.fz (.int i)), some (.ow (Y.map prD)), some (.fz (.int (2 * (i : Int)))), some (.fz (.list [prD (2 * i, 2 * i + 3), prD (2 * i + 1, 2 * i + 2)])), none, none, none, none, none, some (.fz (prD p))], by simp, by simp [ni], fun _ => ⟨[some .deal, some n, some s2, some (.fz (.int i)), some (.ow (Y.map prD)), some (.fz (.int (2 * (i : Int)))), some (.fz (.list [prD (2 * i, 2 * i + 3), prD (2 * i + 1, 2 * i + 2)])), none, none, none, none, none, some (.fz (prD p))], by simp, by simp⟩, fun _ => by simp⟩) (by simp)
      rw [List.nil_append] at cf
      have fl : ([(2 * i, 2 * i + 3), (2 * i + 1, 2 * i + 2)].filter fun p => !decide (p ∈ Y)).length ≤ 2 := List.length_filter_le _ _
      have fm : ∀ p ∈ [(2 * i, 2 * i + 3), (2 * i + 1, 2 * i + 2)].filter fun p => !decide (p ∈ Y), PrOk N p := fun p h => by
        have h := (List.mem_filter.mp h).1
        simp only [List.mem_cons, List.not_mem_nil, or_false] at h
        rcases h with rfl | rfl
        · exact ⟨by show 2 * i < 2 * i + 3; omega, by show 2 * i + 3 < N; omega⟩
        · exact ⟨by show 2 * i + 1 < 2 * i + 2; omega, by show 2 * i + 2 < N; omega⟩
      generalize [(2 * i, 2 * i + 3), (2 * i + 1, 2 * i + 2)].filter (fun p => !decide (p ∈ Y)) = F at *
      have ad2 : pyAdd (.list (Y.map prD)) (.list (F.map prD)) = some (.ow ((Y ++ F).map prD)) := by
        rw [addL (by simp; omega), List.map_append]
      obtain ⟨ps', g', r1, r2, r3, r4, r5⟩ := pr_loop hL (n := n) (s2 := s2) (N := N) m (i + 1) (c + 1 + 1) (Y ++ F) g2 (by omega) (by omega) (by simp; omega) (fun p h => by
        rcases List.mem_append.mp h with h | h
        · exact ok4 p h
        · exact fm p h) d2 (by omega)
      rw [List.length_append] at r2 r3
      refine ⟨ps', g', ?_, by omega, by omega, r4, r5.mono (by omega)⟩
      rw [← r1, List.range'_succ, List.map_cons]
      simp only [List.map_cons, List.map_nil] at cf
      simp [-List.map_append, forL, prBody, mu, q1, q2, q3, r12, r13, ad, e1, ix, l1, ap, e2, z, cLc, cf, ad2]
    · obtain ⟨ps', g', r1, r2, r3, r4, r5⟩ := pr_loop hL (n := n) (s2 := s2) (N := N) m (i + 1) (c + 1 + 1) Y g2 (by omega) (by omega) (by omega) ok4 d2 (by omega)
      refine ⟨ps', g', ?_, by omega, by omega, r4, r5.mono (by omega)⟩
      rw [← r1, List.range'_succ, List.map_cons]
      simp [-List.map_append, forL, prBody, mu, q1, q2, q3, r12, r13, ad, e1, ix, l1, ap, e2, z]
end
end
end FD
/-! FDF13: frames that the law draws, to their end; loads. -/
namespace FD
noncomputable section
open PySem
def barEv (ct : CT) : Ev D := cD (cTup (cCons (cD (c2 pyAdd (cD (cK (.str "b"))) (cD (c1 pyStr (cVP 3))))) (cCons (cD (c2 pyIx (cD (cVIx 4 (cVP 3))) (cD (cK (.int 0))))) (cCons (cD (c2 pyIx (cD (cVIx 4 (cVP 3))) (cD (cK (.int 1))))) (cCons (cD (cCall ct 57 (cACons (cVE 0) cANil))) (cCons (cD (cCall ct 57 (cACons (cVE 0) cANil))) (cCons (cD (cTup (cCons (cD (cCall ct 1 (cACons (cVE 0) (cACons (cK (.int 3)) cANil)))) (cCons (cD (cK (.int 1))) cNil)))) cNil)))))))
def istr (k : Nat) : Str := Str.ofString (toString (k : Int))
def nmS (p : Str) (j : Nat) : Str := p ++ istr j
theorem strN {k : Nat} (h : k < 2 ^ 64) : pyStr (.int k) = some (.fz (.str (istr k))) := strI h
theorem addBN {k : Nat} (h : k < 64) : pyAdd (.str "b") (.str (istr k)) = some (.fz (.str (nmS "b" k))) := addB h
theorem addJN {k : Nat} (h : k < 64) : pyAdd (.str "j") (.str (istr k)) = some (.fz (.str (nmS "j" k))) := addJ h
theorem pr_ix0 (p : Nat × Nat) : pyIx (prD p) (.int 0) = some (.fz (.int p.1)) := ixU (n := 0) rfl rfl
theorem pr_ix1 (p : Nat × Nat) : pyIx (prD p) (.int 1) = some (.fz (.int p.2)) := ixU (n := 1) rfl rfl
/-- a bar that the law draws -/
structure BarOk (b : Bar) : Prop where
  lim : ∀ p, b.pull = some p ∨ b.push = some p → Bd 6 2 p ∧ 0 ≤ p
  wt : Bd 2 1 b.wt
section
variable {w k : Nat} {T : List Fn}
theorem bars_loop (hL : HL T) {s1 s2 s7 : Option SV} {ps : List (Nat × Nat)} : ∀ (m i c : Nat) (acc : List D) (g : G), i + m = ps.length → ps.length ≤ 63 → acc.length + m ≤ 1000 → Dk c g → c + 7 * m < 2 ^ 31 → ∃ (bs : List Bar) (g' : G),
    compL (gNm 3) cYes (barEv (callN w T (k + 2))) [3] ((List.range' i m).map fun (j : Nat) => PyData.int j) acc [some .deal, s1, s2, none, some (.ow (ps.map prD)), none, none, s7, none, none, none, none, none] g
      = .ok (acc ++ bs.map barD) [some .deal, s1, s2, none, some (.ow (ps.map prD)), none, none, s7, none, none, none, none, none] g' ∧ bs.map (fun b => (b.i, b.j)) = ps.drop i ∧ bs.map (·.name) = (List.range' i m).map (nmS "b") ∧ (∀ b ∈ bs, BarOk b) ∧ Dk (c + 7 * m) g'
  | 0, i, c, acc, g, hi, _, _, h, _ => ⟨[], g, by simp [compL], by rw [List.drop_of_length_le (by omega)]; rfl, rfl, fun b h => absurd h (by simp), h⟩
  | m + 1, i, c, acc, g, hi, h64, hl, h, hc => by
    obtain ⟨o1, g1, e1, b1, d1⟩ := law_limit_ok (w := w) (k := k) hL h (by omega)
    obtain ⟨o2, g2, e2, b2, d2⟩ := law_limit_ok (w := w) (k := k) hL d1 (by omega)
    obtain ⟨v, g3, e3, lo, hi3, d3⟩ := take_ok (w := w) (k := k + 1) (i := 1) (hL.h rfl) d2 (by omega) (m := 3) (by decide)
    have li : i < ps.length := by omega
    have ix : pyIx (.list (ps.map prD)) (.int i) = some (.fz (prD ps[i])) := ixL rfl (by rw [List.getElem?_map, List.getElem?_eq_getElem li]; rfl)
    have bd : PyData.tuple [.str (nmS "b" i), .int ps[i].1, .int ps[i].2, oqD o1, oqD o2, qD ((v : Int) : Rat)] = barD ⟨nmS "b" i, ps[i].1, ps[i].2, o1, o2, ((v : Int) : Rat)⟩ := rfl
    have sa := strN (k := i) (by omega)
    have sb := addBN (k := i) (by omega)
    obtain ⟨bs, g', r1, r2, r3, r4, r5⟩ := bars_loop hL (s1 := s1) (s2 := s2) (s7 := s7) (ps := ps) m (i + 1) (c + 3 + 3 + 1) (acc ++ [barD ⟨nmS "b" i, ps[i].1, ps[i].2, o1, o2, ((v : Int) : Rat)⟩]) g3 (by omega) h64 (by simp; omega) d3 (by omega)
    refine ⟨⟨nmS "b" i, ps[i].1, ps[i].2, o1, o2, ((v : Int) : Rat)⟩ :: bs, g', ?_, ?_, ?_, ?_, r5.mono (by omega)⟩
    · rw [List.range'_succ, List.map_cons]
      have al : acc.length < 16777216 := by omega
      rw [List.map_cons, show ∀ (x : D) (l : List D), acc ++ (x :: l) = acc ++ [x] ++ l from fun x l => by simp, ← r1]
      simp [compL, barEv, sa, sb, ix, pr_ix0, pr_ix1, e1, e2, e3, qI, bd, al]
    · rw [List.map_cons, r2, List.drop_eq_getElem_cons li]
    · rw [List.map_cons, r3, List.range'_succ, List.map_cons]
    · intro b hb
      rcases List.mem_cons.mp hb with rfl | hb
      · refine ⟨fun p hp => ?_, bd_int (by omega)⟩
        rcases hp with h | h
        · exact b1 p h
        · exact b2 p h
      · exact r4 b hb
def frTail (ct : CT) : Ev Fl := (sSeq (sAsg 8 (c1 pyTuple (cD (cLc (iR1 (cD (c1 pyLen (cVP 4)))) [3] (gNm 3) cYes (barEv ct)))))
  (sSeq (sAsg 9 (c2 pyIx (cD (cLst (cCons (cD (cK (.str "both"))) (cCons (cD (cK (.str "push"))) cNil)))) (cD (c1 pyInt (cD (cB (cCmp pyEq (cD (cCall ct 1 (cACons (cVE 0) (cACons (cK (.int 3)) cANil)))) (cD (cK (.int 0))))))))))
  (sSeq (sAsg 10 (cTup (cCons (cD (cTup (cCons (cD (cK (.int 0))) (cCons (cD (cTup (cCons (cD (cTup (cCons (cD (cK (.int 1))) (cCons (cD (cK (.int 1))) cNil)))) (cCons (cD (cTup (cCons (cD (cK (.int 0))) (cCons (cD (cK (.int 1))) cNil)))) cNil)))) (cCons (cD (cK (.str "both"))) cNil))))) (cCons (cD (cTup (cCons (cD (cK (.int 0))) (cCons (cD (cTup (cCons (cD (cTup (cCons (cD (cK (.int 0))) (cCons (cD (cK (.int 1))) cNil)))) (cCons (cD (cTup (cCons (cD (cK (.int 1))) (cCons (cD (cK (.int 1))) cNil)))) cNil)))) (cCons (cD (cK (.str "both"))) cNil))))) (cCons (cD (cTup (cCons (cD (c2 pyMul (cD (cK (.int 2))) (cVP 1))) (cCons (cD (cTup (cCons (cD (cTup (cCons (cD (cK (.int 0))) (cCons (cD (cK (.int 1))) cNil)))) (cCons (cD (cTup (cCons (cD (cK (.int 1))) (cCons (cD (cK (.int 1))) cNil)))) cNil)))) (cCons (cD (cVE 9)) cNil))))) cNil)))))
  (sSeq (sAsg 11 (c1 pyTuple (cD (cLc (iR1 (cD (c1 pyLen (cVP 2)))) [3] (gNm 3) cYes (cD (cTup (cCons (cD (c2 pyAdd (cD (cK (.str "j"))) (cD (c1 pyStr (cVP 3))))) (cCons (cD (cVIx 2 (cVP 3))) cNil))))))))
  (sRet (cTup (cCons (cD (cK (.str "p"))) (cCons (cD (cVE 11)) (cCons (cD (cVE 10)) (cCons (cD (cVE 8)) cNil)))))))))) 
def frMid (ct : CT) : Ev Fl := (sSeq (sIf (cCmp pyEq (cD (cCall ct 1 (cACons (cVE 0) (cACons (cK (.int 6)) cANil)))) (cD (cK (.int 0))))
    (sSeq (sAsg 7 (cCall ct 1 (cACons (cVE 0) (cACons (c1 pyLen (cVP 4)) cANil))))
    (sAsg 4 (c2 pyAdd (cD (cSlice (cVP 4) cNoB (cBd (cVP 7)))) (cD (cSlice (cVP 4) (cBd (cD (c2 pyAdd (cVP 7) (cD (cK (.int 1)))))) cNoB)))))
    sPass) (frTail ct))
theorem b_law_frame_cut (ct : CT) (w : Nat) : b_law_frame ct w = (sSeq (sAsg 2 (cLst cNil)) (sSeq (sFor (iR1 (cD (c2 pyAdd (cVP 1) (cD (cK (.int 1)))))) (gNm 3) (plBody ct)) (sSeq (sAsg 4 (cLst cNil)) (sSeq (sFor (iR1 (cVP 1)) (gNm 3) (prBody ct))
  (sSeq (sApp 4 (cD (cTup (cCons (cD (c2 pyMul (cD (cK (.int 2))) (cVP 1))) (cCons (cD (c2 pyAdd (cD (c2 pyMul (cD (cK (.int 2))) (cVP 1))) (cD (cK (.int 1))))) cNil))))) (frMid ct)))))) := rfl
/-- a frame that the law draws -/
structure Drawn (f : Frame) (n : Nat) : Prop where
  nm : f.name = "p"
  nj : f.joints.length = 2 * n + 2
  pl : ∀ p ∈ f.places, BdV 110 1 p
  jn : f.joints.map (·.1) = (List.range f.joints.length).map (nmS "j")
  lo : 4 * n ≤ f.bars.length
  hi : f.bars.length ≤ 6 * n + 1
  bs : ∀ b ∈ f.bars, BarOk b
  bj : ∀ b ∈ f.bars, b.i < b.j ∧ b.j < 2 * n + 2
  bn : f.bars.map (·.name) = (List.range f.bars.length).map (nmS "b")
  ft : ∃ both, f.feet = [⟨0, ⟨1, 0⟩, true⟩, ⟨0, ⟨0, 1⟩, true⟩, ⟨2 * n, ⟨0, 1⟩, both⟩]
theorem frTail_ok (hL : HL T) {c n : Nat} {g : G} {s7 : Option SV} {ps : List (Nat × Nat)} {vs : List V2} (h : Dk c g) (hc : c < 2 ^ 30) (hn : 1 ≤ n) (hn2 : n ≤ 10) (hv : vs.length = 2 * n + 2) (bv : ∀ v ∈ vs, BdV 110 1 v) (h1 : 4 * n ≤ ps.length) (h2 : ps.length ≤ 6 * n + 1) (hp : ∀ p ∈ ps, PrOk (2 * n + 2) p) :
    ∃ (f : Frame) (g' : G) (σ : Sl), frTail (callN w T (k + 2)) [some .deal, some (.fz (.int n)), some (.ow (vs.map vD)), none, some (.ow (ps.map prD)), none, none, s7, none, none, none, none, none] g = .ok (.rt (.fz (frD f))) σ g' ∧ Drawn f n ∧ Dk (c + 500) g' := by
  obtain ⟨bs, g1, r1, r2, r3, r4, r5⟩ := bars_loop (w := w) (k := k) hL (s1 := some (.fz (.int n))) (s2 := some (.ow (vs.map vD))) (s7 := s7) (ps := ps) ps.length 0 c [] g (by omega) (by omega) (by simp; omega) h (by omega)
  rw [List.nil_append, ← List.range_eq_range', ← rngD_nat] at r1
  rw [List.drop_zero] at r2
  have lb : bs.length = ps.length := by rw [← r2, List.length_map]
  obtain ⟨v, g2, e2, lo, hi, d2⟩ := take_ok (w := w) (k := k + 1) (i := 1) (hL.h rfl) r5 (by omega) (m := 3) (by decide)
  have rg1 := rng1N (n := ps.length) (by omega)
  have rg2 := rng1N (n := vs.length) (by omega)
  have cm := fun (s8 s9 s10 : Option SV) => compL_img (tg := gNm 3) (f := cD (cTup (cCons (cD (c2 pyAdd (cD (cK (.str "j"))) (cD (c1 pyStr (cVP 3))))) (cCons (cD (cVIx 2 (cVP 3))) cNil)))) (vs := [3]) (σ := [some .deal, some (.fz (.int n)), some (.ow (vs.map vD)), none, some (.ow (ps.map prD)), none, none, s7, s8, s9, s10, none, none]) (g := g2) (fun (j : Nat) => PyData.int j) (fun j => .tuple [.str (nmS "j" j), vD (vAt vs j)]) (List.range vs.length) [] (fun j hj => by
    rw [List.mem_range] at hj
    have sa := strN (k := j) (by omega)
    have sb := addJN (k := j) (by omega)
    have ix := vGetL (l := vs) (i := j) hj
    exact ⟨[some .deal, some (.fz (.int n)), some (.ow (vs.map vD)), some (.fz (.int j)), some (.ow (ps.map prD)), none, none, s7, s8, s9, s10, none, none], [some .deal, some (.fz (.int n)), some (.ow (vs.map vD)), some (.fz (.int j)), some (.ow (ps.map prD)), none, none, s7, s8, s9, s10, none, none], by simp, by simp [sa, sb, ix], by simp⟩) (by simp; omega)
  simp only [List.nil_append, ← rngD_nat] at cm
  let js : List (Str × V2) := (List.range vs.length).map fun j => (nmS "j" j, vAt vs j)
  have jd : (List.range vs.length).map (fun j => PyData.tuple [.str (nmS "j" j), vD (vAt vs j)]) = js.map fun j => .tuple [.str j.1, vD j.2] := by
    show _ = List.map _ (List.map _ _)
    rw [List.map_map]
    rfl
  have jl : js.length = vs.length := by show (List.map _ _).length = _; rw [List.length_map, List.length_range]
  have jp : js.map (·.2) = vs := by
    show List.map _ (List.map _ _) = _
    rw [List.map_map]
    exact range_vAt vs
  have jn : js.map (·.1) = (List.range js.length).map (nmS "j") := by
    rw [jl]
    show List.map _ (List.map _ _) = _
    rw [List.map_map]
    rfl
  rw [jd] at cm
  generalize js = js at *
  have mu := mulI (i := 2) (j := (n : Int)) (by omega) (by omega)
  have key : ∀ (both : Bool), (if both = true then ("both" : Str) else "push") = (if v = 0 then ("push" : Str) else "both") → ∃ (f : Frame) (g' : G) (σ : Sl), frTail (callN w T (k + 2)) [some .deal, some (.fz (.int n)), some (.ow (vs.map vD)), none, some (.ow (ps.map prD)), none, none, s7, none, none, none, none, none] g = .ok (.rt (.fz (frD f))) σ g' ∧ Drawn f n ∧ Dk (c + 500) g' := fun both hb => by
    obtain ⟨σ, hσ⟩ : ∃ σ, frTail (callN w T (k + 2)) [some .deal, some (.fz (.int n)), some (.ow (vs.map vD)), none, some (.ow (ps.map prD)), none, none, s7, none, none, none, none, none] g = .ok (.rt (.fz (frD ⟨"p", js, [⟨0, ⟨1, 0⟩, true⟩, ⟨0, ⟨0, 1⟩, true⟩, ⟨2 * n, ⟨0, 1⟩, both⟩], bs⟩))) σ g2 := by
      have kd : pyIx (.list [.str "both", .str "push"]) (.int (if v = 0 then 1 else 0)) = some (.fz (.str (if both = true then ("both" : Str) else "push"))) := by
        rw [hb]
        by_cases z : v = 0
        · rw [if_pos z, if_pos z]
          exact ixL (n := 1) rfl rfl
        · rw [if_neg z, if_neg z]
          exact ixL (n := 0) rfl rfl
      obtain ⟨kdS, hkd⟩ : ∃ s : Str, (if both = true then ("both" : Str) else "push") = s := ⟨_, rfl⟩
      rw [hkd] at kd
      have fin : PyData.tuple [.str "p", .tuple (js.map fun j => .tuple [.str j.1, vD j.2]), .tuple [.tuple [.int 0, .tuple [.tuple [.int 1, .int 1], .tuple [.int 0, .int 1]], .str "both"], .tuple [.int 0, .tuple [.tuple [.int 0, .int 1], .tuple [.int 1, .int 1]], .str "both"], .tuple [.int (2 * (n : Int)), .tuple [.tuple [.int 0, .int 1], .tuple [.int 1, .int 1]], .str kdS]], .tuple (bs.map barD)] = frD ⟨"p", js, [⟨0, ⟨1, 0⟩, true⟩, ⟨0, ⟨0, 1⟩, true⟩, ⟨2 * n, ⟨0, 1⟩, both⟩], bs⟩ := by rw [← hkd]; rfl
      generalize hF : (⟨"p", js, [⟨0, ⟨1, 0⟩, true⟩, ⟨0, ⟨0, 1⟩, true⟩, ⟨2 * n, ⟨0, 1⟩, both⟩], bs⟩ : Frame) = F at *
      generalize hX : bs.map barD = XB at *
      generalize hY : js.map (fun (j : Str × V2) => PyData.tuple [.str j.1, vD j.2]) = XJ at *
      generalize rngD 0 (ps.length : Int) = RP at *
      generalize rngD 0 (vs.length : Int) = RV at *
      clear hF hb
      exact ⟨_, by simp [frTail, cLc, rg1, r1, e2, kd, mu, rg2, cm, fin]; rfl⟩
    refine ⟨⟨"p", js, [⟨0, ⟨1, 0⟩, true⟩, ⟨0, ⟨0, 1⟩, true⟩, ⟨2 * n, ⟨0, 1⟩, both⟩], bs⟩, g2, σ, hσ, ?_, d2.mono (by omega)⟩
    refine ⟨rfl, by rw [← hv, ← jl], ?_, jn, by show 4 * n ≤ bs.length; omega, by show bs.length ≤ _; omega, r4, fun b hb => ?_, by show bs.map (·.name) = List.map _ (List.range bs.length); rw [r3, List.range_eq_range', lb], ⟨both, rfl⟩⟩
    · show ∀ p ∈ js.map (·.2), _
      rw [jp]; exact bv
    · have : (b.i, b.j) ∈ ps := by rw [← r2]; exact List.mem_map_of_mem hb
      exact hp _ this
  by_cases z : v = 0
  · exact key false (by rw [if_pos z]; rfl)
  · exact key true (by rw [if_neg z]; rfl)
theorem frMid_ok (hL : HL T) {c n : Nat} {g : G} {ps : List (Nat × Nat)} {vs : List V2} (h : Dk c g) (hc : c < 2 ^ 29) (hn : 1 ≤ n) (hn2 : n ≤ 10) (hv : vs.length = 2 * n + 2) (bv : ∀ v ∈ vs, BdV 110 1 v) (h1 : 4 * n + 1 ≤ ps.length) (h2 : ps.length ≤ 6 * n + 1) (hp : ∀ p ∈ ps, PrOk (2 * n + 2) p) :
    ∃ (f : Frame) (g' : G) (σ : Sl), frMid (callN w T (k + 2)) [some .deal, some (.fz (.int n)), some (.ow (vs.map vD)), none, some (.ow (ps.map prD)), none, none, none, none, none, none, none, none] g = .ok (.rt (.fz (frD f))) σ g' ∧ Drawn f n ∧ Dk (c + 510) g' := by
  obtain ⟨v, g1, e1, lo, hi, d1⟩ := take_ok (w := w) (k := k + 1) (i := 1) (hL.h rfl) h (by omega) (m := 6) (by decide)
  by_cases z : v = 0
  · obtain ⟨u, g2, e2, lo2, hi2, d2⟩ := take_ok (w := w) (k := k + 1) (i := 1) (hL.h rfl) d1 (by omega) (m := (ps.length : Int)) (by omega)
    obtain ⟨q, rfl⟩ : ∃ q : Nat, u = q := ⟨u.toNat, by omega⟩
    have c1 : cut (ps.map prD) none (some (q : Int)) = (ps.take q).map prD := by rw [cutTo rfl (by rw [List.length_map]; omega), List.map_take]
    have c2 : cut (ps.map prD) (some ((q : Int) + 1)) none = (ps.drop (q + 1)).map prD := by rw [cutFrom (n := q + 1) (by omega), List.map_drop]
    have ad : pyAdd (.list ((ps.take q).map prD)) (.list ((ps.drop (q + 1)).map prD)) = some (.ow ((ps.take q ++ ps.drop (q + 1)).map prD)) := by
      rw [addL (by simp; omega), List.map_append]
    have ln : (ps.take q ++ ps.drop (q + 1)).length = ps.length - 1 := by simp; omega
    have mm : ∀ p ∈ ps.take q ++ ps.drop (q + 1), PrOk (2 * n + 2) p := fun p h => by
      rcases List.mem_append.mp h with h | h
      · exact hp p (List.mem_of_mem_take h)
      · exact hp p (List.mem_of_mem_drop h)
    generalize ps.take q ++ ps.drop (q + 1) = X at *
    obtain ⟨f, g', σ, r1, r2, r3⟩ := frTail_ok (w := w) (k := k) hL (s7 := some (.fz (.int q))) (ps := X) d2 (by omega) hn hn2 hv bv (by omega) (by omega) mm
    refine ⟨f, g', σ, ?_, r2, r3.mono (by omega)⟩
    rw [← r1]
    simp only [frMid]
    generalize frTail (callN w T (k + 2)) = FT at *
    simp [-List.map_take, -List.map_drop, e1, z, e2, c1, c2, ad]
  · obtain ⟨f, g', σ, r1, r2, r3⟩ := frTail_ok (w := w) (k := k) hL (s7 := none) (ps := ps) d1 (by omega) hn hn2 hv bv (by omega) (by omega) hp
    refine ⟨f, g', σ, ?_, r2, r3.mono (by omega)⟩
    rw [← r1]
    simp only [frMid]
    generalize frTail (callN w T (k + 2)) = FT at *
    simp [e1, z]
theorem law_frame_ok (hL : HL T) {c n : Nat} {g : G} (h : Dk c g) (hc : c < 2 ^ 28) (hn : 1 ≤ n) (hn2 : n ≤ 10) :
    ∃ (f : Frame) (g' : G), callN w T (k + 3) 58 [.deal, .fz (.int n)] g = .ok (.fz (frD f)) g' ∧ Drawn f n ∧ Dk (c + 600) g' := by
  obtain ⟨vs, g1, r1, l1, b1, d1⟩ := pl_loop (w := w) (k := k + 1) hL (n := .fz (.int n)) (n + 1) 0 c [] g (by omega) (by simp; omega) h (by omega)
  obtain ⟨ps, g2, r2, l2, l3, b2, d2⟩ := pr_loop (w := w) (k := k + 1) hL (n := .fz (.int n)) (s2 := .ow (vs.map vD)) (N := 2 * n + 2) n 0 (c + 2 * (n + 1)) [] g1 (by omega) (by omega) (by simp; omega) (fun p h => absurd h (by simp)) d1 (by omega)
  rw [← List.range_eq_range', ← rngD_nat, List.map_nil] at r1 r2
  simp only [List.length_nil] at l1 l2 l3
  have l : ps.length < 16777216 := by omega
  have pl := pr_add n 1
  simp only [Int.natCast_one] at pl
  have ap : ps.map prD ++ [prD (2 * n, 2 * n + 1)] = (ps ++ [(2 * n, 2 * n + 1)]).map prD := by simp
  obtain ⟨f, g', σ, r3, r4, r5⟩ := frMid_ok (w := w) (k := k) hL (ps := ps ++ [(2 * n, 2 * n + 1)]) (vs := vs) d2 (by omega) hn hn2 (by omega) (fun v hv => (b1 v hv).resolve_left (by simp)) (by simp; omega) (by simp; omega) (fun p hp => by
    rcases List.mem_append.mp hp with h | h
    · exact b2 p h
    · rw [List.mem_singleton] at h
      subst h
      exact ⟨by show 2 * n < 2 * n + 1; omega, by show 2 * n + 1 < 2 * n + 2; omega⟩)
  refine ⟨f, g', ?_, r4, r5.mono (by omega)⟩
  have mu := mulI (i := 2) (j := (n : Int)) (by omega) (by omega)
  have rg1 := rng1N (n := n + 1) (by omega)
  have rg2 := rng1N (n := n) (by omega)
  rw [show ((n + 1 : Nat) : Int) = (n : Int) + 1 by omega] at r1 rg1
  rw [callN_at (hL.h (i := 58) rfl)]
  simp only [semF, b_law_frame_cut]
  generalize frMid (callN w T (k + 2)) = FM at *
  generalize plBody (callN w T (k + 2)) = PB at *
  generalize prBody (callN w T (k + 2)) = QB at *
  generalize rngD 0 ((n : Int) + 1) = RP at *
  generalize rngD 0 (n : Int) = RV at *
  simp [-List.map_append, runF, rg1, r1, rg2, r2, mu, pl, l, ap, r3]
/-- loads that the law draws -/
theorem ld_loop (hL : HL T) {s1 : SV} : ∀ (js : List D) (c : Nat) (ls : List V2) (g : G), ls.length + js.length ≤ 1000 → Dk c g → c + 3 * js.length < 2 ^ 31 → ∃ (ls' : List V2) (g' : G),
    forL (gNm 3) (sApp 2 (cD (cIte (cCmp pyEq (cD (cCall (callN w T (k + 1)) 1 (cACons (cVE 0) (cACons (cK (.int 2)) cANil)))) (cD (cK (.int 0)))) (cTup (cCons (cD (cTup (cCons (cD (c2 pySub (cD (cCall (callN w T (k + 1)) 1 (cACons (cVE 0) (cACons (cK (.int 3)) cANil)))) (cD (cK (.int 1))))) (cCons (cD (cK (.int 1))) cNil)))) (cCons (cD (cTup (cCons (cD (c1 pyNeg (cD (cCall (callN w T (k + 1)) 1 (cACons (cVE 0) (cACons (cK (.int 4)) cANil)))))) (cCons (cD (cK (.int 1))) cNil)))) cNil))) (cTup (cCons (cD (cTup (cCons (cD (cK (.int 0))) (cCons (cD (cK (.int 1))) cNil)))) (cCons (cD (cTup (cCons (cD (cK (.int 0))) (cCons (cD (cK (.int 1))) cNil)))) cNil))))))
      js [some .deal, some s1, some (.ow (ls.map vD)), none] g = .ok .nx [some .deal, some s1, some (.ow (ls'.map vD)), none] g' ∧ ls'.length = ls.length + js.length ∧ (∀ p ∈ ls', p ∈ ls ∨ BdV 3 1 p) ∧ Dk (c + 3 * js.length) g'
  | [], c, ls, g, _, h, _ => ⟨ls, g, rfl, rfl, fun p h => .inl h, h⟩
  | x :: js, c, ls, g, hl, h, hc => by
    rw [List.length_cons] at hl hc
    obtain ⟨v, g1, e1, lo, hi, d1⟩ := take_ok (w := w) (k := k) (i := 1) (hL.h rfl) h (by omega) (m := 2) (by decide)
    have l : ls.length < 16777216 := by omega
    by_cases z : v = 0
    · obtain ⟨a, g2, e2, lo2, hi2, d2⟩ := take_ok (w := w) (k := k) (i := 1) (hL.h rfl) d1 (by omega) (m := 3) (by decide)
      obtain ⟨b, g3, e3, lo3, hi3, d3⟩ := take_ok (w := w) (k := k) (i := 1) (hL.h rfl) d2 (by omega) (m := 4) (by decide)
      obtain ⟨ls', g', r1, r2, r3, r4⟩ := ld_loop hL (s1 := s1) js (c + 1 + 1 + 1) (ls ++ [⟨((a - 1 : Int) : Rat), ((-b : Int) : Rat)⟩]) g3 (by simp; omega) d3 (by omega)
      refine ⟨ls', g', ?_, by rw [r2]; simp; omega, fun p hp => ?_, r4.mono (by rw [List.length_cons]; omega)⟩
      · rw [← r1]
        simp only [List.map_append, List.map_cons, List.map_nil]
        have e : PyData.tuple [.tuple [.int (a - 1), .int 1], .tuple [.int (-b), .int 1]] = vD ⟨((a - 1 : Int) : Rat), ((-b : Int) : Rat)⟩ := rfl
        generalize vD ⟨((a - 1 : Int) : Rat), ((-b : Int) : Rat)⟩ = Z at *
        simp [forL, e1, z, e2, e3, e, l]
      · rcases r3 p hp with h | h
        · rcases List.mem_append.mp h with h | h
          · exact .inl h
          · rw [List.mem_singleton] at h
            subst h
            exact .inr ⟨bd_int (by omega), bd_int (by omega)⟩
        · exact .inr h
    · obtain ⟨ls', g', r1, r2, r3, r4⟩ := ld_loop hL (s1 := s1) js (c + 1) (ls ++ [V2.z]) g1 (by simp; omega) d1 (by omega)
      refine ⟨ls', g', ?_, by rw [r2]; simp; omega, fun p hp => ?_, r4.mono (by rw [List.length_cons]; omega)⟩
      · rw [← r1]
        simp only [List.map_append, List.map_cons, List.map_nil]
        simp [forL, e1, z, z_lit, l]
      · rcases r3 p hp with h | h
        · rcases List.mem_append.mp h with h | h
          · exact .inl h
          · rw [List.mem_singleton] at h
            subst h
            exact .inr (BdV.zero _ _)
        · exact .inr h
theorem law_loads_ok (hL : HL T) {c : Nat} {g : G} {f : Frame} (h : Dk c g) (hc : c < 2 ^ 28) (hj : f.joints.length ≤ 1000) :
    ∃ (ls : List V2) (g' : G), callN w T (k + 2) 59 [.deal, .fz (frD f)] g = .ok (.fz (lsD ls)) g' ∧ ls.length = f.joints.length ∧ (∀ p ∈ ls, BdV 3 1 p) ∧ Dk (c + 3 * f.joints.length) g' := by
  obtain ⟨ls, g', r1, r2, r3, r4⟩ := ld_loop (w := w) (k := k) hL (s1 := .fz (frD f)) (f.joints.map fun j => .tuple [.str j.1, vD j.2]) c [] g (by simp; omega) h (by simp; omega)
  rw [List.length_map] at r2 r4
  refine ⟨ls, g', ?_, by simpa using r2, fun p hp => (r3 p hp).resolve_left (by simp), r4⟩
  rw [List.map_nil] at r1
  rw [callN_at (hL.h (i := 59) rfl)]
  simp [semF, runF, b_law_loads, fr1, r1, lsD]
end
end
end FD
/-! FDF14: virtual work; weak duality. -/
namespace FD
noncomputable section
open PySem
def V2.neg (v : V2) : V2 := ⟨-v.x, -v.y⟩
theorem workR_nil (ms : List V2) : workR [] ms = 0 := by unfold workR; rfl
theorem workR_cons (a b : V2) (r s : List V2) : workR (a :: r) (b :: s) = a.dot b + workR r s := rfl
theorem workR_add : ∀ (a b ms : List V2), a.length = b.length → workR (addV a b) ms = workR a ms + workR b ms
  | [], [], ms, _ => by simp [addV, workR_nil, Rat.add_zero]
  | x :: a, y :: b, [], _ => by
    have e : ∀ l : List V2, workR l [] = 0 := fun l => by cases l <;> rfl
    rw [e, e, e]; grind
  | x :: a, y :: b, m :: ms, h => by
    have ih := workR_add a b ms (by simpa using h)
    have c : addV (x :: a) (y :: b) = x.add y :: addV a b := rfl
    rw [c, workR_cons, workR_cons, workR_cons, ih]
    have d : (x.add y).dot m = x.dot m + y.dot m := by
      show (x.x + y.x) * m.x + (x.y + y.y) * m.y = (x.x * m.x + x.y * m.y) + (y.x * m.x + y.y * m.y)
      grind
    rw [d]; grind
  | [], _ :: _, _, h => by simp at h
  | _ :: _, [], _, h => by simp at h
theorem workR_smul (t : Rat) : ∀ (a ms : List V2), workR (a.map (V2.smul t)) ms = t * workR a ms
  | [], ms => by rw [List.map_nil, workR_nil]; grind
  | x :: a, [] => by
    have e : ∀ l : List V2, workR l [] = 0 := fun l => by cases l <;> rfl
    rw [e, e]; grind
  | x :: a, m :: ms => by
    rw [List.map_cons, workR_cons, workR_cons, workR_smul t a ms]
    have d : (x.smul t).dot m = t * x.dot m := by
      show (t * x.x) * m.x + (t * x.y) * m.y = t * (x.x * m.x + x.y * m.y)
      grind
    rw [d]; grind
theorem workR_neg : ∀ (a ms : List V2), workR (a.map V2.neg) ms = -workR a ms
  | [], ms => by rw [List.map_nil, workR_nil]; grind
  | x :: a, [] => by
    have e : ∀ l : List V2, workR l [] = 0 := fun l => by cases l <;> rfl
    rw [e, e]; grind
  | x :: a, m :: ms => by
    rw [List.map_cons, workR_cons, workR_cons, workR_neg a ms]
    have d : x.neg.dot m = -x.dot m := by
      show (-x.x) * m.x + (-x.y) * m.y = -(x.x * m.x + x.y * m.y)
      grind
    rw [d]; grind
theorem workR_zero (ms : List V2) : ∀ n, workR (zeroV n) ms = 0 := fun n => by
  induction n generalizing ms with
  | zero => exact workR_nil _
  | succ n ih =>
    cases ms with
    | nil => unfold workR; rfl
    | cons m r =>
      show V2.z.dot m + workR (zeroV n) r = 0
      rw [ih]
      show (0 * m.x + 0 * m.y) + 0 = 0
      grind
theorem workR_set : ∀ (l ms : List V2) (i : Nat) (v : V2), i < l.length → i < ms.length → workR (l.set i v) ms = workR l ms + (v.dot (vAt ms i) - (vAt l i).dot (vAt ms i))
  | [], _, _, _, h, _ => by simp at h
  | _ :: _, [], _, _, _, h => by simp at h
  | x :: l, m :: ms, 0, v, _, _ => by
    show v.dot m + workR l ms = x.dot m + workR l ms + (v.dot m - x.dot m)
    grind
  | x :: l, m :: ms, i + 1, v, h1, h2 => by
    have ih := workR_set l ms i v (by simpa using h1) (by simpa using h2)
    have e1 : vAt (m :: ms) (i + 1) = vAt ms i := by simp [vAt]
    have e2 : vAt (x :: l) (i + 1) = vAt l i := by simp [vAt]
    rw [List.set_cons_succ, workR_cons, workR_cons, ih, e1, e2]
    grind
theorem z_dot (v : V2) : V2.z.dot v = 0 := by
  show 0 * v.x + 0 * v.y = 0
  grind
theorem workR_bar {f : Frame} {b : Bar} {ms : List V2} (hm : ms.length = f.joints.length) (hi : b.i < f.joints.length) (hj : b.j < f.joints.length) (hne : b.i ≠ b.j) : workR (barVec f b) ms = -f.stretch ms b := by
  unfold barVec
  rw [workR_set _ _ _ _ (by simp; omega) (by omega), workR_set _ _ _ _ (by simp; omega) (by omega), workR_zero, vAt_set (by simp; omega), if_neg hne, vAt_zero, vAt_zero, z_dot, z_dot]
  unfold Frame.stretch V2.dot V2.sub V2.smul
  grind
theorem workR_foot {f : Frame} {t : Foot} {ms : List V2} (hm : ms.length = f.joints.length) (hi : t.at_ < f.joints.length) : workR (footVec f t) ms = slipR ms t := by
  unfold footVec
  rw [workR_set _ _ _ _ (by simp; omega) (by omega), workR_zero, vAt_zero, z_dot]
  unfold slipR
  grind
theorem workR_acc (ms : List V2) (n : Nat) : ∀ (ps : List (Rat × List V2)) (t : List V2), t.length = n → (∀ p ∈ ps, p.2.length = n) → workR (accV t ps) ms = workR t ms + (ps.map fun p => p.1 * workR p.2 ms).sum
  | [], t, _, _ => by simp [accV, Rat.add_zero]
  | p :: r, t, h, hp => by
    have l := hp p List.mem_cons_self
    have lm : t.length = (p.2.map (V2.smul p.1)).length := by rw [List.length_map]; omega
    have ih := workR_acc ms n r (addV t (p.2.map (V2.smul p.1))) (by rw [addV_len lm]; exact h) fun q hq => hp q (List.mem_cons_of_mem _ hq)
    have ac : accV t (p :: r) = accV (addV t (p.2.map (V2.smul p.1))) r := rfl
    rw [ac, ih, workR_add _ _ _ lm, workR_smul, List.map_cons, List.sum_cons]
    grind
theorem sum_append (a b : List Rat) : (a ++ b).sum = a.sum + b.sum := by
  induction a with
  | nil => simp; grind
  | cons x r ih => rw [List.cons_append, List.sum_cons, List.sum_cons, ih]; grind
theorem bars_sum {f : Frame} {ms : List V2} (hm : ms.length = f.joints.length) : ∀ (qs : List Rat) (bs : List Bar), (∀ b ∈ bs, b.i < f.joints.length ∧ b.j < f.joints.length ∧ b.i ≠ b.j) → ((qs.zip (bs.map (barVec f))).map fun p => p.1 * workR p.2 ms).sum = -dotR qs (bs.map (f.stretch ms))
  | [], bs, _ => by
    have : dotR [] (bs.map (f.stretch ms)) = 0 := by unfold dotR; rfl
    rw [this]; simp
  | q :: qs, [], _ => by
    have : dotR (q :: qs) [] = 0 := by unfold dotR; rfl
    rw [List.map_nil, List.map_nil, this]; simp
  | q :: qs, b :: bs, h => by
    obtain ⟨h1, h2, h3⟩ := h b List.mem_cons_self
    have ih := bars_sum hm qs bs fun c hc => h c (List.mem_cons_of_mem _ hc)
    rw [List.map_cons, List.zip_cons_cons, List.map_cons, List.sum_cons, ih, workR_bar hm h1 h2 h3, List.map_cons]
    show q * -f.stretch ms b + -dotR qs _ = -(q * f.stretch ms b + dotR qs _)
    grind
theorem feet_sum {f : Frame} {ms : List V2} (hm : ms.length = f.joints.length) : ∀ (qs : List Rat) (bs : List Foot), (∀ b ∈ bs, b.at_ < f.joints.length) → ((qs.zip (bs.map (footVec f))).map fun p => p.1 * workR p.2 ms).sum = dotR qs (bs.map (slipR ms))
  | [], bs, _ => by
    have : dotR [] (bs.map (slipR ms)) = 0 := by unfold dotR; rfl
    rw [this]; simp
  | q :: qs, [], _ => by
    have : dotR (q :: qs) [] = 0 := by unfold dotR; rfl
    rw [List.map_nil, List.map_nil, this]; simp
  | q :: qs, b :: bs, h => by
    have h1 := h b List.mem_cons_self
    have ih := feet_sum hm qs bs fun c hc => h c (List.mem_cons_of_mem _ hc)
    rw [List.map_cons, List.zip_cons_cons, List.map_cons, List.sum_cons, ih, workR_foot hm h1, List.map_cons]
    rfl
/-- virtual work -/
theorem virtual_work {f : Frame} {s : Stt} {ms : List V2} {A d : Nat} (hf : FrOk f A d) (hm : ms.length = f.joints.length) (hq : s.qs.length = f.bars.length) :
    workR ((forcesV f s).map V2.neg) ms = dotR s.qs (f.stretches ms) - dotR s.rs (f.slips ms) := by
  rw [workR_neg]
  unfold forcesV
  rw [workR_acc ms f.joints.length _ _ (zeroV_len _) (fun p hp => (rowsV_mem hf (List.of_mem_zip hp).2).1), workR_zero]
  unfold rowsV
  rw [List.zip_append (by rw [List.length_map]; exact hq), List.map_append, sum_append, bars_sum hm _ _ hf.bi, feet_sum hm _ _ hf.fi]
  show -(0 + (-dotR s.qs (f.stretches ms) + dotR s.rs (f.slips ms))) = _
  grind
theorem neg_mul_neg' (a b : Rat) : a * b = (-a) * (-b) := by grind
theorem bar_le {b : Bar} {q s : Rat} (h1 : overB b.pull q = false) (h2 : overB b.push (-q) = false) (hr : (resS b s).isNone = false) : q * s ≤ (resS b s).getD 0 := by
  unfold resS at hr ⊢
  by_cases z : s = 0
  · rw [if_pos z]
    subst z
    show q * 0 ≤ 0
    grind
  · rw [if_neg z] at hr ⊢
    cases hl : limS b s with
    | none => rw [hl] at hr; cases hr
    | some l =>
      show q * s ≤ l * absR s
      unfold limS at hl
      unfold absR
      by_cases p : 0 < s
      · rw [if_pos p] at hl ⊢
        rw [hl] at h1
        have : ¬ l < q := of_decide_eq_false h1
        have m := Rat.mul_nonneg (show 0 ≤ l - q by grind) (show 0 ≤ s by grind)
        grind
      · rw [if_neg p] at hl ⊢
        rw [hl] at h2
        have : ¬ l < -q := of_decide_eq_false h2
        have m := Rat.mul_nonneg (show 0 ≤ l - -q by grind) (show 0 ≤ -s by grind)
        grind
theorem bars_le {f : Frame} {ms : List V2} : ∀ (qs : List Rat) (bs : List Bar), qs.length = bs.length → lawQ (qs.zip bs) = true → (∀ b ∈ bs, (resS b (f.stretch ms b)).isNone = false) → dotR qs (bs.map (f.stretch ms)) ≤ (bs.map fun b => (resS b (f.stretch ms b)).getD 0).sum
  | [], [], _, _, _ => by
    have : dotR [] ([].map (f.stretch ms)) = 0 := by unfold dotR; rfl
    rw [this]; simp
  | q :: qs, b :: bs, h, hl, hr => by
    have c : lawQ ((q :: qs).zip (b :: bs)) = ((!overB b.pull q && !overB b.push (-q)) && lawQ (qs.zip bs)) := rfl
    rw [c, Bool.and_eq_true, Bool.and_eq_true] at hl
    have ih := bars_le (f := f) (ms := ms) qs bs (by simpa using h) hl.2 fun c hc => hr c (List.mem_cons_of_mem _ hc)
    have b1 := bar_le (b := b) (q := q) (s := f.stretch ms b) (by simpa using hl.1.1) (by simpa using hl.1.2) (hr b List.mem_cons_self)
    rw [List.map_cons, List.map_cons, List.sum_cons]
    show q * f.stretch ms b + dotR qs _ ≤ _
    grind
  | [], _ :: _, h, _, _ => by simp at h
  | _ :: _, [], h, _, _ => by simp at h
theorem feet_ge {ms : List V2} : ∀ (rs : List Rat) (ts : List Foot), rs.length = ts.length → lawR (rs.zip ts) = true → (ts.all fun t => okS t (slipR ms t)) = true → 0 ≤ dotR rs (ts.map (slipR ms))
  | [], [], _, _, _ => by
    have : dotR [] ([].map (slipR ms)) = 0 := by unfold dotR; rfl
    rw [this]; grind
  | r :: rs, t :: ts, h, hl, hk => by
    have c : lawR ((r :: rs).zip (t :: ts)) = (!(!t.both && decide (r < 0)) && lawR (rs.zip ts)) := rfl
    rw [c, Bool.and_eq_true] at hl
    rw [List.all_cons, Bool.and_eq_true] at hk
    have ih := feet_ge (ms := ms) rs ts (by simpa using h) hl.2 hk.2
    have k := hk.1
    have l := hl.1
    unfold okS at k
    rw [List.map_cons]
    show 0 ≤ r * slipR ms t + dotR rs _
    cases hb : t.both with
    | true =>
      rw [hb] at k
      have z : slipR ms t = 0 := by
        by_cases z : slipR ms t = 0
        · exact z
        · simp [z] at k
      rw [z]
      grind
    | false =>
      rw [hb] at k l
      have s : ¬ slipR ms t < 0 := by simpa using k
      have n : ¬ r < 0 := by simpa using l
      have m := Rat.mul_nonneg (show 0 ≤ r by grind) (show 0 ≤ slipR ms t by grind)
      grind
  | [], _ :: _, h, _, _ => by simp at h
  | _ :: _, [], h, _, _ => by simp at h
/-- what stands does not fall -/
theorem weak_duality {f : Frame} {s : Stt} {ms : List V2} {A d : Nat} (hf : FrOk f A d) (hm : ms.length = f.joints.length) (hq : s.qs.length = f.bars.length) (hr : s.rs.length = f.feet.length) (hl : lawfulB f s = true) : fallsB f ((forcesV f s).map V2.neg) ms = false := by
  unfold fallsB
  cases z : freeB f ms with
  | false => rfl
  | true =>
    unfold freeB at z
    rw [Bool.and_eq_true] at z
    unfold lawfulB at hl
    rw [Bool.and_eq_true] at hl
    have b := bars_le (f := f) (ms := ms) s.qs f.bars hq hl.1 (barFree_at z.2)
    have t := feet_ge (ms := ms) s.rs f.feet hr hl.2 z.1
    rw [Bool.true_and, virtual_work hf hm hq]
    refine decide_eq_false ?_
    have e1 : f.stretches ms = f.bars.map (f.stretch ms) := rfl
    have e2 : f.slips ms = f.feet.map (slipR ms) := rfl
    have e3 : resTot f ms = (f.bars.map fun b => (resS b (f.stretch ms b)).getD 0).sum := rfl
    rw [e1, e2, e3]
    grind
theorem addV_neg (l : List V2) : addV l (l.map V2.neg) = zeroV l.length := by
  refine vAt_ext (by rw [addV_len (by rw [List.length_map]), zeroV_len]) fun i hi => ?_
  rw [addV_len (by rw [List.length_map])] at hi
  rw [addV_get (by rw [List.length_map]) hi, vAt_map hi, vAt_zero]
  refine V2.ext' ?_ ?_
  · show (vAt l i).x + -(vAt l i).x = 0; grind
  · show (vAt l i).y + -(vAt l i).y = 0; grind
theorem BdV.neg {A d : Nat} {v : V2} (h : BdV A d v) : BdV A d v.neg := ⟨h.1.neg, h.2.neg⟩
theorem vD_neg (v : V2) : PyData.tuple [.tuple [.int (-v.x.num), .int v.x.den], .tuple [.int (-v.y.num), .int v.y.den]] = vD v.neg := by
  show _ = PyData.tuple [qD (-v.x), qD (-v.y)]
  rw [qD, qD, Rat.neg_num, Rat.neg_den, Rat.neg_num, Rat.neg_den]
end
end FD
/-! FDF15: drawn frames are frames. -/
namespace FD
noncomputable section
open PySem
theorem Drawn.nf {f : Frame} {n : Nat} (h : Drawn f n) : f.feet.length = 3 := by
  obtain ⟨b, e⟩ := h.ft
  rw [e]; rfl
theorem Drawn.fi {f : Frame} {n : Nat} (h : Drawn f n) : ∀ t ∈ f.feet, t.at_ < f.joints.length := fun t ht => by
  obtain ⟨b, e⟩ := h.ft
  rw [e] at ht
  rw [h.nj]
  simp only [List.mem_cons, List.not_mem_nil, or_false] at ht
  rcases ht with rfl | rfl | rfl
  · show 0 < _; omega
  · show 0 < _; omega
  · show 2 * n < _; omega
theorem Drawn.ok {f : Frame} {n : Nat} (h : Drawn f n) (hn : n ≤ 10) : FrOk f 110 1 := by
  have nj := h.nj
  have hi := h.hi
  have nf := h.nf
  refine ⟨by omega, by omega, by omega, fun b hb => ?_, h.fi, h.pl, fun t ht => ?_⟩
  · have := h.bj b hb
    omega
  · obtain ⟨b, e⟩ := h.ft
    rw [e] at ht
    have o1 : Bd 110 1 (1 : Rat) := bd_int (z := 1) (by decide)
    simp only [List.mem_cons, List.not_mem_nil, or_false] at ht
    rcases ht with rfl | rfl | rfl
    · exact ⟨o1, Bd.zero _ _⟩
    · exact ⟨Bd.zero _ _, o1⟩
    · exact ⟨Bd.zero _ _, o1⟩
theorem Drawn.lim {f : Frame} {n : Nat} (h : Drawn f n) : LimOk f 6 2 := fun b hb p hp => ((h.bs b hb).lim p hp).1
end
end FD
/-! FDS0: the texts of sites and prices (printed by gen.py lib). -/
namespace FD
noncomputable section
open PySem
def b_law_gauges (ct : CT) (w : Nat) : Ev Fl :=
  (sSeq (sAsg 3 (cLst cNil))
  (sSeq (sFor (iR1 (cD (c1 pyLen (cD (cVIx 1 (cD (cK (.int 3)))))))) (gNm 4)
    (sIf (cAnd (cCmp pyLt (cD (c1 pyLen (cVP 3))) (cVP 2)) (cCmp pyEq (cD (cCall ct 1 (cACons (cVE 0) (cACons (cK (.int 2)) cANil)))) (cD (cK (.int 0)))))
      (sApp 3 (cD (cTup (cCons (cD (cVE 4)) (cCons (cD (cCall ct 4 (cACons (cCall ct 1 (cACons (cVE 0) (cACons (cK (.int 3)) cANil))) (cACons (c2 pyAdd (cD (cK (.int 1))) (cD (cCall ct 1 (cACons (cVE 0) (cACons (cK (.int 2)) cANil))))) cANil)))) (cCons (cD (cCall ct 4 (cACons (c2 pyAdd (cD (cK (.int 1))) (cD (cCall ct 1 (cACons (cVE 0) (cACons (cK (.int 3)) cANil))))) (cACons (c2 pyAdd (cD (cK (.int 1))) (cD (cCall ct 1 (cACons (cVE 0) (cACons (cK (.int 2)) cANil))))) cANil)))) cNil))))))
      sPass))
  (sRet (c1 pyTuple (cVP 3)))))
def b_law_with (ct : CT) (w : Nat) : Ev Fl :=
  (sRet (c2 pyAdd (cD (c2 pyAdd (cD (cSlice (cVP 0) cNoB (cBd (cVP 1)))) (cD (cTup (cCons (cD (cVE 2)) cNil))))) (cD (cSlice (cVP 0) (cBd (cD (c2 pyAdd (cVP 1) (cD (cK (.int 1)))))) cNoB))))
def b_size (ct : CT) (w : Nat) : Ev Fl :=
  (sRet (cTup (cCons (cD (c1 pyAbs (cD (cVIx 0 (cD (cK (.int 0))))))) (cCons (cD (cVIx 0 (cD (cK (.int 1))))) cNil))))
def b_no_target (ct : CT) (w : Nat) : Ev Fl :=
  (sRet (cTup (cCons (cD (cCall ct 20 (cACons (c1 pyLen (cD (cVIx 0 (cD (cK (.int 2)))))) cANil))) (cCons (cD (cCall ct 20 (cACons (c1 pyLen (cD (c2 pyIx (cD (cVIx 0 (cD (cK (.int 0))))) (cD (cK (.int 3)))))) cANil))) cNil))))
def b_law_turned (ct : CT) (w : Nat) : Ev Fl :=
  (sRet (c1 pyTuple (cD (cLc (iSeq (cD (cVE 0))) [1] (gNm 1) cYes (cD (cTup (cCons (cD (c1 pyNeg (cD (cVIx 1 (cD (cK (.int 0))))))) (cCons (cD (cVIx 1 (cD (cK (.int 1))))) cNil))))))))
def b_law_under (ct : CT) (w : Nat) : Ev Fl :=
  (sSeq (sAsg 2 (cVIx 0 (cD (cK (.int 1)))))
  (sSeq (sFor (iR1 (cD (c1 pyLen (cD (cVIx 0 (cD (cK (.int 2)))))))) (gNm 3)
    (sSeq (sAsg 4 (c2 pyIx (cD (c2 pyIx (cD (cVIx 0 (cD (cK (.int 2))))) (cVP 3))) (cD (cK (.int 0)))))
    (sAsg 2 (c1 pyTuple (cD (cLc (iR1 (cD (c1 pyLen (cVP 2)))) [5] (gNm 5) cYes (cD (cTup (cCons (cD (cCall ct 5 (cACons (c2 pyIx (cD (cVIx 2 (cVP 5))) (cD (cK (.int 0)))) (cACons (cCall ct 7 (cACons (cVIx 1 (cVP 3)) (cACons (c2 pyIx (cD (cVIx 4 (cVP 5))) (cD (cK (.int 0)))) cANil))) cANil)))) (cCons (cD (cCall ct 5 (cACons (c2 pyIx (cD (cVIx 2 (cVP 5))) (cD (cK (.int 1)))) (cACons (cCall ct 7 (cACons (cVIx 1 (cVP 3)) (cACons (c2 pyIx (cD (cVIx 4 (cVP 5))) (cD (cK (.int 1)))) cANil))) cANil)))) cNil))))))))))
  (sRet (cVR 2))))
def b_law_nothing (ct : CT) (w : Nat) : Ev Fl :=
  (sRet (cTup (cCons (cD (c2 pyMul (cD (cTup (cCons (cD (cTup (cCons (cD (cK (.int 0))) (cCons (cD (cK (.int 1))) cNil)))) cNil))) (cD (c1 pyLen (cD (cVIx 0 (cD (cK (.int 2))))))))) (cCons (cD (c2 pyMul (cD (cTup (cCons (cD (cTup (cCons (cD (cK (.int 0))) (cCons (cD (cK (.int 1))) cNil)))) cNil))) (cD (c1 pyLen (cD (c2 pyIx (cD (cVIx 0 (cD (cK (.int 0))))) (cD (cK (.int 3))))))))) cNil))))
def b_law_worth (ct : CT) (w : Nat) : Ev Fl :=
  (sRet (cCall ct 5 (cACons (cCall ct 8 (cACons (cVIx 0 (cD (cK (.int 0)))) (cACons (cVE 1) cANil))) (cACons (cCall ct 8 (cACons (cVIx 0 (cD (cK (.int 1)))) (cACons (cVIx 2 (cD (cK (.int 0)))) cANil))) cANil))))
def b_law_truss (ct : CT) (w : Nat) : Ev Fl :=
  (sSeq (sAsg 1 (cCall ct 1 (cACons (cVE 0) (cACons (cK (.int 5)) cANil))))
  (sSeq (sIf (cCmp pyEq (cVP 1) (cD (cK (.int 4))))
    (sRet (cCall ct 58 (cACons (cVE 0) (cACons (cK (.int 1)) cANil))))
    sPass)
  (sSeq (sAsg 2 (cTup (cCons (cD (cTup (cCons (cD (cK (.int 1))) (cCons (cD (cK (.int 1))) cNil)))) (cCons (cD (cTup (cCons (cD (cK (.int 0))) (cCons (cD (cK (.int 1))) cNil)))) cNil))))
  (sSeq (sAsg 3 (cTup (cCons (cD (cTup (cCons (cD (cK (.int 0))) (cCons (cD (cK (.int 1))) cNil)))) (cCons (cD (cTup (cCons (cD (c2 pyAdd (cD (cK (.int 1))) (cD (cCall ct 1 (cACons (cVE 0) (cACons (cK (.int 2)) cANil)))))) (cCons (cD (cK (.int 1))) cNil)))) cNil))))
  (sSeq (sIf (cCmp pyEq (cVP 1) (cD (cK (.int 2))))
    (sSeq (sAsg 4 (cLst (cCons (cD (cTup (cCons (cD (cTup (cCons (cD (cK (.int 0))) (cCons (cD (cK (.int 1))) cNil)))) (cCons (cD (cTup (cCons (cD (cK (.int 0))) (cCons (cD (cK (.int 1))) cNil)))) cNil)))) (cCons (cD (cTup (cCons (cD (cTup (cCons (cD (c2 pyAdd (cD (cK (.int 1))) (cD (cCall ct 1 (cACons (cVE 0) (cACons (cK (.int 3)) cANil)))))) (cCons (cD (cK (.int 1))) cNil)))) (cCons (cD (cTup (cCons (cD (cCall ct 1 (cACons (cVE 0) (cACons (cK (.int 2)) cANil)))) (cCons (cD (cK (.int 1))) cNil)))) cNil)))) cNil))))
    (sSeq (sAsg 5 (cLst (cCons (cD (cTup (cCons (cD (cK (.int 0))) (cCons (cD (cK (.int 1))) cNil)))) cNil)))
    (sAsg 6 (cLst (cCons (cD (cTup (cCons (cD (cK (.int 0))) (cCons (cD (cVE 2)) (cCons (cD (cK (.str "both"))) cNil))))) (cCons (cD (cTup (cCons (cD (cK (.int 0))) (cCons (cD (cVE 3)) (cCons (cD (cK (.str "both"))) cNil))))) (cCons (cD (cTup (cCons (cD (cK (.int 1))) (cCons (cD (cVE 2)) (cCons (cD (cK (.str "both"))) cNil))))) (cCons (cD (cTup (cCons (cD (cK (.int 1))) (cCons (cD (cVE 3)) (cCons (cD (cK (.str "both"))) cNil))))) cNil))))))))
    (sIf (cCmp pyEq (cVP 1) (cD (cK (.int 3))))
      (sSeq (sAsg 4 (cLst (cCons (cD (cTup (cCons (cD (cTup (cCons (cD (cK (.int 0))) (cCons (cD (cK (.int 1))) cNil)))) (cCons (cD (cTup (cCons (cD (cK (.int 0))) (cCons (cD (cK (.int 1))) cNil)))) cNil)))) (cCons (cD (cTup (cCons (cD (cTup (cCons (cD (cK (.int 2))) (cCons (cD (cK (.int 1))) cNil)))) (cCons (cD (cTup (cCons (cD (cK (.int 0))) (cCons (cD (cK (.int 1))) cNil)))) cNil)))) (cCons (cD (cTup (cCons (cD (cTup (cCons (cD (cK (.int 4))) (cCons (cD (cK (.int 1))) cNil)))) (cCons (cD (cTup (cCons (cD (cK (.int 0))) (cCons (cD (cK (.int 1))) cNil)))) cNil)))) (cCons (cD (cTup (cCons (cD (cTup (cCons (cD (cCall ct 1 (cACons (cVE 0) (cACons (cK (.int 5)) cANil)))) (cCons (cD (cK (.int 1))) cNil)))) (cCons (cD (cTup (cCons (cD (c2 pyAdd (cD (cK (.int 1))) (cD (cCall ct 1 (cACons (cVE 0) (cACons (cK (.int 3)) cANil)))))) (cCons (cD (cK (.int 1))) cNil)))) cNil)))) cNil))))))
      (sSeq (sAsg 5 (cLst (cCons (cD (cTup (cCons (cD (cK (.int 0))) (cCons (cD (cK (.int 3))) cNil)))) (cCons (cD (cTup (cCons (cD (cK (.int 1))) (cCons (cD (cK (.int 3))) cNil)))) (cCons (cD (cTup (cCons (cD (cK (.int 2))) (cCons (cD (cK (.int 3))) cNil)))) cNil)))))
      (sSeq (sAsg 6 (cLst cNil))
      (sFor (iR1 (cD (cK (.int 3)))) (gNm 7)
        (sAsg 6 (c2 pyAdd (cVP 6) (cD (cLst (cCons (cD (cTup (cCons (cD (cVE 7)) (cCons (cD (cVE 2)) (cCons (cD (cK (.str "both"))) cNil))))) (cCons (cD (cTup (cCons (cD (cVE 7)) (cCons (cD (cVE 3)) (cCons (cD (cK (.str "both"))) cNil))))) cNil))))))))))
      (sSeq (sAsg 4 (cLst (cCons (cD (cTup (cCons (cD (cTup (cCons (cD (cK (.int 0))) (cCons (cD (cK (.int 1))) cNil)))) (cCons (cD (cTup (cCons (cD (cK (.int 0))) (cCons (cD (cK (.int 1))) cNil)))) cNil)))) (cCons (cD (cTup (cCons (cD (cTup (cCons (cD (c2 pyAdd (cD (cK (.int 2))) (cD (cCall ct 1 (cACons (cVE 0) (cACons (cK (.int 2)) cANil)))))) (cCons (cD (cK (.int 1))) cNil)))) (cCons (cD (cTup (cCons (cD (cK (.int 0))) (cCons (cD (cK (.int 1))) cNil)))) cNil)))) (cCons (cD (cTup (cCons (cD (cTup (cCons (cD (cCall ct 1 (cACons (cVE 0) (cACons (cK (.int 4)) cANil)))) (cCons (cD (cK (.int 1))) cNil)))) (cCons (cD (cTup (cCons (cD (c2 pyAdd (cD (cK (.int 1))) (cD (cCall ct 1 (cACons (cVE 0) (cACons (cK (.int 3)) cANil)))))) (cCons (cD (cK (.int 1))) cNil)))) cNil)))) cNil)))))
      (sSeq (sAsg 5 (cLst (cCons (cD (cTup (cCons (cD (cK (.int 0))) (cCons (cD (cK (.int 1))) cNil)))) (cCons (cD (cTup (cCons (cD (cK (.int 0))) (cCons (cD (cK (.int 2))) cNil)))) (cCons (cD (cTup (cCons (cD (cK (.int 1))) (cCons (cD (cK (.int 2))) cNil)))) cNil)))))
      (sAsg 6 (cLst (cCons (cD (cTup (cCons (cD (cK (.int 0))) (cCons (cD (cVE 2)) (cCons (cD (cK (.str "both"))) cNil))))) (cCons (cD (cTup (cCons (cD (cK (.int 0))) (cCons (cD (cVE 3)) (cCons (cD (cK (.str "both"))) cNil))))) (cCons (cD (cTup (cCons (cD (cK (.int 1))) (cCons (cD (cVE 3)) (cCons (cD (c2 pyIx (cD (cLst (cCons (cD (cK (.str "both"))) (cCons (cD (cK (.str "push"))) cNil)))) (cD (c1 pyInt (cD (cB (cCmp pyEq (cD (cCall ct 1 (cACons (cVE 0) (cACons (cK (.int 3)) cANil)))) (cD (cK (.int 0)))))))))) cNil))))) cNil)))))))))
  (sSeq (sAsg 8 (c1 pyTuple (cD (cLc (iR1 (cD (c1 pyLen (cVP 5)))) [9] (gNm 9) cYes (cD (cTup (cCons (cD (c2 pyAdd (cD (cK (.str "b"))) (cD (c1 pyStr (cVP 9))))) (cCons (cD (c2 pyIx (cD (cVIx 5 (cVP 9))) (cD (cK (.int 0))))) (cCons (cD (c2 pyIx (cD (cVIx 5 (cVP 9))) (cD (cK (.int 1))))) (cCons (cD (cCall ct 57 (cACons (cVE 0) cANil))) (cCons (cD (cCall ct 57 (cACons (cVE 0) cANil))) (cCons (cD (cTup (cCons (cD (cCall ct 1 (cACons (cVE 0) (cACons (cK (.int 3)) cANil)))) (cCons (cD (cK (.int 1))) cNil)))) cNil))))))))))))
  (sRet (cTup (cCons (cD (cK (.str "p"))) (cCons (cD (c1 pyTuple (cD (cLc (iR1 (cD (c1 pyLen (cVP 4)))) [9] (gNm 9) cYes (cD (cTup (cCons (cD (c2 pyAdd (cD (cK (.str "j"))) (cD (c1 pyStr (cVP 9))))) (cCons (cD (cVIx 4 (cVP 9))) cNil)))))))) (cCons (cD (c1 pyTuple (cVP 6))) (cCons (cD (cVE 8)) cNil))))))))))))
def b_law_density (ct : CT) (w : Nat) : Ev Fl :=
  (sSeq (sAsg 2 (cIte (cCmp pyIs (cD (cVIx 1 (cD (cK (.int 4))))) (cD (cK .none))) (cTup (cCons (cD (c1 pyNeg (cD (cK (.int 3))))) (cCons (cD (cK (.int 1))) cNil))) (cTup (cCons (cD (c1 pyNeg (cD (c2 pyIx (cD (cVIx 1 (cD (cK (.int 4))))) (cD (cK (.int 0))))))) (cCons (cD (c2 pyIx (cD (cVIx 1 (cD (cK (.int 4))))) (cD (cK (.int 1))))) cNil)))))
  (sSeq (sAsg 3 (cIte (cCmp pyIs (cD (cVIx 1 (cD (cK (.int 3))))) (cD (cK .none))) (cTup (cCons (cD (cK (.int 3))) (cCons (cD (cK (.int 1))) cNil))) (cVIx 1 (cD (cK (.int 3))))))
  (sRet (cCall ct 5 (cACons (cVE 2) (cACons (cCall ct 7 (cACons (cCall ct 6 (cACons (cVE 3) (cACons (cVE 2) cANil))) (cACons (cTup (cCons (cD (cCall ct 1 (cACons (cVE 0) (cACons (cK (.int 5)) cANil)))) (cCons (cD (cK (.int 4))) cNil))) cANil))) cANil))))))
def b_law_state (ct : CT) (w : Nat) : Ev Fl :=
  (sSeq (sAsg 2 (c1 pyTuple (cD (cLc (iSeq (cD (cVIx 1 (cD (cK (.int 3)))))) [4] (gNm 4) cYes (cD (cCall ct 69 (cACons (cVE 0) (cACons (cVE 4) cANil))))))))
  (sSeq (sAsg 3 (c1 pyTuple (cD (cLc (iSeq (cD (cVIx 1 (cD (cK (.int 2)))))) [5] (gNm 5) cYes (cD (cIte (cCmp pyEq (cD (cVIx 5 (cD (cK (.int 2))))) (cD (cK (.str "push")))) (cTup (cCons (cD (cCall ct 1 (cACons (cVE 0) (cACons (cK (.int 4)) cANil)))) (cCons (cD (cK (.int 1))) cNil))) (cTup (cCons (cD (c2 pySub (cD (cCall ct 1 (cACons (cVE 0) (cACons (cK (.int 7)) cANil)))) (cD (cK (.int 3))))) (cCons (cD (cK (.int 1))) cNil)))))))))
  (sRet (cTup (cCons (cD (cVE 2)) (cCons (cD (cVE 3)) cNil))))))
def b_law_site (ct : CT) (w : Nat) : Ev Fl :=
  (sSeq (sAsg 5 (cLst cNil))
  (sSeq (sAsg 6 (cLst cNil))
  (sSeq (sFor (iR1 (cVP 3)) (gNm 7)
    (sSeq (sAsg 8 (cCall ct 4 (cACons (cCall ct 1 (cACons (cVE 0) (cACons (cK (.int 4)) cANil))) (cACons (c2 pyAdd (cD (cK (.int 1))) (cD (cCall ct 1 (cACons (cVE 0) (cACons (cK (.int 2)) cANil))))) cANil))))
    (sSeq (sApp 5 (cD (cTup (cCons (cD (cCall ct 59 (cACons (cVE 0) (cACons (cVE 1) cANil)))) (cCons (cD (cVE 8)) cNil)))))
    (sApp 6 (cD (cCall ct 7 (cACons (cVE 8) (cACons (cTup (cCons (cD (cCall ct 1 (cACons (cVE 0) (cACons (cK (.int 4)) cANil)))) (cCons (cD (cK (.int 3))) cNil))) cANil))))))))
  (sSeq (sAsg 9 (cCall ct 65 (cACons (cTup (cCons (cD (cVE 1)) (cCons (cD (c1 pyTuple (cD (cCall ct 51 (cACons (cVE 1) (cACons (cVE 2) cANil)))))) (cCons (cD (c1 pyTuple (cVP 5))) cNil)))) (cACons (cVE 6) cANil))))
  (sSeq (sAsg 10 (c1 pyTuple (cD (cLc (iSeq (cD (cVE 9))) [11] (gNm 11) cYes (cD (cCall ct 64 (cACons (cVE 11) cANil)))))))
  (sRet (cTup (cCons (cD (cTup (cCons (cD (cVE 1)) (cCons (cD (cVE 10)) (cCons (cD (c1 pyTuple (cVP 5))) (cCons (cD (cVE 4)) cNil)))))) (cCons (cD (c1 pyTuple (cVP 6))) cNil)))))))))
def b_law_read (ct : CT) (w : Nat) : Ev Fl :=
  (sSeq (sAsg 3 (cLst cNil))
  (sSeq (sFor (iSeq (cD (cVIx 1 (cD (cK (.int 3)))))) (gNm 4)
    (sApp 3 (cD (cCall ct 5 (cACons (c2 pyIx (cD (cVIx 2 (cD (cK (.int 0))))) (cD (cVIx 4 (cD (cK (.int 0)))))) (cACons (cCall ct 7 (cACons (cVIx 4 (cD (cK (.int 1)))) (cACons (cTup (cCons (cD (c2 pySub (cD (cCall ct 1 (cACons (cVE 0) (cACons (cK (.int 5)) cANil)))) (cD (cK (.int 2))))) (cCons (cD (cK (.int 2))) cNil))) cANil))) cANil))))))
  (sRet (c1 pyTuple (cVP 3)))))
def b_hinders_no_foot (ct : CT) (w : Nat) : Ev Fl :=
  (sSeq (sFor (iZip (cD (cVIx 0 (cD (cK (.int 2))))) (cD (cCall ct 42 (cACons (cVE 0) (cACons (cVE 1) cANil))))) (gTp 2 (gC (gNm 2) (gC (gNm 3) gN)))
    (sIf (cOr (cCmp pyLt (cD (cVIx 3 (cD (cK (.int 0))))) (cD (cK (.int 0)))) (cAnd (cCmp pyEq (cD (cVIx 2 (cD (cK (.int 2))))) (cD (cK (.str "both")))) (cCmp pyNe (cVP 3) (cD (cK (.tuple [(.int 0), (.int 1)]))))))
      (sRet (cK (.bool false)))
      sPass))
  (sRet (cK (.bool true))))
def b_asked_of_bars (ct : CT) (w : Nat) : Ev Fl :=
  (sSeq (sAsg 4 (c1 pyList (cD (cCall ct 22 (cACons (cVIx 1 (cD (cK (.int 1)))) (cACons (cCall ct 41 (cACons (cVIx 0 (cD (cK (.int 0)))) (cACons (cVE 3) cANil))) cANil))))))
  (sSeq (sFor (iZip (cD (cVIx 0 (cD (cK (.int 3))))) (cD (cVE 2))) (gTp 2 (gC (gNm 5) (gC (gNm 6) gN)))
    (sSetIx 4 (cD (cVIx 5 (cD (cK (.int 0))))) (cD (cCall ct 13 (cACons (cVIx 4 (cD (cVIx 5 (cD (cK (.int 0)))))) (cACons (cVE 6) cANil))))))
  (sRet (c1 pyTuple (cVP 4)))))
def b_price_of_bars (ct : CT) (w : Nat) : Ev Fl :=
  (sSeq (sAsg 2 (cK (.tuple [(.int 0), (.int 1)])))
  (sSeq (sFor (iZip (cD (cVIx 0 (cD (cK (.int 3))))) (cD (cVE 1))) (gTp 2 (gC (gNm 3) (gC (gNm 4) gN)))
    (sSeq (sAsg 5 (cCall ct 43 (cACons (cVE 3) (cACons (cVE 4) cANil))))
    (sSeq (sIf (cCmp pyIs (cVP 5) (cD (cK .none)))
      (sRet (cK .none))
      sPass)
    (sAsg 2 (cCall ct 13 (cACons (cVE 2) (cACons (cVE 5) cANil)))))))
  (sRet (cVR 2))))
def b_price_of_patterns (ct : CT) (w : Nat) : Ev Fl :=
  (sSeq (sAsg 3 (cK (.tuple [(.int 0), (.int 1)])))
  (sSeq (sFor (iZip (cD (cVIx 1 (cD (cK (.int 0))))) (cD (cVIx 0 (cD (cK (.int 2)))))) (gTp 2 (gC (gNm 4) (gC (gNm 5) gN)))
    (sSeq (sAsg 6 (cCall ct 15 (cACons (cVE 4) (cACons (cCall ct 28 (cACons (cVIx 5 (cD (cK (.int 0)))) (cACons (cVE 2) cANil))) cANil))))
    (sIf (cCmp pyGt (cD (cVIx 6 (cD (cK (.int 0))))) (cD (cK (.int 0))))
      (sAsg 3 (cCall ct 13 (cACons (cVE 3) (cACons (cCall ct 16 (cACons (cVIx 5 (cD (cK (.int 1)))) (cACons (cVE 6) cANil))) cANil))))
      sPass)))
  (sRet (cVR 3))))
def b_price_of (ct : CT) (w : Nat) : Ev Fl :=
  (sSeq (sIf (cNot (cTru (cD (cCall ct 73 (cACons (cVIx 0 (cD (cK (.int 0)))) (cACons (cVE 3) cANil))))))
    (sRet (cK .none))
    sPass)
  (sSeq (sAsg 4 (cCall ct 75 (cACons (cVIx 0 (cD (cK (.int 0)))) (cACons (cCall ct 74 (cACons (cVE 0) (cACons (cVE 1) (cACons (cVE 2) (cACons (cVE 3) cANil))))) cANil))))
  (sSeq (sIf (cCmp pyIs (cVP 4) (cD (cK .none)))
    (sRet (cK .none))
    sPass)
  (sSeq (sFor (iZip (cD (cVE 2)) (cD (cVIx 0 (cD (cK (.int 3)))))) (gTp 2 (gC (gNm 5) (gC (gNm 6) gN)))
    (sAsg 4 (cCall ct 13 (cACons (cVE 4) (cACons (cCall ct 16 (cACons (cCall ct 62 (cACons (cVE 5) cANil)) (cACons (cVIx 6 (cD (cK (.int 1)))) cANil))) cANil)))))
  (sRet (cCall ct 15 (cACons (cCall ct 13 (cACons (cVE 4) (cACons (cCall ct 76 (cACons (cVE 0) (cACons (cVE 1) (cACons (cVE 3) cANil)))) cANil))) (cACons (cCall ct 28 (cACons (cVIx 0 (cD (cK (.int 1)))) (cACons (cVE 3) cANil))) cANil))))))))
def b_are_pulls (ct : CT) (w : Nat) : Ev Fl :=
  (sRet (cB (cAnd (cOfB (cD (cCall ct 24 (cACons (cVE 1) (cACons (c1 pyLen (cD (cVIx 0 (cD (cK (.int 3)))))) cANil))))) (cOfB (cD (cCall ct 29 (cACons (cVIx 0 (cD (cK (.int 0)))) (cACons (cVE 2) cANil))))))))
def b_shows_strange (ct : CT) (w : Nat) : Ev Fl :=
  (sSeq (sIf (cNot (cTru (cD (cCall ct 78 (cACons (cVE 0) (cACons (cVE 2) (cACons (cVE 3) cANil)))))))
    (sRet (cK (.bool false)))
    sPass)
  (sSeq (sAsg 4 (cCall ct 77 (cACons (cVE 0) (cACons (cCall ct 63 (cACons (cVE 0) cANil)) (cACons (cVE 2) (cACons (cVE 3) cANil))))))
  (sRet (cB (cAnd (cCmp pyIsNot (cVP 4) (cD (cK .none))) (cCmp pyLt (cD (cCall ct 17 (cACons (cVE 4) (cACons (cCall ct 21 (cACons (cVE 2) (cACons (cVE 1) cANil))) cANil)))) (cD (cK (.int 0)))))))))
def b_law_asked (ct : CT) (w : Nat) : Ev Fl :=
  (sSeq (sAsg 4 (cLc (iR1 (cD (c1 pyLen (cD (c2 pyIx (cD (cVIx 0 (cD (cK (.int 0))))) (cD (cK (.int 3)))))))) [6] (gNm 6) cYes (cD (cCall ct 5 (cACons (c2 pyIx (cD (cVIx 1 (cD (cK (.int 1))))) (cVP 6)) (cACons (cCall ct 53 (cACons (cVIx 0 (cD (cK (.int 0)))) (cACons (c2 pyIx (cD (c2 pyIx (cD (cVIx 0 (cD (cK (.int 0))))) (cD (cK (.int 3))))) (cVP 6)) (cACons (cVE 3) cANil)))) cANil))))))
  (sSeq (sFor (iR1 (cD (c1 pyLen (cD (cVIx 0 (cD (cK (.int 3)))))))) (gNm 5)
    (sSetIx 4 (cD (c2 pyIx (cD (c2 pyIx (cD (cVIx 0 (cD (cK (.int 3))))) (cVP 5))) (cD (cK (.int 0))))) (cD (cCall ct 5 (cACons (cVIx 4 (cD (c2 pyIx (cD (c2 pyIx (cD (cVIx 0 (cD (cK (.int 3))))) (cVP 5))) (cD (cK (.int 0)))))) (cACons (cVIx 2 (cVP 5)) cANil))))))
  (sRet (cVR 4))))
def b_law_price (ct : CT) (w : Nat) : Ev Fl :=
  (sSeq (sAsg 4 (cVIx 0 (cD (cK (.int 0)))))
  (sSeq (sFor (iSeq (cD (cVIx 4 (cD (cK (.int 2)))))) (gTp 3 (gC (gNm 5) (gC (gNm 6) (gC (gNm 7) gN))))
    (sSeq (sAsg 8 (cCall ct 8 (cACons (cVE 6) (cACons (cVIx 3 (cVP 5)) cANil))))
    (sIf (cOr (cCmp pyLt (cD (cVIx 8 (cD (cK (.int 0))))) (cD (cK (.int 0)))) (cAnd (cCmp pyEq (cVP 7) (cD (cK (.str "both")))) (cCmp pyNe (cD (cVIx 8 (cD (cK (.int 0))))) (cD (cK (.int 0))))))
      (sRet (cK .none))
      sPass)))
  (sSeq (sAsg 9 (cCall ct 80 (cACons (cVE 0) (cACons (cVE 1) (cACons (cVE 2) (cACons (cVE 3) cANil))))))
  (sSeq (sAsg 10 (cCall ct 6 (cACons (cTup (cCons (cD (cK (.int 0))) (cCons (cD (cK (.int 1))) cNil))) (cACons (cCall ct 55 (cACons (cVIx 0 (cD (cK (.int 1)))) (cACons (cVE 3) cANil))) cANil))))
  (sSeq (sFor (iR1 (cD (c1 pyLen (cD (cVIx 4 (cD (cK (.int 3)))))))) (gNm 11)
    (sSeq (sAsg 12 (cIte (cCmp pyGt (cD (c2 pyIx (cD (cVIx 9 (cVP 11))) (cD (cK (.int 0))))) (cD (cK (.int 0)))) (c2 pyIx (cD (c2 pyIx (cD (cVIx 4 (cD (cK (.int 3))))) (cVP 11))) (cD (cK (.int 3)))) (c2 pyIx (cD (c2 pyIx (cD (cVIx 4 (cD (cK (.int 3))))) (cVP 11))) (cD (cK (.int 4))))))
    (sIf (cCmp pyNe (cD (c2 pyIx (cD (cVIx 9 (cVP 11))) (cD (cK (.int 0))))) (cD (cK (.int 0))))
      (sSeq (sIf (cCmp pyIs (cVP 12) (cD (cK .none)))
        (sRet (cK .none))
        sPass)
      (sAsg 10 (cCall ct 5 (cACons (cVE 10) (cACons (cCall ct 7 (cACons (cVE 12) (cACons (cCall ct 10 (cACons (cVIx 9 (cVP 11)) cANil)) cANil))) cANil)))))
      sPass)))
  (sSeq (sFor (iR1 (cD (c1 pyLen (cD (cVIx 0 (cD (cK (.int 3)))))))) (gNm 13)
    (sAsg 10 (cCall ct 5 (cACons (cVE 10) (cACons (cCall ct 7 (cACons (c2 pyIx (cD (c2 pyIx (cD (cVIx 0 (cD (cK (.int 3))))) (cVP 13))) (cD (cK (.int 1)))) (cACons (cCall ct 10 (cACons (cVIx 2 (cVP 13)) cANil)) cANil))) cANil)))))
  (sSeq (sFor (iR1 (cD (c1 pyLen (cD (cVIx 0 (cD (cK (.int 2)))))))) (gNm 14)
    (sSeq (sAsg 15 (cCall ct 6 (cACons (c2 pyIx (cD (cVIx 1 (cD (cK (.int 0))))) (cVP 14)) (cACons (cCall ct 55 (cACons (c2 pyIx (cD (c2 pyIx (cD (cVIx 0 (cD (cK (.int 2))))) (cVP 14))) (cD (cK (.int 0)))) (cACons (cVE 3) cANil))) cANil))))
    (sIf (cCmp pyGt (cD (cVIx 15 (cD (cK (.int 0))))) (cD (cK (.int 0))))
      (sAsg 10 (cCall ct 5 (cACons (cVE 10) (cACons (cCall ct 7 (cACons (c2 pyIx (cD (c2 pyIx (cD (cVIx 0 (cD (cK (.int 2))))) (cVP 14))) (cD (cK (.int 1)))) (cACons (cVE 15) cANil))) cANil))))
      sPass)))
  (sRet (cVR 10)))))))))
def b_law_numbers (ct : CT) (w : Nat) : Ev Fl :=
  (sSeq (sIf (cCmp pyEq (cD (cCall ct 1 (cACons (cVE 0) (cACons (cK (.int 4)) cANil)))) (cD (cK (.int 0))))
    (sRet (c2 pyMul (cD (cTup (cCons (cD (cTup (cCons (cD (cK (.int 0))) (cCons (cD (cK (.int 1))) cNil)))) cNil))) (cVP 1)))
    sPass)
  (sRet (c1 pyTuple (cD (cLc (iR1 (cVP 1)) [2] (gNm 2) cYes (cD (cCall ct 4 (cACons (c2 pySub (cD (cCall ct 1 (cACons (cVE 0) (cACons (cK (.int 7)) cANil)))) (cD (cK (.int 3)))) (cACons (c2 pyAdd (cD (cK (.int 1))) (cD (cCall ct 1 (cACons (cVE 0) (cACons (cK (.int 2)) cANil))))) cANil)))))))))
/-- more shared defs, behind libT -/
def libS : List Fn := [⟨3, 5, b_law_gauges⟩, ⟨3, 3, b_law_with⟩, ⟨1, 1, b_size⟩, ⟨1, 1, b_no_target⟩, ⟨1, 2, b_law_turned⟩, ⟨2, 6, b_law_under⟩, ⟨1, 1, b_law_nothing⟩, ⟨3, 3, b_law_worth⟩, ⟨1, 10, b_law_truss⟩, ⟨2, 4, b_law_density⟩, ⟨2, 6, b_law_state⟩, ⟨5, 12, b_law_site⟩, ⟨3, 5, b_law_read⟩, ⟨2, 4, b_hinders_no_foot⟩, ⟨4, 7, b_asked_of_bars⟩, ⟨2, 6, b_price_of_bars⟩, ⟨3, 7, b_price_of_patterns⟩, ⟨4, 7, b_price_of⟩, ⟨3, 3, b_are_pulls⟩, ⟨4, 5, b_shows_strange⟩, ⟨4, 7, b_law_asked⟩, ⟨4, 16, b_law_price⟩, ⟨2, 3, b_law_numbers⟩]
structure HS (T : List Fn) : Prop where
  h : ∀ {i : Nat} {f : Fn}, (libT ++ libS)[i]? = some f → T[i]? = some f
theorem HS.l {T : List Fn} (s : HS T) : HL T := ⟨fun {i f} h => s.h (by
  rw [List.getElem?_append_left (List.getElem?_eq_some_iff.mp h).1]
  exact h)⟩
end
end FD
/-! FDS1: sites; what is asked of bars. -/
namespace FD
noncomputable section
open PySem
/-- the size and the common denominator of all numbers of a site -/
def AU : Nat := 1000000000
def DU : Nat := 60480
abbrev Bu (r : Rat) : Prop := Bd AU DU r
abbrev BuV (v : V2) : Prop := BdV AU DU v
structure Gau where
  b : Nat
  e : Rat
  u : Rat
structure Pat where
  ls : List V2
  most : Rat
structure Site where
  f : Frame
  base : List V2
  ps : List Pat
  gs : List Gau
def gauD (g : Gau) : D := .tuple [.int g.b, qD g.e, qD g.u]
def patD (p : Pat) : D := .tuple [lsD p.ls, qD p.most]
def siD (s : Site) : D := .tuple [frD s.f, lsD s.base, .tuple (s.ps.map patD), .tuple (s.gs.map gauD)]
structure SiOk (s : Site) : Prop where
  fr : FrOk s.f AU DU
  lim : LimOk s.f AU DU
  nj : s.f.joints.length ≤ 40
  nb : s.f.bars.length ≤ 40
  nf : s.f.feet.length ≤ 20
  lb : s.base.length = s.f.joints.length
  bb : ∀ v ∈ s.base, BuV v
  np : s.ps.length ≤ 20
  pl : ∀ p ∈ s.ps, p.ls.length = s.f.joints.length ∧ (∀ v ∈ p.ls, BuV v) ∧ Bu p.most
  ng : s.gs.length ≤ 40
  gb : ∀ g ∈ s.gs, g.b < s.f.bars.length ∧ Bu g.e ∧ Bu g.u
theorem si0 (s : Site) : pyIx (siD s) (.int 0) = some (.fz (frD s.f)) := ixU (n := 0) rfl rfl
theorem si1 (s : Site) : pyIx (siD s) (.int 1) = some (.fz (lsD s.base)) := ixU (n := 1) rfl rfl
theorem si2 (s : Site) : pyIx (siD s) (.int 2) = some (.fz (.tuple (s.ps.map patD))) := ixU (n := 2) rfl rfl
theorem si3 (s : Site) : pyIx (siD s) (.int 3) = some (.fz (.tuple (s.gs.map gauD))) := ixU (n := 3) rfl rfl
theorem ga0 (g : Gau) : pyIx (gauD g) (.int 0) = some (.fz (.int g.b)) := ixU (n := 0) rfl rfl
theorem ga1 (g : Gau) : pyIx (gauD g) (.int 1) = some (.fz (qD g.e)) := ixU (n := 1) rfl rfl
theorem ga2 (g : Gau) : pyIx (gauD g) (.int 2) = some (.fz (qD g.u)) := ixU (n := 2) rfl rfl
theorem pa0 (g : Pat) : pyIx (patD g) (.int 0) = some (.fz (lsD g.ls)) := ixU (n := 0) rfl rfl
theorem pa1 (g : Pat) : pyIx (patD g) (.int 1) = some (.fz (qD g.most)) := ixU (n := 1) rfl rfl
theorem sU : Sml AU DU := ⟨by decide, by decide +kernel, by decide +kernel⟩
theorem sU2 : Sml (AU + AU) DU := ⟨by decide, by decide +kernel, by decide +kernel⟩
/-- the bound of what is asked -/
def QB : Nat := 60 * AU + 2 * ((AU + AU) * (AU + AU))
theorem qb_le {n : Nat} (h : n ≤ 40) : AU + 2 * ((AU + AU) * (AU + AU)) + n * AU ≤ QB := by
  have := Nat.mul_le_mul_right AU h
  have e : QB = 60 * AU + 2 * ((AU + AU) * (AU + AU)) := rfl
  rw [e]
  omega
theorem sQB : Sml QB (DU * DU) := ⟨by decide, by decide +kernel, by decide +kernel⟩
theorem SiOk.mo {s : Site} (h : SiOk s) {ms : List V2} (hm : ms.length = s.f.joints.length) (bm : ∀ m ∈ ms, BuV m) : MoOk s.f ms AU AU DU DU AU DU :=
  ⟨h.fr, hm, bm, h.lim, sU2, sU2, sU, by decide +kernel, by decide +kernel, ⟨by decide, by decide +kernel, by decide +kernel⟩, ⟨by decide, by decide +kernel, by decide +kernel⟩, ⟨by decide, by decide +kernel, by decide +kernel⟩⟩
theorem wkU {ls : List V2} (h : ∀ v ∈ ls, BuV v) (hl : ls.length ≤ 1000) : WkOk ls AU DU AU DU :=
  ⟨h, hl, sU, by decide +kernel, ⟨by decide, by decide +kernel, by decide +kernel⟩, ⟨by decide, by decide +kernel, by decide +kernel⟩⟩
def askL (l : List Rat) (ps : List (Gau × Rat)) : List Rat := ps.foldl (fun l p => l.set p.1.b (l.getD p.1.b 0 + p.2)) l
def askedR (s : Site) (tb pulls : List Rat) (ms : List V2) : List Rat := askL (addR tb (s.f.stretches ms)) (s.gs.zip pulls)
theorem setQ {l : List Rat} {i : Nat} (v : Rat) (h : i < l.length) : setAt (l.map qD) i (qD v) = some ((l.set i v).map qD) := by
  rw [setAtN _ (by rw [List.length_map]; exact h), List.map_set]
theorem qGetL {l : List Rat} {i : Nat} (h : i < l.length) : pyIx (.list (l.map qD)) (.int i) = some (.fz (qD (l.getD i 0))) := ixL rfl (by rw [List.getElem?_map, List.getElem?_eq_getElem h]; simp [h])
theorem qGetU {l : List Rat} {i : Nat} (h : i < l.length) : pyIx (rowD l) (.int i) = some (.fz (qD (l.getD i 0))) := ixU rfl (by rw [List.getElem?_map, List.getElem?_eq_getElem h]; simp [h])
theorem getD_mem {l : List Rat} {i : Nat} (h : i < l.length) : l.getD i 0 ∈ l := by
  rw [List.getD_eq_getElem?_getD, List.getElem?_eq_getElem h]
  exact List.getElem_mem h
theorem askL_len : ∀ (ps : List (Gau × Rat)) (l : List Rat), (askL l ps).length = l.length
  | [], l => rfl
  | p :: r, l => by
    show (askL (l.set p.1.b _) r).length = _
    rw [askL_len r, List.length_set]
theorem bu_up {d : Nat} {r : Rat} (h : Bu r) : Bd AU (DU * DU) r := h.mono (Nat.le_refl _) (Nat.dvd_mul_right _ _)
theorem askL_bd : ∀ (ps : List (Gau × Rat)) (l : List Rat) (N : Nat), (∀ p ∈ ps, Bu p.2) → (∀ p ∈ ps, p.1.b < l.length) → (∀ x ∈ l, Bd N (DU * DU) x) → ∀ x ∈ askL l ps, Bd (N + ps.length * AU) (DU * DU) x
  | [], l, N, _, _, h => fun x hx => (h x hx).mono (by simp) (Nat.dvd_refl _)
  | p :: r, l, N, hp, hb, h => fun x hx => by
    have e : askL l (p :: r) = askL (l.set p.1.b (l.getD p.1.b 0 + p.2)) r := rfl
    rw [e] at hx
    have := askL_bd r (l.set p.1.b (l.getD p.1.b 0 + p.2)) (N + AU) (fun q hq => hp q (List.mem_cons_of_mem _ hq)) (fun q hq => by rw [List.length_set]; exact hb q (List.mem_cons_of_mem _ hq)) (fun y hy => by
      rcases List.mem_or_eq_of_mem_set hy with h2 | rfl
      · exact (h y h2).mono (Nat.le_add_right _ _) (Nat.dvd_refl _)
      · exact (h _ (getD_mem (hb p List.mem_cons_self))).add (bu_up (d := 0) (hp p List.mem_cons_self))) x hx
    exact this.mono (by rw [List.length_cons, Nat.succ_mul]; omega) (Nat.dvd_refl _)
theorem addR_len {xs ys : List Rat} (h : xs.length = ys.length) : (addR xs ys).length = xs.length := by
  unfold addR
  rw [List.length_map, List.length_zip, h, Nat.min_self]
theorem stretches_len (f : Frame) (ms : List V2) : (f.stretches ms).length = f.bars.length := by unfold Frame.stretches; rw [List.length_map]
theorem slips_len (f : Frame) (ms : List V2) : (f.slips ms).length = f.feet.length := by unfold Frame.slips; rw [List.length_map]
theorem asked_len {s : Site} {tb pulls : List Rat} {ms : List V2} (h : tb.length = s.f.bars.length) : (askedR s tb pulls ms).length = s.f.bars.length := by
  unfold askedR
  rw [askL_len, addR_len (by rw [stretches_len]; exact h), h]
theorem add0_bd {s : Site} (h : SiOk s) {tb : List Rat} {ms : List V2} (hm : ms.length = s.f.joints.length) (bm : ∀ m ∈ ms, BuV m) (bt : ∀ x ∈ tb, Bu x) : ∀ x ∈ addR tb (s.f.stretches ms), Bd (AU + 2 * ((AU + AU) * (AU + AU))) (DU * DU) x := fun x hx => by
  unfold addR at hx
  rw [List.mem_map] at hx
  obtain ⟨p, hp, rfl⟩ := hx
  have h1 := bt _ (List.of_mem_zip hp).1
  have h2 := (List.of_mem_zip hp).2
  unfold Frame.stretches at h2
  rw [List.mem_map] at h2
  obtain ⟨b, hb, e⟩ := h2
  rw [← e]
  exact (bu_up (d := 0) h1).add (stretch_bd h.fr hm bm hb)
theorem asked_bd {s : Site} (h : SiOk s) {tb pulls : List Rat} {ms : List V2} (hm : ms.length = s.f.joints.length) (bm : ∀ m ∈ ms, BuV m) (bt : ∀ x ∈ tb, Bu x) (ht : tb.length = s.f.bars.length) (bp : ∀ x ∈ pulls, Bu x) : ∀ x ∈ askedR s tb pulls ms, Bd QB (DU * DU) x := fun x hx => by
  have l : (s.gs.zip pulls).length ≤ 40 := by have := h.ng; rw [List.length_zip]; omega
  have := askL_bd (s.gs.zip pulls) _ _ (fun p hp => bp _ (List.of_mem_zip hp).2) (fun p hp => by rw [addR_len (by rw [stretches_len]; exact ht), ht]; exact (h.gb _ (List.of_mem_zip hp).1).1) (add0_bd h hm bm bt) x hx
  exact this.mono (qb_le l) (Nat.dvd_refl _)
section
variable {w k : Nat} {T : List Fn} {g : G}
theorem foot_loop {s0 s1 : SV} : ∀ (ps : List (Foot × Rat)),
    ((ps.all fun p => okS p.1 p.2) = true → forL (gTp 2 (gC (gNm 2) (gC (gNm 3) gN))) (sIf (cOr (cCmp pyLt (cD (cVIx 3 (cD (cK (.int 0))))) (cD (cK (.int 0)))) (cAnd (cCmp pyEq (cD (cVIx 2 (cD (cK (.int 2))))) (cD (cK (.str "both")))) (cCmp pyNe (cVP 3) (cD (cK (.tuple [(.int 0), (.int 1)]))))))
      (sRet (cK (.bool false)))
      sPass) (ps.map fun p => .tuple [footD p.1, qD p.2]) [some s0, some s1, none, none] g = .ok .nx [some s0, some s1, none, none] g) ∧
    ((ps.all fun p => okS p.1 p.2) = false → ∃ σ, forL (gTp 2 (gC (gNm 2) (gC (gNm 3) gN))) (sIf (cOr (cCmp pyLt (cD (cVIx 3 (cD (cK (.int 0))))) (cD (cK (.int 0)))) (cAnd (cCmp pyEq (cD (cVIx 2 (cD (cK (.int 2))))) (cD (cK (.str "both")))) (cCmp pyNe (cVP 3) (cD (cK (.tuple [(.int 0), (.int 1)]))))))
      (sRet (cK (.bool false)))
      sPass) (ps.map fun p => .tuple [footD p.1, qD p.2]) [some s0, some s1, none, none] g = .ok (.rt (.fz (.bool false))) σ g)
  | [] => ⟨fun _ => rfl, fun h => by simp at h⟩
  | p :: r => by
    have ih := foot_loop (s0 := s0) (s1 := s1) r
    have ne := neQ p.2 0
    have be := both_eq p.1.both
    have l0 := lt0 p.2
    have tst : (cOr (cCmp pyLt (cD (cVIx 3 (cD (cK (.int 0))))) (cD (cK (.int 0)))) (cAnd (cCmp pyEq (cD (cVIx 2 (cD (cK (.int 2))))) (cD (cK (.str "both")))) (cCmp pyNe (cVP 3) (cD (cK (.tuple [(.int 0), (.int 1)])))))) [some s0, some s1, some (.fz (footD p.1)), some (.fz (qD p.2))] g = .ok (!okS p.1 p.2) [some s0, some s1, some (.fz (footD p.1)), some (.fz (qD p.2))] g := by
      unfold okS
      rw [Bool.not_not]
      simp only [cOr, cAnd, cCmp, cD, cVIx, cK, cVP, c2, dOf, Out.bind_ok, liftO_some, List.getElem?_cons_succ, List.getElem?_cons_zero, qix0, ft2, ltI, l0, eqSS, be, q0_lit, ne]
      by_cases z : p.2 < 0
      · simp [z]
      · simp only [z, decide_false, Bool.false_eq_true, if_false, Bool.false_or]
        cases h : p.1.both <;> simp
    generalize cOr (cCmp pyLt (cD (cVIx 3 (cD (cK (.int 0))))) (cD (cK (.int 0)))) (cAnd (cCmp pyEq (cD (cVIx 2 (cD (cK (.int 2))))) (cD (cK (.str "both")))) (cCmp pyNe (cVP 3) (cD (cK (.tuple [(.int 0), (.int 1)]))))) = X at *
    rw [List.all_cons, List.map_cons]
    cases h : okS p.1 p.2 with
    | true =>
      rw [h] at tst
      refine ⟨fun h2 => ?_, fun h2 => ?_⟩
      · have i1 := ih.1 (by simpa using h2)
        rw [← i1]
        simp [forL, tst]
      · obtain ⟨σ, i2⟩ := ih.2 (by simpa using h2)
        refine ⟨σ, ?_⟩
        rw [← i2]
        simp [forL, tst]
    | false =>
      rw [h] at tst
      exact ⟨fun h2 => by simp at h2, fun _ => ⟨_, by simp [forL, tst]; rfl⟩⟩
theorem hinders_ok (hS : HS T) (hw : 4000 ≤ w) {f : Frame} {ms : List V2} {A B d e L l : Nat} (h : MoOk f ms A B d e L l) :
    callN w T (k + 5) 73 [.fz (frD f), .fz (lsD ms)] g = .ok (.fz (.bool (footFree f ms))) g := by
  have e1 := slips_ok (w := w) (k := k) (g := g) hS.l hw h.hf h.hm h.bm h.sA h.sB h.hs2
  have lp := foot_loop (g := g) (s0 := .fz (frD f)) (s1 := .fz (lsD ms)) (f.feet.zip (f.slips ms))
  have fz : ((f.feet.zip (f.slips ms)).all fun p => okS p.1 p.2) = footFree f ms := all_zip_map f.feet (slipR ms) okS
  rw [fz] at lp
  have z1 : zipK (.tuple (f.feet.map footD)) (rowD (f.slips ms)) = some ((f.feet.zip (f.slips ms)).map fun p => .tuple [footD p.1, qD p.2]) := by
    show some (zipD _ ((f.slips ms).map qD)) = _
    rw [zipD_map]
  rw [callN_at (hS.h (i := 73) rfl)]
  generalize (f.feet.zip (f.slips ms)).map (fun (p : Foot × Rat) => PyData.tuple [footD p.1, qD p.2]) = Y at *
  cases z : footFree f ms with
  | true =>
    have l1 := lp.1 z
    simp [semF, runF, b_hinders_no_foot, fr2, e1, z1, l1]
  | false =>
    obtain ⟨σ, l2⟩ := lp.2 z
    simp [semF, runF, b_hinders_no_foot, fr2, e1, z1, l2]
theorem ask_loop (hS : HS T) (hw : 4000 ≤ w) {s0 s1 s2 s3 : SV} {n0 : Nat} : ∀ (ps : List (Gau × Rat)) (l : List Rat) (N : Nat), (∀ p ∈ ps, Bu p.2) → (∀ p ∈ ps, p.1.b < n0) → l.length = n0 → (∀ x ∈ l, Bd N (DU * DU) x) → N + ps.length * AU ≤ QB →
    forL (gTp 2 (gC (gNm 5) (gC (gNm 6) gN))) (sSetIx 4 (cD (cVIx 5 (cD (cK (.int 0))))) (cD (cCall (callN w T (k + 3)) 13 (cACons (cVIx 4 (cD (cVIx 5 (cD (cK (.int 0)))))) (cACons (cVE 6) cANil))))) (ps.map fun p => .tuple [gauD p.1, qD p.2]) [some s0, some s1, some s2, some s3, some (.ow (l.map qD)), none, none] g
      = .ok .nx [some s0, some s1, some s2, some s3, some (.ow ((askL l ps).map qD)), none, none] g
  | [], l, N, _, _, _, _, _ => rfl
  | p :: r, l, N, hp, hb, hl, h, hN => by
    rw [List.length_cons, Nat.succ_mul] at hN
    have bi := hb p List.mem_cons_self
    have b0 := h _ (getD_mem (l := l) (i := p.1.b) (by omega))
    have b1 := b0.add (bu_up (d := 0) (hp p List.mem_cons_self))
    have ih := ask_loop hS hw (s0 := s0) (s1 := s1) (s2 := s2) (s3 := s3) (n0 := n0) r (l.set p.1.b (l.getD p.1.b 0 + p.2)) (N + AU) (fun q hq => hp q (List.mem_cons_of_mem _ hq)) (fun q hq => hb q (List.mem_cons_of_mem _ hq)) (by rw [List.length_set]; exact hl) (fun y hy => by
      rcases List.mem_or_eq_of_mem_set hy with h2 | rfl
      · exact (h y h2).mono (Nat.le_add_right _ _) (Nat.dvd_refl _)
      · exact b1) (by omega)
    have gx := qGetL (l := l) (i := p.1.b) (by omega)
    have a := added_ok (w := w) (k := k) (g := g) hS.l hw ((b0.mono (show N ≤ QB by omega) (Nat.dvd_refl _)).fit sQB) ((hp p List.mem_cons_self).fit sU)
    have st := setQ (l := l) (i := p.1.b) (l.getD p.1.b 0 + p.2) (by omega)
    have e : askL l (p :: r) = askL (l.set p.1.b (l.getD p.1.b 0 + p.2)) r := rfl
    rw [e, ← ih]
    generalize l.getD p.1.b 0 = X at *
    generalize hL2 : l.map qD = L at *
    simp [-List.map_set, forL, ga0, gx, a, st]
theorem asked_ok (hS : HS T) (hw : 4000 ≤ w) {s : Site} (h : SiOk s) {tp tb pulls : List Rat} {ms : List V2} (hm : ms.length = s.f.joints.length) (bm : ∀ m ∈ ms, BuV m) (bt : ∀ x ∈ tb, Bu x) (ht : tb.length = s.f.bars.length) (bp : ∀ x ∈ pulls, Bu x) :
    callN w T (k + 8) 74 [.fz (siD s), .fz (stD ⟨tp, tb⟩), .fz (rowD pulls), .fz (lsD ms)] g = .ok (.fz (rowD (askedR s tb pulls ms))) g := by
  have mo := h.mo hm bm
  have nb := h.nb
  have e1 := stretches_ok (w := w) (k := k) (g := g) hS.l hw h.fr hm bm mo.s1 mo.s2 mo.hs
  have e2 := plus_ok (w := w) (k := k + 3) (g := g) hS.l hw (xs := tb) (ys := s.f.stretches ms) (fun x hx => (bt x hx).fit sU) (fun x hx => by
    unfold Frame.stretches at hx
    rw [List.mem_map] at hx
    obtain ⟨b, hb, rfl⟩ := hx
    exact mo.fs hb) (by omega)
  have l40 : (s.gs.zip pulls).length ≤ 40 := by have := h.ng; rw [List.length_zip]; omega
  have lp := ask_loop (w := w) (k := k + 4) (g := g) hS hw (s0 := .fz (siD s)) (s1 := .fz (stD ⟨tp, tb⟩)) (s2 := .fz (rowD pulls)) (s3 := .fz (lsD ms)) (n0 := s.f.bars.length) (s.gs.zip pulls) (addR tb (s.f.stretches ms)) _ (fun p hp => bp _ (List.of_mem_zip hp).2) (fun p hp => (h.gb _ (List.of_mem_zip hp).1).1) (by rw [addR_len (by rw [stretches_len]; exact ht), ht]) (add0_bd h hm bm bt) (qb_le l40)
  have zz : zipK (.tuple (s.gs.map gauD)) (rowD pulls) = some ((s.gs.zip pulls).map fun p => .tuple [gauD p.1, qD p.2]) := by
    show some (zipD _ (pulls.map qD)) = _
    rw [zipD_map]
  have st1' := st1 ⟨tp, tb⟩
  have pl : pyList (rowD (addR tb (s.f.stretches ms))) = some (.ow ((addR tb (s.f.stretches ms)).map qD)) := rfl
  have fin : askL (addR tb (s.f.stretches ms)) (s.gs.zip pulls) = askedR s tb pulls ms := rfl
  rw [fin] at lp
  have tr : PyData.tuple ((askedR s tb pulls ms).map qD) = rowD (askedR s tb pulls ms) := rfl
  simp only at st1'
  rw [callN_at (hS.h (i := 74) rfl)]
  generalize (addR tb (s.f.stretches ms)).map qD = X at *
  generalize (s.gs.zip pulls).map (fun (p : Gau × Rat) => PyData.tuple [gauD p.1, qD p.2]) = Y at *
  generalize (askedR s tb pulls ms).map qD = Z at *
  simp [semF, runF, b_asked_of_bars, st1', si0, si3, e1, e2, pl, zz, lp, tr]
end
end
end FD
/-! FDS2: prices. -/
namespace FD
noncomputable section
open PySem
@[irreducible] def PD : Nat := DU * (DU * DU)
@[irreducible] def TM : Nat := 1000000000000000000000000000000
theorem pd_eq : PD = DU * (DU * DU) := by unfold PD; rfl
theorem dd_pd : DU * DU ∣ PD := by rw [pd_eq]; exact Nat.dvd_mul_left _ _
theorem d3_pd : DU * (DU * DU) ∣ PD := by rw [pd_eq]; exact Nat.dvd_refl _
theorem pd_pos : 0 < PD := by unfold PD; decide
theorem sT {n : Nat} (h : n ≤ 400) : Sml (n * TM) PD := Sml.mono (B := 400 * TM) (e := PD) ⟨pd_pos, by unfold TM PD; decide +kernel, by unfold PD; decide +kernel⟩ (Nat.mul_le_mul_right _ h) (Nat.le_refl _) pd_pos
def barsOk (f : Frame) (xs : List Rat) : Bool := (f.bars.zip xs).all fun p => !(resS p.1 p.2).isNone
def barsSum (f : Frame) (xs : List Rat) : Rat := ((f.bars.zip xs).map fun p => (resS p.1 p.2).getD 0).sum
def gauSum (gs : List Gau) (pulls : List Rat) : Rat := ((pulls.zip gs).map fun p => absR p.1 * p.2.e).sum
def patTerm (ms : List V2) (t : Rat) (p : Pat) : Rat := if 0 < t - workR p.ls ms then p.most * (t - workR p.ls ms) else 0
def patSum (ps : List Pat) (ms : List V2) (tp : List Rat) : Rat := ((tp.zip ps).map fun p => patTerm ms p.1 p.2).sum
def priceR (s : Site) (tp tb pulls : List Rat) (ms : List V2) : Option Rat :=
  if footFree s.f ms && barsOk s.f (askedR s tb pulls ms) then some (barsSum s.f (askedR s tb pulls ms) + gauSum s.gs pulls + patSum s.ps ms tp - workR s.base ms) else none
theorem bar_term {f : Frame} (hl : LimOk f AU DU) {b : Bar} (hb : b ∈ f.bars) {x p : Rat} (hx : Bd QB (DU * DU) x) (h : resS b x = some p) : Bd TM PD p := (resS_bd hl hb hx h).mono (by unfold TM; decide +kernel) d3_pd
theorem gau_term {t e : Rat} (ht : Bu t) (he : Bu e) : Bd TM PD (absR t * e) := (ht.abs.mul he).mono (by unfold TM; decide +kernel) dd_pd
theorem work_u {ls ms : List V2} (h1 : ∀ v ∈ ls, BuV v) (h2 : ∀ m ∈ ms, BuV m) (hl : ls.length ≤ 40) : Bd (80 * (AU * AU)) (DU * DU) (workR ls ms) := (workR_bd ls ms h1 h2).mono (by
  have := Nat.mul_le_mul_right (2 * (AU * AU)) hl
  refine Nat.le_trans this ?_
  decide +kernel) (Nat.dvd_refl _)
theorem work_term {ls ms : List V2} (h1 : ∀ v ∈ ls, BuV v) (h2 : ∀ m ∈ ms, BuV m) (hl : ls.length ≤ 40) : Bd TM PD (workR ls ms) := (work_u h1 h2 hl).mono (by unfold TM; decide +kernel) dd_pd
theorem beyond_bd {ls ms : List V2} {t : Rat} (ht : Bu t) (h1 : ∀ v ∈ ls, BuV v) (h2 : ∀ m ∈ ms, BuV m) (hl : ls.length ≤ 40) : Bd (AU + 80 * (AU * AU)) (DU * DU) (t - workR ls ms) := (bu_up (d := 0) ht).sub (work_u h1 h2 hl)
theorem pat_prod {p : Pat} {ms : List V2} {t : Rat} (ht : Bu t) (h1 : ∀ v ∈ p.ls, BuV v) (h2 : ∀ m ∈ ms, BuV m) (hl : p.ls.length ≤ 40) (hm : Bu p.most) : Bd TM PD (p.most * (t - workR p.ls ms)) := (hm.mul (beyond_bd ht h1 h2 hl)).mono (by unfold TM; decide +kernel) d3_pd
theorem pat_term {p : Pat} {ms : List V2} {t : Rat} (ht : Bu t) (h1 : ∀ v ∈ p.ls, BuV v) (h2 : ∀ m ∈ ms, BuV m) (hl : p.ls.length ≤ 40) (hm : Bu p.most) : Bd TM PD (patTerm ms t p) := by
  unfold patTerm
  split
  · exact pat_prod ht h1 h2 hl hm
  · exact Bd.zero _ _
theorem sum_bd {α : Type} (F : α → Rat) : ∀ l : List α, (∀ x ∈ l, Bd TM PD (F x)) → Bd (l.length * TM) PD (l.map F).sum
  | [], _ => Bd.zero _ _
  | x :: r, h => by
    have ih := (sum_bd F r fun y hy => h y (List.mem_cons_of_mem _ hy)).add (h x List.mem_cons_self)
    rw [← Nat.succ_mul] at ih
    rw [List.map_cons, List.sum_cons, List.length_cons, Rat.add_comm]
    exact ih
section
variable {w k : Nat} {T : List Fn} {g : G}
theorem pbars_loop (hS : HS T) (hw : 4000 ≤ w) {f : Frame} (hl : LimOk f AU DU) {s0 s1 : SV} : ∀ (ps : List (Bar × Rat)) (n : Nat) (t : Rat), (∀ p ∈ ps, p.1 ∈ f.bars ∧ Bd QB (DU * DU) p.2) → n + ps.length ≤ 399 → Bd (n * TM) PD t →
    ((ps.all fun p => !(resS p.1 p.2).isNone) = true → forL (gTp 2 (gC (gNm 3) (gC (gNm 4) gN))) (sSeq (sAsg 5 (cCall (callN w T (k + 4)) 43 (cACons (cVE 3) (cACons (cVE 4) cANil))))
    (sSeq (sIf (cCmp pyIs (cVP 5) (cD (cK .none)))
      (sRet (cK .none))
      sPass)
    (sAsg 2 (cCall (callN w T (k + 4)) 13 (cACons (cVE 2) (cACons (cVE 5) cANil)))))) (ps.map fun p => .tuple [barD p.1, qD p.2]) [some s0, some s1, some (.fz (qD t)), none, none, none] g = .ok .nx [some s0, some s1, some (.fz (qD (t + (ps.map fun p => (resS p.1 p.2).getD 0).sum))), none, none, none] g) ∧
    ((ps.all fun p => !(resS p.1 p.2).isNone) = false → ∃ σ, forL (gTp 2 (gC (gNm 3) (gC (gNm 4) gN))) (sSeq (sAsg 5 (cCall (callN w T (k + 4)) 43 (cACons (cVE 3) (cACons (cVE 4) cANil))))
    (sSeq (sIf (cCmp pyIs (cVP 5) (cD (cK .none)))
      (sRet (cK .none))
      sPass)
    (sAsg 2 (cCall (callN w T (k + 4)) 13 (cACons (cVE 2) (cACons (cVE 5) cANil)))))) (ps.map fun p => .tuple [barD p.1, qD p.2]) [some s0, some s1, some (.fz (qD t)), none, none, none] g = .ok (.rt (.fz .none)) σ g)
  | [], n, t, _, _, _ => ⟨fun _ => by simp [forL, Rat.add_zero], fun h => by simp at h⟩
  | p :: r, n, t, hp, hn, ht => by
    obtain ⟨hb, hx⟩ := hp p List.mem_cons_self
    rw [List.length_cons] at hn
    have r1 := resistance_ok (w := w) (k := k) (g := g) (b := p.1) (s := p.2) hS.l hw (hx.fit sQB) fun q hq => (hl _ hb q (limS_mem hq)).fit sU
    have IH := fun n t a c => pbars_loop hS hw hl (s0 := s0) (s1 := s1) r n t (fun c hc => hp c (List.mem_cons_of_mem _ hc)) a c
    rw [List.all_cons, List.map_cons, List.map_cons, List.sum_cons]
    cases z : resS p.1 p.2 with
    | none =>
      rw [z, oq_none] at r1
      exact ⟨fun h2 => by simp at h2, fun _ => ⟨_, by simp [forL, r1]; rfl⟩⟩
    | some q =>
      rw [z, oq_some] at r1
      have bq := bar_term hl hb hx z
      have a := added_ok (w := w) (k := k + 1) (g := g) hS.l hw (ht.fit (sT (by omega))) ((bq.mono (Nat.le_of_eq (Nat.one_mul TM).symm) (Nat.dvd_refl _)).fit (sT (by omega)))
      have bt : Bd ((n + 1) * TM) PD (t + q) := by
        have := ht.add bq
        rw [← Nat.succ_mul] at this
        exact this
      have ih := IH (n + 1) (t + q) (by omega) bt
      have e0 : t + ((some q).getD 0 + (r.map fun p => (resS p.1 p.2).getD 0).sum) = t + q + (r.map fun p => (resS p.1 p.2).getD 0).sum := by
        show t + (q + _) = _
        grind
      rw [e0]
      refine ⟨fun h2 => ?_, fun h2 => ?_⟩
      · have j1 := ih.1 (by simpa using h2)
        rw [← j1]
        simp [forL, r1, a]
      · obtain ⟨σ, j2⟩ := ih.2 (by simpa using h2)
        refine ⟨σ, ?_⟩
        rw [← j2]
        simp [forL, r1, a]
theorem price_of_bars_ok (hS : HS T) (hw : 4000 ≤ w) {f : Frame} (hl : LimOk f AU DU) (nb : f.bars.length ≤ 40) {xs : List Rat} (hx : ∀ x ∈ xs, Bd QB (DU * DU) x) :
    callN w T (k + 5) 75 [.fz (frD f), .fz (rowD xs)] g = .ok (.fz (oqD (if barsOk f xs = true then some (barsSum f xs) else none))) g ∧ Bd (40 * TM) PD (barsSum f xs) := by
  have lz : (f.bars.zip xs).length ≤ 40 := by rw [List.length_zip]; omega
  have lp := pbars_loop (w := w) (k := k) (g := g) hS hw hl (s0 := .fz (frD f)) (s1 := .fz (rowD xs)) (f.bars.zip xs) 0 0 (fun p hp => ⟨(List.of_mem_zip hp).1, hx _ (List.of_mem_zip hp).2⟩) (by omega) (Bd.zero _ _)
  have zz : zipK (.tuple (f.bars.map barD)) (rowD xs) = some ((f.bars.zip xs).map fun p => .tuple [barD p.1, qD p.2]) := by
    show some (zipD _ (xs.map qD)) = _
    rw [zipD_map]
  have rt : (0 : Rat) + ((f.bars.zip xs).map fun p => (resS p.1 p.2).getD 0).sum = barsSum f xs := by unfold barsSum; grind
  have bo : ((f.bars.zip xs).all fun p => !(resS p.1 p.2).isNone) = barsOk f xs := rfl
  rw [rt, bo] at lp
  refine ⟨?_, (sum_bd (fun p : Bar × Rat => (resS p.1 p.2).getD 0) (f.bars.zip xs) fun p hp => ?_).mono (Nat.mul_le_mul_right _ lz) (Nat.dvd_refl _)⟩
  · rw [callN_at (hS.h (i := 75) rfl)]
    generalize (f.bars.zip xs).map (fun (p : Bar × Rat) => PyData.tuple [barD p.1, qD p.2]) = Y at *
    cases z : barsOk f xs with
    | true =>
      have l1 := lp.1 z
      simp [semF, runF, b_price_of_bars, fr3, zz, q0_lit, l1]
    | false =>
      obtain ⟨σ, l2⟩ := lp.2 z
      simp [semF, runF, b_price_of_bars, fr3, zz, q0_lit, l2]
  · cases z : resS p.1 p.2 with
    | none => exact Bd.zero _ _
    | some q => exact bar_term hl (List.of_mem_zip hp).1 (hx _ (List.of_mem_zip hp).2) z
theorem gt0' (s : Rat) : ((0 : Int) < s.num) ↔ 0 < s := num_pos
theorem pats_loop (hS : HS T) (hw : 4000 ≤ w) {ms : List V2} (bm : ∀ m ∈ ms, BuV m) {s0 s1 : SV} : ∀ (ps : List (Rat × Pat)) (n : Nat) (t : Rat), (∀ p ∈ ps, Bu p.1 ∧ (∀ v ∈ p.2.ls, BuV v) ∧ p.2.ls.length ≤ 40 ∧ Bu p.2.most) → n + ps.length ≤ 399 → Bd (n * TM) PD t →
    forL (gTp 2 (gC (gNm 4) (gC (gNm 5) gN))) (sSeq (sAsg 6 (cCall (callN w T (k + 4)) 15 (cACons (cVE 4) (cACons (cCall (callN w T (k + 4)) 28 (cACons (cVIx 5 (cD (cK (.int 0)))) (cACons (cVE 2) cANil))) cANil))))
    (sIf (cCmp pyGt (cD (cVIx 6 (cD (cK (.int 0))))) (cD (cK (.int 0))))
      (sAsg 3 (cCall (callN w T (k + 4)) 13 (cACons (cVE 3) (cACons (cCall (callN w T (k + 4)) 16 (cACons (cVIx 5 (cD (cK (.int 1)))) (cACons (cVE 6) cANil))) cANil))))
      sPass)) (ps.map fun p => .tuple [qD p.1, patD p.2]) [some s0, some s1, some (.fz (lsD ms)), some (.fz (qD t)), none, none, none] g = .ok .nx [some s0, some s1, some (.fz (lsD ms)), some (.fz (qD (t + (ps.map fun p => patTerm ms p.1 p.2).sum))), none, none, none] g
  | [], n, t, _, _, _ => by simp [forL, Rat.add_zero]
  | p :: r, n, t, hp, hn, ht => by
    obtain ⟨h1, h2, h3, h4⟩ := hp p List.mem_cons_self
    rw [List.length_cons] at hn
    have wk := wkU h2 (by omega)
    have wf := wk.fit bm
    have e1 := work_of_ok (w := w) (k := k) (g := g) hS.l hw wk.bl bm sU sU wk.hs wk.n
    have e2 := less_ok (w := w) (k := k) (g := g) hS.l hw (h1.fit sU) wf
    have fd : Fit (p.1 - workR p.2.ls ms) := (beyond_bd h1 h2 bm h3).fit ⟨by decide, by decide +kernel, by decide +kernel⟩
    have e3 := times_ok (w := w) (k := k + 1) (g := g) hS.l hw (h4.fit sU) fd
    have bp := pat_prod h1 h2 bm h3 h4
    have e4 := added_ok (w := w) (k := k + 1) (g := g) hS.l hw (ht.fit (sT (by omega))) ((bp.mono (Nat.le_of_eq (Nat.one_mul TM).symm) (Nat.dvd_refl _)).fit (sT (by omega)))
    have bt : Bd ((n + 1) * TM) PD (t + patTerm ms p.1 p.2) := by
      have := ht.add (pat_term h1 h2 bm h3 h4)
      rw [← Nat.succ_mul] at this
      exact this
    have ih := pats_loop hS hw bm (s0 := s0) (s1 := s1) r (n + 1) (t + patTerm ms p.1 p.2) (fun c hc => hp c (List.mem_cons_of_mem _ hc)) (by omega) bt
    have e0 : t + ((p :: r).map fun p => patTerm ms p.1 p.2).sum = t + patTerm ms p.1 p.2 + (r.map fun p => patTerm ms p.1 p.2).sum := by
      rw [List.map_cons, List.sum_cons]; grind
    rw [e0, ← ih, List.map_cons]
    have np := gt0' (p.1 - workR p.2.ls ms)
    by_cases z : 0 < p.1 - workR p.2.ls ms
    · have pt : patTerm ms p.1 p.2 = p.2.most * (p.1 - workR p.2.ls ms) := if_pos z
      rw [pt]
      have zn := np.mpr z
      generalize p.1 - workR p.2.ls ms = X at *
      simp [forL, pa0, pa1, e1, e2, e3, e4, qix0, zn]
    · have pt : t + patTerm ms p.1 p.2 = t := by
        have : patTerm ms p.1 p.2 = 0 := if_neg z
        rw [this]; grind
      rw [pt]
      have zn : ¬ (0 : Int) < (p.1 - workR p.2.ls ms).num := fun y => z (np.mp y)
      generalize p.1 - workR p.2.ls ms = X at *
      simp [forL, pa0, pa1, e1, e2, qix0, zn]
theorem price_of_patterns_ok (hS : HS T) (hw : 4000 ≤ w) {s : Site} (h : SiOk s) {tp tb : List Rat} {ms : List V2} (bm : ∀ m ∈ ms, BuV m) (bt : ∀ x ∈ tp, Bu x) :
    callN w T (k + 5) 76 [.fz (siD s), .fz (stD ⟨tp, tb⟩), .fz (lsD ms)] g = .ok (.fz (qD (patSum s.ps ms tp))) g ∧ Bd (20 * TM) PD (patSum s.ps ms tp) := by
  have np := h.np
  have nj := h.nj
  have lz : (tp.zip s.ps).length ≤ 20 := by rw [List.length_zip]; omega
  have hp : ∀ p ∈ tp.zip s.ps, Bu p.1 ∧ (∀ v ∈ p.2.ls, BuV v) ∧ p.2.ls.length ≤ 40 ∧ Bu p.2.most := fun p hp => by
    obtain ⟨q1, q2, q3⟩ := h.pl _ (List.of_mem_zip hp).2
    exact ⟨bt _ (List.of_mem_zip hp).1, q2, by omega, q3⟩
  have lp := pats_loop (w := w) (k := k) (g := g) hS hw bm (s0 := .fz (siD s)) (s1 := .fz (stD ⟨tp, tb⟩)) (tp.zip s.ps) 0 0 hp (by omega) (Bd.zero _ _)
  have zz : zipK (rowD tp) (.tuple (s.ps.map patD)) = some ((tp.zip s.ps).map fun p => .tuple [qD p.1, patD p.2]) := by
    show some (zipD (tp.map qD) _) = _
    rw [zipD_map]
  have rt : (0 : Rat) + ((tp.zip s.ps).map fun p => patTerm ms p.1 p.2).sum = patSum s.ps ms tp := by unfold patSum; grind
  rw [rt] at lp
  refine ⟨?_, (sum_bd (fun p : Rat × Pat => patTerm ms p.1 p.2) (tp.zip s.ps) fun p hp' => ?_).mono (Nat.mul_le_mul_right _ lz) (Nat.dvd_refl _)⟩
  · have st0' := st0 ⟨tp, tb⟩
    simp only at st0'
    rw [callN_at (hS.h (i := 76) rfl)]
    generalize (tp.zip s.ps).map (fun (p : Rat × Pat) => PyData.tuple [qD p.1, patD p.2]) = Y at *
    simp [semF, runF, b_price_of_patterns, st0', si2, zz, q0_lit, lp]
  · obtain ⟨q1, q2, q3, q4⟩ := hp p hp'
    exact pat_term q1 q2 bm q3 q4
end
end
end FD
/-! FDS3: price_of, shows_strange. -/
namespace FD
noncomputable section
open PySem
def zerosR (n : Nat) : List Rat := List.replicate n 0
@[simp] theorem zerosR_len (n : Nat) : (zerosR n).length = n := List.length_replicate
theorem zerosR_bu {n : Nat} : ∀ x ∈ zerosR n, Bu x := fun x hx => by
  unfold zerosR at hx
  rw [(List.mem_replicate.mp hx).2]
  exact Bd.zero _ _
theorem cmp_lt (r s : Rat) : decide ((if r < s then (-1 : Int) else if s < r then 1 else 0) < 0) = decide (r < s) := by
  by_cases a : r < s
  · rw [if_pos a, decide_eq_true a]; rfl
  · rw [if_neg a, decide_eq_false a]
    by_cases b : s < r
    · rw [if_pos b]; rfl
    · rw [if_neg b]; rfl
theorem priceR_bd {s : Site} (h : SiOk s) {tp tb pulls : List Rat} {ms : List V2} (hm : ms.length = s.f.joints.length) (bm : ∀ m ∈ ms, BuV m) (bt : ∀ x ∈ tb, Bu x) (btp : ∀ x ∈ tp, Bu x) (ht : tb.length = s.f.bars.length) (bp : ∀ x ∈ pulls, Bu x) {p : Rat} (hp : priceR s tp tb pulls ms = some p) : Bd (101 * TM) PD p := by
  unfold priceR at hp
  split at hp
  · injection hp with hp
    have a := asked_bd h hm bm bt ht bp
    have nb := h.nb
    have ng := h.ng
    have nj := h.nj
    have np := h.np
    have lb := h.lb
    have b1 : Bd (40 * TM) PD (barsSum s.f (askedR s tb pulls ms)) := (sum_bd (fun p : Bar × Rat => (resS p.1 p.2).getD 0) (s.f.bars.zip (askedR s tb pulls ms)) fun p hp => by
      cases z : resS p.1 p.2 with
      | none => exact Bd.zero _ _
      | some q => exact bar_term h.lim (List.of_mem_zip hp).1 (a _ (List.of_mem_zip hp).2) z).mono (Nat.mul_le_mul_right _ (by rw [List.length_zip]; omega)) (Nat.dvd_refl _)
    have b2 : Bd (40 * TM) PD (gauSum s.gs pulls) := (sum_bd (fun p : Rat × Gau => absR p.1 * p.2.e) (pulls.zip s.gs) fun p hp => gau_term (bp _ (List.of_mem_zip hp).1) (h.gb _ (List.of_mem_zip hp).2).2.1).mono (Nat.mul_le_mul_right _ (by rw [List.length_zip]; omega)) (Nat.dvd_refl _)
    have b3 : Bd (20 * TM) PD (patSum s.ps ms tp) := (sum_bd (fun p : Rat × Pat => patTerm ms p.1 p.2) (tp.zip s.ps) fun p hp => by
      obtain ⟨q1, q2, q3⟩ := h.pl _ (List.of_mem_zip hp).2
      exact pat_term (btp _ (List.of_mem_zip hp).1) q2 bm (by omega) q3).mono (Nat.mul_le_mul_right _ (by rw [List.length_zip]; omega)) (Nat.dvd_refl _)
    have b4 : Bd TM PD (workR s.base ms) := work_term h.bb bm (by omega)
    rw [← hp]
    refine (((b1.add b2).add b3).sub b4).mono ?_ (Nat.dvd_refl _)
    omega
  · cases hp
section
variable {w k : Nat} {T : List Fn} {g : G}
theorem size_ok (hS : HS T) {t : Rat} : callN w T (k + 1) 62 [.fz (qD t)] g = .ok (.fz (qD (absR t))) g := by
  rw [callN_at (hS.h (i := 62) rfl)]
  have aq := absQ t
  have sq : pyAbs (.int t.num) = _ := absI _
  simp only [semF, runF, b_size, sRet, cTup, cCons, cNil, c1, cD, cVIx, c2, cVP, cK, startS]
  simp [qix0, qix1, sq, aq]
theorem gaus_loop (hS : HS T) (hw : 4000 ≤ w) {s0 s1 s2 s3 : SV} : ∀ (ps : List (Rat × Gau)) (n : Nat) (t : Rat), (∀ p ∈ ps, Bu p.1 ∧ Bu p.2.e) → n + ps.length ≤ 399 → Bd (n * TM) PD t →
    forL (gTp 2 (gC (gNm 5) (gC (gNm 6) gN))) (sAsg 4 (cCall (callN w T (k + 3)) 13 (cACons (cVE 4) (cACons (cCall (callN w T (k + 3)) 16 (cACons (cCall (callN w T (k + 3)) 62 (cACons (cVE 5) cANil)) (cACons (cVIx 6 (cD (cK (.int 1)))) cANil))) cANil)))) (ps.map fun p => .tuple [qD p.1, gauD p.2]) [some s0, some s1, some s2, some s3, some (.fz (qD t)), none, none] g
      = .ok .nx [some s0, some s1, some s2, some s3, some (.fz (qD (t + (ps.map fun p => absR p.1 * p.2.e).sum))), none, none] g
  | [], n, t, _, _, _ => by simp [forL, Rat.add_zero]
  | p :: r, n, t, hp, hn, ht => by
    obtain ⟨h1, h2⟩ := hp p List.mem_cons_self
    rw [List.length_cons] at hn
    have e1 := size_ok (w := w) (k := k + 2) (g := g) hS (t := p.1)
    have e2 := times_ok (w := w) (k := k) (g := g) hS.l hw (h1.abs.fit sU) (h2.fit sU)
    have bp := gau_term h1 h2
    have e3 := added_ok (w := w) (k := k) (g := g) hS.l hw (ht.fit (sT (by omega))) ((bp.mono (Nat.le_of_eq (Nat.one_mul TM).symm) (Nat.dvd_refl _)).fit (sT (by omega)))
    have bt : Bd ((n + 1) * TM) PD (t + absR p.1 * p.2.e) := by
      have := ht.add bp
      rw [← Nat.succ_mul] at this
      exact this
    have ih := gaus_loop hS hw (s0 := s0) (s1 := s1) (s2 := s2) (s3 := s3) r (n + 1) (t + absR p.1 * p.2.e) (fun c hc => hp c (List.mem_cons_of_mem _ hc)) (by omega) bt
    have e0 : t + ((p :: r).map fun p => absR p.1 * p.2.e).sum = t + absR p.1 * p.2.e + (r.map fun p => absR p.1 * p.2.e).sum := by
      rw [List.map_cons, List.sum_cons]; grind
    rw [e0, ← ih, List.map_cons]
    simp [forL, ga1, e1, e2, e3]
theorem price_of_ok (hS : HS T) (hw : 4000 ≤ w) {s : Site} (h : SiOk s) {tp tb pulls : List Rat} {ms : List V2} (hm : ms.length = s.f.joints.length) (bm : ∀ m ∈ ms, BuV m) (bt : ∀ x ∈ tb, Bu x) (btp : ∀ x ∈ tp, Bu x) (ht : tb.length = s.f.bars.length) (bp : ∀ x ∈ pulls, Bu x) :
    callN w T (k + 9) 77 [.fz (siD s), .fz (stD ⟨tp, tb⟩), .fz (rowD pulls), .fz (lsD ms)] g = .ok (.fz (oqD (priceR s tp tb pulls ms))) g := by
  have mo := h.mo hm bm
  have ng := h.ng
  have nj := h.nj
  have lb := h.lb
  have e1 := hinders_ok (w := w) (k := k + 3) (g := g) hS hw mo
  have e2 := asked_ok (w := w) (k := k) (g := g) hS hw h (tp := tp) hm bm bt ht bp
  obtain ⟨e3, b3⟩ := price_of_bars_ok (w := w) (k := k + 3) (g := g) hS hw h.lim h.nb (asked_bd h hm bm bt ht bp)
  obtain ⟨e4, b4⟩ := price_of_patterns_ok (w := w) (k := k + 3) (g := g) hS hw h (tb := tb) bm btp
  have lz : (pulls.zip s.gs).length ≤ 40 := by rw [List.length_zip]; omega
  have lp := gaus_loop (w := w) (k := k + 5) (g := g) hS hw (s0 := .fz (siD s)) (s1 := .fz (stD ⟨tp, tb⟩)) (s2 := .fz (rowD pulls)) (s3 := .fz (lsD ms)) (pulls.zip s.gs) 40 (barsSum s.f (askedR s tb pulls ms)) (fun p hp => ⟨bp _ (List.of_mem_zip hp).1, (h.gb _ (List.of_mem_zip hp).2).2.1⟩) (by omega) b3
  have gsm : ((pulls.zip s.gs).map fun p => absR p.1 * p.2.e).sum = gauSum s.gs pulls := rfl
  rw [gsm] at lp
  have b2 : Bd (40 * TM) PD (gauSum s.gs pulls) := (sum_bd (fun p : Rat × Gau => absR p.1 * p.2.e) (pulls.zip s.gs) fun p hp => gau_term (bp _ (List.of_mem_zip hp).1) (h.gb _ (List.of_mem_zip hp).2).2.1).mono (Nat.mul_le_mul_right _ lz) (Nat.dvd_refl _)
  have zz : zipK (rowD pulls) (.tuple (s.gs.map gauD)) = some ((pulls.zip s.gs).map fun p => .tuple [qD p.1, gauD p.2]) := by
    show some (zipD (pulls.map qD) _) = _
    rw [zipD_map]
  have wk := wkU h.bb (by omega)
  have e5 := work_of_ok (w := w) (k := k + 4) (g := g) hS.l hw wk.bl bm sU sU wk.hs wk.n
  have b12 : Bd (80 * TM) PD (barsSum s.f (askedR s tb pulls ms) + gauSum s.gs pulls) := (b3.add b2).mono (by omega) (Nat.dvd_refl _)
  have b123 : Bd (100 * TM) PD (barsSum s.f (askedR s tb pulls ms) + gauSum s.gs pulls + patSum s.ps ms tp) := (b12.add b4).mono (by omega) (Nat.dvd_refl _)
  have e6 := added_ok (w := w) (k := k + 5) (g := g) hS.l hw (b12.fit (sT (by omega))) (b4.fit (sT (by omega)))
  have e7 := less_ok (w := w) (k := k + 4) (g := g) hS.l hw (b123.fit (sT (by omega))) (wk.fit bm)
  rw [callN_at (hS.h (i := 77) rfl)]
  unfold priceR
  generalize (pulls.zip s.gs).map (fun (p : Rat × Gau) => PyData.tuple [qD p.1, gauD p.2]) = Y at *
  cases z1 : footFree s.f ms with
  | false =>
    rw [z1] at e1
    simp [semF, runF, b_price_of, si0, e1]
  | true =>
    rw [z1] at e1
    cases z2 : barsOk s.f (askedR s tb pulls ms) with
    | false =>
      rw [z2] at e3
      simp only [Bool.false_eq_true, if_false, oq_none] at e3
      simp [semF, runF, b_price_of, si0, e1, e2, e3]
    | true =>
      rw [z2] at e3
      simp only [if_true, oq_some] at e3
      simp [semF, runF, b_price_of, si0, si1, si3, e1, e2, e3, zz, lp, e4, e5, e6, e7]
theorem are_pulls_ok (hS : HS T) (hw : 4000 ≤ w) {s : Site} (h : SiOk s) {pulls : List Rat} {ms : List V2} (hm : ms.length = s.f.joints.length) (bm : ∀ m ∈ ms, BuV m) (hp : pulls.length = s.gs.length) (bp : ∀ x ∈ pulls, Bu x) :
    callN w T (k + 4) 78 [.fz (siD s), .fz (rowD pulls), .fz (lsD ms)] g = .ok (.fz (.bool true)) g := by
  have ng := h.ng
  have nj := h.nj
  have e1 := is_row_row (w := w) (k := k + 1) (g := g) (xs := pulls) hS.l hw (fun x hx => (bp x hx).fit sU) (by omega) (s.gs.length : Int)
  rw [decide_eq_true (by omega)] at e1
  have e2 := are_loads_ok (w := w) (k := k) (g := g) (f := s.f) hS.l hw (fun m hm' => (bm m hm').fit sU) (by omega)
  rw [decide_eq_true (by omega)] at e2
  rw [callN_at (hS.h (i := 78) rfl)]
  simp [cOfB, semF, runF, b_are_pulls, si0, si3, e1, e2]
theorem no_target_ok (hS : HS T) {s : Site} (h : SiOk s) : callN w T (k + 2) 63 [.fz (siD s)] g = .ok (.fz (stD ⟨zerosR s.ps.length, zerosR s.f.bars.length⟩)) g := by
  have np := h.np
  have nb := h.nb
  have e1 := noughts_ok (w := w) (k := k) (g := g) (n := s.ps.length) hS.l (by omega)
  have e2 := noughts_ok (w := w) (k := k) (g := g) (n := s.f.bars.length) hS.l (by omega)
  have z1 : List.replicate s.ps.length (0 : Rat) = zerosR s.ps.length := rfl
  have z2 : List.replicate s.f.bars.length (0 : Rat) = zerosR s.f.bars.length := rfl
  rw [z1] at e1
  rw [z2] at e2
  have e : PyData.tuple [rowD (zerosR s.ps.length), rowD (zerosR s.f.bars.length)] = stD ⟨zerosR s.ps.length, zerosR s.f.bars.length⟩ := rfl
  rw [callN_at (hS.h (i := 63) rfl)]
  simp [semF, runF, b_no_target, si0, si2, fr3, e1, e2, e]
def strangeB (s : Site) (rd pulls : List Rat) (ms : List V2) : Bool := (priceR s (zerosR s.ps.length) (zerosR s.f.bars.length) pulls ms).any fun p => decide (p < dotR pulls rd)
theorem shows_strange_ok (hS : HS T) (hw : 4000 ≤ w) {s : Site} (h : SiOk s) {rd pulls : List Rat} {ms : List V2} (hm : ms.length = s.f.joints.length) (bm : ∀ m ∈ ms, BuV m) (hp : pulls.length = s.gs.length) (bp : ∀ x ∈ pulls, Bu x) {R r : Nat} (br : ∀ x ∈ rd, Bd R r x) (sR : Sml R r) (hd : (pulls.length * (AU * R) + 1) * (DU * r) ^ pulls.length < 2 ^ 1800) (fd : Fit (dotR pulls rd)) :
    callN w T (k + 10) 79 [.fz (siD s), .fz (rowD rd), .fz (rowD pulls), .fz (lsD ms)] g = .ok (.fz (.bool (strangeB s rd pulls ms))) g := by
  have e1 := are_pulls_ok (w := w) (k := k + 5) (g := g) hS hw h hm bm hp bp
  have e2 := no_target_ok (w := w) (k := k + 7) (g := g) hS h
  have e3 := price_of_ok (w := w) (k := k) (g := g) hS hw h (tp := zerosR s.ps.length) hm bm (tb := zerosR s.f.bars.length) zerosR_bu zerosR_bu (zerosR_len _) bp
  have e4 := dot_ok (w := w) (k := k + 6) (g := g) hS.l hw (xs := pulls) (ys := rd) bp br sU sR hd
  rw [callN_at (hS.h (i := 79) rfl)]
  unfold strangeB
  have pb := fun p (hp' : priceR s (zerosR s.ps.length) (zerosR s.f.bars.length) pulls ms = some p) => priceR_bd h hm bm zerosR_bu zerosR_bu (zerosR_len _) bp hp'
  cases z : priceR s (zerosR s.ps.length) (zerosR s.f.bars.length) pulls ms with
  | none =>
    rw [z, oq_none] at e3
    simp [semF, runF, b_shows_strange, e1, e2, e3]
  | some p =>
    rw [z, oq_some] at e3
    have e5 := compare_ok (w := w) (k := k + 8) (g := g) hS.l ((pb p z).fit (sT (by omega))) fd
    have cl := cmp_lt p (dotR pulls rd)
    simp [semF, runF, b_shows_strange, e1, e2, e3, e4, e5]
    simpa using cl
end
end
end FD
/-! FDS4: the law's own prices. -/
namespace FD
noncomputable section
open PySem
theorem absR_size (r : Rat) : (if r < 0 then -r else r) = absR r := by
  unfold absR
  by_cases a : r < 0
  · rw [if_pos a, if_neg (by grind)]
  · rw [if_neg a]
    by_cases b : 0 < r
    · rw [if_pos b]
    · rw [if_neg b]; grind
theorem gauGet {s : Site} {i : Nat} (h : i < s.gs.length) : pyIx (.tuple (s.gs.map gauD)) (.int i) = some (.fz (gauD s.gs[i])) := ixU rfl (by rw [List.getElem?_map, List.getElem?_eq_getElem h]; rfl)
theorem patGet {s : Site} {i : Nat} (h : i < s.ps.length) : pyIx (.tuple (s.ps.map patD)) (.int i) = some (.fz (patD s.ps[i])) := ixU rfl (by rw [List.getElem?_map, List.getElem?_eq_getElem h]; rfl)
theorem getD_get {l : List Rat} {i : Nat} (h : i < l.length) : l.getD i 0 = l[i] := by simp [h]
section
variable {w k : Nat} {T : List Fn} {g : G}
theorem lsize_ok (hL : HL T) {r : Rat} : callN w T (k + 1) 10 [.fz (qD r)] g = .ok (.fz (qD (absR r))) g := by
  have := law_size_ok (w := w) (k := k) (g := g) (r := r) hL
  rw [absR_size] at this
  exact this
theorem lask_loop (hS : HS T) {s : Site} {pulls : List Rat} {s1 s3 : SV} (hp : pulls.length = s.gs.length) (bp : ∀ x ∈ pulls, Bu x) (hb : ∀ x ∈ s.gs, x.b < s.f.bars.length) : ∀ (n i : Nat) (l : List Rat) (N : Nat), i + n = s.gs.length → l.length = s.f.bars.length → (∀ x ∈ l, Bd N (DU * DU) x) → N + n * AU ≤ QB →
    forL (gNm 5) (sSetIx 4 (cD (c2 pyIx (cD (c2 pyIx (cD (cVIx 0 (cD (cK (.int 3))))) (cVP 5))) (cD (cK (.int 0))))) (cD (cCall (callN w T (k + 2)) 5 (cACons (cVIx 4 (cD (c2 pyIx (cD (c2 pyIx (cD (cVIx 0 (cD (cK (.int 3))))) (cVP 5))) (cD (cK (.int 0)))))) (cACons (cVIx 2 (cVP 5)) cANil))))) ((List.range' i n).map fun (j : Nat) => PyData.int j) [some (.fz (siD s)), some s1, some (.fz (rowD pulls)), some s3, some (.ow (l.map qD)), none, none] g
      = .ok .nx [some (.fz (siD s)), some s1, some (.fz (rowD pulls)), some s3, some (.ow ((askL l ((s.gs.drop i).zip (pulls.drop i))).map qD)), none, none] g := by
  intro n
  induction n with
  | zero =>
    intro i l N hi hl h hN
    rw [List.drop_of_length_le (l := s.gs) (by omega), List.zip_nil_left]
    rfl
  | succ n ih =>
    intro i l N hi hl h hN
    rw [Nat.succ_mul] at hN
    have l1 : i < s.gs.length := by omega
    have l2 : i < pulls.length := by omega
    have bi := hb _ (List.getElem_mem l1)
    have b0 := h _ (getD_mem (l := l) (i := s.gs[i].b) (by omega))
    have bq := bp _ (List.getElem_mem l2)
    have b1 := b0.add (bu_up (d := 0) bq)
    have ih1 := ih (i + 1) (l.set s.gs[i].b (l.getD s.gs[i].b 0 + pulls[i])) (N + AU) (by omega) (by rw [List.length_set]; exact hl) (fun y hy => by
      rcases List.mem_or_eq_of_mem_set hy with h2 | rfl
      · exact (h y h2).mono (Nat.le_add_right _ _) (Nat.dvd_refl _)
      · exact b1) (by omega)
    have gx := qGetL (l := l) (i := s.gs[i].b) (by omega)
    have pg := rowGet (xs := pulls) l2
    have gg := gauGet (s := s) l1
    have a := law_plus_ok (w := w) (k := k) (g := g) hS.l ((b0.mono (show N ≤ QB by omega) (Nat.dvd_refl _)).fit sQB) (bq.fit sU)
    have st := setQ (l := l) (i := s.gs[i].b) (l.getD s.gs[i].b 0 + pulls[i]) (by omega)
    rw [zip_drop_cons l1 l2, List.range'_succ, List.map_cons]
    have e : askL l ((s.gs[i], pulls[i]) :: (s.gs.drop (i + 1)).zip (pulls.drop (i + 1))) = askL (l.set s.gs[i].b (l.getD s.gs[i].b 0 + pulls[i])) ((s.gs.drop (i + 1)).zip (pulls.drop (i + 1))) := rfl
    rw [e, ← ih1]
    generalize l.getD s.gs[i].b 0 = X at *
    generalize hL2 : l.map qD = L at *
    simp [-List.map_set, forL, si3, gg, ga0, gx, pg, a, st]
theorem law_asked_ok (hS : HS T) {s : Site} (h : SiOk s) {tp tb pulls : List Rat} {ms : List V2} (hm : ms.length = s.f.joints.length) (bm : ∀ m ∈ ms, BuV m) (bt : ∀ x ∈ tb, Bu x) (ht : tb.length = s.f.bars.length) (hp : pulls.length = s.gs.length) (bp : ∀ x ∈ pulls, Bu x) :
    callN w T (k + 5) 80 [.fz (siD s), .fz (stD ⟨tp, tb⟩), .fz (rowD pulls), .fz (lsD ms)] g = .ok (.ow ((askedR s tb pulls ms).map qD)) g := by
  have mo := h.mo hm bm
  have nb := h.nb
  have ng := h.ng
  have st1' := st1 ⟨tp, tb⟩
  simp only at st1'
  have cm := compL_img (tg := gNm 6) (f := cD (cCall (callN w T (k + 4)) 5 (cACons (c2 pyIx (cD (cVIx 1 (cD (cK (.int 1))))) (cVP 6)) (cACons (cCall (callN w T (k + 4)) 53 (cACons (cVIx 0 (cD (cK (.int 0)))) (cACons (c2 pyIx (cD (c2 pyIx (cD (cVIx 0 (cD (cK (.int 0))))) (cD (cK (.int 3))))) (cVP 6)) (cACons (cVE 3) cANil)))) cANil)))) (vs := [6]) (σ := [some (.fz (siD s)), some (.fz (stD ⟨tp, tb⟩)), some (.fz (rowD pulls)), some (.fz (lsD ms)), none, none, none]) (g := g) (fun (j : Nat) => PyData.int j) (fun j => qD (tb.getD j 0 + (s.f.stretches ms).getD j 0)) (List.range s.f.bars.length) [] (fun j hj => by
    rw [List.mem_range] at hj
    have lj : j < tb.length := by omega
    have ls : j < (s.f.stretches ms).length := by rw [stretches_len]; exact hj
    have bg := barGet (f := s.f) hj
    have rg := rowGet (xs := tb) lj
    have hb := List.getElem_mem hj
    have e1 := law_stretch_ok (w := w) (k := k) (g := g) hS.l hb h.fr hm bm mo.s1 mo.s2 mo.hq
    have e2 := law_plus_ok (w := w) (k := k + 2) (g := g) hS.l ((bt _ (List.getElem_mem lj)).fit sU) (mo.fs hb)
    have se : (s.f.stretches ms)[j] = s.f.stretch ms s.f.bars[j] := List.getElem_map ..
    refine ⟨[some (.fz (siD s)), some (.fz (stD ⟨tp, tb⟩)), some (.fz (rowD pulls)), some (.fz (lsD ms)), none, none, some (.fz (.int j))], [some (.fz (siD s)), some (.fz (stD ⟨tp, tb⟩)), some (.fz (rowD pulls)), some (.fz (lsD ms)), none, none, some (.fz (.int j))], by simp, ?_, by simp⟩
    rw [getD_get lj, getD_get ls, se]
    simp [st1', si0, fr3, bg, rg, e1, e2]) (by simp; omega)
  have ar : (List.range s.f.bars.length).map (fun j => qD (tb.getD j 0 + (s.f.stretches ms).getD j 0)) = (addR tb (s.f.stretches ms)).map qD := by
    refine List.ext_getElem (by simp [addR_len (show tb.length = (s.f.stretches ms).length by rw [stretches_len]; exact ht), ht]) fun i h1 h2 => ?_
    rw [List.length_map, List.length_range] at h1
    rw [List.getElem_map, List.getElem_range, List.getElem_map]
    unfold addR
    rw [List.getElem_map, List.getElem_zip, getD_get (by omega), getD_get (by rw [stretches_len]; exact h1)]
  rw [List.nil_append, ar, ← rngD_nat] at cm
  have lp := lask_loop (w := w) (k := k + 2) (g := g) hS (s := s) (s1 := .fz (stD ⟨tp, tb⟩)) (s3 := .fz (lsD ms)) hp bp (fun x hx => (h.gb x hx).1) s.gs.length 0 (addR tb (s.f.stretches ms)) _ (by omega) (by rw [addR_len (by rw [stretches_len]; exact ht), ht]) (add0_bd h hm bm bt) (qb_le ng)
  rw [List.drop_zero, List.drop_zero, ← List.range_eq_range', ← rngD_nat] at lp
  have fin : askL (addR tb (s.f.stretches ms)) (s.gs.zip pulls) = askedR s tb pulls ms := rfl
  rw [fin] at lp
  have r1 := rng1N (n := s.f.bars.length) (by omega)
  have r2 := rng1N (n := s.gs.length) (by omega)
  rw [callN_at (hS.h (i := 80) rfl)]
  generalize (addR tb (s.f.stretches ms)).map qD = X at *
  generalize (askedR s tb pulls ms).map qD = Z at *
  generalize rngD 0 (s.f.bars.length : Int) = R1 at *
  generalize rngD 0 (s.gs.length : Int) = R2 at *
  simp [semF, runF, cLc, b_law_asked, si0, si3, fr3, r1, r2, cm, lp]
def ftBody (ct : CT) : Ev Fl := (sSeq (sAsg 8 (cCall ct 8 (cACons (cVE 6) (cACons (cVIx 3 (cVP 5)) cANil))))
    (sIf (cOr (cCmp pyLt (cD (cVIx 8 (cD (cK (.int 0))))) (cD (cK (.int 0)))) (cAnd (cCmp pyEq (cVP 7) (cD (cK (.str "both")))) (cCmp pyNe (cD (cVIx 8 (cD (cK (.int 0))))) (cD (cK (.int 0))))))
      (sRet (cK .none))
      sPass))
theorem lfoot_loop (hS : HS T) {f : Frame} {ms : List V2} {A B d e L l : Nat} (h : MoOk f ms A B d e L l) {s0 s1 s2 s4 : SV} : ∀ (fs : List Foot), (∀ t ∈ fs, t ∈ f.feet) →
    ((fs.all fun t => okS t (slipR ms t)) = true → forL (gTp 3 (gC (gNm 5) (gC (gNm 6) (gC (gNm 7) gN)))) (ftBody (callN w T (k + 3))) (fs.map footD) [some s0, some s1, some s2, some (.fz (lsD ms)), some s4, none, none, none, none, none, none, none, none, none, none, none] g = .ok .nx [some s0, some s1, some s2, some (.fz (lsD ms)), some s4, none, none, none, none, none, none, none, none, none, none, none] g) ∧
    ((fs.all fun t => okS t (slipR ms t)) = false → ∃ σ, forL (gTp 3 (gC (gNm 5) (gC (gNm 6) (gC (gNm 7) gN)))) (ftBody (callN w T (k + 3))) (fs.map footD) [some s0, some s1, some s2, some (.fz (lsD ms)), some s4, none, none, none, none, none, none, none, none, none, none, none] g = .ok (.rt (.fz .none)) σ g)
  | [], _ => ⟨fun _ => rfl, fun h => by simp at h⟩
  | t :: r, ht => by
    have ih := lfoot_loop hS h (s0 := s0) (s1 := s1) (s2 := s2) (s4 := s4) r fun c hc => ht c (List.mem_cons_of_mem _ hc)
    have hi := h.hf.fi t (ht t List.mem_cons_self)
    have hm := h.hm
    have e1 := law_vdot_ok (w := w) (k := k) (g := g) hS.l (h.hf.wy t (ht t List.mem_cons_self)) (h.bm _ (vAt_mem (l := ms) (i := t.at_) (by omega))) h.sA h.sB h.hq2
    have e2 : t.way.dot (vAt ms t.at_) = slipR ms t := rfl
    rw [e2] at e1
    have i1 := vGetU (l := ms) (i := t.at_) (by omega)
    have be := both_eq t.both
    have l0 := lt0 (slipR ms t)
    have z0 := eq0 (slipR ms t)
    have fd : footD t = .tuple [.int t.at_, vD t.way, .str (if t.both then "both" else "push")] := rfl
    generalize hK : (if t.both = true then ("both" : Str) else "push") = kd at *
    have bd : ftBody (callN w T (k + 3)) [some s0, some s1, some s2, some (.fz (lsD ms)), some s4, some (.fz (.int t.at_)), some (.fz (vD t.way)), some (.fz (.str kd)), none, none, none, none, none, none, none, none] g = if okS t (slipR ms t) = true then .ok .nx [some s0, some s1, some s2, some (.fz (lsD ms)), some s4, some (.fz (.int t.at_)), some (.fz (vD t.way)), some (.fz (.str kd)), some (.fz (qD (slipR ms t))), none, none, none, none, none, none, none] g else .ok (.rt (.fz .none)) [some s0, some s1, some s2, some (.fz (lsD ms)), some s4, some (.fz (.int t.at_)), some (.fz (vD t.way)), some (.fz (.str kd)), some (.fz (qD (slipR ms t))), none, none, none, none, none, none, none] g := by
      unfold okS ftBody
      have n0 := num_neg (r := slipR ms t)
      have n1 := num_zero (r := slipR ms t)
      by_cases z : slipR ms t < 0
      · simp [i1, e1, qix0, n0, z]
      · cases hb : t.both with
        | false =>
          rw [hb] at be
          simp [i1, e1, qix0, n0, z, be]
        | true =>
          rw [hb] at be
          by_cases y : slipR ms t = 0
          · simp [i1, e1, qix0, n0, z, be, n1, y]
          · simp [i1, e1, qix0, n0, z, be, n1, y]
    generalize ftBody (callN w T (k + 3)) = X at *
    rw [List.all_cons, List.map_cons, fd]
    cases hh : okS t (slipR ms t) with
    | true =>
      rw [hh] at bd
      refine ⟨fun h2 => ?_, fun h2 => ?_⟩
      · have j1 := ih.1 (by simpa using h2)
        rw [← j1]
        simp [forL, bd]
      · obtain ⟨σ, j2⟩ := ih.2 (by simpa using h2)
        refine ⟨σ, ?_⟩
        rw [← j2]
        simp [forL, bd]
    | false =>
      rw [hh] at bd
      exact ⟨fun h2 => by simp at h2, fun _ => ⟨_, by simp [forL, bd]; rfl⟩⟩
def brBody (ct : CT) : Ev Fl := (sSeq (sAsg 12 (cIte (cCmp pyGt (cD (c2 pyIx (cD (cVIx 9 (cVP 11))) (cD (cK (.int 0))))) (cD (cK (.int 0)))) (c2 pyIx (cD (c2 pyIx (cD (cVIx 4 (cD (cK (.int 3))))) (cVP 11))) (cD (cK (.int 3)))) (c2 pyIx (cD (c2 pyIx (cD (cVIx 4 (cD (cK (.int 3))))) (cVP 11))) (cD (cK (.int 4))))))
    (sIf (cCmp pyNe (cD (c2 pyIx (cD (cVIx 9 (cVP 11))) (cD (cK (.int 0))))) (cD (cK (.int 0))))
      (sSeq (sIf (cCmp pyIs (cVP 12) (cD (cK .none)))
        (sRet (cK .none))
        sPass)
      (sAsg 10 (cCall ct 5 (cACons (cVE 10) (cACons (cCall ct 7 (cACons (cVE 12) (cACons (cCall ct 10 (cACons (cVIx 9 (cVP 11)) cANil)) cANil))) cANil)))))
      sPass))
theorem lbars_loop (hS : HS T) {f : Frame} (hl : LimOk f AU DU) {xs : List Rat} (hx : ∀ x ∈ xs, Bd QB (DU * DU) x) (lx : xs.length = f.bars.length) {s0 s1 s2 s3 : SV} : ∀ (m i n : Nat) (t : Rat), i + m = f.bars.length → n + m ≤ 399 → Bd (n * TM) PD t →
    ((((f.bars.drop i).zip (xs.drop i)).all fun p => !(resS p.1 p.2).isNone) = true → forL (gNm 11) (brBody (callN w T (k + 2))) ((List.range' i m).map fun (j : Nat) => PyData.int j) [some s0, some s1, some s2, some s3, some (.fz (frD f)), none, none, none, none, some (.ow (xs.map qD)), some (.fz (qD t)), none, none, none, none, none] g = .ok .nx [some s0, some s1, some s2, some s3, some (.fz (frD f)), none, none, none, none, some (.ow (xs.map qD)), some (.fz (qD (t + (((f.bars.drop i).zip (xs.drop i)).map fun p => (resS p.1 p.2).getD 0).sum))), none, none, none, none, none] g) ∧
    ((((f.bars.drop i).zip (xs.drop i)).all fun p => !(resS p.1 p.2).isNone) = false → ∃ σ, forL (gNm 11) (brBody (callN w T (k + 2))) ((List.range' i m).map fun (j : Nat) => PyData.int j) [some s0, some s1, some s2, some s3, some (.fz (frD f)), none, none, none, none, some (.ow (xs.map qD)), some (.fz (qD t)), none, none, none, none, none] g = .ok (.rt (.fz .none)) σ g) := by
  intro m
  induction m with
  | zero =>
    intro i n t hi hn ht
    rw [List.drop_of_length_le (l := f.bars) (by omega), List.zip_nil_left]
    exact ⟨fun _ => by simp [forL, Rat.add_zero], fun h => by simp at h⟩
  | succ m IH =>
    intro i n t hi hn ht
    have l1 : i < f.bars.length := by omega
    have l2 : i < xs.length := by omega
    have hb : f.bars[i] ∈ f.bars := List.getElem_mem l1
    have bx := hx _ (List.getElem_mem l2)
    have bg := barGet (f := f) l1
    have xg := qGetL (l := xs) l2
    rw [getD_get l2] at xg
    rw [zip_drop_cons l1 l2, List.range'_succ, List.map_cons, List.all_cons, List.map_cons, List.sum_cons]
    have b3 := br3 f.bars[i]
    have b4 := br4 f.bars[i]
    have n0 := num_pos (r := xs[i])
    have n1 := num_zero (r := xs[i])
    have sz := lsize_ok (w := w) (k := k + 1) (g := g) (r := xs[i]) hS.l
    have bt' : ∀ p, resS f.bars[i] xs[i] = some p → Bd TM PD p := fun p hp => bar_term hl hb bx hp
    have fl : ∀ p, limS f.bars[i] xs[i] = some p → Fit p := fun p hp => (hl _ hb p (limS_mem hp)).fit sU
    have up : Bd ((n + 1) * TM) PD t := ht.mono (Nat.mul_le_mul_right _ (by omega)) (Nat.dvd_refl _)
    have fx := bx.fit sQB
    have IH1 := fun t bt => IH (i + 1) (n + 1) t (by omega) (by omega) bt
    have bdz : ∀ (o : Option Rat) (t' : Rat), limS f.bars[i] xs[i] = o → (xs[i] = 0 → t' = t) → (xs[i] ≠ 0 → ∀ p, o = some p → t' = t + p * absR xs[i]) → (xs[i] = 0 ∨ o.isSome = true) → brBody (callN w T (k + 2)) [some s0, some s1, some s2, some s3, some (.fz (frD f)), none, none, none, none, some (.ow (xs.map qD)), some (.fz (qD t)), some (.fz (.int i)), none, none, none, none] g = .ok .nx [some s0, some s1, some s2, some s3, some (.fz (frD f)), none, none, none, none, some (.ow (xs.map qD)), some (.fz (qD t')), some (.fz (.int i)), some (.fz (oqD o)), none, none, none] g := fun o t' ho h0 h1 h2 => by
      unfold brBody
      by_cases z : xs[i] = 0
      · rw [h0 z]
        have zn := n1.mpr z
        have zp : ¬ (0 : Int) < xs[i].num := by omega
        unfold limS at ho
        rw [if_neg (by grind)] at ho
        rw [ho] at b4
        simp [xg, qix0, zn, fr3, bg, b4]
      · have zn : ¬ xs[i].num = 0 := fun y => z (n1.mp y)
        rcases h2 with h2 | h2
        · exact absurd h2 z
        · obtain ⟨p, rfl⟩ := Option.isSome_iff_exists.mp h2
          rw [h1 z p rfl]
          have fa : Fit (absR xs[i]) := by unfold absR; split; exact fx; exact fx.neg
          have m1 := law_mult_ok (w := w) (k := k) (g := g) hS.l (fl p ho) fa
          have rs : resS f.bars[i] xs[i] = some (p * absR xs[i]) := by unfold resS; rw [if_neg z, ho]; rfl
          have a1 := law_plus_ok (w := w) (k := k) (g := g) hS.l (ht.fit (sT (by omega))) (((bt' _ rs).mono (Nat.le_of_eq (Nat.one_mul TM).symm) (Nat.dvd_refl _)).fit (sT (by omega)))
          unfold limS at ho
          by_cases y : 0 < xs[i]
          · rw [if_pos y] at ho
            rw [ho, oq_some] at b3
            simp [xg, qix0, n0.mpr y, fr3, bg, b3, zn, sz, m1, a1]
          · rw [if_neg y] at ho
            rw [ho, oq_some] at b4
            have yn : ¬ (0 : Int) < xs[i].num := fun q => y (n0.mp q)
            simp [xg, qix0, yn, fr3, bg, b4, zn, sz, m1, a1]
    have bdn : xs[i] ≠ 0 → limS f.bars[i] xs[i] = none → ∃ σ, brBody (callN w T (k + 2)) [some s0, some s1, some s2, some s3, some (.fz (frD f)), none, none, none, none, some (.ow (xs.map qD)), some (.fz (qD t)), some (.fz (.int i)), none, none, none, none] g = .ok (.rt (.fz .none)) σ g := fun z ho => by
      unfold brBody
      have zn : ¬ xs[i].num = 0 := fun y => z (n1.mp y)
      unfold limS at ho
      by_cases y : 0 < xs[i]
      · rw [if_pos y] at ho
        rw [ho, oq_none] at b3
        exact ⟨_, by simp [xg, qix0, n0.mpr y, fr3, bg, b3, zn]; rfl⟩
      · rw [if_neg y] at ho
        rw [ho, oq_none] at b4
        have yn : ¬ (0 : Int) < xs[i].num := fun q => y (n0.mp q)
        exact ⟨_, by simp [xg, qix0, yn, fr3, bg, b4, zn]; rfl⟩
    generalize brBody (callN w T (k + 2)) = BB at *
    generalize f.bars[i] = b at *
    generalize xs[i] = x at *
    by_cases zs : x = 0
    · have rs : resS b x = some 0 := by unfold resS; rw [if_pos zs]
      have bd := bdz (limS b x) t rfl (fun _ => rfl) (fun h => absurd zs h) (.inl zs)
      have ih := IH1 t up
      rw [rs]
      have e0 : ∀ S : Rat, t + ((some (0 : Rat)).getD 0 + S) = t + S := fun S => by
        show t + (0 + S) = _
        grind
      rw [e0]
      refine ⟨fun h2 => ?_, fun h2 => ?_⟩
      · have j1 := ih.1 (by simpa using h2)
        rw [← j1]
        simp [forL, bd]
      · obtain ⟨σ, j2⟩ := ih.2 (by simpa using h2)
        refine ⟨σ, ?_⟩
        rw [← j2]
        simp [forL, bd]
    · cases hl2 : limS b x with
      | none =>
        have rs : resS b x = none := by unfold resS; rw [if_neg zs, hl2]; rfl
        rw [rs]
        obtain ⟨σ, bd⟩ := bdn zs hl2
        exact ⟨fun h2 => by simp at h2, fun _ => ⟨σ, by simp [forL, bd]⟩⟩
      | some p =>
        have rs : resS b x = some (p * absR x) := by unfold resS; rw [if_neg zs, hl2]; rfl
        have bd := bdz (some p) (t + p * absR x) hl2 (fun h => absurd h zs) (fun _ q hq => by injection hq with hq; rw [hq]) (.inr rfl)
        have bt : Bd ((n + 1) * TM) PD (t + p * absR x) := by
          have := ht.add (bt' _ rs)
          rw [← Nat.succ_mul] at this
          exact this
        have ih := IH1 _ bt
        rw [rs]
        have e0 : ∀ S : Rat, t + ((some (p * absR x)).getD 0 + S) = t + p * absR x + S := fun S => by
          show t + (p * absR x + S) = _
          grind
        rw [e0]
        refine ⟨fun h2 => ?_, fun h2 => ?_⟩
        · have j1 := ih.1 (by simpa using h2)
          rw [← j1]
          simp [forL, bd]
        · obtain ⟨σ, j2⟩ := ih.2 (by simpa using h2)
          refine ⟨σ, ?_⟩
          rw [← j2]
          simp [forL, bd]
end
end
end FD
/-! FDS5: the law's own prices, to their end. -/
namespace FD
noncomputable section
open PySem
def pgBody (ct : CT) : Ev Fl := (sAsg 10 (cCall ct 5 (cACons (cVE 10) (cACons (cCall ct 7 (cACons (c2 pyIx (cD (c2 pyIx (cD (cVIx 0 (cD (cK (.int 3))))) (cVP 13))) (cD (cK (.int 1)))) (cACons (cCall ct 10 (cACons (cVIx 2 (cVP 13)) cANil)) cANil))) cANil))))
def ppBody (ct : CT) : Ev Fl := (sSeq (sAsg 15 (cCall ct 6 (cACons (c2 pyIx (cD (cVIx 1 (cD (cK (.int 0))))) (cVP 14)) (cACons (cCall ct 55 (cACons (c2 pyIx (cD (c2 pyIx (cD (cVIx 0 (cD (cK (.int 2))))) (cVP 14))) (cD (cK (.int 0)))) (cACons (cVE 3) cANil))) cANil))))
    (sIf (cCmp pyGt (cD (cVIx 15 (cD (cK (.int 0))))) (cD (cK (.int 0))))
      (sAsg 10 (cCall ct 5 (cACons (cVE 10) (cACons (cCall ct 7 (cACons (c2 pyIx (cD (c2 pyIx (cD (cVIx 0 (cD (cK (.int 2))))) (cVP 14))) (cD (cK (.int 1)))) (cACons (cVE 15) cANil))) cANil))))
      sPass))
section
variable {w k : Nat} {T : List Fn} {g : G}
theorem lgaus_loop (hS : HS T) {s : Site} (h : SiOk s) {pulls : List Rat} (hp : pulls.length = s.gs.length) (bp : ∀ x ∈ pulls, Bu x) {s1 s3 s4 s9 : SV} : ∀ (m i n : Nat) (t : Rat), i + m = s.gs.length → n + m ≤ 399 → Bd (n * TM) PD t →
    forL (gNm 13) (pgBody (callN w T (k + 2))) ((List.range' i m).map fun (j : Nat) => PyData.int j) [some (.fz (siD s)), some s1, some (.fz (rowD pulls)), some s3, some s4, none, none, none, none, some s9, some (.fz (qD t)), none, none, none, none, none] g
      = .ok .nx [some (.fz (siD s)), some s1, some (.fz (rowD pulls)), some s3, some s4, none, none, none, none, some s9, some (.fz (qD (t + (((pulls.drop i).zip (s.gs.drop i)).map fun p => absR p.1 * p.2.e).sum))), none, none, none, none, none] g := by
  intro m
  induction m with
  | zero =>
    intro i n t hi hn ht
    rw [List.drop_of_length_le (l := s.gs) (by omega), List.zip_nil_right]
    simp [forL, Rat.add_zero]
  | succ m IH =>
    intro i n t hi hn ht
    have l1 : i < s.gs.length := by omega
    have l2 : i < pulls.length := by omega
    have h1 := bp _ (List.getElem_mem l2)
    have h2 := (h.gb _ (List.getElem_mem l1)).2.1
    have gg := gauGet (s := s) l1
    have pg := rowGet (xs := pulls) l2
    have e1 := lsize_ok (w := w) (k := k + 1) (g := g) (r := pulls[i]) hS.l
    have e2 := law_mult_ok (w := w) (k := k) (g := g) hS.l (h2.fit sU) (h1.abs.fit sU)
    rw [Rat.mul_comm] at e2
    have bg := gau_term h1 h2
    have e3 := law_plus_ok (w := w) (k := k) (g := g) hS.l (ht.fit (sT (by omega))) ((bg.mono (Nat.le_of_eq (Nat.one_mul TM).symm) (Nat.dvd_refl _)).fit (sT (by omega)))
    have bt : Bd ((n + 1) * TM) PD (t + absR pulls[i] * s.gs[i].e) := by
      have := ht.add bg
      rw [← Nat.succ_mul] at this
      exact this
    have ih := IH (i + 1) (n + 1) _ (by omega) (by omega) bt
    rw [zip_drop_cons l2 l1, List.range'_succ, List.map_cons, List.map_cons, List.sum_cons]
    have e0 : ∀ S : Rat, t + (absR pulls[i] * s.gs[i].e + S) = t + absR pulls[i] * s.gs[i].e + S := fun S => by grind
    rw [e0, ← ih]
    have bd : pgBody (callN w T (k + 2)) [some (.fz (siD s)), some s1, some (.fz (rowD pulls)), some s3, some s4, none, none, none, none, some s9, some (.fz (qD t)), none, none, some (.fz (.int i)), none, none] g = .ok .nx [some (.fz (siD s)), some s1, some (.fz (rowD pulls)), some s3, some s4, none, none, none, none, some s9, some (.fz (qD (t + absR pulls[i] * s.gs[i].e))), none, none, some (.fz (.int i)), none, none] g := by
      unfold pgBody
      simp [si3, gg, ga1, pg, e1, e2, e3]
    generalize pgBody (callN w T (k + 2)) = BB at *
    simp [forL, bd]
theorem lpats_loop (hS : HS T) {s : Site} (h : SiOk s) {tp tb : List Rat} {ms : List V2} (hm : ms.length = s.f.joints.length) (bm : ∀ m ∈ ms, BuV m) (hp : tp.length = s.ps.length) (bp : ∀ x ∈ tp, Bu x) {s2 s4 s9 : SV} : ∀ (m i n : Nat) (t : Rat), i + m = s.ps.length → n + m ≤ 399 → Bd (n * TM) PD t →
    forL (gNm 14) (ppBody (callN w T (k + 4))) ((List.range' i m).map fun (j : Nat) => PyData.int j) [some (.fz (siD s)), some (.fz (stD ⟨tp, tb⟩)), some s2, some (.fz (lsD ms)), some s4, none, none, none, none, some s9, some (.fz (qD t)), none, none, none, none, none] g
      = .ok .nx [some (.fz (siD s)), some (.fz (stD ⟨tp, tb⟩)), some s2, some (.fz (lsD ms)), some s4, none, none, none, none, some s9, some (.fz (qD (t + (((tp.drop i).zip (s.ps.drop i)).map fun p => patTerm ms p.1 p.2).sum))), none, none, none, none, none] g := by
  intro m
  induction m with
  | zero =>
    intro i n t hi hn ht
    rw [List.drop_of_length_le (l := s.ps) (by omega), List.zip_nil_right]
    simp [forL, Rat.add_zero]
  | succ m IH =>
    intro i n t hi hn ht
    have l1 : i < s.ps.length := by omega
    have l2 : i < tp.length := by omega
    have nj := h.nj
    have h1 := bp _ (List.getElem_mem l2)
    obtain ⟨h2, h3, h4⟩ := h.pl _ (List.getElem_mem l1)
    have gg := patGet (s := s) l1
    have pg := rowGet (xs := tp) l2
    have st0' := st0 ⟨tp, tb⟩
    simp only at st0'
    have wk := wkU h3 (by omega)
    have e1 := law_work_ok (w := w) (k := k) (g := g) hS.l sU sU wk.bl bm (by omega) wk.ll wk.hq wk.n
    have e2 := law_minus_ok (w := w) (k := k + 2) (g := g) hS.l (h1.fit sU) (wk.fit bm)
    have fd : Fit (tp[i] - workR s.ps[i].ls ms) := (beyond_bd h1 h3 bm (by omega)).fit ⟨by decide, by decide +kernel, by decide +kernel⟩
    have e3 := law_mult_ok (w := w) (k := k + 2) (g := g) hS.l (h4.fit sU) fd
    have bq := pat_prod h1 h3 bm (by omega) h4
    have e4 := law_plus_ok (w := w) (k := k + 2) (g := g) hS.l (ht.fit (sT (by omega))) ((bq.mono (Nat.le_of_eq (Nat.one_mul TM).symm) (Nat.dvd_refl _)).fit (sT (by omega)))
    have bt : Bd ((n + 1) * TM) PD (t + patTerm ms tp[i] s.ps[i]) := by
      have := ht.add (pat_term h1 h3 bm (by omega) h4)
      rw [← Nat.succ_mul] at this
      exact this
    have ih := IH (i + 1) (n + 1) _ (by omega) (by omega) bt
    rw [zip_drop_cons l2 l1, List.range'_succ, List.map_cons, List.map_cons, List.sum_cons]
    have e0 : ∀ S : Rat, t + (patTerm ms tp[i] s.ps[i] + S) = t + patTerm ms tp[i] s.ps[i] + S := fun S => by grind
    rw [e0, ← ih]
    have np := num_pos (r := tp[i] - workR s.ps[i].ls ms)
    have bd : ppBody (callN w T (k + 4)) [some (.fz (siD s)), some (.fz (stD ⟨tp, tb⟩)), some s2, some (.fz (lsD ms)), some s4, none, none, none, none, some s9, some (.fz (qD t)), none, none, none, some (.fz (.int i)), none] g = .ok .nx [some (.fz (siD s)), some (.fz (stD ⟨tp, tb⟩)), some s2, some (.fz (lsD ms)), some s4, none, none, none, none, some s9, some (.fz (qD (t + patTerm ms tp[i] s.ps[i]))), none, none, none, some (.fz (.int i)), some (.fz (qD (tp[i] - workR s.ps[i].ls ms)))] g := by
      unfold ppBody patTerm
      by_cases z : 0 < tp[i] - workR s.ps[i].ls ms
      · rw [if_pos z]
        have zn := np.mpr z
        simp [st0', si2, gg, pa0, pa1, pg, e1, e2, qix0, zn, e3, e4]
      · rw [if_neg z]
        have zn : ¬ (0 : Int) < (tp[i] - workR s.ps[i].ls ms).num := fun y => z (np.mp y)
        have t0 : t + 0 = t := by grind
        rw [t0]
        simp [st0', si2, gg, pa0, pa1, pg, e1, e2, qix0, zn]
    generalize ppBody (callN w T (k + 4)) = BB at *
    simp [forL, bd]
theorem b_law_price_cut (ct : CT) (w : Nat) : b_law_price ct w = (sSeq (sAsg 4 (cVIx 0 (cD (cK (.int 0)))))
  (sSeq (sFor (iSeq (cD (cVIx 4 (cD (cK (.int 2)))))) (gTp 3 (gC (gNm 5) (gC (gNm 6) (gC (gNm 7) gN)))) (ftBody ct))
  (sSeq (sAsg 9 (cCall ct 80 (cACons (cVE 0) (cACons (cVE 1) (cACons (cVE 2) (cACons (cVE 3) cANil))))))
  (sSeq (sAsg 10 (cCall ct 6 (cACons (cTup (cCons (cD (cK (.int 0))) (cCons (cD (cK (.int 1))) cNil))) (cACons (cCall ct 55 (cACons (cVIx 0 (cD (cK (.int 1)))) (cACons (cVE 3) cANil))) cANil))))
  (sSeq (sFor (iR1 (cD (c1 pyLen (cD (cVIx 4 (cD (cK (.int 3)))))))) (gNm 11) (brBody ct))
  (sSeq (sFor (iR1 (cD (c1 pyLen (cD (cVIx 0 (cD (cK (.int 3)))))))) (gNm 13) (pgBody ct))
  (sSeq (sFor (iR1 (cD (c1 pyLen (cD (cVIx 0 (cD (cK (.int 2)))))))) (gNm 14) (ppBody ct))
  (sRet (cVR 10))))))))) := rfl
theorem law_price_ok (hS : HS T) {s : Site} (h : SiOk s) {tp tb pulls : List Rat} {ms : List V2} (hm : ms.length = s.f.joints.length) (bm : ∀ m ∈ ms, BuV m) (bt : ∀ x ∈ tb, Bu x) (btp : ∀ x ∈ tp, Bu x) (ht : tb.length = s.f.bars.length) (htp : tp.length = s.ps.length) (hp : pulls.length = s.gs.length) (bp : ∀ x ∈ pulls, Bu x) :
    callN w T (k + 6) 81 [.fz (siD s), .fz (stD ⟨tp, tb⟩), .fz (rowD pulls), .fz (lsD ms)] g = .ok (.fz (oqD (priceR s tp tb pulls ms))) g := by
  have mo := h.mo hm bm
  have nb := h.nb
  have nf := h.nf
  have ng := h.ng
  have np := h.np
  have nj := h.nj
  have lb := h.lb
  have a := asked_bd h hm bm bt ht bp
  have la := asked_len (pulls := pulls) (ms := ms) ht
  have lf := lfoot_loop (w := w) (k := k + 2) (g := g) hS mo (s0 := .fz (siD s)) (s1 := .fz (stD ⟨tp, tb⟩)) (s2 := .fz (rowD pulls)) (s4 := .fz (frD s.f)) s.f.feet (fun t ht => ht)
  have c1 : (s.f.feet.all fun t => okS t (slipR ms t)) = footFree s.f ms := rfl
  rw [c1] at lf
  have e1 := law_asked_ok (w := w) (k := k) (g := g) hS h (tp := tp) hm bm bt ht hp bp
  have wk := wkU h.bb (by omega)
  have e2 := law_work_ok (w := w) (k := k + 1) (g := g) hS.l sU sU wk.bl bm (by omega) wk.ll wk.hq wk.n
  have e3 := law_minus_ok (w := w) (k := k + 3) (g := g) hS.l (show Fit 0 from ⟨by decide, by decide⟩) (wk.fit bm)
  have b0 : Bd (1 * TM) PD (0 - workR s.base ms) := by
    have := (Bd.zero 0 PD).sub (work_term h.bb bm (by omega))
    exact this.mono (by omega) (Nat.dvd_refl _)
  have lp := lbars_loop (w := w) (k := k + 3) (g := g) hS h.lim a la (s0 := .fz (siD s)) (s1 := .fz (stD ⟨tp, tb⟩)) (s2 := .fz (rowD pulls)) (s3 := .fz (lsD ms)) s.f.bars.length 0 1 (0 - workR s.base ms) (by omega) (by omega) b0
  rw [List.drop_zero, List.drop_zero] at lp
  have bo : ((s.f.bars.zip (askedR s tb pulls ms)).all fun p => !(resS p.1 p.2).isNone) = barsOk s.f (askedR s tb pulls ms) := rfl
  have bsm : ((s.f.bars.zip (askedR s tb pulls ms)).map fun p => (resS p.1 p.2).getD 0).sum = barsSum s.f (askedR s tb pulls ms) := rfl
  rw [bo, bsm] at lp
  have b1 : Bd (40 * TM) PD (barsSum s.f (askedR s tb pulls ms)) := (sum_bd (fun p : Bar × Rat => (resS p.1 p.2).getD 0) (s.f.bars.zip (askedR s tb pulls ms)) fun p hp => by
      cases z : resS p.1 p.2 with
      | none => exact Bd.zero _ _
      | some q => exact bar_term h.lim (List.of_mem_zip hp).1 (a _ (List.of_mem_zip hp).2) z).mono (Nat.mul_le_mul_right _ (by rw [List.length_zip]; omega)) (Nat.dvd_refl _)
  have b01 : Bd (41 * TM) PD (0 - workR s.base ms + barsSum s.f (askedR s tb pulls ms)) := (b0.add b1).mono (by omega) (Nat.dvd_refl _)
  have lg := lgaus_loop (w := w) (k := k + 3) (g := g) hS h hp bp (s1 := .fz (stD ⟨tp, tb⟩)) (s3 := .fz (lsD ms)) (s4 := .fz (frD s.f)) (s9 := .ow ((askedR s tb pulls ms).map qD)) s.gs.length 0 41 _ (by omega) (by omega) b01
  rw [List.drop_zero, List.drop_zero] at lg
  have gsm : ((pulls.zip s.gs).map fun p => absR p.1 * p.2.e).sum = gauSum s.gs pulls := rfl
  rw [gsm] at lg
  have b2 : Bd (40 * TM) PD (gauSum s.gs pulls) := (sum_bd (fun p : Rat × Gau => absR p.1 * p.2.e) (pulls.zip s.gs) fun p hp => gau_term (bp _ (List.of_mem_zip hp).1) (h.gb _ (List.of_mem_zip hp).2).2.1).mono (Nat.mul_le_mul_right _ (by rw [List.length_zip]; omega)) (Nat.dvd_refl _)
  have b012 : Bd (81 * TM) PD (0 - workR s.base ms + barsSum s.f (askedR s tb pulls ms) + gauSum s.gs pulls) := (b01.add b2).mono (by omega) (Nat.dvd_refl _)
  have lq := lpats_loop (w := w) (k := k + 1) (g := g) hS h (tb := tb) hm bm htp btp (s2 := .fz (rowD pulls)) (s4 := .fz (frD s.f)) (s9 := .ow ((askedR s tb pulls ms).map qD)) s.ps.length 0 81 _ (by omega) (by omega) b012
  rw [List.drop_zero, List.drop_zero] at lq
  have psm : ((tp.zip s.ps).map fun p => patTerm ms p.1 p.2).sum = patSum s.ps ms tp := rfl
  rw [psm] at lq
  have fin : 0 - workR s.base ms + barsSum s.f (askedR s tb pulls ms) + gauSum s.gs pulls + patSum s.ps ms tp = barsSum s.f (askedR s tb pulls ms) + gauSum s.gs pulls + patSum s.ps ms tp - workR s.base ms := by grind
  rw [fin] at lq
  rw [← List.range_eq_range', ← rngD_nat] at lp lg lq
  have r1 := rng1N (n := s.f.bars.length) (by omega)
  have r2 := rng1N (n := s.gs.length) (by omega)
  have r3 := rng1N (n := s.ps.length) (by omega)
  rw [callN_at (hS.h (i := 81) rfl)]
  simp only [semF, b_law_price_cut]
  unfold priceR
  generalize ftBody (callN w T (k + 5)) = B1 at *
  generalize brBody (callN w T (k + 5)) = B2 at *
  generalize pgBody (callN w T (k + 5)) = B3 at *
  generalize ppBody (callN w T (k + 5)) = B4 at *
  generalize rngD 0 (s.f.bars.length : Int) = R1 at *
  generalize rngD 0 (s.gs.length : Int) = R2 at *
  generalize rngD 0 (s.ps.length : Int) = R3 at *
  generalize (askedR s tb pulls ms).map qD = X at *
  generalize barsSum s.f (askedR s tb pulls ms) = Q1 at *
  cases z1 : footFree s.f ms with
  | false =>
    obtain ⟨σ, q⟩ := lf.2 z1
    simp [runF, si0, fr2, q]
  | true =>
    have q := lf.1 z1
    cases z2 : barsOk s.f (askedR s tb pulls ms) with
    | false =>
      obtain ⟨σ, q2⟩ := lp.2 z2
      simp [runF, si0, si1, fr2, fr3, q, e1, e2, e3, q0_lit, r1, q2]
    | true =>
      have q2 := lp.1 z2
      simp [runF, si0, si1, si2, si3, fr2, fr3, q, e1, e2, e3, q0_lit, r1, q2, r2, lg, r3, lq]
theorem zeros_reps (n : Nat) : reps [qD 0] n = (zerosR n).map qD := by
  have : ∀ m : Nat, (List.replicate m ([qD 0] : List D)).flatten = (List.replicate m (0 : Rat)).map qD := fun m => by
    induction m with
    | zero => rfl
    | succ m ih => rw [List.replicate_succ, List.replicate_succ, List.flatten_cons, ih]; rfl
  exact this n
theorem zeros_mul {n : Nat} (h : n ≤ 10000) : pyMul (.tuple [qD 0]) (.int n) = some (.fz (rowD (zerosR n))) := by
  rw [mulU (n := n) rfl (by omega) (by simp; omega), zeros_reps]
  rfl
theorem law_nothing_ok (hS : HS T) {s : Site} (h : SiOk s) : callN w T (k + 1) 66 [.fz (siD s)] g = .ok (.fz (stD ⟨zerosR s.ps.length, zerosR s.f.bars.length⟩)) g := by
  have np := h.np
  have nb := h.nb
  have m1 := zeros_mul (n := s.ps.length) (by omega)
  have m2 := zeros_mul (n := s.f.bars.length) (by omega)
  have e : PyData.tuple [rowD (zerosR s.ps.length), rowD (zerosR s.f.bars.length)] = stD ⟨zerosR s.ps.length, zerosR s.f.bars.length⟩ := rfl
  rw [callN_at (hS.h (i := 66) rfl)]
  simp [semF, runF, b_law_nothing, si0, si2, fr3, q0_lit, m1, m2, e]
end
end
end FD
/-! FDS6: states that the law draws for sites; loads under factors. -/
namespace FD
noncomputable section
open PySem
theorem mk_mul (z : Int) {n : Nat} (hn : n ≠ 0) : mkRat z n * (n : Rat) = ((z : Int) : Rat) := by
  have nz : (n : Rat) ≠ 0 := fun e => hn (Rat.natCast_eq_zero_iff.mp e)
  rw [Rat.mkRat_eq_div]
  exact Rat.div_mul_cancel nz
theorem mk_le {z : Int} {n : Nat} (hn : 0 < n) {A : Int} (h : z ≤ A * n) : mkRat z n ≤ (A : Rat) := by
  have e := mk_mul z (n := n) (by omega)
  have p : (0 : Rat) < (n : Rat) := by
    have := Rat.natCast_lt_natCast (a := 0) (b := n) |>.mpr hn
    exact this
  have h2 : ((z : Int) : Rat) ≤ (A : Rat) * (n : Rat) := by
    have := Rat.intCast_le_intCast.mpr h
    rw [Rat.intCast_mul] at this
    exact this
  rw [← e] at h2
  refine Decidable.byContradiction fun c => ?_
  have c : (A : Rat) < mkRat z n := Rat.not_le.mp c
  have m := Rat.mul_pos (show 0 < mkRat z n - (A : Rat) by grind) p
  grind
theorem mk_ge {z : Int} {n : Nat} (hn : 0 < n) {A : Int} (h : A * n ≤ z) : (A : Rat) ≤ mkRat z n := by
  have e := mk_mul z (n := n) (by omega)
  have p : (0 : Rat) < (n : Rat) := by
    have := Rat.natCast_lt_natCast (a := 0) (b := n) |>.mpr hn
    exact this
  have h2 : (A : Rat) * (n : Rat) ≤ ((z : Int) : Rat) := by
    have := Rat.intCast_le_intCast.mpr h
    rw [Rat.intCast_mul] at this
    exact this
  rw [← e] at h2
  refine Decidable.byContradiction fun c => ?_
  have c : mkRat z n < (A : Rat) := Rat.not_le.mp c
  have m := Rat.mul_pos (show 0 < (A : Rat) - mkRat z n by grind) p
  grind
theorem bd_mk {A : Nat} {z : Int} {n : Nat} (hn : 0 < n) (h : z.natAbs ≤ A * n) : Bd A n (mkRat z n) := by
  have h0 : ((A * n : Nat) : Int) = (A : Int) * (n : Int) := Int.natCast_mul ..
  have h1 := mk_le (A := (A : Int)) hn (show z ≤ (A : Int) * n by omega)
  have h2 := mk_ge (A := -(A : Int)) hn (show -(A : Int) * n ≤ z by rw [Int.neg_mul]; omega)
  refine ⟨⟨z, mk_mul z (by omega)⟩, ?_, h1⟩
  have : ((-(A : Int) : Int) : Rat) = -(A : Rat) := by rw [Rat.intCast_neg]; rfl
  rw [← this]
  exact h2
def raw (p : Int) (q : Nat) : D := .tuple [.int p, .int q]
theorem raw0 (p : Int) (q : Nat) : pyIx (raw p q) (.int 0) = some (.fz (.int p)) := ixU (n := 0) rfl rfl
theorem raw1 (p : Int) (q : Nat) : pyIx (raw p q) (.int 1) = some (.fz (.int q)) := ixU (n := 1) rfl rfl
/-- what a foot or a bar is given in a state -/
def lowB (b : Bar) : Rat := match b.push with
  | none => -3
  | some p => -p
def highB (b : Bar) : Rat := match b.pull with
  | none => 3
  | some p => p
def dens (b : Bar) (v : Int) : Rat := lowB b + (highB b - lowB b) * mkRat v 4
theorem lowB_bd {b : Bar} (h : BarOk b) : Bd 6 2 (lowB b) ∧ lowB b ≤ 0 := by
  unfold lowB
  cases e : b.push with
  | none => exact ⟨((bd_int (A := 3) (z := -3) (by decide)).mono (by decide) (by decide)), by show (-3 : Rat) ≤ 0; decide⟩
  | some p =>
    obtain ⟨h1, h2⟩ := h.lim p (.inr e)
    exact ⟨h1.neg, by show -p ≤ 0; grind⟩
theorem highB_bd {b : Bar} (h : BarOk b) : Bd 6 2 (highB b) ∧ 0 ≤ highB b := by
  unfold highB
  cases e : b.pull with
  | none => exact ⟨((bd_int (A := 3) (z := 3) (by decide)).mono (by decide) (by decide)), by show (0 : Rat) ≤ 3; decide⟩
  | some p =>
    obtain ⟨h1, h2⟩ := h.lim p (.inl e)
    exact ⟨h1, h2⟩
theorem dens_bd {b : Bar} (h : BarOk b) {v : Int} (h0 : 0 ≤ v) (h4 : v < 5) : Bd 18 8 (dens b v) := by
  have m := ((highB_bd h).1.sub (lowB_bd h).1).mul (bd_mk (A := 1) (z := v) (n := 4) (by decide) (by omega))
  exact ((lowB_bd h).1.mono (Nat.le_refl _) (by decide)).add m
theorem dens_law {b : Bar} (h : BarOk b) {v : Int} (h0 : 0 ≤ v) (h4 : v < 5) : (!overB b.pull (dens b v) && !overB b.push (-(dens b v))) = true := by
  have l := (lowB_bd h).2
  have u := (highB_bd h).2
  have m0 : ((0 : Int) : Rat) ≤ mkRat v 4 := mk_ge (by decide) (by omega)
  have m1 : mkRat v 4 ≤ ((1 : Int) : Rat) := mk_le (by decide) (by omega)
  have z0 : ((0 : Int) : Rat) = 0 := rfl
  have z1 : ((1 : Int) : Rat) = 1 := rfl
  rw [z0] at m0
  rw [z1] at m1
  have p1 := Rat.mul_nonneg (show 0 ≤ highB b - lowB b by grind) m0
  have p2 := Rat.mul_nonneg (show 0 ≤ highB b - lowB b by grind) (show 0 ≤ 1 - mkRat v 4 by grind)
  have lo : lowB b ≤ dens b v := by unfold dens; grind
  have hi : dens b v ≤ highB b := by unfold dens; grind
  have o1 : overB b.pull (dens b v) = false := by
    unfold overB
    cases e : b.pull with
    | none => rfl
    | some p =>
      have : highB b = p := by unfold highB; rw [e]
      rw [this] at hi
      exact decide_eq_false (by grind)
  have o2 : overB b.push (-(dens b v)) = false := by
    unfold overB
    cases e : b.push with
    | none => rfl
    | some p =>
      have : lowB b = -p := by unfold lowB; rw [e]
      rw [this] at lo
      exact decide_eq_false (by grind)
  rw [o1, o2]; rfl
section
variable {w k : Nat} {T : List Fn}
theorem law_mult_raw (hL : HL T) {g : G} {r : Rat} {p : Int} {q : Nat} (hq : q ≠ 0) (hr : Fit r) (h1 : p.natAbs < 2 ^ 60) (h2 : q < 2 ^ 60) : callN w T (k + 2) 7 [.fz (qD r), .fz (raw p q)] g = .ok (.fz (qD (r * mkRat p q))) g := by
  have m : r * mkRat p q = mkRat (r.num * p) (r.den * q) := by
    rw [← Rat.mkRat_mul_mkRat, Rat.mkRat_self]
  have n1 : (r.num * p).natAbs < 2 ^ 1801 := by
    rw [Int.natAbs_mul]
    exact Nat.lt_of_lt_of_le (nat_mul_lt hr.1 h1) (Nat.pow_le_pow_right (by decide) (by decide))
  have n2 : r.den * q < 2 ^ 1801 := Nat.lt_of_lt_of_le (nat_mul_lt hr.2 h2) (Nat.pow_le_pow_right (by decide) (by decide))
  have e := law_ratio_at (w := w) (k := k) (g := g) hL (p := r.num * p) (q := r.den * q) (Nat.mul_ne_zero r.den_nz hq) n1 n2
  rw [← m, Int.natCast_mul] at e
  have x1 : pyMul (.int r.num) (.int p) = some (.fz (.int (r.num * p))) := mulS (m := 900) (n := 60) hr.1 h1 (by decide) (by decide)
  have x2 : pyMul (.int r.den) (.int q) = some (.fz (.int ((r.den : Int) * q))) := mulS (m := 900) (n := 60) (by rw [Int.natAbs_natCast]; exact hr.2) (by rw [Int.natAbs_natCast]; exact h2) (by decide) (by decide)
  rw [callN_at (hL.h (i := 7) rfl)]
  simp [semF, runF, b_law_mult, qix0, qix1, raw0, raw1, x1, x2, e]
theorem law_density_ok (hS : HS T) {c : Nat} {g : G} {b : Bar} (hb : BarOk b) (h : Dk c g) (hc : c < 2 ^ 32) : ∃ (v : Int) (g' : G), callN w T (k + 3) 69 [.deal, .fz (barD b)] g = .ok (.fz (qD (dens b v))) g' ∧ 0 ≤ v ∧ v < 5 ∧ Dk (c + 1) g' := by
  obtain ⟨v, g1, e1, lo, hi, d1⟩ := take_ok (w := w) (k := k + 1) (i := 1) (hS.l.h rfl) h (by omega) (m := 5) (by decide)
  refine ⟨v, g1, ?_, lo, hi, d1⟩
  have fl := (lowB_bd hb).1.fit ⟨by decide, by decide +kernel, by decide +kernel⟩
  have fh := (highB_bd hb).1.fit ⟨by decide, by decide +kernel, by decide +kernel⟩
  have bs := (highB_bd hb).1.sub (lowB_bd hb).1
  have m1 := law_minus_ok (w := w) (k := k) (g := g1) hS.l fh fl
  have m1' := law_minus_ok (w := w) (k := k) (g := g) hS.l fh fl
  have m2 := law_mult_raw (w := w) (k := k) (g := g1) hS.l (p := v) (q := 4) (by decide) (bs.fit ⟨by decide, by decide +kernel, by decide +kernel⟩) (by omega) (by decide)
  have bm := bs.mul (bd_mk (A := 1) (z := v) (n := 4) (by decide) (by omega))
  have m3 := law_plus_ok (w := w) (k := k) (g := g1) hS.l fl (bm.fit ⟨by decide, by decide +kernel, by decide +kernel⟩)
  have b3 := br3 b
  have b4 := br4 b
  have rw4 : PyData.tuple [.int v, .int 4] = raw v 4 := rfl
  have lowE : (cIte (cCmp pyIs (cD (cVIx 1 (cD (cK (.int 4))))) (cD (cK .none))) (cTup (cCons (cD (c1 pyNeg (cD (cK (.int 3))))) (cCons (cD (cK (.int 1))) cNil))) (cTup (cCons (cD (c1 pyNeg (cD (c2 pyIx (cD (cVIx 1 (cD (cK (.int 4))))) (cD (cK (.int 0))))))) (cCons (cD (c2 pyIx (cD (cVIx 1 (cD (cK (.int 4))))) (cD (cK (.int 1))))) cNil)))) [some .deal, some (.fz (barD b)), none, none] g = .ok (.fz (qD (lowB b))) [some .deal, some (.fz (barD b)), none, none] g := by
    unfold lowB
    cases e : b.push with
    | none =>
      rw [e] at b4
      have q3 : PyData.tuple [.int (-3), .int 1] = qD (-3) := rfl
      simp [b4, q3]
    | some p =>
      rw [e] at b4
      have nq : PyData.tuple [.int (-p.num), .int p.den] = qD (-p) := by rw [qD, Rat.neg_num, Rat.neg_den]
      simp only [oq_some] at b4
      simp [b4, qix0, qix1, nq]
  have highE : (cIte (cCmp pyIs (cD (cVIx 1 (cD (cK (.int 3))))) (cD (cK .none))) (cTup (cCons (cD (cK (.int 3))) (cCons (cD (cK (.int 1))) cNil))) (cVIx 1 (cD (cK (.int 3))))) [some .deal, some (.fz (barD b)), some (.fz (qD (lowB b))), none] g = .ok (.fz (qD (highB b))) [some .deal, some (.fz (barD b)), some (.fz (qD (lowB b))), none] g := by
    unfold highB
    cases e : b.pull with
    | none =>
      rw [e] at b3
      have q3 : PyData.tuple [.int 3, .int 1] = qD 3 := rfl
      simp [b3, q3]
    | some p =>
      rw [e] at b3
      simp only [oq_some] at b3
      simp [b3]
  rw [callN_at (hS.h (i := 69) rfl)]
  simp only [semF, runF, b_law_density]
  generalize cIte (cCmp pyIs (cD (cVIx 1 (cD (cK (.int 4))))) (cD (cK .none))) (cTup (cCons (cD (c1 pyNeg (cD (cK (.int 3))))) (cCons (cD (cK (.int 1))) cNil))) (cTup (cCons (cD (c1 pyNeg (cD (c2 pyIx (cD (cVIx 1 (cD (cK (.int 4))))) (cD (cK (.int 0))))))) (cCons (cD (c2 pyIx (cD (cVIx 1 (cD (cK (.int 4))))) (cD (cK (.int 1))))) cNil))) = X1 at *
  generalize cIte (cCmp pyIs (cD (cVIx 1 (cD (cK (.int 3))))) (cD (cK .none))) (cTup (cCons (cD (cK (.int 3))) (cCons (cD (cK (.int 1))) cNil))) (cVIx 1 (cD (cK (.int 3)))) = X2 at *
  unfold dens
  simp [lowE, highE, m1', e1, rw4, m2, m3]
theorem sd_loop (hS : HS T) {fr : SV} : ∀ (bs : List Bar) (c : Nat) (acc : List D) (g : G), (∀ b ∈ bs, BarOk b) → acc.length + bs.length ≤ 1000 → Dk c g → c + bs.length < 2 ^ 31 → ∃ (qs : List Rat) (g' : G),
    compL (gNm 4) cYes (cD (cCall (callN w T (k + 3)) 69 (cACons (cVE 0) (cACons (cVE 4) cANil)))) [4] (bs.map barD) acc [some .deal, some fr, none, none, none, none] g
      = .ok (acc ++ qs.map qD) [some .deal, some fr, none, none, none, none] g' ∧ qs.length = bs.length ∧ (∀ q ∈ qs, Bd 18 8 q) ∧ lawQ (qs.zip bs) = true ∧ Dk (c + bs.length) g'
  | [], c, acc, g, _, _, h, _ => ⟨[], g, by simp [compL], rfl, fun q h => absurd h (by simp), rfl, h⟩
  | b :: bs, c, acc, g, hb, hl, h, hc => by
    rw [List.length_cons] at hl hc
    obtain ⟨v, g1, e1, lo, hi, d1⟩ := law_density_ok (w := w) (k := k) hS (hb b List.mem_cons_self) h (by omega)
    have al : acc.length < 16777216 := by omega
    obtain ⟨qs, g', r1, r2, r3, r4, r5⟩ := sd_loop hS (fr := fr) bs (c + 1) (acc ++ [qD (dens b v)]) g1 (fun x hx => hb x (List.mem_cons_of_mem _ hx)) (by simp; omega) d1 (by omega)
    refine ⟨dens b v :: qs, g', ?_, by simp [r2], fun q hq => ?_, ?_, r5.mono (by rw [List.length_cons]; omega)⟩
    · rw [List.map_cons, List.map_cons, show ∀ (x : D) (l : List D), acc ++ (x :: l) = acc ++ [x] ++ l from fun x l => by simp, ← r1]
      simp [compL, e1, al]
    · rcases List.mem_cons.mp hq with rfl | hq
      · exact dens_bd (hb b List.mem_cons_self) lo hi
      · exact r3 q hq
    · show ((!overB b.pull (dens b v) && !overB b.push (-(dens b v))) && lawQ (qs.zip bs)) = true
      rw [r4, dens_law (hb b List.mem_cons_self) lo hi]; rfl
theorem sr_loop (hS : HS T) {fr dn : SV} : ∀ (fs : List Foot) (c : Nat) (acc : List D) (g : G), acc.length + fs.length ≤ 1000 → Dk c g → c + fs.length < 2 ^ 31 → ∃ (rs : List Rat) (g' : G),
    compL (gNm 5) cYes (cD (cIte (cCmp pyEq (cD (cVIx 5 (cD (cK (.int 2))))) (cD (cK (.str "push")))) (cTup (cCons (cD (cCall (callN w T (k + 3)) 1 (cACons (cVE 0) (cACons (cK (.int 4)) cANil)))) (cCons (cD (cK (.int 1))) cNil))) (cTup (cCons (cD (c2 pySub (cD (cCall (callN w T (k + 3)) 1 (cACons (cVE 0) (cACons (cK (.int 7)) cANil)))) (cD (cK (.int 3))))) (cCons (cD (cK (.int 1))) cNil))))) [5] (fs.map footD) acc [some .deal, some fr, some dn, none, none, none] g
      = .ok (acc ++ rs.map qD) [some .deal, some fr, some dn, none, none, none] g' ∧ rs.length = fs.length ∧ (∀ q ∈ rs, Bd 18 8 q) ∧ lawR (rs.zip fs) = true ∧ Dk (c + fs.length) g'
  | [], c, acc, g, _, h, _ => ⟨[], g, by simp [compL], rfl, fun q h => absurd h (by simp), rfl, h⟩
  | t :: fs, c, acc, g, hl, h, hc => by
    rw [List.length_cons] at hl hc
    have al : acc.length < 16777216 := by omega
    have pe := push_eq t.both
    have f2 := ft2 t
    generalize hK : (if t.both = true then ("both" : Str) else "push") = kd at *
    have fin : ∀ (z : Int) (g1 : G), z.natAbs ≤ 3 → (t.both = false → 0 ≤ z) → Dk (c + 1) g1 → (cD (cIte (cCmp pyEq (cD (cVIx 5 (cD (cK (.int 2))))) (cD (cK (.str "push")))) (cTup (cCons (cD (cCall (callN w T (k + 3)) 1 (cACons (cVE 0) (cACons (cK (.int 4)) cANil)))) (cCons (cD (cK (.int 1))) cNil))) (cTup (cCons (cD (c2 pySub (cD (cCall (callN w T (k + 3)) 1 (cACons (cVE 0) (cACons (cK (.int 7)) cANil)))) (cD (cK (.int 3))))) (cCons (cD (cK (.int 1))) cNil))))) [some .deal, some fr, some dn, none, none, some (.fz (footD t))] g = .ok (qD ((z : Int) : Rat)) [some .deal, some fr, some dn, none, none, some (.fz (footD t))] g1 → ∃ (rs : List Rat) (g' : G),
    compL (gNm 5) cYes (cD (cIte (cCmp pyEq (cD (cVIx 5 (cD (cK (.int 2))))) (cD (cK (.str "push")))) (cTup (cCons (cD (cCall (callN w T (k + 3)) 1 (cACons (cVE 0) (cACons (cK (.int 4)) cANil)))) (cCons (cD (cK (.int 1))) cNil))) (cTup (cCons (cD (c2 pySub (cD (cCall (callN w T (k + 3)) 1 (cACons (cVE 0) (cACons (cK (.int 7)) cANil)))) (cD (cK (.int 3))))) (cCons (cD (cK (.int 1))) cNil))))) [5] ((t :: fs).map footD) acc [some .deal, some fr, some dn, none, none, none] g
      = .ok (acc ++ rs.map qD) [some .deal, some fr, some dn, none, none, none] g' ∧ rs.length = (t :: fs).length ∧ (∀ q ∈ rs, Bd 18 8 q) ∧ lawR (rs.zip (t :: fs)) = true ∧ Dk (c + (t :: fs).length) g' := fun z g1 hz hz2 d1 hbd => by
      obtain ⟨rs, g', r1, r2, r3, r4, r5⟩ := sr_loop hS (fr := fr) (dn := dn) fs (c + 1) (acc ++ [qD ((z : Int) : Rat)]) g1 (by simp; omega) d1 (by omega)
      refine ⟨((z : Int) : Rat) :: rs, g', ?_, by simp [r2], fun q hq => ?_, ?_, r5.mono (by rw [List.length_cons]; omega)⟩
      · rw [List.map_cons, List.map_cons, show ∀ (x : D) (l : List D), acc ++ (x :: l) = acc ++ [x] ++ l from fun x l => by simp, ← r1]
        generalize cD (cIte (cCmp pyEq (cD (cVIx 5 (cD (cK (.int 2))))) (cD (cK (.str "push")))) (cTup (cCons (cD (cCall (callN w T (k + 3)) 1 (cACons (cVE 0) (cACons (cK (.int 4)) cANil)))) (cCons (cD (cK (.int 1))) cNil))) (cTup (cCons (cD (c2 pySub (cD (cCall (callN w T (k + 3)) 1 (cACons (cVE 0) (cACons (cK (.int 7)) cANil)))) (cD (cK (.int 3))))) (cCons (cD (cK (.int 1))) cNil)))) = BE at *
        simp [compL, hbd, al]
      · rcases List.mem_cons.mp hq with rfl | hq
        · exact (bd_int (A := 3) hz).mono (by decide) (by decide)
        · exact r3 q hq
      · show (!(!t.both && decide (((z : Int) : Rat) < 0)) && lawR (rs.zip fs)) = true
        rw [r4]
        cases hb : t.both with
        | true => rfl
        | false =>
          have := Rat.intCast_le_intCast.mpr (hz2 hb)
          have z0 : ((0 : Int) : Rat) = 0 := rfl
          rw [z0] at this
          rw [decide_eq_false (by grind)]; rfl
    cases hb : t.both with
    | true =>
      rw [hb] at pe
      obtain ⟨v, g1, e1, lo, hi, d1⟩ := take_ok (w := w) (k := k + 2) (i := 1) (hS.l.h rfl) h (by omega) (m := 7) (by decide)
      exact fin (v - 3) g1 (by omega) (fun h => by rw [hb] at h; cases h) d1 (by simp [f2, pe, e1, qI])
    | false =>
      rw [hb] at pe
      obtain ⟨v, g1, e1, lo, hi, d1⟩ := take_ok (w := w) (k := k + 2) (i := 1) (hS.l.h rfl) h (by omega) (m := 4) (by decide)
      exact fin v g1 (by omega) (fun _ => lo) d1 (by simp [f2, pe, e1, qI])
theorem law_state_ok (hS : HS T) {c : Nat} {g : G} {f : Frame} (hb : ∀ b ∈ f.bars, BarOk b) (nb : f.bars.length ≤ 500) (nf : f.feet.length ≤ 500) (h : Dk c g) (hc : c < 2 ^ 30) :
    ∃ (s : Stt) (g' : G), callN w T (k + 4) 70 [.deal, .fz (frD f)] g = .ok (.fz (stD s)) g' ∧ StOk f s 18 8 ∧ lawfulB f s = true ∧ Dk (c + f.bars.length + f.feet.length) g' := by
  obtain ⟨qs, g1, r1, l1, b1, w1, d1⟩ := sd_loop (w := w) (k := k) hS (fr := .fz (frD f)) f.bars c [] g hb (by simp; omega) h (by omega)
  obtain ⟨rs, g2, r2, l2, b2, w2, d2⟩ := sr_loop (w := w) (k := k) hS (fr := .fz (frD f)) (dn := .fz (rowD qs)) f.feet (c + f.bars.length) [] g1 (by simp; omega) d1 (by omega)
  rw [List.nil_append] at r1 r2
  have t1 : PyData.tuple (qs.map qD) = rowD qs := rfl
  have t2 : PyData.tuple (rs.map qD) = rowD rs := rfl
  have t3 : PyData.tuple [rowD qs, rowD rs] = stD ⟨qs, rs⟩ := rfl
  refine ⟨⟨qs, rs⟩, g2, ?_, ⟨l1, l2, b1, b2⟩, by show (lawQ (qs.zip f.bars) && lawR (rs.zip f.feet)) = true; rw [w1, w2]; rfl, d2⟩
  rw [callN_at (hS.h (i := 70) rfl)]
  generalize qs.map qD = Q at *
  generalize rs.map qD = R at *
  simp [semF, runF, b_law_state, cLc, fr2, fr3, r1, r2, t1, t2, t3]
end
end
end FD
/-! FDS7: sites that the law draws. -/
namespace FD
noncomputable section
open PySem
theorem fit_u {A d : Nat} {r : Rat} (h : Bd A d r) (ha : A ≤ AU) (hd : d ∣ DU) : Fit r := (h.mono ha hd).fit sU
def underV (t : List V2) (ps : List (Pat × Rat)) : List V2 := ps.foldl (fun t p => addV t (p.1.ls.map (V2.smul p.2))) t
theorem addV_row {xs ys : List V2} {q : Rat} (h : xs.length = ys.length) : (List.range xs.length).map (fun j => vD ⟨(vAt xs j).x + q * (vAt ys j).x, (vAt xs j).y + q * (vAt ys j).y⟩) = (addV xs (ys.map (V2.smul q))).map vD := by
  have l : xs.length = (ys.map (V2.smul q)).length := by rw [List.length_map]; exact h
  have e := congrArg (List.map vD) (range_vAt (addV xs (ys.map (V2.smul q))))
  rw [List.map_map, addV_len l] at e
  rw [← e]
  refine List.map_congr_left fun j hj => ?_
  rw [List.mem_range] at hj
  show _ = vD (vAt _ j)
  rw [addV_get l hj, vAt_map (by omega)]
  rfl
def unBody (ct : CT) : Ev Fl := (sSeq (sAsg 4 (c2 pyIx (cD (c2 pyIx (cD (cVIx 0 (cD (cK (.int 2))))) (cVP 3))) (cD (cK (.int 0)))))
    (sAsg 2 (c1 pyTuple (cD (cLc (iR1 (cD (c1 pyLen (cVP 2)))) [5] (gNm 5) cYes (cD (cTup (cCons (cD (cCall ct 5 (cACons (c2 pyIx (cD (cVIx 2 (cVP 5))) (cD (cK (.int 0)))) (cACons (cCall ct 7 (cACons (cVIx 1 (cVP 3)) (cACons (c2 pyIx (cD (cVIx 4 (cVP 5))) (cD (cK (.int 0)))) cANil))) cANil)))) (cCons (cD (cCall ct 5 (cACons (c2 pyIx (cD (cVIx 2 (cVP 5))) (cD (cK (.int 1)))) (cACons (cCall ct 7 (cACons (cVIx 1 (cVP 3)) (cACons (c2 pyIx (cD (cVIx 4 (cVP 5))) (cD (cK (.int 1)))) cANil))) cANil)))) cNil)))))))))
theorem addV_bd {xs ys : List V2} {q : Rat} {N M d : Nat} (h1 : ∀ v ∈ xs, BdV N d v) (h2 : ∀ v ∈ ys, BdV M d (v.smul q)) : ∀ v ∈ addV xs (ys.map (V2.smul q)), BdV (N + M) d v := fun v hv => by
  obtain ⟨x, hx, y, hy, rfl⟩ := addV_mem hv
  rw [List.mem_map] at hy
  obtain ⟨z, hz, rfl⟩ := hy
  exact (h1 x hx).add (h2 z hz)
section
variable {w k : Nat} {T : List Fn}
theorem under_loop (hS : HS T) {g : G} {S F : D} {ps : List Pat} {fs : List Rat} {n0 : Nat} (h2 : pyIx S (.int 2) = some (.fz (.tuple (ps.map patD)))) (hF : Row F fs) (hl : ps.length = fs.length) (hn : n0 ≤ 1000) (hp : ∀ p ∈ ps, p.ls.length = n0 ∧ ∀ v ∈ p.ls, BdV 3 1 v) (hf : ∀ f ∈ fs, Bd 3 6 f) : ∀ (m i N : Nat) (t : List V2), i + m = ps.length → t.length = n0 → (∀ v ∈ t, BdV N DU v) → N + 9 * m ≤ AU →
    forL (gNm 3) (unBody (callN w T (k + 2))) ((List.range' i m).map fun (j : Nat) => PyData.int j) [some (.fz S), some (.fz F), some (.fz (lsD t)), none, none, none] g
      = .ok .nx [some (.fz S), some (.fz F), some (.fz (lsD (underV t ((ps.drop i).zip (fs.drop i))))), none, none, none] g ∧ (underV t ((ps.drop i).zip (fs.drop i))).length = n0 ∧ ∀ v ∈ underV t ((ps.drop i).zip (fs.drop i)), BdV (N + 9 * m) DU v := by
  intro m
  induction m with
  | zero =>
    intro i N t hi hl2 ht hN
    rw [List.drop_of_length_le (l := ps) (by omega), List.zip_nil_left]
    exact ⟨rfl, hl2, ht⟩
  | succ m IH =>
    intro i N t hi hl2 ht hN
    have l1 : i < ps.length := by omega
    have l2 : i < fs.length := by omega
    obtain ⟨q1, q2⟩ := hp _ (List.getElem_mem l1)
    have q3 := hf _ (List.getElem_mem l2)
    have pg : pyIx (.tuple (ps.map patD)) (.int i) = some (.fz (patD ps[i])) := ixU rfl (by rw [List.getElem?_map, List.getElem?_eq_getElem l1]; rfl)
    have fg := hF.ix (j := i) (x := fs[i]) (List.getElem?_eq_getElem l2)
    have ft : ∀ v ∈ t, FitV v := fun v hv => ⟨((ht v hv).1.mono (by omega) (Nat.dvd_refl _)).fit sU, ((ht v hv).2.mono (by omega) (Nat.dvd_refl _)).fit sU⟩
    have bs : ∀ v ∈ ps[i].ls, BdV 9 DU (v.smul fs[i]) := fun v hv => by
      have := BdV.smul q3 (q2 v hv)
      exact ⟨this.1.mono (by decide) (by decide), this.2.mono (by decide) (by decide)⟩
    have lm : t.length = ps[i].ls.length := by omega
    obtain ⟨r1, r2, r3⟩ := IH (i + 1) (N + 9) (addV t (ps[i].ls.map (V2.smul fs[i]))) (by omega) (by rw [addV_len (by rw [List.length_map]; exact lm)]; exact hl2) (addV_bd ht bs) (by omega)
    have cm := compL_img (tg := gNm 5) (f := cD (cTup (cCons (cD (cCall (callN w T (k + 2)) 5 (cACons (c2 pyIx (cD (cVIx 2 (cVP 5))) (cD (cK (.int 0)))) (cACons (cCall (callN w T (k + 2)) 7 (cACons (cVIx 1 (cVP 3)) (cACons (c2 pyIx (cD (cVIx 4 (cVP 5))) (cD (cK (.int 0)))) cANil))) cANil)))) (cCons (cD (cCall (callN w T (k + 2)) 5 (cACons (c2 pyIx (cD (cVIx 2 (cVP 5))) (cD (cK (.int 1)))) (cACons (cCall (callN w T (k + 2)) 7 (cACons (cVIx 1 (cVP 3)) (cACons (c2 pyIx (cD (cVIx 4 (cVP 5))) (cD (cK (.int 1)))) cANil))) cANil)))) cNil)))) (vs := [5]) (σ := [some (.fz S), some (.fz F), some (.fz (lsD t)), some (.fz (.int i)), some (.fz (lsD ps[i].ls)), none]) (g := g) (fun (j : Nat) => PyData.int j) (fun j => vD ⟨(vAt t j).x + fs[i] * (vAt ps[i].ls j).x, (vAt t j).y + fs[i] * (vAt ps[i].ls j).y⟩) (List.range t.length) [] (fun j hj => by
      rw [List.mem_range] at hj
      have g1 := vGetU (l := t) (i := j) hj
      have g2 := vGetU (l := ps[i].ls) (i := j) (by omega)
      have hv := q2 _ (vAt_mem (l := ps[i].ls) (i := j) (by omega))
      have ht2 := ft _ (vAt_mem (l := t) (i := j) hj)
      have hsm := bs _ (vAt_mem (l := ps[i].ls) (i := j) (by omega))
      have f1 := fit_u q3 (by decide) (by decide)
      have m1 := law_mult_ok (w := w) (k := k) (g := g) hS.l f1 (fit_u hv.1 (by decide) (by decide))
      have m2 := law_mult_ok (w := w) (k := k) (g := g) hS.l f1 (fit_u hv.2 (by decide) (by decide))
      have p1 := law_plus_ok (w := w) (k := k) (g := g) hS.l ht2.1 (show Fit (fs[i] * (vAt ps[i].ls j).x) from fit_u hsm.1 (by decide) (Nat.dvd_refl _))
      have p2 := law_plus_ok (w := w) (k := k) (g := g) hS.l ht2.2 (show Fit (fs[i] * (vAt ps[i].ls j).y) from fit_u hsm.2 (by decide) (Nat.dvd_refl _))
      have e : PyData.tuple [qD ((vAt t j).x + fs[i] * (vAt ps[i].ls j).x), qD ((vAt t j).y + fs[i] * (vAt ps[i].ls j).y)] = vD ⟨(vAt t j).x + fs[i] * (vAt ps[i].ls j).x, (vAt t j).y + fs[i] * (vAt ps[i].ls j).y⟩ := rfl
      exact ⟨[some (.fz S), some (.fz F), some (.fz (lsD t)), some (.fz (.int i)), some (.fz (lsD ps[i].ls)), some (.fz (.int j))], [some (.fz S), some (.fz F), some (.fz (lsD t)), some (.fz (.int i)), some (.fz (lsD ps[i].ls)), some (.fz (.int j))], by simp, by simp [g1, g2, v0, v1, fg, m1, m2, p1, p2, e], by simp⟩) (by simp; omega)
    rw [List.nil_append, addV_row lm, ← rngD_nat] at cm
    have rg := rng1N (n := t.length) (by omega)
    have ln : pyLen (lsD t) = some (.fz (.int t.length)) := by simp [lsD]
    have tl : PyData.tuple ((addV t (ps[i].ls.map (V2.smul fs[i]))).map vD) = lsD (addV t (ps[i].ls.map (V2.smul fs[i]))) := rfl
    rw [zip_drop_cons l1 l2, List.range'_succ, List.map_cons]
    have e : underV t ((ps[i], fs[i]) :: (ps.drop (i + 1)).zip (fs.drop (i + 1))) = underV (addV t (ps[i].ls.map (V2.smul fs[i]))) ((ps.drop (i + 1)).zip (fs.drop (i + 1))) := rfl
    rw [e]
    refine ⟨?_, r2, fun v hv => by have := r3 v hv; rw [show N + 9 + 9 * m = N + 9 * (m + 1) by omega] at this; exact this⟩
    rw [← r1]
    have bd : unBody (callN w T (k + 2)) [some (.fz S), some (.fz F), some (.fz (lsD t)), some (.fz (.int i)), none, none] g = .ok .nx [some (.fz S), some (.fz F), some (.fz (lsD (addV t (ps[i].ls.map (V2.smul fs[i]))))), some (.fz (.int i)), some (.fz (lsD ps[i].ls)), none] g := by
      unfold unBody
      generalize (addV t (ps[i].ls.map (V2.smul fs[i]))).map vD = Y at *
      generalize rngD 0 (t.length : Int) = R at *
      simp [h2, pg, pa0, ln, rg, cLc, cm, tl]
    generalize unBody (callN w T (k + 2)) = BB at *
    simp [forL, bd]
theorem law_under_ok (hS : HS T) {g : G} {S F : D} {base : List V2} {ps : List Pat} {fs : List Rat} (h1 : pyIx S (.int 1) = some (.fz (lsD base))) (h2 : pyIx S (.int 2) = some (.fz (.tuple (ps.map patD)))) (hF : Row F fs) (hl : ps.length = fs.length) (hps : ps.length ≤ 100) (hn : base.length ≤ 1000) (hp : ∀ p ∈ ps, p.ls.length = base.length ∧ ∀ v ∈ p.ls, BdV 3 1 v) (hf : ∀ f ∈ fs, Bd 3 6 f) {N : Nat} (hb : ∀ v ∈ base, BdV N DU v) (hN : N + 900 ≤ AU) :
    callN w T (k + 3) 65 [.fz S, .fz F] g = .ok (.fz (lsD (underV base (ps.zip fs)))) g ∧ (underV base (ps.zip fs)).length = base.length ∧ ∀ v ∈ underV base (ps.zip fs), BdV (N + 900) DU v := by
  obtain ⟨r1, r2, r3⟩ := under_loop (w := w) (k := k) (g := g) hS h2 hF hl hn hp hf ps.length 0 N base (by omega) rfl hb (by omega)
  rw [List.drop_zero, List.drop_zero] at r1 r2 r3
  rw [← List.range_eq_range', ← rngD_nat] at r1
  have rg := rng1N (n := ps.length) (by omega)
  refine ⟨?_, r2, fun v hv => ⟨(r3 v hv).1.mono (by omega) (Nat.dvd_refl _), (r3 v hv).2.mono (by omega) (Nat.dvd_refl _)⟩⟩
  have cut : b_law_under (callN w T (k + 2)) w = (sSeq (sAsg 2 (cVIx 0 (cD (cK (.int 1))))) (sSeq (sFor (iR1 (cD (c1 pyLen (cD (cVIx 0 (cD (cK (.int 2)))))))) (gNm 3) (unBody (callN w T (k + 2)))) (sRet (cVR 2)))) := rfl
  rw [callN_at (hS.h (i := 65) rfl)]
  simp only [semF, cut]
  generalize unBody (callN w T (k + 2)) = BB at *
  generalize rngD 0 (ps.length : Int) = R at *
  simp [runF, h1, h2, rg, r1]
theorem law_turned_ok (hS : HS T) {g : G} {v : V2} : callN w T (k + 1) 64 [.fz (vD v)] g = .ok (.fz (vD v.neg)) g := by
  have nq : ∀ p : Rat, PyData.tuple [.int (-p.num), .int p.den] = qD (-p) := fun p => by rw [qD, Rat.neg_num, Rat.neg_den]
  have cm := compL_img (tg := gNm 1) (f := cD (cTup (cCons (cD (c1 pyNeg (cD (cVIx 1 (cD (cK (.int 0))))))) (cCons (cD (cVIx 1 (cD (cK (.int 1))))) cNil)))) (vs := [1]) (σ := [some (.fz (vD v)), none]) (g := g) qD (fun q => qD (-q)) [v.x, v.y] [] (fun q hq => by
    exact ⟨[some (.fz (vD v)), some (.fz (qD q))], [some (.fz (vD v)), some (.fz (qD q))], by simp, by simp [qix0, qix1, nq], by simp⟩) (by simp)
  simp only [List.nil_append, List.map_cons, List.map_nil] at cm
  have sq : seqOf (vD v) = some [qD v.x, qD v.y] := rfl
  have e : PyData.tuple [qD (-v.x), qD (-v.y)] = vD v.neg := rfl
  rw [callN_at (hS.h (i := 64) rfl)]
  simp [-seqOf, semF, runF, b_law_turned, sq, cLc, cm, e]
/-- a gauge that the law draws -/
structure GauOk (f : Frame) (x : Gau) : Prop where
  b : x.b < f.bars.length
  e : Bd 2 2 x.e
  e0 : 0 ≤ x.e
  u : Bd 3 2 x.u
  u0 : 0 < x.u
def ggBody (ct : CT) : Ev Fl := (sIf (cAnd (cCmp pyLt (cD (c1 pyLen (cVP 3))) (cVP 2)) (cCmp pyEq (cD (cCall ct 1 (cACons (cVE 0) (cACons (cK (.int 2)) cANil)))) (cD (cK (.int 0)))))
      (sApp 3 (cD (cTup (cCons (cD (cVE 4)) (cCons (cD (cCall ct 4 (cACons (cCall ct 1 (cACons (cVE 0) (cACons (cK (.int 3)) cANil))) (cACons (c2 pyAdd (cD (cK (.int 1))) (cD (cCall ct 1 (cACons (cVE 0) (cACons (cK (.int 2)) cANil))))) cANil)))) (cCons (cD (cCall ct 4 (cACons (c2 pyAdd (cD (cK (.int 1))) (cD (cCall ct 1 (cACons (cVE 0) (cACons (cK (.int 3)) cANil))))) (cACons (c2 pyAdd (cD (cK (.int 1))) (cD (cCall ct 1 (cACons (cVE 0) (cACons (cK (.int 2)) cANil))))) cANil)))) cNil))))))
      sPass)
theorem ratio2 (hS : HS T) {g : G} {a b : Int} (h0 : 0 ≤ a) (h1 : a < 100) (b0 : 0 ≤ b) (b1 : b < 2) : ∃ n : Nat, (n = 1 ∨ n = 2) ∧ (n : Int) = 1 + b ∧ callN w T (k + 1) 4 [.fz (.int a), .fz (.int (1 + b))] g = .ok (.fz (qD (mkRat a n))) g := by
  obtain ⟨n, rfl⟩ : ∃ n : Nat, b = n := ⟨b.toNat, by omega⟩
  have r := law_ratio_at (w := w) (k := k) (g := g) hS.l (p := a) (q := n + 1) (by omega) (Nat.lt_of_le_of_lt (show a.natAbs ≤ 100 by omega) (by decide)) (Nat.lt_of_le_of_lt (show n + 1 ≤ 2 by omega) (by decide))
  have cst : (((n + 1 : Nat) : Int)) = 1 + (n : Int) := by omega
  rw [cst] at r
  exact ⟨n + 1, by omega, cst, r⟩
theorem gg_loop (hS : HS T) {f : Frame} {most : Nat} {s1 : SV} : ∀ (m i c : Nat) (gs : List Gau) (g : G), i + m = f.bars.length → gs.length ≤ i → gs.length ≤ most → (∀ x ∈ gs, GauOk f x) → i + m ≤ 500 → Dk c g → c + 5 * m < 2 ^ 31 → ∃ (gs' : List Gau) (g' : G),
    forL (gNm 4) (ggBody (callN w T (k + 2))) ((List.range' i m).map fun (j : Nat) => PyData.int j) [some .deal, some s1, some (.fz (.int most)), some (.ow (gs.map gauD)), none] g
      = .ok .nx [some .deal, some s1, some (.fz (.int most)), some (.ow (gs'.map gauD)), none] g' ∧ gs'.length ≤ most ∧ (∀ x ∈ gs', GauOk f x) ∧ Dk (c + 5 * m) g'
  | 0, i, c, gs, g, _, _, hm, hg, _, h, _ => ⟨gs, g, rfl, hm, hg, h⟩
  | m + 1, i, c, gs, g, hi, hl, hm, hg, h5, h, hc => by
    by_cases z : gs.length < most
    · obtain ⟨v, g1, e1, lo, hi2, d1⟩ := take_ok (w := w) (k := k + 1) (i := 1) (hS.l.h rfl) h (by omega) (m := 2) (by decide)
      by_cases y : v = 0
      · obtain ⟨a, g2, e2, a0, a1, d2⟩ := take_ok (w := w) (k := k + 1) (i := 1) (hS.l.h rfl) d1 (by omega) (m := 3) (by decide)
        obtain ⟨b, g3, e3, b0, b1, d3⟩ := take_ok (w := w) (k := k + 1) (i := 1) (hS.l.h rfl) d2 (by omega) (m := 2) (by decide)
        obtain ⟨a', g4, e4, a0', a1', d4⟩ := take_ok (w := w) (k := k + 1) (i := 1) (hS.l.h rfl) d3 (by omega) (m := 3) (by decide)
        obtain ⟨b', g5, e5, b0', b1', d5⟩ := take_ok (w := w) (k := k + 1) (i := 1) (hS.l.h rfl) d4 (by omega) (m := 2) (by decide)
        obtain ⟨n1, hn1, _, r1⟩ := ratio2 (w := w) (k := k + 1) (g := g3) hS a0 (by omega) b0 b1
        obtain ⟨n2, hn2, _, r2⟩ := ratio2 (w := w) (k := k + 1) (g := g5) hS (a := 1 + a') (by omega) (by omega) b0' b1'
        have ok : GauOk f ⟨i, mkRat a n1, mkRat (1 + a') n2⟩ := by
          refine ⟨by show i < _; omega, bd_half hn1 (by omega), mkRat_nn hn1 a0, bd_half hn2 (by omega), ?_⟩
          have nn : 0 ≤ mkRat (1 + a') n2 := mkRat_nn hn2 (by omega)
          have ne : mkRat (1 + a') n2 ≠ 0 := fun e => by
            have := (Rat.mkRat_eq_zero (show n2 ≠ 0 by omega)).mp e
            omega
          show 0 < mkRat (1 + a') n2
          grind
        obtain ⟨gs', g', q1, q2, q3, q4⟩ := gg_loop hS (f := f) (most := most) (s1 := s1) m (i + 1) (c + 1 + 1 + 1 + 1 + 1) (gs ++ [⟨i, mkRat a n1, mkRat (1 + a') n2⟩]) g5 (by omega) (by simp; omega) (by simp; omega) (fun x hx => by
          rcases List.mem_append.mp hx with h | h
          · exact hg x h
          · rw [List.mem_singleton] at h; subst h; exact ok) (by omega) d5 (by omega)
        refine ⟨gs', g', ?_, q2, q3, q4.mono (by omega)⟩
        rw [← q1, List.range'_succ, List.map_cons]
        have e : PyData.tuple [.int (i : Int), qD (mkRat a n1), qD (mkRat (1 + a') n2)] = gauD ⟨i, mkRat a n1, mkRat (1 + a') n2⟩ := rfl
        have al : gs.length < 16777216 := by omega
        have zc : (gs.length : Int) < (most : Int) := by omega
        have bd : ggBody (callN w T (k + 2)) [some .deal, some s1, some (.fz (.int most)), some (.ow (gs.map gauD)), some (.fz (.int i))] g = .ok .nx [some .deal, some s1, some (.fz (.int most)), some (.ow ((gs ++ [(⟨i, mkRat a n1, mkRat (1 + a') n2⟩ : Gau)]).map gauD)), some (.fz (.int i))] g5 := by
          unfold ggBody
          rw [List.map_append]
          simp [z, e1, y, e2, e3, r1, e4, e5, r2, e, al]
        generalize ggBody (callN w T (k + 2)) = BB at *
        simp [-List.map_append, forL, bd]
      · obtain ⟨gs', g', q1, q2, q3, q4⟩ := gg_loop hS (f := f) (most := most) (s1 := s1) m (i + 1) (c + 1) gs g1 (by omega) (by omega) hm hg (by omega) d1 (by omega)
        refine ⟨gs', g', ?_, q2, q3, q4.mono (by omega)⟩
        rw [← q1, List.range'_succ, List.map_cons]
        have bd : ggBody (callN w T (k + 2)) [some .deal, some s1, some (.fz (.int most)), some (.ow (gs.map gauD)), some (.fz (.int i))] g = .ok .nx [some .deal, some s1, some (.fz (.int most)), some (.ow (gs.map gauD)), some (.fz (.int i))] g1 := by
          unfold ggBody
          simp [z, e1, y]
        generalize ggBody (callN w T (k + 2)) = BB at *
        simp [forL, bd]
    · obtain ⟨gs', g', q1, q2, q3, q4⟩ := gg_loop hS (f := f) (most := most) (s1 := s1) m (i + 1) c gs g (by omega) (by omega) hm hg (by omega) h (by omega)
      refine ⟨gs', g', ?_, q2, q3, q4.mono (by omega)⟩
      rw [← q1, List.range'_succ, List.map_cons]
      have bd : ggBody (callN w T (k + 2)) [some .deal, some s1, some (.fz (.int most)), some (.ow (gs.map gauD)), some (.fz (.int i))] g = .ok .nx [some .deal, some s1, some (.fz (.int most)), some (.ow (gs.map gauD)), some (.fz (.int i))] g := by
        unfold ggBody
        simp [z]
      generalize ggBody (callN w T (k + 2)) = BB at *
      simp [forL, bd]
theorem law_gauges_ok (hS : HS T) {f : Frame} {most c : Nat} {g : G} (nb : f.bars.length ≤ 500) (h : Dk c g) (hc : c < 2 ^ 30) : ∃ (gs : List Gau) (g' : G), callN w T (k + 3) 60 [.deal, .fz (frD f), .fz (.int most)] g = .ok (.fz (.tuple (gs.map gauD))) g' ∧ gs.length ≤ most ∧ (∀ x ∈ gs, GauOk f x) ∧ Dk (c + 5 * f.bars.length) g' := by
  obtain ⟨gs, g', q1, q2, q3, q4⟩ := gg_loop (w := w) (k := k) hS (f := f) (most := most) (s1 := .fz (frD f)) f.bars.length 0 c [] g (by omega) (by simp) (by simp) (fun x h => absurd h (by simp)) (by omega) h (by omega)
  rw [← List.range_eq_range', ← rngD_nat, List.map_nil] at q1
  have rg := rng1N (n := f.bars.length) (by omega)
  refine ⟨gs, g', ?_, q2, q3, q4⟩
  have cut : b_law_gauges (callN w T (k + 2)) w = (sSeq (sAsg 3 (cLst cNil)) (sSeq (sFor (iR1 (cD (c1 pyLen (cD (cVIx 1 (cD (cK (.int 3)))))))) (gNm 4) (ggBody (callN w T (k + 2)))) (sRet (c1 pyTuple (cVP 3))))) := rfl
  rw [callN_at (hS.h (i := 60) rfl)]
  simp only [semF, cut]
  generalize ggBody (callN w T (k + 2)) = BB at *
  generalize rngD 0 (f.bars.length : Int) = R at *
  simp [runF, fr3, rg, q1]
end
end
end FD
/-! FDS8: sites that the law draws, to their end; readings; numbers. -/
namespace FD
noncomputable section
open PySem
theorem BdV.mono {A B d e : Nat} {v : V2} (h : BdV A d v) (ha : A ≤ B) (hd : d ∣ e) : BdV B e v := ⟨h.1.mono ha hd, h.2.mono ha hd⟩
theorem FrOk.mono {f : Frame} {A B d e : Nat} (h : FrOk f A d) (ha : A ≤ B) (hd : d ∣ e) : FrOk f B e :=
  ⟨h.nj, h.nb, h.nf, h.bi, h.fi, fun p hp => (h.pl p hp).mono ha hd, fun t ht => (h.wy t ht).mono ha hd⟩
/-- a pattern that the law draws -/
structure PatOk (n0 : Nat) (p : Pat) : Prop where
  l : p.ls.length = n0
  b : ∀ v ∈ p.ls, BdV 3 1 v
  m : Bd 3 2 p.most
  m0 : 0 ≤ p.most
def siBody (ct : CT) : Ev Fl := (sSeq (sAsg 8 (cCall ct 4 (cACons (cCall ct 1 (cACons (cVE 0) (cACons (cK (.int 4)) cANil))) (cACons (c2 pyAdd (cD (cK (.int 1))) (cD (cCall ct 1 (cACons (cVE 0) (cACons (cK (.int 2)) cANil))))) cANil))))
    (sSeq (sApp 5 (cD (cTup (cCons (cD (cCall ct 59 (cACons (cVE 0) (cACons (cVE 1) cANil)))) (cCons (cD (cVE 8)) cNil)))))
    (sApp 6 (cD (cCall ct 7 (cACons (cVE 8) (cACons (cTup (cCons (cD (cCall ct 1 (cACons (cVE 0) (cACons (cK (.int 4)) cANil)))) (cCons (cD (cK (.int 3))) cNil))) cANil)))))))
section
variable {w k : Nat} {T : List Fn}
theorem si_loop (hS : HS T) {f : Frame} (nj : f.joints.length ≤ 40) {s2 s3 s4 : SV} : ∀ (m i c : Nat) (ps : List Pat) (fs : List Rat) (g : G), ps.length = fs.length → ps.length + m ≤ 100 → (∀ p ∈ ps, PatOk f.joints.length p) → (∀ x ∈ fs, Bd 3 6 x) → (∀ p ∈ ps.zip fs, 0 ≤ p.2 ∧ p.2 ≤ p.1.most) → Dk c g → c + 200 * m < 2 ^ 28 → ∃ (ps' : List Pat) (fs' : List Rat) (g' : G),
    forL (gNm 7) (siBody (callN w T (k + 2))) ((List.range' i m).map fun (j : Nat) => PyData.int j) [some .deal, some (.fz (frD f)), some s2, some s3, some s4, some (.ow (ps.map patD)), some (.ow (fs.map qD)), none, none, none, none, none] g
      = .ok .nx [some .deal, some (.fz (frD f)), some s2, some s3, some s4, some (.ow (ps'.map patD)), some (.ow (fs'.map qD)), none, none, none, none, none] g' ∧ ps'.length = ps.length + m ∧ fs'.length = ps'.length ∧ (∀ p ∈ ps', PatOk f.joints.length p) ∧ (∀ x ∈ fs', Bd 3 6 x) ∧ (∀ p ∈ ps'.zip fs', 0 ≤ p.2 ∧ p.2 ≤ p.1.most) ∧ Dk (c + 200 * m) g'
  | 0, i, c, ps, fs, g, hl, _, h1, h2, h3, h, _ => ⟨ps, fs, g, rfl, rfl, hl.symm, h1, h2, h3, h⟩
  | m + 1, i, c, ps, fs, g, hl, hm, h1, h2, h3, h, hc => by
    obtain ⟨a, g1, e1, a0, a1, d1⟩ := take_ok (w := w) (k := k + 1) (i := 1) (hS.l.h rfl) h (by omega) (m := 4) (by decide)
    obtain ⟨b, g2, e2, b0, b1, d2⟩ := take_ok (w := w) (k := k + 1) (i := 1) (hS.l.h rfl) d1 (by omega) (m := 2) (by decide)
    obtain ⟨n, hn, _, r1⟩ := ratio2 (w := w) (k := k + 1) (g := g2) hS a0 (by omega) b0 b1
    obtain ⟨ls, g3, e3, l3, b3, d3⟩ := law_loads_ok (w := w) (k := k) (f := f) hS.l d2 (by omega) (by omega)
    obtain ⟨v, g4, e4, v0, v1, d4⟩ := take_ok (w := w) (k := k + 1) (i := 1) (hS.l.h rfl) d3 (by omega) (m := 4) (by decide)
    have bm : Bd 3 2 (mkRat a n) := bd_half hn (by omega)
    have m0 : 0 ≤ mkRat a n := mkRat_nn hn a0
    have e5 := law_mult_raw (w := w) (k := k) (g := g4) hS.l (r := mkRat a n) (p := v) (q := 3) (by decide) (fit_u bm (by decide) (by decide)) (by omega) (by decide)
    have bf : Bd 3 6 (mkRat a n * mkRat v 3) := bm.mul (bd_mk (A := 1) (z := v) (n := 3) (by decide) (by omega))
    have q0 : ((0 : Int) : Rat) ≤ mkRat v 3 := mk_ge (by decide) (by omega)
    have q1 : mkRat v 3 ≤ ((1 : Int) : Rat) := mk_le (by decide) (by omega)
    have z0 : ((0 : Int) : Rat) = 0 := rfl
    have z1 : ((1 : Int) : Rat) = 1 := rfl
    rw [z0] at q0
    rw [z1] at q1
    have f0 := Rat.mul_nonneg m0 q0
    have f1 := Rat.mul_nonneg m0 (show 0 ≤ 1 - mkRat v 3 by grind)
    have pok : PatOk f.joints.length ⟨ls, mkRat a n⟩ := ⟨l3, b3, bm, m0⟩
    obtain ⟨ps', fs', g', w1, w2, w3, w4, w5, w6, w7⟩ := si_loop hS nj (s2 := s2) (s3 := s3) (s4 := s4) m (i + 1) (c + 1 + 1 + 3 * f.joints.length + 1) (ps ++ [⟨ls, mkRat a n⟩]) (fs ++ [mkRat a n * mkRat v 3]) g4 (by simp [hl]) (by simp; omega) (fun p hp => by
      rcases List.mem_append.mp hp with h | h
      · exact h1 p h
      · rw [List.mem_singleton] at h; subst h; exact pok) (fun p hp => by
      rcases List.mem_append.mp hp with h | h
      · exact h2 p h
      · rw [List.mem_singleton] at h; subst h; exact bf) (fun p hp => by
      rw [List.zip_append hl] at hp
      rcases List.mem_append.mp hp with h | h
      · exact h3 p h
      · simp only [List.zip_cons_cons, List.zip_nil_right, List.mem_singleton] at h
        subst h
        exact ⟨f0, by show mkRat a n * mkRat v 3 ≤ mkRat a n; grind⟩) d4 (by omega)
    refine ⟨ps', fs', g', ?_, by rw [w2]; simp; omega, w3, w4, w5, w6, w7.mono (by omega)⟩
    rw [← w1, List.range'_succ, List.map_cons]
    have e : PyData.tuple [lsD ls, qD (mkRat a n)] = patD ⟨ls, mkRat a n⟩ := rfl
    have er : PyData.tuple [.int v, .int 3] = raw v 3 := rfl
    have l1 : ps.length < 16777216 := by omega
    have l2 : fs.length < 16777216 := by omega
    have bd : siBody (callN w T (k + 2)) [some .deal, some (.fz (frD f)), some s2, some s3, some s4, some (.ow (ps.map patD)), some (.ow (fs.map qD)), some (.fz (.int i)), none, none, none, none] g = .ok .nx [some .deal, some (.fz (frD f)), some s2, some s3, some s4, some (.ow ((ps ++ [(⟨ls, mkRat a n⟩ : Pat)]).map patD)), some (.ow ((fs ++ [mkRat a n * mkRat v 3]).map qD)), some (.fz (.int i)), some (.fz (qD (mkRat a n))), none, none, none] g4 := by
      unfold siBody
      rw [List.map_append, List.map_append]
      simp [e1, e2, r1, e3, e, l1, e4, er, e5, l2]
    generalize siBody (callN w T (k + 2)) = BB at *
    simp [-List.map_append, forL, bd]
theorem law_site_ok (hS : HS T) {f : Frame} {s : Stt} {gs : List Gau} {many c : Nat} {g : G} (hf : FrOk f 110 1) (hb : ∀ b ∈ f.bars, BarOk b) (nj : f.joints.length ≤ 40) (nb : f.bars.length ≤ 40) (nf : f.feet.length ≤ 20) (hs : StOk f s 18 8) (hg : ∀ x ∈ gs, GauOk f x) (ng : gs.length ≤ 40) (hm : many ≤ 20) (h : Dk c g) (hc : c < 2 ^ 27) :
    ∃ (S : Site) (fs : List Rat) (g' : G), callN w T (k + 5) 71 [.deal, .fz (frD f), .fz (stD s), .fz (.int many), .fz (.tuple (gs.map gauD))] g = .ok (.fz (.tuple [siD S, rowD fs])) g' ∧ S.f = f ∧ S.gs = gs ∧ SiOk S ∧ S.ps.length = many ∧ fs.length = many ∧ (∀ x ∈ fs, Bd 3 6 x) ∧ (∀ p ∈ S.ps.zip fs, 0 ≤ p.2 ∧ p.2 ≤ p.1.most) ∧ S.base = (underV (forcesV f s) (S.ps.zip fs)).map V2.neg ∧ Dk (c + 200 * many) g' := by
  obtain ⟨ps, fs, g1, r1, l1, l2, p1, f1, z1, d1⟩ := si_loop (w := w) (k := k + 2) hS (f := f) nj (s2 := .fz (stD s)) (s3 := .fz (.int many)) (s4 := .fz (.tuple (gs.map gauD))) many 0 c [] [] g rfl (by simp; omega) (fun p h => absurd h (by simp)) (fun p h => absurd h (by simp)) (fun p h => absurd h (by simp)) h (by omega)
  rw [← List.range_eq_range', ← rngD_nat, List.map_nil, List.map_nil] at r1
  simp only [List.length_nil, Nat.zero_add] at l1
  have hN : Sml (2001 * (18 * (110 + 110))) (8 * 1) := ⟨by decide, by decide +kernel, by decide +kernel⟩
  have s1 : Sml (110 + 110) 1 := ⟨by decide, by decide +kernel, by decide +kernel⟩
  have s2 : Sml 18 8 := ⟨by decide, by decide +kernel, by decide +kernel⟩
  have e1 := law_forces_ok (w := w) (k := k) (g := g1) hS.l hf hs s1 s2 hN
  have hz := forces_of_ok (w := 4000) (k := 0) (g := g1) (T := libT) ⟨fun h => h⟩ (by decide) hf hs s1 s2 hN
  obtain ⟨_, ll, bb⟩ := hz
  have bb2 : ∀ v ∈ forcesV f s, BdV 7920000 DU v := fun v hv => (bb v hv).mono (by decide) (by decide)
  have u1 := law_under_ok (w := w) (k := k + 1) (g := g1) hS (S := .tuple [frD f, lsD (forcesV f s), .tuple (ps.map patD)]) (F := .list (fs.map qD)) (base := forcesV f s) (ps := ps) (fs := fs) (ixU (n := 1) rfl rfl) (ixU (n := 2) rfl rfl) (.inr rfl) (by omega) (by omega) (by omega) (fun p hp => ⟨by rw [(p1 p hp).l]; exact ll.symm, (p1 p hp).b⟩) f1 bb2 (by decide)
  obtain ⟨e2, lu, bu⟩ := u1
  have bse : ∀ v ∈ (underV (forcesV f s) (ps.zip fs)).map V2.neg, BuV v := fun v hv => by
    rw [List.mem_map] at hv
    obtain ⟨x, hx, rfl⟩ := hv
    exact ((bu x hx).mono (by decide) (Nat.dvd_refl _)).neg
  have cm := fun (s5 s6 : SV) => compL_img (tg := gNm 11) (f := cD (cCall (callN w T (k + 4)) 64 (cACons (cVE 11) cANil))) (vs := [11]) (σ := [some .deal, some (.fz (frD f)), some (.fz (stD s)), some (.fz (.int many)), some (.fz (.tuple (gs.map gauD))), some s5, some s6, none, none, some (.fz (lsD (underV (forcesV f s) (ps.zip fs)))), none, none]) (g := g1) vD (fun v => vD v.neg) (underV (forcesV f s) (ps.zip fs)) [] (fun v hv => by
    have t := law_turned_ok (w := w) (k := k + 3) (g := g1) hS (v := v)
    exact ⟨[some .deal, some (.fz (frD f)), some (.fz (stD s)), some (.fz (.int many)), some (.fz (.tuple (gs.map gauD))), some s5, some s6, none, none, some (.fz (lsD (underV (forcesV f s) (ps.zip fs)))), none, some (.fz (vD v))], [some .deal, some (.fz (frD f)), some (.fz (stD s)), some (.fz (.int many)), some (.fz (.tuple (gs.map gauD))), some s5, some s6, none, none, some (.fz (lsD (underV (forcesV f s) (ps.zip fs)))), none, some (.fz (vD v))], by simp, by simp [t], by simp⟩) (by simp; omega)
  have cn1 : (underV (forcesV f s) (ps.zip fs)).map (fun m => vD m.neg) = ((underV (forcesV f s) (ps.zip fs)).map V2.neg).map vD := by rw [List.map_map]; rfl
  simp only [List.nil_append, cn1] at cm
  have sq : seqOf (lsD (underV (forcesV f s) (ps.zip fs))) = some ((underV (forcesV f s) (ps.zip fs)).map vD) := rfl
  have t1 : PyData.tuple ((forcesV f s).map vD) = lsD (forcesV f s) := rfl
  have t2 : PyData.tuple (((underV (forcesV f s) (ps.zip fs)).map V2.neg).map vD) = lsD ((underV (forcesV f s) (ps.zip fs)).map V2.neg) := rfl
  have t3 : PyData.tuple (fs.map qD) = rowD fs := rfl
  have t4 : PyData.tuple [frD f, lsD ((underV (forcesV f s) (ps.zip fs)).map V2.neg), .tuple (ps.map patD), .tuple (gs.map gauD)] = siD ⟨f, (underV (forcesV f s) (ps.zip fs)).map V2.neg, ps, gs⟩ := rfl
  have rg := rng1N (n := many) (by omega)
  refine ⟨⟨f, (underV (forcesV f s) (ps.zip fs)).map V2.neg, ps, gs⟩, fs, g1, ?_, rfl, rfl, ?_, l1, by omega, f1, z1, rfl, d1⟩
  · have cut : b_law_site (callN w T (k + 4)) w = (sSeq (sAsg 5 (cLst cNil)) (sSeq (sAsg 6 (cLst cNil)) (sSeq (sFor (iR1 (cVP 3)) (gNm 7) (siBody (callN w T (k + 4))))
      (sSeq (sAsg 9 (cCall (callN w T (k + 4)) 65 (cACons (cTup (cCons (cD (cVE 1)) (cCons (cD (c1 pyTuple (cD (cCall (callN w T (k + 4)) 51 (cACons (cVE 1) (cACons (cVE 2) cANil)))))) (cCons (cD (c1 pyTuple (cVP 5))) cNil)))) (cACons (cVE 6) cANil))))
      (sSeq (sAsg 10 (c1 pyTuple (cD (cLc (iSeq (cD (cVE 9))) [11] (gNm 11) cYes (cD (cCall (callN w T (k + 4)) 64 (cACons (cVE 11) cANil)))))))
      (sRet (cTup (cCons (cD (cTup (cCons (cD (cVE 1)) (cCons (cD (cVE 10)) (cCons (cD (c1 pyTuple (cVP 5))) (cCons (cD (cVE 4)) cNil)))))) (cCons (cD (c1 pyTuple (cVP 6))) cNil))))))))) := rfl
    rw [callN_at (hS.h (i := 71) rfl)]
    simp only [semF, cut]
    generalize siBody (callN w T (k + 4)) = BB at *
    generalize rngD 0 (many : Int) = R at *
    generalize ((underV (forcesV f s) (ps.zip fs)).map V2.neg).map vD = X1 at *
    generalize lsD ((underV (forcesV f s) (ps.zip fs)).map V2.neg) = X2 at *
    generalize (forcesV f s).map vD = X3 at *
    simp [-seqOf, runF, rg, r1, e1, t1, e2, sq, cLc, cm, t2, t3, t4]
  · refine ⟨hf.mono (by decide) (Nat.one_dvd _), fun b hb' p hp => ((hb b hb').lim p hp).1.mono (by decide) (by decide), nj, nb, nf, ?_, bse, by show ps.length ≤ 20; omega, fun p hp => ?_, ng, fun x hx => ?_⟩
    · show ((underV (forcesV f s) (ps.zip fs)).map V2.neg).length = _
      rw [List.length_map, lu, ll]
    · have := p1 p hp
      exact ⟨this.l, fun v hv => (this.b v hv).mono (by decide) (Nat.one_dvd _), this.m.mono (by decide) (by decide)⟩
    · have := hg x hx
      exact ⟨this.b, this.e.mono (by decide) (by decide), this.u.mono (by decide) (by decide)⟩
theorem rd_loop (hS : HS T) {f : Frame} {s : Stt} (hs : StOk f s 18 8) {s1 : SV} : ∀ (gs : List Gau) (c : Nat) (rd : List Rat) (g : G), (∀ x ∈ gs, GauOk f x) → rd.length + gs.length ≤ 1000 → Dk c g → c + gs.length < 2 ^ 30 → ∃ (rd' : List Rat) (g' : G),
    forL (gNm 4) (sApp 3 (cD (cCall (callN w T (k + 2)) 5 (cACons (c2 pyIx (cD (cVIx 2 (cD (cK (.int 0))))) (cD (cVIx 4 (cD (cK (.int 0)))))) (cACons (cCall (callN w T (k + 2)) 7 (cACons (cVIx 4 (cD (cK (.int 1)))) (cACons (cTup (cCons (cD (c2 pySub (cD (cCall (callN w T (k + 2)) 1 (cACons (cVE 0) (cACons (cK (.int 5)) cANil)))) (cD (cK (.int 2))))) (cCons (cD (cK (.int 2))) cNil))) cANil))) cANil))))) (gs.map gauD) [some .deal, some s1, some (.fz (stD s)), some (.ow (rd.map qD)), none] g
      = .ok .nx [some .deal, some s1, some (.fz (stD s)), some (.ow ((rd ++ rd').map qD)), none] g' ∧ rd'.length = gs.length ∧ (∀ p ∈ gs.zip rd', Bd 20 8 p.2 ∧ -p.1.e ≤ p.2 - s.qs.getD p.1.b 0 ∧ p.2 - s.qs.getD p.1.b 0 ≤ p.1.e) ∧ Dk (c + gs.length) g'
  | [], c, rd, g, _, _, h, _ => ⟨[], g, by simp [forL], rfl, fun p h => absurd h (by simp), h⟩
  | x :: gs, c, rd, g, hg, hl, h, hc => by
    rw [List.length_cons] at hl hc
    obtain ⟨v, g1, e1, v0, v1, d1⟩ := take_ok (w := w) (k := k + 1) (i := 1) (hS.l.h rfl) h (by omega) (m := 5) (by decide)
    have ok := hg x List.mem_cons_self
    have lx : x.b < s.qs.length := by rw [hs.nq]; exact ok.b
    have qg := qGetU (l := s.qs) lx
    have bq := hs.bq _ (getD_mem lx)
    have e2 := law_mult_raw (w := w) (k := k) (g := g1) hS.l (r := x.e) (p := v - 2) (q := 2) (by decide) (fit_u ok.e (by decide) (by decide)) (by omega) (by decide)
    have be : Bd 2 4 (x.e * mkRat (v - 2) 2) := ok.e.mul (bd_mk (A := 1) (z := v - 2) (n := 2) (by decide) (by omega))
    have br : Bd 20 8 (s.qs.getD x.b 0 + x.e * mkRat (v - 2) 2) := bq.add (be.mono (Nat.le_refl _) (by decide))
    have e3 := law_plus_ok (w := w) (k := k) (g := g1) hS.l (fit_u bq (by decide) (by decide)) (fit_u be (by decide) (by decide))
    have q0 : ((-1 : Int) : Rat) ≤ mkRat (v - 2) 2 := mk_ge (by decide) (by omega)
    have q1 : mkRat (v - 2) 2 ≤ ((1 : Int) : Rat) := mk_le (by decide) (by omega)
    have z0 : ((-1 : Int) : Rat) = -1 := rfl
    have z1 : ((1 : Int) : Rat) = 1 := rfl
    rw [z0] at q0
    rw [z1] at q1
    have m1 := Rat.mul_nonneg ok.e0 (show 0 ≤ 1 - mkRat (v - 2) 2 by grind)
    have m2 := Rat.mul_nonneg ok.e0 (show 0 ≤ mkRat (v - 2) 2 + 1 by grind)
    obtain ⟨rd', g', w1, w2, w3, w4⟩ := rd_loop hS hs (s1 := s1) gs (c + 1) (rd ++ [s.qs.getD x.b 0 + x.e * mkRat (v - 2) 2]) g1 (fun y hy => hg y (List.mem_cons_of_mem _ hy)) (by simp; omega) d1 (by omega)
    refine ⟨(s.qs.getD x.b 0 + x.e * mkRat (v - 2) 2) :: rd', g', ?_, by simp [w2], fun p hp => ?_, w4.mono (by rw [List.length_cons]; omega)⟩
    · rw [show rd ++ ((s.qs.getD x.b 0 + x.e * mkRat (v - 2) 2) :: rd') = rd ++ [s.qs.getD x.b 0 + x.e * mkRat (v - 2) 2] ++ rd' by simp, ← w1]
      have er : PyData.tuple [.int (v - 2), .int 2] = raw (v - 2) 2 := rfl
      have al : rd.length < 16777216 := by omega
      rw [List.map_append]
      generalize s.qs.getD x.b 0 = Q at *
      simp [forL, st0, qg, ga0, ga1, e1, er, e2, e3, al]
    · rw [List.zip_cons_cons] at hp
      rcases List.mem_cons.mp hp with rfl | hp
      · refine ⟨br, ?_, ?_⟩
        · show -x.e ≤ s.qs.getD x.b 0 + x.e * mkRat (v - 2) 2 - s.qs.getD x.b 0
          grind
        · show s.qs.getD x.b 0 + x.e * mkRat (v - 2) 2 - s.qs.getD x.b 0 ≤ x.e
          grind
      · exact w3 p hp
theorem law_read_ok (hS : HS T) {S : Site} {s : Stt} {c : Nat} {g : G} (hs : StOk S.f s 18 8) (hg : ∀ x ∈ S.gs, GauOk S.f x) (ng : S.gs.length ≤ 40) (h : Dk c g) (hc : c < 2 ^ 29) :
    ∃ (rd : List Rat) (g' : G), callN w T (k + 3) 72 [.deal, .fz (siD S), .fz (stD s)] g = .ok (.fz (rowD rd)) g' ∧ rd.length = S.gs.length ∧ (∀ p ∈ S.gs.zip rd, Bd 20 8 p.2 ∧ -p.1.e ≤ p.2 - s.qs.getD p.1.b 0 ∧ p.2 - s.qs.getD p.1.b 0 ≤ p.1.e) ∧ Dk (c + S.gs.length) g' := by
  obtain ⟨rd, g', w1, w2, w3, w4⟩ := rd_loop (w := w) (k := k) hS hs (s1 := .fz (siD S)) S.gs c [] g hg (by simp; omega) h (by omega)
  rw [List.nil_append, List.map_nil] at w1
  have t : PyData.tuple (rd.map qD) = rowD rd := rfl
  refine ⟨rd, g', ?_, w2, w3, w4⟩
  rw [callN_at (hS.h (i := 72) rfl)]
  generalize rd.map qD = X at *
  simp [semF, runF, b_law_read, si3, w1, t]
theorem nu_loop (hS : HS T) {s1 : SV} : ∀ (m i c : Nat) (acc : List D) (g : G), acc.length + m ≤ 1000 → Dk c g → c + 2 * m < 2 ^ 30 → ∃ (xs : List Rat) (g' : G),
    compL (gNm 2) cYes (cD (cCall (callN w T (k + 2)) 4 (cACons (c2 pySub (cD (cCall (callN w T (k + 2)) 1 (cACons (cVE 0) (cACons (cK (.int 7)) cANil)))) (cD (cK (.int 3)))) (cACons (c2 pyAdd (cD (cK (.int 1))) (cD (cCall (callN w T (k + 2)) 1 (cACons (cVE 0) (cACons (cK (.int 2)) cANil))))) cANil)))) [2] ((List.range' i m).map fun (j : Nat) => PyData.int j) acc [some .deal, some s1, none] g
      = .ok (acc ++ xs.map qD) [some .deal, some s1, none] g' ∧ xs.length = m ∧ (∀ x ∈ xs, Bd 3 2 x) ∧ Dk (c + 2 * m) g'
  | 0, i, c, acc, g, _, h, _ => ⟨[], g, by simp [compL], rfl, fun x h => absurd h (by simp), h⟩
  | m + 1, i, c, acc, g, hl, h, hc => by
    obtain ⟨a, g1, e1, a0, a1, d1⟩ := take_ok (w := w) (k := k + 1) (i := 1) (hS.l.h rfl) h (by omega) (m := 7) (by decide)
    obtain ⟨b, g2, e2, b0, b1, d2⟩ := take_ok (w := w) (k := k + 1) (i := 1) (hS.l.h rfl) d1 (by omega) (m := 2) (by decide)
    obtain ⟨n, rfl⟩ : ∃ n : Nat, b = n := ⟨b.toNat, by omega⟩
    have hn : n + 1 = 1 ∨ n + 1 = 2 := by omega
    have r := law_ratio_at (w := w) (k := k + 1) (g := g2) hS.l (p := a - 3) (q := n + 1) (by omega) (Nat.lt_of_le_of_lt (show (a - 3).natAbs ≤ 6 by omega) (by decide)) (Nat.lt_of_le_of_lt (show n + 1 ≤ 2 by omega) (by decide))
    have cst : (((n + 1 : Nat) : Int)) = 1 + (n : Int) := by omega
    rw [cst] at r
    have al : acc.length < 16777216 := by omega
    obtain ⟨xs, g', w1, w2, w3, w4⟩ := nu_loop hS (s1 := s1) m (i + 1) (c + 1 + 1) (acc ++ [qD (mkRat (a - 3) (n + 1))]) g2 (by simp; omega) d2 (by omega)
    refine ⟨mkRat (a - 3) (n + 1) :: xs, g', ?_, by simp [w2], fun x hx => ?_, w4.mono (by omega)⟩
    · rw [List.range'_succ, List.map_cons, List.map_cons, show ∀ (x : D) (l : List D), acc ++ (x :: l) = acc ++ [x] ++ l from fun x l => by simp, ← w1]
      simp [compL, e1, e2, r, al]
    · rcases List.mem_cons.mp hx with rfl | hx
      · exact bd_half hn (by omega)
      · exact w3 x hx
theorem law_numbers_ok (hS : HS T) {many c : Nat} {g : G} (hm : many ≤ 500) (h : Dk c g) (hc : c < 2 ^ 29) : ∃ (xs : List Rat) (g' : G), callN w T (k + 3) 82 [.deal, .fz (.int many)] g = .ok (.fz (rowD xs)) g' ∧ xs.length = many ∧ (∀ x ∈ xs, Bd 3 2 x) ∧ Dk (c + 1 + 2 * many) g' := by
  obtain ⟨v, g1, e1, lo, hi, d1⟩ := take_ok (w := w) (k := k + 1) (i := 1) (hS.l.h rfl) h (by omega) (m := 4) (by decide)
  by_cases z : v = 0
  · have zm := zeros_mul (n := many) (by omega)
    refine ⟨zerosR many, g1, ?_, zerosR_len _, fun x hx => ?_, d1.mono (by omega)⟩
    · rw [callN_at (hS.h (i := 82) rfl)]
      simp [semF, runF, b_law_numbers, e1, z, q0_lit, zm]
    · unfold zerosR at hx
      rw [(List.mem_replicate.mp hx).2]
      exact Bd.zero _ _
  · obtain ⟨xs, g', w1, w2, w3, w4⟩ := nu_loop (w := w) (k := k) hS (s1 := .fz (.int many)) many 0 (c + 1) [] g1 (by simp; omega) d1 (by omega)
    rw [List.nil_append, ← List.range_eq_range', ← rngD_nat] at w1
    have rg := rng1N (n := many) (by omega)
    have t : PyData.tuple (xs.map qD) = rowD xs := rfl
    refine ⟨xs, g', ?_, w2, w3, w4⟩
    rw [callN_at (hS.h (i := 82) rfl)]
    generalize xs.map qD = X at *
    generalize rngD 0 (many : Int) = R at *
    simp [semF, runF, b_law_numbers, e1, z, rg, cLc, w1, t]
theorem law_with_ok (hS : HS T) {g : G} {xs : List Rat} {i : Nat} {t : Rat} (h : i < xs.length) (hl : xs.length ≤ 10000) : callN w T (k + 1) 61 [.fz (rowD xs), .fz (.int i), .fz (qD t)] g = .ok (.fz (rowD (xs.set i t))) g := by
  have c1 : cut (xs.map qD) none (some (i : Int)) = (xs.take i).map qD := by rw [cutTo rfl (by rw [List.length_map]; omega), List.map_take]
  have c2 : cut (xs.map qD) (some ((i : Int) + 1)) none = (xs.drop (i + 1)).map qD := by rw [cutFrom (n := i + 1) (by omega), List.map_drop]
  have s1 : pySlice (rowD xs) none (some (i : Int)) = some (.fz (.tuple ((xs.take i).map qD))) := by rw [← c1]; rfl
  have s2 : pySlice (rowD xs) (some ((i : Int) + 1)) none = some (.fz (.tuple ((xs.drop (i + 1)).map qD))) := by rw [← c2]; rfl
  have a1 : pyAdd (.tuple ((xs.take i).map qD)) (.tuple [qD t]) = some (.fz (.tuple ((xs.take i).map qD ++ [qD t]))) := addU (by simp; omega)
  have a2 : pyAdd (.tuple ((xs.take i).map qD ++ [qD t])) (.tuple ((xs.drop (i + 1)).map qD)) = some (.fz (rowD (xs.set i t))) := by
    rw [addU (by simp; omega), List.set_eq_take_append_cons_drop, if_pos h]
    unfold rowD
    rw [List.map_append, List.map_cons, List.append_assoc]
    rfl
  rw [callN_at (hS.h (i := 61) rfl)]
  generalize (xs.take i).map qD = X at *
  generalize (xs.drop (i + 1)).map qD = Y at *
  generalize rowD (xs.set i t) = Z at *
  generalize hR : rowD xs = R at *
  simp [semF, runF, b_law_with, s1, s2, a1, a2]
theorem law_worth_ok (hS : HS T) {g : G} {f : Frame} {s : Stt} {tp tb fs : List Rat} (hs : StOk f s 18 8) (b1 : ∀ x ∈ tp, Bu x) (b2 : ∀ x ∈ tb, Bu x) (b3 : ∀ x ∈ fs, Bd 3 6 x) (l1 : tp.length = fs.length) (l2 : tb.length = f.bars.length) (l3 : tp.length ≤ 40) (l4 : tb.length ≤ 40) :
    callN w T (k + 4) 67 [.fz (stD ⟨tp, tb⟩), .fz (rowD fs), .fz (stD s)] g = .ok (.fz (qD (dotR tp fs + dotR tb s.qs))) g ∧ Bd (80 * (AU * AU)) (DU * DU) (dotR tp fs + dotR tb s.qs) := by
  have bf : ∀ x ∈ fs, Bu x := fun x hx => (b3 x hx).mono (by decide) (by decide)
  have bq : ∀ x ∈ s.qs, Bu x := fun x hx => (hs.bq x hx).mono (by decide) (by decide)
  have t1 : ∀ {n : Nat}, n ≤ 40 → Sml ((n + 1) * (AU * AU)) (DU * DU) := fun {n} h => Sml.mono (B := 41 * (AU * AU)) (e := DU * DU) ⟨by decide, by decide +kernel, by decide +kernel⟩ (Nat.mul_le_mul_right _ (by omega)) (Nat.le_refl _) (by decide)
  have e1 := law_dot_ok (w := w) (k := k) (g := g) hS.l (row_rowD tp) (row_rowD fs) b1 bf (by omega) (by omega) (t1 l3) sU sU
  have e2 := law_dot_ok (w := w) (k := k) (g := g) hS.l (row_rowD tb) (row_rowD s.qs) b2 bq (by rw [hs.nq]; omega) (by omega) (t1 l4) sU sU
  have d1 := dotR_bd tp fs b1 bf
  have d2 := dotR_bd tb s.qs b2 bq
  have u : ∀ {n : Nat} {r : Rat}, n ≤ 40 → Bd (n * (AU * AU)) (DU * DU) r → Bd (40 * (AU * AU)) (DU * DU) r := fun h b => b.mono (Nat.mul_le_mul_right _ h) (Nat.dvd_refl _)
  have sm : Sml (80 * (AU * AU)) (DU * DU) := ⟨by decide, by decide +kernel, by decide +kernel⟩
  have f1 := (u l3 d1).fit (sm.mono (Nat.mul_le_mul_right _ (by decide)) (Nat.le_refl _) (by decide))
  have f2 := (u l4 d2).fit (sm.mono (Nat.mul_le_mul_right _ (by decide)) (Nat.le_refl _) (by decide))
  have e3 := law_plus_ok (w := w) (k := k + 1) (g := g) hS.l f1 f2
  have s0 := st0 ⟨tp, tb⟩
  have s1 := st1 ⟨tp, tb⟩
  simp only at s0 s1
  refine ⟨?_, ((u l3 d1).add (u l4 d2)).mono (by omega) (Nat.dvd_refl _)⟩
  rw [callN_at (hS.h (i := 67) rfl)]
  simp [semF, runF, b_law_worth, s0, s1, st0, e1, e2, e3]
end
end
end FD
/-! FDS9: trusses that the law draws. -/
namespace FD
noncomputable section
open PySem
def trTail (ct : CT) : Ev Fl := (sSeq (sAsg 8 (c1 pyTuple (cD (cLc (iR1 (cD (c1 pyLen (cVP 5)))) [9] (gNm 9) cYes (cD (cTup (cCons (cD (c2 pyAdd (cD (cK (.str "b"))) (cD (c1 pyStr (cVP 9))))) (cCons (cD (c2 pyIx (cD (cVIx 5 (cVP 9))) (cD (cK (.int 0))))) (cCons (cD (c2 pyIx (cD (cVIx 5 (cVP 9))) (cD (cK (.int 1))))) (cCons (cD (cCall ct 57 (cACons (cVE 0) cANil))) (cCons (cD (cCall ct 57 (cACons (cVE 0) cANil))) (cCons (cD (cTup (cCons (cD (cCall ct 1 (cACons (cVE 0) (cACons (cK (.int 3)) cANil)))) (cCons (cD (cK (.int 1))) cNil)))) cNil))))))))))))
  (sRet (cTup (cCons (cD (cK (.str "p"))) (cCons (cD (c1 pyTuple (cD (cLc (iR1 (cD (c1 pyLen (cVP 4)))) [9] (gNm 9) cYes (cD (cTup (cCons (cD (c2 pyAdd (cD (cK (.str "j"))) (cD (c1 pyStr (cVP 9))))) (cCons (cD (cVIx 4 (cVP 9))) cNil)))))))) (cCons (cD (c1 pyTuple (cVP 6))) (cCons (cD (cVE 8)) cNil)))))))
def trA (ct : CT) : Ev Fl := (sSeq (sAsg 4 (cLst (cCons (cD (cTup (cCons (cD (cTup (cCons (cD (cK (.int 0))) (cCons (cD (cK (.int 1))) cNil)))) (cCons (cD (cTup (cCons (cD (cK (.int 0))) (cCons (cD (cK (.int 1))) cNil)))) cNil)))) (cCons (cD (cTup (cCons (cD (cTup (cCons (cD (c2 pyAdd (cD (cK (.int 1))) (cD (cCall ct 1 (cACons (cVE 0) (cACons (cK (.int 3)) cANil)))))) (cCons (cD (cK (.int 1))) cNil)))) (cCons (cD (cTup (cCons (cD (cCall ct 1 (cACons (cVE 0) (cACons (cK (.int 2)) cANil)))) (cCons (cD (cK (.int 1))) cNil)))) cNil)))) cNil))))
    (sSeq (sAsg 5 (cLst (cCons (cD (cTup (cCons (cD (cK (.int 0))) (cCons (cD (cK (.int 1))) cNil)))) cNil)))
    (sAsg 6 (cLst (cCons (cD (cTup (cCons (cD (cK (.int 0))) (cCons (cD (cVE 2)) (cCons (cD (cK (.str "both"))) cNil))))) (cCons (cD (cTup (cCons (cD (cK (.int 0))) (cCons (cD (cVE 3)) (cCons (cD (cK (.str "both"))) cNil))))) (cCons (cD (cTup (cCons (cD (cK (.int 1))) (cCons (cD (cVE 2)) (cCons (cD (cK (.str "both"))) cNil))))) (cCons (cD (cTup (cCons (cD (cK (.int 1))) (cCons (cD (cVE 3)) (cCons (cD (cK (.str "both"))) cNil))))) cNil))))))))
def trB (ct : CT) : Ev Fl := (sSeq (sAsg 4 (cLst (cCons (cD (cTup (cCons (cD (cTup (cCons (cD (cK (.int 0))) (cCons (cD (cK (.int 1))) cNil)))) (cCons (cD (cTup (cCons (cD (cK (.int 0))) (cCons (cD (cK (.int 1))) cNil)))) cNil)))) (cCons (cD (cTup (cCons (cD (cTup (cCons (cD (cK (.int 2))) (cCons (cD (cK (.int 1))) cNil)))) (cCons (cD (cTup (cCons (cD (cK (.int 0))) (cCons (cD (cK (.int 1))) cNil)))) cNil)))) (cCons (cD (cTup (cCons (cD (cTup (cCons (cD (cK (.int 4))) (cCons (cD (cK (.int 1))) cNil)))) (cCons (cD (cTup (cCons (cD (cK (.int 0))) (cCons (cD (cK (.int 1))) cNil)))) cNil)))) (cCons (cD (cTup (cCons (cD (cTup (cCons (cD (cCall ct 1 (cACons (cVE 0) (cACons (cK (.int 5)) cANil)))) (cCons (cD (cK (.int 1))) cNil)))) (cCons (cD (cTup (cCons (cD (c2 pyAdd (cD (cK (.int 1))) (cD (cCall ct 1 (cACons (cVE 0) (cACons (cK (.int 3)) cANil)))))) (cCons (cD (cK (.int 1))) cNil)))) cNil)))) cNil))))))
      (sSeq (sAsg 5 (cLst (cCons (cD (cTup (cCons (cD (cK (.int 0))) (cCons (cD (cK (.int 3))) cNil)))) (cCons (cD (cTup (cCons (cD (cK (.int 1))) (cCons (cD (cK (.int 3))) cNil)))) (cCons (cD (cTup (cCons (cD (cK (.int 2))) (cCons (cD (cK (.int 3))) cNil)))) cNil)))))
      (sSeq (sAsg 6 (cLst cNil))
      (sFor (iR1 (cD (cK (.int 3)))) (gNm 7)
        (sAsg 6 (c2 pyAdd (cVP 6) (cD (cLst (cCons (cD (cTup (cCons (cD (cVE 7)) (cCons (cD (cVE 2)) (cCons (cD (cK (.str "both"))) cNil))))) (cCons (cD (cTup (cCons (cD (cVE 7)) (cCons (cD (cVE 3)) (cCons (cD (cK (.str "both"))) cNil))))) cNil))))))))))
def trC (ct : CT) : Ev Fl := (sSeq (sAsg 4 (cLst (cCons (cD (cTup (cCons (cD (cTup (cCons (cD (cK (.int 0))) (cCons (cD (cK (.int 1))) cNil)))) (cCons (cD (cTup (cCons (cD (cK (.int 0))) (cCons (cD (cK (.int 1))) cNil)))) cNil)))) (cCons (cD (cTup (cCons (cD (cTup (cCons (cD (c2 pyAdd (cD (cK (.int 2))) (cD (cCall ct 1 (cACons (cVE 0) (cACons (cK (.int 2)) cANil)))))) (cCons (cD (cK (.int 1))) cNil)))) (cCons (cD (cTup (cCons (cD (cK (.int 0))) (cCons (cD (cK (.int 1))) cNil)))) cNil)))) (cCons (cD (cTup (cCons (cD (cTup (cCons (cD (cCall ct 1 (cACons (cVE 0) (cACons (cK (.int 4)) cANil)))) (cCons (cD (cK (.int 1))) cNil)))) (cCons (cD (cTup (cCons (cD (c2 pyAdd (cD (cK (.int 1))) (cD (cCall ct 1 (cACons (cVE 0) (cACons (cK (.int 3)) cANil)))))) (cCons (cD (cK (.int 1))) cNil)))) cNil)))) cNil)))))
      (sSeq (sAsg 5 (cLst (cCons (cD (cTup (cCons (cD (cK (.int 0))) (cCons (cD (cK (.int 1))) cNil)))) (cCons (cD (cTup (cCons (cD (cK (.int 0))) (cCons (cD (cK (.int 2))) cNil)))) (cCons (cD (cTup (cCons (cD (cK (.int 1))) (cCons (cD (cK (.int 2))) cNil)))) cNil)))))
      (sAsg 6 (cLst (cCons (cD (cTup (cCons (cD (cK (.int 0))) (cCons (cD (cVE 2)) (cCons (cD (cK (.str "both"))) cNil))))) (cCons (cD (cTup (cCons (cD (cK (.int 0))) (cCons (cD (cVE 3)) (cCons (cD (cK (.str "both"))) cNil))))) (cCons (cD (cTup (cCons (cD (cK (.int 1))) (cCons (cD (cVE 3)) (cCons (cD (c2 pyIx (cD (cLst (cCons (cD (cK (.str "both"))) (cCons (cD (cK (.str "push"))) cNil)))) (cD (c1 pyInt (cD (cB (cCmp pyEq (cD (cCall ct 1 (cACons (cVE 0) (cACons (cK (.int 3)) cANil)))) (cD (cK (.int 0)))))))))) cNil))))) cNil)))))))
theorem b_law_truss_cut (ct : CT) (w : Nat) : b_law_truss ct w = (sSeq (sAsg 1 (cCall ct 1 (cACons (cVE 0) (cACons (cK (.int 5)) cANil))))
  (sSeq (sIf (cCmp pyEq (cVP 1) (cD (cK (.int 4))))
    (sRet (cCall ct 58 (cACons (cVE 0) (cACons (cK (.int 1)) cANil))))
    sPass)
  (sSeq (sAsg 2 (cTup (cCons (cD (cTup (cCons (cD (cK (.int 1))) (cCons (cD (cK (.int 1))) cNil)))) (cCons (cD (cTup (cCons (cD (cK (.int 0))) (cCons (cD (cK (.int 1))) cNil)))) cNil))))
  (sSeq (sAsg 3 (cTup (cCons (cD (cTup (cCons (cD (cK (.int 0))) (cCons (cD (cK (.int 1))) cNil)))) (cCons (cD (cTup (cCons (cD (c2 pyAdd (cD (cK (.int 1))) (cD (cCall ct 1 (cACons (cVE 0) (cACons (cK (.int 2)) cANil)))))) (cCons (cD (cK (.int 1))) cNil)))) cNil))))
  (sSeq (sIf (cCmp pyEq (cVP 1) (cD (cK (.int 2))))
    (trA ct)
    (sIf (cCmp pyEq (cVP 1) (cD (cK (.int 3))))
      (trB ct)
      (trC ct)))
  (trTail ct)))))) := rfl
structure Truss (f : Frame) : Prop where
  ok : FrOk f 110 1
  bs : ∀ b ∈ f.bars, BarOk b
  nj : f.joints.length ≤ 10
  nb : f.bars.length ≤ 20
  nf : f.feet.length ≤ 6
  b1 : 1 ≤ f.bars.length
def tbEv (ct : CT) : Ev D := cD (cTup (cCons (cD (c2 pyAdd (cD (cK (.str "b"))) (cD (c1 pyStr (cVP 9))))) (cCons (cD (c2 pyIx (cD (cVIx 5 (cVP 9))) (cD (cK (.int 0))))) (cCons (cD (c2 pyIx (cD (cVIx 5 (cVP 9))) (cD (cK (.int 1))))) (cCons (cD (cCall ct 57 (cACons (cVE 0) cANil))) (cCons (cD (cCall ct 57 (cACons (cVE 0) cANil))) (cCons (cD (cTup (cCons (cD (cCall ct 1 (cACons (cVE 0) (cACons (cK (.int 3)) cANil)))) (cCons (cD (cK (.int 1))) cNil)))) cNil)))))))
section
variable {w k : Nat} {T : List Fn}
theorem tbars_loop (hL : HL T) {s1 s2 s3 s4 s6 : Option SV} {ps : List (Nat × Nat)} : ∀ (m i c : Nat) (acc : List D) (g : G), i + m = ps.length → ps.length ≤ 63 → acc.length + m ≤ 1000 → Dk c g → c + 7 * m < 2 ^ 31 → ∃ (bs : List Bar) (g' : G),
    compL (gNm 9) cYes (tbEv (callN w T (k + 2))) [9] ((List.range' i m).map fun (j : Nat) => PyData.int j) acc [some .deal, s1, s2, s3, s4, some (.ow (ps.map prD)), s6, none, none, none] g
      = .ok (acc ++ bs.map barD) [some .deal, s1, s2, s3, s4, some (.ow (ps.map prD)), s6, none, none, none] g' ∧ bs.map (fun b => (b.i, b.j)) = ps.drop i ∧ (∀ b ∈ bs, BarOk b) ∧ Dk (c + 7 * m) g'
  | 0, i, c, acc, g, hi, _, _, h, _ => ⟨[], g, by simp [compL], by rw [List.drop_of_length_le (by omega)]; rfl, fun b h => absurd h (by simp), h⟩
  | m + 1, i, c, acc, g, hi, h64, hl, h, hc => by
    obtain ⟨o1, g1, e1, b1, d1⟩ := law_limit_ok (w := w) (k := k) hL h (by omega)
    obtain ⟨o2, g2, e2, b2, d2⟩ := law_limit_ok (w := w) (k := k) hL d1 (by omega)
    obtain ⟨v, g3, e3, lo, hi3, d3⟩ := take_ok (w := w) (k := k + 1) (i := 1) (hL.h rfl) d2 (by omega) (m := 3) (by decide)
    have li : i < ps.length := by omega
    have ix : pyIx (.list (ps.map prD)) (.int i) = some (.fz (prD ps[i])) := ixL rfl (by rw [List.getElem?_map, List.getElem?_eq_getElem li]; rfl)
    have bd : PyData.tuple [.str (nmS "b" i), .int ps[i].1, .int ps[i].2, oqD o1, oqD o2, qD ((v : Int) : Rat)] = barD ⟨nmS "b" i, ps[i].1, ps[i].2, o1, o2, ((v : Int) : Rat)⟩ := rfl
    have sa := strN (k := i) (by omega)
    have sb := addBN (k := i) (by omega)
    obtain ⟨bs, g', r1, r2, r4, r5⟩ := tbars_loop hL (s1 := s1) (s2 := s2) (s3 := s3) (s4 := s4) (s6 := s6) (ps := ps) m (i + 1) (c + 3 + 3 + 1) (acc ++ [barD ⟨nmS "b" i, ps[i].1, ps[i].2, o1, o2, ((v : Int) : Rat)⟩]) g3 (by omega) h64 (by simp; omega) d3 (by omega)
    refine ⟨⟨nmS "b" i, ps[i].1, ps[i].2, o1, o2, ((v : Int) : Rat)⟩ :: bs, g', ?_, ?_, ?_, r5.mono (by omega)⟩
    · rw [List.range'_succ, List.map_cons]
      have al : acc.length < 16777216 := by omega
      rw [List.map_cons, show ∀ (x : D) (l : List D), acc ++ (x :: l) = acc ++ [x] ++ l from fun x l => by simp, ← r1]
      simp [compL, tbEv, sa, sb, ix, pr_ix0, pr_ix1, e1, e2, e3, qI, bd, al]
    · rw [List.map_cons, r2, List.drop_eq_getElem_cons li]
    · intro b hb
      rcases List.mem_cons.mp hb with rfl | hb
      · refine ⟨fun p hp => ?_, bd_int (by omega)⟩
        rcases hp with h | h
        · exact b1 p h
        · exact b2 p h
      · exact r4 b hb
theorem trTail_ok (hL : HL T) {c : Nat} {g : G} {s1 s2 s3 : SV} {ps : List (Nat × Nat)} {vs : List V2} {fs : List Foot} (h : Dk c g) (hc : c < 2 ^ 30) (hv : vs.length ≤ 10) (bv : ∀ v ∈ vs, BdV 110 1 v) (h1 : 1 ≤ ps.length) (h2 : ps.length ≤ 20) (hp : ∀ p ∈ ps, PrOk vs.length p) (hf : fs.length ≤ 6) (bf : ∀ t ∈ fs, t.at_ < vs.length ∧ BdV 110 1 t.way) :
    ∃ (f : Frame) (g' : G) (σ : Sl), trTail (callN w T (k + 2)) [some .deal, some s1, some s2, some s3, some (.ow (vs.map vD)), some (.ow (ps.map prD)), some (.ow (fs.map footD)), none, none, none] g = .ok (.rt (.fz (frD f))) σ g' ∧ Truss f ∧ Dk (c + 200) g' := by
  obtain ⟨bs, g1, r1, r2, r4, r5⟩ := tbars_loop (w := w) (k := k) hL (s1 := some s1) (s2 := some s2) (s3 := some s3) (s4 := some (.ow (vs.map vD))) (s6 := some (.ow (fs.map footD))) (ps := ps) ps.length 0 c [] g (by omega) (by omega) (by simp; omega) h (by omega)
  rw [List.nil_append, ← List.range_eq_range', ← rngD_nat] at r1
  rw [List.drop_zero] at r2
  have lb : bs.length = ps.length := by rw [← r2, List.length_map]
  have rg1 := rng1N (n := ps.length) (by omega)
  have rg2 := rng1N (n := vs.length) (by omega)
  have cm := fun (s8 : Option SV) => compL_img (tg := gNm 9) (f := cD (cTup (cCons (cD (c2 pyAdd (cD (cK (.str "j"))) (cD (c1 pyStr (cVP 9))))) (cCons (cD (cVIx 4 (cVP 9))) cNil)))) (vs := [9]) (σ := [some .deal, some s1, some s2, some s3, some (.ow (vs.map vD)), some (.ow (ps.map prD)), some (.ow (fs.map footD)), none, s8, none]) (g := g1) (fun (j : Nat) => PyData.int j) (fun j => .tuple [.str (nmS "j" j), vD (vAt vs j)]) (List.range vs.length) [] (fun j hj => by
    rw [List.mem_range] at hj
    have sa := strN (k := j) (by omega)
    have sb := addJN (k := j) (by omega)
    have ix := vGetL (l := vs) (i := j) hj
    exact ⟨[some .deal, some s1, some s2, some s3, some (.ow (vs.map vD)), some (.ow (ps.map prD)), some (.ow (fs.map footD)), none, s8, some (.fz (.int j))], [some .deal, some s1, some s2, some s3, some (.ow (vs.map vD)), some (.ow (ps.map prD)), some (.ow (fs.map footD)), none, s8, some (.fz (.int j))], by simp, by simp [sa, sb, ix], by simp⟩) (by simp; omega)
  simp only [List.nil_append, ← rngD_nat] at cm
  let js : List (Str × V2) := (List.range vs.length).map fun j => (nmS "j" j, vAt vs j)
  have jd : (List.range vs.length).map (fun j => PyData.tuple [.str (nmS "j" j), vD (vAt vs j)]) = js.map fun j => .tuple [.str j.1, vD j.2] := by
    show _ = List.map _ (List.map _ _)
    rw [List.map_map]
    rfl
  have jl : js.length = vs.length := by show (List.map _ _).length = _; rw [List.length_map, List.length_range]
  have jp : js.map (·.2) = vs := by
    show List.map _ (List.map _ _) = _
    rw [List.map_map]
    exact range_vAt vs
  rw [jd] at cm
  generalize js = js at *
  have tt : Truss ⟨"p", js, fs, bs⟩ := by
    refine ⟨⟨by show js.length ≤ 1000; omega, by show bs.length ≤ 1000; omega, by show fs.length ≤ 1000; omega, fun b hb => ?_, fun t ht => by show t.at_ < js.length; rw [jl]; exact (bf t ht).1, ?_, fun t ht => (bf t ht).2⟩, r4, by show js.length ≤ 10; omega, by show bs.length ≤ 20; omega, hf, by show 1 ≤ bs.length; omega⟩
    · have : (b.i, b.j) ∈ ps := by rw [← r2]; exact List.mem_map_of_mem hb
      have := hp _ this
      unfold PrOk at this
      simp only at this
      show b.i < js.length ∧ b.j < js.length ∧ b.i ≠ b.j
      omega
    · show ∀ p ∈ js.map (·.2), _
      rw [jp]; exact bv
  obtain ⟨σ, hσ⟩ : ∃ σ, trTail (callN w T (k + 2)) [some .deal, some s1, some s2, some s3, some (.ow (vs.map vD)), some (.ow (ps.map prD)), some (.ow (fs.map footD)), none, none, none] g = .ok (.rt (.fz (frD ⟨"p", js, fs, bs⟩))) σ g1 := by
    have tb : trTail (callN w T (k + 2)) = (sSeq (sAsg 8 (c1 pyTuple (cD (cLc (iR1 (cD (c1 pyLen (cVP 5)))) [9] (gNm 9) cYes (tbEv (callN w T (k + 2)))))))
      (sRet (cTup (cCons (cD (cK (.str "p"))) (cCons (cD (c1 pyTuple (cD (cLc (iR1 (cD (c1 pyLen (cVP 4)))) [9] (gNm 9) cYes (cD (cTup (cCons (cD (c2 pyAdd (cD (cK (.str "j"))) (cD (c1 pyStr (cVP 9))))) (cCons (cD (cVIx 4 (cVP 9))) cNil)))))))) (cCons (cD (c1 pyTuple (cVP 6))) (cCons (cD (cVE 8)) cNil))))))) := rfl
    have fin : PyData.tuple [.str "p", .tuple (js.map fun j => .tuple [.str j.1, vD j.2]), .tuple (fs.map footD), .tuple (bs.map barD)] = frD ⟨"p", js, fs, bs⟩ := rfl
    rw [tb]
    generalize (⟨"p", js, fs, bs⟩ : Frame) = F at *
    generalize bs.map barD = XB at *
    generalize fs.map footD = XF at *
    generalize js.map (fun (j : Str × V2) => PyData.tuple [.str j.1, vD j.2]) = XJ at *
    generalize tbEv (callN w T (k + 2)) = BE at *
    generalize rngD 0 (ps.length : Int) = RP at *
    generalize rngD 0 (vs.length : Int) = RV at *
    exact ⟨_, by simp [cLc, rg1, r1, rg2, cm, fin]; rfl⟩
  exact ⟨_, g1, σ, hσ, tt, r5.mono (by omega)⟩
abbrev acr : V2 := ⟨1, 0⟩
def upw (v : Int) : V2 := ⟨0, ((1 + v : Int) : Rat)⟩
theorem ft_lit (n : Nat) (v : V2) : PyData.tuple [.int n, vD v, .str "both"] = footD ⟨n, v, true⟩ := rfl
theorem upw_bd {v : Int} (h0 : 0 ≤ v) (h1 : v < 2) : BdV 110 1 (upw v) := ⟨Bd.zero _ _, bd_int (by omega)⟩
theorem acr_bd : BdV 110 1 acr := ⟨bd_int (z := 1) (by decide), Bd.zero _ _⟩
theorem vlit (x y : Int) : PyData.tuple [.tuple [.int x, .int 1], .tuple [.int y, .int 1]] = vD ⟨(x : Rat), (y : Rat)⟩ := rfl
theorem vint_bd {x y : Int} (h : x.natAbs ≤ 110) (h2 : y.natAbs ≤ 110) : BdV 110 1 ⟨(x : Rat), (y : Rat)⟩ := ⟨bd_int h, bd_int h2⟩
theorem trA_ok (hL : HL T) {c : Nat} {g : G} {s1 : SV} {u : Int} (h0 : 0 ≤ u) (h1 : u < 2) (h : Dk c g) (hc : c < 2 ^ 30) : ∃ (ps : List (Nat × Nat)) (vs : List V2) (fs : List Foot) (g' : G), trA (callN w T (k + 2)) [some .deal, some s1, some (.fz (vD acr)), some (.fz (vD (upw u))), none, none, none, none, none, none] g = .ok .nx [some .deal, some s1, some (.fz (vD acr)), some (.fz (vD (upw u))), some (.ow (vs.map vD)), some (.ow (ps.map prD)), some (.ow (fs.map footD)), none, none, none] g' ∧ vs.length ≤ 10 ∧ (∀ v ∈ vs, BdV 110 1 v) ∧ 1 ≤ ps.length ∧ ps.length ≤ 20 ∧ (∀ p ∈ ps, PrOk vs.length p) ∧ fs.length ≤ 6 ∧ (∀ t ∈ fs, t.at_ < vs.length ∧ BdV 110 1 t.way) ∧ Dk (c + 5) g' := by
  obtain ⟨a, g1, e1, a0, a1, d1⟩ := take_ok (w := w) (k := k + 1) (i := 1) (hL.h rfl) h (by omega) (m := 3) (by decide)
  obtain ⟨b, g2, e2, b0, b1, d2⟩ := take_ok (w := w) (k := k + 1) (i := 1) (hL.h rfl) d1 (by omega) (m := 2) (by decide)
  refine ⟨[(0, 1)], [⟨((0 : Int) : Rat), ((0 : Int) : Rat)⟩, ⟨((1 + a : Int) : Rat), ((b : Int) : Rat)⟩], [⟨0, acr, true⟩, ⟨0, upw u, true⟩, ⟨1, acr, true⟩, ⟨1, upw u, true⟩], g2, ?_, by simp, ?_, by simp, by simp, ?_, by simp, ?_, d2.mono (by omega)⟩
  · generalize hu : vD (upw u) = U
    generalize ha : vD acr = A
    have q0 : footD ⟨0, acr, true⟩ = .tuple [.int 0, A, .str "both"] := by rw [← ha]; rfl
    have q1 : footD ⟨0, upw u, true⟩ = .tuple [.int 0, U, .str "both"] := by rw [← hu]; rfl
    have q2 : footD ⟨1, acr, true⟩ = .tuple [.int 1, A, .str "both"] := by rw [← ha]; rfl
    have q3 : footD ⟨1, upw u, true⟩ = .tuple [.int 1, U, .str "both"] := by rw [← hu]; rfl
    have p0 : prD (0, 1) = .tuple [.int 0, .int 1] := rfl
    simp only [List.map_cons, List.map_nil, q0, q1, q2, q3, p0, ← vlit]
    simp [trA, e1, e2]
  · intro v hv
    simp only [List.mem_cons, List.not_mem_nil, or_false] at hv
    rcases hv with rfl | rfl
    · exact vint_bd (by decide) (by decide)
    · exact vint_bd (by omega) (by omega)
  · intro p hp
    simp only [List.mem_cons, List.not_mem_nil, or_false] at hp
    subst hp
    exact ⟨by simp, by simp⟩
  · intro t ht
    simp only [List.mem_cons, List.not_mem_nil, or_false] at ht
    rcases ht with rfl | rfl | rfl | rfl
    · exact ⟨by simp, acr_bd⟩
    · exact ⟨by simp, upw_bd h0 h1⟩
    · exact ⟨by simp, acr_bd⟩
    · exact ⟨by simp, upw_bd h0 h1⟩
theorem trB_ok (hL : HL T) {c : Nat} {g : G} {s1 : SV} {u : Int} (h0 : 0 ≤ u) (h1 : u < 2) (h : Dk c g) (hc : c < 2 ^ 30) : ∃ (ps : List (Nat × Nat)) (vs : List V2) (fs : List Foot) (g' : G), trB (callN w T (k + 2)) [some .deal, some s1, some (.fz (vD acr)), some (.fz (vD (upw u))), none, none, none, none, none, none] g = .ok .nx [some .deal, some s1, some (.fz (vD acr)), some (.fz (vD (upw u))), some (.ow (vs.map vD)), some (.ow (ps.map prD)), some (.ow (fs.map footD)), none, none, none] g' ∧ vs.length ≤ 10 ∧ (∀ v ∈ vs, BdV 110 1 v) ∧ 1 ≤ ps.length ∧ ps.length ≤ 20 ∧ (∀ p ∈ ps, PrOk vs.length p) ∧ fs.length ≤ 6 ∧ (∀ t ∈ fs, t.at_ < vs.length ∧ BdV 110 1 t.way) ∧ Dk (c + 5) g' := by
  obtain ⟨a, g1, e1, a0, a1, d1⟩ := take_ok (w := w) (k := k + 1) (i := 1) (hL.h rfl) h (by omega) (m := 5) (by decide)
  obtain ⟨b, g2, e2, b0, b1, d2⟩ := take_ok (w := w) (k := k + 1) (i := 1) (hL.h rfl) d1 (by omega) (m := 3) (by decide)
  refine ⟨[(0, 3), (1, 3), (2, 3)], [⟨((0 : Int) : Rat), ((0 : Int) : Rat)⟩, ⟨((2 : Int) : Rat), ((0 : Int) : Rat)⟩, ⟨((4 : Int) : Rat), ((0 : Int) : Rat)⟩, ⟨((a : Int) : Rat), ((1 + b : Int) : Rat)⟩], [⟨0, acr, true⟩, ⟨0, upw u, true⟩, ⟨1, acr, true⟩, ⟨1, upw u, true⟩, ⟨2, acr, true⟩, ⟨2, upw u, true⟩], g2, ?_, by simp, ?_, by simp, by simp, ?_, by simp, ?_, d2.mono (by omega)⟩
  · generalize hu : vD (upw u) = U
    generalize ha : vD acr = A
    have q0 : footD ⟨0, acr, true⟩ = .tuple [.int 0, A, .str "both"] := by rw [← ha]; rfl
    have q1 : footD ⟨0, upw u, true⟩ = .tuple [.int 0, U, .str "both"] := by rw [← hu]; rfl
    have q2 : footD ⟨1, acr, true⟩ = .tuple [.int 1, A, .str "both"] := by rw [← ha]; rfl
    have q3 : footD ⟨1, upw u, true⟩ = .tuple [.int 1, U, .str "both"] := by rw [← hu]; rfl
    have q4 : footD ⟨2, acr, true⟩ = .tuple [.int 2, A, .str "both"] := by rw [← ha]; rfl
    have q5 : footD ⟨2, upw u, true⟩ = .tuple [.int 2, U, .str "both"] := by rw [← hu]; rfl
    have p0 : prD (0, 3) = .tuple [.int 0, .int 3] := rfl
    have p1 : prD (1, 3) = .tuple [.int 1, .int 3] := rfl
    have p2 : prD (2, 3) = .tuple [.int 2, .int 3] := rfl
    have r3 : rng1 (.int 3) = some [.int 0, .int 1, .int 2] := rng1N (n := 3) (by decide)
    simp only [List.map_cons, List.map_nil, q0, q1, q2, q3, q4, q5, p0, p1, p2, ← vlit]
    simp [trB, e1, e2, r3, forL, addL]
  · intro v hv
    simp only [List.mem_cons, List.not_mem_nil, or_false] at hv
    rcases hv with rfl | rfl | rfl | rfl
    · exact vint_bd (by decide) (by decide)
    · exact vint_bd (by decide) (by decide)
    · exact vint_bd (by decide) (by decide)
    · exact vint_bd (by omega) (by omega)
  · intro p hp
    simp only [List.mem_cons, List.not_mem_nil, or_false] at hp
    rcases hp with rfl | rfl | rfl <;> exact ⟨by simp, by simp⟩
  · intro t ht
    simp only [List.mem_cons, List.not_mem_nil, or_false] at ht
    rcases ht with rfl | rfl | rfl | rfl | rfl | rfl
    · exact ⟨by simp, acr_bd⟩
    · exact ⟨by simp, upw_bd h0 h1⟩
    · exact ⟨by simp, acr_bd⟩
    · exact ⟨by simp, upw_bd h0 h1⟩
    · exact ⟨by simp, acr_bd⟩
    · exact ⟨by simp, upw_bd h0 h1⟩
theorem trC_ok (hL : HL T) {c : Nat} {g : G} {s1 : SV} {u : Int} (h0 : 0 ≤ u) (h1 : u < 2) (h : Dk c g) (hc : c < 2 ^ 30) : ∃ (ps : List (Nat × Nat)) (vs : List V2) (fs : List Foot) (g' : G), trC (callN w T (k + 2)) [some .deal, some s1, some (.fz (vD acr)), some (.fz (vD (upw u))), none, none, none, none, none, none] g = .ok .nx [some .deal, some s1, some (.fz (vD acr)), some (.fz (vD (upw u))), some (.ow (vs.map vD)), some (.ow (ps.map prD)), some (.ow (fs.map footD)), none, none, none] g' ∧ vs.length ≤ 10 ∧ (∀ v ∈ vs, BdV 110 1 v) ∧ 1 ≤ ps.length ∧ ps.length ≤ 20 ∧ (∀ p ∈ ps, PrOk vs.length p) ∧ fs.length ≤ 6 ∧ (∀ t ∈ fs, t.at_ < vs.length ∧ BdV 110 1 t.way) ∧ Dk (c + 5) g' := by
  obtain ⟨a, g1, e1, a0, a1, d1⟩ := take_ok (w := w) (k := k + 1) (i := 1) (hL.h rfl) h (by omega) (m := 2) (by decide)
  obtain ⟨b, g2, e2, b0, b1, d2⟩ := take_ok (w := w) (k := k + 1) (i := 1) (hL.h rfl) d1 (by omega) (m := 4) (by decide)
  obtain ⟨z, g3, e3, z0, z1, d3⟩ := take_ok (w := w) (k := k + 1) (i := 1) (hL.h rfl) d2 (by omega) (m := 3) (by decide)
  obtain ⟨v, g4, e4, v0, v1, d4⟩ := take_ok (w := w) (k := k + 1) (i := 1) (hL.h rfl) d3 (by omega) (m := 3) (by decide)
  obtain ⟨both, hb⟩ : ∃ both : Bool, (if both = true then ("both" : Str) else "push") = (if v = 0 then ("push" : Str) else "both") := by
    by_cases y : v = 0
    · exact ⟨false, by rw [if_pos y]; rfl⟩
    · exact ⟨true, by rw [if_neg y]; rfl⟩
  refine ⟨[(0, 1), (0, 2), (1, 2)], [⟨((0 : Int) : Rat), ((0 : Int) : Rat)⟩, ⟨((2 + a : Int) : Rat), ((0 : Int) : Rat)⟩, ⟨((b : Int) : Rat), ((1 + z : Int) : Rat)⟩], [⟨0, acr, true⟩, ⟨0, upw u, true⟩, ⟨1, upw u, both⟩], g4, ?_, by simp, ?_, by simp, by simp, ?_, by simp, ?_, d4.mono (by omega)⟩
  · have kd : pyIx (.list [.str "both", .str "push"]) (.int (if v = 0 then 1 else 0)) = some (.fz (.str (if both = true then ("both" : Str) else "push"))) := by
      rw [hb]
      by_cases y : v = 0
      · rw [if_pos y, if_pos y]
        exact ixL (n := 1) rfl rfl
      · rw [if_neg y, if_neg y]
        exact ixL (n := 0) rfl rfl
    generalize hu : vD (upw u) = U
    generalize ha : vD acr = A
    have q0 : footD ⟨0, acr, true⟩ = .tuple [.int 0, A, .str "both"] := by rw [← ha]; rfl
    have q1 : footD ⟨0, upw u, true⟩ = .tuple [.int 0, U, .str "both"] := by rw [← hu]; rfl
    have q2 : footD ⟨1, upw u, both⟩ = .tuple [.int 1, U, .str (if both = true then ("both" : Str) else "push")] := by rw [← hu]; rfl
    have p0 : prD (0, 1) = .tuple [.int 0, .int 1] := rfl
    have p1 : prD (0, 2) = .tuple [.int 0, .int 2] := rfl
    have p2 : prD (1, 2) = .tuple [.int 1, .int 2] := rfl
    obtain ⟨kdS, hkd⟩ : ∃ s : Str, (if both = true then ("both" : Str) else "push") = s := ⟨_, rfl⟩
    rw [hkd] at kd q2
    simp only [List.map_cons, List.map_nil, q0, q1, q2, p0, p1, p2, ← vlit]
    simp [trC, e1, e2, e3, e4, kd]
  · intro v hv
    simp only [List.mem_cons, List.not_mem_nil, or_false] at hv
    rcases hv with rfl | rfl | rfl
    · exact vint_bd (by decide) (by decide)
    · exact vint_bd (by omega) (by decide)
    · exact vint_bd (by omega) (by omega)
  · intro p hp
    simp only [List.mem_cons, List.not_mem_nil, or_false] at hp
    rcases hp with rfl | rfl | rfl <;> exact ⟨by simp, by simp⟩
  · intro t ht
    simp only [List.mem_cons, List.not_mem_nil, or_false] at ht
    rcases ht with rfl | rfl | rfl
    · exact ⟨by simp, acr_bd⟩
    · exact ⟨by simp, upw_bd h0 h1⟩
    · exact ⟨by simp, upw_bd h0 h1⟩
theorem Drawn.truss {f : Frame} {n : Nat} (h : Drawn f n) (h1 : 1 ≤ n) (hn : n ≤ 3) : Truss f := by
  have := h.nj
  have := h.hi
  have := h.lo
  have := h.nf
  exact ⟨h.ok (by omega), h.bs, by omega, by omega, by omega, by omega⟩
theorem law_truss_ok (hS : HS T) {c : Nat} {g : G} (h : Dk c g) (hc : c < 2 ^ 26) : ∃ (f : Frame) (g' : G), callN w T (k + 4) 68 [.deal] g = .ok (.fz (frD f)) g' ∧ Truss f ∧ Dk (c + 700) g' := by
  obtain ⟨v, g1, e1, lo, hi, d1⟩ := take_ok (w := w) (k := k + 2) (i := 1) (hS.l.h rfl) h (by omega) (m := 5) (by decide)
  rw [callN_at (hS.h (i := 68) rfl)]
  simp only [semF, b_law_truss_cut]
  by_cases z4 : v = 4
  · obtain ⟨f, g2, e2, dr, d2⟩ := law_frame_ok (w := w) (k := k) (n := 1) hS.l d1 (by omega) (by decide) (by decide)
    refine ⟨f, g2, ?_, dr.truss (by decide) (by decide), d2.mono (by omega)⟩
    have e2 : callN w T (k + 3) 58 [.deal, .fz (.int 1)] g1 = _ := e2
    simp [runF, e1, z4, e2]
  · obtain ⟨u, g2, e2, u0, u1, d2⟩ := take_ok (w := w) (k := k + 2) (i := 1) (hS.l.h rfl) d1 (by omega) (m := 2) (by decide)
    have qa : PyData.tuple [.tuple [.int 1, .int 1], .tuple [.int 0, .int 1]] = vD acr := rfl
    have qu : PyData.tuple [.tuple [.int 0, .int 1], .tuple [.int (1 + u), .int 1]] = vD (upw u) := rfl
    have fin : ∀ (X : Ev Fl), (∃ (ps : List (Nat × Nat)) (vs : List V2) (fs : List Foot) (g' : G), X [some .deal, some (.fz (.int v)), some (.fz (vD acr)), some (.fz (vD (upw u))), none, none, none, none, none, none] g2 = .ok .nx [some .deal, some (.fz (.int v)), some (.fz (vD acr)), some (.fz (vD (upw u))), some (.ow (vs.map vD)), some (.ow (ps.map prD)), some (.ow (fs.map footD)), none, none, none] g' ∧ vs.length ≤ 10 ∧ (∀ v ∈ vs, BdV 110 1 v) ∧ 1 ≤ ps.length ∧ ps.length ≤ 20 ∧ (∀ p ∈ ps, PrOk vs.length p) ∧ fs.length ≤ 6 ∧ (∀ t ∈ fs, t.at_ < vs.length ∧ BdV 110 1 t.way) ∧ Dk (c + 1 + 1 + 5) g') →
        ∃ (f : Frame) (g' : G) (σ : Sl), (sSeq X (trTail (callN w T (k + 3)))) [some .deal, some (.fz (.int v)), some (.fz (vD acr)), some (.fz (vD (upw u))), none, none, none, none, none, none] g2 = .ok (.rt (.fz (frD f))) σ g' ∧ Truss f ∧ Dk (c + 700) g' := fun X ⟨ps, vs, fs, g3, q1, q2, q3, q4, q5, q6, q7, q8, q9⟩ => by
      obtain ⟨f, g4, σ, t1, t2, t3⟩ := trTail_ok (w := w) (k := k + 1) hS.l (s1 := .fz (.int v)) (s2 := .fz (vD acr)) (s3 := .fz (vD (upw u))) q9 (by omega) q2 q3 q4 q5 q6 q7 q8
      refine ⟨f, g4, σ, ?_, t2, t3.mono (by omega)⟩
      rw [← t1]
      generalize trTail (callN w T (k + 3)) = TT at *
      simp [q1]
    by_cases z2 : v = 2
    · obtain ⟨f, g4, σ, t1, t2, t3⟩ := fin _ (trA_ok (w := w) (k := k + 1) hS.l (s1 := .fz (.int v)) u0 u1 d2 (by omega))
      refine ⟨f, g4, ?_, t2, t3⟩
      have t1 : (trA (callN w T (k + 3)) _ _).bind _ = _ := t1
      generalize trTail (callN w T (k + 3)) = TT at *
      generalize trA (callN w T (k + 3)) = TA at *
      generalize trB (callN w T (k + 3)) = TB at *
      generalize trC (callN w T (k + 3)) = TC at *
      generalize vD (upw u) = U at *
      generalize vD acr = A at *
      subst z2
      simp [runF, e1, qa, e2, qu, t1]
    · by_cases z3 : v = 3
      · obtain ⟨f, g4, σ, t1, t2, t3⟩ := fin _ (trB_ok (w := w) (k := k + 1) hS.l (s1 := .fz (.int v)) u0 u1 d2 (by omega))
        refine ⟨f, g4, ?_, t2, t3⟩
        have t1 : (trB (callN w T (k + 3)) _ _).bind _ = _ := t1
        generalize trTail (callN w T (k + 3)) = TT at *
        generalize trA (callN w T (k + 3)) = TA at *
        generalize trB (callN w T (k + 3)) = TB at *
        generalize trC (callN w T (k + 3)) = TC at *
        generalize vD (upw u) = U at *
        generalize vD acr = A at *
        subst z3
        simp [runF, e1, qa, e2, qu, t1]
      · obtain ⟨f, g4, σ, t1, t2, t3⟩ := fin _ (trC_ok (w := w) (k := k + 1) hS.l (s1 := .fz (.int v)) u0 u1 d2 (by omega))
        refine ⟨f, g4, ?_, t2, t3⟩
        have t1 : (trC (callN w T (k + 3)) _ _).bind _ = _ := t1
        generalize trTail (callN w T (k + 3)) = TT at *
        generalize trA (callN w T (k + 3)) = TA at *
        generalize trB (callN w T (k + 3)) = TB at *
        generalize trC (callN w T (k + 3)) = TC at *
        generalize vD (upw u) = U at *
        generalize vD acr = A at *
        simp [runF, e1, z4, z2, z3, qa, e2, qu, t1]
end
end
end FD
/-! FDS10: prices are bounds (weak duality of sites). -/
namespace FD
noncomputable section
open PySem
theorem dotR_nil (ys : List Rat) : dotR [] ys = 0 := by unfold dotR; rfl
theorem dotR_nil' (xs : List Rat) : dotR xs [] = 0 := by cases xs <;> (unfold dotR; rfl)
theorem dotR_cons (x y : Rat) (xs ys : List Rat) : dotR (x :: xs) (y :: ys) = x * y + dotR xs ys := rfl
theorem dotR_comm : ∀ xs ys : List Rat, dotR xs ys = dotR ys xs
  | [], ys => by rw [dotR_nil, dotR_nil']
  | x :: xs, [] => by rw [dotR_nil, dotR_nil']
  | x :: xs, y :: ys => by rw [dotR_cons, dotR_cons, dotR_comm xs ys, Rat.mul_comm]
theorem dotR_add : ∀ (qs xs ys : List Rat), xs.length = ys.length → dotR qs (addR xs ys) = dotR qs xs + dotR qs ys
  | [], xs, ys, _ => by rw [dotR_nil, dotR_nil, dotR_nil]; grind
  | q :: qs, [], [], _ => by
    show dotR (q :: qs) [] = _
    rw [dotR_nil']; grind
  | q :: qs, x :: xs, y :: ys, h => by
    have ih := dotR_add qs xs ys (by simpa using h)
    have c : addR (x :: xs) (y :: ys) = (x + y) :: addR xs ys := rfl
    rw [c, dotR_cons, dotR_cons, dotR_cons, ih]
    grind
  | _ :: _, [], _ :: _, h => by simp at h
  | _ :: _, _ :: _, [], h => by simp at h
theorem dotR_set : ∀ (qs xs : List Rat) (i : Nat) (v : Rat), qs.length = xs.length → i < xs.length → dotR qs (xs.set i v) = dotR qs xs + qs.getD i 0 * (v - xs.getD i 0)
  | [], [], i, v, _, h => by simp at h
  | q :: qs, x :: xs, 0, v, _, _ => by
    rw [List.set_cons_zero, dotR_cons, dotR_cons]
    show q * v + _ = q * x + _ + q * (v - x)
    grind
  | q :: qs, x :: xs, i + 1, v, h1, h2 => by
    have ih := dotR_set qs xs i v (by simpa using h1) (by simpa using h2)
    rw [List.set_cons_succ, dotR_cons, dotR_cons, ih]
    simp only [List.getD_cons_succ]
    grind
  | [], _ :: _, _, _, h, _ => by simp at h
  | _ :: _, [], _, _, h, _ => by simp at h
theorem dotR_ask (qs : List Rat) : ∀ (ps : List (Gau × Rat)) (l : List Rat), qs.length = l.length → (∀ p ∈ ps, p.1.b < l.length) → dotR qs (askL l ps) = dotR qs l + (ps.map fun p => p.2 * qs.getD p.1.b 0).sum
  | [], l, _, _ => by
    show dotR qs l = dotR qs l + 0
    grind
  | p :: r, l, h, hb => by
    have e : askL l (p :: r) = askL (l.set p.1.b (l.getD p.1.b 0 + p.2)) r := rfl
    have ih := dotR_ask qs r (l.set p.1.b (l.getD p.1.b 0 + p.2)) (by rw [List.length_set]; exact h) (fun q hq => by rw [List.length_set]; exact hb q (List.mem_cons_of_mem _ hq))
    rw [e, ih, dotR_set qs l _ _ h (hb p List.mem_cons_self), List.map_cons, List.sum_cons]
    grind
theorem workR_under (ms : List V2) (n : Nat) : ∀ (ps : List (Pat × Rat)) (t : List V2), t.length = n → (∀ p ∈ ps, p.1.ls.length = n) → workR (underV t ps) ms = workR t ms + (ps.map fun p => p.2 * workR p.1.ls ms).sum
  | [], t, _, _ => by
    show workR t ms = workR t ms + 0
    grind
  | p :: r, t, h, hp => by
    have l := hp p List.mem_cons_self
    have lm : t.length = (p.1.ls.map (V2.smul p.2)).length := by rw [List.length_map]; omega
    have ih := workR_under ms n r (addV t (p.1.ls.map (V2.smul p.2))) (by rw [addV_len lm]; exact h) fun q hq => hp q (List.mem_cons_of_mem _ hq)
    have ac : underV t (p :: r) = underV (addV t (p.1.ls.map (V2.smul p.2))) r := rfl
    rw [ac, ih, workR_add _ _ _ lm, workR_smul, List.map_cons, List.sum_cons]
    grind
theorem bars_le2 : ∀ (qs : List Rat) (bs : List Bar) (xs : List Rat), qs.length = bs.length → lawQ (qs.zip bs) = true → ((bs.zip xs).all fun p => !(resS p.1 p.2).isNone) = true → dotR qs xs ≤ ((bs.zip xs).map fun p => (resS p.1 p.2).getD 0).sum
  | [], [], xs, _, _, _ => by
    rw [dotR_nil]; simp
  | q :: qs, b :: bs, [], _, _, _ => by
    rw [dotR_nil']; simp
  | q :: qs, b :: bs, x :: xs, h, hl, hr => by
    have c : lawQ ((q :: qs).zip (b :: bs)) = ((!overB b.pull q && !overB b.push (-q)) && lawQ (qs.zip bs)) := rfl
    rw [c, Bool.and_eq_true, Bool.and_eq_true] at hl
    rw [List.zip_cons_cons, List.all_cons, Bool.and_eq_true] at hr
    have ih := bars_le2 qs bs xs (by simpa using h) hl.2 hr.2
    have b1 := bar_le (b := b) (q := q) (s := x) (by simpa using hl.1.1) (by simpa using hl.1.2) (by simpa using hr.1)
    rw [List.zip_cons_cons, List.map_cons, List.sum_cons, dotR_cons]
    show q * x + dotR qs xs ≤ (resS b x).getD 0 + _
    grind
  | [], _ :: _, _, h, _, _ => by simp at h
  | _ :: _, [], _, h, _, _ => by simp at h
theorem abs_le {t d e : Rat} (h1 : -e ≤ d) (h2 : d ≤ e) : t * d ≤ absR t * e := by
  unfold absR
  by_cases z : 0 < t
  · rw [if_pos z]
    have := Rat.mul_nonneg (show 0 ≤ t by grind) (show 0 ≤ e - d by grind)
    grind
  · rw [if_neg z]
    have := Rat.mul_nonneg (show 0 ≤ -t by grind) (show 0 ≤ e + d by grind)
    grind
theorem gaus_le (qs : List Rat) : ∀ (gs : List Gau) (pulls rd : List Rat), pulls.length = gs.length → rd.length = gs.length → (∀ p ∈ gs.zip rd, -p.1.e ≤ p.2 - qs.getD p.1.b 0 ∧ p.2 - qs.getD p.1.b 0 ≤ p.1.e) → dotR pulls rd ≤ ((gs.zip pulls).map fun p => p.2 * qs.getD p.1.b 0).sum + ((pulls.zip gs).map fun p => absR p.1 * p.2.e).sum
  | [], [], [], _, _, _ => by
    rw [dotR_nil]; simp; grind
  | x :: gs, t :: pulls, r :: rd, h1, h2, h => by
    have ih := gaus_le qs gs pulls rd (by simpa using h1) (by simpa using h2) fun p hp => h p (by rw [List.zip_cons_cons]; exact List.mem_cons_of_mem _ hp)
    obtain ⟨a, b⟩ := h (x, r) (by rw [List.zip_cons_cons]; exact List.mem_cons_self)
    have m := abs_le (t := t) a b
    rw [dotR_cons, List.zip_cons_cons, List.map_cons, List.sum_cons, List.zip_cons_cons, List.map_cons, List.sum_cons]
    simp only at m ⊢
    grind
  | [], _ :: _, _, h, _, _ => by simp at h
  | [], [], _ :: _, _, h, _ => by simp at h
  | _ :: _, [], _, h, _, _ => by simp at h
  | _ :: _, _ :: _, [], _, h, _ => by simp at h
theorem pats_le (ms : List V2) : ∀ (tp : List Rat) (ps : List Pat) (fs : List Rat), tp.length = ps.length → fs.length = ps.length → (∀ p ∈ ps.zip fs, 0 ≤ p.2 ∧ p.2 ≤ p.1.most) → dotR tp fs ≤ ((tp.zip ps).map fun p => patTerm ms p.1 p.2).sum + ((ps.zip fs).map fun p => p.2 * workR p.1.ls ms).sum
  | [], [], [], _, _, _ => by
    rw [dotR_nil]; simp; grind
  | t :: tp, x :: ps, f :: fs, h1, h2, h => by
    have ih := pats_le ms tp ps fs (by simpa using h1) (by simpa using h2) fun p hp => h p (by rw [List.zip_cons_cons]; exact List.mem_cons_of_mem _ hp)
    obtain ⟨a, b⟩ := h (x, f) (by rw [List.zip_cons_cons]; exact List.mem_cons_self)
    simp only at a b
    rw [dotR_cons, List.zip_cons_cons, List.map_cons, List.sum_cons, List.zip_cons_cons, List.map_cons, List.sum_cons]
    have m : f * (t - workR x.ls ms) ≤ patTerm ms t x := by
      unfold patTerm
      by_cases z : 0 < t - workR x.ls ms
      · rw [if_pos z]
        have := Rat.mul_nonneg (show 0 ≤ x.most - f by grind) (show 0 ≤ t - workR x.ls ms by grind)
        grind
      · rw [if_neg z]
        have := Rat.mul_nonneg a (show 0 ≤ -(t - workR x.ls ms) by grind)
        grind
    simp only at m ⊢
    grind
  | [], _ :: _, _, h, _, _ => by simp at h
  | [], [], _ :: _, _, h, _ => by simp at h
  | _ :: _, [], _, h, _, _ => by simp at h
  | _ :: _, _ :: _, [], _, h, _ => by simp at h
/-- a price is above what any explanation is worth -/
theorem price_bound {S : Site} {s : Stt} {fs rd tp tb pulls : List Rat} {ms : List V2} {A d B e : Nat} (hf : FrOk S.f A d) (hs : StOk S.f s B e) (hl : lawfulB S.f s = true) (hm : ms.length = S.f.joints.length) (lp : ∀ p ∈ S.ps, p.ls.length = S.f.joints.length) (lg : ∀ x ∈ S.gs, x.b < S.f.bars.length)
    (hb : S.base = (underV (forcesV S.f s) (S.ps.zip fs)).map V2.neg) (l1 : fs.length = S.ps.length) (l2 : tp.length = S.ps.length) (l3 : tb.length = S.f.bars.length) (l4 : pulls.length = S.gs.length) (l5 : rd.length = S.gs.length)
    (h1 : ∀ p ∈ S.ps.zip fs, 0 ≤ p.2 ∧ p.2 ≤ p.1.most) (h2 : ∀ p ∈ S.gs.zip rd, -p.1.e ≤ p.2 - s.qs.getD p.1.b 0 ∧ p.2 - s.qs.getD p.1.b 0 ≤ p.1.e) (fl : (forcesV S.f s).length = S.f.joints.length) {p : Rat} (hp : priceR S tp tb pulls ms = some p) : dotR tp fs + dotR tb s.qs + dotR pulls rd ≤ p := by
  unfold priceR at hp
  split at hp
  · rename_i hc
    rw [Bool.and_eq_true] at hc
    injection hp with hp
    unfold lawfulB at hl
    rw [Bool.and_eq_true] at hl
    have vw := virtual_work hf hm hs.nq
    rw [workR_neg] at vw
    have wb : workR S.base ms = -(workR (forcesV S.f s) ms + ((S.ps.zip fs).map fun p => p.2 * workR p.1.ls ms).sum) := by
      rw [hb, workR_neg, workR_under ms S.f.joints.length _ _ fl (fun p hp => lp _ (List.of_mem_zip hp).1)]
    have b1 := bars_le2 s.qs S.f.bars (askedR S tb pulls ms) hs.nq hl.1 hc.2
    have ln : tb.length = (S.f.stretches ms).length := by rw [stretches_len]; exact l3
    have ask : dotR s.qs (askedR S tb pulls ms) = dotR s.qs tb + dotR s.qs (S.f.stretches ms) + ((S.gs.zip pulls).map fun p => p.2 * s.qs.getD p.1.b 0).sum := by
      unfold askedR
      rw [dotR_ask s.qs _ _ (by rw [addR_len ln, l3, hs.nq]) (fun p hp => by rw [addR_len ln, l3]; exact lg _ (List.of_mem_zip hp).1), dotR_add _ _ _ ln]
    have g1 := gaus_le s.qs S.gs pulls rd l4 l5 h2
    have p1 := pats_le ms tp S.ps fs l2 l1 h1
    have t1 := feet_ge (ms := ms) s.rs S.f.feet hs.nr hl.2 hc.1
    have cm := dotR_comm tb s.qs
    have e1 : S.f.slips ms = S.f.feet.map (slipR ms) := rfl
    rw [e1] at vw
    rw [← hp, wb, cm]
    unfold gauSum patSum barsSum
    grind
  · cases hp
end
end FD
namespace K61
noncomputable section
open PySem PySem.W PySem.Spec PyProof.Rows FD
open L2 (FnOk Binds Fun FnScope defBody defScope defArgs CX0 fun_mk)
/-! ### the text (printed by gen.py) -/
def topS (i : Nat) : Stmt := PySem.Challenge.pw_standsfast_k61_whole_price_of_papers.main.body.getD i (.Pass ⟨0, 0, 0, 0⟩)
def fns : List (Str × Nat × Nat) := [(("_law_deal" : Str), 0, 1), (("_law_take" : Str), 1, 2), (("_law_ratio" : Str), 4, 2), (("_law_limit" : Str), 57, 1), (("_law_frame" : Str), 58, 2), (("_law_truss" : Str), 68, 1), (("_law_plus" : Str), 5, 2), (("_law_mult" : Str), 7, 2), (("_law_minus" : Str), 6, 2), (("_law_density" : Str), 69, 2), (("_law_state" : Str), 70, 2), (("_law_loads" : Str), 59, 2), (("_law_under" : Str), 65, 2), (("_law_span" : Str), 50, 2), (("_law_forces" : Str), 51, 2), (("_law_turned" : Str), 64, 1), (("_law_site" : Str), 71, 5), (("_law_gauges" : Str), 60, 3), (("_law_read" : Str), 72, 3), (("_law_numbers" : Str), 82, 2), (("_law_motion" : Str), 83, 2), (("greatest_divisor" : Str), 11, 2), (("ratio" : Str), 12, 2), (("dot" : Str), 21, 2), (("slips" : Str), 42, 2), (("hinders_no_foot" : Str), 73, 2), (("times" : Str), 16, 2), (("opposite" : Str), 14, 1), (("resistance" : Str), 43, 2), (("added" : Str), 13, 2), (("price_of_bars" : Str), 75, 2), (("plus" : Str), 22, 2), (("minus" : Str), 23, 2), (("places_of" : Str), 25, 1), (("less" : Str), 15, 2), (("span" : Str), 26, 2), (("stretch" : Str), 40, 3), (("stretches" : Str), 41, 2), (("asked_of_bars" : Str), 74, 4), (("size" : Str), 62, 1), (("work_of" : Str), 28, 2), (("price_of_patterns" : Str), 76, 3), (("price_of" : Str), 77, 4), (("_law_same" : Str), 2, 2), (("_law_dot" : Str), 8, 2), (("_law_stretch" : Str), 53, 3), (("_law_asked" : Str), 80, 4), (("_law_work" : Str), 55, 2), (("_law_size" : Str), 10, 1), (("_law_price" : Str), 81, 4), (("_law_less" : Str), 9, 2), (("_law_worth" : Str), 67, 3), (("_law_nothing" : Str), 66, 1), (("_law_bool" : Str), 3, 2), (("is_row" : Str), 24, 2), (("are_loads" : Str), 29, 2), (("are_pulls" : Str), 78, 3), (("noughts" : Str), 20, 1), (("no_target" : Str), 63, 1), (("compare" : Str), 17, 2), (("shows_strange" : Str), 79, 4), (("_law_with" : Str), 61, 3), (("_law_at_the_price" : Str), 84, 5)]
def cs : List (Str × D) := [(("BOTH" : Str), (.str "both")),
  (("NOTHING" : Str), (.tuple [(.int 0), (.int 1)]))]
/-! _law_deal -/
def x_law_deal : FD.Ctx := ⟨["script", "row", "k", "cell", "turn", "total"], defScope (topS 38), ["script", "row", "k", "cell", "turn", "total"], fns, cs, false, true⟩
theorem s_law_deal : FnScope x_law_deal.N ["script"] (defScope (topS 38)) := ⟨rfl, rfl, rfl, by decide +kernel, rfl, by decide +kernel, by decide +kernel⟩
theorem c_law_deal (ct : CT) : cmpBody ct 4000 16 9 x_law_deal (defBody (topS 38)) = some (b_law_deal ct 4000) := rfl
/-! _law_take -/
def x_law_take : FD.Ctx := ⟨["deal", "many", "at", "cell", "turn"], defScope (topS 39), ["deal", "many", "at", "cell", "turn"], fns, cs, false, false⟩
theorem s_law_take : FnScope x_law_take.N ["deal", "many"] (defScope (topS 39)) := ⟨rfl, rfl, rfl, by decide +kernel, rfl, by decide +kernel, by decide +kernel⟩
theorem c_law_take (ct : CT) : cmpBody ct 4000 16 9 x_law_take (defBody (topS 39)) = some (b_law_take ct 4000) := rfl
/-! _law_ratio -/
def x_law_ratio : FD.Ctx := ⟨["p", "q", "a", "b", "turn"], defScope (topS 42), ["p", "q", "a", "b", "turn"], fns, cs, false, false⟩
theorem s_law_ratio : FnScope x_law_ratio.N ["p", "q"] (defScope (topS 42)) := ⟨rfl, rfl, rfl, by decide +kernel, rfl, by decide +kernel, by decide +kernel⟩
theorem c_law_ratio (ct : CT) : cmpBody ct 4000 16 9 x_law_ratio (defBody (topS 42)) = some (b_law_ratio ct 4000) := rfl
/-! _law_limit -/
def x_law_limit : FD.Ctx := ⟨["deal"], defScope (topS 51), ["deal"], fns, cs, false, false⟩
theorem s_law_limit : FnScope x_law_limit.N ["deal"] (defScope (topS 51)) := ⟨rfl, rfl, rfl, by decide +kernel, rfl, by decide +kernel, by decide +kernel⟩
theorem c_law_limit (ct : CT) : cmpBody ct 4000 16 9 x_law_limit (defBody (topS 51)) = some (b_law_limit ct 4000) := rfl
/-! _law_frame -/
def x_law_frame : FD.Ctx := ⟨["deal", "panels", "places", "k", "pairs", "a", "other", "gone", "bars", "kind", "feet", "joints", "pair"], defScope (topS 52), ["deal", "panels", "places", "k", "pairs", "a", "other", "gone", "bars", "kind", "feet", "joints"], fns, cs, false, false⟩
theorem s_law_frame : FnScope x_law_frame.N ["deal", "panels"] (defScope (topS 52)) := ⟨rfl, rfl, rfl, by decide +kernel, rfl, by decide +kernel, by decide +kernel⟩
theorem c_law_frame (ct : CT) : cmpBody ct 4000 16 9 x_law_frame (defBody (topS 52)) = some (b_law_frame ct 4000) := rfl
/-! _law_truss -/
def x_law_truss : FD.Ctx := ⟨["deal", "kind", "across", "upward", "places", "pairs", "feet", "joint", "bars", "k"], defScope (topS 62), ["deal", "kind", "across", "upward", "places", "pairs", "feet", "joint", "bars"], fns, cs, false, false⟩
theorem s_law_truss : FnScope x_law_truss.N ["deal"] (defScope (topS 62)) := ⟨rfl, rfl, rfl, by decide +kernel, rfl, by decide +kernel, by decide +kernel⟩
theorem c_law_truss (ct : CT) : cmpBody ct 4000 16 9 x_law_truss (defBody (topS 62)) = some (b_law_truss ct 4000) := rfl
/-! _law_plus -/
def x_law_plus : FD.Ctx := ⟨["s", "t"], defScope (topS 43), ["s", "t"], fns, cs, false, false⟩
theorem s_law_plus : FnScope x_law_plus.N ["s", "t"] (defScope (topS 43)) := ⟨rfl, rfl, rfl, by decide +kernel, rfl, by decide +kernel, by decide +kernel⟩
theorem c_law_plus (ct : CT) : cmpBody ct 4000 16 9 x_law_plus (defBody (topS 43)) = some (b_law_plus ct 4000) := rfl
/-! _law_mult -/
def x_law_mult : FD.Ctx := ⟨["s", "t"], defScope (topS 45), ["s", "t"], fns, cs, false, false⟩
theorem s_law_mult : FnScope x_law_mult.N ["s", "t"] (defScope (topS 45)) := ⟨rfl, rfl, rfl, by decide +kernel, rfl, by decide +kernel, by decide +kernel⟩
theorem c_law_mult (ct : CT) : cmpBody ct 4000 16 9 x_law_mult (defBody (topS 45)) = some (b_law_mult ct 4000) := rfl
/-! _law_minus -/
def x_law_minus : FD.Ctx := ⟨["s", "t"], defScope (topS 44), ["s", "t"], fns, cs, false, false⟩
theorem s_law_minus : FnScope x_law_minus.N ["s", "t"] (defScope (topS 44)) := ⟨rfl, rfl, rfl, by decide +kernel, rfl, by decide +kernel, by decide +kernel⟩
theorem c_law_minus (ct : CT) : cmpBody ct 4000 16 9 x_law_minus (defBody (topS 44)) = some (b_law_minus ct 4000) := rfl
/-! _law_density -/
def x_law_density : FD.Ctx := ⟨["deal", "bar", "low", "high"], defScope (topS 63), ["deal", "bar", "low", "high"], fns, cs, false, false⟩
theorem s_law_density : FnScope x_law_density.N ["deal", "bar"] (defScope (topS 63)) := ⟨rfl, rfl, rfl, by decide +kernel, rfl, by decide +kernel, by decide +kernel⟩
theorem c_law_density (ct : CT) : cmpBody ct 4000 16 9 x_law_density (defBody (topS 63)) = some (b_law_density ct 4000) := rfl
/-! _law_state -/
def x_law_state : FD.Ctx := ⟨["deal", "frame", "densities", "reactions", "bar", "foot"], defScope (topS 64), ["deal", "frame", "densities", "reactions"], fns, cs, false, false⟩
theorem s_law_state : FnScope x_law_state.N ["deal", "frame"] (defScope (topS 64)) := ⟨rfl, rfl, rfl, by decide +kernel, rfl, by decide +kernel, by decide +kernel⟩
theorem c_law_state (ct : CT) : cmpBody ct 4000 16 9 x_law_state (defBody (topS 64)) = some (b_law_state ct 4000) := rfl
/-! _law_loads -/
def x_law_loads : FD.Ctx := ⟨["deal", "frame", "found", "joint"], defScope (topS 53), ["deal", "frame", "found", "joint"], fns, cs, false, false⟩
theorem s_law_loads : FnScope x_law_loads.N ["deal", "frame"] (defScope (topS 53)) := ⟨rfl, rfl, rfl, by decide +kernel, rfl, by decide +kernel, by decide +kernel⟩
theorem c_law_loads (ct : CT) : cmpBody ct 4000 16 9 x_law_loads (defBody (topS 53)) = some (b_law_loads ct 4000) := rfl
/-! _law_under -/
def x_law_under : FD.Ctx := ⟨["site", "factors", "total", "k", "loads", "j"], defScope (topS 57), ["site", "factors", "total", "k", "loads"], fns, cs, false, false⟩
theorem s_law_under : FnScope x_law_under.N ["site", "factors"] (defScope (topS 57)) := ⟨rfl, rfl, rfl, by decide +kernel, rfl, by decide +kernel, by decide +kernel⟩
theorem c_law_under (ct : CT) : cmpBody ct 4000 16 9 x_law_under (defBody (topS 57)) = some (b_law_under ct 4000) := rfl
/-! _law_span -/
def x_law_span : FD.Ctx := ⟨["frame", "bar", "first", "second"], defScope (topS 47), ["frame", "bar", "first", "second"], fns, cs, false, false⟩
theorem s_law_span : FnScope x_law_span.N ["frame", "bar"] (defScope (topS 47)) := ⟨rfl, rfl, rfl, by decide +kernel, rfl, by decide +kernel, by decide +kernel⟩
theorem c_law_span (ct : CT) : cmpBody ct 4000 16 9 x_law_span (defBody (topS 47)) = some (b_law_span ct 4000) := rfl
/-! _law_forces -/
def x_law_forces : FD.Ctx := ⟨["frame", "state", "found", "b", "bar", "way", "pull", "i", "j", "f", "joint", "kind", "r"], defScope (topS 48), ["frame", "state", "found", "b", "bar", "way", "pull", "i", "j", "f", "joint", "kind", "r"], fns, cs, false, false⟩
theorem s_law_forces : FnScope x_law_forces.N ["frame", "state"] (defScope (topS 48)) := ⟨rfl, rfl, rfl, by decide +kernel, rfl, by decide +kernel, by decide +kernel⟩
theorem c_law_forces (ct : CT) : cmpBody ct 4000 16 9 x_law_forces (defBody (topS 48)) = some (b_law_forces ct 4000) := rfl
/-! _law_turned -/
def x_law_turned : FD.Ctx := ⟨["row", "t"], defScope (topS 56), ["row"], fns, cs, false, false⟩
theorem s_law_turned : FnScope x_law_turned.N ["row"] (defScope (topS 56)) := ⟨rfl, rfl, rfl, by decide +kernel, rfl, by decide +kernel, by decide +kernel⟩
theorem c_law_turned (ct : CT) : cmpBody ct 4000 16 9 x_law_turned (defBody (topS 56)) = some (b_law_turned ct 4000) := rfl
/-! _law_site -/
def x_law_site : FD.Ctx := ⟨["deal", "frame", "state", "many", "gauges", "patterns", "factors", "k", "most", "total", "base", "force"], defScope (topS 66), ["deal", "frame", "state", "many", "gauges", "patterns", "factors", "k", "most", "total", "base"], fns, cs, false, false⟩
theorem s_law_site : FnScope x_law_site.N ["deal", "frame", "state", "many", "gauges"] (defScope (topS 66)) := ⟨rfl, rfl, rfl, by decide +kernel, rfl, by decide +kernel, by decide +kernel⟩
theorem c_law_site (ct : CT) : cmpBody ct 4000 16 9 x_law_site (defBody (topS 66)) = some (b_law_site ct 4000) := rfl
/-! _law_gauges -/
def x_law_gauges : FD.Ctx := ⟨["deal", "frame", "most", "found", "b"], defScope (topS 65), ["deal", "frame", "most", "found", "b"], fns, cs, false, false⟩
theorem s_law_gauges : FnScope x_law_gauges.N ["deal", "frame", "most"] (defScope (topS 65)) := ⟨rfl, rfl, rfl, by decide +kernel, rfl, by decide +kernel, by decide +kernel⟩
theorem c_law_gauges (ct : CT) : cmpBody ct 4000 16 9 x_law_gauges (defBody (topS 65)) = some (b_law_gauges ct 4000) := rfl
/-! _law_read -/
def x_law_read : FD.Ctx := ⟨["deal", "site", "state", "found", "gauge"], defScope (topS 67), ["deal", "site", "state", "found", "gauge"], fns, cs, false, false⟩
theorem s_law_read : FnScope x_law_read.N ["deal", "site", "state"] (defScope (topS 67)) := ⟨rfl, rfl, rfl, by decide +kernel, rfl, by decide +kernel, by decide +kernel⟩
theorem c_law_read (ct : CT) : cmpBody ct 4000 16 9 x_law_read (defBody (topS 67)) = some (b_law_read ct 4000) := rfl
/-! _law_numbers -/
def x_law_numbers : FD.Ctx := ⟨["deal", "many", "k"], defScope (topS 69), ["deal", "many"], fns, cs, false, false⟩
theorem s_law_numbers : FnScope x_law_numbers.N ["deal", "many"] (defScope (topS 69)) := ⟨rfl, rfl, rfl, by decide +kernel, rfl, by decide +kernel, by decide +kernel⟩
theorem c_law_numbers (ct : CT) : cmpBody ct 4000 16 9 x_law_numbers (defBody (topS 69)) = some (b_law_numbers ct 4000) := rfl
/-! _law_motion -/
def x_law_motion : FD.Ctx := ⟨["deal", "frame", "found", "joint", "way", "kind", "x", "y"], defScope (topS 70), ["deal", "frame", "found", "joint", "way", "kind", "x", "y"], fns, cs, false, false⟩
def b_law_motion (ct : CT) (w : Nat) : Ev Fl :=
  (sSeq (sAsg 2 (cLc (iSeq (cD (cVIx 1 (cD (cK (.int 1)))))) [3] (gNm 3) cYes (cD (cCall ct 82 (cACons (cVE 0) (cACons (cK (.int 2)) cANil))))))
  (sSeq (sIf (cCmp pyEq (cD (cCall ct 1 (cACons (cVE 0) (cACons (cK (.int 5)) cANil)))) (cD (cK (.int 0))))
    (sRet (c1 pyTuple (cVP 2)))
    sPass)
  (sSeq (sFor (iSeq (cD (cVIx 1 (cD (cK (.int 2)))))) (gTp 3 (gC (gNm 3) (gC (gNm 4) (gC (gNm 5) gN))))
    (sSeq (sUnp (gTp 2 (gC (gNm 6) (gC (gNm 7) gN))) (cD (cVIx 2 (cVP 3))))
    (sSeq (sIf (cCmp pyEq (cD (c2 pyIx (cD (cVIx 4 (cD (cK (.int 0))))) (cD (cK (.int 0))))) (cD (cK (.int 0))))
      (sAsg 7 (cIte (cCmp pyEq (cVP 5) (cD (cK (.str "push")))) (cTup (cCons (cD (c1 pyAbs (cD (cVIx 7 (cD (cK (.int 0))))))) (cCons (cD (cVIx 7 (cD (cK (.int 1))))) cNil))) (cTup (cCons (cD (cK (.int 0))) (cCons (cD (cK (.int 1))) cNil)))))
      (sAsg 6 (cTup (cCons (cD (cK (.int 0))) (cCons (cD (cK (.int 1))) cNil)))))
    (sSetIx 2 (cVP 3) (cD (cTup (cCons (cD (cVE 6)) (cCons (cD (cVE 7)) cNil))))))))
  (sRet (c1 pyTuple (cVP 2))))))
theorem s_law_motion : FnScope x_law_motion.N ["deal", "frame"] (defScope (topS 70)) := ⟨rfl, rfl, rfl, by decide +kernel, rfl, by decide +kernel, by decide +kernel⟩
theorem c_law_motion (ct : CT) : cmpBody ct 4000 16 9 x_law_motion (defBody (topS 70)) = some (b_law_motion ct 4000) := rfl
/-! greatest_divisor -/
def x_greatest_divisor : FD.Ctx := ⟨["p", "q"], defScope (topS 2), ["p", "q"], fns, cs, false, false⟩
theorem s_greatest_divisor : FnScope x_greatest_divisor.N ["p", "q"] (defScope (topS 2)) := ⟨rfl, rfl, rfl, by decide +kernel, rfl, by decide +kernel, by decide +kernel⟩
theorem c_greatest_divisor (ct : CT) : cmpBody ct 4000 16 9 x_greatest_divisor (defBody (topS 2)) = some (b_greatest_divisor ct 4000) := rfl
/-! ratio -/
def x_ratio : FD.Ctx := ⟨["p", "q", "shared"], defScope (topS 3), ["p", "q", "shared"], fns, cs, false, false⟩
theorem s_ratio : FnScope x_ratio.N ["p", "q"] (defScope (topS 3)) := ⟨rfl, rfl, rfl, by decide +kernel, rfl, by decide +kernel, by decide +kernel⟩
theorem c_ratio (ct : CT) : cmpBody ct 4000 16 9 x_ratio (defBody (topS 3)) = some (b_ratio ct 4000) := rfl
/-! dot -/
def x_dot : FD.Ctx := ⟨["first", "second", "p", "q", "s", "t", "above", "below"], defScope (topS 11), ["first", "second", "p", "q", "s", "t", "above", "below"], fns, cs, false, false⟩
theorem s_dot : FnScope x_dot.N ["first", "second"] (defScope (topS 11)) := ⟨rfl, rfl, rfl, by decide +kernel, rfl, by decide +kernel, by decide +kernel⟩
theorem c_dot (ct : CT) : cmpBody ct 4000 16 9 x_dot (defBody (topS 11)) = some (b_dot ct 4000) := rfl
/-! slips -/
def x_slips : FD.Ctx := ⟨["frame", "motion", "foot"], defScope (topS 25), ["frame", "motion"], fns, cs, false, false⟩
theorem s_slips : FnScope x_slips.N ["frame", "motion"] (defScope (topS 25)) := ⟨rfl, rfl, rfl, by decide +kernel, rfl, by decide +kernel, by decide +kernel⟩
theorem c_slips (ct : CT) : cmpBody ct 4000 16 9 x_slips (defBody (topS 25)) = some (b_slips ct 4000) := rfl
/-! hinders_no_foot -/
def x_hinders_no_foot : FD.Ctx := ⟨["frame", "motion", "foot", "slip"], defScope (topS 30), ["frame", "motion", "foot", "slip"], fns, cs, false, false⟩
theorem s_hinders_no_foot : FnScope x_hinders_no_foot.N ["frame", "motion"] (defScope (topS 30)) := ⟨rfl, rfl, rfl, by decide +kernel, rfl, by decide +kernel, by decide +kernel⟩
theorem c_hinders_no_foot (ct : CT) : cmpBody ct 4000 16 9 x_hinders_no_foot (defBody (topS 30)) = some (b_hinders_no_foot ct 4000) := rfl
/-! times -/
def x_times : FD.Ctx := ⟨["s", "t"], defScope (topS 7), ["s", "t"], fns, cs, false, false⟩
theorem s_times : FnScope x_times.N ["s", "t"] (defScope (topS 7)) := ⟨rfl, rfl, rfl, by decide +kernel, rfl, by decide +kernel, by decide +kernel⟩
theorem c_times (ct : CT) : cmpBody ct 4000 16 9 x_times (defBody (topS 7)) = some (b_times ct 4000) := rfl
/-! opposite -/
def x_opposite : FD.Ctx := ⟨["t"], defScope (topS 5), ["t"], fns, cs, false, false⟩
theorem s_opposite : FnScope x_opposite.N ["t"] (defScope (topS 5)) := ⟨rfl, rfl, rfl, by decide +kernel, rfl, by decide +kernel, by decide +kernel⟩
theorem c_opposite (ct : CT) : cmpBody ct 4000 16 9 x_opposite (defBody (topS 5)) = some (b_opposite ct 4000) := rfl
/-! resistance -/
def x_resistance : FD.Ctx := ⟨["bar", "s", "limit"], defScope (topS 26), ["bar", "s", "limit"], fns, cs, false, false⟩
theorem s_resistance : FnScope x_resistance.N ["bar", "s"] (defScope (topS 26)) := ⟨rfl, rfl, rfl, by decide +kernel, rfl, by decide +kernel, by decide +kernel⟩
theorem c_resistance (ct : CT) : cmpBody ct 4000 16 9 x_resistance (defBody (topS 26)) = some (b_resistance ct 4000) := rfl
/-! added -/
def x_added : FD.Ctx := ⟨["s", "t"], defScope (topS 4), ["s", "t"], fns, cs, false, false⟩
theorem s_added : FnScope x_added.N ["s", "t"] (defScope (topS 4)) := ⟨rfl, rfl, rfl, by decide +kernel, rfl, by decide +kernel, by decide +kernel⟩
theorem c_added (ct : CT) : cmpBody ct 4000 16 9 x_added (defBody (topS 4)) = some (b_added ct 4000) := rfl
/-! price_of_bars -/
def x_price_of_bars : FD.Ctx := ⟨["frame", "asked", "total", "bar", "s", "cost"], defScope (topS 32), ["frame", "asked", "total", "bar", "s", "cost"], fns, cs, false, false⟩
theorem s_price_of_bars : FnScope x_price_of_bars.N ["frame", "asked"] (defScope (topS 32)) := ⟨rfl, rfl, rfl, by decide +kernel, rfl, by decide +kernel, by decide +kernel⟩
theorem c_price_of_bars (ct : CT) : cmpBody ct 4000 16 9 x_price_of_bars (defBody (topS 32)) = some (b_price_of_bars ct 4000) := rfl
/-! plus -/
def x_plus : FD.Ctx := ⟨["first", "second", "s", "t"], defScope (topS 12), ["first", "second"], fns, cs, false, false⟩
theorem s_plus : FnScope x_plus.N ["first", "second"] (defScope (topS 12)) := ⟨rfl, rfl, rfl, by decide +kernel, rfl, by decide +kernel, by decide +kernel⟩
theorem c_plus (ct : CT) : cmpBody ct 4000 16 9 x_plus (defBody (topS 12)) = some (b_plus ct 4000) := rfl
/-! minus -/
def x_minus : FD.Ctx := ⟨["first", "second", "s", "t"], defScope (topS 13), ["first", "second"], fns, cs, false, false⟩
theorem s_minus : FnScope x_minus.N ["first", "second"] (defScope (topS 13)) := ⟨rfl, rfl, rfl, by decide +kernel, rfl, by decide +kernel, by decide +kernel⟩
theorem c_minus (ct : CT) : cmpBody ct 4000 16 9 x_minus (defBody (topS 13)) = some (b_minus ct 4000) := rfl
/-! places_of -/
def x_places_of : FD.Ctx := ⟨["frame", "_", "place"], defScope (topS 17), ["frame"], fns, cs, false, false⟩
theorem s_places_of : FnScope x_places_of.N ["frame"] (defScope (topS 17)) := ⟨rfl, rfl, rfl, by decide +kernel, rfl, by decide +kernel, by decide +kernel⟩
theorem c_places_of (ct : CT) : cmpBody ct 4000 16 9 x_places_of (defBody (topS 17)) = some (b_places_of ct 4000) := rfl
/-! less -/
def x_less : FD.Ctx := ⟨["s", "t"], defScope (topS 6), ["s", "t"], fns, cs, false, false⟩
theorem s_less : FnScope x_less.N ["s", "t"] (defScope (topS 6)) := ⟨rfl, rfl, rfl, by decide +kernel, rfl, by decide +kernel, by decide +kernel⟩
theorem c_less (ct : CT) : cmpBody ct 4000 16 9 x_less (defBody (topS 6)) = some (b_less ct 4000) := rfl
/-! span -/
def x_span : FD.Ctx := ⟨["frame", "bar", "places", "first", "second"], defScope (topS 18), ["frame", "bar", "places", "first", "second"], fns, cs, false, false⟩
theorem s_span : FnScope x_span.N ["frame", "bar"] (defScope (topS 18)) := ⟨rfl, rfl, rfl, by decide +kernel, rfl, by decide +kernel, by decide +kernel⟩
theorem c_span (ct : CT) : cmpBody ct 4000 16 9 x_span (defBody (topS 18)) = some (b_span ct 4000) := rfl
/-! stretch -/
def x_stretch : FD.Ctx := ⟨["frame", "bar", "motion"], defScope (topS 23), ["frame", "bar", "motion"], fns, cs, false, false⟩
theorem s_stretch : FnScope x_stretch.N ["frame", "bar", "motion"] (defScope (topS 23)) := ⟨rfl, rfl, rfl, by decide +kernel, rfl, by decide +kernel, by decide +kernel⟩
theorem c_stretch (ct : CT) : cmpBody ct 4000 16 9 x_stretch (defBody (topS 23)) = some (b_stretch ct 4000) := rfl
/-! stretches -/
def x_stretches : FD.Ctx := ⟨["frame", "motion", "bar"], defScope (topS 24), ["frame", "motion"], fns, cs, false, false⟩
theorem s_stretches : FnScope x_stretches.N ["frame", "motion"] (defScope (topS 24)) := ⟨rfl, rfl, rfl, by decide +kernel, rfl, by decide +kernel, by decide +kernel⟩
theorem c_stretches (ct : CT) : cmpBody ct 4000 16 9 x_stretches (defBody (topS 24)) = some (b_stretches ct 4000) := rfl
/-! asked_of_bars -/
def x_asked_of_bars : FD.Ctx := ⟨["site", "target", "pulls", "motion", "found", "gauge", "t"], defScope (topS 31), ["site", "target", "pulls", "motion", "found", "gauge", "t"], fns, cs, false, false⟩
theorem s_asked_of_bars : FnScope x_asked_of_bars.N ["site", "target", "pulls", "motion"] (defScope (topS 31)) := ⟨rfl, rfl, rfl, by decide +kernel, rfl, by decide +kernel, by decide +kernel⟩
theorem c_asked_of_bars (ct : CT) : cmpBody ct 4000 16 9 x_asked_of_bars (defBody (topS 31)) = some (b_asked_of_bars ct 4000) := rfl
/-! size -/
def x_size : FD.Ctx := ⟨["t"], defScope (topS 28), ["t"], fns, cs, false, false⟩
theorem s_size : FnScope x_size.N ["t"] (defScope (topS 28)) := ⟨rfl, rfl, rfl, by decide +kernel, rfl, by decide +kernel, by decide +kernel⟩
theorem c_size (ct : CT) : cmpBody ct 4000 16 9 x_size (defBody (topS 28)) = some (b_size ct 4000) := rfl
/-! work_of -/
def x_work_of : FD.Ctx := ⟨["loads", "motion", "total", "force", "way"], defScope (topS 20), ["loads", "motion", "total", "force", "way"], fns, cs, false, false⟩
theorem s_work_of : FnScope x_work_of.N ["loads", "motion"] (defScope (topS 20)) := ⟨rfl, rfl, rfl, by decide +kernel, rfl, by decide +kernel, by decide +kernel⟩
theorem c_work_of (ct : CT) : cmpBody ct 4000 16 9 x_work_of (defBody (topS 20)) = some (b_work_of ct 4000) := rfl
/-! price_of_patterns -/
def x_price_of_patterns : FD.Ctx := ⟨["site", "target", "motion", "total", "t", "pattern", "beyond"], defScope (topS 33), ["site", "target", "motion", "total", "t", "pattern", "beyond"], fns, cs, false, false⟩
theorem s_price_of_patterns : FnScope x_price_of_patterns.N ["site", "target", "motion"] (defScope (topS 33)) := ⟨rfl, rfl, rfl, by decide +kernel, rfl, by decide +kernel, by decide +kernel⟩
theorem c_price_of_patterns (ct : CT) : cmpBody ct 4000 16 9 x_price_of_patterns (defBody (topS 33)) = some (b_price_of_patterns ct 4000) := rfl
/-! price_of -/
def x_price_of : FD.Ctx := ⟨["site", "target", "pulls", "motion", "total", "t", "gauge"], defScope (topS 34), ["site", "target", "pulls", "motion", "total", "t", "gauge"], fns, cs, false, false⟩
theorem s_price_of : FnScope x_price_of.N ["site", "target", "pulls", "motion"] (defScope (topS 34)) := ⟨rfl, rfl, rfl, by decide +kernel, rfl, by decide +kernel, by decide +kernel⟩
theorem c_price_of (ct : CT) : cmpBody ct 4000 16 9 x_price_of (defBody (topS 34)) = some (b_price_of ct 4000) := rfl
/-! _law_same -/
def x_law_same : FD.Ctx := ⟨["a", "b", "k"], defScope (topS 40), ["a", "b", "k"], fns, cs, false, false⟩
theorem s_law_same : FnScope x_law_same.N ["a", "b"] (defScope (topS 40)) := ⟨rfl, rfl, rfl, by decide +kernel, rfl, by decide +kernel, by decide +kernel⟩
theorem c_law_same (ct : CT) : cmpBody ct 4000 16 9 x_law_same (defBody (topS 40)) = some (b_law_same ct 4000) := rfl
/-! _law_dot -/
def x_law_dot : FD.Ctx := ⟨["one", "two", "total", "k"], defScope (topS 46), ["one", "two", "total", "k"], fns, cs, false, false⟩
theorem s_law_dot : FnScope x_law_dot.N ["one", "two"] (defScope (topS 46)) := ⟨rfl, rfl, rfl, by decide +kernel, rfl, by decide +kernel, by decide +kernel⟩
theorem c_law_dot (ct : CT) : cmpBody ct 4000 16 9 x_law_dot (defBody (topS 46)) = some (b_law_dot ct 4000) := rfl
/-! _law_stretch -/
def x_law_stretch : FD.Ctx := ⟨["frame", "bar", "motion", "way", "moved"], defScope (topS 49), ["frame", "bar", "motion", "way", "moved"], fns, cs, false, false⟩
theorem s_law_stretch : FnScope x_law_stretch.N ["frame", "bar", "motion"] (defScope (topS 49)) := ⟨rfl, rfl, rfl, by decide +kernel, rfl, by decide +kernel, by decide +kernel⟩
theorem c_law_stretch (ct : CT) : cmpBody ct 4000 16 9 x_law_stretch (defBody (topS 49)) = some (b_law_stretch ct 4000) := rfl
/-! _law_asked -/
def x_law_asked : FD.Ctx := ⟨["site", "target", "pulls", "motion", "found", "g", "b"], defScope (topS 58), ["site", "target", "pulls", "motion", "found", "g"], fns, cs, false, false⟩
theorem s_law_asked : FnScope x_law_asked.N ["site", "target", "pulls", "motion"] (defScope (topS 58)) := ⟨rfl, rfl, rfl, by decide +kernel, rfl, by decide +kernel, by decide +kernel⟩
theorem c_law_asked (ct : CT) : cmpBody ct 4000 16 9 x_law_asked (defBody (topS 58)) = some (b_law_asked ct 4000) := rfl
/-! _law_work -/
def x_law_work : FD.Ctx := ⟨["loads", "motion", "total", "k"], defScope (topS 50), ["loads", "motion", "total", "k"], fns, cs, false, false⟩
theorem s_law_work : FnScope x_law_work.N ["loads", "motion"] (defScope (topS 50)) := ⟨rfl, rfl, rfl, by decide +kernel, rfl, by decide +kernel, by decide +kernel⟩
theorem c_law_work (ct : CT) : cmpBody ct 4000 16 9 x_law_work (defBody (topS 50)) = some (b_law_work ct 4000) := rfl
/-! _law_size -/
def x_law_size : FD.Ctx := ⟨["t"], defScope (topS 55), ["t"], fns, cs, false, false⟩
theorem s_law_size : FnScope x_law_size.N ["t"] (defScope (topS 55)) := ⟨rfl, rfl, rfl, by decide +kernel, rfl, by decide +kernel, by decide +kernel⟩
theorem c_law_size (ct : CT) : cmpBody ct 4000 16 9 x_law_size (defBody (topS 55)) = some (b_law_size ct 4000) := rfl
/-! _law_price -/
def x_law_price : FD.Ctx := ⟨["site", "target", "pulls", "motion", "frame", "joint", "way", "kind", "slip", "asked", "total", "b", "limit", "g", "k", "beyond"], defScope (topS 59), ["site", "target", "pulls", "motion", "frame", "joint", "way", "kind", "slip", "asked", "total", "b", "limit", "g", "k", "beyond"], fns, cs, false, false⟩
theorem s_law_price : FnScope x_law_price.N ["site", "target", "pulls", "motion"] (defScope (topS 59)) := ⟨rfl, rfl, rfl, by decide +kernel, rfl, by decide +kernel, by decide +kernel⟩
theorem c_law_price (ct : CT) : cmpBody ct 4000 16 9 x_law_price (defBody (topS 59)) = some (b_law_price ct 4000) := rfl
/-! _law_less -/
def x_law_less : FD.Ctx := ⟨["s", "t"], defScope (topS 54), ["s", "t"], fns, cs, false, false⟩
theorem s_law_less : FnScope x_law_less.N ["s", "t"] (defScope (topS 54)) := ⟨rfl, rfl, rfl, by decide +kernel, rfl, by decide +kernel, by decide +kernel⟩
theorem c_law_less (ct : CT) : cmpBody ct 4000 16 9 x_law_less (defBody (topS 54)) = some (b_law_less ct 4000) := rfl
/-! _law_worth -/
def x_law_worth : FD.Ctx := ⟨["target", "factors", "state"], defScope (topS 61), ["target", "factors", "state"], fns, cs, false, false⟩
theorem s_law_worth : FnScope x_law_worth.N ["target", "factors", "state"] (defScope (topS 61)) := ⟨rfl, rfl, rfl, by decide +kernel, rfl, by decide +kernel, by decide +kernel⟩
theorem c_law_worth (ct : CT) : cmpBody ct 4000 16 9 x_law_worth (defBody (topS 61)) = some (b_law_worth ct 4000) := rfl
/-! _law_nothing -/
def x_law_nothing : FD.Ctx := ⟨["site"], defScope (topS 60), ["site"], fns, cs, false, false⟩
theorem s_law_nothing : FnScope x_law_nothing.N ["site"] (defScope (topS 60)) := ⟨rfl, rfl, rfl, by decide +kernel, rfl, by decide +kernel, by decide +kernel⟩
theorem c_law_nothing (ct : CT) : cmpBody ct 4000 16 9 x_law_nothing (defBody (topS 60)) = some (b_law_nothing ct 4000) := rfl
/-! _law_bool -/
def x_law_bool : FD.Ctx := ⟨["answer", "due"], defScope (topS 41), ["answer", "due"], fns, cs, false, false⟩
theorem s_law_bool : FnScope x_law_bool.N ["answer", "due"] (defScope (topS 41)) := ⟨rfl, rfl, rfl, by decide +kernel, rfl, by decide +kernel, by decide +kernel⟩
theorem c_law_bool (ct : CT) : cmpBody ct 4000 16 9 x_law_bool (defBody (topS 41)) = some (b_law_bool ct 4000) := rfl
/-! is_row -/
def x_is_row : FD.Ctx := ⟨["row", "width", "p", "q"], defScope (topS 14), ["row", "width"], fns, cs, false, false⟩
theorem s_is_row : FnScope x_is_row.N ["row", "width"] (defScope (topS 14)) := ⟨rfl, rfl, rfl, by decide +kernel, rfl, by decide +kernel, by decide +kernel⟩
theorem c_is_row (ct : CT) : cmpBody ct 4000 16 9 x_is_row (defBody (topS 14)) = some (b_is_row ct 4000) := rfl
/-! are_loads -/
def x_are_loads : FD.Ctx := ⟨["frame", "loads", "force"], defScope (topS 21), ["frame", "loads"], fns, cs, false, false⟩
theorem s_are_loads : FnScope x_are_loads.N ["frame", "loads"] (defScope (topS 21)) := ⟨rfl, rfl, rfl, by decide +kernel, rfl, by decide +kernel, by decide +kernel⟩
theorem c_are_loads (ct : CT) : cmpBody ct 4000 16 9 x_are_loads (defBody (topS 21)) = some (b_are_loads ct 4000) := rfl
/-! are_pulls -/
def x_are_pulls : FD.Ctx := ⟨["site", "pulls", "motion"], defScope (topS 35), ["site", "pulls", "motion"], fns, cs, false, false⟩
theorem s_are_pulls : FnScope x_are_pulls.N ["site", "pulls", "motion"] (defScope (topS 35)) := ⟨rfl, rfl, rfl, by decide +kernel, rfl, by decide +kernel, by decide +kernel⟩
theorem c_are_pulls (ct : CT) : cmpBody ct 4000 16 9 x_are_pulls (defBody (topS 35)) = some (b_are_pulls ct 4000) := rfl
/-! noughts -/
def x_noughts : FD.Ctx := ⟨["width"], defScope (topS 10), ["width"], fns, cs, false, false⟩
theorem s_noughts : FnScope x_noughts.N ["width"] (defScope (topS 10)) := ⟨rfl, rfl, rfl, by decide +kernel, rfl, by decide +kernel, by decide +kernel⟩
theorem c_noughts (ct : CT) : cmpBody ct 4000 16 9 x_noughts (defBody (topS 10)) = some (b_noughts ct 4000) := rfl
/-! no_target -/
def x_no_target : FD.Ctx := ⟨["site"], defScope (topS 29), ["site"], fns, cs, false, false⟩
theorem s_no_target : FnScope x_no_target.N ["site"] (defScope (topS 29)) := ⟨rfl, rfl, rfl, by decide +kernel, rfl, by decide +kernel, by decide +kernel⟩
theorem c_no_target (ct : CT) : cmpBody ct 4000 16 9 x_no_target (defBody (topS 29)) = some (b_no_target ct 4000) := rfl
/-! compare -/
def x_compare : FD.Ctx := ⟨["s", "t", "difference"], defScope (topS 8), ["s", "t", "difference"], fns, cs, false, false⟩
theorem s_compare : FnScope x_compare.N ["s", "t"] (defScope (topS 8)) := ⟨rfl, rfl, rfl, by decide +kernel, rfl, by decide +kernel, by decide +kernel⟩
theorem c_compare (ct : CT) : cmpBody ct 4000 16 9 x_compare (defBody (topS 8)) = some (b_compare ct 4000) := rfl
/-! shows_strange -/
def x_shows_strange : FD.Ctx := ⟨["site", "readings", "pulls", "motion", "price"], defScope (topS 36), ["site", "readings", "pulls", "motion", "price"], fns, cs, false, false⟩
theorem s_shows_strange : FnScope x_shows_strange.N ["site", "readings", "pulls", "motion"] (defScope (topS 36)) := ⟨rfl, rfl, rfl, by decide +kernel, rfl, by decide +kernel, by decide +kernel⟩
theorem c_shows_strange (ct : CT) : cmpBody ct 4000 16 9 x_shows_strange (defBody (topS 36)) = some (b_shows_strange ct 4000) := rfl
/-! _law_with -/
def x_law_with : FD.Ctx := ⟨["row", "k", "thing"], defScope (topS 68), ["row", "k", "thing"], fns, cs, false, false⟩
theorem s_law_with : FnScope x_law_with.N ["row", "k", "thing"] (defScope (topS 68)) := ⟨rfl, rfl, rfl, by decide +kernel, rfl, by decide +kernel, by decide +kernel⟩
theorem c_law_with (ct : CT) : cmpBody ct 4000 16 9 x_law_with (defBody (topS 68)) = some (b_law_with ct 4000) := rfl
/-! _law_at_the_price -/
def x_law_at_the_price : FD.Ctx := ⟨["deal", "site", "price", "pulls", "motion", "places", "g", "back", "more", "there"], defScope (topS 71), ["deal", "site", "price", "pulls", "motion", "places", "g", "back", "more", "there"], fns, cs, false, false⟩
def b_law_at_the_price (ct : CT) (w : Nat) : Ev Fl :=
  (sSeq (sAsg 5 (cLc (iR1 (cD (c1 pyLen (cVP 3)))) [6] (gNm 6) (cCmp pyNe (cD (c2 pyIx (cD (cVIx 3 (cVP 6))) (cD (cK (.int 0))))) (cD (cK (.int 0)))) (cD (cVE 6))))
  (sSeq (sIf (cOr (cCmp pyIs (cVP 2) (cD (cK .none))) (cCmp pyEq (cD (c1 pyLen (cVP 5))) (cD (cK (.int 0)))))
    (sRet (cK (.bool true)))
    sPass)
  (sSeq (sAsg 6 (cVIx 5 (cD (cCall ct 1 (cACons (cVE 0) (cACons (c1 pyLen (cVP 5)) cANil))))))
  (sSeq (sAsg 7 (cCall ct 4 (cACons (c2 pyIx (cD (cVIx 3 (cVP 6))) (cD (cK (.int 1)))) (cACons (c2 pyIx (cD (cVIx 3 (cVP 6))) (cD (cK (.int 0)))) cANil))))
  (sSeq (sFor (iSeq (cD (cLst (cCons (cD (cTup (cCons (cD (cK (.int 0))) (cCons (cD (cK (.int 1))) cNil)))) (cCons (cD (cTup (cCons (cD (cK (.int 1))) (cCons (cD (cK (.int 7))) cNil)))) (cCons (cD (cTup (cCons (cD (c1 pyNeg (cD (cK (.int 1))))) (cCons (cD (cK (.int 7))) cNil)))) cNil)))))) (gNm 8)
    (sSeq (sAsg 9 (cCall ct 61 (cACons (c2 pyMul (cD (cTup (cCons (cD (cTup (cCons (cD (cK (.int 0))) (cCons (cD (cK (.int 1))) cNil)))) cNil))) (cD (c1 pyLen (cVP 3)))) (cACons (cVE 6) (cACons (cCall ct 7 (cACons (cCall ct 5 (cACons (cVE 2) (cACons (cVE 8) cANil))) (cACons (cVE 7) cANil))) cANil)))))
    (sIf (cNot (cTru (cD (cCall ct 3 (cACons (cCall ct 79 (cACons (cVE 1) (cACons (cVE 9) (cACons (cVE 3) (cACons (cVE 4) cANil))))) (cACons (cB (cCmp pyGt (cD (cVIx 8 (cD (cK (.int 0))))) (cD (cK (.int 0))))) cANil))))))
      (sRet (cK (.bool false)))
      sPass)))
  (sRet (cK (.bool true))))))))
theorem s_law_at_the_price : FnScope x_law_at_the_price.N ["deal", "site", "price", "pulls", "motion"] (defScope (topS 71)) := ⟨rfl, rfl, rfl, by decide +kernel, rfl, by decide +kernel, by decide +kernel⟩
theorem c_law_at_the_price (ct : CT) : cmpBody ct 4000 16 9 x_law_at_the_price (defBody (topS 71)) = some (b_law_at_the_price ct 4000) := rfl
/-! law -/
def x_law : FD.Ctx := ⟨["script", "deal", "frame", "state", "site", "factors", "readings", "turn", "target", "pulls", "motion", "price", "plain", "strange"], defScope (topS 72), ["script", "deal", "frame", "state", "site", "factors", "readings", "turn", "target", "pulls", "motion", "price", "plain", "strange"], fns, cs, true, false⟩
def b_law (ct : CT) (w : Nat) : Ev Fl :=
  (sSeq (sAsgN 1 (cCall ct 0 (cACons (cVE 0) cANil)))
  (sSeq (sAsgN 2 (cIte (cCmp pyGt (cD (cCall ct 1 (cACons (cVE 1) (cACons (cK (.int 3)) cANil)))) (cD (cK (.int 0)))) (cCall ct 68 (cACons (cVE 1) cANil)) (cCall ct 58 (cACons (cVE 1) (cACons (cK (.int 2)) cANil)))))
  (sSeq (sAsgN 3 (cCall ct 70 (cACons (cVE 1) (cACons (cVE 2) cANil))))
  (sSeq (sUnp (gTp 2 (gC (gNm 4) (gC (gNm 5) gN))) (cD (cCall ct 71 (cACons (cVE 1) (cACons (cVE 2) (cACons (cVE 3) (cACons (cCall ct 1 (cACons (cVE 1) (cACons (cK (.int 5)) cANil))) (cACons (cCall ct 60 (cACons (cVE 1) (cACons (cVE 2) (cACons (cK (.int 6)) cANil)))) cANil))))))))
  (sSeq (sAsgN 6 (cCall ct 72 (cACons (cVE 1) (cACons (cVE 4) (cACons (cVE 3) cANil)))))
  (sSeq (sFor (iR1 (cD (cK (.int 3)))) (gNm 7)
    (sSeq (sAsgN 8 (cTup (cCons (cD (cCall ct 82 (cACons (cVE 1) (cACons (c1 pyLen (cD (cVIx 4 (cD (cK (.int 2)))))) cANil)))) (cCons (cD (cCall ct 82 (cACons (cVE 1) (cACons (c1 pyLen (cD (cVIx 2 (cD (cK (.int 3)))))) cANil)))) cNil))))
    (sSeq (sAsgN 9 (cCall ct 82 (cACons (cVE 1) (cACons (c1 pyLen (cD (cVIx 4 (cD (cK (.int 3)))))) cANil))))
    (sSeq (sAsgN 10 (cCall ct 83 (cACons (cVE 1) (cACons (cVE 2) cANil))))
    (sSeq (sAsgN 11 (cCall ct 77 (cACons (cVE 4) (cACons (cVE 8) (cACons (cVE 9) (cACons (cVE 10) cANil))))))
    (sSeq (sIf (cNot (cTru (cD (cCall ct 2 (cACons (cVE 11) (cACons (cCall ct 81 (cACons (cVE 4) (cACons (cVE 8) (cACons (cVE 9) (cACons (cVE 10) cANil))))) cANil))))))
      (sRet (cK (.bool false)))
      sPass)
    (sSeq (sIf (cAnd (cCmp pyIsNot (cVP 11) (cD (cK .none))) (cTru (cD (cCall ct 9 (cACons (cVE 11) (cACons (cCall ct 5 (cACons (cCall ct 67 (cACons (cVE 8) (cACons (cVE 5) (cACons (cVE 3) cANil)))) (cACons (cCall ct 8 (cACons (cVE 9) (cACons (cVE 6) cANil))) cANil))) cANil))))))
      (sRet (cK (.bool false)))
      sPass)
    (sSeq (sAsgN 12 (cCall ct 81 (cACons (cVE 4) (cACons (cCall ct 66 (cACons (cVE 4) cANil)) (cACons (cVE 9) (cACons (cVE 10) cANil))))))
    (sSeq (sAsgN 13 (cB (cAnd (cCmp pyIsNot (cVP 12) (cD (cK .none))) (cOfB (cD (cCall ct 9 (cACons (cVE 12) (cACons (cCall ct 8 (cACons (cVE 9) (cACons (cVE 6) cANil))) cANil))))))))
    (sIf (cOr (cNot (cTru (cD (cCall ct 3 (cACons (cCall ct 79 (cACons (cVE 4) (cACons (cVE 6) (cACons (cVE 9) (cACons (cVE 10) cANil))))) (cACons (cVE 13) cANil)))))) (cNot (cTru (cD (cCall ct 84 (cACons (cVE 1) (cACons (cVE 4) (cACons (cVE 12) (cACons (cVE 9) (cACons (cVE 10) cANil))))))))))
      (sRet (cK (.bool false)))
      sPass))))))))))
  (sRet (cK (.bool true)))))))))
theorem s_law : FnScope x_law.N ["script"] (defScope (topS 72)) := ⟨rfl, rfl, rfl, by decide +kernel, rfl, by decide +kernel, by decide +kernel⟩
theorem c_law (ct : CT) : cmpBody ct 4000 16 9 x_law (defBody (topS 72)) = some (b_law ct 4000) := rfl
def tab : List Fn := libT ++ libS ++ [⟨2, 8, b_law_motion⟩, ⟨5, 10, b_law_at_the_price⟩, ⟨1, 14, b_law⟩]
theorem tab_libS {i : Nat} {f : Fn} (h : (libT ++ libS)[i]? = some f) : tab[i]? = some f := by
  rw [tab, List.getElem?_append_left]
  · exact h
  · exact (List.getElem?_eq_some_iff.mp h).1
/-! ### what the top has written -/
theorem all_mk {P : Program} {w : World} {K : PySem.W.Frag} {h : Heap} {mg : Str → Option Value} {fa : Addr} (X : K.In h) (G : h.Ns mainGlobals mg) (hfa : mg "law" = some (.ref fa)) {k : Nat}
    {f1 : Addr} {od1 an1 : Option Addr} {sl1 : Array (Option Value)} {oc1 kV1 dc1 pm1 cd1 ct1 : Value}
    {f2 : Addr} {od2 an2 : Option Addr} {sl2 : Array (Option Value)} {oc2 kV2 dc2 pm2 cd2 ct2 : Value}
    {f3 : Addr} {od3 an3 : Option Addr} {sl3 : Array (Option Value)} {oc3 kV3 dc3 pm3 cd3 ct3 : Value}
    {f4 : Addr} {od4 an4 : Option Addr} {sl4 : Array (Option Value)} {oc4 kV4 dc4 pm4 cd4 ct4 : Value}
    {f5 : Addr} {od5 an5 : Option Addr} {sl5 : Array (Option Value)} {oc5 kV5 dc5 pm5 cd5 ct5 : Value}
    {f6 : Addr} {od6 an6 : Option Addr} {sl6 : Array (Option Value)} {oc6 kV6 dc6 pm6 cd6 ct6 : Value}
    {f7 : Addr} {od7 an7 : Option Addr} {sl7 : Array (Option Value)} {oc7 kV7 dc7 pm7 cd7 ct7 : Value}
    {f8 : Addr} {od8 an8 : Option Addr} {sl8 : Array (Option Value)} {oc8 kV8 dc8 pm8 cd8 ct8 : Value}
    {f9 : Addr} {od9 an9 : Option Addr} {sl9 : Array (Option Value)} {oc9 kV9 dc9 pm9 cd9 ct9 : Value}
    {f10 : Addr} {od10 an10 : Option Addr} {sl10 : Array (Option Value)} {oc10 kV10 dc10 pm10 cd10 ct10 : Value}
    {f11 : Addr} {od11 an11 : Option Addr} {sl11 : Array (Option Value)} {oc11 kV11 dc11 pm11 cd11 ct11 : Value}
    {f12 : Addr} {od12 an12 : Option Addr} {sl12 : Array (Option Value)} {oc12 kV12 dc12 pm12 cd12 ct12 : Value}
    {f13 : Addr} {od13 an13 : Option Addr} {sl13 : Array (Option Value)} {oc13 kV13 dc13 pm13 cd13 ct13 : Value}
    {f14 : Addr} {od14 an14 : Option Addr} {sl14 : Array (Option Value)} {oc14 kV14 dc14 pm14 cd14 ct14 : Value}
    {f15 : Addr} {od15 an15 : Option Addr} {sl15 : Array (Option Value)} {oc15 kV15 dc15 pm15 cd15 ct15 : Value}
    {f16 : Addr} {od16 an16 : Option Addr} {sl16 : Array (Option Value)} {oc16 kV16 dc16 pm16 cd16 ct16 : Value}
    {f17 : Addr} {od17 an17 : Option Addr} {sl17 : Array (Option Value)} {oc17 kV17 dc17 pm17 cd17 ct17 : Value}
    {f18 : Addr} {od18 an18 : Option Addr} {sl18 : Array (Option Value)} {oc18 kV18 dc18 pm18 cd18 ct18 : Value}
    {f19 : Addr} {od19 an19 : Option Addr} {sl19 : Array (Option Value)} {oc19 kV19 dc19 pm19 cd19 ct19 : Value}
    {f20 : Addr} {od20 an20 : Option Addr} {sl20 : Array (Option Value)} {oc20 kV20 dc20 pm20 cd20 ct20 : Value}
    {f21 : Addr} {od21 an21 : Option Addr} {sl21 : Array (Option Value)} {oc21 kV21 dc21 pm21 cd21 ct21 : Value}
    {f22 : Addr} {od22 an22 : Option Addr} {sl22 : Array (Option Value)} {oc22 kV22 dc22 pm22 cd22 ct22 : Value}
    {f23 : Addr} {od23 an23 : Option Addr} {sl23 : Array (Option Value)} {oc23 kV23 dc23 pm23 cd23 ct23 : Value}
    {f24 : Addr} {od24 an24 : Option Addr} {sl24 : Array (Option Value)} {oc24 kV24 dc24 pm24 cd24 ct24 : Value}
    {f25 : Addr} {od25 an25 : Option Addr} {sl25 : Array (Option Value)} {oc25 kV25 dc25 pm25 cd25 ct25 : Value}
    {f26 : Addr} {od26 an26 : Option Addr} {sl26 : Array (Option Value)} {oc26 kV26 dc26 pm26 cd26 ct26 : Value}
    {f27 : Addr} {od27 an27 : Option Addr} {sl27 : Array (Option Value)} {oc27 kV27 dc27 pm27 cd27 ct27 : Value}
    {f28 : Addr} {od28 an28 : Option Addr} {sl28 : Array (Option Value)} {oc28 kV28 dc28 pm28 cd28 ct28 : Value}
    {f29 : Addr} {od29 an29 : Option Addr} {sl29 : Array (Option Value)} {oc29 kV29 dc29 pm29 cd29 ct29 : Value}
    {f30 : Addr} {od30 an30 : Option Addr} {sl30 : Array (Option Value)} {oc30 kV30 dc30 pm30 cd30 ct30 : Value}
    {f31 : Addr} {od31 an31 : Option Addr} {sl31 : Array (Option Value)} {oc31 kV31 dc31 pm31 cd31 ct31 : Value}
    {f32 : Addr} {od32 an32 : Option Addr} {sl32 : Array (Option Value)} {oc32 kV32 dc32 pm32 cd32 ct32 : Value}
    {f33 : Addr} {od33 an33 : Option Addr} {sl33 : Array (Option Value)} {oc33 kV33 dc33 pm33 cd33 ct33 : Value}
    {f34 : Addr} {od34 an34 : Option Addr} {sl34 : Array (Option Value)} {oc34 kV34 dc34 pm34 cd34 ct34 : Value}
    {f35 : Addr} {od35 an35 : Option Addr} {sl35 : Array (Option Value)} {oc35 kV35 dc35 pm35 cd35 ct35 : Value}
    {f36 : Addr} {od36 an36 : Option Addr} {sl36 : Array (Option Value)} {oc36 kV36 dc36 pm36 cd36 ct36 : Value}
    {f37 : Addr} {od37 an37 : Option Addr} {sl37 : Array (Option Value)} {oc37 kV37 dc37 pm37 cd37 ct37 : Value}
    {f38 : Addr} {od38 an38 : Option Addr} {sl38 : Array (Option Value)} {oc38 kV38 dc38 pm38 cd38 ct38 : Value}
    {f39 : Addr} {od39 an39 : Option Addr} {sl39 : Array (Option Value)} {oc39 kV39 dc39 pm39 cd39 ct39 : Value}
    {f40 : Addr} {od40 an40 : Option Addr} {sl40 : Array (Option Value)} {oc40 kV40 dc40 pm40 cd40 ct40 : Value}
    {f41 : Addr} {od41 an41 : Option Addr} {sl41 : Array (Option Value)} {oc41 kV41 dc41 pm41 cd41 ct41 : Value}
    {f42 : Addr} {od42 an42 : Option Addr} {sl42 : Array (Option Value)} {oc42 kV42 dc42 pm42 cd42 ct42 : Value}
    {f43 : Addr} {od43 an43 : Option Addr} {sl43 : Array (Option Value)} {oc43 kV43 dc43 pm43 cd43 ct43 : Value}
    {f44 : Addr} {od44 an44 : Option Addr} {sl44 : Array (Option Value)} {oc44 kV44 dc44 pm44 cd44 ct44 : Value}
    {f45 : Addr} {od45 an45 : Option Addr} {sl45 : Array (Option Value)} {oc45 kV45 dc45 pm45 cd45 ct45 : Value}
    {f46 : Addr} {od46 an46 : Option Addr} {sl46 : Array (Option Value)} {oc46 kV46 dc46 pm46 cd46 ct46 : Value}
    {f47 : Addr} {od47 an47 : Option Addr} {sl47 : Array (Option Value)} {oc47 kV47 dc47 pm47 cd47 ct47 : Value}
    {f48 : Addr} {od48 an48 : Option Addr} {sl48 : Array (Option Value)} {oc48 kV48 dc48 pm48 cd48 ct48 : Value}
    {f49 : Addr} {od49 an49 : Option Addr} {sl49 : Array (Option Value)} {oc49 kV49 dc49 pm49 cd49 ct49 : Value}
    {f50 : Addr} {od50 an50 : Option Addr} {sl50 : Array (Option Value)} {oc50 kV50 dc50 pm50 cd50 ct50 : Value}
    {f51 : Addr} {od51 an51 : Option Addr} {sl51 : Array (Option Value)} {oc51 kV51 dc51 pm51 cd51 ct51 : Value}
    {f52 : Addr} {od52 an52 : Option Addr} {sl52 : Array (Option Value)} {oc52 kV52 dc52 pm52 cd52 ct52 : Value}
    {f53 : Addr} {od53 an53 : Option Addr} {sl53 : Array (Option Value)} {oc53 kV53 dc53 pm53 cd53 ct53 : Value}
    {f54 : Addr} {od54 an54 : Option Addr} {sl54 : Array (Option Value)} {oc54 kV54 dc54 pm54 cd54 ct54 : Value}
    {f55 : Addr} {od55 an55 : Option Addr} {sl55 : Array (Option Value)} {oc55 kV55 dc55 pm55 cd55 ct55 : Value}
    {f56 : Addr} {od56 an56 : Option Addr} {sl56 : Array (Option Value)} {oc56 kV56 dc56 pm56 cd56 ct56 : Value}
    {f57 : Addr} {od57 an57 : Option Addr} {sl57 : Array (Option Value)} {oc57 kV57 dc57 pm57 cd57 ct57 : Value}
    {f58 : Addr} {od58 an58 : Option Addr} {sl58 : Array (Option Value)} {oc58 kV58 dc58 pm58 cd58 ct58 : Value}
    {f59 : Addr} {od59 an59 : Option Addr} {sl59 : Array (Option Value)} {oc59 kV59 dc59 pm59 cd59 ct59 : Value}
    {f60 : Addr} {od60 an60 : Option Addr} {sl60 : Array (Option Value)} {oc60 kV60 dc60 pm60 cd60 ct60 : Value}
    {f61 : Addr} {od61 an61 : Option Addr} {sl61 : Array (Option Value)} {oc61 kV61 dc61 pm61 cd61 ct61 : Value}
    {f62 : Addr} {od62 an62 : Option Addr} {sl62 : Array (Option Value)} {oc62 kV62 dc62 pm62 cd62 ct62 : Value}
    {f63 : Addr} {od63 an63 : Option Addr} {sl63 : Array (Option Value)} {oc63 kV63 dc63 pm63 cd63 ct63 : Value}
    {f64 : Addr} {od64 an64 : Option Addr} {sl64 : Array (Option Value)} {oc64 kV64 dc64 pm64 cd64 ct64 : Value}
    (a1 : PySem.W.nsIn K mainGlobals "_law_deal" = some (some (.ref f1))) (l1 : K.lookup f1 = some ⟨oc1, od1, .func (PySem.W.fnOf "_law_deal" "_law_deal" (defArgs (topS 38)) (defBody (topS 38)) (defScope (topS 38)) .none kV1 dc1 pm1 an1 cd1 ct1), sl1⟩) (c1 : PySem.W.codeIn K cd1 "_law_deal" = true) (k1 : PySem.W.keepIn K (.ref f1) = true)
    (a2 : PySem.W.nsIn K mainGlobals "_law_take" = some (some (.ref f2))) (l2 : K.lookup f2 = some ⟨oc2, od2, .func (PySem.W.fnOf "_law_take" "_law_take" (defArgs (topS 39)) (defBody (topS 39)) (defScope (topS 39)) .none kV2 dc2 pm2 an2 cd2 ct2), sl2⟩) (c2 : PySem.W.codeIn K cd2 "_law_take" = true) (k2 : PySem.W.keepIn K (.ref f2) = true)
    (a3 : PySem.W.nsIn K mainGlobals "_law_ratio" = some (some (.ref f3))) (l3 : K.lookup f3 = some ⟨oc3, od3, .func (PySem.W.fnOf "_law_ratio" "_law_ratio" (defArgs (topS 42)) (defBody (topS 42)) (defScope (topS 42)) .none kV3 dc3 pm3 an3 cd3 ct3), sl3⟩) (c3 : PySem.W.codeIn K cd3 "_law_ratio" = true) (k3 : PySem.W.keepIn K (.ref f3) = true)
    (a4 : PySem.W.nsIn K mainGlobals "_law_limit" = some (some (.ref f4))) (l4 : K.lookup f4 = some ⟨oc4, od4, .func (PySem.W.fnOf "_law_limit" "_law_limit" (defArgs (topS 51)) (defBody (topS 51)) (defScope (topS 51)) .none kV4 dc4 pm4 an4 cd4 ct4), sl4⟩) (c4 : PySem.W.codeIn K cd4 "_law_limit" = true) (k4 : PySem.W.keepIn K (.ref f4) = true)
    (a5 : PySem.W.nsIn K mainGlobals "_law_frame" = some (some (.ref f5))) (l5 : K.lookup f5 = some ⟨oc5, od5, .func (PySem.W.fnOf "_law_frame" "_law_frame" (defArgs (topS 52)) (defBody (topS 52)) (defScope (topS 52)) .none kV5 dc5 pm5 an5 cd5 ct5), sl5⟩) (c5 : PySem.W.codeIn K cd5 "_law_frame" = true) (k5 : PySem.W.keepIn K (.ref f5) = true)
    (a6 : PySem.W.nsIn K mainGlobals "_law_truss" = some (some (.ref f6))) (l6 : K.lookup f6 = some ⟨oc6, od6, .func (PySem.W.fnOf "_law_truss" "_law_truss" (defArgs (topS 62)) (defBody (topS 62)) (defScope (topS 62)) .none kV6 dc6 pm6 an6 cd6 ct6), sl6⟩) (c6 : PySem.W.codeIn K cd6 "_law_truss" = true) (k6 : PySem.W.keepIn K (.ref f6) = true)
    (a7 : PySem.W.nsIn K mainGlobals "_law_plus" = some (some (.ref f7))) (l7 : K.lookup f7 = some ⟨oc7, od7, .func (PySem.W.fnOf "_law_plus" "_law_plus" (defArgs (topS 43)) (defBody (topS 43)) (defScope (topS 43)) .none kV7 dc7 pm7 an7 cd7 ct7), sl7⟩) (c7 : PySem.W.codeIn K cd7 "_law_plus" = true) (k7 : PySem.W.keepIn K (.ref f7) = true)
    (a8 : PySem.W.nsIn K mainGlobals "_law_mult" = some (some (.ref f8))) (l8 : K.lookup f8 = some ⟨oc8, od8, .func (PySem.W.fnOf "_law_mult" "_law_mult" (defArgs (topS 45)) (defBody (topS 45)) (defScope (topS 45)) .none kV8 dc8 pm8 an8 cd8 ct8), sl8⟩) (c8 : PySem.W.codeIn K cd8 "_law_mult" = true) (k8 : PySem.W.keepIn K (.ref f8) = true)
    (a9 : PySem.W.nsIn K mainGlobals "_law_minus" = some (some (.ref f9))) (l9 : K.lookup f9 = some ⟨oc9, od9, .func (PySem.W.fnOf "_law_minus" "_law_minus" (defArgs (topS 44)) (defBody (topS 44)) (defScope (topS 44)) .none kV9 dc9 pm9 an9 cd9 ct9), sl9⟩) (c9 : PySem.W.codeIn K cd9 "_law_minus" = true) (k9 : PySem.W.keepIn K (.ref f9) = true)
    (a10 : PySem.W.nsIn K mainGlobals "_law_density" = some (some (.ref f10))) (l10 : K.lookup f10 = some ⟨oc10, od10, .func (PySem.W.fnOf "_law_density" "_law_density" (defArgs (topS 63)) (defBody (topS 63)) (defScope (topS 63)) .none kV10 dc10 pm10 an10 cd10 ct10), sl10⟩) (c10 : PySem.W.codeIn K cd10 "_law_density" = true) (k10 : PySem.W.keepIn K (.ref f10) = true)
    (a11 : PySem.W.nsIn K mainGlobals "_law_state" = some (some (.ref f11))) (l11 : K.lookup f11 = some ⟨oc11, od11, .func (PySem.W.fnOf "_law_state" "_law_state" (defArgs (topS 64)) (defBody (topS 64)) (defScope (topS 64)) .none kV11 dc11 pm11 an11 cd11 ct11), sl11⟩) (c11 : PySem.W.codeIn K cd11 "_law_state" = true) (k11 : PySem.W.keepIn K (.ref f11) = true)
    (a12 : PySem.W.nsIn K mainGlobals "_law_loads" = some (some (.ref f12))) (l12 : K.lookup f12 = some ⟨oc12, od12, .func (PySem.W.fnOf "_law_loads" "_law_loads" (defArgs (topS 53)) (defBody (topS 53)) (defScope (topS 53)) .none kV12 dc12 pm12 an12 cd12 ct12), sl12⟩) (c12 : PySem.W.codeIn K cd12 "_law_loads" = true) (k12 : PySem.W.keepIn K (.ref f12) = true)
    (a13 : PySem.W.nsIn K mainGlobals "_law_under" = some (some (.ref f13))) (l13 : K.lookup f13 = some ⟨oc13, od13, .func (PySem.W.fnOf "_law_under" "_law_under" (defArgs (topS 57)) (defBody (topS 57)) (defScope (topS 57)) .none kV13 dc13 pm13 an13 cd13 ct13), sl13⟩) (c13 : PySem.W.codeIn K cd13 "_law_under" = true) (k13 : PySem.W.keepIn K (.ref f13) = true)
    (a14 : PySem.W.nsIn K mainGlobals "_law_span" = some (some (.ref f14))) (l14 : K.lookup f14 = some ⟨oc14, od14, .func (PySem.W.fnOf "_law_span" "_law_span" (defArgs (topS 47)) (defBody (topS 47)) (defScope (topS 47)) .none kV14 dc14 pm14 an14 cd14 ct14), sl14⟩) (c14 : PySem.W.codeIn K cd14 "_law_span" = true) (k14 : PySem.W.keepIn K (.ref f14) = true)
    (a15 : PySem.W.nsIn K mainGlobals "_law_forces" = some (some (.ref f15))) (l15 : K.lookup f15 = some ⟨oc15, od15, .func (PySem.W.fnOf "_law_forces" "_law_forces" (defArgs (topS 48)) (defBody (topS 48)) (defScope (topS 48)) .none kV15 dc15 pm15 an15 cd15 ct15), sl15⟩) (c15 : PySem.W.codeIn K cd15 "_law_forces" = true) (k15 : PySem.W.keepIn K (.ref f15) = true)
    (a16 : PySem.W.nsIn K mainGlobals "_law_turned" = some (some (.ref f16))) (l16 : K.lookup f16 = some ⟨oc16, od16, .func (PySem.W.fnOf "_law_turned" "_law_turned" (defArgs (topS 56)) (defBody (topS 56)) (defScope (topS 56)) .none kV16 dc16 pm16 an16 cd16 ct16), sl16⟩) (c16 : PySem.W.codeIn K cd16 "_law_turned" = true) (k16 : PySem.W.keepIn K (.ref f16) = true)
    (a17 : PySem.W.nsIn K mainGlobals "_law_site" = some (some (.ref f17))) (l17 : K.lookup f17 = some ⟨oc17, od17, .func (PySem.W.fnOf "_law_site" "_law_site" (defArgs (topS 66)) (defBody (topS 66)) (defScope (topS 66)) .none kV17 dc17 pm17 an17 cd17 ct17), sl17⟩) (c17 : PySem.W.codeIn K cd17 "_law_site" = true) (k17 : PySem.W.keepIn K (.ref f17) = true)
    (a18 : PySem.W.nsIn K mainGlobals "_law_gauges" = some (some (.ref f18))) (l18 : K.lookup f18 = some ⟨oc18, od18, .func (PySem.W.fnOf "_law_gauges" "_law_gauges" (defArgs (topS 65)) (defBody (topS 65)) (defScope (topS 65)) .none kV18 dc18 pm18 an18 cd18 ct18), sl18⟩) (c18 : PySem.W.codeIn K cd18 "_law_gauges" = true) (k18 : PySem.W.keepIn K (.ref f18) = true)
    (a19 : PySem.W.nsIn K mainGlobals "_law_read" = some (some (.ref f19))) (l19 : K.lookup f19 = some ⟨oc19, od19, .func (PySem.W.fnOf "_law_read" "_law_read" (defArgs (topS 67)) (defBody (topS 67)) (defScope (topS 67)) .none kV19 dc19 pm19 an19 cd19 ct19), sl19⟩) (c19 : PySem.W.codeIn K cd19 "_law_read" = true) (k19 : PySem.W.keepIn K (.ref f19) = true)
    (a20 : PySem.W.nsIn K mainGlobals "_law_numbers" = some (some (.ref f20))) (l20 : K.lookup f20 = some ⟨oc20, od20, .func (PySem.W.fnOf "_law_numbers" "_law_numbers" (defArgs (topS 69)) (defBody (topS 69)) (defScope (topS 69)) .none kV20 dc20 pm20 an20 cd20 ct20), sl20⟩) (c20 : PySem.W.codeIn K cd20 "_law_numbers" = true) (k20 : PySem.W.keepIn K (.ref f20) = true)
    (a21 : PySem.W.nsIn K mainGlobals "_law_motion" = some (some (.ref f21))) (l21 : K.lookup f21 = some ⟨oc21, od21, .func (PySem.W.fnOf "_law_motion" "_law_motion" (defArgs (topS 70)) (defBody (topS 70)) (defScope (topS 70)) .none kV21 dc21 pm21 an21 cd21 ct21), sl21⟩) (c21 : PySem.W.codeIn K cd21 "_law_motion" = true) (k21 : PySem.W.keepIn K (.ref f21) = true)
    (a22 : PySem.W.nsIn K mainGlobals "greatest_divisor" = some (some (.ref f22))) (l22 : K.lookup f22 = some ⟨oc22, od22, .func (PySem.W.fnOf "greatest_divisor" "greatest_divisor" (defArgs (topS 2)) (defBody (topS 2)) (defScope (topS 2)) .none kV22 dc22 pm22 an22 cd22 ct22), sl22⟩) (c22 : PySem.W.codeIn K cd22 "greatest_divisor" = true) (k22 : PySem.W.keepIn K (.ref f22) = true)
    (a23 : PySem.W.nsIn K mainGlobals "ratio" = some (some (.ref f23))) (l23 : K.lookup f23 = some ⟨oc23, od23, .func (PySem.W.fnOf "ratio" "ratio" (defArgs (topS 3)) (defBody (topS 3)) (defScope (topS 3)) .none kV23 dc23 pm23 an23 cd23 ct23), sl23⟩) (c23 : PySem.W.codeIn K cd23 "ratio" = true) (k23 : PySem.W.keepIn K (.ref f23) = true)
    (a24 : PySem.W.nsIn K mainGlobals "dot" = some (some (.ref f24))) (l24 : K.lookup f24 = some ⟨oc24, od24, .func (PySem.W.fnOf "dot" "dot" (defArgs (topS 11)) (defBody (topS 11)) (defScope (topS 11)) .none kV24 dc24 pm24 an24 cd24 ct24), sl24⟩) (c24 : PySem.W.codeIn K cd24 "dot" = true) (k24 : PySem.W.keepIn K (.ref f24) = true)
    (a25 : PySem.W.nsIn K mainGlobals "slips" = some (some (.ref f25))) (l25 : K.lookup f25 = some ⟨oc25, od25, .func (PySem.W.fnOf "slips" "slips" (defArgs (topS 25)) (defBody (topS 25)) (defScope (topS 25)) .none kV25 dc25 pm25 an25 cd25 ct25), sl25⟩) (c25 : PySem.W.codeIn K cd25 "slips" = true) (k25 : PySem.W.keepIn K (.ref f25) = true)
    (a26 : PySem.W.nsIn K mainGlobals "hinders_no_foot" = some (some (.ref f26))) (l26 : K.lookup f26 = some ⟨oc26, od26, .func (PySem.W.fnOf "hinders_no_foot" "hinders_no_foot" (defArgs (topS 30)) (defBody (topS 30)) (defScope (topS 30)) .none kV26 dc26 pm26 an26 cd26 ct26), sl26⟩) (c26 : PySem.W.codeIn K cd26 "hinders_no_foot" = true) (k26 : PySem.W.keepIn K (.ref f26) = true)
    (a27 : PySem.W.nsIn K mainGlobals "times" = some (some (.ref f27))) (l27 : K.lookup f27 = some ⟨oc27, od27, .func (PySem.W.fnOf "times" "times" (defArgs (topS 7)) (defBody (topS 7)) (defScope (topS 7)) .none kV27 dc27 pm27 an27 cd27 ct27), sl27⟩) (c27 : PySem.W.codeIn K cd27 "times" = true) (k27 : PySem.W.keepIn K (.ref f27) = true)
    (a28 : PySem.W.nsIn K mainGlobals "opposite" = some (some (.ref f28))) (l28 : K.lookup f28 = some ⟨oc28, od28, .func (PySem.W.fnOf "opposite" "opposite" (defArgs (topS 5)) (defBody (topS 5)) (defScope (topS 5)) .none kV28 dc28 pm28 an28 cd28 ct28), sl28⟩) (c28 : PySem.W.codeIn K cd28 "opposite" = true) (k28 : PySem.W.keepIn K (.ref f28) = true)
    (a29 : PySem.W.nsIn K mainGlobals "resistance" = some (some (.ref f29))) (l29 : K.lookup f29 = some ⟨oc29, od29, .func (PySem.W.fnOf "resistance" "resistance" (defArgs (topS 26)) (defBody (topS 26)) (defScope (topS 26)) .none kV29 dc29 pm29 an29 cd29 ct29), sl29⟩) (c29 : PySem.W.codeIn K cd29 "resistance" = true) (k29 : PySem.W.keepIn K (.ref f29) = true)
    (a30 : PySem.W.nsIn K mainGlobals "added" = some (some (.ref f30))) (l30 : K.lookup f30 = some ⟨oc30, od30, .func (PySem.W.fnOf "added" "added" (defArgs (topS 4)) (defBody (topS 4)) (defScope (topS 4)) .none kV30 dc30 pm30 an30 cd30 ct30), sl30⟩) (c30 : PySem.W.codeIn K cd30 "added" = true) (k30 : PySem.W.keepIn K (.ref f30) = true)
    (a31 : PySem.W.nsIn K mainGlobals "price_of_bars" = some (some (.ref f31))) (l31 : K.lookup f31 = some ⟨oc31, od31, .func (PySem.W.fnOf "price_of_bars" "price_of_bars" (defArgs (topS 32)) (defBody (topS 32)) (defScope (topS 32)) .none kV31 dc31 pm31 an31 cd31 ct31), sl31⟩) (c31 : PySem.W.codeIn K cd31 "price_of_bars" = true) (k31 : PySem.W.keepIn K (.ref f31) = true)
    (a32 : PySem.W.nsIn K mainGlobals "plus" = some (some (.ref f32))) (l32 : K.lookup f32 = some ⟨oc32, od32, .func (PySem.W.fnOf "plus" "plus" (defArgs (topS 12)) (defBody (topS 12)) (defScope (topS 12)) .none kV32 dc32 pm32 an32 cd32 ct32), sl32⟩) (c32 : PySem.W.codeIn K cd32 "plus" = true) (k32 : PySem.W.keepIn K (.ref f32) = true)
    (a33 : PySem.W.nsIn K mainGlobals "minus" = some (some (.ref f33))) (l33 : K.lookup f33 = some ⟨oc33, od33, .func (PySem.W.fnOf "minus" "minus" (defArgs (topS 13)) (defBody (topS 13)) (defScope (topS 13)) .none kV33 dc33 pm33 an33 cd33 ct33), sl33⟩) (c33 : PySem.W.codeIn K cd33 "minus" = true) (k33 : PySem.W.keepIn K (.ref f33) = true)
    (a34 : PySem.W.nsIn K mainGlobals "places_of" = some (some (.ref f34))) (l34 : K.lookup f34 = some ⟨oc34, od34, .func (PySem.W.fnOf "places_of" "places_of" (defArgs (topS 17)) (defBody (topS 17)) (defScope (topS 17)) .none kV34 dc34 pm34 an34 cd34 ct34), sl34⟩) (c34 : PySem.W.codeIn K cd34 "places_of" = true) (k34 : PySem.W.keepIn K (.ref f34) = true)
    (a35 : PySem.W.nsIn K mainGlobals "less" = some (some (.ref f35))) (l35 : K.lookup f35 = some ⟨oc35, od35, .func (PySem.W.fnOf "less" "less" (defArgs (topS 6)) (defBody (topS 6)) (defScope (topS 6)) .none kV35 dc35 pm35 an35 cd35 ct35), sl35⟩) (c35 : PySem.W.codeIn K cd35 "less" = true) (k35 : PySem.W.keepIn K (.ref f35) = true)
    (a36 : PySem.W.nsIn K mainGlobals "span" = some (some (.ref f36))) (l36 : K.lookup f36 = some ⟨oc36, od36, .func (PySem.W.fnOf "span" "span" (defArgs (topS 18)) (defBody (topS 18)) (defScope (topS 18)) .none kV36 dc36 pm36 an36 cd36 ct36), sl36⟩) (c36 : PySem.W.codeIn K cd36 "span" = true) (k36 : PySem.W.keepIn K (.ref f36) = true)
    (a37 : PySem.W.nsIn K mainGlobals "stretch" = some (some (.ref f37))) (l37 : K.lookup f37 = some ⟨oc37, od37, .func (PySem.W.fnOf "stretch" "stretch" (defArgs (topS 23)) (defBody (topS 23)) (defScope (topS 23)) .none kV37 dc37 pm37 an37 cd37 ct37), sl37⟩) (c37 : PySem.W.codeIn K cd37 "stretch" = true) (k37 : PySem.W.keepIn K (.ref f37) = true)
    (a38 : PySem.W.nsIn K mainGlobals "stretches" = some (some (.ref f38))) (l38 : K.lookup f38 = some ⟨oc38, od38, .func (PySem.W.fnOf "stretches" "stretches" (defArgs (topS 24)) (defBody (topS 24)) (defScope (topS 24)) .none kV38 dc38 pm38 an38 cd38 ct38), sl38⟩) (c38 : PySem.W.codeIn K cd38 "stretches" = true) (k38 : PySem.W.keepIn K (.ref f38) = true)
    (a39 : PySem.W.nsIn K mainGlobals "asked_of_bars" = some (some (.ref f39))) (l39 : K.lookup f39 = some ⟨oc39, od39, .func (PySem.W.fnOf "asked_of_bars" "asked_of_bars" (defArgs (topS 31)) (defBody (topS 31)) (defScope (topS 31)) .none kV39 dc39 pm39 an39 cd39 ct39), sl39⟩) (c39 : PySem.W.codeIn K cd39 "asked_of_bars" = true) (k39 : PySem.W.keepIn K (.ref f39) = true)
    (a40 : PySem.W.nsIn K mainGlobals "size" = some (some (.ref f40))) (l40 : K.lookup f40 = some ⟨oc40, od40, .func (PySem.W.fnOf "size" "size" (defArgs (topS 28)) (defBody (topS 28)) (defScope (topS 28)) .none kV40 dc40 pm40 an40 cd40 ct40), sl40⟩) (c40 : PySem.W.codeIn K cd40 "size" = true) (k40 : PySem.W.keepIn K (.ref f40) = true)
    (a41 : PySem.W.nsIn K mainGlobals "work_of" = some (some (.ref f41))) (l41 : K.lookup f41 = some ⟨oc41, od41, .func (PySem.W.fnOf "work_of" "work_of" (defArgs (topS 20)) (defBody (topS 20)) (defScope (topS 20)) .none kV41 dc41 pm41 an41 cd41 ct41), sl41⟩) (c41 : PySem.W.codeIn K cd41 "work_of" = true) (k41 : PySem.W.keepIn K (.ref f41) = true)
    (a42 : PySem.W.nsIn K mainGlobals "price_of_patterns" = some (some (.ref f42))) (l42 : K.lookup f42 = some ⟨oc42, od42, .func (PySem.W.fnOf "price_of_patterns" "price_of_patterns" (defArgs (topS 33)) (defBody (topS 33)) (defScope (topS 33)) .none kV42 dc42 pm42 an42 cd42 ct42), sl42⟩) (c42 : PySem.W.codeIn K cd42 "price_of_patterns" = true) (k42 : PySem.W.keepIn K (.ref f42) = true)
    (a43 : PySem.W.nsIn K mainGlobals "price_of" = some (some (.ref f43))) (l43 : K.lookup f43 = some ⟨oc43, od43, .func (PySem.W.fnOf "price_of" "price_of" (defArgs (topS 34)) (defBody (topS 34)) (defScope (topS 34)) .none kV43 dc43 pm43 an43 cd43 ct43), sl43⟩) (c43 : PySem.W.codeIn K cd43 "price_of" = true) (k43 : PySem.W.keepIn K (.ref f43) = true)
    (a44 : PySem.W.nsIn K mainGlobals "_law_same" = some (some (.ref f44))) (l44 : K.lookup f44 = some ⟨oc44, od44, .func (PySem.W.fnOf "_law_same" "_law_same" (defArgs (topS 40)) (defBody (topS 40)) (defScope (topS 40)) .none kV44 dc44 pm44 an44 cd44 ct44), sl44⟩) (c44 : PySem.W.codeIn K cd44 "_law_same" = true) (k44 : PySem.W.keepIn K (.ref f44) = true)
    (a45 : PySem.W.nsIn K mainGlobals "_law_dot" = some (some (.ref f45))) (l45 : K.lookup f45 = some ⟨oc45, od45, .func (PySem.W.fnOf "_law_dot" "_law_dot" (defArgs (topS 46)) (defBody (topS 46)) (defScope (topS 46)) .none kV45 dc45 pm45 an45 cd45 ct45), sl45⟩) (c45 : PySem.W.codeIn K cd45 "_law_dot" = true) (k45 : PySem.W.keepIn K (.ref f45) = true)
    (a46 : PySem.W.nsIn K mainGlobals "_law_stretch" = some (some (.ref f46))) (l46 : K.lookup f46 = some ⟨oc46, od46, .func (PySem.W.fnOf "_law_stretch" "_law_stretch" (defArgs (topS 49)) (defBody (topS 49)) (defScope (topS 49)) .none kV46 dc46 pm46 an46 cd46 ct46), sl46⟩) (c46 : PySem.W.codeIn K cd46 "_law_stretch" = true) (k46 : PySem.W.keepIn K (.ref f46) = true)
    (a47 : PySem.W.nsIn K mainGlobals "_law_asked" = some (some (.ref f47))) (l47 : K.lookup f47 = some ⟨oc47, od47, .func (PySem.W.fnOf "_law_asked" "_law_asked" (defArgs (topS 58)) (defBody (topS 58)) (defScope (topS 58)) .none kV47 dc47 pm47 an47 cd47 ct47), sl47⟩) (c47 : PySem.W.codeIn K cd47 "_law_asked" = true) (k47 : PySem.W.keepIn K (.ref f47) = true)
    (a48 : PySem.W.nsIn K mainGlobals "_law_work" = some (some (.ref f48))) (l48 : K.lookup f48 = some ⟨oc48, od48, .func (PySem.W.fnOf "_law_work" "_law_work" (defArgs (topS 50)) (defBody (topS 50)) (defScope (topS 50)) .none kV48 dc48 pm48 an48 cd48 ct48), sl48⟩) (c48 : PySem.W.codeIn K cd48 "_law_work" = true) (k48 : PySem.W.keepIn K (.ref f48) = true)
    (a49 : PySem.W.nsIn K mainGlobals "_law_size" = some (some (.ref f49))) (l49 : K.lookup f49 = some ⟨oc49, od49, .func (PySem.W.fnOf "_law_size" "_law_size" (defArgs (topS 55)) (defBody (topS 55)) (defScope (topS 55)) .none kV49 dc49 pm49 an49 cd49 ct49), sl49⟩) (c49 : PySem.W.codeIn K cd49 "_law_size" = true) (k49 : PySem.W.keepIn K (.ref f49) = true)
    (a50 : PySem.W.nsIn K mainGlobals "_law_price" = some (some (.ref f50))) (l50 : K.lookup f50 = some ⟨oc50, od50, .func (PySem.W.fnOf "_law_price" "_law_price" (defArgs (topS 59)) (defBody (topS 59)) (defScope (topS 59)) .none kV50 dc50 pm50 an50 cd50 ct50), sl50⟩) (c50 : PySem.W.codeIn K cd50 "_law_price" = true) (k50 : PySem.W.keepIn K (.ref f50) = true)
    (a51 : PySem.W.nsIn K mainGlobals "_law_less" = some (some (.ref f51))) (l51 : K.lookup f51 = some ⟨oc51, od51, .func (PySem.W.fnOf "_law_less" "_law_less" (defArgs (topS 54)) (defBody (topS 54)) (defScope (topS 54)) .none kV51 dc51 pm51 an51 cd51 ct51), sl51⟩) (c51 : PySem.W.codeIn K cd51 "_law_less" = true) (k51 : PySem.W.keepIn K (.ref f51) = true)
    (a52 : PySem.W.nsIn K mainGlobals "_law_worth" = some (some (.ref f52))) (l52 : K.lookup f52 = some ⟨oc52, od52, .func (PySem.W.fnOf "_law_worth" "_law_worth" (defArgs (topS 61)) (defBody (topS 61)) (defScope (topS 61)) .none kV52 dc52 pm52 an52 cd52 ct52), sl52⟩) (c52 : PySem.W.codeIn K cd52 "_law_worth" = true) (k52 : PySem.W.keepIn K (.ref f52) = true)
    (a53 : PySem.W.nsIn K mainGlobals "_law_nothing" = some (some (.ref f53))) (l53 : K.lookup f53 = some ⟨oc53, od53, .func (PySem.W.fnOf "_law_nothing" "_law_nothing" (defArgs (topS 60)) (defBody (topS 60)) (defScope (topS 60)) .none kV53 dc53 pm53 an53 cd53 ct53), sl53⟩) (c53 : PySem.W.codeIn K cd53 "_law_nothing" = true) (k53 : PySem.W.keepIn K (.ref f53) = true)
    (a54 : PySem.W.nsIn K mainGlobals "_law_bool" = some (some (.ref f54))) (l54 : K.lookup f54 = some ⟨oc54, od54, .func (PySem.W.fnOf "_law_bool" "_law_bool" (defArgs (topS 41)) (defBody (topS 41)) (defScope (topS 41)) .none kV54 dc54 pm54 an54 cd54 ct54), sl54⟩) (c54 : PySem.W.codeIn K cd54 "_law_bool" = true) (k54 : PySem.W.keepIn K (.ref f54) = true)
    (a55 : PySem.W.nsIn K mainGlobals "is_row" = some (some (.ref f55))) (l55 : K.lookup f55 = some ⟨oc55, od55, .func (PySem.W.fnOf "is_row" "is_row" (defArgs (topS 14)) (defBody (topS 14)) (defScope (topS 14)) .none kV55 dc55 pm55 an55 cd55 ct55), sl55⟩) (c55 : PySem.W.codeIn K cd55 "is_row" = true) (k55 : PySem.W.keepIn K (.ref f55) = true)
    (a56 : PySem.W.nsIn K mainGlobals "are_loads" = some (some (.ref f56))) (l56 : K.lookup f56 = some ⟨oc56, od56, .func (PySem.W.fnOf "are_loads" "are_loads" (defArgs (topS 21)) (defBody (topS 21)) (defScope (topS 21)) .none kV56 dc56 pm56 an56 cd56 ct56), sl56⟩) (c56 : PySem.W.codeIn K cd56 "are_loads" = true) (k56 : PySem.W.keepIn K (.ref f56) = true)
    (a57 : PySem.W.nsIn K mainGlobals "are_pulls" = some (some (.ref f57))) (l57 : K.lookup f57 = some ⟨oc57, od57, .func (PySem.W.fnOf "are_pulls" "are_pulls" (defArgs (topS 35)) (defBody (topS 35)) (defScope (topS 35)) .none kV57 dc57 pm57 an57 cd57 ct57), sl57⟩) (c57 : PySem.W.codeIn K cd57 "are_pulls" = true) (k57 : PySem.W.keepIn K (.ref f57) = true)
    (a58 : PySem.W.nsIn K mainGlobals "noughts" = some (some (.ref f58))) (l58 : K.lookup f58 = some ⟨oc58, od58, .func (PySem.W.fnOf "noughts" "noughts" (defArgs (topS 10)) (defBody (topS 10)) (defScope (topS 10)) .none kV58 dc58 pm58 an58 cd58 ct58), sl58⟩) (c58 : PySem.W.codeIn K cd58 "noughts" = true) (k58 : PySem.W.keepIn K (.ref f58) = true)
    (a59 : PySem.W.nsIn K mainGlobals "no_target" = some (some (.ref f59))) (l59 : K.lookup f59 = some ⟨oc59, od59, .func (PySem.W.fnOf "no_target" "no_target" (defArgs (topS 29)) (defBody (topS 29)) (defScope (topS 29)) .none kV59 dc59 pm59 an59 cd59 ct59), sl59⟩) (c59 : PySem.W.codeIn K cd59 "no_target" = true) (k59 : PySem.W.keepIn K (.ref f59) = true)
    (a60 : PySem.W.nsIn K mainGlobals "compare" = some (some (.ref f60))) (l60 : K.lookup f60 = some ⟨oc60, od60, .func (PySem.W.fnOf "compare" "compare" (defArgs (topS 8)) (defBody (topS 8)) (defScope (topS 8)) .none kV60 dc60 pm60 an60 cd60 ct60), sl60⟩) (c60 : PySem.W.codeIn K cd60 "compare" = true) (k60 : PySem.W.keepIn K (.ref f60) = true)
    (a61 : PySem.W.nsIn K mainGlobals "shows_strange" = some (some (.ref f61))) (l61 : K.lookup f61 = some ⟨oc61, od61, .func (PySem.W.fnOf "shows_strange" "shows_strange" (defArgs (topS 36)) (defBody (topS 36)) (defScope (topS 36)) .none kV61 dc61 pm61 an61 cd61 ct61), sl61⟩) (c61 : PySem.W.codeIn K cd61 "shows_strange" = true) (k61 : PySem.W.keepIn K (.ref f61) = true)
    (a62 : PySem.W.nsIn K mainGlobals "_law_with" = some (some (.ref f62))) (l62 : K.lookup f62 = some ⟨oc62, od62, .func (PySem.W.fnOf "_law_with" "_law_with" (defArgs (topS 68)) (defBody (topS 68)) (defScope (topS 68)) .none kV62 dc62 pm62 an62 cd62 ct62), sl62⟩) (c62 : PySem.W.codeIn K cd62 "_law_with" = true) (k62 : PySem.W.keepIn K (.ref f62) = true)
    (a63 : PySem.W.nsIn K mainGlobals "_law_at_the_price" = some (some (.ref f63))) (l63 : K.lookup f63 = some ⟨oc63, od63, .func (PySem.W.fnOf "_law_at_the_price" "_law_at_the_price" (defArgs (topS 71)) (defBody (topS 71)) (defScope (topS 71)) .none kV63 dc63 pm63 an63 cd63 ct63), sl63⟩) (c63 : PySem.W.codeIn K cd63 "_law_at_the_price" = true) (k63 : PySem.W.keepIn K (.ref f63) = true)
    (a64 : PySem.W.nsIn K mainGlobals "law" = some (some (.ref f64))) (l64 : K.lookup f64 = some ⟨oc64, od64, .func (PySem.W.fnOf "law" "law" (defArgs (topS 72)) (defBody (topS 72)) (defScope (topS 72)) .none kV64 dc64 pm64 an64 cd64 ct64), sl64⟩) (c64 : PySem.W.codeIn K cd64 "law" = true) (k64 : PySem.W.keepIn K (.ref f64) = true)
    {u1 : Value} (q1 : PySem.W.nsIn K mainGlobals "BOTH" = some (some u1)) (r1 : chk K u1 (.str "both") = true)
    {u2 : Value} (q2 : PySem.W.nsIn K mainGlobals "NOTHING" = some (some u2)) (r2 : chk K u2 (.tuple [(.int 0), (.int 1)]) = true)
    (z1 : PySem.W.nsIn K mainGlobals "len" = some none)
    (z2 : PySem.W.nsIn K mainGlobals "abs" = some none)
    (z3 : PySem.W.nsIn K mainGlobals "int" = some none)
    (z4 : PySem.W.nsIn K mainGlobals "str" = some none)
    (z5 : PySem.W.nsIn K mainGlobals "sum" = some none)
    (z6 : PySem.W.nsIn K mainGlobals "tuple" = some none)
    (z7 : PySem.W.nsIn K mainGlobals "list" = some none)
    (z8 : PySem.W.nsIn K mainGlobals "min" = some none)
    (z9 : PySem.W.nsIn K mainGlobals "max" = some none)
    (z10 : PySem.W.nsIn K mainGlobals "sorted" = some none)
    (z11 : PySem.W.nsIn K mainGlobals "isinstance" = some none)
    (z12 : PySem.W.nsIn K mainGlobals "range" = some none)
    (z13 : PySem.W.nsIn K mainGlobals "enumerate" = some none)
    (z14 : PySem.W.nsIn K mainGlobals "zip" = some none)
    (z15 : PySem.W.nsIn K mainGlobals "bool" = some none)
    : ∃ fd : FuncData, (∀ (s : Shared) (v : Value), BindsTo s fd ⟨[v], []⟩ [("script", v)]) ∧ ∀ base : Heap, K.In base → base.Ns mainGlobals mg → FnOk P w K mg base CX0 (k + 1) fa fd ["script"] (spF K XC0 true 1 (callN 4000 tab (k + 1) 85)) := by
  have e := hfa.symm.trans (PySem.W.mg_of X G a64)
  cases e
  have F1 := fun_mk (st := topS 38) l1 c1 k1
  have F2 := fun_mk (st := topS 39) l2 c2 k2
  have F3 := fun_mk (st := topS 42) l3 c3 k3
  have F4 := fun_mk (st := topS 51) l4 c4 k4
  have F5 := fun_mk (st := topS 52) l5 c5 k5
  have F6 := fun_mk (st := topS 62) l6 c6 k6
  have F7 := fun_mk (st := topS 43) l7 c7 k7
  have F8 := fun_mk (st := topS 45) l8 c8 k8
  have F9 := fun_mk (st := topS 44) l9 c9 k9
  have F10 := fun_mk (st := topS 63) l10 c10 k10
  have F11 := fun_mk (st := topS 64) l11 c11 k11
  have F12 := fun_mk (st := topS 53) l12 c12 k12
  have F13 := fun_mk (st := topS 57) l13 c13 k13
  have F14 := fun_mk (st := topS 47) l14 c14 k14
  have F15 := fun_mk (st := topS 48) l15 c15 k15
  have F16 := fun_mk (st := topS 56) l16 c16 k16
  have F17 := fun_mk (st := topS 66) l17 c17 k17
  have F18 := fun_mk (st := topS 65) l18 c18 k18
  have F19 := fun_mk (st := topS 67) l19 c19 k19
  have F20 := fun_mk (st := topS 69) l20 c20 k20
  have F21 := fun_mk (st := topS 70) l21 c21 k21
  have F22 := fun_mk (st := topS 2) l22 c22 k22
  have F23 := fun_mk (st := topS 3) l23 c23 k23
  have F24 := fun_mk (st := topS 11) l24 c24 k24
  have F25 := fun_mk (st := topS 25) l25 c25 k25
  have F26 := fun_mk (st := topS 30) l26 c26 k26
  have F27 := fun_mk (st := topS 7) l27 c27 k27
  have F28 := fun_mk (st := topS 5) l28 c28 k28
  have F29 := fun_mk (st := topS 26) l29 c29 k29
  have F30 := fun_mk (st := topS 4) l30 c30 k30
  have F31 := fun_mk (st := topS 32) l31 c31 k31
  have F32 := fun_mk (st := topS 12) l32 c32 k32
  have F33 := fun_mk (st := topS 13) l33 c33 k33
  have F34 := fun_mk (st := topS 17) l34 c34 k34
  have F35 := fun_mk (st := topS 6) l35 c35 k35
  have F36 := fun_mk (st := topS 18) l36 c36 k36
  have F37 := fun_mk (st := topS 23) l37 c37 k37
  have F38 := fun_mk (st := topS 24) l38 c38 k38
  have F39 := fun_mk (st := topS 31) l39 c39 k39
  have F40 := fun_mk (st := topS 28) l40 c40 k40
  have F41 := fun_mk (st := topS 20) l41 c41 k41
  have F42 := fun_mk (st := topS 33) l42 c42 k42
  have F43 := fun_mk (st := topS 34) l43 c43 k43
  have F44 := fun_mk (st := topS 40) l44 c44 k44
  have F45 := fun_mk (st := topS 46) l45 c45 k45
  have F46 := fun_mk (st := topS 49) l46 c46 k46
  have F47 := fun_mk (st := topS 58) l47 c47 k47
  have F48 := fun_mk (st := topS 50) l48 c48 k48
  have F49 := fun_mk (st := topS 55) l49 c49 k49
  have F50 := fun_mk (st := topS 59) l50 c50 k50
  have F51 := fun_mk (st := topS 54) l51 c51 k51
  have F52 := fun_mk (st := topS 61) l52 c52 k52
  have F53 := fun_mk (st := topS 60) l53 c53 k53
  have F54 := fun_mk (st := topS 41) l54 c54 k54
  have F55 := fun_mk (st := topS 14) l55 c55 k55
  have F56 := fun_mk (st := topS 21) l56 c56 k56
  have F57 := fun_mk (st := topS 35) l57 c57 k57
  have F58 := fun_mk (st := topS 10) l58 c58 k58
  have F59 := fun_mk (st := topS 29) l59 c59 k59
  have F60 := fun_mk (st := topS 8) l60 c60 k60
  have F61 := fun_mk (st := topS 36) l61 c61 k61
  have F62 := fun_mk (st := topS 68) l62 c62 k62
  have F63 := fun_mk (st := topS 71) l63 c63 k63
  have F64 := fun_mk (st := topS 72) l64 c64 k64
  have hbs : ∀ x ∈ blts, mg x = none := by
    intro x hx
    simp only [blts, List.mem_cons, List.not_mem_nil, or_false] at hx
    rcases hx with rfl | rfl | rfl | rfl | rfl | rfl | rfl | rfl | rfl | rfl | rfl | rfl | rfl | rfl | rfl
    · exact PySem.W.mg_none_of X G z1
    · exact PySem.W.mg_none_of X G z2
    · exact PySem.W.mg_none_of X G z3
    · exact PySem.W.mg_none_of X G z4
    · exact PySem.W.mg_none_of X G z5
    · exact PySem.W.mg_none_of X G z6
    · exact PySem.W.mg_none_of X G z7
    · exact PySem.W.mg_none_of X G z8
    · exact PySem.W.mg_none_of X G z9
    · exact PySem.W.mg_none_of X G z10
    · exact PySem.W.mg_none_of X G z11
    · exact PySem.W.mg_none_of X G z12
    · exact PySem.W.mg_none_of X G z13
    · exact PySem.W.mg_none_of X G z14
    · exact PySem.W.mg_none_of X G z15
  have hcs : ∀ x d, cs.lookup x = some d → CsOk K mg x d := by
    refine csAll ?_
    intro y hy
    simp only [cs, List.mem_cons, List.not_mem_nil, or_false] at hy
    rcases hy with rfl | rfl
    · exact csOk_mk (PySem.W.mg_of X G q1) r1
    · exact csOk_mk (PySem.W.mg_of X G q2) r2
  have D : ∀ x i ar, fns.lookup x = some (i, ar) → DefOk K mg tab fns cs 4000 16 9 x i ar := by
    refine fnsAll ?_
    intro y hy
    simp only [fns, List.mem_cons, List.not_mem_nil, or_false] at hy
    rcases hy with rfl | rfl | rfl | rfl | rfl | rfl | rfl | rfl | rfl | rfl | rfl | rfl | rfl | rfl | rfl | rfl | rfl | rfl | rfl | rfl | rfl | rfl | rfl | rfl | rfl | rfl | rfl | rfl | rfl | rfl | rfl | rfl | rfl | rfl | rfl | rfl | rfl | rfl | rfl | rfl | rfl | rfl | rfl | rfl | rfl | rfl | rfl | rfl | rfl | rfl | rfl | rfl | rfl | rfl | rfl | rfl | rfl | rfl | rfl | rfl | rfl | rfl | rfl
    · exact ⟨_, x_law_deal, topS 38, f1, _, ["script"], rfl, rfl, rfl, rfl, rfl, rfl, F1, PySem.W.mg_of X G a1, s_law_deal, rfl, F1.binds (ps := ["script"]) fun _ _ _ _ _ _ us hl => match us, hl with | [_], _ => rfl, rfl, by decide +kernel, fun ct => c_law_deal ct⟩
    · exact ⟨_, x_law_take, topS 39, f2, _, ["deal", "many"], rfl, rfl, rfl, rfl, rfl, rfl, F2, PySem.W.mg_of X G a2, s_law_take, rfl, F2.binds (ps := ["deal", "many"]) fun _ _ _ _ _ _ us hl => match us, hl with | [_, _], _ => rfl, rfl, by decide +kernel, fun ct => c_law_take ct⟩
    · exact ⟨_, x_law_ratio, topS 42, f3, _, ["p", "q"], rfl, rfl, rfl, rfl, rfl, rfl, F3, PySem.W.mg_of X G a3, s_law_ratio, rfl, F3.binds (ps := ["p", "q"]) fun _ _ _ _ _ _ us hl => match us, hl with | [_, _], _ => rfl, rfl, by decide +kernel, fun ct => c_law_ratio ct⟩
    · exact ⟨_, x_law_limit, topS 51, f4, _, ["deal"], rfl, rfl, rfl, rfl, rfl, rfl, F4, PySem.W.mg_of X G a4, s_law_limit, rfl, F4.binds (ps := ["deal"]) fun _ _ _ _ _ _ us hl => match us, hl with | [_], _ => rfl, rfl, by decide +kernel, fun ct => c_law_limit ct⟩
    · exact ⟨_, x_law_frame, topS 52, f5, _, ["deal", "panels"], rfl, rfl, rfl, rfl, rfl, rfl, F5, PySem.W.mg_of X G a5, s_law_frame, rfl, F5.binds (ps := ["deal", "panels"]) fun _ _ _ _ _ _ us hl => match us, hl with | [_, _], _ => rfl, rfl, by decide +kernel, fun ct => c_law_frame ct⟩
    · exact ⟨_, x_law_truss, topS 62, f6, _, ["deal"], rfl, rfl, rfl, rfl, rfl, rfl, F6, PySem.W.mg_of X G a6, s_law_truss, rfl, F6.binds (ps := ["deal"]) fun _ _ _ _ _ _ us hl => match us, hl with | [_], _ => rfl, rfl, by decide +kernel, fun ct => c_law_truss ct⟩
    · exact ⟨_, x_law_plus, topS 43, f7, _, ["s", "t"], rfl, rfl, rfl, rfl, rfl, rfl, F7, PySem.W.mg_of X G a7, s_law_plus, rfl, F7.binds (ps := ["s", "t"]) fun _ _ _ _ _ _ us hl => match us, hl with | [_, _], _ => rfl, rfl, by decide +kernel, fun ct => c_law_plus ct⟩
    · exact ⟨_, x_law_mult, topS 45, f8, _, ["s", "t"], rfl, rfl, rfl, rfl, rfl, rfl, F8, PySem.W.mg_of X G a8, s_law_mult, rfl, F8.binds (ps := ["s", "t"]) fun _ _ _ _ _ _ us hl => match us, hl with | [_, _], _ => rfl, rfl, by decide +kernel, fun ct => c_law_mult ct⟩
    · exact ⟨_, x_law_minus, topS 44, f9, _, ["s", "t"], rfl, rfl, rfl, rfl, rfl, rfl, F9, PySem.W.mg_of X G a9, s_law_minus, rfl, F9.binds (ps := ["s", "t"]) fun _ _ _ _ _ _ us hl => match us, hl with | [_, _], _ => rfl, rfl, by decide +kernel, fun ct => c_law_minus ct⟩
    · exact ⟨_, x_law_density, topS 63, f10, _, ["deal", "bar"], rfl, rfl, rfl, rfl, rfl, rfl, F10, PySem.W.mg_of X G a10, s_law_density, rfl, F10.binds (ps := ["deal", "bar"]) fun _ _ _ _ _ _ us hl => match us, hl with | [_, _], _ => rfl, rfl, by decide +kernel, fun ct => c_law_density ct⟩
    · exact ⟨_, x_law_state, topS 64, f11, _, ["deal", "frame"], rfl, rfl, rfl, rfl, rfl, rfl, F11, PySem.W.mg_of X G a11, s_law_state, rfl, F11.binds (ps := ["deal", "frame"]) fun _ _ _ _ _ _ us hl => match us, hl with | [_, _], _ => rfl, rfl, by decide +kernel, fun ct => c_law_state ct⟩
    · exact ⟨_, x_law_loads, topS 53, f12, _, ["deal", "frame"], rfl, rfl, rfl, rfl, rfl, rfl, F12, PySem.W.mg_of X G a12, s_law_loads, rfl, F12.binds (ps := ["deal", "frame"]) fun _ _ _ _ _ _ us hl => match us, hl with | [_, _], _ => rfl, rfl, by decide +kernel, fun ct => c_law_loads ct⟩
    · exact ⟨_, x_law_under, topS 57, f13, _, ["site", "factors"], rfl, rfl, rfl, rfl, rfl, rfl, F13, PySem.W.mg_of X G a13, s_law_under, rfl, F13.binds (ps := ["site", "factors"]) fun _ _ _ _ _ _ us hl => match us, hl with | [_, _], _ => rfl, rfl, by decide +kernel, fun ct => c_law_under ct⟩
    · exact ⟨_, x_law_span, topS 47, f14, _, ["frame", "bar"], rfl, rfl, rfl, rfl, rfl, rfl, F14, PySem.W.mg_of X G a14, s_law_span, rfl, F14.binds (ps := ["frame", "bar"]) fun _ _ _ _ _ _ us hl => match us, hl with | [_, _], _ => rfl, rfl, by decide +kernel, fun ct => c_law_span ct⟩
    · exact ⟨_, x_law_forces, topS 48, f15, _, ["frame", "state"], rfl, rfl, rfl, rfl, rfl, rfl, F15, PySem.W.mg_of X G a15, s_law_forces, rfl, F15.binds (ps := ["frame", "state"]) fun _ _ _ _ _ _ us hl => match us, hl with | [_, _], _ => rfl, rfl, by decide +kernel, fun ct => c_law_forces ct⟩
    · exact ⟨_, x_law_turned, topS 56, f16, _, ["row"], rfl, rfl, rfl, rfl, rfl, rfl, F16, PySem.W.mg_of X G a16, s_law_turned, rfl, F16.binds (ps := ["row"]) fun _ _ _ _ _ _ us hl => match us, hl with | [_], _ => rfl, rfl, by decide +kernel, fun ct => c_law_turned ct⟩
    · exact ⟨_, x_law_site, topS 66, f17, _, ["deal", "frame", "state", "many", "gauges"], rfl, rfl, rfl, rfl, rfl, rfl, F17, PySem.W.mg_of X G a17, s_law_site, rfl, F17.binds (ps := ["deal", "frame", "state", "many", "gauges"]) fun _ _ _ _ _ _ us hl => match us, hl with | [_, _, _, _, _], _ => rfl, rfl, by decide +kernel, fun ct => c_law_site ct⟩
    · exact ⟨_, x_law_gauges, topS 65, f18, _, ["deal", "frame", "most"], rfl, rfl, rfl, rfl, rfl, rfl, F18, PySem.W.mg_of X G a18, s_law_gauges, rfl, F18.binds (ps := ["deal", "frame", "most"]) fun _ _ _ _ _ _ us hl => match us, hl with | [_, _, _], _ => rfl, rfl, by decide +kernel, fun ct => c_law_gauges ct⟩
    · exact ⟨_, x_law_read, topS 67, f19, _, ["deal", "site", "state"], rfl, rfl, rfl, rfl, rfl, rfl, F19, PySem.W.mg_of X G a19, s_law_read, rfl, F19.binds (ps := ["deal", "site", "state"]) fun _ _ _ _ _ _ us hl => match us, hl with | [_, _, _], _ => rfl, rfl, by decide +kernel, fun ct => c_law_read ct⟩
    · exact ⟨_, x_law_numbers, topS 69, f20, _, ["deal", "many"], rfl, rfl, rfl, rfl, rfl, rfl, F20, PySem.W.mg_of X G a20, s_law_numbers, rfl, F20.binds (ps := ["deal", "many"]) fun _ _ _ _ _ _ us hl => match us, hl with | [_, _], _ => rfl, rfl, by decide +kernel, fun ct => c_law_numbers ct⟩
    · exact ⟨_, x_law_motion, topS 70, f21, _, ["deal", "frame"], rfl, rfl, rfl, rfl, rfl, rfl, F21, PySem.W.mg_of X G a21, s_law_motion, rfl, F21.binds (ps := ["deal", "frame"]) fun _ _ _ _ _ _ us hl => match us, hl with | [_, _], _ => rfl, rfl, by decide +kernel, fun ct => c_law_motion ct⟩
    · exact ⟨_, x_greatest_divisor, topS 2, f22, _, ["p", "q"], rfl, rfl, rfl, rfl, rfl, rfl, F22, PySem.W.mg_of X G a22, s_greatest_divisor, rfl, F22.binds (ps := ["p", "q"]) fun _ _ _ _ _ _ us hl => match us, hl with | [_, _], _ => rfl, rfl, by decide +kernel, fun ct => c_greatest_divisor ct⟩
    · exact ⟨_, x_ratio, topS 3, f23, _, ["p", "q"], rfl, rfl, rfl, rfl, rfl, rfl, F23, PySem.W.mg_of X G a23, s_ratio, rfl, F23.binds (ps := ["p", "q"]) fun _ _ _ _ _ _ us hl => match us, hl with | [_, _], _ => rfl, rfl, by decide +kernel, fun ct => c_ratio ct⟩
    · exact ⟨_, x_dot, topS 11, f24, _, ["first", "second"], rfl, rfl, rfl, rfl, rfl, rfl, F24, PySem.W.mg_of X G a24, s_dot, rfl, F24.binds (ps := ["first", "second"]) fun _ _ _ _ _ _ us hl => match us, hl with | [_, _], _ => rfl, rfl, by decide +kernel, fun ct => c_dot ct⟩
    · exact ⟨_, x_slips, topS 25, f25, _, ["frame", "motion"], rfl, rfl, rfl, rfl, rfl, rfl, F25, PySem.W.mg_of X G a25, s_slips, rfl, F25.binds (ps := ["frame", "motion"]) fun _ _ _ _ _ _ us hl => match us, hl with | [_, _], _ => rfl, rfl, by decide +kernel, fun ct => c_slips ct⟩
    · exact ⟨_, x_hinders_no_foot, topS 30, f26, _, ["frame", "motion"], rfl, rfl, rfl, rfl, rfl, rfl, F26, PySem.W.mg_of X G a26, s_hinders_no_foot, rfl, F26.binds (ps := ["frame", "motion"]) fun _ _ _ _ _ _ us hl => match us, hl with | [_, _], _ => rfl, rfl, by decide +kernel, fun ct => c_hinders_no_foot ct⟩
    · exact ⟨_, x_times, topS 7, f27, _, ["s", "t"], rfl, rfl, rfl, rfl, rfl, rfl, F27, PySem.W.mg_of X G a27, s_times, rfl, F27.binds (ps := ["s", "t"]) fun _ _ _ _ _ _ us hl => match us, hl with | [_, _], _ => rfl, rfl, by decide +kernel, fun ct => c_times ct⟩
    · exact ⟨_, x_opposite, topS 5, f28, _, ["t"], rfl, rfl, rfl, rfl, rfl, rfl, F28, PySem.W.mg_of X G a28, s_opposite, rfl, F28.binds (ps := ["t"]) fun _ _ _ _ _ _ us hl => match us, hl with | [_], _ => rfl, rfl, by decide +kernel, fun ct => c_opposite ct⟩
    · exact ⟨_, x_resistance, topS 26, f29, _, ["bar", "s"], rfl, rfl, rfl, rfl, rfl, rfl, F29, PySem.W.mg_of X G a29, s_resistance, rfl, F29.binds (ps := ["bar", "s"]) fun _ _ _ _ _ _ us hl => match us, hl with | [_, _], _ => rfl, rfl, by decide +kernel, fun ct => c_resistance ct⟩
    · exact ⟨_, x_added, topS 4, f30, _, ["s", "t"], rfl, rfl, rfl, rfl, rfl, rfl, F30, PySem.W.mg_of X G a30, s_added, rfl, F30.binds (ps := ["s", "t"]) fun _ _ _ _ _ _ us hl => match us, hl with | [_, _], _ => rfl, rfl, by decide +kernel, fun ct => c_added ct⟩
    · exact ⟨_, x_price_of_bars, topS 32, f31, _, ["frame", "asked"], rfl, rfl, rfl, rfl, rfl, rfl, F31, PySem.W.mg_of X G a31, s_price_of_bars, rfl, F31.binds (ps := ["frame", "asked"]) fun _ _ _ _ _ _ us hl => match us, hl with | [_, _], _ => rfl, rfl, by decide +kernel, fun ct => c_price_of_bars ct⟩
    · exact ⟨_, x_plus, topS 12, f32, _, ["first", "second"], rfl, rfl, rfl, rfl, rfl, rfl, F32, PySem.W.mg_of X G a32, s_plus, rfl, F32.binds (ps := ["first", "second"]) fun _ _ _ _ _ _ us hl => match us, hl with | [_, _], _ => rfl, rfl, by decide +kernel, fun ct => c_plus ct⟩
    · exact ⟨_, x_minus, topS 13, f33, _, ["first", "second"], rfl, rfl, rfl, rfl, rfl, rfl, F33, PySem.W.mg_of X G a33, s_minus, rfl, F33.binds (ps := ["first", "second"]) fun _ _ _ _ _ _ us hl => match us, hl with | [_, _], _ => rfl, rfl, by decide +kernel, fun ct => c_minus ct⟩
    · exact ⟨_, x_places_of, topS 17, f34, _, ["frame"], rfl, rfl, rfl, rfl, rfl, rfl, F34, PySem.W.mg_of X G a34, s_places_of, rfl, F34.binds (ps := ["frame"]) fun _ _ _ _ _ _ us hl => match us, hl with | [_], _ => rfl, rfl, by decide +kernel, fun ct => c_places_of ct⟩
    · exact ⟨_, x_less, topS 6, f35, _, ["s", "t"], rfl, rfl, rfl, rfl, rfl, rfl, F35, PySem.W.mg_of X G a35, s_less, rfl, F35.binds (ps := ["s", "t"]) fun _ _ _ _ _ _ us hl => match us, hl with | [_, _], _ => rfl, rfl, by decide +kernel, fun ct => c_less ct⟩
    · exact ⟨_, x_span, topS 18, f36, _, ["frame", "bar"], rfl, rfl, rfl, rfl, rfl, rfl, F36, PySem.W.mg_of X G a36, s_span, rfl, F36.binds (ps := ["frame", "bar"]) fun _ _ _ _ _ _ us hl => match us, hl with | [_, _], _ => rfl, rfl, by decide +kernel, fun ct => c_span ct⟩
    · exact ⟨_, x_stretch, topS 23, f37, _, ["frame", "bar", "motion"], rfl, rfl, rfl, rfl, rfl, rfl, F37, PySem.W.mg_of X G a37, s_stretch, rfl, F37.binds (ps := ["frame", "bar", "motion"]) fun _ _ _ _ _ _ us hl => match us, hl with | [_, _, _], _ => rfl, rfl, by decide +kernel, fun ct => c_stretch ct⟩
    · exact ⟨_, x_stretches, topS 24, f38, _, ["frame", "motion"], rfl, rfl, rfl, rfl, rfl, rfl, F38, PySem.W.mg_of X G a38, s_stretches, rfl, F38.binds (ps := ["frame", "motion"]) fun _ _ _ _ _ _ us hl => match us, hl with | [_, _], _ => rfl, rfl, by decide +kernel, fun ct => c_stretches ct⟩
    · exact ⟨_, x_asked_of_bars, topS 31, f39, _, ["site", "target", "pulls", "motion"], rfl, rfl, rfl, rfl, rfl, rfl, F39, PySem.W.mg_of X G a39, s_asked_of_bars, rfl, F39.binds (ps := ["site", "target", "pulls", "motion"]) fun _ _ _ _ _ _ us hl => match us, hl with | [_, _, _, _], _ => rfl, rfl, by decide +kernel, fun ct => c_asked_of_bars ct⟩
    · exact ⟨_, x_size, topS 28, f40, _, ["t"], rfl, rfl, rfl, rfl, rfl, rfl, F40, PySem.W.mg_of X G a40, s_size, rfl, F40.binds (ps := ["t"]) fun _ _ _ _ _ _ us hl => match us, hl with | [_], _ => rfl, rfl, by decide +kernel, fun ct => c_size ct⟩
    · exact ⟨_, x_work_of, topS 20, f41, _, ["loads", "motion"], rfl, rfl, rfl, rfl, rfl, rfl, F41, PySem.W.mg_of X G a41, s_work_of, rfl, F41.binds (ps := ["loads", "motion"]) fun _ _ _ _ _ _ us hl => match us, hl with | [_, _], _ => rfl, rfl, by decide +kernel, fun ct => c_work_of ct⟩
    · exact ⟨_, x_price_of_patterns, topS 33, f42, _, ["site", "target", "motion"], rfl, rfl, rfl, rfl, rfl, rfl, F42, PySem.W.mg_of X G a42, s_price_of_patterns, rfl, F42.binds (ps := ["site", "target", "motion"]) fun _ _ _ _ _ _ us hl => match us, hl with | [_, _, _], _ => rfl, rfl, by decide +kernel, fun ct => c_price_of_patterns ct⟩
    · exact ⟨_, x_price_of, topS 34, f43, _, ["site", "target", "pulls", "motion"], rfl, rfl, rfl, rfl, rfl, rfl, F43, PySem.W.mg_of X G a43, s_price_of, rfl, F43.binds (ps := ["site", "target", "pulls", "motion"]) fun _ _ _ _ _ _ us hl => match us, hl with | [_, _, _, _], _ => rfl, rfl, by decide +kernel, fun ct => c_price_of ct⟩
    · exact ⟨_, x_law_same, topS 40, f44, _, ["a", "b"], rfl, rfl, rfl, rfl, rfl, rfl, F44, PySem.W.mg_of X G a44, s_law_same, rfl, F44.binds (ps := ["a", "b"]) fun _ _ _ _ _ _ us hl => match us, hl with | [_, _], _ => rfl, rfl, by decide +kernel, fun ct => c_law_same ct⟩
    · exact ⟨_, x_law_dot, topS 46, f45, _, ["one", "two"], rfl, rfl, rfl, rfl, rfl, rfl, F45, PySem.W.mg_of X G a45, s_law_dot, rfl, F45.binds (ps := ["one", "two"]) fun _ _ _ _ _ _ us hl => match us, hl with | [_, _], _ => rfl, rfl, by decide +kernel, fun ct => c_law_dot ct⟩
    · exact ⟨_, x_law_stretch, topS 49, f46, _, ["frame", "bar", "motion"], rfl, rfl, rfl, rfl, rfl, rfl, F46, PySem.W.mg_of X G a46, s_law_stretch, rfl, F46.binds (ps := ["frame", "bar", "motion"]) fun _ _ _ _ _ _ us hl => match us, hl with | [_, _, _], _ => rfl, rfl, by decide +kernel, fun ct => c_law_stretch ct⟩
    · exact ⟨_, x_law_asked, topS 58, f47, _, ["site", "target", "pulls", "motion"], rfl, rfl, rfl, rfl, rfl, rfl, F47, PySem.W.mg_of X G a47, s_law_asked, rfl, F47.binds (ps := ["site", "target", "pulls", "motion"]) fun _ _ _ _ _ _ us hl => match us, hl with | [_, _, _, _], _ => rfl, rfl, by decide +kernel, fun ct => c_law_asked ct⟩
    · exact ⟨_, x_law_work, topS 50, f48, _, ["loads", "motion"], rfl, rfl, rfl, rfl, rfl, rfl, F48, PySem.W.mg_of X G a48, s_law_work, rfl, F48.binds (ps := ["loads", "motion"]) fun _ _ _ _ _ _ us hl => match us, hl with | [_, _], _ => rfl, rfl, by decide +kernel, fun ct => c_law_work ct⟩
    · exact ⟨_, x_law_size, topS 55, f49, _, ["t"], rfl, rfl, rfl, rfl, rfl, rfl, F49, PySem.W.mg_of X G a49, s_law_size, rfl, F49.binds (ps := ["t"]) fun _ _ _ _ _ _ us hl => match us, hl with | [_], _ => rfl, rfl, by decide +kernel, fun ct => c_law_size ct⟩
    · exact ⟨_, x_law_price, topS 59, f50, _, ["site", "target", "pulls", "motion"], rfl, rfl, rfl, rfl, rfl, rfl, F50, PySem.W.mg_of X G a50, s_law_price, rfl, F50.binds (ps := ["site", "target", "pulls", "motion"]) fun _ _ _ _ _ _ us hl => match us, hl with | [_, _, _, _], _ => rfl, rfl, by decide +kernel, fun ct => c_law_price ct⟩
    · exact ⟨_, x_law_less, topS 54, f51, _, ["s", "t"], rfl, rfl, rfl, rfl, rfl, rfl, F51, PySem.W.mg_of X G a51, s_law_less, rfl, F51.binds (ps := ["s", "t"]) fun _ _ _ _ _ _ us hl => match us, hl with | [_, _], _ => rfl, rfl, by decide +kernel, fun ct => c_law_less ct⟩
    · exact ⟨_, x_law_worth, topS 61, f52, _, ["target", "factors", "state"], rfl, rfl, rfl, rfl, rfl, rfl, F52, PySem.W.mg_of X G a52, s_law_worth, rfl, F52.binds (ps := ["target", "factors", "state"]) fun _ _ _ _ _ _ us hl => match us, hl with | [_, _, _], _ => rfl, rfl, by decide +kernel, fun ct => c_law_worth ct⟩
    · exact ⟨_, x_law_nothing, topS 60, f53, _, ["site"], rfl, rfl, rfl, rfl, rfl, rfl, F53, PySem.W.mg_of X G a53, s_law_nothing, rfl, F53.binds (ps := ["site"]) fun _ _ _ _ _ _ us hl => match us, hl with | [_], _ => rfl, rfl, by decide +kernel, fun ct => c_law_nothing ct⟩
    · exact ⟨_, x_law_bool, topS 41, f54, _, ["answer", "due"], rfl, rfl, rfl, rfl, rfl, rfl, F54, PySem.W.mg_of X G a54, s_law_bool, rfl, F54.binds (ps := ["answer", "due"]) fun _ _ _ _ _ _ us hl => match us, hl with | [_, _], _ => rfl, rfl, by decide +kernel, fun ct => c_law_bool ct⟩
    · exact ⟨_, x_is_row, topS 14, f55, _, ["row", "width"], rfl, rfl, rfl, rfl, rfl, rfl, F55, PySem.W.mg_of X G a55, s_is_row, rfl, F55.binds (ps := ["row", "width"]) fun _ _ _ _ _ _ us hl => match us, hl with | [_, _], _ => rfl, rfl, by decide +kernel, fun ct => c_is_row ct⟩
    · exact ⟨_, x_are_loads, topS 21, f56, _, ["frame", "loads"], rfl, rfl, rfl, rfl, rfl, rfl, F56, PySem.W.mg_of X G a56, s_are_loads, rfl, F56.binds (ps := ["frame", "loads"]) fun _ _ _ _ _ _ us hl => match us, hl with | [_, _], _ => rfl, rfl, by decide +kernel, fun ct => c_are_loads ct⟩
    · exact ⟨_, x_are_pulls, topS 35, f57, _, ["site", "pulls", "motion"], rfl, rfl, rfl, rfl, rfl, rfl, F57, PySem.W.mg_of X G a57, s_are_pulls, rfl, F57.binds (ps := ["site", "pulls", "motion"]) fun _ _ _ _ _ _ us hl => match us, hl with | [_, _, _], _ => rfl, rfl, by decide +kernel, fun ct => c_are_pulls ct⟩
    · exact ⟨_, x_noughts, topS 10, f58, _, ["width"], rfl, rfl, rfl, rfl, rfl, rfl, F58, PySem.W.mg_of X G a58, s_noughts, rfl, F58.binds (ps := ["width"]) fun _ _ _ _ _ _ us hl => match us, hl with | [_], _ => rfl, rfl, by decide +kernel, fun ct => c_noughts ct⟩
    · exact ⟨_, x_no_target, topS 29, f59, _, ["site"], rfl, rfl, rfl, rfl, rfl, rfl, F59, PySem.W.mg_of X G a59, s_no_target, rfl, F59.binds (ps := ["site"]) fun _ _ _ _ _ _ us hl => match us, hl with | [_], _ => rfl, rfl, by decide +kernel, fun ct => c_no_target ct⟩
    · exact ⟨_, x_compare, topS 8, f60, _, ["s", "t"], rfl, rfl, rfl, rfl, rfl, rfl, F60, PySem.W.mg_of X G a60, s_compare, rfl, F60.binds (ps := ["s", "t"]) fun _ _ _ _ _ _ us hl => match us, hl with | [_, _], _ => rfl, rfl, by decide +kernel, fun ct => c_compare ct⟩
    · exact ⟨_, x_shows_strange, topS 36, f61, _, ["site", "readings", "pulls", "motion"], rfl, rfl, rfl, rfl, rfl, rfl, F61, PySem.W.mg_of X G a61, s_shows_strange, rfl, F61.binds (ps := ["site", "readings", "pulls", "motion"]) fun _ _ _ _ _ _ us hl => match us, hl with | [_, _, _, _], _ => rfl, rfl, by decide +kernel, fun ct => c_shows_strange ct⟩
    · exact ⟨_, x_law_with, topS 68, f62, _, ["row", "k", "thing"], rfl, rfl, rfl, rfl, rfl, rfl, F62, PySem.W.mg_of X G a62, s_law_with, rfl, F62.binds (ps := ["row", "k", "thing"]) fun _ _ _ _ _ _ us hl => match us, hl with | [_, _, _], _ => rfl, rfl, by decide +kernel, fun ct => c_law_with ct⟩
    · exact ⟨_, x_law_at_the_price, topS 71, f63, _, ["deal", "site", "price", "pulls", "motion"], rfl, rfl, rfl, rfl, rfl, rfl, F63, PySem.W.mg_of X G a63, s_law_at_the_price, rfl, F63.binds (ps := ["deal", "site", "price", "pulls", "motion"]) fun _ _ _ _ _ _ us hl => match us, hl with | [_, _, _, _, _], _ => rfl, rfl, by decide +kernel, fun ct => c_law_at_the_price ct⟩
  refine ⟨PySem.W.fnOf "law" "law" (defArgs (topS 72)) (defBody (topS 72)) (defScope (topS 72)) .none kV64 dc64 pm64 an64 cd64 ct64, fun s v => .of_eq rfl, fun base _ _ => ?_⟩
  rw [callN_at (f := ⟨1, x_law.N.length, b_law⟩) rfl]
  exact fn_ok (c := x_law) F64 s_law rfl rfl (by decide +kernel) hbs (fun x i n h => tab_ok hbs hcs D k x i n h) hcs (c_law _)
end
end K61
namespace K61
noncomputable section
open PySem FD
theorem hS : HS tab := ⟨fun h => tab_libS h⟩
section
variable {w k i : Nat} {T : List Fn} {g : G}
theorem law_ratio_neg (hT : T[i]? = some ⟨2, 5, b_law_ratio⟩) {p : Int} {q n : Nat} (hq : q ≠ 0) (h1 : p.natAbs < 2 ^ n) (h2 : q < 2 ^ n) (hn : n ≤ 1990) :
    callN w T (k + 1) i [.fz (.int p), .fz (.int (-(q : Int)))] g = .ok (.fz (qD (Rat.divInt (-p) q))) g := by
  obtain ⟨e1, e2⟩ := divInt_pos (p := -p) hq
  rw [Int.natAbs_neg] at e1 e2
  have gp : 0 < p.natAbs.gcd q := Nat.gcd_pos_of_pos_right _ (Nat.pos_of_ne_zero hq)
  have gl : p.natAbs.gcd q ≤ q := Nat.gcd_le_right _ (Nat.pos_of_ne_zero hq)
  rw [callN_at hT]
  have d : ∀ x, pyFloorDiv (.int x) (.int ((p.natAbs.gcd q : Nat) : Int)) = _ := fun x => divS (i := x) (n := n) (by omega) (by omega) (by omega)
  have nq : ¬ (q : Int) < 0 := by omega
  have lp := law_gcd_loop (g := g) (p0 := .fz (.int p)) (q0 := .fz (.int (-(q : Int)))) n p.natAbs q h2 (rngD 0 4000) (by rw [show (rngD 0 4000).length = 4000 from rngD_len 4000]; omega)
  have r := rng1N (n := 4000) (by decide)
  have r' : rng1 (.int 4000) = some (rngD 0 4000) := r
  unfold qD
  rw [e1, e2]
  simp [semF, runF, b_law_ratio, r', lp, nq, d]
end
/-- the other way round -/
theorem recip_ok {k : Nat} {g : G} {r : Rat} (hr : Fit r) (hz : r ≠ 0) : ∃ x : Rat, callN 4000 tab (k + 1) 4 [.fz (.int r.den), .fz (.int r.num)] g = .ok (.fz (qD x)) g ∧ r * x = 1 := by
  have dn : (r.den : Rat) ≠ 0 := fun e => r.den_nz (Rat.natCast_eq_zero_iff.mp e)
  have md := mul_den r
  by_cases s : 0 < r.num
  · obtain ⟨n, hn⟩ : ∃ n : Nat, r.num = n := ⟨r.num.toNat, by omega⟩
    have nz : n ≠ 0 := by omega
    have e := law_ratio_at (w := 4000) (k := k) (g := g) hS.l (p := (r.den : Int)) (q := n) nz (by rw [Int.natAbs_natCast]; exact Nat.lt_of_lt_of_le hr.2 (Nat.pow_le_pow_right (by decide) (by decide))) (by have := hr.1; rw [hn, Int.natAbs_natCast] at this; exact Nat.lt_of_lt_of_le this (Nat.pow_le_pow_right (by decide) (by decide)))
    rw [hn]
    refine ⟨mkRat r.den n, e, ?_⟩
    have m := mk_mul (r.den : Int) nz
    have nn : (n : Rat) ≠ 0 := fun e => nz (Rat.natCast_eq_zero_iff.mp e)
    have c : (((r.den : Int)) : Rat) = (r.den : Rat) := rfl
    have c2 : ((r.num : Int) : Rat) = (n : Rat) := by rw [hn]; rfl
    rw [c2] at md
    rw [c] at m
    -- r * den = n, x * n = den
    have : (r * mkRat r.den n - 1) * (n : Rat) = 0 := by grind
    rcases Rat.mul_eq_zero.mp this with h | h
    · grind
    · exact absurd h nn
  · have sn : r.num ≠ 0 := fun e => hz (num_zero.mp e)
    obtain ⟨n, hn⟩ : ∃ n : Nat, r.num = -(n : Int) := ⟨(-r.num).toNat, by omega⟩
    have nz : n ≠ 0 := by omega
    have e := law_ratio_neg (w := 4000) (k := k) (T := tab) (g := g) (i := 4) (hS.l.h rfl) (p := (r.den : Int)) (q := n) (n := 900) nz (by rw [Int.natAbs_natCast]; exact hr.2) (by have := hr.1; rw [hn, Int.natAbs_neg, Int.natAbs_natCast] at this; exact this) (by decide)
    rw [hn]
    refine ⟨Rat.divInt (-(r.den : Int)) n, e, ?_⟩
    have m := mk_mul (-(r.den : Int)) nz
    have nn : (n : Rat) ≠ 0 := fun e => nz (Rat.natCast_eq_zero_iff.mp e)
    have c : ((-(r.den : Int) : Int) : Rat) = -(r.den : Rat) := by rw [Rat.intCast_neg]; rfl
    have c2 : ((r.num : Int) : Rat) = -(n : Rat) := by rw [hn, Rat.intCast_neg]; rfl
    have dm : Rat.divInt (-(r.den : Int)) n = mkRat (-(r.den : Int)) n := rfl
    rw [c2] at md
    rw [c] at m
    rw [dm]
    have : (r * mkRat (-(r.den : Int)) n - 1) * (n : Rat) = 0 := by grind
    rcases Rat.mul_eq_zero.mp this with h | h
    · grind
    · exact absurd h nn
theorem inv_bd {r x : Rat} (h : Bd 3 2 r) (e : r * x = 1) : Bd 2 60 x := by
  obtain ⟨n, hn⟩ := h.wh
  have lo := h.lo
  have hi := h.hi
  have t2 : ((2 : Nat) : Rat) = 2 := rfl
  have t3 : ((3 : Nat) : Rat) = 3 := rfl
  have t60 : ((60 : Nat) : Rat) = 60 := rfl
  rw [t2] at hn
  rw [t3] at lo hi
  have n1 : n ≤ 6 := by
    refine Decidable.byContradiction fun c => ?_
    have := Rat.intCast_le_intCast.mpr (show (7 : Int) ≤ n by omega)
    have c7 : ((7 : Int) : Rat) = 7 := rfl
    rw [c7] at this
    grind
  have n2 : -6 ≤ n := by
    refine Decidable.byContradiction fun c => ?_
    have := Rat.intCast_le_intCast.mpr (show n ≤ (-7 : Int) by omega)
    have c7 : ((-7 : Int) : Rat) = -7 := rfl
    rw [c7] at this
    grind
  have nx : (n : Rat) * x = 2 := by rw [← hn]; grind
  have key : ∀ (m : Int), (m : Rat) * x = 2 → ∀ j : Int, m * j = 120 → (m ≠ 0) → Bd 2 60 x := fun m hm j hj hz => by
    have mz : (m : Rat) ≠ 0 := fun e => hz (Rat.intCast_eq_zero_iff.mp e)
    have hjR : (m : Rat) * (j : Rat) = 120 := by
      have := congrArg (fun z : Int => (z : Rat)) hj
      simp only [Rat.intCast_mul] at this
      exact this
    have x60 : x * 60 = (j : Rat) := by
      have : (x * 60 - (j : Rat)) * (m : Rat) = 0 := by grind
      rcases Rat.mul_eq_zero.mp this with h | h
      · grind
      · exact absurd h mz
    have jb : -120 ≤ j ∧ j ≤ 120 := by
      have dv : j ∣ 120 := ⟨m, by rw [Int.mul_comm]; exact hj.symm⟩
      have := Int.le_of_dvd (by decide) dv
      have dv2 : -j ∣ 120 := Int.neg_dvd.mpr dv
      have := Int.le_of_dvd (by decide) dv2
      omega
    have b1 := Rat.intCast_le_intCast.mpr jb.1
    have b2 := Rat.intCast_le_intCast.mpr jb.2
    have c1 : ((-120 : Int) : Rat) = -120 := rfl
    have c2 : ((120 : Int) : Rat) = 120 := rfl
    rw [c1] at b1
    rw [c2] at b2
    refine ⟨⟨j, by rw [t60]; exact x60⟩, ?_, ?_⟩
    · rw [t2]; grind
    · rw [t2]; grind
  have nz : n ≠ 0 := fun z => by
    rw [z] at nx
    have c0 : ((0 : Int) : Rat) = 0 := rfl
    rw [c0] at nx
    grind
  have cs : n = 1 ∨ n = 2 ∨ n = 3 ∨ n = 4 ∨ n = 5 ∨ n = 6 ∨ n = -1 ∨ n = -2 ∨ n = -3 ∨ n = -4 ∨ n = -5 ∨ n = -6 := by omega
  rcases cs with h | h | h | h | h | h | h | h | h | h | h | h
  · exact key n nx 120 (by rw [h]; decide) nz
  · exact key n nx 60 (by rw [h]; decide) nz
  · exact key n nx 40 (by rw [h]; decide) nz
  · exact key n nx 30 (by rw [h]; decide) nz
  · exact key n nx 24 (by rw [h]; decide) nz
  · exact key n nx 20 (by rw [h]; decide) nz
  · exact key n nx (-120) (by rw [h]; decide) nz
  · exact key n nx (-60) (by rw [h]; decide) nz
  · exact key n nx (-40) (by rw [h]; decide) nz
  · exact key n nx (-30) (by rw [h]; decide) nz
  · exact key n nx (-24) (by rw [h]; decide) nz
  · exact key n nx (-20) (by rw [h]; decide) nz
section
variable {k : Nat}
theorem mo_loop {fr : SV} : ∀ (js : List D) (c : Nat) (acc : List D) (g : G), acc.length + js.length ≤ 1000 → Dk c g → c + 5 * js.length < 2 ^ 28 → ∃ (ms : List V2) (g' : G),
    compL (gNm 3) cYes (cD (cCall (callN 4000 tab (k + 3)) 82 (cACons (cVE 0) (cACons (cK (.int 2)) cANil)))) [3] js acc [some .deal, some fr, none, none, none, none, none, none] g
      = .ok (acc ++ ms.map vD) [some .deal, some fr, none, none, none, none, none, none] g' ∧ ms.length = js.length ∧ (∀ m ∈ ms, BdV 3 2 m) ∧ Dk (c + 5 * js.length) g'
  | [], c, acc, g, _, h, _ => ⟨[], g, by simp [compL], rfl, fun q h => absurd h (by simp), h⟩
  | b :: bs, c, acc, g, hl, h, hc => by
    rw [List.length_cons] at hl hc
    obtain ⟨xs, g1, e1, l1, b1, d1⟩ := law_numbers_ok (w := 4000) (k := k) (many := 2) hS (by decide) h (by omega)
    match xs, l1 with
    | [x, y], _ =>
      have e1 : callN 4000 tab (k + 3) 82 [.deal, .fz (.int 2)] g = .ok (.fz (vD ⟨x, y⟩)) g1 := e1
      have al : acc.length < 16777216 := by omega
      obtain ⟨ms, g', r1, r2, r3, r4⟩ := mo_loop (fr := fr) bs (c + 1 + 2 * 2) (acc ++ [vD ⟨x, y⟩]) g1 (by simp; omega) d1 (by omega)
      refine ⟨⟨x, y⟩ :: ms, g', ?_, by simp [r2], fun q hq => ?_, r4.mono (by rw [List.length_cons]; omega)⟩
      · rw [List.map_cons, show ∀ (x : D) (l : List D), acc ++ (x :: l) = acc ++ [x] ++ l from fun x l => by simp, ← r1]
        simp [compL, e1, al]
      · rcases List.mem_cons.mp hq with rfl | hq
        · exact ⟨b1 x (by simp), b1 y (by simp)⟩
        · exact r3 q hq
def adBody (ct : CT) : Ev Fl := (sSeq (sUnp (gTp 2 (gC (gNm 6) (gC (gNm 7) gN))) (cD (cVIx 2 (cVP 3))))
    (sSeq (sIf (cCmp pyEq (cD (c2 pyIx (cD (cVIx 4 (cD (cK (.int 0))))) (cD (cK (.int 0))))) (cD (cK (.int 0))))
      (sAsg 7 (cIte (cCmp pyEq (cVP 5) (cD (cK (.str "push")))) (cTup (cCons (cD (c1 pyAbs (cD (cVIx 7 (cD (cK (.int 0))))))) (cCons (cD (cVIx 7 (cD (cK (.int 1))))) cNil))) (cTup (cCons (cD (cK (.int 0))) (cCons (cD (cK (.int 1))) cNil)))))
      (sAsg 6 (cTup (cCons (cD (cK (.int 0))) (cCons (cD (cK (.int 1))) cNil)))))
    (sSetIx 2 (cVP 3) (cD (cTup (cCons (cD (cVE 6)) (cCons (cD (cVE 7)) cNil)))))))
theorem ad_loop {g : G} {fr : SV} {N : Nat} : ∀ (fs : List Foot) (ms : List V2), ms.length = N → (∀ t ∈ fs, t.at_ < N) → (∀ m ∈ ms, BdV 3 2 m) → ∃ ms' : List V2,
    forL (gTp 3 (gC (gNm 3) (gC (gNm 4) (gC (gNm 5) gN)))) (adBody (callN 4000 tab (k + 3))) (fs.map footD) [some .deal, some fr, some (.ow (ms.map vD)), none, none, none, none, none] g
      = .ok .nx [some .deal, some fr, some (.ow (ms'.map vD)), none, none, none, none, none] g ∧ ms'.length = N ∧ ∀ m ∈ ms', BdV 3 2 m
  | [], ms, hl, _, hb => ⟨ms, rfl, hl, hb⟩
  | t :: fs, ms, hl, ht, hb => by
    have hi := ht t List.mem_cons_self
    have gx := vGetL (l := ms) (i := t.at_) (by omega)
    have hv := hb _ (vAt_mem (l := ms) (i := t.at_) (by omega))
    have fd : footD t = .tuple [.int t.at_, vD t.way, .str (if t.both then "both" else "push")] := rfl
    have pe := push_eq t.both
    generalize hK : (if t.both = true then ("both" : Str) else "push") = kd at *
    generalize hV : vAt ms t.at_ = v at *
    have vd : vD v = .tuple [qD v.x, qD v.y] := rfl
    have aq := absQ v.y
    have sq : pyAbs (.int v.y.num) = _ := absI _
    have fin : ∀ u : V2, BdV 3 2 u → ∀ σx σy, adBody (callN 4000 tab (k + 3)) [some .deal, some fr, some (.ow (ms.map vD)), some (.fz (.int t.at_)), some (.fz (vD t.way)), some (.fz (.str kd)), none, none] g = .ok .nx [some .deal, some fr, some (.ow ((ms.set t.at_ u).map vD)), some (.fz (.int t.at_)), some (.fz (vD t.way)), some (.fz (.str kd)), some σx, some σy] g → ∃ ms' : List V2,
    forL (gTp 3 (gC (gNm 3) (gC (gNm 4) (gC (gNm 5) gN)))) (adBody (callN 4000 tab (k + 3))) ((t :: fs).map footD) [some .deal, some fr, some (.ow (ms.map vD)), none, none, none, none, none] g
      = .ok .nx [some .deal, some fr, some (.ow (ms'.map vD)), none, none, none, none, none] g ∧ ms'.length = N ∧ ∀ m ∈ ms', BdV 3 2 m := fun u hu σx σy hbd => by
      obtain ⟨ms', r1, r2, r3⟩ := ad_loop (g := g) (fr := fr) (N := N) fs (ms.set t.at_ u) (by rw [List.length_set]; exact hl) (fun x hx => ht x (List.mem_cons_of_mem _ hx)) (fun m hm => by
        rcases List.mem_or_eq_of_mem_set hm with h | rfl
        · exact hb m h
        · exact hu)
      refine ⟨ms', ?_, r2, r3⟩
      rw [← r1, List.map_cons, fd]
      generalize adBody (callN 4000 tab (k + 3)) = BB at *
      simp [-List.map_set, forL, hbd]
    have wz := num_zero (r := t.way.x)
    have st : ∀ u : V2, setAt (ms.map vD) t.at_ (vD u) = _ := fun u => setV (l := ms) (i := t.at_) u (by omega)
    have ev : ∀ a b : Rat, PyData.tuple [qD a, qD b] = vD ⟨a, b⟩ := fun _ _ => rfl
    by_cases z : t.way.x = 0
    · have zn := wz.mpr z
      cases hbo : t.both with
      | true =>
        rw [hbo] at pe
        refine fin ⟨v.x, 0⟩ ⟨hv.1, Bd.zero _ _⟩ (.fz (qD v.x)) (.fz (qD 0)) ?_
        unfold adBody
        have ee := ev v.x 0
        have s0 := st ⟨v.x, 0⟩
        rw [vd] at gx
        generalize vD (⟨v.x, 0⟩ : V2) = U at *
        simp [-List.map_set, gx, v0, qix0, zn, pe, q0_lit, ee, s0]
      | false =>
        rw [hbo] at pe
        refine fin ⟨v.x, absR v.y⟩ ⟨hv.1, hv.2.abs⟩ (.fz (qD v.x)) (.fz (qD (absR v.y))) ?_
        unfold adBody
        have ee := ev v.x (absR v.y)
        have s0 := st ⟨v.x, absR v.y⟩
        rw [vd] at gx
        generalize vD (⟨v.x, absR v.y⟩ : V2) = U at *
        simp only [sSeq, sUnp, cD, cVIx, cVP, c2, dOf, Out.bind_ok, liftO_some, List.getElem?_cons_succ, List.getElem?_cons_zero, gx, gTp, gC, gNm, gN, List.length_cons, List.length_nil, if_true, List.set_cons_succ, List.set_cons_zero, sIf_at, cCmp, cK, v0, qix0, zn, eqII, decide_true, sAsg, cIte, eqSS, pe, Bool.not_false, cTup, cCons, cNil, c1, qix1, sq, aq]
        simp [-List.map_set, gx, v0, qix0, qix1, zn, pe, q0_lit, sq, aq, ee, s0]
    · have zn : ¬ t.way.x.num = 0 := fun y => z (wz.mp y)
      refine fin ⟨0, v.y⟩ ⟨Bd.zero _ _, hv.2⟩ (.fz (qD 0)) (.fz (qD v.y)) ?_
      unfold adBody
      have ee := ev 0 v.y
      have s0 := st ⟨0, v.y⟩
      rw [vd] at gx
      generalize vD (⟨0, v.y⟩ : V2) = U at *
      simp [-List.map_set, gx, v0, qix0, zn, q0_lit, ee, s0]
theorem motion_ok {c : Nat} {g : G} {f : FD.Frame} (h : Dk c g) (hc : c < 2 ^ 26) (hj : f.joints.length ≤ 50) (hf : ∀ t ∈ f.feet, t.at_ < f.joints.length) :
    ∃ (ms : List V2) (g' : G), callN 4000 tab (k + 4) 83 [.deal, .fz (frD f)] g = .ok (.fz (lsD ms)) g' ∧ ms.length = f.joints.length ∧ (∀ m ∈ ms, BdV 3 2 m) ∧ Dk (c + 300) g' := by
  obtain ⟨ms, g1, r1, l1, b1, d1⟩ := mo_loop (k := k) (fr := .fz (frD f)) (f.joints.map fun j => .tuple [.str j.1, vD j.2]) c [] g (by simp; omega) h (by simp; omega)
  rw [List.nil_append] at r1
  rw [List.length_map] at l1 d1
  obtain ⟨v, g2, e2, lo, hi, d2⟩ := take_ok (w := 4000) (k := k + 2) (i := 1) (hS.l.h rfl) d1 (by omega) (m := 5) (by decide)
  have t : ∀ x : List V2, PyData.tuple (x.map vD) = lsD x := fun _ => rfl
  have cut : b_law_motion (callN 4000 tab (k + 3)) 4000 = (sSeq (sAsg 2 (cLc (iSeq (cD (cVIx 1 (cD (cK (.int 1)))))) [3] (gNm 3) cYes (cD (cCall (callN 4000 tab (k + 3)) 82 (cACons (cVE 0) (cACons (cK (.int 2)) cANil))))))
    (sSeq (sIf (cCmp pyEq (cD (cCall (callN 4000 tab (k + 3)) 1 (cACons (cVE 0) (cACons (cK (.int 5)) cANil)))) (cD (cK (.int 0))))
      (sRet (c1 pyTuple (cVP 2)))
      sPass)
    (sSeq (sFor (iSeq (cD (cVIx 1 (cD (cK (.int 2)))))) (gTp 3 (gC (gNm 3) (gC (gNm 4) (gC (gNm 5) gN)))) (adBody (callN 4000 tab (k + 3))))
    (sRet (c1 pyTuple (cVP 2)))))) := rfl
  rw [callN_at (f := ⟨2, 8, b_law_motion⟩) rfl]
  simp only [semF, cut]
  by_cases z : v = 0
  · refine ⟨ms, g2, ?_, l1, b1, d2.mono (by omega)⟩
    simp [runF, cLc, fr1, r1, e2, z, t]
  · obtain ⟨ms', r3, l3, b3⟩ := ad_loop (k := k) (g := g2) (fr := .fz (frD f)) (N := f.joints.length) f.feet ms l1 hf b1
    refine ⟨ms', g2, ?_, l3, b3, d2.mono (by omega)⟩
    generalize adBody (callN 4000 tab (k + 3)) = BB at *
    simp [runF, cLc, fr1, fr2, r1, e2, z, r3, t]
end
end
end K61
namespace K61
noncomputable section
open PySem FD
theorem dotR_zeros : ∀ (xs : List Rat) (n : Nat), dotR xs (zerosR n) = 0
  | [], n => dotR_nil _
  | x :: xs, 0 => dotR_nil' _
  | x :: xs, n + 1 => by
    have e : zerosR (n + 1) = 0 :: zerosR n := rfl
    rw [e, dotR_cons, dotR_zeros xs n]
    grind
theorem zerosR_getD (n i : Nat) : (zerosR n).getD i 0 = 0 := by
  unfold zerosR
  rw [List.getD_eq_getElem?_getD, List.getElem?_replicate]
  split <;> rfl
def atBody (ct : CT) : Ev Fl := (sSeq (sAsg 9 (cCall ct 61 (cACons (c2 pyMul (cD (cTup (cCons (cD (cTup (cCons (cD (cK (.int 0))) (cCons (cD (cK (.int 1))) cNil)))) cNil))) (cD (c1 pyLen (cVP 3)))) (cACons (cVE 6) (cACons (cCall ct 7 (cACons (cCall ct 5 (cACons (cVE 2) (cACons (cVE 8) cANil))) (cACons (cVE 7) cANil))) cANil)))))
    (sIf (cNot (cTru (cD (cCall ct 3 (cACons (cCall ct 79 (cACons (cVE 1) (cACons (cVE 9) (cACons (cVE 3) (cACons (cVE 4) cANil))))) (cACons (cB (cCmp pyGt (cD (cVIx 8 (cD (cK (.int 0))))) (cD (cK (.int 0))))) cANil))))))
      (sRet (cK (.bool false)))
      sPass))
theorem r_pos {n : Nat} (h : n ≤ 6) : (n * (AU * (204 * TM)) + 1) * (DU * (PD * 60)) ^ n < 2 ^ 1800 := by
  have h1 : n * (AU * (204 * TM)) + 1 ≤ 6 * (AU * (204 * TM)) + 1 := Nat.succ_le_succ (Nat.mul_le_mul_right _ h)
  have h2 : (DU * (PD * 60)) ^ n ≤ (DU * (PD * 60)) ^ 6 := Nat.pow_le_pow_right (by unfold PD; decide) h
  refine Nat.lt_of_le_of_lt (Nat.mul_le_mul h1 h2) ?_
  unfold TM PD
  decide +kernel
theorem sR : Sml (204 * TM) (PD * 60) := ⟨by unfold PD; decide, by unfold TM PD; decide +kernel, by unfold PD; decide +kernel⟩
theorem sR1 : Sml (102 * TM) PD := sT (by decide)
section
variable {k : Nat}
theorem at_loop {g : G} {S : Site} {pulls : List Rat} {ms : List V2} {p x : Rat} {j : Nat} {s5 : SV} (h : SiOk S) (ng : S.gs.length ≤ 6) (hm : ms.length = S.f.joints.length) (bm : ∀ m ∈ ms, BuV m) (hp : pulls.length = S.gs.length) (bp : ∀ r ∈ pulls, Bu r) (pr : priceR S (zerosR S.ps.length) (zerosR S.f.bars.length) pulls ms = some p) (hj : j < pulls.length) (hx : pulls.getD j 0 * x = 1) (bx : Bd 2 60 x) : ∀ (qs : List Rat), (∀ q ∈ qs, Bd 1 7 q) →
    forL (gNm 8) (atBody (callN 4000 tab (k + 10))) (qs.map qD) [some .deal, some (.fz (siD S)), some (.fz (qD p)), some (.fz (rowD pulls)), some (.fz (lsD ms)), some s5, some (.fz (.int j)), some (.fz (qD x)), none, none] g
      = .ok .nx [some .deal, some (.fz (siD S)), some (.fz (qD p)), some (.fz (rowD pulls)), some (.fz (lsD ms)), some s5, some (.fz (.int j)), some (.fz (qD x)), none, none] g
  | [], _ => rfl
  | q :: qs, hq => by
    have ih := at_loop (g := g) (s5 := s5) h ng hm bm hp bp pr hj hx bx qs fun y hy => hq y (List.mem_cons_of_mem _ hy)
    have bq := hq q List.mem_cons_self
    have bP : Bd (101 * TM) PD p := priceR_bd h hm bm zerosR_bu zerosR_bu (zerosR_len _) bp pr
    have d7 : 7 ∣ PD := Nat.dvd_trans (by decide) dd_pd
    have t1 : 1 ≤ TM := by unfold TM; decide
    have bs : Bd (102 * TM) PD (p + q) := (bP.add (bq.mono (Nat.le_refl _) d7)).mono (by omega) (Nat.dvd_refl _)
    have bv : Bd (204 * TM) (PD * 60) ((p + q) * x) := (bs.mul bx).mono (by omega) (Nat.dvd_refl _)
    have e1 := law_plus_ok (w := 4000) (k := k + 8) (g := g) hS.l (bP.fit (sT (by decide))) (fit_u bq (by decide) (by decide))
    have e2 := law_mult_ok (w := 4000) (k := k + 8) (g := g) hS.l (bs.fit sR1) (fit_u bx (by decide) (by decide))
    have e3 := law_with_ok (w := 4000) (k := k + 9) (g := g) hS (xs := zerosR pulls.length) (i := j) (t := (p + q) * x) (by simp; exact hj) (by simp; omega)
    have zm := zeros_mul (n := pulls.length) (by omega)
    have bth : ∀ y ∈ (zerosR pulls.length).set j ((p + q) * x), Bd (204 * TM) (PD * 60) y := fun y hy => by
      rcases List.mem_or_eq_of_mem_set hy with h | rfl
      · unfold zerosR at h
        rw [(List.mem_replicate.mp h).2]
        exact Bd.zero _ _
      · exact bv
    have dd : dotR pulls ((zerosR pulls.length).set j ((p + q) * x)) = p + q := by
      rw [dotR_set _ _ _ _ (by simp) (by simp; exact hj), dotR_zeros, zerosR_getD]
      grind
    have e4 := shows_strange_ok (w := 4000) (k := k) (g := g) hS (by decide) h (rd := (zerosR pulls.length).set j ((p + q) * x)) hm bm hp bp bth sR (r_pos (by omega)) (by rw [dd]; exact bs.fit sR1)
    have st : strangeB S ((zerosR pulls.length).set j ((p + q) * x)) pulls ms = decide (0 < q) := by
      unfold strangeB
      rw [pr, dd]
      show decide (p < p + q) = decide (0 < q)
      rw [Bool.eq_iff_iff, decide_eq_true_iff, decide_eq_true_iff]
      grind
    rw [st] at e4
    have b := bool_ok (w := 4000) (T := tab) (k := k + 9) (i := 3) (hS.l.h rfl) (g := g) (decide (0 < q)) (decide (0 < q))
    have n0 := gt0 q
    have ln : pyLen (rowD pulls) = some (.fz (.int pulls.length)) := by simp [rowD]
    rw [← ih, List.map_cons]
    have bd : atBody (callN 4000 tab (k + 10)) [some .deal, some (.fz (siD S)), some (.fz (qD p)), some (.fz (rowD pulls)), some (.fz (lsD ms)), some s5, some (.fz (.int j)), some (.fz (qD x)), some (.fz (qD q)), none] g = .ok .nx [some .deal, some (.fz (siD S)), some (.fz (qD p)), some (.fz (rowD pulls)), some (.fz (lsD ms)), some s5, some (.fz (.int j)), some (.fz (qD x)), some (.fz (qD q)), some (.fz (rowD ((zerosR pulls.length).set j ((p + q) * x))))] g := by
      unfold atBody
      generalize rowD ((zerosR pulls.length).set j ((p + q) * x)) = TH at *
      generalize rowD (zerosR pulls.length) = Z at *
      generalize hd : decide (0 < q) = dq at *
      have n1 : (0 : Int) < q.num ↔ dq = true := by
        rw [← n0, decide_eq_true_iff]
      cases dq with
      | true =>
        have n2 := n1.mpr rfl
        simp [q0_lit, ln, zm, e1, e2, e3, e4, qix0, n2, b]
      | false =>
        have n2 : ¬ (0 : Int) < q.num := fun y => by cases n1.mp y
        simp [q0_lit, ln, zm, e1, e2, e3, e4, qix0, n2, b]
    generalize atBody (callN 4000 tab (k + 10)) = BB at *
    simp [forL, bd]
theorem at_price_ok {c : Nat} {g : G} {S : Site} {pulls : List Rat} {ms : List V2} (hk : Dk c g) (hc : c < 2 ^ 30) (h : SiOk S) (ng : S.gs.length ≤ 6) (hm : ms.length = S.f.joints.length) (bm : ∀ m ∈ ms, BuV m) (hp : pulls.length = S.gs.length) (bp : ∀ r ∈ pulls, Bd 3 2 r) :
    ∃ g', callN 4000 tab (k + 11) 84 [.deal, .fz (siD S), .fz (oqD (priceR S (zerosR S.ps.length) (zerosR S.f.bars.length) pulls ms)), .fz (rowD pulls), .fz (lsD ms)] g = .ok (.fz (.bool true)) g' ∧ Dk (c + 1) g' := by
  have bpu : ∀ r ∈ pulls, Bu r := fun r hr => (bp r hr).mono (by decide) (by decide)
  have ln : pyLen (rowD pulls) = some (.fz (.int pulls.length)) := by simp [rowD]
  have rg := rng1N (n := pulls.length) (by omega)
  have cf := fun (P2 : D) => compL_imgF (tg := gNm 6) (t := cCmp pyNe (cD (c2 pyIx (cD (cVIx 3 (cVP 6))) (cD (cK (.int 0))))) (cD (cK (.int 0)))) (f := cD (cVE 6)) (vs := [6]) (σ := [some .deal, some (.fz (siD S)), some (.fz P2), some (.fz (rowD pulls)), some (.fz (lsD ms)), none, none, none, none, none]) (g := g) (fun (j : Nat) => PyData.int j) (fun j => (pulls[j]?).any fun r => !decide (r = 0)) (fun j => PyData.int j) (List.range pulls.length) [] (fun j hj => by
    rw [List.mem_range] at hj
    have rg := rowGet (xs := pulls) hj
    have z0 := eq0 pulls[j]
    refine ⟨[some .deal, some (.fz (siD S)), some (.fz P2), some (.fz (rowD pulls)), some (.fz (lsD ms)), none, some (.fz (.int j)), none, none, none], [some .deal, some (.fz (siD S)), some (.fz P2), some (.fz (rowD pulls)), some (.fz (lsD ms)), none, some (.fz (.int j)), none, none, none], by simp, ?_, fun _ => ⟨[some .deal, some (.fz (siD S)), some (.fz P2), some (.fz (rowD pulls)), some (.fz (lsD ms)), none, some (.fz (.int j)), none, none, none], by simp, by simp⟩, fun _ => by simp⟩
    rw [List.getElem?_eq_getElem hj]
    simp only [Option.any_some]
    rw [← z0]
    simp [rg, qix0]) (by simp; omega)
  simp only [List.nil_append, ← rngD_nat] at cf
  have jm : ∀ j ∈ (List.range pulls.length).filter fun j => (pulls[j]?).any fun r => !decide (r = 0), j < pulls.length ∧ pulls.getD j 0 ≠ 0 := fun j hj => by
    rw [List.mem_filter, List.mem_range] at hj
    refine ⟨hj.1, fun e => ?_⟩
    have := hj.2
    rw [List.getElem?_eq_getElem hj.1] at this
    rw [getD_get hj.1] at e
    simp [e] at this
  have jl : ((List.range pulls.length).filter fun j => (pulls[j]?).any fun r => !decide (r = 0)).length ≤ pulls.length := by
    refine Nat.le_trans (List.length_filter_le _ _) ?_
    rw [List.length_range]
    exact Nat.le_refl _
  generalize hJ : (List.range pulls.length).filter (fun j => (pulls[j]?).any fun r => !decide (r = 0)) = js at *
  have cut : b_law_at_the_price (callN 4000 tab (k + 10)) 4000 = (sSeq (sAsg 5 (cLc (iR1 (cD (c1 pyLen (cVP 3)))) [6] (gNm 6) (cCmp pyNe (cD (c2 pyIx (cD (cVIx 3 (cVP 6))) (cD (cK (.int 0))))) (cD (cK (.int 0)))) (cD (cVE 6))))
    (sSeq (sIf (cOr (cCmp pyIs (cVP 2) (cD (cK .none))) (cCmp pyEq (cD (c1 pyLen (cVP 5))) (cD (cK (.int 0)))))
      (sRet (cK (.bool true)))
      sPass)
    (sSeq (sAsg 6 (cVIx 5 (cD (cCall (callN 4000 tab (k + 10)) 1 (cACons (cVE 0) (cACons (c1 pyLen (cVP 5)) cANil))))))
    (sSeq (sAsg 7 (cCall (callN 4000 tab (k + 10)) 4 (cACons (c2 pyIx (cD (cVIx 3 (cVP 6))) (cD (cK (.int 1)))) (cACons (c2 pyIx (cD (cVIx 3 (cVP 6))) (cD (cK (.int 0)))) cANil))))
    (sSeq (sFor (iSeq (cD (cLst (cCons (cD (cTup (cCons (cD (cK (.int 0))) (cCons (cD (cK (.int 1))) cNil)))) (cCons (cD (cTup (cCons (cD (cK (.int 1))) (cCons (cD (cK (.int 7))) cNil)))) (cCons (cD (cTup (cCons (cD (c1 pyNeg (cD (cK (.int 1))))) (cCons (cD (cK (.int 7))) cNil)))) cNil)))))) (gNm 8) (atBody (callN 4000 tab (k + 10))))
    (sRet (cK (.bool true)))))))) := rfl
  rw [callN_at (f := ⟨5, 10, b_law_at_the_price⟩) rfl]
  simp only [semF, cut]
  cases pr : priceR S (zerosR S.ps.length) (zerosR S.f.bars.length) pulls ms with
  | none =>
    refine ⟨g, ?_, hk.mono (by omega)⟩
    have cf1 := cf .none
    generalize atBody (callN 4000 tab (k + 10)) = BB at *
    generalize rngD 0 (pulls.length : Int) = R at *
    simp [runF, ln, rg, cLc, cf1]
  | some p =>
    have cf1 := cf (qD p)
    by_cases z : js = []
    · subst z
      refine ⟨g, ?_, hk.mono (by omega)⟩
      generalize atBody (callN 4000 tab (k + 10)) = BB at *
      generalize rngD 0 (pulls.length : Int) = R at *
      simp [runF, ln, rg, cLc, cf1]
    · have lp : 0 < js.length := List.length_pos_iff.mpr z
      obtain ⟨v, g1, e1, lo, hi, d1⟩ := take_ok (w := 4000) (k := k + 9) (i := 1) (hS.l.h rfl) hk (by omega) (m := (js.length : Int)) (by omega)
      obtain ⟨n, rfl⟩ : ∃ n : Nat, v = n := ⟨v.toNat, by omega⟩
      have ln1 : n < js.length := by omega
      obtain ⟨q1, q2⟩ := jm _ (List.getElem_mem ln1)
      have ix : pyIx (.list (js.map fun (j : Nat) => PyData.int j)) (.int n) = some (.fz (.int (js[n] : Nat))) := ixL rfl (by rw [List.getElem?_map, List.getElem?_eq_getElem ln1]; rfl)
      have jn : ¬ js.length = 0 := by omega
      generalize js[n] = j at *
      have pg := qGetU (l := pulls) q1
      have bj := bp _ (getD_mem q1)
      obtain ⟨x, e2, hx⟩ := recip_ok (k := k + 9) (g := g1) (fit_u bj (by decide) (by decide)) q2
      have at1 := at_loop (k := k) (g := g1) (s5 := .ow (js.map fun (j : Nat) => PyData.int j)) h ng hm bm hp bpu pr q1 hx (inv_bd bj hx) [0, mkRat 1 7, mkRat (-1) 7] (fun q hq => by
        simp only [List.mem_cons, List.not_mem_nil, or_false] at hq
        rcases hq with rfl | rfl | rfl
        · exact Bd.zero _ _
        · exact bd_mk (A := 1) (z := 1) (n := 7) (by decide) (by decide)
        · exact bd_mk (A := 1) (z := -1) (n := 7) (by decide) (by decide))
      have l7 : PyData.tuple [.int 1, .int 7] = qD (mkRat 1 7) := by
        have h1 : (mkRat 1 7).num = 1 := by decide +kernel
        have h2 : (mkRat 1 7).den = 7 := by decide +kernel
        rw [qD, h1, h2]; rfl
      have l8 : PyData.tuple [.int (-1), .int 7] = qD (mkRat (-1) 7) := by
        have h1 : (mkRat (-1) 7).num = -1 := by decide +kernel
        have h2 : (mkRat (-1) 7).den = 7 := by decide +kernel
        rw [qD, h1, h2]; rfl
      simp only [List.map_cons, List.map_nil] at at1
      refine ⟨g1, ?_, d1⟩
      generalize pulls.getD j 0 = PJ at *
      generalize qD (mkRat 1 7) = Q7 at *
      generalize qD (mkRat (-1) 7) = Q8 at *
      generalize atBody (callN 4000 tab (k + 10)) = BB at *
      generalize rngD 0 (pulls.length : Int) = R at *
      simp [runF, ln, rg, cLc, cf1, z, e1, ix, pg, qix0, qix1, e2, q0_lit, l7, l8, at1]
end
end
end K61
namespace K61
noncomputable section
open PySem FD
def tuX1 (ct : CT) : Ev Bool := (cAnd (cCmp pyIsNot (cVP 11) (cD (cK .none))) (cTru (cD (cCall ct 9 (cACons (cVE 11) (cACons (cCall ct 5 (cACons (cCall ct 67 (cACons (cVE 8) (cACons (cVE 5) (cACons (cVE 3) cANil)))) (cACons (cCall ct 8 (cACons (cVE 9) (cACons (cVE 6) cANil))) cANil))) cANil))))))
def tuX2 (ct : CT) : Ev SV := (cB (cAnd (cCmp pyIsNot (cVP 12) (cD (cK .none))) (cOfB (cD (cCall ct 9 (cACons (cVE 12) (cACons (cCall ct 8 (cACons (cVE 9) (cACons (cVE 6) cANil))) cANil)))))))
def tuBody (ct : CT) : Ev Fl := (sSeq (sAsgN 8 (cTup (cCons (cD (cCall ct 82 (cACons (cVE 1) (cACons (c1 pyLen (cD (cVIx 4 (cD (cK (.int 2)))))) cANil)))) (cCons (cD (cCall ct 82 (cACons (cVE 1) (cACons (c1 pyLen (cD (cVIx 2 (cD (cK (.int 3)))))) cANil)))) cNil))))
    (sSeq (sAsgN 9 (cCall ct 82 (cACons (cVE 1) (cACons (c1 pyLen (cD (cVIx 4 (cD (cK (.int 3)))))) cANil))))
    (sSeq (sAsgN 10 (cCall ct 83 (cACons (cVE 1) (cACons (cVE 2) cANil))))
    (sSeq (sAsgN 11 (cCall ct 77 (cACons (cVE 4) (cACons (cVE 8) (cACons (cVE 9) (cACons (cVE 10) cANil))))))
    (sSeq (sIf (cNot (cTru (cD (cCall ct 2 (cACons (cVE 11) (cACons (cCall ct 81 (cACons (cVE 4) (cACons (cVE 8) (cACons (cVE 9) (cACons (cVE 10) cANil))))) cANil))))))
      (sRet (cK (.bool false)))
      sPass)
    (sSeq (sIf (tuX1 ct)
      (sRet (cK (.bool false)))
      sPass)
    (sSeq (sAsgN 12 (cCall ct 81 (cACons (cVE 4) (cACons (cCall ct 66 (cACons (cVE 4) cANil)) (cACons (cVE 9) (cACons (cVE 10) cANil))))))
    (sSeq (sAsgN 13 (tuX2 ct))
    (sIf (cOr (cNot (cTru (cD (cCall ct 3 (cACons (cCall ct 79 (cACons (cVE 4) (cACons (cVE 6) (cACons (cVE 9) (cACons (cVE 10) cANil))))) (cACons (cVE 13) cANil)))))) (cNot (cTru (cD (cCall ct 84 (cACons (cVE 1) (cACons (cVE 4) (cACons (cVE 12) (cACons (cVE 9) (cACons (cVE 10) cANil))))))))))
      (sRet (cK (.bool false)))
      sPass)))))))))
def seT (ct : CT) : Ev Fl := (sSeq (sFor (iR1 (cD (cK (.int 3)))) (gNm 7) (tuBody ct)) (sRet (cK (.bool true))))
theorem b_law_cut (ct : CT) (w : Nat) : b_law ct w = (sSeq (sAsgN 1 (cCall ct 0 (cACons (cVE 0) cANil)))
  (sSeq (sAsgN 2 (cIte (cCmp pyGt (cD (cCall ct 1 (cACons (cVE 1) (cACons (cK (.int 3)) cANil)))) (cD (cK (.int 0)))) (cCall ct 68 (cACons (cVE 1) cANil)) (cCall ct 58 (cACons (cVE 1) (cACons (cK (.int 2)) cANil)))))
  (sSeq (sAsgN 3 (cCall ct 70 (cACons (cVE 1) (cACons (cVE 2) cANil))))
  (sSeq (sUnp (gTp 2 (gC (gNm 4) (gC (gNm 5) gN))) (cD (cCall ct 71 (cACons (cVE 1) (cACons (cVE 2) (cACons (cVE 3) (cACons (cCall ct 1 (cACons (cVE 1) (cACons (cK (.int 5)) cANil))) (cACons (cCall ct 60 (cACons (cVE 1) (cACons (cVE 2) (cACons (cK (.int 6)) cANil)))) cANil))))))))
  (sSeq (sAsgN 6 (cCall ct 72 (cACons (cVE 1) (cACons (cVE 4) (cACons (cVE 3) cANil)))))
  (seT ct)))))) := rfl
theorem sm_o (o : Option Rat) : Sm 1 (oqD o) := by
  cases o with
  | none => trivial
  | some r =>
    refine ⟨by show 2 < 2 ^ 60; decide, fun d hd => ?_⟩
    simp only [List.mem_cons, List.not_mem_nil, or_false] at hd
    rcases hd with rfl | rfl <;> trivial
theorem mturn (a0 fD sD siD' F R P PL TG M PN TN RT RB : D) (st : Bool) (ps bs gs : List D) (i : Int) (g g1 g2 g3 g4 g5 : G) (CT : CT)
  (X1 : Ev Bool) (X2 : Ev SV) (h2 : pyIx siD' (.int 2) = some (.fz (.tuple ps))) (h3 : pyIx fD (.int 3) = some (.fz (.tuple bs))) (h4 : pyIx siD' (.int 3) = some (.fz (.tuple gs)))
  (e1 : CT 82 [.deal, .fz (.int ps.length)] g = .ok (.fz RT) g1) (e2 : CT 82 [.deal, .fz (.int bs.length)] g1 = .ok (.fz RB) g2) (tg : PyData.tuple [RT, RB] = TG)
  (e3 : CT 82 [.deal, .fz (.int gs.length)] g2 = .ok (.fz PL) g3) (e4 : CT 83 [.deal, .fz fD] g3 = .ok (.fz M) g4)
  (e5 : CT 77 [.fz siD', .fz TG, .fz PL, .fz M] g4 = .ok (.fz P) g4) (e6 : CT 81 [.fz siD', .fz TG, .fz PL, .fz M] g4 = .ok (.fz P) g4) (e7 : CT 2 [.fz P, .fz P] g4 = .ok (.fz (.bool true)) g4)
  (x1 : X1 [some (.fz a0), some .deal, some (.fz fD), some (.fz sD), some (.fz siD'), some (.fz F), some (.fz R), some (.fz (.int i)), some (.fz TG), some (.fz PL), some (.fz M), some (.fz P), none, none] g4 = .ok false [some (.fz a0), some .deal, some (.fz fD), some (.fz sD), some (.fz siD'), some (.fz F), some (.fz R), some (.fz (.int i)), some (.fz TG), some (.fz PL), some (.fz M), some (.fz P), none, none] g4)
  (e8 : CT 66 [.fz siD'] g4 = .ok (.fz TN) g4) (e9 : CT 81 [.fz siD', .fz TN, .fz PL, .fz M] g4 = .ok (.fz PN) g4)
  (x2 : X2 [some (.fz a0), some .deal, some (.fz fD), some (.fz sD), some (.fz siD'), some (.fz F), some (.fz R), some (.fz (.int i)), some (.fz TG), some (.fz PL), some (.fz M), some (.fz P), some (.fz PN), none] g4 = .ok (.fz (.bool st)) [some (.fz a0), some .deal, some (.fz fD), some (.fz sD), some (.fz siD'), some (.fz F), some (.fz R), some (.fz (.int i)), some (.fz TG), some (.fz PL), some (.fz M), some (.fz P), some (.fz PN), none] g4)
  (e10 : CT 79 [.fz siD', .fz R, .fz PL, .fz M] g4 = .ok (.fz (.bool st)) g4) (b : CT 3 [.fz (.bool st), .fz (.bool st)] g4 = .ok (.fz (.bool true)) g4) (e11 : CT 84 [.deal, .fz siD', .fz PN, .fz PL, .fz M] g4 = .ok (.fz (.bool true)) g5) :
  (sSeq (sAsgN 8 (cTup (cCons (cD (cCall CT 82 (cACons (cVE 1) (cACons (c1 pyLen (cD (cVIx 4 (cD (cK (.int 2)))))) cANil)))) (cCons (cD (cCall CT 82 (cACons (cVE 1) (cACons (c1 pyLen (cD (cVIx 2 (cD (cK (.int 3)))))) cANil)))) cNil))))
    (sSeq (sAsgN 9 (cCall CT 82 (cACons (cVE 1) (cACons (c1 pyLen (cD (cVIx 4 (cD (cK (.int 3)))))) cANil))))
    (sSeq (sAsgN 10 (cCall CT 83 (cACons (cVE 1) (cACons (cVE 2) cANil))))
    (sSeq (sAsgN 11 (cCall CT 77 (cACons (cVE 4) (cACons (cVE 8) (cACons (cVE 9) (cACons (cVE 10) cANil))))))
    (sSeq (sIf (cNot (cTru (cD (cCall CT 2 (cACons (cVE 11) (cACons (cCall CT 81 (cACons (cVE 4) (cACons (cVE 8) (cACons (cVE 9) (cACons (cVE 10) cANil))))) cANil))))))
      (sRet (cK (.bool false)))
      sPass)
    (sSeq (sIf X1
      (sRet (cK (.bool false)))
      sPass)
    (sSeq (sAsgN 12 (cCall CT 81 (cACons (cVE 4) (cACons (cCall CT 66 (cACons (cVE 4) cANil)) (cACons (cVE 9) (cACons (cVE 10) cANil))))))
    (sSeq (sAsgN 13 X2)
    (sIf (cOr (cNot (cTru (cD (cCall CT 3 (cACons (cCall CT 79 (cACons (cVE 4) (cACons (cVE 6) (cACons (cVE 9) (cACons (cVE 10) cANil))))) (cACons (cVE 13) cANil)))))) (cNot (cTru (cD (cCall CT 84 (cACons (cVE 1) (cACons (cVE 4) (cACons (cVE 12) (cACons (cVE 9) (cACons (cVE 10) cANil))))))))))
      (sRet (cK (.bool false)))
      sPass))))))))) [some (.fz a0), some .deal, some (.fz fD), some (.fz sD), some (.fz siD'), some (.fz F), some (.fz R), some (.fz (.int i)), none, none, none, none, none, none] g
    = .ok .nx [some (.fz a0), some .deal, some (.fz fD), some (.fz sD), some (.fz siD'), some (.fz F), some (.fz R), some (.fz (.int i)), some (.fz TG), some (.fz PL), some (.fz M), some (.fz P), some (.fz PN), some (.fz (.bool st))] g5 := by
  simp [h2, h3, h4, e1, e2, tg, e3, e4, e5, e6, e7, x1, e8, e9, x2, e10, b, e11]
section
variable {k : Nat}
theorem turn_ok {c : Nat} {g : G} {S : Site} {s : Stt} {fs rd : List Rat} {a0 : D} {i : Int} (hk : Dk c g) (hc : c < 2 ^ 20) (hT : Truss S.f) (h : SiOk S) (hg : ∀ x ∈ S.gs, GauOk S.f x) (ng : S.gs.length ≤ 6) (np : S.ps.length ≤ 4) (hs : StOk S.f s 18 8) (hl : lawfulB S.f s = true) (lf : fs.length = S.ps.length) (bf : ∀ x ∈ fs, Bd 3 6 x) (lr : rd.length = S.gs.length)
    (hb : S.base = (underV (forcesV S.f s) (S.ps.zip fs)).map V2.neg) (h1 : ∀ p ∈ S.ps.zip fs, 0 ≤ p.2 ∧ p.2 ≤ p.1.most) (h2 : ∀ p ∈ S.gs.zip rd, Bd 20 8 p.2 ∧ -p.1.e ≤ p.2 - s.qs.getD p.1.b 0 ∧ p.2 - s.qs.getD p.1.b 0 ≤ p.1.e) (fl : (forcesV S.f s).length = S.f.joints.length) :
    ∃ (x1 x2 x3 x4 x5 x6 : SV) (g' : G), tuBody (callN 4000 tab (k + 12)) [some (.fz a0), some .deal, some (.fz (frD S.f)), some (.fz (stD s)), some (.fz (siD S)), some (.fz (rowD fs)), some (.fz (rowD rd)), some (.fz (.int i)), none, none, none, none, none, none] g
      = .ok .nx [some (.fz a0), some .deal, some (.fz (frD S.f)), some (.fz (stD s)), some (.fz (siD S)), some (.fz (rowD fs)), some (.fz (rowD rd)), some (.fz (.int i)), some x1, some x2, some x3, some x4, some x5, some x6] g' ∧ Dk (c + 1000) g' := by
  have nj := hT.nj
  have nb := hT.nb
  obtain ⟨tp, g1, e1, l1, b1, d1⟩ := law_numbers_ok (w := 4000) (k := k + 9) (many := S.ps.length) hS (by omega) hk (by omega)
  obtain ⟨tb, g2, e2, l2, b2, d2⟩ := law_numbers_ok (w := 4000) (k := k + 9) (many := S.f.bars.length) hS (by omega) d1 (by omega)
  obtain ⟨pulls, g3, e3, l3, b3, d3⟩ := law_numbers_ok (w := 4000) (k := k + 9) (many := S.gs.length) hS (by omega) d2 (by omega)
  obtain ⟨ms, g4, e4, hm, bm, d4⟩ := motion_ok (k := k + 8) d3 (by omega) (by omega) hT.ok.fi
  have up : ∀ x : Rat, Bd 3 2 x → Bu x := fun x hx => hx.mono (by decide) (by decide)
  have bmu : ∀ m ∈ ms, BuV m := fun m hm' => ⟨up _ (bm m hm').1, up _ (bm m hm').2⟩
  have bpu : ∀ x ∈ pulls, Bu x := fun x hx => up x (b3 x hx)
  have btu : ∀ x ∈ tb, Bu x := fun x hx => up x (b2 x hx)
  have btp : ∀ x ∈ tp, Bu x := fun x hx => up x (b1 x hx)
  have e5 := price_of_ok (w := 4000) (k := k + 3) (g := g4) hS (by decide) h (tp := tp) (tb := tb) hm bmu btu btp l2 bpu
  have e6 := law_price_ok (w := 4000) (k := k + 6) (g := g4) hS h (tp := tp) (tb := tb) hm bmu btu btp l2 l1 l3 bpu
  have e7 := same_refl (w := 4000) (T := tab) (hS.l.h rfl) (g := g4) 1 _ (sm_o (priceR S tp tb pulls ms)) (k + 11) (by omega)
  have e8 := law_nothing_ok (w := 4000) (k := k + 11) (g := g4) hS h
  have e9 := law_price_ok (w := 4000) (k := k + 6) (g := g4) hS h (tp := zerosR S.ps.length) (tb := zerosR S.f.bars.length) hm bmu zerosR_bu zerosR_bu (zerosR_len _) (zerosR_len _) l3 bpu
  -- readings
  have brd : ∀ x ∈ rd, Bd 20 8 x := fun x hx => by
    obtain ⟨j, hj, rfl⟩ := List.getElem_of_mem hx
    have hj2 : j < S.gs.length := by omega
    have : (S.gs[j], rd[j]) ∈ S.gs.zip rd := by
      refine List.mem_iff_getElem.mpr ⟨j, by rw [List.length_zip]; omega, ?_⟩
      rw [List.getElem_zip]
    exact (h2 _ this).1
  have brU : ∀ x ∈ rd, Bu x := fun x hx => (brd x hx).mono (by decide) (by decide)
  have t1 : Sml ((pulls.length + 1) * (AU * AU)) (DU * DU) := Sml.mono (B := 41 * (AU * AU)) (e := DU * DU) ⟨by decide, by decide +kernel, by decide +kernel⟩ (Nat.mul_le_mul_right _ (by omega)) (Nat.le_refl _) (by decide)
  have e12 := law_dot_ok (w := 4000) (k := k + 9) (g := g4) hS.l (row_rowD pulls) (row_rowD rd) bpu brU (by omega) (by omega) t1 sU sU
  have bd := (dotR_bd pulls rd bpu brU).mono (Nat.mul_le_mul_right (AU * AU) (show pulls.length ≤ 40 by omega)) (Nat.dvd_refl _)
  have sm : Sml (120 * (AU * AU)) (DU * DU) := ⟨by decide, by decide +kernel, by decide +kernel⟩
  have fd : Fit (dotR pulls rd) := bd.fit (sm.mono (Nat.mul_le_mul_right _ (by decide)) (Nat.le_refl _) (by decide))
  obtain ⟨e13, bw⟩ := law_worth_ok (w := 4000) (k := k + 8) (g := g4) hS hs btp btu bf (by omega) l2 (by omega) (by omega)
  have fw : Fit (dotR tp fs + dotR tb s.qs) := bw.fit (sm.mono (Nat.mul_le_mul_right _ (by decide)) (Nat.le_refl _) (by decide))
  have bwd : Bd (120 * (AU * AU)) (DU * DU) (dotR tp fs + dotR tb s.qs + dotR pulls rd) := (bw.add bd).mono (by omega) (Nat.dvd_refl _)
  have e14 := law_plus_ok (w := 4000) (k := k + 10) (g := g4) hS.l fw fd
  have pbd := fun p (hp : priceR S tp tb pulls ms = some p) => price_bound hT.ok hs hl hm (fun p hp => (h.pl p hp).1) (fun x hx => (h.gb x hx).1) hb lf l1 l2 l3 lr h1 (fun p hp => (h2 p hp).2) fl hp
  have ppb := fun p (hp : priceR S tp tb pulls ms = some p) => priceR_bd h hm bmu btu btp l2 bpu hp
  have ppz := fun p (hp : priceR S (zerosR S.ps.length) (zerosR S.f.bars.length) pulls ms = some p) => priceR_bd h hm bmu zerosR_bu zerosR_bu (zerosR_len _) bpu hp
  have e10 := shows_strange_ok (w := 4000) (k := k + 2) (g := g4) hS (by decide) h (rd := rd) hm bmu l3 bpu brU sU (by
    have q1 : pulls.length * (AU * AU) + 1 ≤ 6 * (AU * AU) + 1 := Nat.succ_le_succ (Nat.mul_le_mul_right _ (by omega))
    have q2 : (DU * DU) ^ pulls.length ≤ (DU * DU) ^ 6 := Nat.pow_le_pow_right (by decide) (by omega)
    exact Nat.lt_of_le_of_lt (Nat.mul_le_mul q1 q2) (by decide +kernel)) fd
  have b := bool_ok (w := 4000) (T := tab) (k := k + 11) (i := 3) (hS.l.h rfl) (g := g4) (strangeB S rd pulls ms) (strangeB S rd pulls ms)
  have bb : (strangeB S rd pulls ms == strangeB S rd pulls ms) = true := by simp
  rw [bb] at b
  obtain ⟨g5, e11, d5⟩ := at_price_ok (k := k + 1) d4 (by omega) h ng hm bmu l3 b3
  have x1 : tuX1 (callN 4000 tab (k + 12)) [some (.fz a0), some .deal, some (.fz (frD S.f)), some (.fz (stD s)), some (.fz (siD S)), some (.fz (rowD fs)), some (.fz (rowD rd)), some (.fz (.int i)), some (.fz (stD ⟨tp, tb⟩)), some (.fz (rowD pulls)), some (.fz (lsD ms)), some (.fz (oqD (priceR S tp tb pulls ms))), none, none] g4 = .ok false [some (.fz a0), some .deal, some (.fz (frD S.f)), some (.fz (stD s)), some (.fz (siD S)), some (.fz (rowD fs)), some (.fz (rowD rd)), some (.fz (.int i)), some (.fz (stD ⟨tp, tb⟩)), some (.fz (rowD pulls)), some (.fz (lsD ms)), some (.fz (oqD (priceR S tp tb pulls ms))), none, none] g4 := by
    unfold tuX1
    cases pr : priceR S tp tb pulls ms with
    | none => simp
    | some p =>
      have e15 := law_less_ok (w := 4000) (k := k + 11) (g := g4) hS.l ((ppb p pr).fit (sT (by decide))) (bwd.fit sm)
      have le := pbd p pr
      rw [decide_eq_false (by grind)] at e15
      simp only [oq_some]
      simp [e13, e12, e14, e15]
  have x2 : tuX2 (callN 4000 tab (k + 12)) [some (.fz a0), some .deal, some (.fz (frD S.f)), some (.fz (stD s)), some (.fz (siD S)), some (.fz (rowD fs)), some (.fz (rowD rd)), some (.fz (.int i)), some (.fz (stD ⟨tp, tb⟩)), some (.fz (rowD pulls)), some (.fz (lsD ms)), some (.fz (oqD (priceR S tp tb pulls ms))), some (.fz (oqD (priceR S (zerosR S.ps.length) (zerosR S.f.bars.length) pulls ms))), none] g4 = .ok (.fz (.bool (strangeB S rd pulls ms))) [some (.fz a0), some .deal, some (.fz (frD S.f)), some (.fz (stD s)), some (.fz (siD S)), some (.fz (rowD fs)), some (.fz (rowD rd)), some (.fz (.int i)), some (.fz (stD ⟨tp, tb⟩)), some (.fz (rowD pulls)), some (.fz (lsD ms)), some (.fz (oqD (priceR S tp tb pulls ms))), some (.fz (oqD (priceR S (zerosR S.ps.length) (zerosR S.f.bars.length) pulls ms))), none] g4 := by
    unfold tuX2 strangeB
    cases pr : priceR S (zerosR S.ps.length) (zerosR S.f.bars.length) pulls ms with
    | none => simp
    | some p =>
      have e15 := law_less_ok (w := 4000) (k := k + 11) (g := g4) hS.l ((ppz p pr).fit (sT (by decide))) fd
      simp only [oq_some]
      generalize hQ : decide (p < dotR pulls rd) = Q at *
      simp [cOfB, e12, e15, hQ]
  have lps : ((S.ps.map patD).length : Int) = S.ps.length := by rw [List.length_map]
  have lbs : ((S.f.bars.map barD).length : Int) = S.f.bars.length := by rw [List.length_map]
  have lgs : ((S.gs.map gauD).length : Int) = S.gs.length := by rw [List.length_map]
  refine ⟨.fz (stD ⟨tp, tb⟩), .fz (rowD pulls), .fz (lsD ms), .fz (oqD (priceR S tp tb pulls ms)), .fz (oqD (priceR S (zerosR S.ps.length) (zerosR S.f.bars.length) pulls ms)), .fz (.bool (strangeB S rd pulls ms)), g5, ?_, d5.mono (by omega)⟩
  exact mturn a0 (frD S.f) (stD s) (siD S) (rowD fs) (rowD rd) _ _ (stD ⟨tp, tb⟩) _ _ (stD ⟨zerosR S.ps.length, zerosR S.f.bars.length⟩) (rowD tp) (rowD tb) _ (S.ps.map patD) (S.f.bars.map barD) (S.gs.map gauD) i g g1 g2 g3 g4 g5 _ _ _ (si2 S) (fr3 S.f) (si3 S) (by rw [lps]; exact e1) (by rw [lbs]; exact e2) rfl (by rw [lgs]; exact e3) e4 e5 e6 e7 x1 e8 e9 x2 e10 b e11
theorem mlaw (a0 fD sD siD' F R GD : D) (many x : Int) (g g0 g1 g2 g3 g4 g5 g6 g7 g8 : G) (r t : D) (CT : CT) (B : Ev Fl) (σ : Sl)
  (e0 : CT 0 [.fz a0] g = .ok (.nd r 0 t) g) (e1 : CT 1 [.deal, .fz (.int 3)] ⟨r, t, 0⟩ = .ok (.fz (.int x)) g1)
  (e2 : (if 0 < x then CT 68 [.deal] g1 else CT 58 [.deal, .fz (.int 2)] g1) = .ok (.fz fD) g2) (e3 : CT 70 [.deal, .fz fD] g2 = .ok (.fz sD) g3) (e4 : CT 1 [.deal, .fz (.int 5)] g3 = .ok (.fz (.int many)) g4) (e5 : CT 60 [.deal, .fz fD, .fz (.int 6)] g4 = .ok (.fz GD) g5)
  (e6 : CT 71 [.deal, .fz fD, .fz sD, .fz (.int many), .fz GD] g5 = .ok (.fz (.tuple [siD', F])) g6) (e7 : CT 72 [.deal, .fz siD', .fz sD] g6 = .ok (.fz R) g7)
  (en : B [some (.fz a0), some .deal, some (.fz fD), some (.fz sD), some (.fz siD'), some (.fz F), some (.fz R), none, none, none, none, none, none, none] g7 = .ok (.rt (.fz (.bool true))) σ g8) :
  runF 14 (sSeq (sAsgN 1 (cCall CT 0 (cACons (cVE 0) cANil)))
  (sSeq (sAsgN 2 (cIte (cCmp pyGt (cD (cCall CT 1 (cACons (cVE 1) (cACons (cK (.int 3)) cANil)))) (cD (cK (.int 0)))) (cCall CT 68 (cACons (cVE 1) cANil)) (cCall CT 58 (cACons (cVE 1) (cACons (cK (.int 2)) cANil)))))
  (sSeq (sAsgN 3 (cCall CT 70 (cACons (cVE 1) (cACons (cVE 2) cANil))))
  (sSeq (sUnp (gTp 2 (gC (gNm 4) (gC (gNm 5) gN))) (cD (cCall CT 71 (cACons (cVE 1) (cACons (cVE 2) (cACons (cVE 3) (cACons (cCall CT 1 (cACons (cVE 1) (cACons (cK (.int 5)) cANil))) (cACons (cCall CT 60 (cACons (cVE 1) (cACons (cVE 2) (cACons (cK (.int 6)) cANil)))) cANil))))))))
  (sSeq (sAsgN 6 (cCall CT 72 (cACons (cVE 1) (cACons (cVE 4) (cACons (cVE 3) cANil)))))
  B))))) [.fz a0] g = .ok (.fz (.bool true)) g8 := by
  by_cases z : 0 < x
  · rw [if_pos z] at e2
    simp [runF, e0, e1, z, e2, e3, e4, e5, e6, e7, en]
  · rw [if_neg z] at e2
    simp [runF, e0, e1, z, e2, e3, e4, e5, e6, e7, en]
theorem law_ok {g : G} {ns : List Int} (hns : ns.length ≤ 63) : ∃ g', callN 4000 tab (k + 13) 85 [.fz (.list (ns.map .int))] g = .ok (.fz (.bool true)) g' := by
  obtain ⟨r, t, e0, d0⟩ := deal_ok (w := 4000) (T := tab) (k := k + 11) (i := 0) (hS.l.h rfl) (g := g) hns
  obtain ⟨x, g1, e1, x0, x1, d1⟩ := take_ok (w := 4000) (k := k + 11) (i := 1) (hS.l.h rfl) d0 (by decide) (m := 3) (by decide)
  obtain ⟨f, g2, e2, hT, d2⟩ : ∃ (f : FD.Frame) (g2 : G), (if 0 < x then callN 4000 tab (k + 12) 68 [.deal] g1 else callN 4000 tab (k + 12) 58 [.deal, .fz (.int 2)] g1) = .ok (.fz (frD f)) g2 ∧ Truss f ∧ Dk (1 + 700) g2 := by
    by_cases z : 0 < x
    · obtain ⟨f, g2, q1, q2, q3⟩ := law_truss_ok (w := 4000) (k := k + 8) hS d1 (by decide)
      exact ⟨f, g2, by rw [if_pos z]; exact q1, q2, q3.mono (by omega)⟩
    · obtain ⟨f, g2, q1, q2, q3⟩ := law_frame_ok (w := 4000) (k := k + 9) (n := 2) hS.l d1 (by decide) (by decide) (by decide)
      exact ⟨f, g2, by rw [if_neg z]; exact q1, q2.truss (by decide) (by decide), q3.mono (by omega)⟩
  have nj := hT.nj
  have nb := hT.nb
  have nf := hT.nf
  obtain ⟨s, g3, e3, hs, hl, d3⟩ := law_state_ok (w := 4000) (k := k + 8) hS hT.bs (by omega) (by omega) d2 (by decide)
  obtain ⟨many, g4, e4, m0, m1, d4⟩ := take_ok (w := 4000) (k := k + 11) (i := 1) (hS.l.h rfl) d3 (by omega) (m := 5) (by decide)
  obtain ⟨p, rfl⟩ : ∃ p : Nat, many = p := ⟨many.toNat, by omega⟩
  obtain ⟨gs, g5, e5, ng, hg, d5⟩ := law_gauges_ok (w := 4000) (k := k + 9) (most := 6) hS (f := f) (by omega) d4 (by omega)
  obtain ⟨S, fs, g6, e6, Sf, Sg, h, lp, lf, bf, h1, hb, d6⟩ := law_site_ok (w := 4000) (k := k + 7) (many := p) hS hT.ok hT.bs (by omega) (by omega) (by omega) hs hg (by omega) (by omega) d5 (by omega)
  subst Sf
  subst Sg
  obtain ⟨rd, g7, e7, lr, h2, d7⟩ := law_read_ok (w := 4000) (k := k + 9) (S := S) hS hs hg (by omega) d6 (by omega)
  have hN : Sml (2001 * (18 * (110 + 110))) (8 * 1) := ⟨by decide, by decide +kernel, by decide +kernel⟩
  obtain ⟨_, fl, _⟩ := forces_of_ok (w := 4000) (k := k) (g := g) (T := tab) hS.l (by decide) hT.ok hs ⟨by decide, by decide +kernel, by decide +kernel⟩ ⟨by decide, by decide +kernel, by decide +kernel⟩ hN
  have T1 := fun (c : Nat) (g : G) (i : Int) (hk : Dk c g) (hc : c < 2 ^ 20) => turn_ok (k := k) (a0 := .list (ns.map .int)) (i := i) hk hc hT h hg ng (by omega) hs hl (by omega) bf lr hb h1 h2 fl
  obtain ⟨y1, y2, y3, y4, y5, y6, g8, q1, dd1⟩ := T1 _ g7 0 d7 (by omega)
  obtain ⟨z1, z2, z3, z4, z5, z6, g9, q2, dd2⟩ := T1 _ g8 1 dd1 (by omega)
  obtain ⟨w1, w2, w3, w4, w5, w6, g10, q3, dd3⟩ := T1 _ g9 2 dd2 (by omega)
  have r3 : rng1 (.int 3) = some [.int 0, .int 1, .int 2] := rng1N (n := 3) (by decide)
  have en : seT (callN 4000 tab (k + 12)) [some (.fz (.list (ns.map .int))), some .deal, some (.fz (frD S.f)), some (.fz (stD s)), some (.fz (siD S)), some (.fz (rowD fs)), some (.fz (rowD rd)), none, none, none, none, none, none, none] g7 = .ok (.rt (.fz (.bool true))) [some (.fz (.list (ns.map .int))), some .deal, some (.fz (frD S.f)), some (.fz (stD s)), some (.fz (siD S)), some (.fz (rowD fs)), some (.fz (rowD rd)), none, none, none, none, none, none, none] g10 := by
    unfold seT
    generalize tuBody (callN 4000 tab (k + 12)) = TB at *
    simp [r3, forL, q1, q2, q3]
  refine ⟨g10, ?_⟩
  rw [callN_at (f := ⟨1, 14, b_law⟩) rfl]
  show (if 1 = 1 then runF 14 (b_law (callN 4000 tab (k + 12)) 4000) [.fz (.list (ns.map .int))] g else FOut.stuck) = _
  rw [if_pos rfl, b_law_cut]
  exact mlaw _ _ _ _ _ _ _ _ _ g g g1 g2 g3 g4 g5 g6 g7 g10 r t _ _ _ e0 e1 e2 e3 e4 e5 e6 e7 en
theorem law_true (ns : List Int) (h : ns.length ≤ 63) : ∃ g, callN 4000 tab (63 + 1) 85 [.fz (.list (ns.map .int))] ⟨.none, .none, 0⟩ = .ok (.fz (.bool true)) g := law_ok (k := 51) h
end
end
end K61
set_option Elab.async false
set_option maxRecDepth 100000
open PySem PySem.W PyProof.Rows
set_option maxHeartbeats 0 in
theorem PySem.Challenge.cw_standsfast_k61_whole_price_of_papers_holds : PySem.Challenge.rw_standsfast_k61_whole_price_of_papers.Holds := by
  w_on; o_law; k_head; (case hw => w_witness2)
  k_fill
  refine L2.walk_of (l := PySem.Challenge.rw_standsfast_k61_whole_price_of_papers) (n := 63) (k := 63 + 1) (x := "script") (CX := fun _ => L2.CX0) (sp := fun w => FD.spF _ FD.XC0 true 1 (FD.callN 4000 K61.tab (63 + 1) 85)) rfl (by decide) rfl ⟨rfl, by decide, by decide⟩ (fun w h Y => PySem.W.kIn_of Y) ?F (fun w H a ns hl _ hS => FD.sp_law (FD.noList_ok rfl) hS ⟨.none, .none, 0⟩ (K61.law_true ns hl)) (fun _ _ _ _ _ h => h)
  case F =>
    intro w mg fa h KX G hmg
    refine' K61.all_mk KX G hmg ?a1 ?l1 ?c1 ?k1 ?a2 ?l2 ?c2 ?k2 ?a3 ?l3 ?c3 ?k3 ?a4 ?l4 ?c4 ?k4 ?a5 ?l5 ?c5 ?k5 ?a6 ?l6 ?c6 ?k6 ?a7 ?l7 ?c7 ?k7 ?a8 ?l8 ?c8 ?k8 ?a9 ?l9 ?c9 ?k9 ?a10 ?l10 ?c10 ?k10 ?a11 ?l11 ?c11 ?k11 ?a12 ?l12 ?c12 ?k12 ?a13 ?l13 ?c13 ?k13 ?a14 ?l14 ?c14 ?k14 ?a15 ?l15 ?c15 ?k15 ?a16 ?l16 ?c16 ?k16 ?a17 ?l17 ?c17 ?k17 ?a18 ?l18 ?c18 ?k18 ?a19 ?l19 ?c19 ?k19 ?a20 ?l20 ?c20 ?k20 ?a21 ?l21 ?c21 ?k21 ?a22 ?l22 ?c22 ?k22 ?a23 ?l23 ?c23 ?k23 ?a24 ?l24 ?c24 ?k24 ?a25 ?l25 ?c25 ?k25 ?a26 ?l26 ?c26 ?k26 ?a27 ?l27 ?c27 ?k27 ?a28 ?l28 ?c28 ?k28 ?a29 ?l29 ?c29 ?k29 ?a30 ?l30 ?c30 ?k30 ?a31 ?l31 ?c31 ?k31 ?a32 ?l32 ?c32 ?k32 ?a33 ?l33 ?c33 ?k33 ?a34 ?l34 ?c34 ?k34 ?a35 ?l35 ?c35 ?k35 ?a36 ?l36 ?c36 ?k36 ?a37 ?l37 ?c37 ?k37 ?a38 ?l38 ?c38 ?k38 ?a39 ?l39 ?c39 ?k39 ?a40 ?l40 ?c40 ?k40 ?a41 ?l41 ?c41 ?k41 ?a42 ?l42 ?c42 ?k42 ?a43 ?l43 ?c43 ?k43 ?a44 ?l44 ?c44 ?k44 ?a45 ?l45 ?c45 ?k45 ?a46 ?l46 ?c46 ?k46 ?a47 ?l47 ?c47 ?k47 ?a48 ?l48 ?c48 ?k48 ?a49 ?l49 ?c49 ?k49 ?a50 ?l50 ?c50 ?k50 ?a51 ?l51 ?c51 ?k51 ?a52 ?l52 ?c52 ?k52 ?a53 ?l53 ?c53 ?k53 ?a54 ?l54 ?c54 ?k54 ?a55 ?l55 ?c55 ?k55 ?a56 ?l56 ?c56 ?k56 ?a57 ?l57 ?c57 ?k57 ?a58 ?l58 ?c58 ?k58 ?a59 ?l59 ?c59 ?k59 ?a60 ?l60 ?c60 ?k60 ?a61 ?l61 ?c61 ?k61 ?a62 ?l62 ?c62 ?k62 ?a63 ?l63 ?c63 ?k63 ?a64 ?l64 ?c64 ?k64 ?q1 ?r1 ?q2 ?r2 ?z1 ?z2 ?z3 ?z4 ?z5 ?z6 ?z7 ?z8 ?z9 ?z10 ?z11 ?z12 ?z13 ?z14 ?z15
    (case a1 => k_is); (case l1 => k_is); (case c1 => k_is); (case k1 => k_is); (case a2 => k_is); (case l2 => k_is); (case c2 => k_is); (case k2 => k_is); (case a3 => k_is); (case l3 => k_is); (case c3 => k_is); (case k3 => k_is); (case a4 => k_is); (case l4 => k_is); (case c4 => k_is); (case k4 => k_is); (case a5 => k_is); (case l5 => k_is); (case c5 => k_is); (case k5 => k_is); (case a6 => k_is); (case l6 => k_is); (case c6 => k_is); (case k6 => k_is); (case a7 => k_is); (case l7 => k_is); (case c7 => k_is); (case k7 => k_is); (case a8 => k_is); (case l8 => k_is); (case c8 => k_is); (case k8 => k_is); (case a9 => k_is); (case l9 => k_is); (case c9 => k_is); (case k9 => k_is); (case a10 => k_is); (case l10 => k_is); (case c10 => k_is); (case k10 => k_is); (case a11 => k_is); (case l11 => k_is); (case c11 => k_is); (case k11 => k_is); (case a12 => k_is); (case l12 => k_is); (case c12 => k_is); (case k12 => k_is); (case a13 => k_is); (case l13 => k_is); (case c13 => k_is); (case k13 => k_is); (case a14 => k_is); (case l14 => k_is); (case c14 => k_is); (case k14 => k_is); (case a15 => k_is); (case l15 => k_is); (case c15 => k_is); (case k15 => k_is); (case a16 => k_is); (case l16 => k_is); (case c16 => k_is); (case k16 => k_is); (case a17 => k_is); (case l17 => k_is); (case c17 => k_is); (case k17 => k_is); (case a18 => k_is); (case l18 => k_is); (case c18 => k_is); (case k18 => k_is); (case a19 => k_is); (case l19 => k_is); (case c19 => k_is); (case k19 => k_is); (case a20 => k_is); (case l20 => k_is); (case c20 => k_is); (case k20 => k_is); (case a21 => k_is); (case l21 => k_is); (case c21 => k_is); (case k21 => k_is); (case a22 => k_is); (case l22 => k_is); (case c22 => k_is); (case k22 => k_is); (case a23 => k_is); (case l23 => k_is); (case c23 => k_is); (case k23 => k_is); (case a24 => k_is); (case l24 => k_is); (case c24 => k_is); (case k24 => k_is); (case a25 => k_is); (case l25 => k_is); (case c25 => k_is); (case k25 => k_is); (case a26 => k_is); (case l26 => k_is); (case c26 => k_is); (case k26 => k_is); (case a27 => k_is); (case l27 => k_is); (case c27 => k_is); (case k27 => k_is); (case a28 => k_is); (case l28 => k_is); (case c28 => k_is); (case k28 => k_is); (case a29 => k_is); (case l29 => k_is); (case c29 => k_is); (case k29 => k_is); (case a30 => k_is); (case l30 => k_is); (case c30 => k_is); (case k30 => k_is); (case a31 => k_is); (case l31 => k_is); (case c31 => k_is); (case k31 => k_is); (case a32 => k_is); (case l32 => k_is); (case c32 => k_is); (case k32 => k_is); (case a33 => k_is); (case l33 => k_is); (case c33 => k_is); (case k33 => k_is); (case a34 => k_is); (case l34 => k_is); (case c34 => k_is); (case k34 => k_is); (case a35 => k_is); (case l35 => k_is); (case c35 => k_is); (case k35 => k_is); (case a36 => k_is); (case l36 => k_is); (case c36 => k_is); (case k36 => k_is); (case a37 => k_is); (case l37 => k_is); (case c37 => k_is); (case k37 => k_is); (case a38 => k_is); (case l38 => k_is); (case c38 => k_is); (case k38 => k_is); (case a39 => k_is); (case l39 => k_is); (case c39 => k_is); (case k39 => k_is); (case a40 => k_is); (case l40 => k_is); (case c40 => k_is); (case k40 => k_is); (case a41 => k_is); (case l41 => k_is); (case c41 => k_is); (case k41 => k_is); (case a42 => k_is); (case l42 => k_is); (case c42 => k_is); (case k42 => k_is); (case a43 => k_is); (case l43 => k_is); (case c43 => k_is); (case k43 => k_is); (case a44 => k_is); (case l44 => k_is); (case c44 => k_is); (case k44 => k_is); (case a45 => k_is); (case l45 => k_is); (case c45 => k_is); (case k45 => k_is); (case a46 => k_is); (case l46 => k_is); (case c46 => k_is); (case k46 => k_is); (case a47 => k_is); (case l47 => k_is); (case c47 => k_is); (case k47 => k_is); (case a48 => k_is); (case l48 => k_is); (case c48 => k_is); (case k48 => k_is); (case a49 => k_is); (case l49 => k_is); (case c49 => k_is); (case k49 => k_is); (case a50 => k_is); (case l50 => k_is); (case c50 => k_is); (case k50 => k_is); (case a51 => k_is); (case l51 => k_is); (case c51 => k_is); (case k51 => k_is); (case a52 => k_is); (case l52 => k_is); (case c52 => k_is); (case k52 => k_is); (case a53 => k_is); (case l53 => k_is); (case c53 => k_is); (case k53 => k_is); (case a54 => k_is); (case l54 => k_is); (case c54 => k_is); (case k54 => k_is); (case a55 => k_is); (case l55 => k_is); (case c55 => k_is); (case k55 => k_is); (case a56 => k_is); (case l56 => k_is); (case c56 => k_is); (case k56 => k_is); (case a57 => k_is); (case l57 => k_is); (case c57 => k_is); (case k57 => k_is); (case a58 => k_is); (case l58 => k_is); (case c58 => k_is); (case k58 => k_is); (case a59 => k_is); (case l59 => k_is); (case c59 => k_is); (case k59 => k_is); (case a60 => k_is); (case l60 => k_is); (case c60 => k_is); (case k60 => k_is); (case a61 => k_is); (case l61 => k_is); (case c61 => k_is); (case k61 => k_is); (case a62 => k_is); (case l62 => k_is); (case c62 => k_is); (case k62 => k_is); (case a63 => k_is); (case l63 => k_is); (case c63 => k_is); (case k63 => k_is); (case a64 => k_is); (case l64 => k_is); (case c64 => k_is); (case k64 => k_is); (case q1 => k_is); (case r1 => rfl); (case q2 => k_is); (case r2 => rfl); (case z1 => k_is); (case z2 => k_is); (case z3 => k_is); (case z4 => k_is); (case z5 => k_is); (case z6 => k_is); (case z7 => k_is); (case z8 => k_is); (case z9 => k_is); (case z10 => k_is); (case z11 => k_is); (case z12 => k_is); (case z13 => k_is); (case z14 => k_is); (case z15 => k_is)
