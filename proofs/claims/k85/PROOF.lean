import PyProof.Rows.All
import Wide.All
import OpenK.AllK
import Wide.FinOn
import HandS.ForMost
import HandS.Exc
import HandS.Wide
import HandS.IsInst
import HandS.HeadHook2
import HandS.Deep
import HandS.Lambda
import HandS.TupAny
import HandS.RevRange
import HandS.CallSlots
import HandS.ExcIs
import HandS.SetFor
import HandS.CallLocal
import HandS.Style
import KE.GoesEnum
import HandS.Zip
import HandS.ExcOwn
import HandS.Defaults
import HandS.HeadEnd
import HandS.HeadWalk
import HandS.EndTab
import PyProof.ExcBaseAll.ValueError
import HandS.Head0
import HandS.Head1
import HandS.Head2
import PySem.Challenge.RW_whotowhom_k85_whole_walks_counted_and_nu
section
set_option Elab.async false
set_option linter.all false
set_option maxRecDepth 100000
namespace Ev
open PySem L2
abbrev SS := PySem.Str

/-- values: immutable things by what they hold; rf: a thing of the store -/
inductive PV where
  | non | bl (b : Bool) | int (i : Int) | str (s : SS)
  | tup (xs : List PV) | ro (xs : List PV) | rod (ks vs : List PV)
  | obj (c : SS) (fs : List PV)
  | rf (i : Nat)
  | scr (ns : List Int)
  | gl (x : SS) | ty (n : String) | clo | exo (c : SS) (fs : List PV)
  deriving Inhabited

inductive Cell where
  | lst (xs : List PV)
  | dct (ks vs : List PV)
  | ins (c : SS) (ns : List SS) (fs : List PV)

abbrev Store := List Cell
abbrev Sl := List (Option PV)

inductive Rs (α : Type) where
  | ok (a : α) (S : Store) | exc (c : SS) (fs : List PV) (S : Store) | bad

def Rs.bnd {α β : Type} : Rs α → (α → Store → Rs β) → Rs β
  | .ok a S, f => f a S
  | .exc c fs S, _ => .exc c fs S
  | .bad, _ => .bad
@[simp] theorem Rs.bnd_ok {α β : Type} (a : α) (S : Store) (f : α → Store → Rs β) : (Rs.ok a S).bnd f = f a S := rfl
@[simp] theorem Rs.bnd_exc {α β : Type} (c : SS) (fs : List PV) (S : Store) (f : α → Store → Rs β) : (Rs.exc c fs S : Rs α).bnd f = .exc c fs S := rfl
@[simp] theorem Rs.bnd_bad {α β : Type} (f : α → Store → Rs β) : (Rs.bad : Rs α).bnd f = .bad := rfl

/-! ### sameness of values, by a check -/
mutual
def PV.beq : PV → PV → Bool
  | .non, .non => true
  | .bl a, .bl b => a == b
  | .int a, .int b => decide (a = b)
  | .str a, .str b => decide (a = b)
  | .tup a, .tup b => PV.beqs a b
  | .ro a, .ro b => PV.beqs a b
  | .rod a b, .rod c d => PV.beqs a c && PV.beqs b d
  | .obj c a, .obj d b => decide (c = d) && PV.beqs a b
  | .rf a, .rf b => decide (a = b)
  | .scr a, .scr b => decide (a = b)
  | .gl a, .gl b => decide (a = b)
  | .ty a, .ty b => decide (a = b)
  | .clo, .clo => true
  | .exo c a, .exo d b => decide (c = d) && PV.beqs a b
  | _, _ => false
def PV.beqs : List PV → List PV → Bool
  | [], [] => true
  | x :: xs, y :: ys => PV.beq x y && PV.beqs xs ys
  | _, _ => false
end
mutual
theorem PV.beq_self : ∀ x : PV, x.beq x = true
  | .non => rfl
  | .bl a => by simp [PV.beq]
  | .int a => by simp [PV.beq]
  | .str a => by simp [PV.beq]
  | .tup a => by simp [PV.beq, PV.beqs_self a]
  | .ro a => by simp [PV.beq, PV.beqs_self a]
  | .rod a b => by simp [PV.beq, PV.beqs_self a, PV.beqs_self b]
  | .obj c a => by simp [PV.beq, PV.beqs_self a]
  | .rf a => by simp [PV.beq]
  | .scr a => by simp [PV.beq]
  | .gl a => by simp [PV.beq]
  | .ty a => by simp [PV.beq]
  | .clo => rfl
  | .exo c a => by simp [PV.beq, PV.beqs_self a]
theorem PV.beqs_self : ∀ xs : List PV, PV.beqs xs xs = true
  | [] => rfl
  | x :: xs => by simp [PV.beqs, PV.beq_self x, PV.beqs_self xs]
end
mutual
theorem PV.beq_eq : ∀ (x y : PV), x.beq y = true → x = y
  | .non, y, h => by cases y <;> simp [PV.beq] at h <;> rfl
  | .bl a, y, h => by cases y <;> simp [PV.beq] at h; rw [h]
  | .int a, y, h => by cases y <;> simp [PV.beq] at h; rw [h]
  | .str a, y, h => by cases y <;> simp [PV.beq] at h; rw [h]
  | .tup a, y, h => by
    cases y with
    | tup b => simp [PV.beq] at h; rw [PV.beqs_eq a b h]
    | _ => simp [PV.beq] at h
  | .ro a, y, h => by
    cases y with
    | ro b => simp [PV.beq] at h; rw [PV.beqs_eq a b h]
    | _ => simp [PV.beq] at h
  | .rod a b, y, h => by
    cases y with
    | rod c d => simp [PV.beq] at h; rw [PV.beqs_eq a c h.1, PV.beqs_eq b d h.2]
    | _ => simp [PV.beq] at h
  | .obj c a, y, h => by
    cases y with
    | obj d b => simp [PV.beq] at h; rw [h.1, PV.beqs_eq a b h.2]
    | _ => simp [PV.beq] at h
  | .rf a, y, h => by cases y <;> simp [PV.beq] at h; rw [h]
  | .scr a, y, h => by cases y <;> simp [PV.beq] at h; rw [h]
  | .gl a, y, h => by cases y <;> simp [PV.beq] at h; rw [h]
  | .ty a, y, h => by cases y <;> simp [PV.beq] at h; rw [h]
  | .clo, y, h => by cases y <;> simp [PV.beq] at h; rfl
  | .exo c a, y, h => by
    cases y with
    | exo d b => simp [PV.beq] at h; rw [h.1, PV.beqs_eq a b h.2]
    | _ => simp [PV.beq] at h
theorem PV.beqs_eq : ∀ (xs ys : List PV), PV.beqs xs ys = true → xs = ys
  | [], ys, h => by cases ys <;> simp [PV.beqs] at h; rfl
  | x :: xs, ys, h => by
    cases ys with
    | nil => simp [PV.beqs] at h
    | cons y ys => simp [PV.beqs] at h; rw [PV.beq_eq x y h.1, PV.beqs_eq xs ys h.2]
end
def Cell.beq : Cell → Cell → Bool
  | .lst a, .lst b => PV.beqs a b
  | .dct a b, .dct c d => PV.beqs a c && PV.beqs b d
  | .ins c n a, .ins d m b => decide (c = d) && (decide (n = m) && PV.beqs a b)
  | _, _ => false
theorem Cell.beq_self (c : Cell) : c.beq c = true := by cases c <;> simp [Cell.beq, PV.beqs_self]
theorem Cell.beq_eq (c d : Cell) (h : c.beq d = true) : c = d := by
  cases c <;> cases d <;> simp [Cell.beq] at h
  · rw [PV.beqs_eq _ _ h]
  · rw [PV.beqs_eq _ _ h.1, PV.beqs_eq _ _ h.2]
  · rw [h.1, h.2.1, PV.beqs_eq _ _ h.2.2]
def cellIs (S : Store) (i : Nat) (c : Cell) : Bool := match S[i]? with
  | some d => d.beq c
  | none => false
theorem cellIs_iff (S : Store) (i : Nat) (c : Cell) : cellIs S i c = true ↔ S[i]? = some c := by
  unfold cellIs
  cases e : S[i]? with
  | none => simp
  | some d =>
    constructor
    · intro h; rw [Cell.beq_eq d c h]
    · intro h; cases h; exact Cell.beq_self _

/-! ### no reference from b on; what is frozen -/
mutual
def PV.blw (b : Nat) : PV → Bool
  | .tup xs => PV.blws b xs
  | .ro xs => PV.blws b xs
  | .rod ks vs => PV.blws b ks && PV.blws b vs
  | .obj _ fs => PV.blws b fs
  | .rf i => decide (i < b)
  | .exo _ _ => false
  | .clo => false
  | _ => true
def PV.blws (b : Nat) : List PV → Bool
  | [] => true
  | x :: xs => PV.blw b x && PV.blws b xs
end
def Cell.blw (b : Nat) : Cell → Bool
  | .lst xs => PV.blws b xs
  | .dct ks vs => PV.blws b ks && PV.blws b vs
  | .ins _ _ fs => PV.blws b fs
/-! no exception in it -/
mutual
def PV.nx : PV → Bool
  | .tup xs => PV.nxs xs
  | .ro xs => PV.nxs xs
  | .rod ks vs => PV.nxs ks && PV.nxs vs
  | .obj _ fs => PV.nxs fs
  | .exo _ _ => false
  | _ => true
def PV.nxs : List PV → Bool
  | [] => true
  | x :: xs => PV.nx x && PV.nxs xs
end
def Cell.nx : Cell → Bool
  | .lst xs => PV.nxs xs
  | .dct ks vs => PV.nxs ks && PV.nxs vs
  | .ins _ _ fs => PV.nxs fs
/-- no thing of the store in it -/
abbrev PV.pure (v : PV) : Bool := v.blw 0

/-- lists of the store from b on are taken by value -/
def frz : Nat → Store → Nat → PV → Option PV
  | 0, _, b, v => if v.blw b then some v else none
  | n + 1, S, b, v => if v.blw b then some v else match v with
    | .rf i => match S[i]? with
      | some (.lst xs) => (xs.mapM (frz n S b)).map .ro
      | _ => none
    | .tup xs => (xs.mapM (frz n S b)).map .tup
    | .ro xs => (xs.mapM (frz n S b)).map .ro
    | _ => none

/-- the old things are as they were, or hold nothing new -/
def oldOk : Nat → Store → Store → Bool
  | _, [], _ => true
  | b, c :: S, c' :: S' => (c'.beq c || c'.blw b) && oldOk b S S'
  | _, _ :: _, [] => false

/-! ### a statement's results -/
inductive Rt where
  | nx (σ : Sl) (S : Store) | rt (v : PV) (S : Store) | bk (σ : Sl) (S : Store) | ct (σ : Sl) (S : Store)
  | exc (c : SS) (fs : List PV) (σ : Sl) (S : Store) | bad

inductive TyQ where | ty (n : String) | own (c : SS)
  deriving DecidableEq
structure Cfg where
  call : (Store → Rs PV) → SS → List PV → Store → Rs PV
  lam : Store → Rs PV
  fuel : Nat
  flds : SS → Option (List SS)
  sub : SS → TyQ → Option Bool
  kn : SS → Bool

abbrev Den := Cfg → Sl → Store → Rs PV
abbrev DenT := Cfg → Sl → Store → Rs Bool
abbrev DenL := Cfg → Sl → Store → Rs (List PV)
abbrev DenS := Cfg → Sl → Store → Rt

/-! ### operations by values -/
def lstOf (S : Store) : PV → Option (List PV)
  | .ro xs => some xs
  | .rf i => match S[i]? with
    | some (.lst xs) => some xs
    | _ => none
  | _ => none
def seqOf (S : Store) : PV → Option (List PV)
  | .tup xs => some xs
  | v => lstOf S v

mutual
def toD (S : Store) : PV → Option PyData
  | .non => some .none
  | .bl b => some (.bool b)
  | .int i => some (.int i)
  | .str s => some (.str s)
  | .tup xs => (toDs S xs).map .tuple
  | .ro xs => (toDs S xs).map .list
  | .rf i => none
  | _ => none
def toDs (S : Store) : List PV → Option (List PyData)
  | [] => some []
  | x :: xs => match toD S x, toDs S xs with
    | some d, some ds => some (d :: ds)
    | _, _ => none
end
/-- a list of the store one deep, too -/
def toD1 (S : Store) : PV → Option PyData
  | .rf i => match S[i]? with
    | some (.lst xs) => (toDs S xs).map .list
    | _ => none
  | v => toD S v

def flat : PV → Bool
  | .non => true
  | .bl _ => true
  | .int _ => true
  | .str _ => true
  | _ => false
def flatEq : PV → PV → Bool
  | .non, .non => true
  | .bl a, .bl b => a == b
  | .bl a, .int b => (if a then 1 else 0) == b
  | .int a, .bl b => a == (if b then 1 else 0)
  | .int a, .int b => a == b
  | .str a, .str b => a == b
  | _, _ => false

def mulOk (i j : Int) : Bool := decide (i.natAbs.log2 + j.natAbs.log2 < 1000000) || (decide (i.natAbs.log2 < 63) || decide (j.natAbs.log2 < 63))
def guardR {α : Type} (c : Bool) (r : Rs α) : Rs α := if c then r else .bad
@[simp] theorem guardR_true {α : Type} (r : Rs α) : guardR true r = r := rfl

def mkLst (mt : Bool) (xs : List PV) (S : Store) : Rs PV := if mt then .ok (.rf S.length) (S ++ [.lst xs]) else .ok (.ro xs) S
def addV (x y : PV) (S : Store) : Rs PV := match x, y with
  | .int i, .int j => .ok (.int (i + j)) S
  | .str i, .str j => guardR (decide (i.length + j.length ≤ sizeLine)) (.ok (.str (i ++ j)) S)
  | .tup xs, .tup ys => guardR (decide (xs.length + ys.length ≤ sizeLine)) (.ok (.tup (xs ++ ys)) S)
  | x, y => match lstOf S x, lstOf S y with
    | some xs, some ys => guardR (decide (xs.length + ys.length ≤ sizeLine)) (.ok (.ro (xs ++ ys)) S)
    | _, _ => .bad
def subV (x y : PV) (S : Store) : Rs PV := match x, y with
  | .int i, .int j => .ok (.int (i - j)) S
  | _, _ => .bad
def mulV (x y : PV) (S : Store) : Rs PV := match x, y with
  | .int i, .int j => guardR (mulOk i j) (.ok (.int (i * j)) S)
  | x, .int k => match lstOf S x with
    | some xs => guardR (decide (0 ≤ k ∧ k.toNat ≤ sizeLine ∧ xs.length * k.toNat ≤ sizeLine)) (.ok (.ro (List.replicate k.toNat xs).flatten) S)
    | none => .bad
  | _, _ => .bad
def fdivV (x y : PV) (S : Store) : Rs PV := match x, y with
  | .int i, .int j => guardR (decide (0 < j ∧ j.natAbs.log2 < 9000)) (.ok (.int (i / j)) S)
  | _, _ => .bad
def modV (x y : PV) (S : Store) : Rs PV := match x, y with
  | .int i, .int j => guardR (decide (0 < j)) (.ok (.int (i % j)) S)
  | _, _ => .bad
def powV (x y : PV) (S : Store) : Rs PV := match x, y with
  | .int i, .int j => guardR (decide (0 ≤ j ∧ j ≤ 1000000 ∧ i.natAbs < 2 ^ 64)) (.ok (.int (i ^ j.toNat)) S)
  | _, _ => .bad
def binV : PySem.Operator → PV → PV → Store → Rs PV
  | .Add => addV
  | .Sub => subV
  | .Mult => mulV
  | .FloorDiv => fdivV
  | .Mod => modV
  | .Pow => powV
  | _ => fun _ _ _ => .bad
/-- list operations whose result is to be changed -/
def binVM : PySem.Operator → PV → PV → Store → Rs PV
  | .Mult => fun x y S => match lstOf S x, y with
    | some xs, .int k => guardR (decide (0 ≤ k ∧ k.toNat ≤ sizeLine ∧ xs.length * k.toNat ≤ sizeLine)) (mkLst true (List.replicate k.toNat xs).flatten S)
    | _, _ => .bad
  | .Add => fun x y S => match lstOf S x, lstOf S y with
    | some xs, some ys => guardR (decide (xs.length + ys.length ≤ sizeLine)) (mkLst true (xs ++ ys) S)
    | _, _ => .bad
  | _ => fun _ _ _ => .bad
def unV : PySem.UnaryOp → PV → Store → Rs PV
  | .USub, .int i, S => .ok (.int (-i)) S
  | _, _, _ => .bad

def eqV (C : Cfg) (x y : PV) (S : Store) : Rs Bool := match toD1 S x, toD1 S y with
  | some d, some e => guardR (SeqAt.shaped d && SeqAt.shaped e) (.ok (PyData.eqv d e) S)
  | _, _ => .bad
def inV (x y : PV) (S : Store) : Rs Bool := match seqOf S y with
  | some ys => guardR (flat x && ys.all flat) (.ok (ys.any fun y => flatEq y x) S)
  | none => .bad
def cmpI (op : PySem.CmpOp) (i j : Int) : Option Bool := match op with
  | .Lt => some (decide (i < j))
  | .LtE => some (decide (i ≤ j))
  | .Gt => some (decide (j < i))
  | .GtE => some (decide (j ≤ i))
  | _ => none
def ordV (op : PySem.CmpOp) (x y : PV) (S : Store) : Rs Bool := match x, y with
  | .int i, .int j => match cmpI op i j with
    | some b => .ok b S
    | none => .bad
  | _, _ => .bad
def isNone : PV → Bool
  | .non => true
  | _ => false
def isV (x y : PV) (S : Store) : Rs Bool := match y with
  | .non => .ok (isNone x) S
  | _ => .bad
def cmpV (C : Cfg) : PySem.CmpOp → PV → PV → Store → Rs Bool
  | .Eq, x, y, S => eqV C x y S
  | .NotEq, x, y, S => (eqV C x y S).bnd fun b S => .ok (!b) S
  | .Is, x, y, S => isV x y S
  | .IsNot, x, y, S => (isV x y S).bnd fun b S => .ok (!b) S
  | .In, x, y, S => inV x y S
  | .NotIn, x, y, S => (inV x y S).bnd fun b S => .ok (!b) S
  | op, x, y, S => ordV op x y S

def truV (S : Store) : PV → Option Bool
  | .bl b => some b
  | .int i => some (i != 0)
  | .non => some false
  | .tup xs => some (!xs.isEmpty)
  | .ro xs => some (!xs.isEmpty)
  | .rf i => match S[i]? with
    | some (.lst xs) => some (!xs.isEmpty)
    | _ => none
  | _ => none

def ixV (x y : PV) (S : Store) : Rs PV := match y with
  | .int i => match seqOf S x with
    | some xs => match atI xs i with
      | some v => .ok v S
      | none => .bad
    | none => .bad
  | _ => .bad
def cutP {α : Type} (xs : List α) (lo hi : Option Int) : List α := (xs.drop (HT.sIx xs.length 0 lo)).take (HT.sIx xs.length xs.length hi - HT.sIx xs.length 0 lo)
def slV (x : PV) (lo hi : Option Int) (S : Store) : Rs PV := match x with
  | .tup xs => .ok (.tup (cutP xs lo hi)) S
  | .scr ns => .ok (.ro (cutP (ns.map .int) lo hi)) S
  | x => match lstOf S x with
    | some xs => .ok (.ro (cutP xs lo hi)) S
    | none => .bad
def fldV (C : Cfg) (f : SS) (x : PV) (S : Store) : Rs PV := match x with
  | .obj c fs => match C.flds c with
    | some ns => match (ns.zip fs).lookup f with
      | some v => .ok v S
      | none => .bad
    | none => .bad
  | .rf i => match S[i]? with
    | some (.ins c ns fs) => match C.flds c with
      | some all => guardR (all.contains f) (match (ns.zip fs).lookup f with
        | some v => .ok v S
        | none => .bad)
      | none => .bad
    | _ => .bad
  | _ => .bad

/-! ### expressions -/
def dCst (v : PV) : Den := fun _ _ S => .ok v S
def dVar (i : Nat) : Den := fun _ σ S => match σ[i]? with
  | some (some v) => .ok v S
  | _ => .bad
def dBin (op : PySem.Operator) (a b : Den) : Den := fun C σ S => (a C σ S).bnd fun x S => (b C σ S).bnd fun y S => binV op x y S
def dBinM (op : PySem.Operator) (a b : Den) : Den := fun C σ S => (a C σ S).bnd fun x S => (b C σ S).bnd fun y S => binVM op x y S
def dUn (op : PySem.UnaryOp) (a : Den) : Den := fun C σ S => (a C σ S).bnd fun x S => unV op x S
def tCmp (op : PySem.CmpOp) (a b : Den) : DenT := fun C σ S => (a C σ S).bnd fun x S => (b C σ S).bnd fun y S => cmpV C op x y S
def tChn (op op' : PySem.CmpOp) (a b c : Den) : DenT := fun C σ S => (a C σ S).bnd fun x S => (b C σ S).bnd fun y S => (cmpV C op x y S).bnd fun k S =>
  if k then (c C σ S).bnd fun z S => cmpV C op' y z S else .ok false S
def tAnd (a b : DenT) : DenT := fun C σ S => (a C σ S).bnd fun k S => if k then b C σ S else .ok false S
def tOr (a b : DenT) : DenT := fun C σ S => (a C σ S).bnd fun k S => if k then .ok true S else b C σ S
def tNot (a : DenT) : DenT := fun C σ S => (a C σ S).bnd fun k S => .ok (!k) S
/-- a value's truth -/
def tVal (a : Den) : DenT := fun C σ S => (a C σ S).bnd fun x S => match truV S x with
  | some k => .ok k S
  | none => .bad
/-- a test as a value -/
def dTst (a : DenT) : Den := fun C σ S => (a C σ S).bnd fun k S => .ok (.bl k) S
/-- and, or as values: all but the last True or False -/
def asB : PV → Store → Rs Bool
  | .bl b, S => .ok b S
  | _, _ => .bad
def dAnd (a b : Den) : Den := fun C σ S => (a C σ S).bnd fun x S => (asB x S).bnd fun k S => if k then b C σ S else .ok (.bl false) S
def dOr (a b : Den) : Den := fun C σ S => (a C σ S).bnd fun x S => (asB x S).bnd fun k S => if k then .ok (.bl true) S else b C σ S
def dNot (a : Den) : Den := fun C σ S => (a C σ S).bnd fun x S => (asB x S).bnd fun k S => .ok (.bl (!k)) S
def dIte (t : DenT) (a b : Den) : Den := fun C σ S => (t C σ S).bnd fun k S => if k then a C σ S else b C σ S
def lNil : DenL := fun _ _ S => .ok [] S
def lCons (a : Den) (l : DenL) : DenL := fun C σ S => (a C σ S).bnd fun x S => (l C σ S).bnd fun xs S => .ok (x :: xs) S
def dTup (l : DenL) : Den := fun C σ S => (l C σ S).bnd fun xs S => guardR (decide (xs.length ≤ sizeLine)) (.ok (.tup xs) S)
def dLst (mt : Bool) (l : DenL) : Den := fun C σ S => (l C σ S).bnd fun xs S => guardR (decide (xs.length ≤ sizeLine)) (mkLst mt xs S)
def dIx (a b : Den) : Den := fun C σ S => (a C σ S).bnd fun x S => (b C σ S).bnd fun y S => ixV x y S
def asPart : PV → Store → Rs (Option Int)
  | .int i, S => .ok (some i) S
  | _, _ => .bad
abbrev DenP := Cfg → Sl → Store → Rs (Option Int)
def pNo : DenP := fun _ _ S => .ok none S
def pSome (a : Den) : DenP := fun C σ S => (a C σ S).bnd fun x S => asPart x S
def dSl (a : Den) (lo hi : DenP) : Den := fun C σ S => (a C σ S).bnd fun x S => (lo C σ S).bnd fun l S => (hi C σ S).bnd fun h S => slV x l h S
def dFld (f : SS) (a : Den) : Den := fun C σ S => (a C σ S).bnd fun x S => fldV C f x S
/-- a def of the top -/
def dCall (f : SS) (l : DenL) : Den := fun C σ S => (l C σ S).bnd fun xs S => C.call C.lam f xs S

/-- a call of a def that a local holds -/
def dCallL (i : Nat) (l : DenL) : Den := fun C σ S => match σ[i]? with
  | some (some (.gl f)) => guardR (C.kn f) ((l C σ S).bnd fun xs S => C.call C.lam f xs S)
  | _ => .bad
/-- a def handed a lambda -/
def dLam (f : SS) (body : Den) : Den := fun C σ S => C.call (fun S => body C σ S) f [.clo] S
/-- the lambda, called -/
def dAct (i : Nat) : Den := fun C σ S => match σ[i]? with
  | some (some .clo) => guardR (S.all (Cell.blw S.length)) (C.lam S)
  | _ => .bad
/-- an instance is made -/
def mkEnd (C : Cfg) (c : SS) (mt : Bool) (S S' : Store) : Rs PV := if mt then .ok (.rf S.length) S' else match S'[S.length]? with
  | some (.ins d ns fs) => guardR (decide (d = c) && (decide (C.flds c = some ns) && (PV.blws S.length fs && oldOk S.length S S'))) (.ok (.obj c fs) (S'.take S.length))
  | _ => .bad
def mkV (C : Cfg) (c init : SS) (mt : Bool) (xs : List PV) (S : Store) : Rs PV := match C.call C.lam init (.rf S.length :: xs) (S ++ [.ins c [] []]) with
  | .ok v S' => guardR (isNone v) (mkEnd C c mt S S')
  | .exc d fs S' => guardR (oldOk S.length S S' && fs.isEmpty) (.exc d [] (S'.take S.length))
  | .bad => .bad
def dMk (c init : SS) (mt : Bool) (l : DenL) : Den := fun C σ S => (l C σ S).bnd fun xs S => mkV C c init mt xs S
def dBad : Den := fun _ _ _ => .bad
def tBad : DenT := fun _ _ _ => .bad

/-! ### isinstance -/
inductive TyR where | bt (n : String) | ow (c : SS)
def tyOf (C : Cfg) (S : Store) : PV → Option TyR
  | .non => some (.bt "NoneType")
  | .bl _ => some (.bt "bool")
  | .int _ => some (.bt "int")
  | .str _ => some (.bt "str")
  | .tup _ => some (.bt "tuple")
  | .ro _ => some (.bt "list")
  | .obj c _ => some (.ow c)
  | .rf i => match S[i]? with
    | some (.lst _) => some (.bt "list")
    | some (.ins c _ _) => if (C.flds c).isSome = true then some (.ow c) else none
    | _ => none
  | .exo c _ => some (.ow c)
  | _ => none
def isSelf (C : Cfg) (d : SS) : Bool := match C.sub d (.own d) with
  | some true => true
  | _ => false
def isiT (C : Cfg) (t : TyR) (q : TyQ) : Option Bool := match t, q with
  | .bt a, .ty n => kitB a n
  | .bt _, .own d => if isSelf C d then some false else none
  | .ow c, q => C.sub c q
def isiAny (C : Cfg) (t : TyR) : List TyQ → Option Bool
  | [] => some false
  | q :: qs => match isiT C t q, isiAny C t qs with
    | some a, some b => some (a || b)
    | _, _ => none
def isiV (C : Cfg) (qs : List TyQ) (x : PV) (S : Store) : Rs Bool := match tyOf C S x with
  | some t => match isiAny C t qs with
    | some b => .ok b S
    | none => .bad
  | none => .bad
def qOne : PV → Option TyQ
  | .ty n => some (.ty n)
  | .gl c => some (.own c)
  | _ => none
def qAll : List PV → Option (List TyQ)
  | [] => some []
  | x :: xs => match qOne x, qAll xs with
    | some q, some qs => some (q :: qs)
    | _, _ => none
def isExo : PV → Bool
  | .exo _ _ => true
  | _ => false
def isiX (C : Cfg) (xs : List PV) (S : Store) : Rs PV := match xs with
  | [x, .tup ts] => match qAll ts with
    | some qs => guardR (!isExo x) ((isiV C qs x S).bnd fun b S => .ok (.bl b) S)
    | none => .bad
  | [x, t] => match qOne t with
    | some q => (isiV C [q] x S).bnd fun b S => .ok (.bl b) S
    | none => .bad
  | _ => .bad
def dIsi (l : DenL) : Den := fun C σ S => (l C σ S).bnd fun xs S => isiX C xs S

/-! ### built-ins -/
def blsOf : List PV → Option (List Bool)
  | [] => some []
  | .bl b :: xs => (blsOf xs).map (b :: ·)
  | _ => none
def intsOf : List PV → Option (List Int)
  | [] => some []
  | .int b :: xs => (intsOf xs).map (b :: ·)
  | _ => none
inductive BI where
  | len | all | any | sum | abs | int | tuple | list (mt : Bool) | min | max
  deriving DecidableEq
def lenV (x : PV) (S : Store) : Rs PV := match x with
  | .str s => guardR (decide (s.length ≤ sizeLine)) (.ok (.int s.length) S)
  | x => match seqOf S x with
    | some xs => .ok (.int xs.length) S
    | none => .bad
def minI (i j : Int) : Int := if j < i then j else i
def maxI (i j : Int) : Int := if j > i then j else i
def un1 (f : PV → Store → Rs PV) (xs : List PV) (S : Store) : Rs PV := match xs with
  | [x] => f x S
  | _ => .bad
def allV (x : PV) (S : Store) : Rs PV := match (lstOf S x).bind blsOf with
  | some bs => .ok (.bl (bs.all id)) S
  | none => .bad
def anyV (x : PV) (S : Store) : Rs PV := match (lstOf S x).bind blsOf with
  | some bs => .ok (.bl (bs.any id)) S
  | none => .bad
def sumV (x : PV) (S : Store) : Rs PV := match (lstOf S x).bind intsOf with
  | some ns => .ok (.int ns.sum) S
  | none => .bad
def absV (x : PV) (S : Store) : Rs PV := match x with
  | .int i => .ok (.int (if i < 0 then -i else i)) S
  | _ => .bad
def intV (x : PV) (S : Store) : Rs PV := match x with
  | .int i => .ok (.int i) S
  | .bl k => .ok (.int (if k then 1 else 0)) S
  | _ => .bad
def tupV (x : PV) (S : Store) : Rs PV := match x with
  | .tup xs => .ok (.tup xs) S
  | x => match lstOf S x with
    | some xs => .ok (.tup xs) S
    | none => .bad
def lisV (mt : Bool) (x : PV) (S : Store) : Rs PV := match seqOf S x with
  | some xs => mkLst mt xs S
  | none => .bad
def mmV (f : Int → Int → Int) (xs : List PV) (S : Store) : Rs PV := match intsOf xs with
  | some [i, j] => .ok (.int (f i j)) S
  | _ => .bad
def biV : BI → List PV → Store → Rs PV
  | .len => un1 lenV
  | .all => un1 allV
  | .any => un1 anyV
  | .sum => un1 sumV
  | .abs => un1 absV
  | .int => un1 intV
  | .tuple => un1 tupV
  | .list mt => un1 (lisV mt)
  | .min => mmV minI
  | .max => mmV maxI
def dBi (b : BI) (l : DenL) : Den := fun C σ S => (l C σ S).bnd fun xs S => biV b xs S

inductive MT where
  | append | count | index
  deriving DecidableEq
def appV (o x : PV) (S : Store) : Rs PV := match o with
  | .rf i => match S[i]? with
    | some (.lst ys) => guardR (decide (ys.length < sizeLine)) (.ok .non (S.set i (.lst (ys ++ [x]))))
    | _ => .bad
  | _ => .bad
def cntV (o x : PV) (S : Store) : Rs PV := match (lstOf S o).bind (toDs S), toD S x with
  | some ds, some d => guardR (SeqAt.shaped (.list ds) && SeqAt.shaped d) (.ok (.int (ds.countP fun z => PyData.eqv z d : Nat)) S)
  | _, _ => .bad
def idxV (o x : PV) (S : Store) : Rs PV := match (lstOf S o).bind (toDs S), toD S x with
  | some ds, some d => guardR (SeqAt.shaped (.list ds) && SeqAt.shaped d) (match ds.findIdx? fun z => PyData.eqv z d with
    | some j => .ok (.int (j : Nat)) S
    | none => .bad)
  | _, _ => .bad
def mtV : MT → PV → List PV → Store → Rs PV
  | .append => fun o => un1 (appV o)
  | .count => fun o => un1 (cntV o)
  | .index => fun o => un1 (idxV o)
def dMt (b : MT) (o : Den) (l : DenL) : Den := fun C σ S => (o C σ S).bnd fun x S => guardR (lstOf S x).isSome ((l C σ S).bnd fun xs S => mtV b x xs S)

/-! ### targets -/
inductive Tg where | nm (i : Nat) | tp (ts : List Tg)
mutual
def Tg.put : Tg → PV → Sl → Option Sl
  | .nm i, v, σ => some (σ.set i (some v))
  | .tp ts, .tup xs, σ => Tg.puts ts xs σ
  | .tp _, _, _ => none
def Tg.puts : List Tg → List PV → Sl → Option Sl
  | [], [], σ => some σ
  | t :: ts, x :: xs, σ => (Tg.put t x σ).bind (Tg.puts ts xs)
  | _, _, _ => none
end

/-! ### what is walked -/
structure ItV where
  items : List PV
  src : List (Nat × Cell)
def ItV.still (its : ItV) (S : Store) : Bool := its.src.all fun p => cellIs S p.1 p.2
abbrev DenI := Cfg → Sl → Store → Rs ItV
def itOf (S : Store) : PV → Option ItV
  | .tup xs => some ⟨xs, []⟩
  | .ro xs => some ⟨xs, []⟩
  | .rf i => match S[i]? with
    | some (.lst xs) => some ⟨xs, [(i, .lst xs)]⟩
    | _ => none
  | _ => none
def isT : PV → Bool
  | .tup _ => true
  | _ => false
def iAny (a : Den) : DenI := fun C σ S => (a C σ S).bnd fun x S => match itOf S x with
  | some it => .ok it S
  | none => .bad
def rngL (lo : Int) (n : Nat) : List PV := (List.range n).map fun (k : Nat) => PV.int (lo + ((k : Nat) : Int))
def small62 (i : Int) : Bool := decide (i.natAbs.log2 < 61)
def rng1V (xs : List PV) (S : Store) : Rs ItV := match intsOf xs with
  | some [j] => guardR (small62 j) (.ok ⟨rngL 0 j.toNat, []⟩ S)
  | _ => .bad
def rng2V (xs : List PV) (S : Store) : Rs ItV := match intsOf xs with
  | some [i, j] => guardR (small62 i && small62 j) (.ok ⟨rngL i (j - i).toNat, []⟩ S)
  | _ => .bad
def iRng1 (l : DenL) : DenI := fun C σ S => (l C σ S).bnd fun xs S => rng1V xs S
def iRng2 (l : DenL) : DenI := fun C σ S => (l C σ S).bnd fun xs S => rng2V xs S
def enumL : Nat → List PV → List PV
  | _, [] => []
  | k, x :: xs => .tup [.int (k : Int), x] :: enumL (k + 1) xs
def enumV (xs : List PV) (S : Store) : Rs ItV := match xs with
  | [x] => match itOf S x with
    | some it => .ok ⟨enumL 0 it.items, it.src⟩ S
    | none => .bad
  | _ => .bad
def iEnum (l : DenL) : DenI := fun C σ S => (l C σ S).bnd fun xs S => enumV xs S
def zipL : List PV → List PV → List PV
  | x :: xs, y :: ys => .tup [x, y] :: zipL xs ys
  | _, _ => []
def zipV (xs : List PV) (S : Store) : Rs ItV := match xs with
  | [x, y] => match itOf S x, itOf S y with
    | some it, some it' => guardR (isT x == isT y) (.ok ⟨zipL it.items it'.items, it.src ++ it'.src⟩ S)
    | _, _ => .bad
  | _ => .bad
def iZip (l : DenL) : DenI := fun C σ S => (l C σ S).bnd fun xs S => zipV xs S
def iRev1 (a : Den) : DenI := fun C σ S => (a C σ S).bnd fun x S => match x with
  | .int j => guardR (small62 j) (.ok ⟨(rngL 0 j.toNat).reverse, []⟩ S)
  | _ => .bad
def iRev2 (a b : Den) : DenI := fun C σ S => (a C σ S).bnd fun x S => (b C σ S).bnd fun y S => match x, y with
  | .int i, .int j => guardR (small62 i && small62 j) (.ok ⟨(rngL i (j - i).toNat).reverse, []⟩ S)
  | _, _ => .bad
/-! ### comprehensions -/
/-- within a comprehension nothing may be raised -/
def noX {α : Type} : Rs α → Rs α
  | .exc _ _ _ => .bad
  | r => r
@[simp] theorem noX_ok {α : Type} (a : α) (S : Store) : noX (.ok a S) = .ok a S := rfl
@[simp] theorem noX_bad {α : Type} : noX (.bad : Rs α) = .bad := rfl
def wipeP (σ : Sl) : List Nat → Sl
  | [] => σ
  | v :: vs => (wipeP σ vs).set v none
def compGo (tg : Tg) (cond : DenT) (elt : Den) (C : Cfg) (σ : Sl) (it : ItV) : List PV → Store → Rs (List PV)
  | [], S => guardR (it.still S) (.ok [] S)
  | x :: xs, S => guardR (it.still S) (match tg.put x σ with
    | some σ' => (noX (cond C σ' S)).bnd fun k S => if k then (noX (elt C σ' S)).bnd fun y S => (compGo tg cond elt C σ it xs S).bnd fun ys S => .ok (y :: ys) S else compGo tg cond elt C σ it xs S
    | none => .bad)
def tYes : DenT := fun _ _ S => .ok true S
def dComp (mt : Bool) (own : List Nat) (tg : Tg) (it : DenI) (cond : DenT) (elt : Den) : Den := fun C σ S => (it C σ S).bnd fun it S => guardR (decide (it.items.length ≤ sizeLine)) ((compGo tg cond elt C (wipeP σ own) it it.items S).bnd fun xs S => mkLst mt xs S)

/-! ### statements -/
def Rt.bnd (r : Rt) (f : Sl → Store → Rt) : Rt := match r with
  | .nx σ S => f σ S
  | r => r
/-- an expression within a statement -/
def inS {α : Type} (r : Rs α) (σ : Sl) (f : α → Store → Rt) : Rt := match r with
  | .ok a S => f a S
  | .exc c fs S => .exc c fs σ S
  | .bad => .bad
@[simp] theorem inS_ok {α : Type} (a : α) (S : Store) (σ : Sl) (f : α → Store → Rt) : inS (.ok a S) σ f = f a S := rfl
@[simp] theorem inS_exc {α : Type} (c : SS) (fs : List PV) (S : Store) (σ : Sl) (f : α → Store → Rt) : inS (.exc c fs S : Rs α) σ f = .exc c fs σ S := rfl
@[simp] theorem inS_bad {α : Type} (σ : Sl) (f : α → Store → Rt) : inS (.bad : Rs α) σ f = .bad := rfl
@[simp] theorem Rt.bnd_nx (σ : Sl) (S : Store) (f : Sl → Store → Rt) : (Rt.nx σ S).bnd f = f σ S := rfl
@[simp] theorem Rt.bnd_rt (v : PV) (S : Store) (f : Sl → Store → Rt) : (Rt.rt v S).bnd f = .rt v S := rfl
@[simp] theorem Rt.bnd_bk (σ : Sl) (S : Store) (f : Sl → Store → Rt) : (Rt.bk σ S).bnd f = .bk σ S := rfl
@[simp] theorem Rt.bnd_ct (σ : Sl) (S : Store) (f : Sl → Store → Rt) : (Rt.ct σ S).bnd f = .ct σ S := rfl
@[simp] theorem Rt.bnd_exc (c : SS) (fs : List PV) (σ : Sl) (S : Store) (f : Sl → Store → Rt) : (Rt.exc c fs σ S).bnd f = .exc c fs σ S := rfl
@[simp] theorem Rt.bnd_bad (f : Sl → Store → Rt) : Rt.bad.bnd f = .bad := rfl

def sNil : DenS := fun _ σ S => .nx σ S
def sSeq (a b : DenS) : DenS := fun C σ S => (a C σ S).bnd fun σ S => b C σ S
def sSet (tg : Tg) (e : Den) : DenS := fun C σ S => inS (e C σ S) σ fun v S => match tg.put v σ with
  | some σ' => .nx σ' S
  | none => .bad
def setMany : List Nat → List PV → Sl → Option Sl
  | [], [], σ => some σ
  | i :: is, v :: vs, σ => setMany is vs (σ.set i (some v))
  | _, _, _ => none
def sPar (is : List Nat) (l : DenL) : DenS := fun C σ S => inS (l C σ S) σ fun vs S => match setMany is vs σ with
  | some σ' => .nx σ' S
  | none => .bad
def putV (o i v : PV) (S : Store) : Option Store := match o, i with
  | .rf r, .int k => match S[r]? with
    | some (.lst xs) => match ixN xs.length k with
      | some j => some (S.set r (.lst (xs.set j v)))
      | none => none
    | _ => none
  | _, _ => none
def sPut (o i e : Den) : DenS := fun C σ S => inS (e C σ S) σ fun v S => inS (o C σ S) σ fun ov S => inS (i C σ S) σ fun iv S => match putV ov iv v S with
  | some S' => .nx σ S'
  | none => .bad
def putFd (f : SS) (v : PV) : List SS → List PV → List SS × List PV
  | n :: ns, x :: xs => if n = f then (n :: ns, v :: xs) else ((n :: (putFd f v ns xs).1), (x :: (putFd f v ns xs).2))
  | ns, xs => (ns ++ [f], xs ++ [v])
def setFd (C : Cfg) (o v : PV) (f : SS) (S : Store) : Option Store := match o with
  | .rf r => match S[r]? with
    | some (.ins c ns fs) => match C.flds c with
      | some all => if all.contains f = true ∧ ns.length < 900 then some (S.set r (.ins c (putFd f v ns fs).1 (putFd f v ns fs).2)) else none
      | none => none
    | _ => none
  | _ => none
def sFld (f : SS) (o e : Den) : DenS := fun C σ S => inS (e C σ S) σ fun v S => inS (o C σ S) σ fun ov S => match setFd C ov v f S with
  | some S' => .nx σ S'
  | none => .bad
def ipV : PySem.Operator → PV → PV → Store → Rs PV
  | .Add, .int i, .int j, S => .ok (.int (i + j)) S
  | .Sub, .int i, .int j, S => .ok (.int (i - j)) S
  | _, _, _, _ => .bad
def sAug (op : PySem.Operator) (i : Nat) (e : Den) : DenS := fun C σ S => match σ[i]? with
  | some (some x) => inS (e C σ S) σ fun y S => inS (ipV op x y S) σ fun z S => .nx (σ.set i (some z)) S
  | _ => .bad
def sExpr (e : Den) : DenS := fun C σ S => inS (e C σ S) σ fun _ S => .nx σ S
def sRet (e : Den) : DenS := fun C σ S => inS (e C σ S) σ fun v S => .rt v S
def sRetN : DenS := fun _ _ S => .rt .non S
def sIf (t : DenT) (a b : DenS) : DenS := fun C σ S => inS (t C σ S) σ fun k S => if k then a C σ S else b C σ S
def sBrk : DenS := fun _ σ S => .bk σ S
def sCnt : DenS := fun _ σ S => .ct σ S
def sRaise (c : SS) : DenS := fun _ σ S => .exc c [] σ S
/-- behind an except suite -/
def offS (i : Nat) (r : Rt) : Rt := match r with
  | .nx σ S => if (σ.set i none).all (fun o => match o with | some v => v.nx | none => true) && S.all Cell.nx then .nx (σ.set i none) S else .bad
  | .rt v S => if v.nx && S.all Cell.nx then .rt v S else .bad
  | _ => .bad
/-- try: body / except d as name i: suite -/
def sTryA (d : SS) (i : Nat) (body suite : DenS) : DenS := fun C σ S => match body C σ S with
  | .exc c fs σ' S' => match C.sub c (.own d) with
    | some true => offS i (suite { C with lam := fun _ => .bad, call := fun _ _ _ _ => .bad } (σ'.set i (some (.exo c fs))) S')
    | some false => .exc c fs σ' S'
    | none => .bad
  | r => r
def sBad : DenS := fun _ _ _ => .bad
/-- behind a loop's body -/
def Rt.lp (r : Rt) (again : Sl → Store → Rt) : Rt := match r with
  | .nx σ S => again σ S
  | .ct σ S => again σ S
  | .bk σ S => .nx σ S
  | r => r
@[simp] theorem Rt.lp_nx (σ : Sl) (S : Store) (f : Sl → Store → Rt) : (Rt.nx σ S).lp f = f σ S := rfl
@[simp] theorem Rt.lp_ct (σ : Sl) (S : Store) (f : Sl → Store → Rt) : (Rt.ct σ S).lp f = f σ S := rfl
@[simp] theorem Rt.lp_bk (σ : Sl) (S : Store) (f : Sl → Store → Rt) : (Rt.bk σ S).lp f = .nx σ S := rfl
@[simp] theorem Rt.lp_rt (v : PV) (S : Store) (f : Sl → Store → Rt) : (Rt.rt v S).lp f = .rt v S := rfl
@[simp] theorem Rt.lp_exc (c : SS) (fs : List PV) (σ : Sl) (S : Store) (f : Sl → Store → Rt) : (Rt.exc c fs σ S).lp f = .exc c fs σ S := rfl
@[simp] theorem Rt.lp_bad (f : Sl → Store → Rt) : Rt.bad.lp f = .bad := rfl
def guardS (c : Bool) (r : Rt) : Rt := if c then r else .bad
@[simp] theorem guardS_true (r : Rt) : guardS true r = r := rfl
def forGo (tg : Tg) (body : DenS) (C : Cfg) (it : ItV) : List PV → Sl → Store → Rt
  | [], σ, S => guardS (it.still S) (.nx σ S)
  | x :: xs, σ, S => guardS (it.still S) (match tg.put x σ with
    | some σ' => (body C σ' S).lp (forGo tg body C it xs)
    | none => .bad)
def sFor (tg : Tg) (it : DenI) (body : DenS) : DenS := fun C σ S => inS (it C σ S) σ fun it S => forGo tg body C it it.items σ S
def whGo (t : DenT) (body : DenS) (C : Cfg) : Nat → Sl → Store → Rt
  | 0, _, _ => .bad
  | n + 1, σ, S => inS (t C σ S) σ fun k S => if k then (body C σ S).lp (whGo t body C n) else .nx σ S
def sWhile (t : DenT) (body : DenS) : DenS := fun C σ S => whGo t body C C.fuel σ S

/-! ### defs -/
structure FnI where
  np : Nat
  nn : Nat
  keep : Bool
  lamp : Bool
  glob : Bool
  body : DenS
abbrev Tab := SS → Option FnI
def knT (T : Tab) (x : SS) : Bool := match T x with
  | some f => f.glob
  | none => false
def closeV (keep : Bool) (S : Store) (v : PV) (S' : Store) : Rs PV :=
  if keep then .ok v S' else match frz 8 S' S.length v with
    | some w => guardR (oldOk S.length S S') (.ok w (S'.take S.length))
    | none => .bad
def closeR (keep : Bool) (S : Store) : Rt → Rs PV
  | .rt v S' => closeV keep S v S'
  | .nx _ S' => closeV keep S .non S'
  | .exc c fs _ S' => guardR (oldOk S.length S S' && fs.isEmpty) (.exc c [] (S'.take S.length))
  | _ => .bad
def isClo : PV → Bool
  | .clo => true
  | _ => false
def startP (nn : Nat) (args : List PV) : Sl := args.map some ++ List.replicate (nn - args.length) none
def runF (T : Tab) (fl : SS → Option (List SS)) (sub : SS → TyQ → Option Bool) (fuel : Nat) : Nat → (Store → Rs PV) → SS → List PV → Store → Rs PV
  | 0, _, _, _, _ => .bad
  | d + 1, lam, x, args, S => match T x with
    | none => .bad
    | some f => if args.length = f.np ∧ args.any isClo = f.lamp then closeR f.keep S (f.body (if f.lamp then ⟨fun _ _ _ _ => .bad, lam, fuel, fl, sub, fun _ => false⟩ else ⟨runF T fl sub fuel d, lam, fuel, fl, sub, fun x => knT T x⟩) (startP f.nn args) S) else .bad
end Ev

end
section
set_option Elab.async false
set_option linter.all false
set_option maxRecDepth 100000
set_option maxHeartbeats 1000000
namespace Ev
open PySem L2

/-! ### the relation of values -/
structure Par where
  K : PySem.W.Frag
  fn : SS → Option (List SS)
  sub : SS → TyQ → Option Bool
  exn : SS → Bool
  ea : Option (Addr × SS)
  tabs : List (Addr × SS)
  cl : Option (Addr × (Hp → List Addr → Prop))
abbrev Par.base (P : Par) : Prop := P.ea = none ∧ P.cl = none

mutual
def VR (P : Par) (Z : Hp) (m : List Addr) : PV → V → Prop
  | .non, v => v = .non
  | .bl b, v => v = .bl b
  | .int i, v => v = .int i
  | .str s, v => v = .str s
  | .tup xs, v => ∃ a vs, v = .ref a ∧ SqT P.K Z a vs ∧ VRs P Z m xs vs
  | .ro xs, v => ∃ a vs, v = .ref a ∧ Z a = some (.lst vs) ∧ VRs P Z m xs vs
  | .rod _ _, _ => False
  | .obj c fs, v => ∃ a dx fv ns, v = .ref a ∧ Z a = some (.ins (He.ga P.K c) dx fv) ∧ P.fn c = some ns ∧ fv.map (·.1) = ns ∧ VRs P Z m fs (fv.map (·.2))
  | .rf i, v => ∃ a, m[i]? = some a ∧ v = .ref a
  | .scr ns, v => ∃ a, v = .ref a ∧ SqL P.K Z a (ns.map V.int)
  | .gl x, v => v = .ref (He.ga P.K x)
  | .ty n, v => v = .ty n
  | .clo, v => ∃ f φ Z0 m0, v = .ref f ∧ P.cl = some (f, φ) ∧ Same Z0 Z ∧ m0 <+: m ∧ φ Z0 m0
  | .exo c fs, v => fs = [] ∧ ∃ a, v = .ref a ∧ P.ea = some (a, c)
def VRs (P : Par) (Z : Hp) (m : List Addr) : List PV → List V → Prop
  | [], vs => vs = []
  | x :: xs, vs => ∃ v r, vs = v :: r ∧ VR P Z m x v ∧ VRs P Z m xs r
end

theorem Same.sqT {K : PySem.W.Frag} {H H' : Hp} {a : Addr} {xs : List V} (e : Same H H') (h : SqT K H a xs) : SqT K H' a xs := by
  rcases h with (h | ⟨o, h⟩) | h
  · exact .inl (.inl (e _ _ h))
  · exact .inl (.inr ⟨o, e _ _ h⟩)
  · exact .inr h

mutual
theorem VR.mono {P : Par} {Z Z' : Hp} {m m' : List Addr} (hz : Same Z Z') (hm : m <+: m') : ∀ (x : PV) (v : V), VR P Z m x v → VR P Z' m' x v
  | .non, _, h => h
  | .bl _, _, h => h
  | .int _, _, h => h
  | .str _, _, h => h
  | .tup xs, _, h => by
    obtain ⟨a, vs, e, q, r⟩ := h
    exact ⟨a, vs, e, Same.sqT hz q, VRs.mono hz hm xs vs r⟩
  | .ro xs, _, h => by
    obtain ⟨a, vs, e, q, r⟩ := h
    exact ⟨a, vs, e, hz _ _ q, VRs.mono hz hm xs vs r⟩
  | .rod _ _, _, h => h
  | .obj c fs, _, h => by
    obtain ⟨a, dx, fv, ns, e, q, f, n, r⟩ := h
    exact ⟨a, dx, fv, ns, e, hz _ _ q, f, n, VRs.mono hz hm fs _ r⟩
  | .rf i, _, h => by
    obtain ⟨a, e, q⟩ := h
    obtain ⟨t, rfl⟩ := hm
    refine ⟨a, ?_, q⟩
    rw [List.getElem?_append_left (List.getElem?_eq_some_iff.mp e).1]
    exact e
  | .scr _, _, h => by
    obtain ⟨a, e, q⟩ := h
    exact ⟨a, e, hz.seq q⟩
  | .gl _, _, h => h
  | .ty _, _, h => h
  | .clo, _, h => by
    obtain ⟨f, φ, Z0, m0, e, c, a, b, q⟩ := h
    exact ⟨f, φ, Z0, m0, e, c, a.trans hz, b.trans hm, q⟩
  | .exo _ _, _, h => h
theorem VRs.mono {P : Par} {Z Z' : Hp} {m m' : List Addr} (hz : Same Z Z') (hm : m <+: m') : ∀ (xs : List PV) (vs : List V), VRs P Z m xs vs → VRs P Z' m' xs vs
  | [], _, h => h
  | x :: xs, _, h => by
    obtain ⟨v, r, e, h1, h2⟩ := h
    exact ⟨v, r, e, VR.mono hz hm x v h1, VRs.mono hz hm xs r h2⟩
end

theorem VRs.length {P : Par} {Z : Hp} {m : List Addr} : ∀ {xs : List PV} {vs : List V}, VRs P Z m xs vs → xs.length = vs.length
  | [], _, h => by cases h; rfl
  | x :: xs, _, h => by
    obtain ⟨v, r, rfl, _, h2⟩ := h
    simp [VRs.length h2]
theorem VRs.get {P : Par} {Z : Hp} {m : List Addr} : ∀ {xs : List PV} {vs : List V} {i : Nat} {x : PV}, VRs P Z m xs vs → xs[i]? = some x → ∃ v, vs[i]? = some v ∧ VR P Z m x v
  | [], _, _, _, _, e => by simp at e
  | x :: xs, _, 0, y, h, e => by
    obtain ⟨v, r, rfl, h1, h2⟩ := h
    simp at e; subst e
    exact ⟨v, rfl, h1⟩
  | x :: xs, _, i + 1, y, h, e => by
    obtain ⟨v, r, rfl, h1, h2⟩ := h
    obtain ⟨w, e1, e2⟩ := VRs.get (i := i) h2 (by simpa using e)
    exact ⟨w, by simpa using e1, e2⟩
theorem VRs.append {P : Par} {Z : Hp} {m : List Addr} : ∀ {xs ys : List PV} {vs ws : List V}, VRs P Z m xs vs → VRs P Z m ys ws → VRs P Z m (xs ++ ys) (vs ++ ws)
  | [], _, _, _, h, g => by cases h; exact g
  | x :: xs, _, _, _, h, g => by
    obtain ⟨v, r, rfl, h1, h2⟩ := h
    exact ⟨v, r ++ _, rfl, h1, VRs.append h2 g⟩
theorem VRs.take {P : Par} {Z : Hp} {m : List Addr} : ∀ {xs : List PV} {vs : List V} (n : Nat), VRs P Z m xs vs → VRs P Z m (xs.take n) (vs.take n)
  | _, _, 0, _ => by simp [VRs]
  | [], _, n + 1, h => by cases h; simp [VRs]
  | x :: xs, _, n + 1, h => by
    obtain ⟨v, r, rfl, h1, h2⟩ := h
    exact ⟨v, r.take n, rfl, h1, VRs.take n h2⟩
theorem VRs.drop {P : Par} {Z : Hp} {m : List Addr} : ∀ {xs : List PV} {vs : List V} (n : Nat), VRs P Z m xs vs → VRs P Z m (xs.drop n) (vs.drop n)
  | _, _, 0, h => h
  | [], _, n + 1, h => by cases h; simp [VRs]
  | x :: xs, _, n + 1, h => by
    obtain ⟨v, r, rfl, h1, h2⟩ := h
    exact VRs.drop n h2
theorem VRs.set {P : Par} {Z : Hp} {m : List Addr} {x : PV} {v : V} (h : VR P Z m x v) : ∀ {xs : List PV} {vs : List V} (i : Nat), VRs P Z m xs vs → VRs P Z m (xs.set i x) (vs.set i v)
  | [], _, _, g => by cases g; simp [VRs]
  | y :: ys, _, 0, g => by
    obtain ⟨w, r, rfl, h1, h2⟩ := g
    exact ⟨v, r, rfl, h, h2⟩
  | y :: ys, _, i + 1, g => by
    obtain ⟨w, r, rfl, h1, h2⟩ := g
    exact ⟨w, r.set i v, rfl, h1, VRs.set h i h2⟩
theorem VRs.none_of {P : Par} {Z : Hp} {m : List Addr} {xs : List PV} {vs : List V} {i : Nat} (h : VRs P Z m xs vs) (e : xs[i]? = none) : vs[i]? = none := by
  rw [List.getElem?_eq_none_iff] at e ⊢
  rw [← h.length]; exact e
theorem VRs.reverse {P : Par} {Z : Hp} {m : List Addr} : ∀ {xs : List PV} {vs : List V}, VRs P Z m xs vs → VRs P Z m xs.reverse vs.reverse
  | [], _, h => by cases h; simp [VRs]
  | x :: xs, _, h => by
    obtain ⟨v, r, rfl, h1, h2⟩ := h
    rw [List.reverse_cons, List.reverse_cons]
    exact VRs.append (VRs.reverse h2) ⟨v, [], rfl, h1, rfl⟩
theorem VRs.ints {P : Par} {Z : Hp} {m : List Addr} : ∀ {ns : List Int}, VRs P Z m (ns.map .int) (ns.map V.int)
  | [] => rfl
  | n :: ns => ⟨_, _, rfl, rfl, VRs.ints⟩
theorem VRs.rep {P : Par} {Z : Hp} {m : List Addr} {xs : List PV} {vs : List V} (h : VRs P Z m xs vs) : ∀ k, VRs P Z m (List.replicate k xs).flatten (List.replicate k vs).flatten
  | 0 => by simp [VRs]
  | k + 1 => by
    rw [List.replicate_succ, List.replicate_succ, List.flatten_cons, List.flatten_cons]
    exact VRs.append h (VRs.rep h k)

/-! ### the relation of states -/
def CR (P : Par) (Z : Hp) (m : List Addr) : Cell → Option HO → Prop
  | .lst xs, o => ∃ vs, o = some (.lst vs) ∧ VRs P Z m xs vs
  | .dct _ _, _ => False
  | .ins c ns fs, o => ∃ dx fv, o = some (.ins (He.ga P.K c) dx fv) ∧ fv.map (·.1) = ns ∧ VRs P Z m fs (fv.map (·.2))
theorem CR.mono {P : Par} {Z Z' : Hp} {m m' : List Addr} (hz : Same Z Z') (hm : m <+: m') {c : Cell} {o : Option HO} (h : CR P Z m c o) : CR P Z' m' c o := by
  cases c with
  | lst xs => obtain ⟨vs, e, r⟩ := h; exact ⟨vs, e, VRs.mono hz hm _ _ r⟩
  | dct _ _ => exact h
  | ins c ns fs => obtain ⟨dx, fv, e, n, r⟩ := h; exact ⟨dx, fv, e, n, VRs.mono hz hm _ _ r⟩

/-- the tables of code objects stand, and none of them is among ours -/
structure Tbs (P : Par) (Z F H : Hp) : Prop where
  tb : LamX.Tabs P.tabs H
  nz : ∀ a ps, Z a ≠ some (.tbl ps)
  nf : ∀ a ps, F a ≠ some (.tbl ps)
  ne : ∀ a φ, F a ≠ some (.ext φ)
theorem Tbs.put {P : Par} {Z F H : Hp} {a : Addr} {o : HO} (t : Tbs P Z F H) (h1 : ∀ ps, H a ≠ some (.tbl ps)) (h2 : ∀ φ, H a ≠ some (.ext φ)) : Tbs P Z F (upd H a o) := by
  refine ⟨fun p hp => ?_, t.nz, t.nf, t.ne⟩
  obtain ⟨ps, e1, e2, e3⟩ := t.tb p hp
  refine ⟨ps, ?_, e2, fun pos cv hc => ?_⟩
  · rw [upd_ne (fun (q : p.1 = a) => h1 ps (q ▸ e1))]; exact e1
  · obtain ⟨c, rfl, e4⟩ := e3 pos cv hc
    refine ⟨c, rfl, ?_⟩
    rw [upd_ne (fun (q : c = a) => h2 _ (q ▸ e4))]; exact e4
theorem Tbs.z {P : Par} {Z F H : Hp} {p : Addr} {o : HO} (t : Tbs P Z F H) (h : ∀ ps, o ≠ .tbl ps) : Tbs P (upd Z p o) F H :=
  ⟨t.tb, fun a ps e => by
    by_cases ha : a = p
    · subst ha; rw [upd_same] at e; cases e; exact h ps rfl
    · rw [upd_ne ha] at e; exact t.nz a ps e, t.nf, t.ne⟩
theorem Tbs.f {P : Par} {Z F H : Hp} {p : Addr} {o : HO} (t : Tbs P Z F H) (h : ∀ ps, o ≠ .tbl ps) (g : ∀ φ, o ≠ .ext φ) : Tbs P Z (upd F p o) H :=
  ⟨t.tb, t.nz, fun a ps e => by
    by_cases ha : a = p
    · subst ha; rw [upd_same] at e; cases e; exact h ps rfl
    · rw [upd_ne ha] at e; exact t.nf a ps e, fun a φ e => by
    by_cases ha : a = p
    · subst ha; rw [upd_same] at e; cases e; exact g φ rfl
    · rw [upd_ne ha] at e; exact t.ne a φ e⟩
structure SR (P : Par) (Z : Hp) (m : List Addr) (F : Hp) (S : Store) (H : Hp) : Prop where
  zh : Same Z H
  fh : Same F H
  zf : ∀ a o, Z a = some o → F a = none
  len : m.length = S.length
  nd : m.Nodup
  mz : ∀ a ∈ m, Z a = none ∧ F a = none
  cell : ∀ (i : Nat) c, S[i]? = some c → ∃ a, m[i]? = some a ∧ CR P Z m c (H a)
  ts : Tbs P Z F H

def SgR (P : Par) (Z : Hp) (m : List Addr) (σ : Sl) (τ : St) : Prop := σ.length = τ.length ∧ ∀ (i : Nat) v, σ[i]? = some (some v) → ∃ u, τ[i]? = some (some u) ∧ VR P Z m v u
theorem SgR.mono {P : Par} {Z Z' : Hp} {m m' : List Addr} (hz : Same Z Z') (hm : m <+: m') {σ : Sl} {τ : St} (h : SgR P Z m σ τ) : SgR P Z' m' σ τ :=
  ⟨h.1, fun i v e => let ⟨u, e1, r⟩ := h.2 i v e; ⟨u, e1, VR.mono hz hm _ _ r⟩⟩
theorem SgR.set {P : Par} {Z : Hp} {m : List Addr} {σ : Sl} {τ : St} (h : SgR P Z m σ τ) (i : Nat) {v : PV} {u : V} (r : VR P Z m v u) : SgR P Z m (σ.set i (some v)) (τ.set i (some u)) := by
  refine ⟨by simp [h.1], fun j w e => ?_⟩
  by_cases hj : i = j
  · subst hj
    by_cases hl : i < σ.length
    · rw [List.getElem?_set_self hl] at e
      cases e
      exact ⟨u, List.getElem?_set_self (by rw [← h.1]; exact hl), r⟩
    · rw [List.getElem?_eq_none (by simpa using hl)] at e; cases e
  · rw [List.getElem?_set_ne hj] at e ⊢
    exact h.2 j w e

/-! ### what a result asks -/
def XR (P : Par) (Z : Hp) (m : List Addr) (c : SS) (fs : List PV) (cls : Value) (d : Option Addr) : Prop := cls = .ref (He.ga P.K c) ∧ fs = [] ∧ d = none ∧ P.exn c = true

def okR {α β : Type} (R : Hp → List Addr → α → β → Prop) (P : Par) (Z : Hp) (m : List Addr) (F : Hp) (r : Rs α) (Q : β → Hp → Prop) (E : XK) : Prop := match r with
  | .ok v S' => ∀ Z' m' u H', Same Z Z' → m <+: m' → SR P Z' m' F S' H' → R Z' m' v u → Q u H'
  | .exc c fs S' => ∀ Z' m' cls d H', Same Z Z' → m <+: m' → SR P Z' m' F S' H' → XR P Z' m' c fs cls d → E cls d H'
  | .bad => False
theorem okR.mono {α β : Type} {R : Hp → List Addr → α → β → Prop} {P : Par} {Z Z1 : Hp} {m m1 : List Addr} {F : Hp} {r : Rs α} {Q : β → Hp → Prop} {E : XK} (hz : Same Z Z1) (hm : m <+: m1) (h : okR R P Z m F r Q E) : okR R P Z1 m1 F r Q E := by
  cases r with
  | ok v S => exact fun Z' m' u H' a b => h Z' m' u H' (hz.trans a) (hm.trans b)
  | exc c fs S => exact fun Z' m' cls d H' a b => h Z' m' cls d H' (hz.trans a) (hm.trans b)
  | bad => exact h
theorem okR.imp {α β : Type} {R : Hp → List Addr → α → β → Prop} {P : Par} {Z : Hp} {m : List Addr} {F : Hp} {r : Rs α} {Q Q' : β → Hp → Prop} {E : XK} (h : okR R P Z m F r Q E) (q : ∀ u H', Q u H' → Q' u H') : okR R P Z m F r Q' E := by
  cases r with
  | ok v S => exact fun Z' m' u H' a b c d => q u H' (h Z' m' u H' a b c d)
  | exc c fs S => exact h
  | bad => exact h
/-- the state behind a part: what is left is asked -/
def Mid {α β γ : Type} (R : Hp → List Addr → α → β → Prop) (P : Par) (Z : Hp) (m : List Addr) (F : Hp) (k : α → Store → Hp → List Addr → γ → Prop) (u : β) (H' : Hp) (g : γ) : Prop :=
  ∃ Z' m' S' v, Same Z Z' ∧ m <+: m' ∧ SR P Z' m' F S' H' ∧ R Z' m' v u ∧ k v S' Z' m' g
theorem okR_bnd {α β α' β' : Type} {R : Hp → List Addr → α → β → Prop} {R' : Hp → List Addr → α' → β' → Prop} {P : Par} {Z : Hp} {m : List Addr} {F : Hp} {r : Rs α} {f : α → Store → Rs α'} {Q : β' → Hp → Prop} {E : XK}
    (h : okR R' P Z m F (r.bnd f) Q E) : okR R P Z m F r (fun u H' => ∃ Z' m' S' v, Same Z Z' ∧ m <+: m' ∧ SR P Z' m' F S' H' ∧ R Z' m' v u ∧ okR R' P Z' m' F (f v S') Q E) E := by
  cases r with
  | ok v S => exact fun Z' m' u H' a b c d => ⟨Z', m', S, v, a, b, c, d, okR.mono a b h⟩
  | exc c fs S => exact h
  | bad => exact h
abbrev okE (P : Par) := okR (VR P) P
abbrev okB (P : Par) := okR (fun _ _ (a b : Bool) => a = b) P
abbrev okL (P : Par) := okR (VRs P) P

/-! ### readings -/
abbrev WX := Value → Option Addr → St → Hp → Prop
def tD (P : Par) (W : WX) (C : Cfg) (d : Den) : TE := fun τ H Q => ∃ Z m F S σ, SR P Z m F S H ∧ SgR P Z m σ τ ∧ okE P Z m F (d C σ S) Q (fun cls dd H' => W cls dd τ H')
def tT (P : Par) (W : WX) (C : Cfg) (d : DenT) : TT := fun τ H Q => ∃ Z m F S σ, SR P Z m F S H ∧ SgR P Z m σ τ ∧ okB P Z m F (d C σ S) Q (fun cls dd H' => W cls dd τ H')
def tA (P : Par) (W : WX) (C : Cfg) (d : DenL) : TA := fun τ H Q => ∃ Z m F S σ, SR P Z m F S H ∧ SgR P Z m σ τ ∧ okL P Z m F (d C σ S) Q (fun cls dd H' => W cls dd τ H')

theorem PE.weak {X : Cx} {e : Expr} {t t' : TE} (h : PE X e t) (w : ∀ τ H Q, t' τ H Q → t τ H Q) : PE X e t' := ⟨fun pins s σ H Q I q => h.run pins s σ H Q I (w σ H Q q)⟩
theorem PT.weak {X : Cx} {e : Expr} {t t' : TT} (h : PT X e t) (w : ∀ τ H Q, t' τ H Q → t τ H Q) : PT X e t' := ⟨fun pins s σ H Q I q => h.run pins s σ H Q I (w σ H Q q)⟩
theorem PW.weak {X : Cx} {e : Expr} {t t' : TT} (h : PW X e t) (w : ∀ τ H Q, t' τ H Q → t τ H Q) : PW X e t' := ⟨fun wh pins s σ H Q I q => h.run wh pins s σ H Q I (w σ H Q q)⟩
theorem PA.weak {X : Cx} {es : List Expr} {t t' : TA} (h : PA X es t) (w : ∀ τ H Q, t' τ H Q → t τ H Q) : PA X es t' := ⟨fun pos pins s σ H Q I q => h.run pos pins s σ H Q I (w σ H Q q)⟩
theorem PS.weak {X : Cx} {e : Stmt} {t t' : TS} (h : PS X e t) (w : ∀ D τ H, t' D τ H → t D τ H) : PS X e t' := ⟨fun pins s σ H D I q => h.run pins s σ H D I (w D σ H q)⟩
theorem PSs.weak {X : Cx} {e : List Stmt} {t t' : TS} (h : PSs X e t) (w : ∀ D τ H, t' D τ H → t D τ H) : PSs X e t' := ⟨fun pins s σ H D I q => h.run pins s σ H D I (w D σ H q)⟩

/-- an operation's rule, from values -/
def r2 (P : Par) (f : PV → PV → Store → Rs PV) : R2 := fun u v H Q => ∃ Z m F S x y, SR P Z m F S H ∧ VR P Z m x u ∧ VR P Z m y v ∧ okE P Z m F (f x y S) Q (fun _ _ _ => False)
end Ev

end
section
set_option Elab.async false
set_option linter.all false
set_option maxRecDepth 100000
set_option maxHeartbeats 1000000
namespace Ev
open PySem L2
section
variable {P : Par} {Z : Hp} {m : List Addr} {F : Hp} {S : Store} {H : Hp}

theorem CR.there {c : Cell} {o : Option HO} (h : CR P Z m c o) : o ≠ none := by
  cases c with
  | lst xs => obtain ⟨vs, e, _⟩ := h; rw [e]; simp
  | dct _ _ => exact h.elim
  | ins c ns fs => obtain ⟨dx, fv, e, _⟩ := h; rw [e]; simp
theorem CR.no {c : Cell} {o : Option HO} (h : CR P Z m c o) : (∀ ps, o ≠ some (.tbl ps)) ∧ ∀ φ, o ≠ some (.ext φ) := by
  cases c with
  | lst xs => obtain ⟨vs, e, _⟩ := h; rw [e]; exact ⟨fun _ q => (by cases q), fun _ q => (by cases q)⟩
  | dct _ _ => exact h.elim
  | ins c ns fs => obtain ⟨dx, fv, e, _⟩ := h; rw [e]; exact ⟨fun _ q => (by cases q), fun _ q => (by cases q)⟩
theorem SR.at_ (sr : SR P Z m F S H) {a : Addr} (h : a ∈ m) : H a ≠ none := by
  obtain ⟨i, hi, e⟩ := List.getElem_of_mem h
  have hi' : i < S.length := by rw [← sr.len]; exact hi
  obtain ⟨b, e1, r⟩ := sr.cell i S[i] (List.getElem?_eq_getElem hi')
  rw [List.getElem?_eq_getElem hi, e] at e1
  cases e1
  exact r.there
theorem SR.nz (sr : SR P Z m F S H) {p : Addr} (hp : H p = none) : Z p = none := by
  cases e : Z p with
  | none => rfl
  | some o => rw [sr.zh _ _ e] at hp; cases hp
theorem SR.nf (sr : SR P Z m F S H) {p : Addr} (hp : H p = none) : F p = none := by
  cases e : F p with
  | none => rfl
  | some o => rw [sr.fh _ _ e] at hp; cases hp
theorem SR.nm (sr : SR P Z m F S H) {p : Addr} (hp : H p = none) : p ∉ m := fun h => sr.at_ h hp
theorem same_upd {Z : Hp} {p : Addr} {o : HO} (h : Z p = none) : Same Z (upd Z p o) := fun b u e => by
  rw [upd_ne (ne_of_none e h)]; exact e
theorem at_upd {Z : Hp} {p a : Addr} {o u : HO} (e : Z a = some u) (h : Z p = none) : upd Z p o a = some u := same_upd h _ _ e
/-- a new thing, by value -/
theorem SR.new (sr : SR P Z m F S H) {p : Addr} (hp : H p = none) (o : HO) (ho : ∀ ps, o ≠ .tbl ps := by intro _ q; cases q) : SR P (upd Z p o) m F S (upd H p o) := by
  have nz := sr.nz hp
  have nf := sr.nf hp
  have nm := sr.nm hp
  refine ⟨fun b u e => ?_, fun b u e => ?_, fun b u e => ?_, sr.len, sr.nd, fun a ha => ?_, fun i c e => ?_, (sr.ts.put (a := p) (fun _ => by rw [hp]; simp) (fun _ => by rw [hp]; simp)).z ho⟩
  · by_cases hb : b = p
    · subst hb; rw [upd_same] at e ⊢; exact e
    · rw [upd_ne hb] at e ⊢; exact sr.zh _ _ e
  · rw [upd_ne (ne_of_none e nf)]; exact sr.fh _ _ e
  · by_cases hb : b = p
    · rw [hb]; exact nf
    · rw [upd_ne hb] at e; exact sr.zf _ _ e
  · have hne : a ≠ p := fun q => nm (q ▸ ha)
    rw [upd_ne hne]; exact sr.mz a ha
  · obtain ⟨a, e1, r⟩ := sr.cell i c e
    have hne : a ≠ p := fun q => nm (q ▸ List.mem_of_getElem? e1)
    refine ⟨a, e1, ?_⟩
    rw [upd_ne hne]
    exact CR.mono (same_upd nz) (List.prefix_refl _) r
/-- a new thing of the store -/
theorem SR.grow (sr : SR P Z m F S H) {p : Addr} (hp : H p = none) {o : HO} {c : Cell} (r : CR P Z (m ++ [p]) c (some o)) : SR P Z (m ++ [p]) F (S ++ [c]) (upd H p o) := by
  have nz := sr.nz hp
  have nf := sr.nf hp
  have nm := sr.nm hp
  refine ⟨fun b u e => ?_, fun b u e => ?_, sr.zf, by simp [sr.len], ?_, fun a ha => ?_, fun i d e => ?_, sr.ts.put (fun _ => by rw [hp]; simp) (fun _ => by rw [hp]; simp)⟩
  · rw [upd_ne (ne_of_none e nz)]; exact sr.zh _ _ e
  · rw [upd_ne (ne_of_none e nf)]; exact sr.fh _ _ e
  · rw [List.nodup_append]
    exact ⟨sr.nd, by simp, fun a ha b hb => by simp at hb; subst hb; rintro rfl; exact nm ha⟩
  · rcases List.mem_append.mp ha with h | h
    · exact sr.mz a h
    · simp at h; subst h; exact ⟨nz, nf⟩
  · by_cases hi : i < S.length
    · rw [List.getElem?_append_left hi] at e
      obtain ⟨a, e1, q⟩ := sr.cell i d e
      have hne : a ≠ p := fun q => nm (q ▸ List.mem_of_getElem? e1)
      refine ⟨a, ?_, ?_⟩
      · rw [List.getElem?_append_left (List.getElem?_eq_some_iff.mp e1).1]; exact e1
      · rw [upd_ne hne]; exact CR.mono (Same.refl _) (List.prefix_append ..) q
    · have hi2 : i = S.length := by
        have := (List.getElem?_eq_some_iff.mp e).1
        simp at this; omega
      subst hi2
      rw [List.getElem?_append_right (Nat.le_refl _)] at e
      simp at e; subst e
      refine ⟨p, ?_, ?_⟩
      · rw [← sr.len, List.getElem?_append_right (Nat.le_refl _)]; simp
      · rw [upd_same]; exact r
/-- a thing of the store is written -/
theorem SR.put (sr : SR P Z m F S H) {i : Nat} {a : Addr} (e : m[i]? = some a) {o : HO} {c : Cell} (r : CR P Z m c (some o)) : SR P Z m F (S.set i c) (upd H a o) := by
  have ha := List.mem_of_getElem? e
  obtain ⟨nz, nf⟩ := sr.mz a ha
  have hi : i < S.length := by rw [← sr.len]; exact (List.getElem?_eq_some_iff.mp e).1
  refine ⟨fun b u q => ?_, fun b u q => ?_, sr.zf, by simp [sr.len], sr.nd, sr.mz, fun j d q => ?_, ?_⟩
  · rw [upd_ne (ne_of_none q nz)]; exact sr.zh _ _ q
  · rw [upd_ne (ne_of_none q nf)]; exact sr.fh _ _ q
  · by_cases hj : i = j
    · subst hj
      rw [List.getElem?_set_self hi] at q
      cases q
      exact ⟨a, e, by rw [upd_same]; exact r⟩
    · rw [List.getElem?_set_ne hj] at q
      obtain ⟨b, e1, s⟩ := sr.cell j d q
      have hne : b ≠ a := fun z => by
        subst z
        obtain ⟨h1, x1⟩ := List.getElem?_eq_some_iff.mp e
        obtain ⟨h2, x2⟩ := List.getElem?_eq_some_iff.mp e1
        exact hj ((List.getElem_inj sr.nd).mp (x1.trans x2.symm))
      exact ⟨b, e1, by rw [upd_ne hne]; exact s⟩
  · obtain ⟨b, e1, s⟩ := sr.cell i S[i] (List.getElem?_eq_getElem hi)
    rw [e] at e1; cases e1
    exact sr.ts.put s.no.1 s.no.2

theorem lstOf_R (sr : SR P Z m F S H) {x : PV} {u : V} (h : VR P Z m x u) {xs : List PV} (e : lstOf S x = some xs) : ∃ a vs, u = .ref a ∧ H a = some (.lst vs) ∧ VRs P Z m xs vs := by
  cases x with
  | ro ys =>
    obtain ⟨a, vs, e1, q, r⟩ := h
    cases e
    exact ⟨a, vs, e1, sr.zh _ _ q, r⟩
  | rf i =>
    obtain ⟨a, e1, e2⟩ := h
    simp only [lstOf] at e
    cases q : S[i]? with
    | none => rw [q] at e; cases e
    | some c =>
      rw [q] at e
      cases c with
      | lst ys =>
        cases e
        obtain ⟨b, e3, vs, e4, r⟩ := sr.cell i _ q
        rw [e1] at e3; cases e3
        exact ⟨a, vs, e2, e4, r⟩
      | _ => cases e
  | _ => cases e
theorem seqOf_R (sr : SR P Z m F S H) {x : PV} {u : V} (h : VR P Z m x u) {xs : List PV} (e : seqOf S x = some xs) : ∃ a vs, u = .ref a ∧ (SqL P.K H a vs ∨ SqT P.K H a vs) ∧ VRs P Z m xs vs := by
  have gen : ∀ y, seqOf S y = lstOf S y → VR P Z m y u → seqOf S y = some xs → ∃ a vs, u = .ref a ∧ (SqL P.K H a vs ∨ SqT P.K H a vs) ∧ VRs P Z m xs vs := fun y e1 h e => by
    rw [e1] at e
    obtain ⟨a, vs, e2, e3, r⟩ := lstOf_R sr h e
    exact ⟨a, vs, e2, .inl (SqL.of e3), r⟩
  cases x with
  | tup ys =>
    obtain ⟨a, vs, e1, q, r⟩ := h
    cases e
    exact ⟨a, vs, e1, .inr (Same.sqT sr.zh q), r⟩
  | _ => exact gen _ rfl h e

/-- the end of an operation: its value stands already -/
theorem okE.ret {v : PV} {Q : VK} {E : XK} (q : okE P Z m F (.ok v S) Q E) (sr : SR P Z m F S H) {u : V} (r : VR P Z m v u) : Q u H := q Z m u H (Same.refl _) (List.prefix_refl _) sr r
/-- .. a new list, by value -/
theorem okE.newL {xs : List PV} {vs : List V} {Q : VK} {E : XK} (q : okE P Z m F (.ok (.ro xs) S) Q E) (sr : SR P Z m F S H) (r : VRs P Z m xs vs) : ∀ p, H p = none → Q (.ref p) (upd H p (.lst vs)) := fun p hp =>
  q _ m _ _ (same_upd (sr.nz hp)) (List.prefix_refl _) (sr.new hp _) ⟨p, vs, rfl, upd_same, VRs.mono (same_upd (sr.nz hp)) (List.prefix_refl _) _ _ r⟩
theorem okE.newT {xs : List PV} {vs : List V} {Q : VK} {E : XK} (q : okE P Z m F (.ok (.tup xs) S) Q E) (sr : SR P Z m F S H) (r : VRs P Z m xs vs) : ∀ p, H p = none → Q (.ref p) (upd H p (.tup vs)) := fun p hp =>
  q _ m _ _ (same_upd (sr.nz hp)) (List.prefix_refl _) (sr.new hp _) ⟨p, vs, rfl, SqT.of upd_same, VRs.mono (same_upd (sr.nz hp)) (List.prefix_refl _) _ _ r⟩
theorem okE.mk {mt : Bool} {xs : List PV} {vs : List V} {Q : VK} {E : XK} (q : okE P Z m F (mkLst mt xs S) Q E) (sr : SR P Z m F S H) (r : VRs P Z m xs vs) : ∀ p, H p = none → Q (.ref p) (upd H p (.lst vs)) := fun p hp => by
  unfold mkLst at q
  cases mt with
  | false => exact okE.newL q sr r p hp
  | true =>
    refine q Z (m ++ [p]) _ _ (Same.refl _) (List.prefix_append ..) (sr.grow hp ⟨vs, rfl, VRs.mono (Same.refl _) (List.prefix_append ..) _ _ r⟩) ⟨p, ?_, rfl⟩
    rw [← sr.len, List.getElem?_append_right (Nat.le_refl _)]; simp
theorem okR_guard {α β : Type} {R : Hp → List Addr → α → β → Prop} {c : Bool} {r : Rs α} {Q : β → Hp → Prop} {E : XK} (h : okR R P Z m F (guardR c r) Q E) : c = true ∧ okR R P Z m F r Q E := by
  cases c with
  | true => exact ⟨rfl, h⟩
  | false => exact h.elim
end

/-! ### operations on two values -/
section
variable {X : Cx} {P : Par} {E : XK}
def rr (P : Par) (f : PV → PV → Store → Rs PV) : R2 := fun u v H Q => ∃ Z m F S x y E, SR P Z m F S H ∧ VR P Z m x u ∧ VR P Z m y v ∧ okE P Z m F (f x y S) Q E

theorem op_addP (hK : X.K = P.K) : OpR X (binaryOp .Add) (rr P addV) := by
  intro pins s τ H u v uv vv Q I ru rv h
  obtain ⟨Z, m, F, S, x, y, E, sr, hx, hy, q⟩ := h
  have lists : ∀ {xs ys : List PV}, lstOf S x = some xs → lstOf S y = some ys → okE P Z m F (guardR (decide (xs.length + ys.length ≤ sizeLine)) (.ok (.ro (xs ++ ys)) S)) Q E → wpAny (model X.prog X.w) X.A (binaryOp .Add uv vv) (EP X pins τ Q) X.xe s := fun {xs ys} e1 e2 q => by
    obtain ⟨hc, q⟩ := okR_guard q
    obtain ⟨a, vs, rfl, ha, r1⟩ := lstOf_R sr hx e1
    obtain ⟨b, ws, rfl, hb, r2⟩ := lstOf_R sr hy e2
    exact op_cat pins s τ H _ _ uv vv Q I ru rv ⟨a, b, vs, ws, rfl, rfl, ha, hb, by rw [← r1.length, ← r2.length]; exact of_decide_eq_true hc, okE.newL q sr (VRs.append r1 r2)⟩
  cases x with
  | int i => cases y with
    | int j => exact op_add pins s τ H u v uv vv Q I ru rv ⟨i, j, hx, hy, okE.ret q sr rfl⟩
    | _ => exact q.elim
  | str i => cases y with
    | str j =>
      obtain ⟨hc, q⟩ := okR_guard q
      exact op_add_str pins s τ H u v uv vv Q I ru rv ⟨i, j, hx, hy, of_decide_eq_true hc, okE.ret q sr rfl⟩
    | _ => exact q.elim
  | tup xs => cases y with
    | tup ys =>
      obtain ⟨hc, q⟩ := okR_guard q
      obtain ⟨a, vs, rfl, ha, r1⟩ := id hx
      obtain ⟨b, ws, rfl, hb, r2⟩ := id hy
      refine op_catA pins s τ H _ _ uv vv Q I ru rv ⟨a, b, vs, ws, rfl, rfl, hK ▸ Same.sqT sr.zh ha, hK ▸ Same.sqT sr.zh hb, by rw [← r1.length, ← r2.length]; exact of_decide_eq_true hc, fun e => ?_, fun _ e => ?_, fun _ _ => okE.newT q sr (VRs.append r1 r2)⟩
      · subst e
        have e1 : xs = [] := List.length_eq_zero_iff.mp r1.length
        subst e1
        exact okE.ret q sr hy
      · subst e
        have e1 : ys = [] := List.length_eq_zero_iff.mp r2.length
        subst e1
        rw [List.append_nil] at q
        exact okE.ret q sr hx
    | _ => exact q.elim
  | ro xs =>
    cases e2 : lstOf S y with
    | some ys => exact lists rfl e2 (by cases y <;> first | (cases e2; done) | (simp only [addV] at q; rw [e2] at q; exact q))
    | none => exact (show False from by cases y <;> first | (cases e2; done) | (simp only [addV] at q; rw [e2] at q; exact q)).elim
  | rf i =>
    cases e1 : lstOf S (.rf i) with
    | none => exact (show False from by cases y <;> (simp only [addV] at q; rw [e1] at q; exact q)).elim
    | some xs =>
      cases e2 : lstOf S y with
      | some ys => exact lists e1 e2 (by cases y <;> first | (cases e2; done) | (simp only [addV] at q; rw [e1, e2] at q; exact q))
      | none => exact (show False from by cases y <;> (simp only [addV] at q; rw [e1, e2] at q; exact q)).elim
  | _ => exact (show False from by cases y <;> exact q).elim
end
end Ev

end
section
set_option Elab.async false
set_option linter.all false
set_option maxRecDepth 100000
set_option maxHeartbeats 1000000
namespace Ev
open PySem L2
section
variable {X : Cx} {P : Par} {E : XK}
theorem okB.ret {Z : Hp} {m : List Addr} {F : Hp} {S : Store} {H : Hp} {b : Bool} {Q : Bool → Hp → Prop} (q : okB P Z m F (.ok b S) Q E) (sr : SR P Z m F S H) : Q b H := q Z m b H (Same.refl _) (List.prefix_refl _) sr rfl

theorem op_subP : OpR X (binaryOp .Sub) (rr P subV) := by
  intro pins s τ H u v uv vv Q I ru rv h
  obtain ⟨Z, m, F, S, x, y, E, sr, hx, hy, q⟩ := h
  cases x with
  | int i => cases y with
    | int j => exact op_sub pins s τ H u v uv vv Q I ru rv ⟨i, j, hx, hy, okE.ret q sr rfl⟩
    | _ => exact q.elim
  | _ => exact (show False from by cases y <;> exact q).elim
theorem log_R {i : Int} (h : i.natAbs.log2 < 63) : -(2 ^ 64) < i ∧ i < 2 ^ 64 := by
  have : i.natAbs < 2 ^ 63 := Nat.lt_of_lt_of_le Nat.lt_log2_self (Nat.pow_le_pow_right (by decide) (by omega))
  omega
theorem op_mulP : OpR X (binaryOp .Mult) (rr P mulV) := by
  intro pins s τ H u v uv vv Q I ru rv h
  obtain ⟨Z, m, F, S, x, y, E, sr, hx, hy, q⟩ := h
  have lists : ∀ {xs : List PV} {k : Int}, y = .int k → lstOf S x = some xs → okE P Z m F (guardR (decide (0 ≤ k ∧ k.toNat ≤ sizeLine ∧ xs.length * k.toNat ≤ sizeLine)) (.ok (.ro (List.replicate k.toNat xs).flatten) S)) Q E → wpAny (model X.prog X.w) X.A (binaryOp .Mult uv vv) (EP X pins τ Q) X.xe s := fun {xs k} ey e1 q1 => by
    subst ey
    obtain ⟨hc, q1⟩ := okR_guard q1
    obtain ⟨h1, h2', h3⟩ := of_decide_eq_true hc
    have h2 : k < 2 ^ 63 := by have := line63; omega
    obtain ⟨a, vs, rfl, ha, r1⟩ := lstOf_R sr hx e1
    exact op_rep pins s τ H _ v uv vv Q I ru rv ⟨a, k, vs, rfl, hy, ha, by omega, h2, by rw [← r1.length]; exact h3, okE.newL q1 sr (VRs.rep r1 _)⟩
  cases y with
  | int j =>
    cases x with
    | int i =>
      obtain ⟨hc, q⟩ := okR_guard q
      unfold mulOk at hc
      rcases Bool.or_eq_true_iff.mp hc with hc | hc
      · have hw : i.natAbs.log2 + j.natAbs.log2 < 1000000 := of_decide_eq_true hc
        exact op_mulW pins s τ H u v uv vv Q I ru rv ⟨i, j, hx, hy, hw, okE.ret q sr rfl⟩
      · refine op_mul pins s τ H u v uv vv Q I ru rv ⟨i, j, hx, hy, ?_, okE.ret q sr rfl⟩
        rcases Bool.or_eq_true_iff.mp hc with hc | hc
        · exact .inl (log_R (of_decide_eq_true hc))
        · exact .inr (log_R (of_decide_eq_true hc))
    | ro xs => exact lists rfl rfl q
    | rf i =>
      cases e1 : lstOf S (.rf i) with
      | none => simp only [mulV] at q; rw [e1] at q; exact q.elim
      | some xs => simp only [mulV] at q; rw [e1] at q; exact lists rfl e1 q
    | _ => exact q.elim
  | _ => exact (show False from by cases x <;> exact q).elim
theorem op_binMP (op : Operator) : OpR X (binaryOp op) (rr P (binVM op)) := by
  intro pins s τ H u v uv vv Q I ru rv h
  obtain ⟨Z, m, F, S, x, y, E, sr, hx, hy, q⟩ := h
  cases op with
  | Add =>
    simp only [binVM] at q
    cases e1 : lstOf S x with
    | none => rw [e1] at q; exact q.elim
    | some xs =>
      cases e2 : lstOf S y with
      | none => rw [e1, e2] at q; exact q.elim
      | some ys =>
        rw [e1, e2] at q
        obtain ⟨hc, q⟩ := okR_guard q
        obtain ⟨a, vs, rfl, ha, r1⟩ := lstOf_R sr hx e1
        obtain ⟨b, ws, rfl, hb, r2⟩ := lstOf_R sr hy e2
        exact op_cat pins s τ H _ _ uv vv Q I ru rv ⟨a, b, vs, ws, rfl, rfl, ha, hb, by rw [← r1.length, ← r2.length]; exact of_decide_eq_true hc, okE.mk q sr (VRs.append r1 r2)⟩
  | Mult =>
    simp only [binVM] at q
    cases e1 : lstOf S x with
    | none => rw [e1] at q; exact q.elim
    | some xs =>
      rw [e1] at q
      cases y with
      | int k =>
        obtain ⟨hc, q1⟩ := okR_guard q
        obtain ⟨h1, h2', h3⟩ := of_decide_eq_true hc
        have h2 : k < 2 ^ 63 := by have := line63; omega
        obtain ⟨a, vs, rfl, ha, r1⟩ := lstOf_R sr hx e1
        exact op_rep pins s τ H _ v uv vv Q I ru rv ⟨a, k, vs, rfl, hy, ha, by omega, h2, by rw [← r1.length]; exact h3, okE.mk q1 sr (VRs.rep r1 _)⟩
      | _ => exact q.elim
  | _ => exact q.elim
theorem op_fdivP : OpR X (binaryOp .FloorDiv) (rr P fdivV) := by
  intro pins s τ H u v uv vv Q I ru rv h
  obtain ⟨Z, m, F, S, x, y, E, sr, hx, hy, q⟩ := h
  cases x with
  | int i => cases y with
    | int j =>
      obtain ⟨hc, q⟩ := okR_guard q
      have hw : 0 < j ∧ j.natAbs.log2 < 9000 := of_decide_eq_true hc
      exact op_fdivW pins s τ H u v uv vv Q I ru rv ⟨i, j, hx, hy, hw, okE.ret q sr rfl⟩
    | _ => exact q.elim
  | _ => exact (show False from by cases y <;> exact q).elim
theorem op_modP : OpR X (binaryOp .Mod) (rr P modV) := by
  intro pins s τ H u v uv vv Q I ru rv h
  obtain ⟨Z, m, F, S, x, y, E, sr, hx, hy, q⟩ := h
  cases x with
  | int i => cases y with
    | int j =>
      obtain ⟨hc, q⟩ := okR_guard q
      exact op_mod pins s τ H u v uv vv Q I ru rv ⟨i, j, hx, hy, of_decide_eq_true hc, okE.ret q sr rfl⟩
    | _ => exact q.elim
  | _ => exact (show False from by cases y <;> exact q).elim
theorem op_powP : OpR X (binaryOp .Pow) (rr P powV) := by
  intro pins s τ H u v uv vv Q I ru rv h
  obtain ⟨Z, m, F, S, x, y, E, sr, hx, hy, q⟩ := h
  cases x with
  | int i => cases y with
    | int j =>
      obtain ⟨hc, q⟩ := okR_guard q
      have hw : 0 ≤ j ∧ j ≤ 1000000 ∧ i.natAbs < 2 ^ 64 := of_decide_eq_true hc
      exact op_pow pins s τ H u v uv vv Q I ru rv ⟨i, j, hx, hy, hw, okE.ret q sr rfl⟩
    | _ => exact q.elim
  | _ => exact (show False from by cases y <;> exact q).elim
theorem op_binP (hK : X.K = P.K) (op : Operator) : OpR X (binaryOp op) (rr P (binV op)) := by
  have no : ∀ op, binV op = (fun _ _ _ => .bad) → OpR X (binaryOp op) (rr P (binV op)) := fun op e => by
    rw [e]
    intro pins s τ H u v uv vv Q I ru rv h
    obtain ⟨Z, m, F, S, x, y, E, sr, hx, hy, q⟩ := h
    exact q.elim
  cases op with
  | Add => exact op_addP hK
  | Sub => exact op_subP
  | Mult => exact op_mulP
  | FloorDiv => exact op_fdivP
  | Mod => exact op_modP
  | Pow => exact op_powP
  | _ => exact no _ rfl
def ru1 (P : Par) (f : PV → Store → Rs PV) : V → Hp → VK → Prop := fun u H Q => ∃ Z m F S x E, SR P Z m F S H ∧ VR P Z m x u ∧ okE P Z m F (f x S) Q E
theorem op_unP (op : UnaryOp) : UnR X (unaryOp op) (ru1 P (unV op)) := by
  intro pins s τ H u uv Q I ru h
  obtain ⟨Z, m, F, S, x, E, sr, hx, q⟩ := h
  cases op with
  | USub => cases x with
    | int i => exact un_neg pins s τ H u uv Q I ru ⟨i, hx, okE.ret q sr rfl⟩
    | _ => exact q.elim
  | _ => exact (show False from by cases x <;> exact q).elim

/-! ### data -/
mutual
theorem toD_R {Z : Hp} {m : List Addr} {F : Hp} {S : Store} {H : Hp} (sr : SR P Z m F S H) : ∀ (x : PV) (u : V) (d : PyData), VR P Z m x u → toD S x = some d → Dp P.K H u d
  | .non, _, _, h, e => by cases h; simp only [toD] at e; cases e; exact .non
  | .bl b, _, _, h, e => by cases h; simp only [toD] at e; cases e; exact .bl b
  | .int i, _, _, h, e => by cases h; simp only [toD] at e; cases e; exact .int i
  | .str i, _, _, h, e => by cases h; simp only [toD] at e; cases e; exact .str i
  | .tup xs, _, _, h, e => by
    obtain ⟨a, vs, rfl, q, r⟩ := h
    simp only [toD, Option.map_eq_some_iff] at e
    obtain ⟨ds, e, rfl⟩ := e
    exact .tup (Same.sqT sr.zh q) (toDs_R sr xs vs ds r e)
  | .ro xs, _, _, h, e => by
    obtain ⟨a, vs, rfl, q, r⟩ := h
    simp only [toD, Option.map_eq_some_iff] at e
    obtain ⟨ds, e, rfl⟩ := e
    exact .lst (SqL.of (sr.zh _ _ q)) (toDs_R sr xs vs ds r e)
  | .rod _ _, _, _, _, e => by simp only [toD] at e; cases e
  | .obj _ _, _, _, _, e => by simp only [toD] at e; cases e
  | .rf _, _, _, _, e => by simp only [toD] at e; cases e
  | .scr _, _, _, _, e => by simp only [toD] at e; cases e
  | .gl _, _, _, _, e => by simp only [toD] at e; cases e
  | .ty _, _, _, _, e => by simp only [toD] at e; cases e
  | .clo, _, _, _, e => by simp only [toD] at e; cases e
theorem toDs_R {Z : Hp} {m : List Addr} {F : Hp} {S : Store} {H : Hp} (sr : SR P Z m F S H) : ∀ (xs : List PV) (us : List V) (ds : List PyData), VRs P Z m xs us → toDs S xs = some ds → DpAll P.K H us ds
  | [], _, _, h, e => by cases h; simp only [toDs] at e; cases e; exact .nil
  | x :: xs, _, ds, h, e => by
    obtain ⟨v, r, rfl, h1, h2⟩ := h
    simp only [toDs] at e
    cases e1 : toD S x with
    | none => rw [e1] at e; cases e
    | some d =>
      cases e2 : toDs S xs with
      | none => rw [e1, e2] at e; cases e
      | some ds' =>
        rw [e1, e2] at e
        cases e
        exact .cons (toD_R sr x v d h1 e1) (toDs_R sr xs r ds' h2 e2)
end
theorem toD1_R {Z : Hp} {m : List Addr} {F : Hp} {S : Store} {H : Hp} (sr : SR P Z m F S H) {x : PV} {u : V} {d : PyData} (h : VR P Z m x u) (e : toD1 S x = some d) : Dp P.K H u d := by
  cases x with
  | rf i =>
    have e' : (lstOf S (.rf i)).bind (fun xs => (toDs S xs).map .list) = some d := by
      simp only [toD1] at e
      simp only [lstOf]
      cases q : S[i]? with
      | none => rw [q] at e; cases e
      | some c => rw [q] at e; cases c <;> first | exact e | cases e
    obtain ⟨xs, e1, e2⟩ := Option.bind_eq_some_iff.mp e'
    obtain ⟨ds, e3, rfl⟩ := Option.map_eq_some_iff.mp e2
    obtain ⟨a, vs, rfl, ha, r⟩ := lstOf_R sr h e1
    exact .lst (SqL.of ha) (toDs_R sr xs vs ds r e3)
  | _ => exact toD_R sr _ u d h e

def rrB (P : Par) (f : PV → PV → Store → Rs Bool) : R2 := fun u v H Q => ∃ Z m F S x y E, SR P Z m F S H ∧ VR P Z m x u ∧ VR P Z m y v ∧ okB P Z m F (f x y S) (fun b H' => Q (.bl b) H') E
theorem op_eqP (hK : X.K = P.K) (hu : X.A.units + 64 < cLine) (C : Cfg) : OpR X (compareOp .Eq) (rrB P (eqV C)) := by
  intro pins s τ H u v uv vv Q I ru rv h
  obtain ⟨Z, m, F, S, x, y, E, sr, hx, hy, q⟩ := h
  unfold eqV at q
  cases e1 : toD1 S x with
  | none => rw [e1] at q; exact q.elim
  | some d =>
    cases e2 : toD1 S y with
    | none => rw [e1, e2] at q; exact q.elim
    | some e =>
      rw [e1, e2] at q
      obtain ⟨hc, q⟩ := okR_guard q
      obtain ⟨c1, c2⟩ := Bool.and_eq_true_iff.mp hc
      exact op_eqD hu pins s τ H u v uv vv Q I ru rv ⟨d, e, hK ▸ toD1_R sr hx e1, hK ▸ toD1_R sr hy e2, c1, c2, okB.ret q sr⟩
theorem okB_not {Z : Hp} {m : List Addr} {F : Hp} {r : Rs Bool} {Q : Bool → Hp → Prop} (h : okB P Z m F (r.bnd fun b S => .ok (!b) S) Q E) : okB P Z m F r (fun b H' => Q (!b) H') E := by
  cases r with
  | ok b S => exact fun Z' m' u H' a b' c d => h Z' m' (!u) H' a b' c (by rw [d])
  | exc c fs S => exact h
  | bad => exact h
theorem op_neP (hK : X.K = P.K) (hu : X.A.units + 64 < cLine) (C : Cfg) : OpR X (compareOp .NotEq) (rrB P fun x y S => (eqV C x y S).bnd fun b S => .ok (!b) S) := by
  intro pins s τ H u v uv vv Q I ru rv h
  obtain ⟨Z, m, F, S, x, y, E, sr, hx, hy, q⟩ := h
  have q := okB_not q
  unfold eqV at q
  cases e1 : toD1 S x with
  | none => rw [e1] at q; exact q.elim
  | some d =>
    cases e2 : toD1 S y with
    | none => rw [e1, e2] at q; exact q.elim
    | some e =>
      rw [e1, e2] at q
      obtain ⟨hc, q⟩ := okR_guard q
      obtain ⟨c1, c2⟩ := Bool.and_eq_true_iff.mp hc
      exact op_neD hu pins s τ H u v uv vv Q I ru rv ⟨d, e, hK ▸ toD1_R sr hx e1, hK ▸ toD1_R sr hy e2, c1, c2, okB.ret q sr⟩

theorem flat_R {Z : Hp} {m : List Addr} {x : PV} {u : V} (h : VR P Z m x u) (f : flat x = true) : flatV u = true ∧ ∀ y w, VR P Z m y w → flat y = true → L2.eqV w u = flatEq y x := by
  cases x with
  | non => cases h; exact ⟨rfl, fun y w hy fy => by cases y <;> first | (cases hy; rfl) | cases fy⟩
  | bl b => cases h; exact ⟨rfl, fun y w hy fy => by cases y <;> first | (cases hy; rfl) | cases fy⟩
  | int b => cases h; exact ⟨rfl, fun y w hy fy => by cases y <;> first | (cases hy; rfl) | cases fy⟩
  | str b => cases h; exact ⟨rfl, fun y w hy fy => by cases y <;> first | (cases hy; rfl) | cases fy⟩
  | _ => cases f
theorem inV_R {Z : Hp} {m : List Addr} {x : PV} {u : V} (h : VR P Z m x u) (f : flat x = true) : ∀ {ys : List PV} {vs : List V}, VRs P Z m ys vs → ys.all flat = true → vs.all flatV = true ∧ L2.inV u vs = ys.any fun y => flatEq y x
  | [], _, r, _ => by cases r; exact ⟨rfl, rfl⟩
  | y :: ys, _, r, fs => by
    obtain ⟨v, r', rfl, h1, h2⟩ := r
    rw [List.all_cons, Bool.and_eq_true_iff] at fs
    obtain ⟨g1, g2⟩ := inV_R h f h2 fs.2
    refine ⟨by rw [List.all_cons, (flat_R h1 fs.1).1, g1]; rfl, ?_⟩
    unfold L2.inV at g2 ⊢
    rw [List.any_cons, List.any_cons, g2, (flat_R h f).2 y v h1 fs.1]
theorem op_inP (hK : X.K = P.K) : OpR X (compareOp .In) (rrB P inV) := by
  intro pins s τ H u v uv vv Q I ru rv h
  obtain ⟨Z, m, F, S, x, y, E, sr, hx, hy, q⟩ := h
  unfold inV at q
  cases e1 : seqOf S y with
  | none => rw [e1] at q; exact q.elim
  | some ys =>
    rw [e1] at q
    obtain ⟨hc, q⟩ := okR_guard q
    obtain ⟨c1, c2⟩ := Bool.and_eq_true_iff.mp hc
    obtain ⟨a, vs, rfl, hs, r⟩ := seqOf_R sr hy e1
    obtain ⟨g1, g2⟩ := inV_R hx c1 r c2
    refine op_in_seq pins s τ H u _ uv vv Q I ru rv ⟨a, vs, rfl, hK ▸ hs, (flat_R hx c1).1, g1, ?_⟩
    rw [if_neg (by decide), g2]
    exact okB.ret q sr
theorem op_notInP (hK : X.K = P.K) : OpR X (compareOp .NotIn) (rrB P fun x y S => (inV x y S).bnd fun b S => .ok (!b) S) := by
  intro pins s τ H u v uv vv Q I ru rv h
  obtain ⟨Z, m, F, S, x, y, E, sr, hx, hy, q⟩ := h
  have q := okB_not q
  unfold inV at q
  cases e1 : seqOf S y with
  | none => rw [e1] at q; exact q.elim
  | some ys =>
    rw [e1] at q
    obtain ⟨hc, q⟩ := okR_guard q
    obtain ⟨c1, c2⟩ := Bool.and_eq_true_iff.mp hc
    obtain ⟨a, vs, rfl, hs, r⟩ := seqOf_R sr hy e1
    obtain ⟨g1, g2⟩ := inV_R hx c1 r c2
    refine op_notIn_seq pins s τ H u _ uv vv Q I ru rv ⟨a, vs, rfl, hK ▸ hs, (flat_R hx c1).1, g1, ?_⟩
    rw [if_pos rfl, g2]
    exact okB.ret q sr
theorem isNone_R {Z : Hp} {m : List Addr} {x : PV} {u : V} (h : VR P Z m x u) : decide (u = .non) = isNone x := by
  cases x with
  | tup xs => obtain ⟨a, vs, e, _⟩ := h; rw [e]; rfl
  | ro xs => obtain ⟨a, vs, e, _⟩ := h; rw [e]; rfl
  | rod _ _ => exact h.elim
  | obj c fs => obtain ⟨a, dx, fv, ns, e, _⟩ := h; rw [e]; rfl
  | rf i => obtain ⟨a, _, e⟩ := h; rw [e]; rfl
  | scr ns => obtain ⟨a, e, _⟩ := h; rw [e]; rfl
  | clo => obtain ⟨f, _, _, _, e, _⟩ := h; rw [e]; rfl
  | exo c fs => obtain ⟨_, a, e, _⟩ := h; rw [e]; rfl
  | _ => cases h; rfl
theorem op_isP : OpR X (compareOp .Is) (rrB P isV) := by
  intro pins s τ H u v uv vv Q I ru rv h
  obtain ⟨Z, m, F, S, x, y, E, sr, hx, hy, q⟩ := h
  cases y with
  | non =>
    refine op_isN pins s τ H u v uv vv Q I ru rv ⟨hy, ?_⟩
    rw [isNone_R hx]
    exact okB.ret q sr
  | _ => exact q.elim
theorem op_isNotP : OpR X (compareOp .IsNot) (rrB P fun x y S => (isV x y S).bnd fun b S => .ok (!b) S) := by
  intro pins s τ H u v uv vv Q I ru rv h
  obtain ⟨Z, m, F, S, x, y, E, sr, hx, hy, q⟩ := h
  have q := okB_not q
  cases y with
  | non =>
    refine op_notN pins s τ H u v uv vv Q I ru rv ⟨hy, ?_⟩
    rw [isNone_R hx]
    exact okB.ret q sr
  | _ => exact q.elim
theorem op_ordP (op : CmpOp) : OpR X (compareOp op) (rrB P (ordV op)) := by
  intro pins s τ H u v uv vv Q I ru rv h
  obtain ⟨Z, m, F, S, x, y, E, sr, hx, hy, q⟩ := h
  cases x with
  | int i => cases y with
    | int j =>
      cases op with
      | Lt => exact op_lt pins s τ H u v uv vv Q I ru rv ⟨i, j, hx, hy, okB.ret q sr⟩
      | LtE => exact op_le pins s τ H u v uv vv Q I ru rv ⟨i, j, hx, hy, okB.ret q sr⟩
      | Gt => exact op_gt pins s τ H u v uv vv Q I ru rv ⟨i, j, hx, hy, okB.ret q sr⟩
      | GtE => exact op_ge pins s τ H u v uv vv Q I ru rv ⟨i, j, hx, hy, okB.ret q sr⟩
      | _ => exact q.elim
    | _ => exact q.elim
  | _ => exact (show False from by cases y <;> exact q).elim
theorem op_cmpP (hK : X.K = P.K) (hu : X.A.units + 64 < cLine) (C : Cfg) (op : CmpOp) : OpR X (compareOp op) (rrB P (cmpV C op)) := by
  cases op with
  | Eq => exact op_eqP hK hu C
  | NotEq => exact op_neP hK hu C
  | Is => exact op_isP
  | IsNot => exact op_isNotP
  | In => exact op_inP hK
  | NotIn => exact op_notInP hK
  | Lt => exact op_ordP .Lt
  | LtE => exact op_ordP .LtE
  | Gt => exact op_ordP .Gt
  | GtE => exact op_ordP .GtE

/-! ### subscripts -/
theorem atI_R {Z : Hp} {m : List Addr} {xs : List PV} {vs : List V} (r : VRs P Z m xs vs) {i : Int} {x : PV} (e : atI xs i = some x) : ∃ v, atI vs i = some v ∧ VR P Z m x v := by
  unfold atI at e ⊢
  rw [← r.length]
  obtain ⟨j, e1, e2⟩ := Option.bind_eq_some_iff.mp e
  obtain ⟨v, e3, e4⟩ := r.get e2
  exact ⟨v, by rw [e1]; exact e3, e4⟩
theorem ix_P (hK : X.K = P.K) : IxR X (rr P ixV) := by
  intro value slice pins s τ H u v uv vv Q I ru rv h hs
  obtain ⟨Z, m, F, S, x, y, E, sr, hx, hy, q⟩ := h
  unfold ixV at q
  cases y with
  | int i =>
    simp only at q
    cases e1 : seqOf S x with
    | none => rw [e1] at q; exact q.elim
    | some xs =>
      rw [e1] at q
      simp only at q
      cases e2 : atI xs i with
      | none => rw [e2] at q; exact q.elim
      | some z =>
        rw [e2] at q
        obtain ⟨a, vs, rfl, hq, r⟩ := seqOf_R sr hx e1
        obtain ⟨w, e3, r3⟩ := atI_R r e2
        rcases hq with hq | hq
        · exact ix_list value slice pins s τ H _ v uv vv Q I ru rv ⟨a, vs, i, w, rfl, hy, hK ▸ hq, e3, okE.ret q sr r3⟩ hs
        · exact ix_tup value slice pins s τ H _ v uv vv Q I ru rv ⟨a, vs, i, w, rfl, hy, hK ▸ hq, e3, okE.ret q sr r3⟩ hs
  | _ => exact q.elim
theorem cut_R {Z : Hp} {m : List Addr} {xs : List PV} {vs : List V} (r : VRs P Z m xs vs) (lo hi : Option Int) : VRs P Z m (cutP xs lo hi) (cutV vs lo hi) := by
  unfold cutP cutV
  rw [r.length]
  exact VRs.take _ (VRs.drop _ r)
def rsl (P : Par) : V → Option Int → Option Int → Hp → VK → Prop := fun u lo hi H Q => ∃ Z m F S x E, SR P Z m F S H ∧ VR P Z m x u ∧ okE P Z m F (slV x lo hi S) Q E
theorem cutV_all {vs : List V} {lo hi : Option Int} (h : HT.sIx vs.length 0 lo = 0 ∧ HT.sIx vs.length vs.length hi = vs.length) : cutV vs lo hi = vs := by
  unfold cutV
  rw [h.1, h.2]
  simp
theorem sl_P (hK : X.K = P.K) : SlR X (rsl P) := by
  intro pins s τ H u uv vl vu lo hi sl Q I ru hs pl pu h
  refine (SlR.or sl_list sl_tupA) pins s τ H u uv vl vu lo hi sl Q I ru hs pl pu ?_
  obtain ⟨Z, m, F, S, x, E, sr, hx, q⟩ := h
  have lists : ∀ {xs : List PV}, lstOf S x = some xs → okE P Z m F (.ok (.ro (cutP xs lo hi)) S) Q E → rSlL X.K u lo hi H Q := fun {xs} e1 q => by
    obtain ⟨a, vs, rfl, ha, r1⟩ := lstOf_R sr hx e1
    exact ⟨a, vs, rfl, SqL.of ha, okE.newL q sr (cut_R r1 lo hi)⟩
  cases x with
  | tup xs =>
    obtain ⟨a, vs, rfl, ha, r1⟩ := id hx
    refine .inr ⟨a, vs, rfl, hK ▸ Same.sqT sr.zh ha, fun e => ?_, fun _ => okE.newT q sr (cut_R r1 lo hi)⟩
    refine okE.ret q sr ⟨a, vs, rfl, ha, ?_⟩
    have := cut_R r1 lo hi
    rw [cutV_all e] at this
    exact this
  | scr ns =>
    obtain ⟨a, rfl, ha⟩ := id hx
    exact .inl ⟨a, ns.map V.int, rfl, hK ▸ sr.zh.seq ha, okE.newL q sr (cut_R VRs.ints lo hi)⟩
  | ro xs => exact .inl (lists rfl q)
  | rf i =>
    cases e1 : lstOf S (.rf i) with
    | none => simp only [slV] at q; rw [e1] at q; exact q.elim
    | some xs => simp only [slV] at q; rw [e1] at q; exact .inl (lists e1 q)
  | _ => exact (show False from q).elim
end
end Ev

end
section
set_option Elab.async false
set_option linter.all false
set_option maxRecDepth 100000
set_option maxHeartbeats 1000000
namespace Ev
open PySem L2

/-! ### what a context must have -/
structure ClsF (K : PySem.W.Frag) (C : Addr) : Prop where
  cl : Cls K C
  ha : PySem.W.findIn K (.ref C) "__class__" = some (some (.builtin "object.__class__"))
  hn : PySem.W.specialIn K (.builtin "object.__class__") "__get__" = some (some (.builtin "getset_descriptor.__get__"))
  ht : PySem.W.takesIn K (.builtin "object.__class__") = some true
  hm : PySem.W.mroIn K C (.type "object") = some true
/-- what the written part must say -/
structure ParOk (P : Par) : Prop where
  cls : ∀ c ns, P.fn c = some ns → ClsF P.K (He.ga P.K c)
  noa : ∀ c ns f, P.fn c = some ns → f ∈ ns → NoAttr P.K (He.ga P.K c) f
  sb : ∀ c q b, P.sub c q = some b → PySem.W.kitOne P.K (.ref (He.ga P.K c)) (match q with | .ty n => .type n | .own d => .ref (He.ga P.K d)) = some b
  k3 : ∀ d (n : String), P.sub d (.own d) = some true → n ∈ ["NoneType", "int", "bool", "str", "tuple", "list", "dict"] → PySem.W.kitOne P.K (.type n) (.ref (He.ga P.K d)) = some false
  xm : ∀ c d b, P.exn c = true → P.exn d = true → P.sub c (.own d) = some b → PySem.W.exmOne P.K (.ref (He.ga P.K c)) (.ref (He.ga P.K d)) = some b
  xc : ∀ c, P.exn c = true → ExcC P.K (He.ga P.K c)

structure CxOk (X : Cx) (P : Par) (W : L2.WX) (C : Cfg) : Prop where
  hK : X.K = P.K
  pk : ParOk P
  un : X.A.units + 100 < cLine
  nd : X.N.Nodup
  fl : C.flds = P.fn
  sb : C.sub = P.sub
theorem CxOk.hu {X : Cx} {P : Par} {W : L2.WX} {C : Cfg} (o : CxOk X P W C) : X.A.units + 64 < cLine := by have := o.un; omega

section
variable {X : Cx} {P : Par} {W : L2.WX} {C : Cfg} {k : Nat} {a b c : Expr} {da db dc : Den} {ta tb : DenT} {pos : Pos} {es : List Expr} {dl : DenL}
/-- a chain of parts -/
theorem bnd1 {α β γ δ : Type} {R : Hp → List Addr → α → β → Prop} {R' : Hp → List Addr → γ → δ → Prop} {Z : Hp} {m : List Addr} {F : Hp} {r : Rs α} {f : α → Store → Rs γ} {Q : δ → Hp → Prop} {E : XK} {Q' : β → Hp → Prop}
    (h : okR R' P Z m F (r.bnd f) Q E) (g : ∀ u H' Z' m' S' v, Same Z Z' → m <+: m' → SR P Z' m' F S' H' → R Z' m' v u → okR R' P Z' m' F (f v S') Q E → Q' u H') : okR R P Z m F r Q' E :=
  okR.imp (okR_bnd h) fun u H' ⟨Z', m', S', v, a, b, c, d, e⟩ => g u H' Z' m' S' v a b c d e

theorem e_cst_int {i : Int} {j : Nat} : PE X (.Constant (.int i) j pos) (tD P W C (dCst (.int i))) := PE.weak pe_int fun τ H Q ⟨Z, m, F, S, σ, sr, sl, q⟩ => okE.ret q sr rfl
theorem e_cst_bool {i : Bool} {j : Nat} : PE X (.Constant (.bool i) j pos) (tD P W C (dCst (.bl i))) := PE.weak pe_bl fun τ H Q ⟨Z, m, F, S, σ, sr, sl, q⟩ => okE.ret q sr rfl
theorem e_cst_none {j : Nat} : PE X (.Constant .none j pos) (tD P W C (dCst .non)) := PE.weak pe_non fun τ H Q ⟨Z, m, F, S, σ, sr, sl, q⟩ => okE.ret q sr rfl
theorem e_cst_str {i : SS} {j : Nat} : PE X (.Constant (.str i) j pos) (tD P W C (dCst (.str i))) := PE.weak pe_str fun τ H Q ⟨Z, m, F, S, σ, sr, sl, q⟩ => okE.ret q sr rfl
theorem dVar_ok {Z : Hp} {m : List Addr} {F : Hp} {S : Store} {σ : Sl} {τ : St} {H : Hp} {i : Nat} {Q : VK} {E : XK} (q : okE P Z m F (dVar i C σ S) Q E) (sr : SR P Z m F S H) (sl : SgR P Z m σ τ) : ∃ u, τ[i]? = some (some u) ∧ Q u H := by
  unfold dVar at q
  cases e : σ[i]? with
  | none => rw [e] at q; exact q.elim
  | some o =>
    cases o with
    | none => rw [e] at q; exact q.elim
    | some v =>
      rw [e] at q
      obtain ⟨u, e1, r⟩ := sl.2 i v e
      exact ⟨u, e1, okE.ret q sr r⟩
theorem e_var {i : Nat} {x : SS} (hN : X.N[i]? = some x) (hv : Vis X.env.scope x) (h1 : (x == ("__debug__" : SS)) = false) (h2 : (x == ("__classdict__" : SS)) = false) : PE X (.Name x pos) (tD P W C (dVar i)) :=
  PE.weak (pe_var hN hv h1 h2) fun τ H Q ⟨Z, m, F, S, σ, sr, sl, q⟩ => dVar_ok q sr sl
theorem e_gl (o : CxOk X P W C) {x : SS} (hg : Gl X x) (hm : X.mg x = some (.ref (He.ga P.K x))) (h1 : (x == ("__debug__" : SS)) = false) : PE X (.Name x pos) (tD P W C (dCst (.gl x))) :=
  PE.weak (pe_glob (v := .ref (He.ga P.K x)) hg hm rfl h1) fun τ H Q ⟨Z, m, F, S, σ, sr, sl, q⟩ => okE.ret q sr rfl
theorem e_gint {x : SS} {i : Int} {t : Tok} (hg : Gl X x) (hm : X.mg x = some (.int i t)) (h1 : (x == ("__debug__" : SS)) = false) : PE X (.Name x pos) (tD P W C (dCst (.int i))) :=
  PE.weak (pe_glob (v := .int i) hg hm ⟨t, rfl⟩ h1) fun τ H Q ⟨Z, m, F, S, σ, sr, sl, q⟩ => okE.ret q sr rfl
theorem e_gstr {x : SS} {i : SS} {t : Tok} (hg : Gl X x) (hm : X.mg x = some (.str i t)) (h1 : (x == ("__debug__" : SS)) = false) : PE X (.Name x pos) (tD P W C (dCst (.str i))) :=
  PE.weak (pe_glob (v := .str i) hg hm ⟨t, rfl⟩ h1) fun τ H Q ⟨Z, m, F, S, σ, sr, sl, q⟩ => okE.ret q sr rfl

/-! ### operators -/
theorem e_bin (o : CxOk X P W C) {op : Operator} (ha : PE X a (tD P W C da)) (hb : PE X b (tD P W C db)) : PE X (.BinOp a op b pos) (tD P W C (dBin op da db)) := by
  refine PE.weak (pe_op (op_binP o.hK op) ha hb) fun τ H Q ⟨Z, m, F, S, σ, sr, sl, q⟩ => ?_
  refine ⟨Z, m, F, S, σ, sr, sl, bnd1 q fun u H1 Z1 m1 S1 x z1 p1 sr1 r1 q1 => ?_⟩
  refine ⟨Z1, m1, F, S1, σ, sr1, sl.mono z1 p1, bnd1 q1 fun v H2 Z2 m2 S2 y z2 p2 sr2 r2 q2 => ?_⟩
  exact ⟨Z2, m2, F, S2, x, y, _, sr2, VR.mono z2 p2 _ _ r1, r2, q2⟩
theorem e_binM {op : Operator} (ha : PE X a (tD P W C da)) (hb : PE X b (tD P W C db)) : PE X (.BinOp a op b pos) (tD P W C (dBinM op da db)) := by
  refine PE.weak (pe_op (op_binMP (P := P) op) ha hb) fun τ H Q ⟨Z, m, F, S, σ, sr, sl, q⟩ => ?_
  refine ⟨Z, m, F, S, σ, sr, sl, bnd1 q fun u H1 Z1 m1 S1 x z1 p1 sr1 r1 q1 => ?_⟩
  refine ⟨Z1, m1, F, S1, σ, sr1, sl.mono z1 p1, bnd1 q1 fun v H2 Z2 m2 S2 y z2 p2 sr2 r2 q2 => ?_⟩
  exact ⟨Z2, m2, F, S2, x, y, _, sr2, VR.mono z2 p2 _ _ r1, r2, q2⟩
theorem e_un {op : UnaryOp} (ha : PE X a (tD P W C da)) : PE X (.UnaryOp op a pos) (tD P W C (dUn op da)) := by
  refine PE.weak (pe_un (op_unP (P := P) op) ha) fun τ H Q ⟨Z, m, F, S, σ, sr, sl, q⟩ => ?_
  exact ⟨Z, m, F, S, σ, sr, sl, bnd1 q fun u H1 Z1 m1 S1 x z1 p1 sr1 r1 q1 => ⟨Z1, m1, F, S1, x, _, sr1, r1, q1⟩⟩

theorem cmp_red {op : CmpOp} {τ : St} {H : Hp} {Q : Bool → Hp → Prop} (h : tT P W C (tCmp op da db) τ H Q) : tOp (rrB P (cmpV C op)) (tD P W C da) (tD P W C db) τ H (fun x H' => ∃ k, x = .bl k ∧ Q k H') := by
  obtain ⟨Z, m, F, S, σ, sr, sl, q⟩ := h
  refine ⟨Z, m, F, S, σ, sr, sl, bnd1 q fun u H1 Z1 m1 S1 x z1 p1 sr1 r1 q1 => ?_⟩
  refine ⟨Z1, m1, F, S1, σ, sr1, sl.mono z1 p1, bnd1 q1 fun v H2 Z2 m2 S2 y z2 p2 sr2 r2 q2 => ?_⟩
  exact ⟨Z2, m2, F, S2, x, y, _, sr2, VR.mono z2 p2 _ _ r1, r2, okR.imp q2 fun b H' q => ⟨b, rfl, q⟩⟩
theorem t_cmp (o : CxOk X P W C) {op : CmpOp} (ha : PE X a (tD P W C da)) (hb : PE X b (tD P W C db)) (hm : behindInMarks op b = false) : PT X (.Compare a [op] [b] pos) (tT P W C (tCmp op da db)) :=
  PT.weak (pt_cmpR (op_cmpP o.hK o.hu C op) ha hb hm) fun τ H Q h => cmp_red h
/-- a test's reading as a value's -/
theorem tst_red {t : DenT} {τ : St} {H : Hp} {Q : VK} (h : tD P W C (dTst t) τ H Q) : tT P W C t τ H (fun b H' => Q (.bl b) H') := by
  obtain ⟨Z, m, F, S, σ, sr, sl, q⟩ := h
  exact ⟨Z, m, F, S, σ, sr, sl, bnd1 q fun u H1 Z1 m1 S1 x z1 p1 sr1 r1 q1 => by cases r1; exact okE.ret q1 sr1 rfl⟩
theorem e_cmp (o : CxOk X P W C) {op : CmpOp} (ha : PE X a (tD P W C da)) (hb : PE X b (tD P W C db)) (hm : behindInMarks op b = false) : PE X (.Compare a [op] [b] pos) (tD P W C (dTst (tCmp op da db))) := by
  refine PE.weak (pe_cmpR (op_cmpP o.hK o.hu C op) ha hb hm) fun τ H Q h => ?_
  obtain ⟨Z, m, F, S, σ, sr, sl, q⟩ := cmp_red (tst_red h)
  exact ⟨Z, m, F, S, σ, sr, sl, okR.imp q fun u H1 ⟨Z1, m1, F1, S1, σ1, sr1, sl1, q1⟩ => ⟨Z1, m1, F1, S1, σ1, sr1, sl1, okR.imp q1 fun v H2 ⟨Z2, m2, F2, S2, x, y, E2, sr2, rx, ry, q2⟩ => ⟨Z2, m2, F2, S2, x, y, E2, sr2, rx, ry, okR.imp q2 fun b H' ⟨k, e, q⟩ => by cases e; exact q⟩⟩⟩
theorem chn_red {op op' : CmpOp} {τ : St} {H : Hp} {Q : Bool → Hp → Prop} (h : tT P W C (tChn op op' da db dc) τ H Q) : tChain (rrB P (cmpV C op)) (rrB P (cmpV C op')) (tD P W C da) (tD P W C db) (tD P W C dc) τ H (fun x H' => ∃ k, x = .bl k ∧ Q k H') := by
  obtain ⟨Z, m, F, S, σ, sr, sl, q⟩ := h
  refine ⟨Z, m, F, S, σ, sr, sl, bnd1 q fun u H1 Z1 m1 S1 x z1 p1 sr1 r1 q1 => ?_⟩
  refine ⟨Z1, m1, F, S1, σ, sr1, sl.mono z1 p1, bnd1 q1 fun v H2 Z2 m2 S2 y z2 p2 sr2 r2 q2 => ?_⟩
  refine ⟨Z2, m2, F, S2, x, y, _, sr2, VR.mono z2 p2 _ _ r1, r2, bnd1 q2 fun kb H3 Z3 m3 S3 kk z3 p3 sr3 r3 q3 => ?_⟩
  subst r3
  refine ⟨kk, rfl, ?_⟩
  cases kk with
  | true =>
    rw [if_pos rfl] at q3 ⊢
    refine ⟨Z3, m3, F, S3, σ, sr3, ((sl.mono z1 p1).mono z2 p2).mono z3 p3, bnd1 q3 fun w H4 Z4 m4 S4 z z4 p4 sr4 r4 q4 => ?_⟩
    exact ⟨Z4, m4, F, S4, y, z, _, sr4, VR.mono (z3.trans z4) (p3.trans p4) _ _ r2, r4, okR.imp q4 fun b H' q => ⟨b, rfl, q⟩⟩
  | false =>
    rw [if_neg Bool.false_ne_true] at q3 ⊢
    exact ⟨false, rfl, okB.ret q3 sr3⟩
end
end Ev

end
section
set_option Elab.async false
set_option linter.all false
set_option maxRecDepth 100000
set_option maxHeartbeats 1000000
namespace Ev
open PySem L2
section
variable {X : Cx} {P : Par} {W : L2.WX} {C : Cfg} {k : Nat} {a b c e : Expr} {da db dc : Den} {ta tb : DenT} {pos : Pos} {es : List Expr} {dl : DenL}
theorem t_chn (o : CxOk X P W C) {op op' : CmpOp} (ha : PE X a (tD P W C da)) (hb : PE X b (tD P W C db)) (hc : PE X c (tD P W C dc)) (hm : lastMarks [op, op'] [b, c] = false) : PT X (.Compare a [op, op'] [b, c] pos) (tT P W C (tChn op op' da db dc)) :=
  PT.weak (pt_chain (op_cmpP o.hK o.hu C op) (op_cmpP o.hK o.hu C op') ha hb hc hm) fun τ H Q h => chn_red h
theorem rrB_imp {f : PV → PV → Store → Rs Bool} {u v : V} {H : Hp} {Q Q' : VK} (h : rrB P f u v H Q) (q : ∀ b H', Q (.bl b) H' → Q' (.bl b) H') : rrB P f u v H Q' := by
  obtain ⟨Z, m, F, S, x, y, E, sr, rx, ry, h⟩ := h
  exact ⟨Z, m, F, S, x, y, E, sr, rx, ry, okR.imp h fun b H' => q b H'⟩
theorem tD_imp {d : Den} {τ : St} {H : Hp} {Q Q' : VK} (h : tD P W C d τ H Q) (q : ∀ b H', Q b H' → Q' b H') : tD P W C d τ H Q' := by
  obtain ⟨Z, m, F, S, σ, sr, sl, h⟩ := h
  exact ⟨Z, m, F, S, σ, sr, sl, okR.imp h q⟩
theorem e_chn (o : CxOk X P W C) {op op' : CmpOp} (ha : PE X a (tD P W C da)) (hb : PE X b (tD P W C db)) (hc : PE X c (tD P W C dc)) (hm : lastMarks [op, op'] [b, c] = false) : PE X (.Compare a [op, op'] [b, c] pos) (tD P W C (dTst (tChn op op' da db dc))) := by
  refine PE.weak (pe_chain (op_cmpP o.hK o.hu C op) (op_cmpP o.hK o.hu C op') ha hb hc hm) fun τ H Q h => ?_
  have h := chn_red (tst_red h)
  refine tD_imp h fun u H1 h => tD_imp h fun v H2 h => rrB_imp h fun kb H3 ⟨kk, e, h⟩ => ⟨kk, e, ?_⟩
  cases kk with
  | true =>
    rw [if_pos rfl] at h ⊢
    exact tD_imp h fun w H4 h => rrB_imp h fun z H5 ⟨k2, e2, q⟩ => by cases e2; exact q
  | false =>
    rw [if_neg Bool.false_ne_true] at h ⊢
    obtain ⟨k2, e2, q⟩ := h
    cases e2; exact q

/-! ### and, or, not -/
theorem t_and1 (ha : PT X a (tT P W C ta)) : PW X (.BoolOp .And [a] pos) (tT P W C ta) := pw_and1 ha
theorem t_or1 (ha : PT X a (tT P W C ta)) : PW X (.BoolOp .Or [a] pos) (tT P W C ta) := pw_or1 ha
theorem t_and {rest : List Expr} (ha : PT X a (tT P W C ta)) (hb : PW X (.BoolOp .And (b :: rest) pos) (tT P W C tb)) : PW X (.BoolOp .And (a :: b :: rest) pos) (tT P W C (tAnd ta tb)) := by
  refine PW.weak (pw_and ha hb) fun τ H Q ⟨Z, m, F, S, σ, sr, sl, q⟩ => ?_
  refine ⟨Z, m, F, S, σ, sr, sl, bnd1 q fun u H1 Z1 m1 S1 x z1 p1 sr1 r1 q1 => ?_⟩
  subst r1
  cases x with
  | true => exact ⟨Z1, m1, F, S1, σ, sr1, sl.mono z1 p1, q1⟩
  | false => exact okB.ret q1 sr1
theorem t_or {rest : List Expr} (ha : PT X a (tT P W C ta)) (hb : PW X (.BoolOp .Or (b :: rest) pos) (tT P W C tb)) : PW X (.BoolOp .Or (a :: b :: rest) pos) (tT P W C (tOr ta tb)) := by
  refine PW.weak (pw_or ha hb) fun τ H Q ⟨Z, m, F, S, σ, sr, sl, q⟩ => ?_
  refine ⟨Z, m, F, S, σ, sr, sl, bnd1 q fun u H1 Z1 m1 S1 x z1 p1 sr1 r1 q1 => ?_⟩
  subst r1
  cases x with
  | true => exact okB.ret q1 sr1
  | false => exact ⟨Z1, m1, F, S1, σ, sr1, sl.mono z1 p1, q1⟩
theorem t_not (ha : PT X a (tT P W C ta)) : PT X (.UnaryOp .Not a pos) (tT P W C (Ev.tNot ta)) := by
  refine PT.weak (pt_not ha) fun τ H Q ⟨Z, m, F, S, σ, sr, sl, q⟩ => ?_
  exact ⟨Z, m, F, S, σ, sr, sl, bnd1 q fun u H1 Z1 m1 S1 x z1 p1 sr1 r1 q1 => by subst r1; exact okB.ret q1 sr1⟩
theorem empty_R {Z : Hp} {m : List Addr} {xs : List PV} {vs : List V} (r : VRs P Z m xs vs) : xs.isEmpty = vs.isEmpty := by
  have := r.length
  cases xs <;> cases vs <;> first | rfl | (simp at this)
theorem truV_R {Z : Hp} {m : List Addr} {F : Hp} {S : Store} {H : Hp} (sr : SR P Z m F S H) {x : PV} {u : V} (h : VR P Z m x u) {b : Bool} (e : truV S x = some b) : TruV P.K u H b := by
  cases x with
  | bl c => cases h; cases e; rfl
  | int i => cases h; cases e; rfl
  | non => cases h; cases e; rfl
  | tup xs =>
    obtain ⟨a, vs, rfl, q, r⟩ := h
    cases e
    exact .inr (.inl ⟨vs, Same.sqT sr.zh q, by rw [empty_R r]⟩)
  | ro xs =>
    obtain ⟨a, vs, rfl, q, r⟩ := h
    cases e
    exact .inl ⟨vs, SqL.of (sr.zh _ _ q), by rw [empty_R r]⟩
  | rf i =>
    simp only [truV] at e
    obtain ⟨a, e1, rfl⟩ := h
    cases e2 : S[i]? with
    | none => rw [e2] at e; cases e
    | some c =>
      rw [e2] at e
      cases c with
      | lst xs =>
        cases e
        obtain ⟨a', e3, vs, e4, r⟩ := sr.cell i _ e2
        rw [e1] at e3; cases e3
        exact .inl ⟨vs, SqL.of e4, by rw [empty_R r]⟩
      | _ => cases e
  | _ => cases e
theorem t_val (hK : X.K = P.K) (ha : PE X a (tD P W C da)) (he : ∀ whole, isTrue a X.env whole = (do let v ← whole; standAt a.pos; holding [v] (truthy v))) : PT X a (tT P W C (tVal da)) := by
  refine PT.weak (pt_truth ha he) fun τ H Q ⟨Z, m, F, S, σ, sr, sl, q⟩ => ?_
  refine ⟨Z, m, F, S, σ, sr, sl, bnd1 q fun u H1 Z1 m1 S1 x z1 p1 sr1 r1 q1 => ?_⟩
  cases e : truV S1 x with
  | none => rw [e] at q1; exact q1.elim
  | some b => rw [e] at q1; exact ⟨b, hK ▸ truV_R sr1 r1 e, okB.ret q1 sr1⟩
theorem asB_R {Z : Hp} {m : List Addr} {F : Hp} {S : Store} {x : PV} {u : V} {γ δ : Type} {R' : Hp → List Addr → γ → δ → Prop} {f : Bool → Store → Rs γ} {Q : δ → Hp → Prop} {E : XK} (r : VR P Z m x u) (q : okR R' P Z m F ((asB x S).bnd f) Q E) : ∃ b, u = .bl b ∧ okR R' P Z m F (f b S) Q E := by
  cases x with
  | bl b => exact ⟨b, r, q⟩
  | _ => exact q.elim
theorem e_and1 {op} (ha : PE X a (tD P W C da)) : PE X (.BoolOp op [a] pos) (tD P W C da) := pe_one ha
theorem e_and {rest : List Expr} (ha : PE X a (tD P W C da)) (hb : PE X (.BoolOp .And (b :: rest) pos) (tD P W C db)) : PE X (.BoolOp .And (a :: b :: rest) pos) (tD P W C (dAnd da db)) := by
  refine PE.weak (pe_and ha hb) fun τ H Q ⟨Z, m, F, S, σ, sr, sl, q⟩ => ?_
  refine ⟨Z, m, F, S, σ, sr, sl, bnd1 q fun u H1 Z1 m1 S1 x z1 p1 sr1 r1 q1 => ?_⟩
  obtain ⟨kb, e, q2⟩ := asB_R r1 q1
  refine ⟨kb, e, ?_⟩
  cases kb with
  | true => exact ⟨Z1, m1, F, S1, σ, sr1, sl.mono z1 p1, q2⟩
  | false => exact okE.ret q2 sr1 rfl
theorem e_or {rest : List Expr} (ha : PE X a (tD P W C da)) (hb : PE X (.BoolOp .Or (b :: rest) pos) (tD P W C db)) : PE X (.BoolOp .Or (a :: b :: rest) pos) (tD P W C (dOr da db)) := by
  refine PE.weak (pe_or ha hb) fun τ H Q ⟨Z, m, F, S, σ, sr, sl, q⟩ => ?_
  refine ⟨Z, m, F, S, σ, sr, sl, bnd1 q fun u H1 Z1 m1 S1 x z1 p1 sr1 r1 q1 => ?_⟩
  obtain ⟨kb, e, q2⟩ := asB_R r1 q1
  refine ⟨kb, e, ?_⟩
  cases kb with
  | true => exact okE.ret q2 sr1 rfl
  | false => exact ⟨Z1, m1, F, S1, σ, sr1, sl.mono z1 p1, q2⟩
theorem e_not (ha : PE X a (tD P W C da)) : PE X (.UnaryOp .Not a pos) (tD P W C (dNot da)) := by
  refine PE.weak (pe_not ha) fun τ H Q ⟨Z, m, F, S, σ, sr, sl, q⟩ => ?_
  refine ⟨Z, m, F, S, σ, sr, sl, bnd1 q fun u H1 Z1 m1 S1 x z1 p1 sr1 r1 q1 => ?_⟩
  obtain ⟨kb, e, q2⟩ := asB_R r1 q1
  exact ⟨kb, e, okE.ret q2 sr1 rfl⟩
theorem e_ite (hc : PT X c (tT P W C ta)) (ha : PE X a (tD P W C da)) (hb : PE X b (tD P W C db)) : PE X (.IfExp c a b pos) (tD P W C (dIte ta da db)) := by
  refine PE.weak (pe_ifExp hc ha hb) fun τ H Q ⟨Z, m, F, S, σ, sr, sl, q⟩ => ?_
  refine ⟨Z, m, F, S, σ, sr, sl, bnd1 q fun u H1 Z1 m1 S1 x z1 p1 sr1 r1 q1 => ?_⟩
  subst r1
  cases x with
  | true => exact ⟨Z1, m1, F, S1, σ, sr1, sl.mono z1 p1, q1⟩
  | false => exact ⟨Z1, m1, F, S1, σ, sr1, sl.mono z1 p1, q1⟩

/-! ### argument lists, displays -/
def notStar : Expr → Bool
  | .Starred _ _ => false
  | _ => true
theorem star_cons {env : Env} (h : notStar e = true) : starEach (e :: es) env = (false, eval e env) :: starEach es env := by
  cases e <;> first | rfl | cases h
theorem star_any {env : Env} : ∀ {es : List Expr}, es.all notStar = true → (backTo pos (starEach es env)).any (·.1) = false
  | [], _ => rfl
  | e :: es, h => by
    rw [List.all_cons, Bool.and_eq_true_iff] at h
    rw [star_cons h.1]
    show (false || (backTo pos (starEach es env)).any (·.1)) = false
    rw [star_any h.2]
    rfl
theorem a_nil : PA X [] (tA P W C lNil) := PA.weak pa_nil fun τ H Q ⟨Z, m, F, S, σ, sr, sl, q⟩ => q Z m [] H (Same.refl _) (List.prefix_refl _) sr rfl
theorem a_cons (h : notStar e = true) (he : PE X e (tD P W C da)) (hs : PA X es (tA P W C dl)) : PA X (e :: es) (tA P W C (lCons da dl)) := by
  refine PA.weak (pa_cons he hs (star_cons h)) fun τ H Q ⟨Z, m, F, S, σ, sr, sl, q⟩ => ?_
  refine ⟨Z, m, F, S, σ, sr, sl, bnd1 q fun u H1 Z1 m1 S1 x z1 p1 sr1 r1 q1 => ?_⟩
  refine ⟨Z1, m1, F, S1, σ, sr1, sl.mono z1 p1, bnd1 q1 fun us H2 Z2 m2 S2 xs z2 p2 sr2 r2 q2 => ?_⟩
  exact q2 Z2 m2 (u :: us) H2 (Same.refl _) (List.prefix_refl _) sr2 ⟨u, us, rfl, VR.mono z2 p2 _ _ r1, r2⟩
theorem e_tup {x1} (h : PA X es (tA P W C dl)) : PE X (.Tuple es x1 pos) (tD P W C (dTup dl)) := by
  refine PE.weak (pe_tup h) fun τ H Q ⟨Z, m, F, S, σ, sr, sl, q⟩ => ?_
  refine ⟨Z, m, F, S, σ, sr, sl, bnd1 q fun us H1 Z1 m1 S1 xs z1 p1 sr1 r1 q1 => ?_⟩
  obtain ⟨hc, q1⟩ := okR_guard q1
  exact ⟨by rw [← r1.length]; exact of_decide_eq_true hc, okE.newT q1 sr1 r1⟩
theorem e_lst {mt : Bool} (h : PA X es (tA P W C dl)) : PE X (.List es pos) (tD P W C (dLst mt dl)) := by
  refine PE.weak (pe_lst h) fun τ H Q ⟨Z, m, F, S, σ, sr, sl, q⟩ => ?_
  refine ⟨Z, m, F, S, σ, sr, sl, bnd1 q fun us H1 Z1 m1 S1 xs z1 p1 sr1 r1 q1 => ?_⟩
  obtain ⟨hc, q1⟩ := okR_guard q1
  exact ⟨by rw [← r1.length]; exact of_decide_eq_true hc, okE.mk q1 sr1 r1⟩

/-! ### subscripts, slices, fields -/
theorem e_ix (o : CxOk X P W C) (ha : PE X a (tD P W C da)) (hb : PE X b (tD P W C db)) (hs : PlainIx b) : PE X (.Subscript a b pos) (tD P W C (dIx da db)) := by
  refine PE.weak (pe_ix (ix_P o.hK) ha hb hs) fun τ H Q ⟨Z, m, F, S, σ, sr, sl, q⟩ => ?_
  refine ⟨Z, m, F, S, σ, sr, sl, bnd1 q fun u H1 Z1 m1 S1 x z1 p1 sr1 r1 q1 => ?_⟩
  refine ⟨Z1, m1, F, S1, σ, sr1, sl.mono z1 p1, bnd1 q1 fun v H2 Z2 m2 S2 y z2 p2 sr2 r2 q2 => ?_⟩
  exact ⟨Z2, m2, F, S2, x, y, _, sr2, VR.mono z2 p2 _ _ r1, r2, q2⟩
def tP (P : Par) (W : L2.WX) (C : Cfg) (d : DenP) : TO := fun τ H Q => ∃ Z m F S σ, SR P Z m F S H ∧ SgR P Z m σ τ ∧ okR (fun _ _ (a b : Option Int) => a = b) P Z m F (d C σ S) Q (fun cls dd H' => W cls dd τ H')
theorem PO.weak {e : Option Expr} {t t' : TO} (h : PO X e t) (w : ∀ τ H Q, t' τ H Q → t τ H Q) : PO X e t' := ⟨fun pins s σ H Q I q => h.run pins s σ H Q I (w σ H Q q)⟩
theorem p_no : PO X none (tP P W C pNo) := PO.weak po_none fun τ H Q ⟨Z, m, F, S, σ, sr, sl, q⟩ => q Z m none H (Same.refl _) (List.prefix_refl _) sr rfl
theorem p_some (ha : PE X a (tD P W C da)) : PO X (some a) (tP P W C (pSome da)) := by
  refine PO.weak (po_some ha) fun τ H Q ⟨Z, m, F, S, σ, sr, sl, q⟩ => ?_
  refine ⟨Z, m, F, S, σ, sr, sl, bnd1 q fun u H1 Z1 m1 S1 x z1 p1 sr1 r1 q1 => ?_⟩
  cases x with
  | int i => exact ⟨i, r1, q1 Z1 m1 (some i) H1 (Same.refl _) (List.prefix_refl _) sr1 rfl⟩
  | _ => exact q1.elim
theorem e_sl (o : CxOk X P W C) {lo hi : Option Expr} {pl ph : DenP} {p2 : Pos} (ha : PE X a (tD P W C da)) (hl : PO X lo (tP P W C pl)) (hh : PO X hi (tP P W C ph)) : PE X (.Subscript a (.Slice lo hi none p2) pos) (tD P W C (dSl da pl ph)) := by
  refine PE.weak (pe_slice (sl_P (P := P) o.hK) ha hl hh) fun τ H Q ⟨Z, m, F, S, σ, sr, sl, q⟩ => ?_
  refine ⟨Z, m, F, S, σ, sr, sl, bnd1 q fun u H1 Z1 m1 S1 x z1 p1 sr1 r1 q1 => ?_⟩
  refine ⟨Z1, m1, F, S1, σ, sr1, sl.mono z1 p1, bnd1 q1 fun v H2 Z2 m2 S2 y z2 p2 sr2 r2 q2 => ?_⟩
  refine ⟨Z2, m2, F, S2, σ, sr2, (sl.mono z1 p1).mono z2 p2, bnd1 q2 fun w H3 Z3 m3 S3 z z3 p3 sr3 r3 q3 => ?_⟩
  subst r2 r3
  exact ⟨Z3, m3, F, S3, x, _, sr3, VR.mono (z2.trans z3) (p2.trans p3) _ _ r1, q3⟩
theorem zip_lookup {Z : Hp} {m : List Addr} {f : SS} {x : PV} : ∀ {ns : List SS} {fs : List PV} {fv : List (SS × V)}, fv.map (·.1) = ns → VRs P Z m fs (fv.map (·.2)) → (ns.zip fs).lookup f = some x → ∃ u, fv.lookup f = some u ∧ VR P Z m x u
  | _, [], fv, _, _, e => by simp at e
  | _, y :: fs, [], _, h, _ => by obtain ⟨v, r, e, _⟩ := h; cases e
  | _, y :: fs, (n, w) :: fv, hn, h, e => by
    subst hn
    obtain ⟨v, r, e1, h1, h2⟩ := h
    cases e1
    simp only [List.map_cons, List.zip_cons_cons, List.lookup_cons] at e ⊢
    cases q : f == n with
    | true => rw [q] at e; cases e; exact ⟨w, rfl, h1⟩
    | false => rw [q] at e; exact zip_lookup (ns := fv.map (·.1)) rfl h2 e
theorem e_fld (o : CxOk X P W C) {f : SS} (ha : PE X a (tD P W C da)) (hb : attributeBase a f X.env (eval a X.env) = eval a X.env) : PE X (.Attribute a f pos) (tD P W C (dFld f da)) := by
  refine PE.weak (pe_fld ha hb) fun τ H Q ⟨Z, m, F, S, σ, sr, sl, q⟩ => ?_
  refine ⟨Z, m, F, S, σ, sr, sl, bnd1 q fun u H1 Z1 m1 S1 x z1 p1 sr1 r1 q1 => ?_⟩
  unfold fldV at q1
  cases x with
  | obj c fs =>
    obtain ⟨ad, dx, fv, ns, e1, e2, e3, e4, r⟩ := r1
    simp only [o.fl, e3] at q1
    cases e5 : (ns.zip fs).lookup f with
    | none => rw [e5] at q1; exact q1.elim
    | some v =>
      rw [e5] at q1
      obtain ⟨w, e6, rw⟩ := zip_lookup e4 r e5
      have hf : f ∈ ns := by
        have := PySem.mem_of_lookup e5
        exact (List.of_mem_zip this).1
      exact ⟨ad, _, dx, fv, w, e1, sr1.zh _ _ e2, o.hK ▸ (o.pk.cls c ns e3).cl, o.hK ▸ o.pk.noa c ns f e3 hf, e6, okE.ret q1 sr1 rw⟩
  | rf i =>
    obtain ⟨ad, e1, e2⟩ := r1
    simp only at q1
    cases e3 : S1[i]? with
    | none => rw [e3] at q1; exact q1.elim
    | some cc =>
      rw [e3] at q1
      cases cc with
      | ins c ns fs =>
        simp only [o.fl] at q1
        cases e4 : P.fn c with
        | none => rw [e4] at q1; exact q1.elim
        | some all =>
          rw [e4] at q1
          obtain ⟨hf, q1⟩ := okR_guard q1
          cases e5 : (ns.zip fs).lookup f with
          | none => rw [e5] at q1; exact q1.elim
          | some v =>
            rw [e5] at q1
            obtain ⟨b, e6, dx, fv, e7, e8, r⟩ := sr1.cell i _ e3
            rw [e1] at e6; cases e6
            obtain ⟨w, e9, rw⟩ := zip_lookup e8 r e5
            exact ⟨ad, _, dx, fv, w, e2, e7, o.hK ▸ (o.pk.cls c all e4).cl, o.hK ▸ o.pk.noa c all f e4 (by simpa using hf), e9, okE.ret q1 sr1 rw⟩
      | _ => exact q1.elim
  | _ => exact q1.elim
end
end Ev

end
section
set_option Elab.async false
set_option linter.all false
set_option maxRecDepth 100000
set_option maxHeartbeats 1000000
namespace Ev
open PySem L2
/-! ### built-in functions by values -/
def rc (P : Par) (f : List PV → Store → Rs PV) : List V → Hp → VK → Prop := fun us H Q => ∃ Z m F S xs E, SR P Z m F S H ∧ VRs P Z m xs us ∧ okE P Z m F (f xs S) Q E
section
variable {X : Cx} {P : Par}
theorem VRs.one {Z : Hp} {m : List Addr} {x : PV} {us : List V} (r : VRs P Z m [x] us) : ∃ u, us = [u] ∧ VR P Z m x u := by
  obtain ⟨v, r', rfl, h1, h2⟩ := r
  cases h2
  exact ⟨v, rfl, h1⟩
theorem VRs.two {Z : Hp} {m : List Addr} {x y : PV} {us : List V} (r : VRs P Z m [x, y] us) : ∃ u v, us = [u, v] ∧ VR P Z m x u ∧ VR P Z m y v := by
  obtain ⟨v, r', rfl, h1, h2⟩ := r
  obtain ⟨w, rfl, h3⟩ := h2.one
  exact ⟨v, w, rfl, h1, h3⟩
theorem bls_R {Z : Hp} {m : List Addr} : ∀ {xs : List PV} {vs : List V} {bs : List Bool}, VRs P Z m xs vs → blsOf xs = some bs → vs = bs.map V.bl
  | [], _, _, r, e => by cases r; cases e; rfl
  | x :: xs, _, bs, r, e => by
    obtain ⟨v, r', rfl, h1, h2⟩ := r
    cases x with
    | bl b =>
      obtain ⟨cs, e1, rfl⟩ := Option.map_eq_some_iff.mp e
      cases h1
      rw [bls_R h2 e1]
      rfl
    | _ => cases e
theorem ints_R {Z : Hp} {m : List Addr} : ∀ {xs : List PV} {vs : List V} {bs : List Int}, VRs P Z m xs vs → intsOf xs = some bs → vs = bs.map V.int
  | [], _, _, r, e => by cases r; cases e; rfl
  | x :: xs, _, bs, r, e => by
    obtain ⟨v, r', rfl, h1, h2⟩ := r
    cases x with
    | int b =>
      obtain ⟨cs, e1, rfl⟩ := Option.map_eq_some_iff.mp e
      cases h1
      rw [ints_R h2 e1]
      rfl
    | _ => cases e
def rc1 (P : Par) (f : PV → Store → Rs PV) (us : List V) (H : Hp) (Q : VK) : Prop := ∃ Z m F S x u E, us = [u] ∧ SR P Z m F S H ∧ VR P Z m x u ∧ okE P Z m F (f x S) Q E
theorem rc_un {f : PV → Store → Rs PV} {us : List V} {H : Hp} {Q : VK} (h : rc P (un1 f) us H Q) : rc1 P f us H Q := by
  obtain ⟨Z, m, F, S, xs, E, sr, rx, q⟩ := h
  cases xs with
  | nil => exact q.elim
  | cons x xs => cases xs with
    | nil =>
      obtain ⟨u, rfl, hx⟩ := rx.one
      exact ⟨Z, m, F, S, x, u, E, rfl, sr, hx, q⟩
    | cons _ _ => exact q.elim
theorem cr_un {v : Value} {f : PV → Store → Rs PV} (h : CallR X v (rc1 P f)) : CallR X v (rc P (un1 f)) := fun pins s τ H us uu Q I ru h1 => h pins s τ H us uu Q I ru (rc_un h1)
theorem cr_len (hK : X.K = P.K) : CallR X (.builtin "len") (rc1 P lenV) := by
  intro pins s τ H us uu Q I ru h
  obtain ⟨Z, m, F, S, x, u, E, rfl, sr, hx, q⟩ := h
  have seqs : ∀ {ys : List PV}, seqOf S x = some ys → okE P Z m F (.ok (.int ys.length) S) Q E → wpAny (model X.prog X.w) X.A (call (.builtin "len") uu) (EP X pins τ Q) X.xe s := fun {ys} e1 q => by
    obtain ⟨a, vs, rfl, hs, r⟩ := seqOf_R sr hx e1
    refine call_len_seq pins s τ H _ uu Q I ru ⟨a, vs, rfl, hK ▸ hs, ?_⟩
    rw [← r.length]
    exact okE.ret q sr rfl
  cases x with
  | str z =>
    obtain ⟨hc, q⟩ := okR_guard q
    exact call_len_str pins s τ H _ uu Q I ru ⟨z, by cases hx; rfl, of_decide_eq_true hc, okE.ret q sr rfl⟩
  | tup ys => exact seqs rfl q
  | ro ys => exact seqs rfl q
  | rf i =>
    cases e1 : seqOf S (.rf i) with
    | none => simp only [lenV] at q; rw [e1] at q; exact q.elim
    | some ys => simp only [lenV] at q; rw [e1] at q; exact seqs e1 q
  | _ => exact q.elim
theorem lb_R {Z : Hp} {m : List Addr} {F : Hp} {S : Store} {H : Hp} (sr : SR P Z m F S H) {x : PV} {u : V} (h : VR P Z m x u) {bs : List Bool} (e : (lstOf S x).bind blsOf = some bs) : ∃ a, u = .ref a ∧ H a = some (.lst (bs.map V.bl)) := by
  obtain ⟨xs, e1, e2⟩ := Option.bind_eq_some_iff.mp e
  obtain ⟨a, vs, rfl, ha, r⟩ := lstOf_R sr h e1
  rw [bls_R r e2] at ha
  exact ⟨a, rfl, ha⟩
theorem li_R {Z : Hp} {m : List Addr} {F : Hp} {S : Store} {H : Hp} (sr : SR P Z m F S H) {x : PV} {u : V} (h : VR P Z m x u) {bs : List Int} (e : (lstOf S x).bind intsOf = some bs) : ∃ a, u = .ref a ∧ H a = some (.lst (bs.map V.int)) := by
  obtain ⟨xs, e1, e2⟩ := Option.bind_eq_some_iff.mp e
  obtain ⟨a, vs, rfl, ha, r⟩ := lstOf_R sr h e1
  rw [ints_R r e2] at ha
  exact ⟨a, rfl, ha⟩
theorem cr_allP (hc : X.calm = true) : CallR X (.builtin "all") (rc1 P allV) := by
  intro pins s τ H us uu Q I ru h
  obtain ⟨Z, m, F, S, x, u, E, rfl, sr, hx, q⟩ := h
  simp only [allV] at q
  cases e : (lstOf S x).bind blsOf with
  | none => rw [e] at q; exact q.elim
  | some bs =>
    rw [e] at q
    obtain ⟨a, rfl, ha⟩ := lb_R sr hx e
    exact cr_all hc pins s τ H _ uu Q I ru ⟨a, bs, rfl, SqL.of ha, okE.ret q sr rfl⟩
theorem cr_anyP (hc : X.calm = true) : CallR X (.builtin "any") (rc1 P anyV) := by
  intro pins s τ H us uu Q I ru h
  obtain ⟨Z, m, F, S, x, u, E, rfl, sr, hx, q⟩ := h
  simp only [anyV] at q
  cases e : (lstOf S x).bind blsOf with
  | none => rw [e] at q; exact q.elim
  | some bs =>
    rw [e] at q
    obtain ⟨a, rfl, ha⟩ := lb_R sr hx e
    exact cr_any hc pins s τ H _ uu Q I ru ⟨a, bs, rfl, SqL.of ha, okE.ret q sr rfl⟩
theorem cr_sumP (hc : X.calm = true) : CallR X (.builtin "sum") (rc1 P sumV) := by
  intro pins s τ H us uu Q I ru h
  obtain ⟨Z, m, F, S, x, u, E, rfl, sr, hx, q⟩ := h
  simp only [sumV] at q
  cases e : (lstOf S x).bind intsOf with
  | none => rw [e] at q; exact q.elim
  | some bs =>
    rw [e] at q
    obtain ⟨a, rfl, ha⟩ := li_R sr hx e
    exact cr_sum hc pins s τ H _ uu Q I ru ⟨a, bs, rfl, SqL.of ha, okE.ret q sr rfl⟩
theorem cr_absP : CallR X (.builtin "abs") (rc1 P absV) := by
  intro pins s τ H us uu Q I ru h
  obtain ⟨Z, m, F, S, x, u, E, rfl, sr, hx, q⟩ := h
  cases x with
  | int i => exact call_abs pins s τ H _ uu Q I ru ⟨i, by cases hx; rfl, okE.ret q sr rfl⟩
  | _ => exact q.elim
theorem cr_intP : CallR X (.type "int") (rc1 P intV) := by
  intro pins s τ H us uu Q I ru h
  obtain ⟨Z, m, F, S, x, u, E, rfl, sr, hx, q⟩ := h
  cases x with
  | int i => exact call_int1 pins s τ H _ uu Q I ru (.inl ⟨i, by cases hx; rfl, okE.ret q sr rfl⟩)
  | bl i => exact call_int1 pins s τ H _ uu Q I ru (.inr ⟨i, by cases hx; rfl, okE.ret q sr rfl⟩)
  | _ => exact q.elim
theorem cr_tupleP (hK : X.K = P.K) : CallR X (.type "tuple") (rc1 P tupV) := by
  intro pins s τ H us uu Q I ru h
  obtain ⟨Z, m, F, S, x, u, E, rfl, sr, hx, q⟩ := h
  have lists : ∀ {ys : List PV}, lstOf S x = some ys → okE P Z m F (.ok (.tup ys) S) Q E → wpAny (model X.prog X.w) X.A (call (.type "tuple") uu) (EP X pins τ Q) X.xe s := fun {ys} e1 q => by
    obtain ⟨a, vs, rfl, ha, r⟩ := lstOf_R sr hx e1
    exact call_tuple_of pins s τ H _ uu Q I ru ⟨a, vs, rfl, .inl ⟨SqL.of ha, okE.newT q sr r⟩⟩
  cases x with
  | tup ys =>
    obtain ⟨a, vs, rfl, ha, r⟩ := id hx
    exact call_tuple_of pins s τ H _ uu Q I ru ⟨a, vs, rfl, .inr ⟨hK ▸ Same.sqT sr.zh ha, okE.ret q sr hx⟩⟩
  | ro ys => exact lists rfl q
  | rf i =>
    cases e1 : lstOf S (.rf i) with
    | none => simp only [tupV] at q; rw [e1] at q; exact q.elim
    | some ys => simp only [tupV] at q; rw [e1] at q; exact lists e1 q
  | _ => exact q.elim
theorem cr_listP (hK : X.K = P.K) {mt : Bool} : CallR X (.type "list") (rc1 P (lisV mt)) := by
  intro pins s τ H us uu Q I ru h
  obtain ⟨Z, m, F, S, x, u, E, rfl, sr, hx, q⟩ := h
  simp only [lisV] at q
  cases e1 : seqOf S x with
  | none => rw [e1] at q; exact q.elim
  | some ys =>
    rw [e1] at q
    obtain ⟨a, vs, rfl, hs, r⟩ := seqOf_R sr hx e1
    exact call_list_of pins s τ H _ uu Q I ru ⟨a, vs, rfl, hK ▸ hs, okE.mk q sr r⟩
theorem mm_R {f : Int → Int → Int} {us : List V} {H : Hp} {Q : VK} (h : rc P (mmV f) us H Q) : ∃ i j : Int, us = [.int i, .int j] ∧ Q (.int (f i j)) H := by
  obtain ⟨Z, m, F, S, xs, E, sr, rx, q⟩ := h
  simp only [mmV] at q
  cases e : intsOf xs with
  | none => rw [e] at q; exact q.elim
  | some is =>
    rw [e] at q
    rw [ints_R rx e]
    cases is with
    | nil => exact q.elim
    | cons i is => cases is with
      | nil => exact q.elim
      | cons j is => cases is with
        | nil => exact ⟨i, j, rfl, okE.ret q sr rfl⟩
        | cons _ _ => exact q.elim
theorem cr_minP (hc : X.calm = true) : CallR X (.builtin "min") (rc P (mmV minI)) := by
  intro pins s τ H us uu Q I ru h
  obtain ⟨i, j, rfl, q⟩ := mm_R h
  exact call_min2 hc pins s τ H _ uu Q I ru ⟨i, j, rfl, q⟩
theorem cr_maxP (hc : X.calm = true) : CallR X (.builtin "max") (rc P (mmV maxI)) := by
  intro pins s τ H us uu Q I ru h
  obtain ⟨i, j, rfl, q⟩ := mm_R h
  exact call_max2 hc pins s τ H _ uu Q I ru ⟨i, j, rfl, q⟩
def BI.val : BI → Value
  | .len => .builtin "len"
  | .all => .builtin "all"
  | .any => .builtin "any"
  | .sum => .builtin "sum"
  | .abs => .builtin "abs"
  | .int => .type "int"
  | .tuple => .type "tuple"
  | .list _ => .type "list"
  | .min => .builtin "min"
  | .max => .builtin "max"
def BI.hot : BI → Bool
  | .all => true
  | .any => true
  | .sum => true
  | .min => true
  | .max => true
  | _ => false
theorem cr_bi (hK : X.K = P.K) (b : BI) (hc : b.hot = true → X.calm = true) : CallR X b.val (rc P (biV b)) := by
  cases b with
  | len => exact cr_un (cr_len hK)
  | all => exact cr_un (cr_allP (hc rfl))
  | any => exact cr_un (cr_anyP (hc rfl))
  | sum => exact cr_un (cr_sumP (hc rfl))
  | abs => exact cr_un (cr_absP)
  | int => exact cr_un (cr_intP)
  | tuple => exact cr_un (cr_tupleP hK)
  | list mt => exact cr_un (cr_listP hK)
  | min => exact cr_minP (hc rfl)
  | max => exact cr_maxP (hc rfl)
end
section
variable {X : Cx} {P : Par} {W : L2.WX} {C : Cfg} {k : Nat} {a b c e : Expr} {da db dc : Den} {ta tb : DenT} {pos p : Pos} {es : List Expr} {dl : DenL} {x : SS}
theorem e_bi (o : CxOk X P W C) {bi : BI} (hc : bi.hot = true → X.calm = true) (hg : Gl X x) (hm : X.mg x = none) (hv : bootBuiltins x = some bi.val) (hs : (e :: es).all notStar = true) (h : PA X (e :: es) (tA P W C dl)) (hn : x ≠ "__name__") (hd : (x == ("__debug__" : SS)) = false) : PE X (.Call (.Name x p) (e :: es) [] pos) (tD P W C (dBi bi dl)) := by
  have hs' := hs
  rw [List.all_cons, Bool.and_eq_true_iff] at hs'
  have hcr := cr_bi (P := P) o.hK bi hc
  have red : ∀ τ H Q, tD P W C (dBi bi dl) τ H Q → tCB (rc P (biV bi)) (tA P W C dl) τ H Q := fun τ H Q ⟨Z, m, F, S, σ, sr, sl, q⟩ =>
    ⟨Z, m, F, S, σ, sr, sl, bnd1 q fun us H1 Z1 m1 S1 xs z1 p1 sr1 r1 q1 => ⟨Z1, m1, F, S1, xs, _, sr1, r1, q1⟩⟩
  have hb : ∀ id, bi.val = .builtin id → PE X (.Call (.Name x p) (e :: es) [] pos) (tD P W C (dBi bi dl)) := fun id e1 => by
    rw [e1] at hcr hv
    exact PE.weak (pe_callB hcr hg hm hv h hn hd (star_cons hs'.1) (star_any hs'.2)) red
  have ht : ∀ id, bi.val = .type id → PE X (.Call (.Name x p) (e :: es) [] pos) (tD P W C (dBi bi dl)) := fun id e1 => by
    rw [e1] at hcr hv
    exact PE.weak (pe_callTy hcr hg hm hv h hn hd (star_cons hs'.1) (star_any hs'.2)) red
  cases bi with
  | len => exact hb _ rfl
  | all => exact hb _ rfl
  | any => exact hb _ rfl
  | sum => exact hb _ rfl
  | abs => exact hb _ rfl
  | int => exact ht _ rfl
  | tuple => exact ht _ rfl
  | list mt => exact ht _ rfl
  | min => exact hb _ rfl
  | max => exact hb _ rfl
end

/-! ### methods of lists -/
def rm (P : Par) (f : PV → List PV → Store → Rs PV) : V → List V → Hp → VK → Prop := fun u us H Q => ∃ Z m F S x xs E, SR P Z m F S H ∧ VR P Z m x u ∧ VRs P Z m xs us ∧ okE P Z m F (f x xs S) Q E
section
variable {X : Cx} {P : Par}
def rm1 (P : Par) (f : PV → PV → Store → Rs PV) : V → List V → Hp → VK → Prop := fun u us H Q => ∃ Z m F S x y w E, us = [w] ∧ SR P Z m F S H ∧ VR P Z m x u ∧ VR P Z m y w ∧ okE P Z m F (f x y S) Q E
theorem mt_un {n : String} {f : PV → PV → Store → Rs PV} (h : MtR X n (rm1 P f)) : MtR X n (rm P fun o => un1 (f o)) := by
  intro pins s τ H u us uv uu Q I ru rs h1
  obtain ⟨Z, m, F, S, x, xs, E, sr, hx, hxs, q⟩ := h1
  refine h pins s τ H u us uv uu Q I ru rs ?_
  cases xs with
  | nil => exact q.elim
  | cons y xs => cases xs with
    | nil =>
      obtain ⟨w, rfl, hy⟩ := hxs.one
      exact ⟨Z, m, F, S, x, y, w, E, rfl, sr, hx, hy, q⟩
    | cons _ _ => exact q.elim
theorem mt_appendP : MtR X "list.append" (rm1 P appV) := by
  intro pins s τ H u us uv uu Q I ru rs h
  obtain ⟨Z, m, F, S, x, y, w, E, rfl, sr, hx, hy, q⟩ := h
  cases x with
  | rf i =>
    obtain ⟨a, e1, rfl⟩ := hx
    simp only [appV] at q
    cases e2 : S[i]? with
    | none => rw [e2] at q; exact q.elim
    | some c =>
      rw [e2] at q
      cases c with
      | lst ys =>
        obtain ⟨hc, q⟩ := okR_guard q
        obtain ⟨b, e3, vs, e4, r⟩ := sr.cell i _ e2
        rw [e1] at e3; cases e3
        refine mt_append pins s τ H _ _ uv uu Q I ru rs ⟨a, vs, w, rfl, rfl, e4, by rw [← r.length]; exact of_decide_eq_true hc, ?_⟩
        exact q Z m .non _ (Same.refl _) (List.prefix_refl _) (sr.put e1 ⟨_, rfl, VRs.append r ⟨w, [], rfl, hy, rfl⟩⟩) rfl
      | _ => exact q.elim
  | _ => exact q.elim
theorem dps_all {K : PySem.W.Frag} {H : Hp} {u : V} {ds : List PyData} (h : Dp K H u (.list ds)) : ∃ a xs, u = .ref a ∧ SqL K H a xs ∧ DpAll K H xs ds := by
  cases h with
  | lst h1 h2 => exact ⟨_, _, rfl, h1, h2⟩
theorem mt_countD (hu : X.A.units + 65 < cLine) {a : Addr} {y : V} {d : PyData} {ds : List PyData} {Q : VK} {pins : List (Addr × Obj)} {s : Shared} {τ : St} {H : Hp} {v : Value} {us : List Value} (I : Inv X pins τ H s) (rx : RelV (.ref a) v) (rxs : Vals [y] us)
    (hl : Dp X.K H (.ref a) (.list ds)) (hy : Dp X.K H y d) (c1 : SeqAt.shaped (.list ds) = true) (c2 : SeqAt.shaped d = true) (q : Q (.int (ds.countP fun z => PyData.eqv z d : Nat)) H) :
    wpAny (model X.prog X.w) X.A (call (.builtin "list.count") (v :: us)) (EP X pins τ Q) X.xe s := by
  cases rx
  obtain ⟨uy, rfl, ry⟩ := Vals.one rxs
  obtain ⟨bs, r1⟩ := Dp.reads I d y uy hy ry
  have lay : PyData.canLayAll0 ds = true := SeqAt.canLay_of_shaped c1
  have room : X.A.units + 1 + min (PyData.depthAll ds) d.depth < cLine := PyProof.Rows.room_in_shaped c2 hu
  obtain ⟨b, xs, e0, hs, ha⟩ := dps_all hl
  cases e0
  obtain ⟨its, rv, ⟨⟨ocls, odd, odata, oslots⟩, n, ho, hcls, hdn, hdt⟩, hlen⟩ := I.list hs
  simp only at hcls hdt
  subst hcls hdt
  obtain ⟨as, h4⟩ := Dp.readsAll I ds _ its ha rv
  have hm : its.map (SeqAt.readOf s.heap) = ds := SeqAt.readsAll_map ds its as lay h4
  refine call_meets PySem.F.slot_list_count ⟨_, ho, rfl⟩ PySem.F.entry_list_count (PySem.F.args_list_count_2 _ _)
    (SeqAt.list_countAt a its.toArray n odd oslots uy (fun u => PyData.eqv (SeqAt.readOf s.heap u) d)) ⟨ho, SeqAt.items_eqAt (vs := its.toArray) (show ReadsAll s.heap its.toArray.toList ds as from h4) r1 lay (SeqAt.canLay_of_shaped c2) room, ?_⟩
  refine ⟨.int _, H, I.tok _, ⟨s.toks, ?_⟩, q⟩
  have e : its.toArray.toList.countP (fun u => PyData.eqv (SeqAt.readOf s.heap u) d) = ds.countP fun z => PyData.eqv z d := by
    rw [← hm, List.countP_map]
    rfl
  show Value.int ((its.toArray.toList.countP (fun u => PyData.eqv (SeqAt.readOf s.heap u) d) : Nat) : Int) s.toks = _
  rw [e]
theorem lst_data {Z : Hp} {m : List Addr} {F : Hp} {S : Store} {H : Hp} (sr : SR P Z m F S H) {x : PV} {u : V} (h : VR P Z m x u) {ds : List PyData} (e : (lstOf S x).bind (toDs S) = some ds) : ∃ a, u = .ref a ∧ Dp P.K H (.ref a) (.list ds) := by
  obtain ⟨xs, e1, e2⟩ := Option.bind_eq_some_iff.mp e
  obtain ⟨a, vs, rfl, ha, r⟩ := lstOf_R sr h e1
  exact ⟨a, rfl, .lst (SqL.of ha) (toDs_R sr xs vs ds r e2)⟩
theorem mt_countP (hK : X.K = P.K) (hu : X.A.units + 65 < cLine) : MtR X "list.count" (rm1 P cntV) := by
  intro pins s τ H u us uv uu Q I ru rs h
  obtain ⟨Z, m, F, S, x, y, w, E, rfl, sr, hx, hy, q⟩ := h
  simp only [cntV] at q
  cases e1 : (lstOf S x).bind (toDs S) with
  | none => rw [e1] at q; exact q.elim
  | some ds =>
    cases e2 : toD S y with
    | none => rw [e1, e2] at q; exact q.elim
    | some d =>
      rw [e1, e2] at q
      obtain ⟨hc, q⟩ := okR_guard q
      obtain ⟨c1, c2⟩ := Bool.and_eq_true_iff.mp hc
      obtain ⟨a, rfl, hd⟩ := lst_data sr hx e1
      exact mt_countD hu I ru rs (hK ▸ hd) (hK ▸ toD_R sr y w d hy e2) c1 c2 (okE.ret q sr rfl)
theorem mt_indexP (hK : X.K = P.K) (hu : X.A.units + 65 < cLine) : MtR X "list.index" (rm1 P idxV) := by
  intro pins s τ H u us uv uu Q I ru rs h
  obtain ⟨Z, m, F, S, x, y, w, E, rfl, sr, hx, hy, q⟩ := h
  simp only [idxV] at q
  cases e1 : (lstOf S x).bind (toDs S) with
  | none => rw [e1] at q; exact q.elim
  | some ds =>
    cases e2 : toD S y with
    | none => rw [e1, e2] at q; exact q.elim
    | some d =>
      rw [e1, e2] at q
      obtain ⟨hc, q⟩ := okR_guard q
      obtain ⟨c1, c2⟩ := Bool.and_eq_true_iff.mp hc
      obtain ⟨a, rfl, hd⟩ := lst_data sr hx e1
      cases e3 : ds.findIdx? fun z => PyData.eqv z d with
      | none => rw [e3] at q; exact q.elim
      | some j =>
        rw [e3] at q
        obtain ⟨h1, h2, h3⟩ := List.findIdx?_eq_some_iff_getElem.mp e3
        refine mt_indexD hu pins s τ H _ _ uv uu Q I ru rs ⟨a, w, d, ds, j, ds[j], rfl, rfl, hK ▸ hd, hK ▸ toD_R sr y w d hy e2, c1, c2, List.getElem?_eq_getElem h1, h2, fun i z hi e => ?_, okE.ret q sr rfl⟩
        obtain ⟨hi2, rfl⟩ := List.getElem?_eq_some_iff.mp e
        simpa using h3 i hi
end
def MT.id : MT → String
  | .append => "list.append"
  | .count => "list.count"
  | .index => "list.index"
def MT.name : MT → SS
  | .append => "append"
  | .count => "count"
  | .index => "index"
theorem mt_P {X : Cx} {P : Par} (hK : X.K = P.K) (hu : X.A.units + 65 < cLine) (b : MT) : MtR X b.id (rm P (mtV b)) := by
  cases b with
  | append => exact mt_un (mt_appendP)
  | count => exact mt_un (mt_countP hK hu)
  | index => exact mt_un (mt_indexP hK hu)
section
variable {X : Cx} {P : Par} {W : L2.WX} {C : Cfg} {k : Nat} {a b c e : Expr} {da db dc : Den} {ta tb : DenT} {pos p apos : Pos} {es : List Expr} {dl : DenL} {x : SS}
theorem few_ok {env : Env} (h : (e :: es).all notStar = true) (hl : (e :: es).length < 30) : ((backTo pos (starEach (e :: es) env)).all (fun x => !x.1) && (backToKw pos (keywordEach [] env)).all (fun x => x.1.isSome)
      && decide ((e :: es).length + ([] : List Keyword).length + (if ([] : List Keyword).isEmpty then 0 else 1) < 30)) = true := by
  have h1 : ∀ {es : List Expr}, es.all notStar = true → (backTo pos (starEach es env)).all (fun x => !x.1) = true := by
    intro es
    induction es with
    | nil => intro _; rfl
    | cons e es ih =>
      intro h
      rw [List.all_cons, Bool.and_eq_true_iff] at h
      rw [star_cons h.1]
      show (true && (backTo pos (starEach es env)).all (fun x => !x.1)) = true
      rw [ih h.2]
      rfl
  rw [h1 h]
  simp only [Bool.true_and, Bool.and_eq_true, decide_eq_true_eq]
  exact ⟨rfl, hl⟩
theorem e_mt (o : CxOk X P W C) {b : MT} (ha : PE X a (tD P W C da)) (h : PA X (e :: es) (tA P W C dl)) (hs : (e :: es).all notStar = true) (hl : (e :: es).length < 30)
    (hb : attributeBase a b.name X.env (eval a X.env) = eval a X.env) (hp : (apos.endLine == pos.line) = true) : PE X (.Call (.Attribute a b.name apos) (e :: es) [] pos) (tD P W C (dMt b da dl)) := by
  have hs' := hs
  rw [List.all_cons, Bool.and_eq_true_iff] at hs'
  have hu : X.A.units + 65 < cLine := by have := o.un; omega
  have red : ∀ τ H Q, tD P W C (dMt b da dl) τ H Q → tBM X.K "list" (rm P (mtV b)) (tD P W C da) (tA P W C dl) τ H Q := fun τ H Q ⟨Z, m, F, S, σ, sr, sl, q⟩ => by
    refine ⟨Z, m, F, S, σ, sr, sl, bnd1 q fun u H1 Z1 m1 S1 x z1 p1 sr1 r1 q1 => ?_⟩
    obtain ⟨hc, q1⟩ := okR_guard q1
    obtain ⟨xs, e1⟩ := Option.isSome_iff_exists.mp hc
    obtain ⟨ad, vs, rfl, h1, r⟩ := lstOf_R sr1 r1 e1
    refine ⟨.inl ⟨rfl, vs, SqL.of h1⟩, Z1, m1, F, S1, σ, sr1, sl.mono z1 p1, bnd1 q1 fun us H2 Z2 m2 S2 xs z2 p2 sr2 r2 q2 => ?_⟩
    exact ⟨Z2, m2, F, S2, x, xs, _, sr2, VR.mono z2 p2 _ _ r1, r2, q2⟩
  have hmt := mt_P (P := P) o.hK hu b
  cases b with
  | append => exact PE.weak (pe_bm PySem.F.plainAttrs_list PySem.F.slot_list_append PySem.F.type_list_append hmt ha h hb (few_ok hs hl) hp (star_cons hs'.1) (star_any hs'.2)) red
  | count => exact PE.weak (pe_bm PySem.F.plainAttrs_list PySem.F.slot_list_count PySem.F.type_list_count hmt ha h hb (few_ok hs hl) hp (star_cons hs'.1) (star_any hs'.2)) red
  | index => exact PE.weak (pe_bm PySem.F.plainAttrs_list PySem.F.slot_list_index PySem.F.type_list_index hmt ha h hb (few_ok hs hl) hp (star_cons hs'.1) (star_any hs'.2)) red
end
end Ev

end
section
set_option Elab.async false
set_option linter.all false
set_option maxRecDepth 100000
set_option maxHeartbeats 1000000
namespace Ev
open PySem L2
/-! ### isinstance -/
section
variable {X : Cx} {P : Par}
theorem Rd.sqT {K : PySem.W.Frag} {H : Hp} {a : Addr} {xs : List V} (h : SqT K H a xs) : TyX K H (.ref a) (.type "tuple") := by
  rcases h with (h | ⟨o, h⟩) | ⟨o, its, n, e, c, _⟩
  · exact .base (.tup h)
  · exact .fTuple h
  · exact .kTuple e c
def tyVal (P : Par) : TyR → Value
  | .bt n => .type n
  | .ow c => .ref (He.ga P.K c)
def qVal (P : Par) : TyQ → Value
  | .ty n => .type n
  | .own d => .ref (He.ga P.K d)
theorem tyOf_R (pk : ParOk P) {Z : Hp} {m : List Addr} {F : Hp} {S : Store} {H : Hp} (sr : SR P Z m F S H) {C : Cfg} (fl : C.flds = P.fn) {x : PV} {u : V} (h : VR P Z m x u) {t : TyR} (e : tyOf C S x = some t) (hx : isExo x = false) : TyX P.K H u (tyVal P t) := by
  cases x with
  | non => cases h; cases e; exact .base .non
  | bl b => cases h; cases e; exact .base (.bl _)
  | int b => cases h; cases e; exact .base (.int _)
  | str b => cases h; cases e; exact .base (.str _)
  | tup xs =>
    obtain ⟨a, vs, rfl, q, r⟩ := h
    cases e
    exact Rd.sqT (Same.sqT sr.zh q)
  | ro xs =>
    obtain ⟨a, vs, rfl, q, r⟩ := h
    cases e
    exact .base (.lst (sr.zh _ _ q))
  | rod _ _ => exact h.elim
  | obj c fs =>
    obtain ⟨a, dx, fv, ns, rfl, q, f, n, r⟩ := h
    cases e
    have cf := pk.cls c ns f
    exact .base (.ins (sr.zh _ _ q) cf.cl cf.ha cf.hn cf.ht cf.hm)
  | rf i =>
    obtain ⟨a, e1, rfl⟩ := h
    simp only [tyOf] at e
    cases e2 : S[i]? with
    | none => rw [e2] at e; cases e
    | some c =>
      obtain ⟨b, e3, r⟩ := sr.cell i _ e2
      rw [e1] at e3; cases e3
      rw [e2] at e
      cases c with
      | lst xs =>
        obtain ⟨vs, e4, _⟩ := r
        cases e
        exact .base (.lst e4)
      | dct _ _ => cases e
      | ins c ns fs =>
        obtain ⟨dx, fv, e4, _⟩ := r
        by_cases e6 : (C.flds c).isSome = true
        case neg => simp only [e6] at e; cases e
        simp only [e6, if_true] at e
        cases e
        obtain ⟨ns', e5⟩ := Option.isSome_iff_exists.mp e6
        rw [fl] at e5
        have cf := pk.cls c ns' e5
        exact .base (.ins e4 cf.cl cf.ha cf.hn cf.ht cf.hm)
  | scr _ => cases e
  | gl _ => cases e
  | ty _ => cases e
  | clo => cases e
  | exo c fs => cases hx
theorem tyOf_mem {C : Cfg} {S : Store} {x : PV} {n : String} (e : tyOf C S x = some (.bt n)) : n ∈ ["NoneType", "int", "bool", "str", "tuple", "list", "dict"] := by
  cases x with
  | rf i =>
    simp only [tyOf] at e
    cases e2 : S[i]? with
    | none => rw [e2] at e; cases e
    | some c =>
      rw [e2] at e
      cases c with
      | lst xs => cases e; decide
      | dct _ _ => cases e
      | ins c ns fs =>
        by_cases e6 : (C.flds c).isSome = true
        · simp only [e6, if_true] at e; cases e
        · simp only [e6] at e; cases e
  | _ => cases e <;> decide
theorem isSelf_sub {C : Cfg} {d : SS} (h : isSelf C d = true) : C.sub d (.own d) = some true := by
  unfold isSelf at h
  split at h
  · assumption
  · cases h
theorem isiT_R (pk : ParOk P) {C : Cfg} (sb : C.sub = P.sub) {t : TyR} {q : TyQ} {b : Bool} (ht : ∀ n, t = .bt n → n ∈ ["NoneType", "int", "bool", "str", "tuple", "list", "dict"]) (e : isiT C t q = some b) : PySem.W.kitOne P.K (tyVal P t) (qVal P q) = some b := by
  cases t with
  | bt a => cases q with
    | ty n => exact kit_ty e
    | own d =>
      simp only [isiT] at e
      by_cases e2 : isSelf C d = true
      · rw [if_pos e2] at e
        cases e
        exact pk.k3 d a (sb ▸ isSelf_sub e2) (ht a rfl)
      · rw [if_neg e2] at e; cases e
  | ow c =>
    have e : C.sub c q = some b := by cases q <;> exact e
    rw [sb] at e
    cases q <;> exact pk.sb c _ b e
theorem isiAny_R (pk : ParOk P) {C : Cfg} (sb : C.sub = P.sub) {t : TyR} (ht : ∀ n, t = .bt n → n ∈ ["NoneType", "int", "bool", "str", "tuple", "list", "dict"]) : ∀ {qs : List TyQ} {b : Bool}, isiAny C t qs = some b → PySem.W.kitAny P.K (tyVal P t) (qs.map (qVal P)) = some b
  | [], _, e => by cases e; exact kitAny_nil
  | q :: qs, b, e => by
    simp only [isiAny] at e
    cases e1 : isiT C t q with
    | none => rw [e1] at e; cases e
    | some k =>
      cases e2 : isiAny C t qs with
      | none => rw [e1, e2] at e; cases e
      | some l =>
        rw [e1, e2] at e
        cases e
        exact kitAny_cons (isiT_R pk sb ht e1) (fun h => by rw [h]; exact isiAny_R pk sb ht e2) (fun h => by rw [h]; rfl)
theorem qOne_R {Z : Hp} {m : List Addr} {x : PV} {u : V} (h : VR P Z m x u) {q : TyQ} (e : qOne x = some q) : ClsV u (qVal P q) := by
  cases x with
  | ty n => cases h; cases e; exact .ty n
  | gl c => cases h; cases e; exact .own _
  | _ => cases e
theorem qAll_R {Z : Hp} {m : List Addr} : ∀ {xs : List PV} {us : List V} {qs : List TyQ}, VRs P Z m xs us → qAll xs = some qs → Paired ClsV us (qs.map (qVal P))
  | [], _, _, h, e => by cases h; cases e; exact .nil
  | x :: xs, _, qs, h, e => by
    obtain ⟨v, r, rfl, h1, h2⟩ := h
    simp only [qAll] at e
    cases e1 : qOne x with
    | none => rw [e1] at e; cases e
    | some q =>
      cases e2 : qAll xs with
      | none => rw [e1, e2] at e; cases e
      | some l =>
        rw [e1, e2] at e
        cases e
        exact .cons (qOne_R h1 e1) (qAll_R h2 e2)
theorem kitAny_one {K : PySem.W.Frag} {t c : Value} {b : Bool} (h : PySem.W.kitAny K t [c] = some b) : PySem.W.kitOne K t c = some b := by
  unfold PySem.W.kitAny at h
  cases e : PySem.W.kitOne K t c with
  | none => rw [e] at h; cases h
  | some k =>
    rw [e] at h
    cases k with
    | true => exact h
    | false => exact h
theorem okR_bok {α β γ δ : Type} {R' : Hp → List Addr → γ → δ → Prop} {Z : Hp} {m : List Addr} {F : Hp} {Q : δ → Hp → Prop} {E : XK} {c : Cfg} {qs : List TyQ} {x : PV} {S : Store} {f : Bool → Store → Rs γ} (h : okR R' P Z m F ((isiV c qs x S).bnd f) Q E) :
    ∃ t b, tyOf c S x = some t ∧ isiAny c t qs = some b ∧ okR R' P Z m F (f b S) Q E := by
  unfold isiV at h
  cases e : tyOf c S x with
  | none => rw [e] at h; exact h.elim
  | some t =>
    cases e1 : isiAny c t qs with
    | none => rw [e] at h; simp only [e1] at h; exact h.elim
    | some b => rw [e] at h; simp only [e1] at h; exact ⟨t, b, rfl, e1, h⟩
theorem qOne_tup {t : PV} {q : TyQ} (e : qOne t = some q) : ∀ ts, t ≠ .tup ts := fun ts z => by rw [z] at e; cases e
theorem isiX_one {C : Cfg} {x t : PV} {S : Store} (h : ∀ ts, t ≠ .tup ts) : isiX C [x, t] S = match qOne t with
    | some q => (isiV C [q] x S).bnd fun b S => .ok (.bl b) S
    | none => .bad := by
  cases t <;> first | rfl | exact absurd rfl (h _)
theorem cr_isi (hK : X.K = P.K) (pk : ParOk P) {C : Cfg} (fl : C.flds = P.fn) (sb : C.sub = P.sub) (hE : ∀ a c, P.ea = some (a, c) → CallR X (.builtin "isinstance") (rIsE X.K (He.ga P.K c) a)) : CallR X (.builtin "isinstance") (rc P (isiX C)) := by
  intro pins s τ H us uu Q I ru h
  obtain ⟨Z, m, F, S, xs, E, sr, rx, q⟩ := h
  rcases xs with _ | ⟨x, _ | ⟨t, _ | ⟨y, ys⟩⟩⟩
  · exact q.elim
  · exact q.elim
  · obtain ⟨u, v, rfl, hx, ht⟩ := rx.two
    by_cases tp : ∃ ts, t = .tup ts
    · obtain ⟨ts, rfl⟩ := tp
      simp only [isiX] at q
      cases e1 : qAll ts with
      | none => rw [e1] at q; exact q.elim
      | some qs =>
        rw [e1] at q
        obtain ⟨nx, q⟩ := okR_guard q
        obtain ⟨ty, b, e2, e3, q⟩ := okR_bok (α := Bool) (β := Bool) q
        obtain ⟨a, vs, rfl, hq, r⟩ := id ht
        have k := isiAny_R pk sb (fun n h => tyOf_mem (h ▸ e2)) e3
        have tx := tyOf_R pk sr fl hx e2 (by simpa using nx)
        have pc := qAll_R r e1
        rcases Same.sqT sr.zh hq with (hq | ⟨o, hq⟩) | ⟨o, its, n, e, c, d, _, rv⟩
        · exact call_isiT pins s τ H _ uu Q I ru ⟨u, a, vs, _, _, b, rfl, hq, pc, hK ▸ tx, hK ▸ k, okE.ret q sr rfl⟩
        · obtain ⟨u1, u2, rfl, r1, r2⟩ := vals2 ru
          cases (show u2 = Value.ref a from r2)
          obtain ⟨P', Z', p, hx'⟩ := kit_of I r1 (hK ▸ tx)
          obtain ⟨_, _, its, rv, o', h1, h2, n, h3⟩ := (show ObjOk X.prog X.w H s.heap a (.frz o (.tup vs)) from I.hok a _ hq)
          have e3 := ClsV.all pc rv
          subst e3
          obtain ⟨oc, od, dt, sl⟩ := o'
          simp only at h2 h3
          subst h2 h3
          exact PySem.W.kia_tup Z' I.kIn p h1 (hK ▸ k) hx' fun tk => ⟨.bl b, H, I.tok tk, rfl, okE.ret q sr rfl⟩
        · obtain ⟨oc, od, dt, sl⟩ := o
          simp only at c d
          subst c d
          have e3 := ClsV.all pc rv
          refine call_isiK pins s τ H _ uu Q I ru ⟨u, a, od, its.toList, n, sl, _, b, rfl, ?_, hK ▸ tx, hK ▸ (e3 ▸ k), okE.ret q sr rfl⟩
          rw [hK, e]
    · have tn : ∀ ts, t ≠ .tup ts := fun ts e => tp ⟨ts, e⟩
      rw [isiX_one tn] at q
      cases e1 : qOne t with
      | none => rw [e1] at q; exact q.elim
      | some k =>
        rw [e1] at q
        obtain ⟨ty, b, e2, e3, q9⟩ := okR_bok (α := Bool) (β := Bool) q
        have kk := kitAny_one (isiAny_R pk sb (fun n h => tyOf_mem (h ▸ e2)) e3)
        have cv := qOne_R ht e1
        cases hxo : isExo x with
        | false => exact call_isi pins s τ H _ uu Q I ru ⟨u, v, _, _, b, rfl, cv, hK ▸ tyOf_R pk sr fl hx e2 hxo, hK ▸ kk, okE.ret q9 sr rfl⟩
        | true =>
          cases x with
          | exo c fs =>
            obtain ⟨_, a, rfl, ea⟩ := id hx
            cases e2
            refine hE a c ea pins s τ H _ uu Q I ru ⟨v, qVal P k, b, rfl, fun w hw => cv.eq hw, ?_, okE.ret q9 sr rfl⟩
            rw [hK]
            exact kk
          | _ => cases hxo
  · obtain ⟨_, _, e, _⟩ := rx
    exact (show False from by simp only [isiX] at q; exact q).elim
end
end Ev

end
section
set_option Elab.async false
set_option linter.all false
set_option maxRecDepth 100000
set_option maxHeartbeats 1000000
namespace Ev
open PySem L2
/-! ### below b: what does not see the new things -/
mutual
theorem VR.lower {P P' : Par} {Z Z' : Hp} {m : List Addr} {b : Nat} (hK : P'.K = P.K) (hf : P'.fn = P.fn) (hz : Same Z Z') : ∀ (x : PV) (v : V), x.blw b = true → VR P Z m x v → VR P' Z' (m.take b) x v
  | .non, _, _, h => h
  | .bl _, _, _, h => h
  | .int _, _, _, h => h
  | .str _, _, _, h => h
  | .tup xs, _, k, h => by
    obtain ⟨a, vs, e, q, r⟩ := h
    exact ⟨a, vs, e, hK ▸ Same.sqT hz q, VRs.lower hK hf hz xs vs k r⟩
  | .ro xs, _, k, h => by
    obtain ⟨a, vs, e, q, r⟩ := h
    exact ⟨a, vs, e, hz _ _ q, VRs.lower hK hf hz xs vs k r⟩
  | .rod _ _, _, _, h => h
  | .obj c fs, _, k, h => by
    obtain ⟨a, dx, fv, ns, e, q, f, n, r⟩ := h
    exact ⟨a, dx, fv, ns, e, hK ▸ hz _ _ q, hf ▸ f, n, VRs.lower hK hf hz fs _ k r⟩
  | .rf i, _, k, h => by
    obtain ⟨a, e, q⟩ := h
    refine ⟨a, ?_, q⟩
    rw [List.getElem?_take_of_lt (of_decide_eq_true k)]
    exact e
  | .scr _, _, _, h => by
    obtain ⟨a, e, q⟩ := h
    exact ⟨a, e, hK ▸ hz.seq q⟩
  | .gl x, v, _, h => (show v = .ref (He.ga P'.K x) from hK.symm ▸ h)
  | .ty _, _, _, h => h
  | .clo, _, k, _ => by cases k
  | .exo _ _, _, k, _ => by cases k
theorem VRs.lower {P P' : Par} {Z Z' : Hp} {m : List Addr} {b : Nat} (hK : P'.K = P.K) (hf : P'.fn = P.fn) (hz : Same Z Z') : ∀ (xs : List PV) (vs : List V), PV.blws b xs = true → VRs P Z m xs vs → VRs P' Z' (m.take b) xs vs
  | [], _, _, h => h
  | x :: xs, _, k, h => by
    obtain ⟨v, r, e, h1, h2⟩ := h
    obtain ⟨k1, k2⟩ := Bool.and_eq_true_iff.mp k
    exact ⟨v, r, e, VR.lower hK hf hz x v k1 h1, VRs.lower hK hf hz xs r k2 h2⟩
end
theorem CR.lower {P P' : Par} {Z Z' : Hp} {m : List Addr} {b : Nat} (hK : P'.K = P.K) (hf : P'.fn = P.fn) (hz : Same Z Z') {c : Cell} {o : Option HO} (k : c.blw b = true) (h : CR P Z m c o) : CR P' Z' (m.take b) c o := by
  cases c with
  | lst xs => obtain ⟨vs, e, r⟩ := h; exact ⟨vs, e, VRs.lower hK hf hz _ _ k r⟩
  | dct _ _ => exact h
  | ins c ns fs => obtain ⟨dx, fv, e, n, r⟩ := h; exact ⟨dx, fv, hK ▸ e, n, VRs.lower hK hf hz _ _ k r⟩
mutual
theorem VR.blw {P : Par} (he : P.base) {Z : Hp} {m : List Addr} : ∀ (x : PV) (v : V), VR P Z m x v → x.blw m.length = true
  | .non, _, _ => rfl
  | .bl _, _, _ => rfl
  | .int _, _, _ => rfl
  | .str _, _, _ => rfl
  | .tup xs, _, h => by
    obtain ⟨a, vs, e, q, r⟩ := h
    exact VRs.blw he xs vs r
  | .ro xs, _, h => by
    obtain ⟨a, vs, e, q, r⟩ := h
    exact VRs.blw he xs vs r
  | .rod _ _, _, h => h.elim
  | .obj c fs, _, h => by
    obtain ⟨a, dx, fv, ns, e, q, f, n, r⟩ := h
    exact VRs.blw he fs _ r
  | .rf i, _, h => by
    obtain ⟨a, e, q⟩ := h
    exact decide_eq_true (List.getElem?_eq_some_iff.mp e).1
  | .scr _, _, _ => rfl
  | .gl _, _, _ => rfl
  | .ty _, _, _ => rfl
  | .clo, _, h => by
    obtain ⟨f, _, _, _, _, e, _⟩ := h
    rw [he.2] at e; cases e
  | .exo _ _, _, h => by
    obtain ⟨_, a, _, e⟩ := h
    rw [he.1] at e; cases e
theorem VRs.blw {P : Par} (he : P.base) {Z : Hp} {m : List Addr} : ∀ (xs : List PV) (vs : List V), VRs P Z m xs vs → PV.blws m.length xs = true
  | [], _, _ => rfl
  | x :: xs, _, h => by
    obtain ⟨v, r, e, h1, h2⟩ := h
    show (x.blw m.length && PV.blws m.length xs) = true
    rw [VR.blw he x v h1, VRs.blw he xs r h2]
    rfl
end
theorem CR.blw {P : Par} (he : P.base) {Z : Hp} {m : List Addr} {c : Cell} {o : Option HO} (h : CR P Z m c o) : c.blw m.length = true := by
  cases c with
  | lst xs => obtain ⟨vs, e, r⟩ := h; exact VRs.blw he _ _ r
  | dct _ _ => exact h.elim
  | ins c ns fs => obtain ⟨dx, fv, e, n, r⟩ := h; exact VRs.blw he _ _ r
theorem oldOk_at : ∀ {b : Nat} {S S' : Store}, oldOk b S S' = true → S.length ≤ S'.length ∧ ∀ (i : Nat) c c', S[i]? = some c → S'[i]? = some c' → c' = c ∨ c'.blw b = true
  | b, [], S', _ => ⟨Nat.zero_le _, fun i c c' e => by simp at e⟩
  | b, c :: S, [], h => by cases h
  | b, c :: S, c' :: S', h => by
    obtain ⟨h1, h2⟩ := Bool.and_eq_true_iff.mp h
    obtain ⟨l, ih⟩ := oldOk_at h2
    refine ⟨by simp; exact l, fun i d d' e e' => ?_⟩
    cases i with
    | zero =>
      simp at e e'
      subst e e'
      rcases Bool.or_eq_true_iff.mp h1 with h | h
      · exact .inl (Cell.beq_eq _ _ h)
      · exact .inr h
    | succ i => exact ih i d d' (by simpa using e) (by simpa using e')
open Classical in
/-- the frozen part behind a cut -/
noncomputable def cutZ (Z H : Hp) (m : List Addr) (b : Nat) : Hp := fun a => if a ∈ m.drop b then H a else Z a
theorem cutZ_same {P : Par} {Z : Hp} {m : List Addr} {F : Hp} {S : Store} {H : Hp} {b : Nat} (sr : SR P Z m F S H) : Same Z (cutZ Z H m b) := fun a o e => by
  unfold cutZ
  rw [if_neg]
  · exact e
  · intro h
    rw [(sr.mz a (List.mem_of_mem_drop h)).1] at e
    cases e
theorem cutZ_at {Z H : Hp} {m : List Addr} {b i : Nat} {a : Addr} (hi : b ≤ i) (e : m[i]? = some a) : cutZ Z H m b a = H a := by
  unfold cutZ
  rw [if_pos]
  exact List.mem_of_getElem? (i := i - b) (by rw [List.getElem?_drop]; rw [Nat.add_sub_cancel' hi]; exact e)
theorem SR.cut {P P' : Par} (hK : P'.K = P.K) (hf : P'.fn = P.fn) (ht : P'.tabs = P.tabs) {Z' : Hp} {m' : List Addr} {F : Hp} {S' : Store} {H' : Hp} {b : Nat} (hb : b ≤ S'.length) (sr : SR P Z' m' F S' H') (old : ∀ (i : Nat) c, i < b → S'[i]? = some c → c.blw b = true) :
    SR P' (cutZ Z' H' m' b) (m'.take b) F (S'.take b) H' := by
  refine ⟨fun a o e => ?_, sr.fh, fun a o e => ?_, by simp [sr.len], sr.nd.sublist (List.take_sublist _ _), fun a ha => ⟨?_, (sr.mz a (List.mem_of_mem_take ha)).2⟩, fun i c e => ?_, ⟨ht ▸ sr.ts.tb, fun a ps e => ?_, sr.ts.nf, sr.ts.ne⟩⟩
  · unfold cutZ at e
    split at e
    · exact e
    · exact sr.zh _ _ e
  · unfold cutZ at e
    split at e
    · rename_i h
      exact (sr.mz a (List.mem_of_mem_drop h)).2
    · exact sr.zf _ _ e
  · unfold cutZ
    rw [if_neg]
    · exact (sr.mz a (List.mem_of_mem_take ha)).1
    · intro h
      have nd := sr.nd
      rw [← List.take_append_drop b m', List.nodup_append] at nd
      exact nd.2.2 a ha a h rfl
  · have hi : i < b := by
      have := (List.getElem?_eq_some_iff.mp e).1
      simp at this
      omega
    rw [List.getElem?_take_of_lt hi] at e
    obtain ⟨a, e1, r⟩ := sr.cell i c e
    refine ⟨a, by rw [List.getElem?_take_of_lt hi]; exact e1, ?_⟩
    exact CR.lower hK hf (cutZ_same sr) (old i c hi e) r
  · unfold cutZ at e
    split at e
    · rename_i h
      obtain ⟨i, hi, e1⟩ := List.getElem_of_mem (List.mem_of_mem_drop h)
      have hi' : i < S'.length := by rw [← sr.len]; exact hi
      obtain ⟨b, e2, r⟩ := sr.cell i S'[i] (List.getElem?_eq_getElem hi')
      rw [List.getElem?_eq_getElem hi, e1] at e2
      cases e2
      exact r.no.1 ps e
    · exact sr.ts.nz a ps e
theorem mapM_R {α β : Type} {f : α → Option β} : ∀ {xs : List α} {ys : List β}, xs.mapM f = some ys → Paired (fun x y => f x = some y) xs ys
  | [], ys, h => by simp at h; subst h; exact .nil
  | x :: xs, ys, h => by
    rw [List.mapM_cons] at h
    cases e : f x with
    | none => rw [e] at h; cases h
    | some y =>
      rw [e] at h
      cases e2 : xs.mapM f with
      | none => rw [e2] at h; cases h
      | some zs =>
        rw [e2] at h
        cases h
        exact .cons e (mapM_R e2)
theorem frz_R {P P' : Par} (hK : P'.K = P.K) (hf : P'.fn = P.fn) {Z : Hp} {m : List Addr} {F : Hp} {S : Store} {H : Hp} {b : Nat} (sr : SR P Z m F S H) : ∀ (n : Nat) (x w : PV) (u : V), frz n S b x = some w → VR P Z m x u → VR P' (cutZ Z H m b) (m.take b) w u
  | 0, x, w, u, e, h => by
    unfold frz at e
    split at e
    · rename_i k; cases e; exact VR.lower hK hf (cutZ_same sr) _ _ k h
    · cases e
  | n + 1, x, w, u, e, h => by
    have many : ∀ {xs ws : List PV} {us : List V}, xs.mapM (frz n S b) = some ws → VRs P Z m xs us → VRs P' (cutZ Z H m b) (m.take b) ws us := by
      intro xs ws us e
      have p := mapM_R e
      clear e
      induction p generalizing us with
      | nil => exact fun h => h
      | cons e p ih =>
        intro h
        obtain ⟨v, r, rfl, h1, h2⟩ := h
        exact ⟨v, r, rfl, frz_R hK hf sr n _ _ _ e h1, ih h2⟩
    unfold frz at e
    split at e
    · rename_i k; cases e; exact VR.lower hK hf (cutZ_same sr) _ _ k h
    · rename_i k
      split at e
      · rename_i i
        split at e
        · rename_i xs e2
          obtain ⟨ws, e3, rfl⟩ := Option.map_eq_some_iff.mp e
          obtain ⟨a, e4, rfl⟩ := h
          obtain ⟨a', e5, vs, e6, r⟩ := sr.cell i _ e2
          rw [e4] at e5; cases e5
          have hb : b ≤ i := Nat.le_of_not_lt fun z => k (decide_eq_true z)
          exact ⟨a, vs, rfl, by rw [cutZ_at hb e4]; exact e6, many e3 r⟩
        · cases e
      · obtain ⟨ws, e3, rfl⟩ := Option.map_eq_some_iff.mp e
        obtain ⟨a, vs, rfl, q, r⟩ := h
        exact ⟨a, vs, rfl, hK ▸ Same.sqT (cutZ_same sr) q, many e3 r⟩
      · obtain ⟨ws, e3, rfl⟩ := Option.map_eq_some_iff.mp e
        obtain ⟨a, vs, rfl, q, r⟩ := h
        exact ⟨a, vs, rfl, cutZ_same sr _ _ q, many e3 r⟩
      · cases e
/-- the old things behind a call -/
theorem old_of {P : Par} (he : P.base) {Z : Hp} {m : List Addr} {F : Hp} {S S' : Store} {H : Hp} (sr0 : SR P Z m F S H) (old : oldOk S.length S S' = true) : S.length ≤ S'.length ∧ ∀ (i : Nat) c, i < S.length → S'[i]? = some c → c.blw S.length = true := by
  obtain ⟨l, h⟩ := oldOk_at old
  refine ⟨l, fun i c hi e => ?_⟩
  rcases h i S[i] c (List.getElem?_eq_getElem hi) e with z | z
  · subst z
    obtain ⟨a, _, r⟩ := sr0.cell i _ (List.getElem?_eq_getElem hi)
    have := CR.blw he r
    rw [sr0.len] at this
    exact this
  · exact z
theorem pre_take {m m' : List Addr} {b : Nat} (h : m <+: m') (e : m.length = b) : m'.take b = m := by
  subst e
  exact (List.prefix_iff_eq_take.mp h).symm
/-- a call's end -/
theorem close_ok {P P' : Par} (he : P.base) (hK : P'.K = P.K) (hf : P'.fn = P.fn) (ht : P'.tabs = P.tabs) {Z Z' : Hp} {m m' : List Addr} {F : Hp} {S S' : Store} {H H' : Hp} {keep : Bool} {x : PV} {u : V} {Q : VK} {E : XK} (hk : keep = true → P' = P) (q : okE P Z m F (closeV keep S x S') Q E) (sr0 : SR P Z m F S H) (sr : SR P' Z' m' F S' H') (hz : Same Z Z') (hm : m <+: m') (r : VR P' Z' m' x u) : Q u H' := by
  unfold closeV at q
  cases keep with
  | true =>
    have e := hk rfl
    subst e
    exact q Z' m' u H' hz hm sr r
  | false =>
    simp only [Bool.false_eq_true, if_false] at q
    cases e : frz 8 S' S.length x with
    | none => rw [e] at q; exact q.elim
    | some w =>
      rw [e] at q
      obtain ⟨c, q⟩ := okR_guard q
      obtain ⟨l, old⟩ := old_of he sr0 c
      have sc := SR.cut (P := P') (P' := P) hK.symm hf.symm ht.symm l sr old
      rw [pre_take hm sr0.len] at sc
      have rw' := frz_R (P := P') (P' := P) hK.symm hf.symm (b := S.length) sr 8 x w u e r
      rw [pre_take hm sr0.len] at rw'
      exact q _ m u H' (hz.trans (cutZ_same sr)) (List.prefix_refl _) sc rw'
theorem close_exc {P P' : Par} (he : P.base) (hK : P'.K = P.K) (hf : P'.fn = P.fn) (ht : P'.tabs = P.tabs) (hx : P'.exn = P.exn) {Z Z' : Hp} {m m' : List Addr} {F : Hp} {S S' : Store} {H H' : Hp} {c : SS} {fs : List PV} {Q : VK} {E : XK} (q : okE P Z m F (guardR (oldOk S.length S S' && fs.isEmpty) (.exc c [] (S'.take S.length))) Q E) (sr0 : SR P Z m F S H) (sr : SR P' Z' m' F S' H') (hz : Same Z Z') (hm : m <+: m')
    {cls : Value} {d : Option Addr} (r : XR P' Z' m' c fs cls d) : E cls d H' := by
  obtain ⟨c, q⟩ := okR_guard q
  obtain ⟨c1, c2⟩ := Bool.and_eq_true_iff.mp c
  obtain ⟨l, old⟩ := old_of he sr0 c1
  have sc := SR.cut (P := P') (P' := P) hK.symm hf.symm ht.symm l sr old
  rw [pre_take hm sr0.len] at sc
  exact q _ m cls d H' (hz.trans (cutZ_same sr)) (List.prefix_refl _) sc ⟨hK ▸ r.1, rfl, r.2.2.1, hx ▸ r.2.2.2⟩
end Ev

end
section
set_option Elab.async false
set_option linter.all false
set_option maxRecDepth 100000
set_option maxHeartbeats 1000000
namespace Ev
open PySem L2
/-! ### calls -/
def spF (P : Par) (g : List PV → Store → Rs PV) (n : Nat) : Sp := fun vs H Q E => vs.length = n ∧ ∃ Z m F S xs, SR P Z m F S H ∧ VRs P Z m xs vs ∧ okE P Z m F (g xs S) Q E
/-- the def at a does what g says -/
def FnA0 (Pg : Program) (w : World) (K : PySem.W.Frag) (mg : SS → Option Value) (base : Heap) (P : Par) (k : Nat) (a : Addr) (g : List PV → Store → Rs PV) : Prop :=
  ∃ fd ps, FnOk Pg w K mg base (L2.CX Pg w) k a fd ps (spF P g ps.length) ∧ PySem.W.keepIn K (.ref a) = true ∧ Binds K fd ps [] ∧ ∀ xs S, g xs S = .bad ∨ xs.length = ps.length
abbrev FnA (X : Cx) (P : Par) (k : Nat) (a : Addr) (g : List PV → Store → Rs PV) : Prop := FnA0 X.prog X.w X.K X.mg X.base P k a g
/-- what a class must be to be made -/
def MkA (X : Cx) (P : Par) (k : Nat) (c init : SS) (g : List PV → Store → Rs PV) : Prop :=
  ∃ a, Mk X.K (He.ga P.K c) a ∧ FnA X P k a g ∧ (P.fn c).isSome = true
structure CallOk (X : Cx) (P : Par) (C : Cfg) (k : Nat) : Prop where
  rm : Room (k + 1) X.A
  fns : ∀ f lam, C.kn f = true → FnA X P k (He.ga P.K f) (C.call lam f)
theorem bad_el {P : Par} {Z : Hp} {m : List Addr} {F : Hp} {r : Rs PV} {Q : VK} {E : XK} (q : okE P Z m F r Q E) (e : r = .bad) : False := by
  rw [e] at q; exact q
section
variable {X : Cx} {P : Par} {W : L2.WX} {C : Cfg} {k : Nat} {a b c e : Expr} {da db dc : Den} {ta tb : DenT} {pos p apos : Pos} {es : List Expr} {dl : DenL} {x : SS} {mk : SS → Option SS}
theorem sp_red {g : List PV → Store → Rs PV} {n : Nat} {τ : St} {H : Hp} {Q : VK} (hl : ∀ xs S, g xs S = .bad ∨ xs.length = n) (h : tD P W C (fun C σ S => (dl C σ S).bnd fun xs S => g xs S) τ H Q) : tCallSD (spF P g n) [] (WE W) (tA P W C dl) τ H Q := by
  obtain ⟨Z, m, F, S, σ, sr, sl, q⟩ := h
  refine ⟨Z, m, F, S, σ, sr, sl, bnd1 q fun us H1 Z1 m1 S1 xs z1 p1 sr1 r1 q1 => ?_⟩
  rw [List.append_nil]
  refine ⟨?_, Z1, m1, F, S1, xs, sr1, r1, q1⟩
  rcases hl xs S1 with e | e
  · exact (bad_el q1 e).elim
  · rw [← VRs.length r1]; exact e
theorem e_call (ok : CallOk X P C k) (kn : C.kn x = true) (tk : Takes X W) (hg : Gl X x) (hm : X.mg x = some (.ref (He.ga P.K x))) (hd : (x == ("__debug__" : SS)) = false) (hs : (e :: es).all notStar = true) (ha : PA X (e :: es) (tA P W C dl)) : PE X (.Call (.Name x p) (e :: es) [] pos) (tD P W C (dCall x dl)) := by
  have hs' := hs
  rw [List.all_cons, Bool.and_eq_true_iff] at hs'
  obtain ⟨fd, ps, F, hk, hbi, hl⟩ := ok.fns x C.lam kn
  exact PE.weak (pe_callSD F (ok.rm.mono (Nat.le_succ _)) hg hm hk hbi .nil (fun σ => passAt tk σ) ha hd (star_cons hs'.1) (star_any hs'.2)) fun τ H Q h => sp_red hl h
/-- a call of a local that holds a def -/
theorem e_callL (ok : CallOk X P C k) (tk : Takes X W) {i : Nat} (hN : X.N[i]? = some x) (hv : Vis X.env.scope x) (hd : (x == ("__debug__" : SS)) = false) (hcd : (x == ("__classdict__" : SS)) = false) (hs : (e :: es).all notStar = true) (ha : PA X (e :: es) (tA P W C dl)) : PE X (.Call (.Name x p) (e :: es) [] pos) (tD P W C (dCallL i dl)) := by
  have hs' := hs
  rw [List.all_cons, Bool.and_eq_true_iff] at hs'
  refine ⟨fun pins s τ H Q I h => ?_⟩
  obtain ⟨Z, m, F, S, σ, sr, sl, q⟩ := h
  simp only [dCallL] at q
  cases e1 : σ[i]? with
  | none => rw [e1] at q; exact q.elim
  | some o => cases o with
    | none => rw [e1] at q; exact q.elim
    | some v => cases v with
      | gl f =>
        rw [e1] at q
        obtain ⟨kn, q⟩ := okR_guard q
        obtain ⟨u, e2, r⟩ := sl.2 i _ e1
        cases r
        obtain ⟨fd, ps, Fn, hk, hbi, hl⟩ := ok.fns f C.lam kn
        refine wpAny_Call_Name_kw (thn ((pe_var (pos := p) hN hv hd hcd).run pins s τ H (fun v H1 => v = .ref (He.ga P.K f) ∧ H1 = H) I ⟨_, e2, rfl, rfl⟩) fun u s1 ⟨v, H1, I1, r1, q1⟩ => ?_)
        obtain ⟨rfl, rfl⟩ := q1
        cases r1
        have hsp := sp_red (W := W) (τ := τ) (dl := dl) (C := C) (Q := Q) hl ⟨Z, m, F, S, σ, sr, sl, q⟩
        refine PySem.W.callWith_K (h₀ := X.base) I.ok.mod.kin hk (thn (ha.run pos pins s1 τ _ _ I1 hsp) fun us s2 ⟨vs, H2, I2, r, q⟩ => ⟨I2.kIn, ?_⟩) (star_cons hs'.1) (star_any hs'.2)
        exact run_fnSD Fn (ok.rm.mono (Nat.le_succ _)) hbi .nil (passAt tk τ) I2 r q
      | _ => rw [e1] at q; exact q.elim

/-! ### an instance is made -/
theorem run_makeS {pins : List (Addr × Obj)} {σ : St} {H : Hp} {s : Shared} {Q : VK} {us : List Value} {vs : List V} {CX : CXT} {f D : Addr} {fd : FuncData} {ps : List SS} {sp : Sp} {E : St → XK} (M : Mk X.K D f) (F : FnOk X.prog X.w X.K X.mg X.base CX k f fd ps sp) (hr : Room (k + 1) X.A) (hb : Binds X.K fd ps [])
    (hx : PassesAt CX X σ (E σ)) (I : Inv X pins σ H s) (r : Vals vs us)
    (h : ∀ x dx, H x = none → H dx = none → dx ≠ x → sp (.ref x :: vs) (upd (upd H dx (.own x)) x (.ins D dx [])) (fun v H2 => v = .non ∧ Q (.ref x) H2) (E σ)) :
    wpAny (model X.prog X.w) X.A (call (.ref D) us) (EP X pins σ Q) X.xe s := by
  have fr1 : H (s.heap.objs.size + 1) = none := I.hok.fresh (Nat.le_succ _)
  have fr0 : H s.heap.objs.size = none := I.hok.fresh (Nat.le_refl _)
  have hq := h _ _ fr1 fr0 (Nat.ne_of_lt (Nat.lt_succ_self _))
  have J := Inv.made (C := D) I
  have rr : Vals (V.ref (s.heap.objs.size + 1) :: vs) (Value.ref (s.heap.objs.size + 1) :: us) := .cons rfl r
  have hl : (Value.ref (s.heap.objs.size + 1) :: us).length = ps.length := (rr.length).symm.trans (F.len _ _ _ _ hq)
  have b := hb _ (Value.ref (s.heap.objs.size + 1) :: us) J.kIn (by rw [List.append_nil]; exact hl)
  rw [List.append_nil] at b
  have run := F.run _ X.stack _ _ ⟨Value.ref (s.heap.objs.size + 1) :: us, []⟩ _ _ _ (E σ) (hr.make D us []) (J.env0.make D us []) b rr hq
  refine wpAny_call (make_map (f := f) I.kIn M.makes M.init (beq_iff_eq.mp M.fn) (codeAny_mono run fun res s2 hres => ?_))
  match res, hres with
  | .error e, hres => exact hx pins _ _ e s2 J hres
  | .ok (.ret u), hres =>
    obtain ⟨v, H2, J2, rv, ev, q2⟩ := J.after hres
    subst ev
    exact ⟨rv, ⟨V.ref (s.heap.objs.size + 1), H2, J2, rfl, q2⟩⟩
theorem mk_red (fl : C.flds = P.fn) (he : P.base) {cn init : SS} {mt : Bool} {Z : Hp} {m : List Addr} {F : Hp} {S : Store} {H : Hp} {xs : List PV} {vs : List V} {Q : VK} {E : XK} (q : okE P Z m F (mkV C cn init mt xs S) Q E) (sr : SR P Z m F S H) (r : VRs P Z m xs vs) {x dx : Addr} (hx : H x = none) (hdx : H dx = none) (hne : dx ≠ x) :
    ∃ Z1, SR P Z1 (m ++ [x]) F (S ++ [.ins cn [] []]) (upd (upd H dx (.own x)) x (.ins (He.ga P.K cn) dx [])) ∧ VRs P Z1 (m ++ [x]) (.rf S.length :: xs) (.ref x :: vs) ∧ okE P Z1 (m ++ [x]) F (C.call C.lam init (.rf S.length :: xs) (S ++ [.ins cn [] []])) (fun v H2 => v = .non ∧ Q (.ref x) H2) E := by
  have nz := sr.nz hdx
  have sz : Same Z (upd Z dx (.own x)) := same_upd nz
  have sr1 := SR.new sr hdx (.own x)
  have hx1 : upd H dx (.own x) x = none := by rw [upd_ne (Ne.symm hne)]; exact hx
  have at0 : (m ++ [x])[S.length]? = some x := by rw [← sr.len, List.getElem?_append_right (Nat.le_refl _)]; simp
  refine ⟨_, SR.grow sr1 hx1 (c := .ins cn [] []) ⟨dx, [], rfl, rfl, rfl⟩, ⟨_, _, rfl, ⟨x, at0, rfl⟩, VRs.mono sz (List.prefix_append ..) _ _ r⟩, ?_⟩
  unfold mkV at q
  cases e : C.call C.lam init (.rf S.length :: xs) (S ++ [.ins cn [] []]) with
  | bad => rw [e] at q; exact q.elim
  | ok v S' =>
    rw [e] at q
    obtain ⟨nv, q⟩ := okR_guard q
    intro Z' m' u H' hz hm sr' rv
    have at1 : m'[S.length]? = some x := by
      obtain ⟨t, rfl⟩ := hm
      rw [List.getElem?_append_left (by have := sr.len; simp; omega)]
      exact at0
    refine ⟨(by cases v <;> first | exact rv | (cases nv; done)), ?_⟩
    unfold mkEnd at q
    cases mt with
    | true => exact q Z' m' _ H' (sz.trans hz) ((List.prefix_append ..).trans hm) sr' ⟨x, at1, rfl⟩
    | false =>
      simp only [Bool.false_eq_true, if_false] at q
      cases e1 : S'[S.length]? with
      | none => rw [e1] at q; exact q.elim
      | some d =>
        rw [e1] at q
        cases d with
        | ins d ns fs =>
          obtain ⟨g, q⟩ := okR_guard q
          simp only [Bool.and_eq_true, decide_eq_true_eq] at g
          obtain ⟨g1, g2, g3, g4⟩ := g
          subst g1
          obtain ⟨l, old⟩ := old_of he sr g4
          have sc := SR.cut (P' := P) rfl rfl rfl l sr' old
          have pt : m'.take S.length = m := pre_take ((List.prefix_append ..).trans hm) sr.len
          rw [pt] at sc
          obtain ⟨a', e2, dx', fv, e3, e4, e5⟩ := sr'.cell _ _ e1
          rw [at1] at e2; cases e2
          have lo := VRs.lower (P' := P) (b := S.length) rfl rfl (cutZ_same (b := S.length) sr') fs _ g3 e5
          rw [pt] at lo
          exact q _ m _ H' ((sz.trans hz).trans (cutZ_same sr')) (List.prefix_refl _) sc ⟨x, dx', fv, ns, rfl, by rw [cutZ_at (Nat.le_refl _) at1]; exact e3, fl ▸ g2, e4, lo⟩
        | _ => exact q.elim
  | exc d fs S' =>
    rw [e] at q
    intro Z' m' cls dd H' hz hm sr' rv
    obtain ⟨g, q⟩ := okR_guard q
    obtain ⟨g1, g2⟩ := Bool.and_eq_true_iff.mp g
    obtain ⟨l, old⟩ := old_of he sr g1
    have sc := SR.cut (P' := P) rfl rfl rfl l sr' old
    have pt : m'.take S.length = m := pre_take ((List.prefix_append ..).trans hm) sr.len
    rw [pt] at sc
    exact q _ m cls dd H' ((sz.trans hz).trans (cutZ_same sr')) (List.prefix_refl _) sc ⟨rv.1, rfl, rv.2.2⟩
theorem e_mk (o : CxOk X P W C) (he : P.base) (hr : Room (k + 1) X.A) {init : SS} {mt : Bool} (mk : MkA X P k x init (C.call C.lam init)) (tk : Takes X W) (hg : Gl X x) (hm : X.mg x = some (.ref (He.ga P.K x))) (hd : (x == ("__debug__" : SS)) = false) (hs : (e :: es).all notStar = true) (ha : PA X (e :: es) (tA P W C dl)) :
    PE X (.Call (.Name x p) (e :: es) [] pos) (tD P W C (dMk x init mt dl)) := by
  have hs' := hs
  rw [List.all_cons, Bool.and_eq_true_iff] at hs'
  obtain ⟨a, M, ⟨fd, ps, Fn, _, hbi, hl⟩, _⟩ := mk
  refine ⟨fun pins s τ H Q I h => ?_⟩
  obtain ⟨Z, m, F, S, σ, sr, sl, q⟩ := h
  refine wpAny_Call_Name_kw (ld_glob I hg hm ?_ hd)
  refine PySem.W.callWith_K (h₀ := X.base) I.ok.mod.kin M.kp (thn (ha.run pos pins s τ _ (fun us H1 => ∀ y dx, H1 y = none → H1 dx = none → dx ≠ y → spF P (C.call C.lam init) ps.length (.ref y :: us) (upd (upd H1 dx (.own y)) y (.ins (He.ga P.K x) dx [])) (fun v H2 => v = .non ∧ Q (.ref y) H2) (WE W τ)) I ⟨Z, m, F, S, σ, sr, sl, ?_⟩) fun us s1 ⟨vs, H1, I1, r, q⟩ => ⟨I1.kIn, ?_⟩) (star_cons hs'.1) (star_any hs'.2)
  · refine bnd1 q fun us H1 Z1 m1 S1 xs z1 p1 sr1 r1 q1 y dx hx hdx hne => ?_
    obtain ⟨Z2, sr2, r2, q2⟩ := mk_red o.fl he q1 sr1 r1 hx hdx hne
    refine ⟨?_, Z2, _, F, _, _, sr2, r2, q2⟩
    rcases hl (.rf S1.length :: xs) (S1 ++ [.ins x [] []]) with e | e
    · rw [e] at q2; exact q2.elim
    · rw [← VRs.length r2]; exact e
  · exact run_makeS M Fn hr hbi (passAt tk τ) I1 r q
end
end Ev

end
section
set_option Elab.async false
set_option linter.all false
set_option maxRecDepth 100000
set_option maxHeartbeats 1000000
namespace Ev
open PySem L2
/-! ### statements -/
def okS (P : Par) (Z : Hp) (m : List Addr) (F : Hp) (r : Rt) (D : Ends) (W : L2.WX) : Prop := match r with
  | .nx σ S => ∀ Z' m' τ H, Same Z Z' → m <+: m' → SR P Z' m' F S H → SgR P Z' m' σ τ → D.nx τ H
  | .rt v S => ∀ Z' m' u H, Same Z Z' → m <+: m' → SR P Z' m' F S H → VR P Z' m' v u → D.rt u H
  | .bk σ S => ∀ Z' m' τ H, Same Z Z' → m <+: m' → SR P Z' m' F S H → SgR P Z' m' σ τ → D.bk τ H
  | .ct σ S => ∀ Z' m' τ H, Same Z Z' → m <+: m' → SR P Z' m' F S H → SgR P Z' m' σ τ → D.ct τ H
  | .exc c fs σ S => ∀ Z' m' cls d τ H, Same Z Z' → m <+: m' → SR P Z' m' F S H → SgR P Z' m' σ τ → XR P Z' m' c fs cls d → W cls d τ H
  | .bad => False
theorem okS.mono {P : Par} {Z Z1 : Hp} {m m1 : List Addr} {F : Hp} {r : Rt} {D : Ends} {W : L2.WX} (hz : Same Z Z1) (hm : m <+: m1) (h : okS P Z m F r D W) : okS P Z1 m1 F r D W := by
  cases r with
  | bad => exact h
  | exc c fs σ S => exact fun Z' m' cls d τ H a b => h Z' m' cls d τ H (hz.trans a) (hm.trans b)
  | _ => exact fun Z' m' τ H a b => h Z' m' τ H (hz.trans a) (hm.trans b)
/-- what follows -/
theorem okS_bnd {P : Par} {Z : Hp} {m : List Addr} {F : Hp} {r : Rt} {f : Sl → Store → Rt} {D : Ends} {W : L2.WX} (h : okS P Z m F (r.bnd f) D W) :
    okS P Z m F r { D with nx := fun τ H => ∃ Z' m' S σ, Same Z Z' ∧ m <+: m' ∧ SR P Z' m' F S H ∧ SgR P Z' m' σ τ ∧ okS P Z' m' F (f σ S) D W } W := by
  cases r with
  | nx σ S => exact fun Z' m' τ H a b c d => ⟨Z', m', S, σ, a, b, c, d, okS.mono a b h⟩
  | _ => exact h
theorem okS_in {α β : Type} {R : Hp → List Addr → α → β → Prop} {P : Par} {Z : Hp} {m : List Addr} {F : Hp} {r : Rs α} {σ : Sl} {τ : St} {f : α → Store → Rt} {D : Ends} {W : L2.WX} (sl : SgR P Z m σ τ) (h : okS P Z m F (inS r σ f) D W) {Q : β → Hp → Prop}
    (g : ∀ u H' Z' m' S' v, Same Z Z' → m <+: m' → SR P Z' m' F S' H' → R Z' m' v u → okS P Z' m' F (f v S') D W → Q u H') : okR R P Z m F r Q (fun cls d H => W cls d τ H) := by
  cases r with
  | ok v S => exact fun Z' m' u H' a b c d => g u H' Z' m' S v a b c d (okS.mono a b h)
  | exc c fs S => exact fun Z' m' cls d H' a b s x => h Z' m' cls d τ H' a b s (sl.mono a b) x
  | bad => exact h
def tS (P : Par) (W : L2.WX) (C : Cfg) (d : DenS) : TS := fun D τ H => ∃ Z m F S σ, SR P Z m F S H ∧ SgR P Z m σ τ ∧ okS P Z m F (d C σ S) D W

section
variable {X : Cx} {P : Par} {W : L2.WX} {C : Cfg} {k : Nat} {a b c e : Expr} {da db dc : Den} {ta tb : DenT} {pos p apos : Pos} {es : List Expr} {dl : DenL} {x : SS} {ds dt : DenS}
theorem s_nil : PSs X [] (tS P W C sNil) := PSs.weak pss_nil fun D τ H ⟨Z, m, F, S, σ, sr, sl, q⟩ => q Z m τ H (Same.refl _) (List.prefix_refl _) sr sl
theorem s_cons {st : Stmt} {rest : List Stmt} (h : PS X st (tS P W C ds)) (g : PSs X rest (tS P W C dt)) : PSs X (st :: rest) (tS P W C (sSeq ds dt)) :=
  PSs.weak (pss_cons h g) fun D τ H ⟨Z, m, F, S, σ, sr, sl, q⟩ => by
    refine ⟨Z, m, F, S, σ, sr, sl, ?_⟩
    have := okS_bnd q
    cases e : ds C σ S with
    | nx σ' S' =>
      rw [e] at this
      exact fun Z' m' τ' H' a b c d => let ⟨Z2, m2, S2, σ2, _, _, s2, l2, q2⟩ := this Z' m' τ' H' a b c d; ⟨Z2, m2, F, S2, σ2, s2, l2, q2⟩
    | _ => rw [e] at this; exact this
theorem s_bad {st : Stmt} : PS X st (tS P W C sBad) := PS.weak ps_never fun D τ H ⟨Z, m, F, S, σ, sr, sl, q⟩ => q
theorem e_bad : PE X e (tD P W C dBad) := ⟨fun _ _ _ _ _ _ ⟨_, _, _, _, _, _, _, q⟩ => q.elim⟩
theorem t_bad : PT X e (tT P W C tBad) := ⟨fun _ _ _ _ _ _ ⟨_, _, _, _, _, _, _, q⟩ => q.elim⟩
theorem w_bad : PW X e (tT P W C tBad) := ⟨fun _ _ _ _ _ _ _ ⟨_, _, _, _, _, _, _, q⟩ => q.elim⟩
theorem a_bad : PA X es (tA P W C fun _ _ _ => .bad) := ⟨fun _ _ _ _ _ _ _ ⟨_, _, _, _, _, _, _, q⟩ => q.elim⟩
theorem s_pass : PS X (.Pass pos) (tS P W C sNil) := PS.weak ps_pass fun D τ H ⟨Z, m, F, S, σ, sr, sl, q⟩ => q Z m τ H (Same.refl _) (List.prefix_refl _) sr sl
theorem s_break : PS X (.Break pos) (tS P W C sBrk) := PS.weak ps_break fun D τ H ⟨Z, m, F, S, σ, sr, sl, q⟩ => q Z m τ H (Same.refl _) (List.prefix_refl _) sr sl
theorem s_cont : PS X (.Continue pos) (tS P W C sCnt) := PS.weak ps_continue fun D τ H ⟨Z, m, F, S, σ, sr, sl, q⟩ => q Z m τ H (Same.refl _) (List.prefix_refl _) sr sl
theorem s_expr (he : PE X e (tD P W C da)) (hs : swapsWith e none pos.line X.env = pure false) : PS X (.Expr e pos) (tS P W C (sExpr da)) :=
  PS.weak (ps_expr he hs) fun D τ H ⟨Z, m, F, S, σ, sr, sl, q⟩ => ⟨Z, m, F, S, σ, sr, sl, okS_in (R := VR P) sl q fun u H' Z' m' S' v z p s r q => q Z' m' τ H' (Same.refl _) (List.prefix_refl _) s (sl.mono z p)⟩
theorem s_ret (he : PE X e (tD P W C da)) : PS X (.Return (some e) pos) (tS P W C (sRet da)) :=
  PS.weak (ps_ret he) fun D τ H ⟨Z, m, F, S, σ, sr, sl, q⟩ => ⟨Z, m, F, S, σ, sr, sl, okS_in (R := VR P) sl q fun u H' Z' m' S' v z p s r q => q Z' m' u H' (Same.refl _) (List.prefix_refl _) s r⟩
theorem s_retN : PS X (.Return none pos) (tS P W C sRetN) := PS.weak ps_retN fun D τ H ⟨Z, m, F, S, σ, sr, sl, q⟩ => q Z m _ H (Same.refl _) (List.prefix_refl _) sr rfl
theorem s_if {s1 s2 : List Stmt} (ht : PT X c (tT P W C ta)) (h1 : PSs X s1 (tS P W C ds)) (h2 : PSs X s2 (tS P W C dt)) : PS X (.If c s1 s2 pos) (tS P W C (sIf ta ds dt)) :=
  PS.weak (ps_if ht h1 h2) fun D τ H ⟨Z, m, F, S, σ, sr, sl, q⟩ => ⟨Z, m, F, S, σ, sr, sl, okS_in (R := fun _ _ (a b : Bool) => a = b) sl q fun u H' Z' m' S' v z p s r q => by
    subst r
    cases v with
    | true => rw [if_pos rfl] at q ⊢; exact ⟨Z', m', F, S', σ, s, sl.mono z p, q⟩
    | false => rw [if_neg Bool.false_ne_true] at q ⊢; exact ⟨Z', m', F, S', σ, s, sl.mono z p, q⟩⟩

/-! ### targets -/
mutual
def Tg.idx : Tg → List Nat
  | .nm i => [i]
  | .tp ts => Tg.idxs ts
def Tg.idxs : List Tg → List Nat
  | [] => []
  | t :: ts => Tg.idx t ++ Tg.idxs ts
end
theorem wipe_set {v : Option V} : ∀ {vs : List Nat} {τ : St} {i : Nat}, i ∈ vs → wipe (τ.set i v) vs = wipe τ vs
  | j :: vs, τ, i, h => by
    by_cases hi : i ∈ vs
    · unfold wipe; rw [wipe_set hi]
    · have e : i = j := by
        rcases List.mem_cons.mp h with h | h
        · exact h
        · exact absurd h hi
      subst e
      have gen : ∀ {vs : List Nat}, i ∉ vs → wipe (τ.set i v) vs = (wipe τ vs).set i v := by
        intro vs
        induction vs with
        | nil => intro _; rfl
        | cons w vs ih =>
          intro h
          rw [List.mem_cons, not_or] at h
          unfold wipe
          rw [ih h.2, List.set_comm _ _ h.1]
      unfold wipe
      rw [gen hi, List.set_set]
/-- a target's reading -/
def gR (P : Par) (tg : Tg) : TG := fun u τ H Q => ∃ Z m F S σ x σ', SR P Z m F S H ∧ SgR P Z m σ τ ∧ VR P Z m x u ∧ tg.put x σ = some σ' ∧ ∀ τ', SgR P Z m σ' τ' → (∀ vs, (∀ i ∈ tg.idx, i ∈ vs) → wipe τ' vs = wipe τ vs) → Q τ' H
def gsR (P : Par) (ts : List Tg) : TGs := fun us τ H Q => ∃ Z m F S σ xs σ', SR P Z m F S H ∧ SgR P Z m σ τ ∧ VRs P Z m xs us ∧ Tg.puts ts xs σ = some σ' ∧ ∀ τ', SgR P Z m σ' τ' → (∀ vs, (∀ i ∈ Tg.idxs ts, i ∈ vs) → wipe τ' vs = wipe τ vs) → Q τ' H
theorem PG.weak {e : Expr} {t t' : TG} (h : PG X e t) (w : ∀ u τ H Q, t' u τ H Q → t u τ H Q) : PG X e t' := ⟨fun pins s σ H v u Q I r q => h.run pins s σ H v u Q I r (w v σ H Q q)⟩
theorem PGs.weak {e : List Expr} {t t' : TGs} (h : PGs X e t) (w : ∀ u τ H Q, t' u τ H Q → t u τ H Q) : PGs X e t' := ⟨fun pins s σ H v u Q I r q => h.run pins s σ H v u Q I r (w v σ H Q q)⟩
theorem g_nm {i : Nat} (hN : X.N.Nodup) (hi : X.N[i]? = some x) (hx : Loc X.env.scope x) (hf : X.fn x = true ∨ X.env.scope.names.lookup x = some .local) : PG X (.Name x pos) (gR P (.nm i)) :=
  PG.weak (pg_name hN hi hx hf) fun u τ H Q ⟨Z, m, F, S, σ, v, σ', sr, sl, r, e, q⟩ => by
    cases e
    exact q _ (sl.set i r) fun vs h => wipe_set (h i (by simp [Tg.idx]))
theorem gs_nil : PGs X [] (gsR P []) := PGs.weak pgs_nil fun us τ H Q ⟨Z, m, F, S, σ, xs, σ', sr, sl, r, e, q⟩ => by
  cases xs with
  | nil => cases r; cases e; exact ⟨rfl, q _ sl fun _ _ => rfl⟩
  | cons _ _ => cases e
theorem gs_cons {tg : Tg} {ts : List Tg} (h : PG X e (gR P tg)) (g : PGs X es (gsR P ts)) (hs : (assignEach (e :: es) X.env).map (·.2) = assign e X.env :: (assignEach es X.env).map (·.2)) : PGs X (e :: es) (gsR P (tg :: ts)) :=
  PGs.weak (pgs_cons h g hs) fun us τ H Q ⟨Z, m, F, S, σ, xs, σ', sr, sl, r, e, q⟩ => by
    cases xs with
    | nil => cases e
    | cons y ys =>
      obtain ⟨v, w, rfl, r1, r2⟩ := r
      obtain ⟨σ1, e1, e2⟩ := Option.bind_eq_some_iff.mp (show (Tg.put tg y σ).bind (Tg.puts ts ys) = some σ' from e)
      refine ⟨v, w, rfl, Z, m, F, S, σ, y, σ1, sr, sl, r1, e1, fun τ1 sl1 w1 => ⟨Z, m, F, S, σ1, ys, σ', sr, sl1, r2, e2, fun τ2 sl2 w2 => q τ2 sl2 fun vs h => ?_⟩⟩
      rw [w2 vs fun i hi => h i (by simp [Tg.idxs, hi]), w1 vs fun i hi => h i (by simp [Tg.idxs, hi])]
theorem puts_len : ∀ {ts : List Tg} {xs : List PV} {σ σ' : Sl}, Tg.puts ts xs σ = some σ' → xs.length = ts.length
  | [], [], _, _, _ => rfl
  | [], _ :: _, _, _, e => by cases e
  | _ :: _, [], _, _, e => by cases e
  | t :: ts, x :: xs, σ, σ', e => by
    obtain ⟨σ1, e1, e2⟩ := Option.bind_eq_some_iff.mp (show (Tg.put t x σ).bind (Tg.puts ts xs) = some σ' from e)
    simp [puts_len e2]
theorem g_tp {kk : Nat} {ts : List Tg} (hK : X.K = P.K) (hc : X.calm = true) (h : PGs X es (gsR P ts)) (hn : (assignEach es X.env).length = ts.length) (hst : (assignEach es X.env).findIdx? (·.1) = none) : PG X (.Tuple es kk pos) (gR P (.tp ts)) :=
  PG.weak (pg_tup hc h hn hst) fun u τ H Q ⟨Z, m, F, S, σ, x, σ', sr, sl, r, e, q⟩ => by
    cases x with
    | tup xs =>
      obtain ⟨a, us, rfl, h1, h2⟩ := id r
      exact ⟨a, us, rfl, hK ▸ Same.sqT sr.zh h1, by rw [← h2.length]; exact puts_len e, Z, m, F, S, σ, xs, σ', sr, sl, h2, e, q⟩
    | _ => cases e
theorem s_asg {tg : Expr} {t : Tg} (he : PE X e (tD P W C da)) (hg : PG X tg (gR P t)) (hs : swapsWithSole [tg] e pos.line X.env = pure false) (hw : swappedStores [tg] e X.env = pure none) (h1 : (assignEach [tg] X.env).map (·.2) = [assign tg X.env]) : PS X (.Assign [tg] e pos) (tS P W C (sSet t da)) :=
  PS.weak (ps_asg he hg hs hw h1) fun D τ H ⟨Z, m, F, S, σ, sr, sl, q⟩ => ⟨Z, m, F, S, σ, sr, sl, okS_in (R := VR P) sl q fun u H' Z' m' S' v z p s r q => by
    cases e1 : t.put v σ with
    | none => rw [e1] at q; exact q.elim
    | some σ' => rw [e1] at q; exact ⟨Z', m', F, S', σ, v, σ', s, sl.mono z p, r, e1, fun τ' sl' _ => q Z' m' τ' H' (Same.refl _) (List.prefix_refl _) s sl'⟩⟩
theorem s_par2 {i j : Nat} {y : SS} {px py pt pt2 : Pos} {kt k2 : Nat} (hc : X.calm = true) (hN : X.N.Nodup) (hi : X.N[i]? = some x) (hj : X.N[j]? = some y) (hij : i ≠ j) (hx : X.env.scope.names.lookup x = some .local) (hy : X.env.scope.names.lookup y = some .local) (ha : PA X [a, b] (tA P W C dl))
    (hw : swappedStores [.Tuple [.Name x px, .Name y py] kt pt] (.Tuple [a, b] k2 pt2) X.env = pure (some [x, y])) : PS X (.Assign [.Tuple [.Name x px, .Name y py] kt pt] (.Tuple [a, b] k2 pt2) pos) (tS P W C (sPar [i, j] dl)) :=
  PS.weak (ps_par hc hN hi hj hij hx hy ha hw rfl) fun D τ H ⟨Z, m, F, S, σ, sr, sl, q⟩ => ⟨Z, m, F, S, σ, sr, sl, okS_in (R := VRs P) sl q fun us H' Z' m' S' vs z p s r q => by
    cases vs with
    | nil => exact q.elim
    | cons v vs => cases vs with
      | nil => exact q.elim
      | cons w vs => cases vs with
        | nil =>
          obtain ⟨u1, u2, rfl, r1, r2⟩ := r.two
          exact ⟨u1, u2, rfl, q Z' m' _ H' (Same.refl _) (List.prefix_refl _) s (((sl.mono z p).set i r1).set j r2)⟩
        | cons _ _ => exact q.elim⟩
theorem s_aug {op : Operator} {i : Nat} (hop : op = .Add ∨ op = .Sub) (hN : X.N.Nodup) (hi : X.N[i]? = some x) (hx : Loc X.env.scope x) (he : PE X e (tD P W C da)) (hf : X.fn x = true ∨ X.env.scope.names.lookup x = some .local) : PS X (.AugAssign (.Name x p) op e pos) (tS P W C (sAug op i da)) := by
  have main : ∀ {g : Int → Int → Int}, PIp X op (ipI g) → (∀ x y S, ipV op x y S = .bad ∨ ∃ i j, x = .int i ∧ y = .int j ∧ ipV op x y S = .ok (.int (g i j)) S) → PS X (.AugAssign (.Name x p) op e pos) (tS P W C (sAug op i da)) := fun {g} hp hv =>
    PS.weak (ps_aug hN hi hx he hp hf) fun D τ H ⟨Z, m, F, S, σ, sr, sl, q⟩ => by
      simp only [sAug] at q
      cases e1 : σ[i]? with
      | none => rw [e1] at q; exact q.elim
      | some o => cases o with
        | none => rw [e1] at q; exact q.elim
        | some v =>
          rw [e1] at q
          obtain ⟨u, e2, r⟩ := sl.2 i v e1
          refine ⟨u, e2, Z, m, F, S, σ, sr, sl, okS_in (R := VR P) sl q fun w H' Z' m' S' y z p s ry q => ?_⟩
          rcases hv v y S' with h | ⟨i1, j1, rfl, rfl, h⟩
          · rw [h] at q; exact q.elim
          · rw [h] at q
            cases r; cases ry
            exact ⟨i1, j1, rfl, rfl, q Z' m' _ H' (Same.refl _) (List.prefix_refl _) s ((sl.mono z p).set i rfl)⟩
  rcases hop with rfl | rfl
  · refine main ip_add fun x y S => ?_
    cases x <;> first | (left; rfl) | (cases y <;> first | (left; rfl) | (right; exact ⟨_, _, rfl, rfl, rfl⟩))
  · refine main ip_sub fun x y S => ?_
    cases x <;> first | (left; rfl) | (cases y <;> first | (left; rfl) | (right; exact ⟨_, _, rfl, rfl, rfl⟩))
/-- o[i] = e -/
def notSl : Expr → Bool
  | .Slice _ _ _ _ => false
  | _ => true
theorem ps_sub {o i : Expr} {to ti te : TE} {p2 : Pos} {t : TSet} (he : PE X e te) (ho : PE X o to) (hi : PE X i ti) (hs : PSet X t) (hsl : notSl i = true) (h1 : swapsWithSole [.Subscript o i p2] e pos.line X.env = pure false) (h2 : swappedStores [.Subscript o i p2] e X.env = pure none) :
    PS X (.Assign [.Subscript o i p2] e pos) (tAsg te (gSub to ti t)) := ps_asg he (pg_sub ho hi hs fun v => by cases i <;> first | rfl | cases hsl) h1 h2
theorem s_put {o i : Expr} {p2 : Pos} (he : PE X e (tD P W C dc)) (ho : PE X o (tD P W C da)) (hi : PE X i (tD P W C db)) (hsl : notSl i = true) (h1 : swapsWithSole [.Subscript o i p2] e pos.line X.env = pure false) (h2 : swappedStores [.Subscript o i p2] e X.env = pure none) :
    PS X (.Assign [.Subscript o i p2] e pos) (tS P W C (sPut da db dc)) :=
  PS.weak (ps_sub he ho hi set_list hsl h1 h2) fun D τ H ⟨Z, m, F, S, σ, sr, sl, q⟩ => by
    refine ⟨Z, m, F, S, σ, sr, sl, okS_in (R := VR P) sl q fun u H1 Z1 m1 S1 v z1 p1 s1 r1 q => ?_⟩
    refine ⟨Z1, m1, F, S1, σ, s1, sl.mono z1 p1, okS_in (R := VR P) (sl.mono z1 p1) q fun ou H2 Z2 m2 S2 ov z2 p2 s2 r2 q => ?_⟩
    refine ⟨Z2, m2, F, S2, σ, s2, (sl.mono z1 p1).mono z2 p2, okS_in (R := VR P) ((sl.mono z1 p1).mono z2 p2) q fun iu H3 Z3 m3 S3 iv z3 p3 s3 r3 q => ?_⟩
    cases e1 : putV ov iv v S3 with
    | none => rw [e1] at q; exact q.elim
    | some S4 =>
      rw [e1] at q
      have r1' := VR.mono (z2.trans z3) (p2.trans p3) _ _ r1
      have r2' := VR.mono z3 p3 _ _ r2
      cases ov with
      | rf r => cases iv with
        | int kk =>
          simp only [putV] at e1
          cases e2 : S3[r]? with
          | none => rw [e2] at e1; cases e1
          | some cl =>
            rw [e2] at e1
            cases cl with
            | lst xs =>
              simp only at e1
              cases e3 : ixN xs.length kk with
              | none => rw [e3] at e1; cases e1
              | some j =>
                rw [e3] at e1
                cases e1
                obtain ⟨ad, e4, rfl⟩ := r2'
                obtain ⟨ad', e5, vs, e6, rl⟩ := s3.cell _ _ e2
                rw [e4] at e5; cases e5
                cases r3
                refine ⟨ad, vs, kk, j, rfl, rfl, e6, by rw [← rl.length]; exact e3, q Z3 m3 τ _ (Same.refl _) (List.prefix_refl _) (s3.put e4 ⟨_, rfl, VRs.set r1' j rl⟩) (((sl.mono z1 p1).mono z2 p2).mono z3 p3)⟩
            | _ => cases e1
        | _ => cases e1
      | _ => cases e1
end
end Ev

end
section
set_option Elab.async false
set_option linter.all false
set_option maxRecDepth 100000
/-! enumerate(t), t a tuple -/
namespace PySem
open Sem (wp)
set_option maxHeartbeats 1000000 in
theorem ev_enumNew {v : Value} {o : Obj} {H : Heap → Prop} (B : Begins v o H) :
    Meets (Builtin.«enumerate.__new__» ⟨[.type "enumerate", v], []⟩) (fun _ R s => H s.heap ∧
      R (.ok (.ret (.ref (s.heap.push o).objs.size))) { s with heap := (s.heap.push o).push { cls := .type "enumerate", data := .fields #[.none, .bool false, .ref s.heap.objs.size, rawInt 0, .none, .none] } }) :=
  .of_wp fun prog w A R s h => by
    obtain ⟨hp, g, d, tk, os⟩ := s
    obtain ⟨h1, h⟩ := h
    have hsub := sub_enumerate
    have q1 : ∀ {A' : Around} {E : Value → Shared → Prop} {Q : Value → Shared → Prop}, Q (.ref hp.objs.size) ⟨hp.push o, g, d, tk, os⟩ → wpAny (model prog w) A' (pyIter v) Q E ⟨hp, g, d, tk, os⟩ :=
      fun q => B.iter prog w _ _ ⟨hp, g, d, tk, os⟩ _ h1 q
    wp_walk using q1
    refine wpAny_stack_any fun st => wpAny_pure ?_
    split
    · rename_i c _ _ _ _ _
      cases (c == Value.type "enumerate") <;> (wp_walk using q1; exact ⟨_, rfl, h⟩)
    · wp_walk using q1
      exact ⟨_, rfl, h⟩
theorem ev_callEnum {prog : Program} {w : World} {A : Around} {E : Value → Shared → Prop} {s : Shared} {v : Value} {o : Obj} {H : Heap → Prop} {Q : Value → Shared → Prop} (B : Begins v o H) (h1 : H s.heap)
    (h : ∀ h', IsEnum h' (s.heap.objs.size + 1) s.heap.objs.size 0 .none → h'.get? s.heap.objs.size = some o → (∀ b u, s.heap.get? b = some u → h'.get? b = some u) → Q (.ref (s.heap.objs.size + 1)) { s with heap := h' }) :
    wpAny (model prog w) A (call (.type "enumerate") [v]) Q E s := by
  refine callType_new F.called_enumerate (by decide) (F.typeCall_enumerate_1 _) (F.newCall_enumerate_1 _) (fun obj => F.args_object_init_2 obj _) F.entry_enumerate_new (ev_enumNew B) ⟨h1, ?_⟩
  have hz : (s.heap.push o).objs.size = s.heap.objs.size + 1 := Heap.size_push ..
  show _ ∧ _
  rw [hz]
  have he := Heap.get?_push_size (s.heap.push o) (o := { cls := .type "enumerate", data := .fields #[.none, .bool false, .ref s.heap.objs.size, rawInt 0, .none, .none] }) rfl
  rw [hz] at he
  exact ⟨⟨_, he, rfl⟩, h _ he (Heap.get?_push_of_some _ (Heap.get?_push_size _ B.free)) fun b u x => Heap.get?_push_of_some _ (Heap.get?_push_of_some _ x)⟩
theorem ev_enumEnd {prog : Program} {w : World} {A : Around} {E : Value → Shared → Prop} {s : Shared} {e it t : Addr} {i : Nat} {items : Array Value} {c : Int} {old : Value} {Q : Option Value → Shared → Prop} (hh : A.handled = none) (he : IsEnum s.heap e it c old) (hit : s.heap.IsTupleIter it t i) (ht : s.heap.IsTuple t items)
    (hx : items[i]? = none) (hQ : ∀ h', Heap.ExtBut it s.heap h' → Q none { s with heap := h' }) : wpAny (model prog w) A (pyNext (.ref e)) Q E s := by
  have D : Draws prog w A.in1 it [it, t] i (fun _ _ => True) (fun j h => j = i ∧ h.IsTupleIter it t i ∧ h.IsTuple t items) := {
    live := fun _ _ st => let ⟨o, ho, _⟩ := st.2.1; ⟨o, ho⟩
    frame := fun _ _ _ st hk => ⟨st.1, st.2.1.at fun o e => hk it (by simp) o e, st.2.2.at fun o e => hk t (by simp) o e⟩
    item := fun j s Q E hj st _ => absurd st.1 (Nat.ne_of_lt hj)
    done := fun s Q E st hE => wpAny_nextOf_tuple_end hh st.2.1 st.2.2 hx hE }
  exact wpAny_pyNext_enum_endD D he ⟨rfl, hit, ht⟩ hQ
end PySem
namespace Ev
open PySem PySem.Spec PyProof.Rows L2
/-- the tuple at a, each item in a new pair -/
def IteT (K : PySem.W.Frag) (a : Addr) : It :=
  ⟨fun i H => ∃ (xs : List V) (x : V), SqT K H a xs ∧ xs[i]? = some x,
   fun i H v H' => ∃ T x, v = .ref T ∧ H T = none ∧ H' = upd H T (.tup [.int (i : Nat), x]) ∧ ∀ xs, SqT K H a xs → xs[i]? = some x,
   fun i H => ∃ xs : List V, SqT K H a xs ∧ xs.length ≤ i⟩
theorem turn_enumT {P : Program} {w : World} {K : PySem.W.Frag} {elts : List Expr} {kk : Nat} {tpos : Pos} (a e it : Addr) :
    Turn P w K (.Tuple elts kk tpos) (IteT K a) [e, it] e (fun i h => (∃ old, IsEnum h e it ((i : Nat) : Int) old) ∧ h.IsTupleIter it a i ∧ e ≠ it) where
  mem := by simp
  obj := fun i h st b hb => by
    obtain ⟨⟨old, he⟩, ⟨o, ho, hc, hd⟩, _⟩ := st
    rcases (by simpa using hb : b = e ∨ b = it) with rfl | rfl
    · exact ⟨_, he, fun v q => nomatch q⟩
    · exact ⟨o, ho, fun v q => by rw [hd] at q; cases q⟩
  keep := fun i h h' st k => by
    obtain ⟨⟨old, he⟩, hi, hne⟩ := st
    exact ⟨⟨old, k e (by simp) _ he⟩, hi.at fun o q => k it (by simp) o q, hne⟩
  item := by
    intro X hP hw hK hc i pins s σ H E I hf st hg
    subst hP hw hK
    obtain ⟨⟨old, he⟩, hit, hne⟩ := st
    obtain ⟨xs, x, hq, hx⟩ := hg
    obtain ⟨its, rv, p, hz⟩ := I.tuple hq
    have p : s.heap.IsTuple a its.toArray := p
    obtain ⟨u, hu, ru⟩ := rv.get hx
    have nit : a ≠ it := fun z => by
      obtain ⟨o1, e1, c1, _⟩ := hit
      obtain ⟨o2, e2, c2, _⟩ := p
      rw [z, e1] at e2; cases e2
      rw [c1] at c2
      exact absurd (Value.type.inj c2) (by decide)
    have nae : e ≠ a := fun z => by
      obtain ⟨o2, e2, c2, _⟩ := p
      rw [← z, he] at e2; cases e2
      exact absurd (Value.type.inj c2) (by decide)
    have hel : e < s.heap.objs.size := Heap.lt_size he
    have hil : it < s.heap.objs.size := by obtain ⟨_, q, _⟩ := hit; exact Heap.lt_size q
    have hlt : i < its.toArray.size := by simpa using (List.getElem?_eq_some_iff.mp hu).1
    refine wpAny_pyNext_enum_itemC (Draws.tuple (A := X.A.in1) (I.ok.hd hc) it a nit its.toArray) he ⟨hit, p⟩ hlt hne (by simp [hne, nae]) fun y h' tk hy ho st' hT hsz hk => ?_
    have ey : y = u := by
      have : its[i]? = some y := by simpa using hy
      rw [hu] at this; cases this; rfl
    subst ey
    refine ⟨_, rfl, wpAny_letOwnedTupleGo_enum (s := { s with heap := h', toks := tk + 1 }) ho fun h'' he' sb => ?_⟩
    have hT2 := (sb.2 _ (Nat.ne_of_gt hel)).trans hT
    have new : ObjOk X.prog X.w (upd H s.heap.objs.size (.tup [.int (i : Nat), x])) h'' s.heap.objs.size (.tup [.int (i : Nat), x]) :=
      ⟨by show 2 ≤ sizeLine; decide, _, .cons ⟨_, rfl⟩ (.cons ru .nil), ⟨_, hT2, rfl, _, rfl⟩⟩
    have I1 : Inv X pins σ (upd H s.heap.objs.size (.tup [.int (i : Nat), x])) { s with heap := h'', toks := tk + 1 } :=
      I.turnedNew (ch := [e, it]) (fun b ob hb q => (sb.2 b (fun z => hb (by simp [z]))).trans (hk b ob (fun z => hb (by simp [z])) (fun z => hb (by simp [z])) q)) hf (Nat.le_refl _) new
    refine ⟨.ref s.heap.objs.size, _, I1, rfl, ⟨_, x, rfl, I.hok.fresh (Nat.le_refl _), rfl, fun ys hy => by rw [I.tuple_inj hy hq]; exact hx⟩, ⟨⟨y, ?_⟩, st'.1.at fun o q => (sb.2 it (Ne.symm hne)).trans q, hne⟩, fun b hb => ?_⟩
    · have e1 : ((i + 1 : Nat) : Int) = (i : Int) + 1 := by omega
      rw [e1]; exact he'
    · have hb' : b < s.heap.objs.size := by
        rcases (by simpa using hb : b = e ∨ b = it) with z | z <;> (rw [z]; assumption)
      rw [upd_ne (Nat.ne_of_lt hb')]
      exact (hf b hb).1
  done := by
    intro X hP hw hK hc i pins s σ H E I hf st hg
    subst hP hw hK
    obtain ⟨⟨old, he⟩, hit, hne⟩ := st
    obtain ⟨xs, hq, hx⟩ := hg
    obtain ⟨its, rv, p, hz⟩ := I.tuple hq
    have p : s.heap.IsTuple a its.toArray := p
    obtain ⟨f0, f1, f2, f3, f4, f5⟩ := hf it (by simp)
    have hl := rv.length
    have nit : a ≠ it := fun z => by
      obtain ⟨o1, e1, c1, _⟩ := hit
      obtain ⟨o2, e2, c2, _⟩ := p
      rw [z, e1] at e2; cases e2
      rw [c1] at c2
      exact absurd (Value.type.inj c2) (by decide)
    refine ev_enumEnd (I.ok.hd hc) he hit p (by simp; omega) fun h' eb => ⟨rfl, I.turned (t' := s.toks) (fun b o hb q => eb b o hb q) f0 f1 f3 f4 f5⟩
  self := fun A i s Q E st h => by
    obtain ⟨⟨_, he⟩, _⟩ := st
    exact wpAny_pyIter_enum he h
/-- the list at a, or the tuple -/
inductive SqA (K : PySem.W.Frag) (H : Hp) (a : Addr) : Type where
  | l (xs : List V) (h : SqL K H a xs)
  | t (xs : List V) (h : SqT K H a xs)
def iEnumA (K : PySem.W.Frag) (ta : TA) : TI := fun σ H R => ta σ H fun vs H1 => ∃ a xs, vs = [.ref a] ∧ ((SqL K H1 a xs ∧ R (Ite K a) H1) ∨ (SqT K H1 a xs ∧ R (IteT K a) H1))
theorem pi_enumA {X : Cx} {e : Expr} {ta : TA} {p pos tpos : Pos} {elts : List Expr} {kk : Nat} (hg : Gl X "enumerate") (hm : X.mg "enumerate" = none) (ha : PA X [e] ta) (hs : starEach [e] X.env = [(false, eval e X.env)]) :
    PI X (.Tuple elts kk tpos) (.Call (.Name "enumerate" p) [e] [] pos) (iEnumA X.K ta) := by
  refine ⟨fun pins s σ H R I h => ?_⟩
  refine Call_ (ld_blt I hg hm boot_enumerate (PyProof.Rows.callWith_type1 (thn (ha.run pos pins s σ H _ I h) fun us s1 ⟨vs, H1, I1, r1, q1⟩ => ?_) hs rfl))
  obtain ⟨a, xs, ex, q1⟩ := q1
  subst ex
  cases r1 with
  | cons r rr =>
    cases rr
    cases r
    have fr : ∀ b ∈ [s1.heap.objs.size + 1, s1.heap.objs.size], FpOk X pins H1 b := fun b hb => by
      have hle : s1.heap.objs.size ≤ b := by
        rcases (by simpa using hb : b = s1.heap.objs.size + 1 ∨ b = s1.heap.objs.size) with z | z
        · rw [z]; exact Nat.le_add_right _ _
        · rw [z]; exact Nat.le_refl _
      exact I1.fpOk hle (I1.hok.fresh hle)
    rcases q1 with ⟨hq, q⟩ | ⟨hq, q⟩
    · obtain ⟨its, rv, p', hz⟩ := I1.list hq
      refine call_enumerate_list p'.isList fun h' he hit hsz hk => wpAny_pyIter_enum he ?_
      exact ⟨_, _, _, _, H1, rfl, I1.kept (t' := s1.toks) hk, turn_enum a (s1.heap.objs.size + 1) s1.heap.objs.size, ⟨⟨.none, he⟩, hit, Nat.succ_ne_self _⟩, fr, q⟩
    · obtain ⟨its, rv, p', hz⟩ := I1.tuple hq
      refine ev_callEnum (begins_tuple a its.toArray) p' fun h' he hit hk => wpAny_pyIter_enum he ?_
      exact ⟨_, _, _, _, H1, rfl, I1.kept (t' := s1.toks) hk, turn_enumT a (s1.heap.objs.size + 1) s1.heap.objs.size, ⟨⟨.none, he⟩, ⟨_, hit, rfl, rfl⟩, Nat.succ_ne_self _⟩, fr, q⟩
end Ev

end
section
set_option Elab.async false
set_option linter.all false
set_option maxRecDepth 100000
set_option maxHeartbeats 1000000
namespace Ev
open PySem L2
/-! ### what is walked -/
def ItR (P : Par) (Z : Hp) (m : List Addr) (its : ItV) (J : It) : Prop := ∀ (Z' : Hp) (m' : List Addr) (F : Hp) (S : Store) (H : Hp), Same Z Z' → m <+: m' → SR P Z' m' F S H → its.still S = true →
  ∀ i : Nat, (∀ v, its.items[i]? = some v → J.go i H ∧ ∀ x H', J.yld i H x H' → ∃ Z'', Same Z' Z'' ∧ SR P Z'' m' F S H' ∧ VR P Z'' m' v x) ∧ (its.items.length ≤ i → J.stop i H)
def tI (P : Par) (W : L2.WX) (C : Cfg) (d : DenI) : TI := fun τ H R => ∃ Z m F S σ, SR P Z m F S H ∧ SgR P Z m σ τ ∧ okR (ItR P) P Z m F (d C σ S) R (fun cls dd H' => W cls dd τ H')
/-- the sequence at a holds these items -/
def SeqR (P : Par) (Z : Hp) (m : List Addr) (its : ItV) (G : Hp → List V → Prop) : Prop := ∀ (Z' : Hp) (m' : List Addr) (F : Hp) (S : Store) (H : Hp), Same Z Z' → m <+: m' → SR P Z' m' F S H → its.still S = true → ∃ vs, G H vs ∧ VRs P Z' m' its.items vs
section
variable {P : Par} {Z F0 H0 : Hp} {S0 : Store} {m : List Addr} {its : ItV} {a : Addr}
theorem itl_of (h : SeqR P Z m its fun H vs => SqL P.K H a vs) : ItR P Z m its (Itl P.K a) := by
  intro Z' m' F S H hz hm sr st i
  obtain ⟨vs, hq, r⟩ := h Z' m' F S H hz hm sr st
  refine ⟨fun v e => ?_, fun hl => ⟨vs, hq, by rw [← r.length]; exact hl⟩⟩
  obtain ⟨u, e1, ru⟩ := r.get e
  refine ⟨⟨vs, u, hq, e1⟩, fun x H' ⟨e2, y⟩ => ?_⟩
  subst e2
  have e3 := y vs hq
  rw [e1] at e3; cases e3
  exact ⟨Z', Same.refl _, sr, ru⟩
theorem itt_of (h : SeqR P Z m its fun H vs => SqT P.K H a vs) : ItR P Z m its (Itt P.K a) := by
  intro Z' m' F S H hz hm sr st i
  obtain ⟨vs, hq, r⟩ := h Z' m' F S H hz hm sr st
  refine ⟨fun v e => ?_, fun hl => ⟨vs, hq, by rw [← r.length]; exact hl⟩⟩
  obtain ⟨u, e1, ru⟩ := r.get e
  refine ⟨⟨vs, u, hq, e1⟩, fun x H' ⟨e2, y⟩ => ?_⟩
  subst e2
  have e3 := y vs hq
  rw [e1] at e3; cases e3
  exact ⟨Z', Same.refl _, sr, ru⟩
theorem enumL_get : ∀ {xs : List PV} {k i : Nat} {v : PV}, (enumL k xs)[i]? = some v → ∃ x, xs[i]? = some x ∧ v = .tup [.int ((k + i : Nat) : Int), x]
  | [], _, _, _, e => by simp [enumL] at e
  | x :: xs, k, 0, v, e => by
    simp [enumL] at e
    exact ⟨x, rfl, e.symm⟩
  | x :: xs, k, i + 1, v, e => by
    obtain ⟨y, e1, e2⟩ := enumL_get (k := k + 1) (i := i) (by simpa [enumL] using e)
    exact ⟨y, by simpa using e1, by rw [e2, Nat.add_right_comm, Nat.add_assoc]⟩
theorem enumL_length : ∀ {xs : List PV} {k : Nat}, (enumL k xs).length = xs.length
  | [], _ => rfl
  | x :: xs, k => by simp [enumL, enumL_length]
/-- a new pair -/
theorem pair_new {Z' : Hp} {m' : List Addr} {F : Hp} {S : Store} {H : Hp} (sr : SR P Z' m' F S H) {T : Addr} (hT : H T = none) {x y : PV} {u v : V} (r1 : VR P Z' m' x u) (r2 : VR P Z' m' y v) : ∃ Z'', Same Z' Z'' ∧ SR P Z'' m' F S (upd H T (.tup [u, v])) ∧ VR P Z'' m' (.tup [x, y]) (.ref T) := by
  have sz : Same Z' (upd Z' T (.tup [u, v])) := same_upd (sr.nz hT)
  refine ⟨_, sz, sr.new hT _, T, [u, v], rfl, SqT.of upd_same, u, [v], rfl, VR.mono sz (List.prefix_refl _) _ _ r1, v, [], rfl, VR.mono sz (List.prefix_refl _) _ _ r2, rfl⟩
theorem ite_of (h : SeqR P Z m its fun H vs => SqL P.K H a vs) : ItR P Z m ⟨enumL 0 its.items, its.src⟩ (Ite P.K a) := by
  intro Z' m' F S H hz hm sr st i
  obtain ⟨vs, hq, r⟩ := h Z' m' F S H hz hm sr st
  refine ⟨fun v e => ?_, fun hl => ⟨vs, hq, by rw [← r.length, ← enumL_length (k := 0)]; exact hl⟩⟩
  obtain ⟨x, e0, rfl⟩ := enumL_get e
  obtain ⟨u, e1, ru⟩ := r.get e0
  refine ⟨⟨vs, u, hq, e1⟩, fun w H' ⟨T, y, e2, hT, e3, hy⟩ => ?_⟩
  subst e2 e3
  have e4 := hy vs hq
  rw [e1] at e4; cases e4
  rw [Nat.zero_add]
  exact pair_new sr hT rfl ru
theorem iteT_of (h : SeqR P Z m its fun H vs => SqT P.K H a vs) : ItR P Z m ⟨enumL 0 its.items, its.src⟩ (IteT P.K a) := by
  intro Z' m' F S H hz hm sr st i
  obtain ⟨vs, hq, r⟩ := h Z' m' F S H hz hm sr st
  refine ⟨fun v e => ?_, fun hl => ⟨vs, hq, by rw [← r.length, ← enumL_length (k := 0)]; exact hl⟩⟩
  obtain ⟨x, e0, rfl⟩ := enumL_get e
  obtain ⟨u, e1, ru⟩ := r.get e0
  refine ⟨⟨vs, u, hq, e1⟩, fun w H' ⟨T, y, e2, hT, e3, hy⟩ => ?_⟩
  subst e2 e3
  have e4 := hy vs hq
  rw [e1] at e4; cases e4
  rw [Nat.zero_add]
  exact pair_new sr hT rfl ru
theorem zipL_get : ∀ {xs ys : List PV} {i : Nat} {v : PV}, (zipL xs ys)[i]? = some v → ∃ x y, xs[i]? = some x ∧ ys[i]? = some y ∧ v = .tup [x, y]
  | [], _, _, _, e => by simp [zipL] at e
  | x :: xs, [], _, _, e => by simp [zipL] at e
  | x :: xs, y :: ys, 0, v, e => by
    simp [zipL] at e
    exact ⟨x, y, rfl, rfl, e.symm⟩
  | x :: xs, y :: ys, i + 1, v, e => by
    obtain ⟨a, b, e1, e2, e3⟩ := zipL_get (i := i) (by simpa [zipL] using e)
    exact ⟨a, b, by simpa using e1, by simpa using e2, e3⟩
theorem zipL_length : ∀ {xs ys : List PV}, (zipL xs ys).length = min xs.length ys.length
  | [], _ => by simp [zipL]
  | x :: xs, [] => by simp [zipL]
  | x :: xs, y :: ys => by simp [zipL, zipL_length]
theorem still_app {s1 s2 : List (Nat × Cell)} {S : Store} {xs : List PV} : ItV.still ⟨xs, s1 ++ s2⟩ S = (ItV.still ⟨xs, s1⟩ S && ItV.still ⟨xs, s2⟩ S) := by simp [ItV.still, List.all_append]
theorem itz_of {its2 : ItV} {b : Addr} (h : SeqR P Z m its fun H vs => SqL P.K H a vs) (g : SeqR P Z m its2 fun H vs => SqL P.K H b vs) : ItR P Z m ⟨zipL its.items its2.items, its.src ++ its2.src⟩ (Itz P.K a b) := by
  intro Z' m' F S H hz hm sr st i
  rw [still_app, Bool.and_eq_true] at st
  obtain ⟨vs, hq, r⟩ := h Z' m' F S H hz hm sr st.1
  obtain ⟨ws, hq2, r2⟩ := g Z' m' F S H hz hm sr st.2
  refine ⟨fun v e => ?_, fun hl => ⟨vs, ws, hq, hq2, ?_⟩⟩
  · obtain ⟨x, y, e0, e0', rfl⟩ := zipL_get e
    obtain ⟨u, e1, ru⟩ := r.get e0
    obtain ⟨u2, e12, ru2⟩ := r2.get e0'
    refine ⟨⟨vs, ws, u, u2, hq, hq2, e1, e12⟩, fun w H' ⟨T, p, p2, e2, hT, e3, hy, hy2⟩ => ?_⟩
    subst e2 e3
    have e4 := hy vs hq
    have e5 := hy2 ws hq2
    rw [e1] at e4; cases e4
    rw [e12] at e5; cases e5
    exact pair_new sr hT ru ru2
  · have hl : (zipL its.items its2.items).length ≤ i := hl
    rw [zipL_length, r.length, r2.length] at hl
    omega
theorem itzT_of {its2 : ItV} {b : Addr} (h : SeqR P Z m its fun H vs => SqT P.K H a vs) (g : SeqR P Z m its2 fun H vs => SqT P.K H b vs) : ItR P Z m ⟨zipL its.items its2.items, its.src ++ its2.src⟩ (RZ.ItzT P.K a b) := by
  intro Z' m' F S H hz hm sr st i
  rw [still_app, Bool.and_eq_true] at st
  obtain ⟨vs, hq, r⟩ := h Z' m' F S H hz hm sr st.1
  obtain ⟨ws, hq2, r2⟩ := g Z' m' F S H hz hm sr st.2
  refine ⟨fun v e => ?_, fun hl => ⟨vs, ws, hq, hq2, ?_⟩⟩
  · obtain ⟨x, y, e0, e0', rfl⟩ := zipL_get e
    obtain ⟨u, e1, ru⟩ := r.get e0
    obtain ⟨u2, e12, ru2⟩ := r2.get e0'
    refine ⟨⟨vs, ws, u, u2, hq, hq2, e1, e12⟩, fun w H' ⟨T, p, p2, e2, hT, e3, hy, hy2⟩ => ?_⟩
    subst e2 e3
    have e4 := hy vs hq
    have e5 := hy2 ws hq2
    rw [e1] at e4; cases e4
    rw [e12] at e5; cases e5
    exact pair_new sr hT ru ru2
  · have hl : (zipL its.items its2.items).length ≤ i := hl
    rw [zipL_length, r.length, r2.length] at hl
    omega
theorem rngL_get {lo : Int} {n i : Nat} {v : PV} (e : (rngL lo n)[i]? = some v) : i < n ∧ v = .int (lo + ((i : Nat) : Int)) := by
  unfold rngL at e
  rw [List.getElem?_map] at e
  obtain ⟨j, e1, rfl⟩ := Option.map_eq_some_iff.mp e
  obtain ⟨h, e2⟩ := List.getElem?_eq_some_iff.mp e1
  simp at h e2
  subst e2
  exact ⟨h, rfl⟩
theorem rngL_length {lo : Int} {n : Nat} : (rngL lo n).length = n := by simp [rngL]
theorem itr_of {lo : Int} {n : Nat} : ItR P Z m ⟨rngL lo n, []⟩ (Itr lo n) := by
  intro Z' m' F S H hz hm sr st i
  refine ⟨fun v e => ?_, fun hl => by rw [rngL_length] at hl; exact hl⟩
  obtain ⟨h, rfl⟩ := rngL_get e
  exact ⟨h, fun x H' ⟨e1, e2⟩ => by subst e1 e2; exact ⟨Z', Same.refl _, sr, rfl⟩⟩
theorem itc_of {lo : Int} {n : Nat} : ItR P Z m ⟨(rngL lo n).reverse, []⟩ (Itc (lo + (n : Int) - 1) (-1) n) := by
  intro Z' m' F S H hz hm sr st i
  refine ⟨fun v e => ?_, fun hl => by have h2 : (rngL lo n).reverse.length ≤ i := hl; rw [List.length_reverse, rngL_length] at h2; exact h2⟩
  have e : (rngL lo n).reverse[i]? = some v := e
  have hi : i < n := by
    have := (List.getElem?_eq_some_iff.mp e).1
    simpa [rngL_length] using this
  rw [List.getElem?_reverse (by rw [rngL_length]; exact hi), rngL_length] at e
  obtain ⟨h, rfl⟩ := rngL_get e
  refine ⟨hi, fun x H' y => ?_⟩
  obtain ⟨e1, e2⟩ := y
  subst e1 e2
  refine ⟨Z', Same.refl _, sr, ?_⟩
  show V.int _ = V.int _
  congr 1
  omega
/-- a list's or a tuple's items -/
theorem seq_of (sr0 : SR P Z m F0 S0 H0) {x : PV} {u : V} (r : VR P Z m x u) {it : ItV} (e : itOf S0 x = some it) : ∃ a, u = .ref a ∧ ((SeqR P Z m it (fun H vs => SqL P.K H a vs) ∧ isT x = false) ∨ (SeqR P Z m it (fun H vs => SqT P.K H a vs) ∧ isT x = true)) := by
  cases x with
  | tup xs =>
    obtain ⟨a, vs, rfl, q, r⟩ := r
    cases e
    exact ⟨a, rfl, .inr ⟨fun Z' m' F S H hz hm sr _ => ⟨vs, Same.sqT sr.zh (Same.sqT hz q), VRs.mono hz hm _ _ r⟩, rfl⟩⟩
  | ro xs =>
    obtain ⟨a, vs, rfl, q, r⟩ := r
    cases e
    exact ⟨a, rfl, .inl ⟨fun Z' m' F S H hz hm sr _ => ⟨vs, SqL.of (sr.zh _ _ (hz _ _ q)), VRs.mono hz hm _ _ r⟩, rfl⟩⟩
  | rf i =>
    obtain ⟨a, e1, rfl⟩ := r
    simp only [itOf] at e
    cases e2 : S0[i]? with
    | none => rw [e2] at e; cases e
    | some c =>
      rw [e2] at e
      cases c with
      | lst xs =>
        cases e
        refine ⟨a, rfl, .inl ⟨fun Z' m' F S H hz hm sr st => ?_, rfl⟩⟩
        have st : (cellIs S i (.lst xs) && true) = true := st
        rw [Bool.and_true, cellIs_iff] at st
        obtain ⟨b, e3, vs, e4, r⟩ := sr.cell _ _ st
        have e5 : m'[i]? = some a := by
          obtain ⟨t, rfl⟩ := hm
          rw [List.getElem?_append_left (List.getElem?_eq_some_iff.mp e1).1]
          exact e1
        rw [e5] at e3; cases e3
        exact ⟨vs, SqL.of e4, r⟩
      | _ => cases e
  | _ => cases e
end
section
variable {X : Cx} {P : Par} {W : L2.WX} {C : Cfg} {a b e tg : Expr} {da db : Den} {pos p : Pos} {es : List Expr} {dl : DenL}
theorem iter_list {pins : List (Addr × Obj)} {τ : St} {H : Hp} {s : Shared} {R : It → Hp → Prop} {ad : Addr} {vs : List V} (I : Inv X pins τ H s) (hq : SqL X.K H ad vs) (q : R (Itl X.K ad) H) : wpAny (model X.prog X.w) X.A (pyIter (.ref ad)) (PIE X pins τ tg R) X.xe s := by
  obtain ⟨its, rv, p, hz⟩ := I.list hq
  refine wpAny_pyIter_list p.isList ?_
  exact pi_one (tk := s.toks) I _ (turn_list ad _) ⟨_, Heap.get?_push_size _ rfl, rfl, rfl⟩ q
theorem iter_tup {pins : List (Addr × Obj)} {τ : St} {H : Hp} {s : Shared} {R : It → Hp → Prop} {ad : Addr} {vs : List V} (I : Inv X pins τ H s) (hq : SqT X.K H ad vs) (q : R (Itt X.K ad) H) : wpAny (model X.prog X.w) X.A (pyIter (.ref ad)) (PIE X pins τ tg R) X.xe s := by
  obtain ⟨its, rv, p, hz⟩ := I.tuple hq
  refine wpAny_pyIter_tuple (show s.heap.IsTuple ad its.toArray from p) ?_
  exact pi_one (tk := s.toks) I _ (turn_tuple ad _) ⟨_, Heap.get?_push_size _ rfl, rfl, rfl⟩ q
theorem still_of {S : Store} {x : PV} {it : ItV} (e : itOf S x = some it) : it.still S = true := by
  cases x <;> first | (cases e; done) | (cases e; rfl) | skip
  rename_i i
  simp only [itOf] at e
  cases e2 : S[i]? with
  | none => rw [e2] at e; cases e
  | some c =>
    rw [e2] at e
    cases c with
    | lst xs =>
      cases e
      show (cellIs S i (.lst xs) && true) = true
      rw [Bool.and_true, cellIs_iff]
      exact e2
    | _ => cases e
theorem i_any (hK : X.K = P.K) (he : PE X a (tD P W C da)) : PI X tg a (tI P W C (iAny da)) := by
  refine ⟨fun pins s τ H R I h => ?_⟩
  obtain ⟨Z, m, F, S, σ, sr, sl, q⟩ := h
  refine thn (he.run pins s τ H (fun u H1 => ∃ ad vs, u = .ref ad ∧ ((SqL X.K H1 ad vs ∧ R (Itl X.K ad) H1) ∨ (SqT X.K H1 ad vs ∧ R (Itt X.K ad) H1))) I ⟨Z, m, F, S, σ, sr, sl, bnd1 q fun u H1 Z1 m1 S1 x z1 p1 sr1 r1 q1 => ?_⟩) fun v s1 ⟨u, H1, I1, r1, ad, vs, e1, q1⟩ => ?_
  · cases e : itOf S1 x with
    | none => rw [e] at q1; exact q1.elim
    | some it =>
      rw [e] at q1
      have st := still_of e
      obtain ⟨ad, rfl, ⟨h, _⟩ | ⟨h, _⟩⟩ := seq_of sr1 r1 e
      · obtain ⟨vs, hq, _⟩ := h Z1 m1 F S1 H1 (Same.refl _) (List.prefix_refl _) sr1 st
        exact ⟨ad, vs, rfl, .inl ⟨hK ▸ hq, hK ▸ q1 Z1 m1 _ H1 (Same.refl _) (List.prefix_refl _) sr1 (itl_of h)⟩⟩
      · obtain ⟨vs, hq, _⟩ := h Z1 m1 F S1 H1 (Same.refl _) (List.prefix_refl _) sr1 st
        exact ⟨ad, vs, rfl, .inr ⟨hK ▸ hq, hK ▸ q1 Z1 m1 _ H1 (Same.refl _) (List.prefix_refl _) sr1 (itt_of h)⟩⟩
  · subst e1
    cases r1
    rcases q1 with ⟨hq, q⟩ | ⟨hq, q⟩
    · exact iter_list I1 hq q
    · exact iter_tup I1 hq q
theorem PI.weak {e : Expr} {t t' : TI} (h : PI X tg e t) (w : ∀ τ H R, t' τ H R → t τ H R) : PI X tg e t' := ⟨fun pins s σ H R I q => h.run pins s σ H R I (w σ H R q)⟩
theorem small_R {i : Int} (h : small62 i = true) : -(2 ^ 62) ≤ i ∧ i < 2 ^ 62 := by
  have h : i.natAbs.log2 < 61 := of_decide_eq_true h
  have : i.natAbs < 2 ^ 61 := Nat.lt_of_lt_of_le Nat.lt_log2_self (Nat.pow_le_pow_right (by decide) (by omega))
  omega
theorem i_rng1 (hg : Gl X "range") (hm : X.mg "range" = none) (ha : PA X [a] (tA P W C dl)) (hs : starEach [a] X.env = [(false, eval a X.env)]) : PI X tg (.Call (.Name "range" p) [a] [] pos) (tI P W C (iRng1 dl)) :=
  PI.weak (pi_range1 hg hm ha hs) fun τ H R ⟨Z, m, F, S, σ, sr, sl, q⟩ => ⟨Z, m, F, S, σ, sr, sl, bnd1 q fun us H1 Z1 m1 S1 xs z1 p1 sr1 r1 q1 => by
    simp only [rng1V] at q1
    cases e : intsOf xs with
    | none => rw [e] at q1; exact q1.elim
    | some ns =>
      rw [e] at q1
      have ev := ints_R r1 e
      cases ns with
      | nil => exact q1.elim
      | cons j ns => cases ns with
        | nil =>
          obtain ⟨g, q1⟩ := okR_guard q1
          obtain ⟨b1, b2⟩ := small_R g
          exact ⟨j, ev, b1, b2, q1 Z1 m1 _ H1 (Same.refl _) (List.prefix_refl _) sr1 itr_of⟩
        | cons k ns => exact q1.elim⟩
theorem i_rng2 (hg : Gl X "range") (hm : X.mg "range" = none) (ha : PA X [a, b] (tA P W C dl)) (hs : starEach [a, b] X.env = [(false, eval a X.env), (false, eval b X.env)]) (hs2 : starEach [b] X.env = [(false, eval b X.env)]) : PI X tg (.Call (.Name "range" p) [a, b] [] pos) (tI P W C (iRng2 dl)) :=
  PI.weak (pi_range2 hg hm ha hs hs2) fun τ H R ⟨Z, m, F, S, σ, sr, sl, q⟩ => ⟨Z, m, F, S, σ, sr, sl, bnd1 q fun us H1 Z1 m1 S1 xs z1 p1 sr1 r1 q1 => by
    simp only [rng2V] at q1
    cases e : intsOf xs with
    | none => rw [e] at q1; exact q1.elim
    | some ns =>
      rw [e] at q1
      have ev := ints_R r1 e
      cases ns with
      | nil => exact q1.elim
      | cons j ns => cases ns with
        | nil => exact q1.elim
        | cons k ns => cases ns with
          | nil =>
            obtain ⟨g, q1⟩ := okR_guard q1
            obtain ⟨g1, g2⟩ := Bool.and_eq_true_iff.mp g
            obtain ⟨b1, b2⟩ := small_R g1
            obtain ⟨b3, b4⟩ := small_R g2
            exact ⟨j, k, ev, ⟨b1, b2, b3, b4⟩, q1 Z1 m1 _ H1 (Same.refl _) (List.prefix_refl _) sr1 itr_of⟩
          | cons _ _ => exact q1.elim⟩
theorem i_enum (hK : X.K = P.K) {elts : List Expr} {kk : Nat} {tpos : Pos} (hg : Gl X "enumerate") (hm : X.mg "enumerate" = none) (ha : PA X [e] (tA P W C dl)) (hs : starEach [e] X.env = [(false, eval e X.env)]) : PI X (.Tuple elts kk tpos) (.Call (.Name "enumerate" p) [e] [] pos) (tI P W C (iEnum dl)) :=
  PI.weak (pi_enumA hg hm ha hs) fun τ H R ⟨Z, m, F, S, σ, sr, sl, q⟩ => ⟨Z, m, F, S, σ, sr, sl, bnd1 q fun us H1 Z1 m1 S1 xs z1 p1 sr1 r1 q1 => by
    rcases xs with _ | ⟨x, _ | ⟨y, ys⟩⟩
    · exact q1.elim
    · obtain ⟨u, rfl, hx⟩ := r1.one
      simp only [enumV] at q1
      cases e : itOf S1 x with
      | none => rw [e] at q1; exact q1.elim
      | some it =>
        rw [e] at q1
        have st := still_of e
        obtain ⟨ad, rfl, ⟨h, _⟩ | ⟨h, _⟩⟩ := seq_of sr1 hx e
        · obtain ⟨vs, hq, _⟩ := h Z1 m1 F S1 H1 (Same.refl _) (List.prefix_refl _) sr1 st
          exact ⟨ad, vs, rfl, .inl ⟨hK ▸ hq, hK ▸ q1 Z1 m1 _ H1 (Same.refl _) (List.prefix_refl _) sr1 (ite_of h)⟩⟩
        · obtain ⟨vs, hq, _⟩ := h Z1 m1 F S1 H1 (Same.refl _) (List.prefix_refl _) sr1 st
          exact ⟨ad, vs, rfl, .inr ⟨hK ▸ hq, hK ▸ q1 Z1 m1 _ H1 (Same.refl _) (List.prefix_refl _) sr1 (iteT_of h)⟩⟩
    · exact q1.elim⟩
theorem i_zip (hK : X.K = P.K) {elts : List Expr} {kk : Nat} {tpos : Pos} (hg : Gl X "zip") (hm : X.mg "zip" = none) (ha : PA X [a, b] (tA P W C dl)) (hs : starEach [a, b] X.env = (false, eval a X.env) :: starEach [b] X.env) (hpl : (backTo pos (starEach [b] X.env)).any (·.1) = false) : PI X (.Tuple elts kk tpos) (.Call (.Name "zip" p) [a, b] [] pos) (tI P W C (iZip dl)) :=
  PI.weak (RZ.pi_zipA hg hm ha hs hpl) fun τ H R ⟨Z, m, F, S, σ, sr, sl, q⟩ => ⟨Z, m, F, S, σ, sr, sl, bnd1 q fun us H1 Z1 m1 S1 xs z1 p1 sr1 r1 q1 => by
    rcases xs with _ | ⟨x, _ | ⟨y, _ | ⟨z, zs⟩⟩⟩
    · exact q1.elim
    · exact q1.elim
    · obtain ⟨u, v, rfl, hx, hy⟩ := r1.two
      simp only [zipV] at q1
      cases e : itOf S1 x with
      | none => rw [e] at q1; exact q1.elim
      | some it =>
        cases e' : itOf S1 y with
        | none => rw [e, e'] at q1; exact q1.elim
        | some it' =>
          rw [e, e'] at q1
          obtain ⟨g, q1⟩ := okR_guard q1
          have g : isT x = isT y := by simpa using g
          have st := still_of e
          have st' := still_of e'
          obtain ⟨ad, rfl, ⟨h, k⟩ | ⟨h, k⟩⟩ := seq_of sr1 hx e <;> obtain ⟨ad', rfl, ⟨h', k'⟩ | ⟨h', k'⟩⟩ := seq_of sr1 hy e'
          · obtain ⟨vs, hq, _⟩ := h Z1 m1 F S1 H1 (Same.refl _) (List.prefix_refl _) sr1 st
            obtain ⟨ws, hq', _⟩ := h' Z1 m1 F S1 H1 (Same.refl _) (List.prefix_refl _) sr1 st'
            exact ⟨ad, ad', vs, ws, rfl, .inl ⟨hK ▸ hq, hK ▸ hq', hK ▸ q1 Z1 m1 _ H1 (Same.refl _) (List.prefix_refl _) sr1 (itz_of h h')⟩⟩
          · rw [k, k'] at g; cases g
          · rw [k, k'] at g; cases g
          · obtain ⟨vs, hq, _⟩ := h Z1 m1 F S1 H1 (Same.refl _) (List.prefix_refl _) sr1 st
            obtain ⟨ws, hq', _⟩ := h' Z1 m1 F S1 H1 (Same.refl _) (List.prefix_refl _) sr1 st'
            exact ⟨ad, ad', vs, ws, rfl, .inr ⟨hK ▸ hq, hK ▸ hq', hK ▸ q1 Z1 m1 _ H1 (Same.refl _) (List.prefix_refl _) sr1 (itzT_of h h')⟩⟩
    · exact q1.elim⟩
theorem i_rev1 {p2 pos2 : Pos} (hg : Gl X "reversed") (hm : X.mg "reversed" = none) (hg2 : Gl X "range") (hm2 : X.mg "range" = none) (ha : PE X a (tD P W C da)) (na : starEach [a] X.env = (false, eval a X.env) :: starEach [] X.env) :
    PI X tg (.Call (.Name "reversed" p) [.Call (.Name "range" p2) [a] [] pos2] [] pos) (tI P W C (iRev1 da)) :=
  PI.weak (pi_revR hg hm (prg_1 hg2 hm2 ha na) rfl) fun τ H R ⟨Z, m, F, S, σ, sr, sl, q⟩ => ⟨Z, m, F, S, σ, sr, sl, bnd1 q fun u H1 Z1 m1 S1 x z1 p1 sr1 r1 q1 => by
    cases x with
    | int j =>
      obtain ⟨g, q1⟩ := okR_guard q1
      obtain ⟨b1, b2⟩ := small_R g
      cases r1
      have e1 : (j - 0).toNat = j.toNat := by rw [Int.sub_zero]
      refine ⟨j, rfl, by decide, by decide, b1, b2, ?_⟩
      rw [e1]
      exact q1 Z1 m1 _ H1 (Same.refl _) (List.prefix_refl _) sr1 itc_of
    | _ => exact q1.elim⟩
theorem i_rev2 {p2 pos2 : Pos} (hg : Gl X "reversed") (hm : X.mg "reversed" = none) (hg2 : Gl X "range") (hm2 : X.mg "range" = none) (ha : PE X a (tD P W C da)) (hb : PE X b (tD P W C db)) (na : starEach [a, b] X.env = (false, eval a X.env) :: starEach [b] X.env) (nb : starEach [b] X.env = (false, eval b X.env) :: starEach [] X.env)
    (hp : (backTo pos2 (starEach [b] X.env)).any (·.1) = false) : PI X tg (.Call (.Name "reversed" p) [.Call (.Name "range" p2) [a, b] [] pos2] [] pos) (tI P W C (iRev2 da db)) :=
  PI.weak (pi_revR hg hm (prg_2 hg2 hm2 ha hb na nb hp) rfl) fun τ H R ⟨Z, m, F, S, σ, sr, sl, q⟩ => ⟨Z, m, F, S, σ, sr, sl, bnd1 q fun u H1 Z1 m1 S1 x z1 p1 sr1 r1 q1 =>
    ⟨Z1, m1, F, S1, σ, sr1, sl.mono z1 p1, bnd1 q1 fun v H2 Z2 m2 S2 y z2 p2 sr2 r2 q2 => by
      have r1' := VR.mono z2 p2 _ _ r1
      cases x with
      | int i => cases y with
        | int j =>
          obtain ⟨g, q2⟩ := okR_guard q2
          obtain ⟨g1, g2⟩ := Bool.and_eq_true_iff.mp g
          obtain ⟨b1, b2⟩ := small_R g1
          obtain ⟨b3, b4⟩ := small_R g2
          cases r1; cases r2
          exact ⟨i, j, rfl, rfl, b1, b2, b3, b4, q2 Z2 m2 _ H2 (Same.refl _) (List.prefix_refl _) sr2 itc_of⟩
        | _ => exact q2.elim
      | _ => exact q2.elim⟩⟩
end
end Ev

end
section
set_option Elab.async false
set_option linter.all false
set_option maxRecDepth 100000
set_option maxHeartbeats 1000000
namespace Ev
open PySem L2
section
variable {X : Cx} {P : Par} {W : L2.WX} {C : Cfg} {a b c e tg iter : Expr} {da db dc : Den} {ta tb : DenT} {pos p : Pos} {es : List Expr} {dl : DenL} {x : SS} {ds dt : DenS} {di : DenI} {t : Tg}
theorem guardS_el {P : Par} {Z : Hp} {m : List Addr} {F : Hp} {c : Bool} {r : Rt} {D : Ends} {W : L2.WX} (h : okS P Z m F (guardS c r) D W) : c = true ∧ okS P Z m F r D W := by
  cases c with
  | true => exact ⟨rfl, h⟩
  | false => exact h.elim
theorem drop_cons {α : Type} {l : List α} {i : Nat} (h : i < l.length) : l.drop i = l[i] :: l.drop (i + 1) := List.drop_eq_getElem_cons h
theorem s_for {body : List Stmt} (hp : PassesOwn (model X.prog X.w) X.A X.env X.xe) (hc : X.calm = true) (hi : PI X tg iter (tI P W C di)) (hg : PG X tg (gR P t)) (hb : PSs X body (tS P W C ds)) (hs : ∀ x, foldedSetIterable iter X.env x = pure x) :
    PS X (.For tg iter body [] pos) (tS P W C (sFor t di ds)) :=
  PS.weak (ps_for hp hc hi hg hb hs) fun D τ H ⟨Z, m, F, S, σ, sr, sl, q⟩ => by
    refine ⟨Z, m, F, S, σ, sr, sl, okS_in (R := ItR P) sl q fun J H1 Z1 m1 S1 its z1 p1 sr1 iR q => ?_⟩
    refine ⟨fun i n τ' H' => ∃ Z' m' S' σ', Same Z1 Z' ∧ m1 <+: m' ∧ SR P Z' m' F S' H' ∧ SgR P Z' m' σ' τ' ∧ n = its.items.length - i ∧ i ≤ its.items.length ∧ okS P Z' m' F (forGo t ds C its (its.items.drop i) σ' S') D W,
      ⟨_, Z1, m1, S1, σ, Same.refl _, List.prefix_refl _, sr1, sl.mono z1 p1, rfl, Nat.zero_le _, q⟩, ?_⟩
    rintro i n τ' H' ⟨Z', m', S', σ', hz, hm, sr', sl', rfl, hi, q⟩
    by_cases hlt : i < its.items.length
    · refine .inr ?_
      rw [drop_cons hlt] at q
      obtain ⟨st, q⟩ := guardS_el q
      obtain ⟨hgo, -⟩ := iR Z' m' F S' H' hz hm sr' st i
      obtain ⟨go, yl⟩ := hgo its.items[i] (List.getElem?_eq_getElem hlt)
      refine ⟨go, fun τ2 H2 => ∃ Z2 m2 S2 σ2, Same Z1 Z2 ∧ m1 <+: m2 ∧ SR P Z2 m2 F S2 H2 ∧ SgR P Z2 m2 σ2 τ2 ∧ okS P Z2 m2 F (forGo t ds C its (its.items.drop (i + 1)) σ2 S2) D W, fun τ2 H2 ⟨Z2, m2, S2, σ2, h1, h2, h3, h4, h5⟩ => ⟨its.items.length - (i + 1), by omega, Z2, m2, S2, σ2, h1, h2, h3, h4, rfl, hlt, h5⟩, fun y H2 hy => ?_⟩
      obtain ⟨Z2, z2, sr2, rv⟩ := yl y H2 hy
      cases e1 : t.put its.items[i] σ' with
      | none => rw [e1] at q; exact q.elim
      | some σ2 =>
        rw [e1] at q
        refine ⟨Z2, m', F, S', σ', _, σ2, sr2, sl'.mono z2 (List.prefix_refl _), rv, e1, fun τ2 sl2 _ => ⟨Z2, m', F, S', σ2, sr2, sl2, ?_⟩⟩
        have q : okS P Z2 m' F ((ds C σ2 S').lp (forGo t ds C its (its.items.drop (i + 1)))) D W := okS.mono z2 (List.prefix_refl _) q
        cases e2 : ds C σ2 S' with
        | nx σ3 S3 =>
          rw [e2] at q
          exact fun Z3 m3 τ3 H3 a b c d => ⟨Z3, m3, S3, σ3, (hz.trans z2).trans a, hm.trans b, c, d, okS.mono a b q⟩
        | ct σ3 S3 =>
          rw [e2] at q
          exact fun Z3 m3 τ3 H3 a b c d => ⟨Z3, m3, S3, σ3, (hz.trans z2).trans a, hm.trans b, c, d, okS.mono a b q⟩
        | bk σ3 S3 => rw [e2] at q; exact q
        | rt v S3 => rw [e2] at q; exact q
        | exc c fs σ3 S3 => rw [e2] at q; exact q
        | bad => rw [e2] at q; exact q.elim
    · have hi2 : i = its.items.length := by omega
      subst hi2
      rw [List.drop_length] at q
      obtain ⟨st, q⟩ := guardS_el q
      obtain ⟨-, stop⟩ := iR Z' m' F S' H' hz hm sr' st its.items.length
      exact .inl ⟨stop (Nat.le_refl _), q Z' m' τ' H' (Same.refl _) (List.prefix_refl _) sr' sl'⟩
theorem s_while {body : List Stmt} (hp : PassesOwn (model X.prog X.w) X.A X.env X.xe) (hc : PT X c (tT P W C ta)) (hb : PSs X body (tS P W C ds)) : PS X (.While c body [] pos) (tS P W C (sWhile ta ds)) :=
  PS.weak (ps_while hp hc hb) fun D τ H ⟨Z, m, F, S, σ, sr, sl, q⟩ => by
    refine ⟨fun n τ' H' => ∃ Z' m' S' σ', SR P Z' m' F S' H' ∧ SgR P Z' m' σ' τ' ∧ okS P Z' m' F (whGo ta ds C n σ' S') D W, ⟨_, Z, m, S, σ, sr, sl, q⟩, ?_⟩
    rintro n τ' H' ⟨Z', m', S', σ', sr', sl', q⟩
    cases n with
    | zero => exact q.elim
    | succ n =>
      refine ⟨Z', m', F, S', σ', sr', sl', okS_in (R := fun _ _ (a b : Bool) => a = b) sl' q fun k H2 Z2 m2 S2 v z2 p2 sr2 r q => ?_⟩
      subst r
      cases v with
      | false => rw [if_neg Bool.false_ne_true] at q ⊢; exact q Z2 m2 τ' H2 (Same.refl _) (List.prefix_refl _) sr2 (sl'.mono z2 p2)
      | true =>
        rw [if_pos rfl] at q ⊢
        refine ⟨fun τ3 H3 => ∃ Z3 m3 S3 σ3, SR P Z3 m3 F S3 H3 ∧ SgR P Z3 m3 σ3 τ3 ∧ okS P Z3 m3 F (whGo ta ds C n σ3 S3) D W, fun τ3 H3 h => ⟨n, Nat.lt_succ_self _, h⟩, Z2, m2, F, S2, σ', sr2, sl'.mono z2 p2, ?_⟩
        cases e2 : ds C σ' S2 with
        | nx σ3 S3 =>
          rw [e2] at q
          exact fun Z3 m3 τ3 H3 a b c d => ⟨Z3, m3, S3, σ3, c, d, okS.mono a b q⟩
        | ct σ3 S3 =>
          rw [e2] at q
          exact fun Z3 m3 τ3 H3 a b c d => ⟨Z3, m3, S3, σ3, c, d, okS.mono a b q⟩
        | bk σ3 S3 => rw [e2] at q; exact q
        | rt v S3 => rw [e2] at q; exact q
        | exc c fs σ3 S3 => rw [e2] at q; exact q
        | bad => rw [e2] at q; exact q.elim

/-! ### comprehensions -/
theorem wipe_len {σ : Sl} : ∀ {vs : List Nat}, (wipeP σ vs).length = σ.length
  | [] => rfl
  | v :: vs => by unfold wipeP; rw [List.length_set, wipe_len]
theorem SgR.wipe {Z : Hp} {m : List Addr} {σ : Sl} {τ : St} (h : SgR P Z m σ τ) : ∀ vs : List Nat, SgR P Z m (wipeP σ vs) (L2.wipe τ vs)
  | [] => h
  | v :: vs => by
    have ih := SgR.wipe h vs
    unfold wipeP L2.wipe
    refine ⟨by rw [List.length_set, List.length_set]; exact ih.1, fun i w e => ?_⟩
    by_cases hi : v = i
    · subst hi
      by_cases hl : v < (wipeP σ vs).length
      · rw [List.getElem?_set_self hl] at e; cases e
      · rw [List.getElem?_eq_none (by simpa using hl)] at e; cases e
    · rw [List.getElem?_set_ne hi] at e ⊢
      exact ih.2 i w e
theorem SR.hold {Z : Hp} {m : List Addr} {F : Hp} {S : Store} {H : Hp} (sr : SR P Z m F S H) {D : Addr} (hD : H D = none) (o : HO) (ho : ∀ ps, o ≠ .tbl ps := by intro _ q; cases q) (hx : ∀ φ, o ≠ .ext φ := by intro _ q; cases q) : SR P Z m (upd F D o) S (upd H D o) := by
  have nz := sr.nz hD
  have nm := sr.nm hD
  refine ⟨fun b u e => ?_, fun b u e => ?_, fun b u e => ?_, sr.len, sr.nd, fun b hb => ⟨(sr.mz b hb).1, ?_⟩, fun i c e => ?_, (sr.ts.put (a := D) (fun _ => by rw [hD]; simp) (fun _ => by rw [hD]; simp)).f ho hx⟩
  · rw [upd_ne (ne_of_none e nz)]; exact sr.zh _ _ e
  · by_cases hb : b = D
    · subst hb; rw [upd_same] at e ⊢; exact e
    · rw [upd_ne hb] at e ⊢; exact sr.fh _ _ e
  · rw [upd_ne (ne_of_none e nz)]; exact sr.zf _ _ e
  · rw [upd_ne (fun (q : b = D) => nm (q ▸ hb))]; exact (sr.mz b hb).2
  · obtain ⟨ad, e1, r⟩ := sr.cell i c e
    refine ⟨ad, e1, ?_⟩
    rw [upd_ne (fun (q : ad = D) => nm (q ▸ List.mem_of_getElem? e1))]; exact r
theorem SR.rehold {Z : Hp} {m : List Addr} {F : Hp} {S : Store} {H : Hp} {D : Addr} {xs ys : List V} (sr : SR P Z m (upd F D (.lst xs)) S H) : SR P Z m (upd F D (.lst ys)) S (upd H D (.lst ys)) := by
  have zD : Z D = none := by
    cases e : Z D with
    | none => rfl
    | some u => have := sr.zf _ _ e; rw [upd_same] at this; cases this
  have nm : D ∉ m := fun h => by have := (sr.mz D h).2; rw [upd_same] at this; cases this
  refine ⟨fun b u e => ?_, fun b u e => ?_, fun b u e => ?_, sr.len, sr.nd, fun b hb => ⟨(sr.mz b hb).1, ?_⟩, fun i c e => ?_, ?_⟩
  · rw [upd_ne (ne_of_none e zD)]; exact sr.zh _ _ e
  · by_cases hb : b = D
    · subst hb; rw [upd_same] at e ⊢; exact e
    · rw [upd_ne hb] at e ⊢; exact sr.fh _ _ (by rw [upd_ne hb]; exact e)
  · have hb := ne_of_none e zD
    have := sr.zf _ _ e
    rw [upd_ne hb] at this ⊢; exact this
  · have hn : b ≠ D := fun q => nm (q ▸ hb)
    have := (sr.mz b hb).2
    rw [upd_ne hn] at this ⊢; exact this
  · obtain ⟨ad, e1, r⟩ := sr.cell i c e
    refine ⟨ad, e1, ?_⟩
    rw [upd_ne (fun (q : ad = D) => nm (q ▸ List.mem_of_getElem? e1))]; exact r
  · have hD : H D = some (.lst xs) := sr.fh _ _ upd_same
    have t := sr.ts.put (a := D) (o := .lst ys) (fun _ => by rw [hD]; simp) (fun _ => by rw [hD]; simp)
    refine ⟨t.tb, t.nz, fun b ps e => ?_, fun b φ e => ?_⟩
    · by_cases hb : b = D
      · subst hb; rw [upd_same] at e; cases e
      · rw [upd_ne hb] at e
        exact t.nf b ps (by rw [upd_ne hb]; exact e)
    · by_cases hb : b = D
      · subst hb; rw [upd_same] at e; cases e
      · rw [upd_ne hb] at e
        exact t.ne b φ (by rw [upd_ne hb]; exact e)
/-- the made list is ours from now on -/
theorem okE.unhold {Z : Hp} {m : List Addr} {F : Hp} {S : Store} {H : Hp} {D : Addr} {mt : Bool} {xs : List PV} {vs : List V} {Q : VK} {E : XK} (q : okE P Z m F (mkLst mt xs S) Q E) (sr : SR P Z m (upd F D (.lst vs)) S H) (r : VRs P Z m xs vs) (hF : F D = none) : Q (.ref D) H := by
  have zD : Z D = none := by
    cases e : Z D with
    | none => rfl
    | some u => have := sr.zf _ _ e; rw [upd_same] at this; cases this
  have nm : D ∉ m := fun h => by have := (sr.mz D h).2; rw [upd_same] at this; cases this
  have hD : H D = some (.lst vs) := sr.fh _ _ upd_same
  have fh : Same F H := fun b u e => sr.fh _ _ (by rw [upd_ne (ne_of_none e hF)]; exact e)
  have nF : ∀ b ps, F b ≠ some (.tbl ps) := fun b ps e => sr.ts.nf b ps (by rw [upd_ne (ne_of_none e hF)]; exact e)
  have nE : ∀ b φ, F b ≠ some (.ext φ) := fun b φ e => sr.ts.ne b φ (by rw [upd_ne (ne_of_none e hF)]; exact e)
  have mF : ∀ b, b ≠ D → upd F D (.lst vs) b = none → F b = none := fun b hb e => by rw [upd_ne hb] at e; exact e
  unfold mkLst at q
  cases mt with
  | false =>
    have sz : Same Z (upd Z D (.lst vs)) := same_upd zD
    refine q (upd Z D (.lst vs)) m (.ref D) H sz (List.prefix_refl _) ⟨fun b u e => ?_, fh, fun b u e => ?_, sr.len, sr.nd, fun b hb => ⟨?_, ?_⟩, fun i c e => ?_, (Tbs.z ⟨sr.ts.tb, sr.ts.nz, nF, nE⟩ (fun _ q => by cases q))⟩ ⟨D, vs, rfl, upd_same, VRs.mono sz (List.prefix_refl _) _ _ r⟩
    · by_cases hb : b = D
      · subst hb; rw [upd_same] at e; cases e; exact hD
      · rw [upd_ne hb] at e; exact sr.zh _ _ e
    · by_cases hb : b = D
      · subst hb; exact hF
      · rw [upd_ne hb] at e; exact mF b hb (sr.zf _ _ e)
    · rw [upd_ne (fun (q : b = D) => nm (q ▸ hb))]; exact (sr.mz b hb).1
    · exact mF b (fun (q : b = D) => nm (q ▸ hb)) (sr.mz b hb).2
    · obtain ⟨ad, e1, r⟩ := sr.cell i c e
      exact ⟨ad, e1, CR.mono sz (List.prefix_refl _) r⟩
  | true =>
    refine q Z (m ++ [D]) (.ref D) H (Same.refl _) (List.prefix_append ..) ⟨sr.zh, fh, fun b u e => ?_, by simp [sr.len], ?_, fun b hb => ?_, fun i c e => ?_, ⟨sr.ts.tb, sr.ts.nz, nF, nE⟩⟩ ⟨D, ?_, rfl⟩
    · exact mF b (ne_of_none e zD) (sr.zf _ _ e)
    · rw [List.nodup_append]
      exact ⟨sr.nd, by simp, fun b hb c hc => by simp at hc; subst hc; rintro rfl; exact nm hb⟩
    · rcases List.mem_append.mp hb with h | h
      · exact ⟨(sr.mz b h).1, mF b (fun (q : b = D) => nm (q ▸ h)) (sr.mz b h).2⟩
      · simp at h; subst h; exact ⟨zD, hF⟩
    · by_cases hi : i < S.length
      · rw [List.getElem?_append_left hi] at e
        obtain ⟨ad, e1, g⟩ := sr.cell i c e
        refine ⟨ad, ?_, CR.mono (Same.refl _) (List.prefix_append ..) g⟩
        rw [List.getElem?_append_left (List.getElem?_eq_some_iff.mp e1).1]; exact e1
      · have hi2 : i = S.length := by
          have := (List.getElem?_eq_some_iff.mp e).1
          simp at this; omega
        subst hi2
        rw [List.getElem?_append_right (Nat.le_refl _)] at e
        simp at e; subst e
        refine ⟨D, ?_, vs, hD, VRs.mono (Same.refl _) (List.prefix_append ..) _ _ r⟩
        rw [← sr.len, List.getElem?_append_right (Nat.le_refl _)]; simp
    · rw [← sr.len, List.getElem?_append_right (Nat.le_refl _)]; simp
abbrev WF : L2.WX := fun _ _ _ _ => False
theorem bnd_assoc {α β γ : Type} (r : Rs α) (f : α → Store → Rs β) (g : β → Store → Rs γ) : (r.bnd f).bnd g = r.bnd fun a S => (f a S).bnd g := by cases r <;> rfl
theorem comp_red {own : List (SS × Nat)} {mt : Bool} {tc : DenT} {de : Den} (ht : ∀ i ∈ t.idx, i ∈ own.map (·.2)) {τ : St} {H : Hp} {Q : VK} (h : tD P W C (dComp mt (own.map (·.2)) t di tc de) τ H Q) : tLc (tI P W C di) (gR P t) (tT P WF C tc) (tD P WF C de) (own.map (·.2)) τ H Q := by
  obtain ⟨Z, m, F, S, σ, sr, sl, q⟩ := h
  refine ⟨Z, m, F, S, σ, sr, sl, bnd1 q fun J H1 Z1 m1 S1 its z1 p1 sr1 iR q D hD => ?_⟩
  obtain ⟨hlen, q⟩ := okR_guard q
  have hlen := of_decide_eq_true hlen
  have nF : F D = none := sr1.nf hD
  refine ⟨fun i n H' => ∃ Z' m' S' acc accV, Same Z1 Z' ∧ m1 <+: m' ∧ SR P Z' m' (upd F D (.lst accV)) S' H' ∧ VRs P Z' m' acc accV ∧ acc.length ≤ i ∧ n = its.items.length - i ∧ i ≤ its.items.length ∧ okE P Z' m' F ((compGo t tc de C (wipeP σ (own.map (·.2))) its (its.items.drop i) S').bnd fun ys S => mkLst mt (acc ++ ys) S) Q (fun cls dd H' => W cls dd τ H'),
    ⟨_, Z1, m1, S1, [], [], Same.refl _, List.prefix_refl _, sr1.hold hD _, rfl, Nat.zero_le _, rfl, Nat.zero_le _, q⟩, ?_⟩
  rintro i n H' ⟨Z', m', S', acc, accV, hz, hm, sr', rA, hA, rfl, hi, q⟩
  by_cases hlt : i < its.items.length
  · refine .inr ?_
    rw [drop_cons hlt] at q
    simp only [compGo] at q
    cases hst : its.still S' with
    | false => rw [hst] at q; exact q.elim
    | true =>
    rw [hst] at q
    simp only [guardR_true] at q
    obtain ⟨hgo, -⟩ := iR Z' m' _ S' H' hz hm sr' hst i
    obtain ⟨go, yl⟩ := hgo its.items[i] (List.getElem?_eq_getElem hlt)
    refine ⟨go, fun H2 => ∃ Z' m' S' acc accV, Same Z1 Z' ∧ m1 <+: m' ∧ SR P Z' m' (upd F D (.lst accV)) S' H2 ∧ VRs P Z' m' acc accV ∧ acc.length ≤ i + 1 ∧ okE P Z' m' F ((compGo t tc de C (wipeP σ (own.map (·.2))) its (its.items.drop (i + 1)) S').bnd fun ys S => mkLst mt (acc ++ ys) S) Q (fun cls dd H' => W cls dd τ H'),
      fun H2 ⟨Z2, m2, S2, ac2, av2, h1, h2, h3, h4, h5, h6⟩ => ⟨its.items.length - (i + 1), by omega, Z2, m2, S2, ac2, av2, h1, h2, h3, h4, h5, rfl, hlt, h6⟩, fun y H2 hy => ?_⟩
    obtain ⟨Z2, z2, sr2, rv⟩ := yl y H2 hy
    cases e1 : t.put its.items[i] (wipeP σ (own.map (·.2))) with
    | none => rw [e1] at q; exact q.elim
    | some σ2 =>
      rw [e1] at q
      simp only at q
      have slw := ((sl.mono z1 p1).mono hz hm).wipe (own.map (·.2))
      refine ⟨Z2, m', _, S', _, _, σ2, sr2, slw.mono z2 (List.prefix_refl _), rv, e1, fun τ2 sl2 hw => ⟨?_, Z2, m', _, S', σ2, sr2, sl2, ?_⟩⟩
      · have h1 := hw _ ht
        rw [h1]
        have idem : ∀ (τ : St) (vs : List Nat), L2.wipe (L2.wipe τ vs) vs = L2.wipe τ vs := by
          intro τ vs
          apply List.ext_getElem?
          intro j
          have key : ∀ (τ : St) (vs : List Nat) (j : Nat), (L2.wipe τ vs)[j]? = if j ∈ vs ∧ j < τ.length then some none else τ[j]? := by
            intro τ vs
            induction vs with
            | nil => intro j; simp [L2.wipe]
            | cons v vs ih =>
              intro j
              unfold L2.wipe
              rw [List.getElem?_set]
              by_cases hv : v = j
              · subst hv
                by_cases hl : v < τ.length
                · simp [wipe_length, hl]
                · simp [wipe_length, hl]
              · rw [if_neg hv, ih]
                simp [hv, Ne.symm hv, eq_comm]
          rw [key, key]
          by_cases hj : j ∈ vs ∧ j < τ.length
          · rw [if_pos ⟨hj.1, by rw [wipe_length]; exact hj.2⟩, if_pos hj]
          · rw [if_neg (fun z => hj ⟨z.1, by have := z.2; rw [wipe_length] at this; exact this⟩)]
        exact idem _ _
      · have q := okR.mono z2 (List.prefix_refl _) q
        cases e2 : tc C σ2 S' with
        | bad => rw [e2] at q; exact q.elim
        | exc c fs S3 => rw [e2] at q; exact q.elim
        | ok k S3 =>
          rw [e2] at q
          intro Z3 m3 b H3 z3 p3 sr3 rb
          subst rb
          have q := okR.mono z3 p3 q
          cases k with
          | false =>
            rw [if_neg Bool.false_ne_true]
            exact ⟨Z3, m3, S3, acc, accV, ((hz.trans z2).trans z3), hm.trans p3, sr3, VRs.mono (z2.trans z3) p3 _ _ rA, Nat.le_succ_of_le hA, q⟩
          | true =>
            rw [if_pos rfl]
            refine ⟨Z3, m3, _, S3, σ2, sr3, sl2.mono z3 p3, ?_⟩
            have q : okE P Z3 m3 F (((noX (de C σ2 S3)).bnd fun y S => (compGo t tc de C (wipeP σ (own.map (·.2))) its (its.items.drop (i + 1)) S).bnd fun ys S => .ok (y :: ys) S).bnd fun ys S => mkLst mt (acc ++ ys) S) Q (fun cls dd H' => W cls dd τ H') := q
            cases e3 : de C σ2 S3 with
            | bad => rw [e3] at q; exact q.elim
            | exc c fs S4 => rw [e3] at q; exact q.elim
            | ok yv S4 =>
              rw [e3] at q
              intro Z4 m4 u H4 z4 p4 sr4 ru
              have q := okR.mono z4 p4 q
              have hD4 : H4 D = some (.lst accV) := sr4.fh _ _ upd_same
              have rA4 := VRs.mono ((z2.trans z3).trans z4) (p3.trans p4) _ _ rA
              refine ⟨accV, hD4, by rw [← rA.length]; omega, Z4, m4, S4, acc ++ [yv], accV ++ [u], ((hz.trans z2).trans z3).trans z4, (hm.trans p3).trans p4, sr4.rehold, VRs.append rA4 ⟨u, [], rfl, ru, rfl⟩, by simp; omega, ?_⟩
              have q : okE P Z4 m4 F (((compGo t tc de C (wipeP σ (own.map (·.2))) its (its.items.drop (i + 1)) S4).bnd fun ys S => .ok (yv :: ys) S).bnd fun ys S => mkLst mt (acc ++ ys) S) Q (fun cls dd H' => W cls dd τ H') := q
              rw [bnd_assoc] at q
              simp only [Rs.bnd_ok] at q
              simp only [List.append_assoc, List.singleton_append]
              exact q
  · have hi2 : i = its.items.length := by omega
    subst hi2
    rw [List.drop_length] at q
    simp only [compGo] at q
    cases hst : its.still S' with
    | false => rw [hst] at q; exact q.elim
    | true =>
      rw [hst] at q
      obtain ⟨-, stop⟩ := iR Z' m' _ S' H' hz hm sr' hst its.items.length
      have q : okE P Z' m' F (mkLst mt (acc ++ []) S') Q _ := q
      rw [List.append_nil] at q
      exact .inl ⟨stop (Nat.le_refl _), okE.unhold q sr' rA nF⟩
theorem e_comp {own : List (SS × Nat)} {mt : Bool} {tc : DenT} {de : Den} {elt : Expr} {ifs : List Expr} {scope : Scope} (hc : X.calm = true) (hN : X.N.Nodup) (hi : PI X tg iter (tI P W C di)) (ok : BlkOk X.N X.env.scope scope own) (ht : ∀ i ∈ t.idx, i ∈ own.map (·.2))
    (hg : ∀ s H C0 cl fp, PG (X.blk s H scope (compEnvC scope cl C0 X.env) fp) tg (gR P t)) (htt : ∀ s H C0 cl fp, PTs (X.blk s H scope (compEnvC scope cl C0 X.env) fp) ifs (tT P WF C tc))
    (he : ∀ s H C0 cl fp, PE (X.blk s H scope (compEnvC scope cl C0 X.env) fp) elt (tD P WF C de)) (hs : ∀ x, foldedSetIterable iter X.env x = pure x) : PE X (.ListComp elt [⟨tg, iter, ifs, 0⟩] scope pos) (tD P W C (dComp mt (own.map (·.2)) t di tc de)) :=
  PE.weak (pe_lc hc hN hi ok hg htt he hs) fun τ H Q h => comp_red ht h
theorem s_setComp {own : List (SS × Nat)} {mt : Bool} {tc : DenT} {de : Den} {elt : Expr} {ifs : List Expr} {scope : Scope} {i : Nat} {y : SS} {py spos : Pos} (hc : X.calm = true) (hN : X.N.Nodup) (hy : X.N[i]? = some y) (hyl : X.env.scope.names.lookup y = some .local)
    (hsw : swapsWith (.ListComp elt [⟨tg, iter, ifs, 0⟩] scope pos) (some (.Name y py)) spos.line X.env = pure true) (hi : PI X tg iter (tI P W C di)) (ok : BlkOk X.N X.env.scope scope own) (ht : ∀ i ∈ t.idx, i ∈ own.map (·.2))
    (hg : ∀ s H C0 cl fp, PG (X.blk s H scope (compEnvC scope cl C0 X.env) fp) tg (gR P t)) (htt : ∀ s H C0 cl fp, PTs (X.blk s H scope (compEnvC scope cl C0 X.env) fp) ifs (tT P WF C tc))
    (he : ∀ s H C0 cl fp, PE (X.blk s H scope (compEnvC scope cl C0 X.env) fp) elt (tD P WF C de)) (hs : ∀ x, foldedSetIterable iter X.env x = pure x) : PS X (.Assign [.Name y py] (.ListComp elt [⟨tg, iter, ifs, 0⟩] scope pos) spos) (tS P W C (sSet (.nm i) (dComp mt (own.map (·.2)) t di tc de))) :=
  PS.weak (ps_setLc hc hN hy hyl hsw hi ok hg htt he hs) fun D τ H ⟨Z, m, F, S, σ, sr, sl, q⟩ =>
    comp_red ht ⟨Z, m, F, S, σ, sr, sl, okS_in (R := VR P) sl q fun u H' Z' m' S' v z p s r q => q Z' m' _ H' (Same.refl _) (List.prefix_refl _) s ((sl.mono z p).set i r)⟩
end
end Ev

end
section
set_option Elab.async false
set_option linter.all false
set_option maxRecDepth 100000
set_option maxHeartbeats 1000000
namespace Ev
open PySem L2
/-! ### raise -/
def RaiseC (P : Par) (c : SS) : Prop := P.exn c = true ∧ PySem.W.keepIn P.K (.ref (He.ga P.K c)) = true ∧ PySem.W.subIn P.K (.ref (He.ga P.K c)) (.type "BaseException") = some true ∧ PySem.W.typeIn P.K (.ref (He.ga P.K c)) = some (.type "type") ∧
  ∃ bmB B newId initId, ExcBaseFacts B newId initId bmB ∧ PySem.W.excIn P.K (He.ga P.K c) bmB newId = true
section
variable {X : Cx} {P : Par} {W : L2.WX} {C : Cfg} {k : Nat} {a b c e : Expr} {da db dc : Den} {ta tb : DenT} {pos p p2 apos : Pos} {es : List Expr} {dl : DenL} {x : SS} {ds dt : DenS}
theorem pmk_own0 {D : Addr} {bmB : List Value} {B newId initId : String} (F : ExcBaseFacts B newId initId bmB) (q : PySem.W.excIn X.K D bmB newId = true) (gC : X.mg x = some (.ref D)) (kC : PySem.W.keepIn X.K (.ref D) = true) (r : Raises X (.ref D)) (hg : Gl X x) (hdb : (x == ("__debug__" : SS)) = false) :
    PMk X (.Call (.Name x p) [] [] pos) (fun _ H Q => Q (.ref D) none H) := by
  intro pins s σ H Q I h
  refine wpAny_Call_Name_kw (ld_glob I hg gC ?_ hdb)
  refine PySem.W.callWith_K0 I.kIn kC ?_
  obtain ⟨bm, N, nm, qn, bs, hdct, sn, sub, ab, col, dd, k0, k1, k2, k3, k5, mN, hC, hN, hni, T⟩ := exc_obj I.kIn q
  exact wpAny_call_exc_subT F T hC hN hni (fun h' e hm => mk_of I hm r h (I.hok.gone hm.new)) (Nat.zero_le _)
theorem s_raise (hK : X.K = P.K) (hc : X.calm = true) (tk : Takes X W) (rc : RaiseC P x) (hg : Gl X x) (hm : X.mg x = some (.ref (He.ga P.K x))) (hd : (x == ("__debug__" : SS)) = false) : PS X (.Raise (some (.Call (.Name x p) [] [] p2)) none pos) (tS P W C (sRaise x)) := by
  obtain ⟨r0, r1, r2, r3, bmB, B, newId, initId, F, r4⟩ := rc
  exact PS.weak (ps_raise hc tk (pmk_own0 F (hK ▸ r4) hm (hK ▸ r1) (raises_own (hK ▸ r2) (hK ▸ r3)) hg hd)) fun D τ H ⟨Z, m, F, S, σ, sr, sl, q⟩ => q Z m _ none τ H (Same.refl _) (List.prefix_refl _) sr sl ⟨rfl, rfl, rfl, r0⟩

/-! ### try -/
def Par.ex (P : Par) (a : Addr) (c : SS) : Par := ⟨P.K, P.fn, P.sub, P.exn, some (a, c), P.tabs, P.cl⟩
/-- P' tells more -/
structure Par.le (P P' : Par) : Prop where
  K : P'.K = P.K
  fn : P'.fn = P.fn
  tabs : P'.tabs = P.tabs
  ea : P.ea = none ∨ P'.ea = P.ea
  cl : P.cl = none ∨ P'.cl = P.cl
mutual
theorem VR.le {P P' : Par} (l : P.le P') {Z : Hp} {m : List Addr} : ∀ (x : PV) (v : V), VR P Z m x v → VR P' Z m x v
  | .non, _, h => h
  | .bl _, _, h => h
  | .int _, _, h => h
  | .str _, _, h => h
  | .tup xs, _, h => by
    obtain ⟨a, vs, e, q, r⟩ := h
    exact ⟨a, vs, e, l.K ▸ q, VRs.le l xs vs r⟩
  | .ro xs, _, h => by
    obtain ⟨a, vs, e, q, r⟩ := h
    exact ⟨a, vs, e, q, VRs.le l xs vs r⟩
  | .rod _ _, _, h => h
  | .obj c fs, _, h => by
    obtain ⟨a, dx, fv, ns, e, q, f, n, r⟩ := h
    exact ⟨a, dx, fv, ns, e, l.K ▸ q, l.fn ▸ f, n, VRs.le l fs _ r⟩
  | .rf i, _, h => h
  | .scr _, _, h => by
    obtain ⟨a, e, q⟩ := h
    exact ⟨a, e, l.K ▸ q⟩
  | .gl x, v, h => (show v = .ref (He.ga P'.K x) from l.K.symm ▸ h)
  | .ty _, _, h => h
  | .clo, _, h => by
    obtain ⟨f, φ, Z0, m0, e, c, q⟩ := h
    rcases l.cl with z | z
    · rw [z] at c; cases c
    · exact ⟨f, φ, Z0, m0, e, z.trans c, q⟩
  | .exo _ _, _, h => by
    obtain ⟨h0, a, e, c⟩ := h
    rcases l.ea with z | z
    · rw [z] at c; cases c
    · exact ⟨h0, a, e, z.trans c⟩
theorem VRs.le {P P' : Par} (l : P.le P') {Z : Hp} {m : List Addr} : ∀ (xs : List PV) (vs : List V), VRs P Z m xs vs → VRs P' Z m xs vs
  | [], _, h => h
  | x :: xs, _, h => by
    obtain ⟨v, r, e, h1, h2⟩ := h
    exact ⟨v, r, e, VR.le l x v h1, VRs.le l xs r h2⟩
end
theorem CR.le {P P' : Par} (l : P.le P') {Z : Hp} {m : List Addr} {c : Cell} {o : Option HO} (h : CR P Z m c o) : CR P' Z m c o := by
  cases c with
  | lst xs => obtain ⟨vs, e, r⟩ := h; exact ⟨vs, e, VRs.le l _ _ r⟩
  | dct _ _ => exact h
  | ins c ns fs => obtain ⟨dx, fv, e, n, r⟩ := h; exact ⟨dx, fv, l.K ▸ e, n, VRs.le l _ _ r⟩
theorem SR.le {P P' : Par} (l : P.le P') {Z : Hp} {m : List Addr} {F : Hp} {S : Store} {H : Hp} (sr : SR P Z m F S H) : SR P' Z m F S H :=
  ⟨sr.zh, sr.fh, sr.zf, sr.len, sr.nd, sr.mz, fun i c e => let ⟨ad, e1, r⟩ := sr.cell i c e; ⟨ad, e1, r.le l⟩, ⟨l.tabs ▸ sr.ts.tb, sr.ts.nz, sr.ts.nf, sr.ts.ne⟩⟩
theorem SgR.le {P P' : Par} (l : P.le P') {Z : Hp} {m : List Addr} {σ : Sl} {τ : St} (sl : SgR P Z m σ τ) : SgR P' Z m σ τ :=
  ⟨sl.1, fun i v e => let ⟨u, e1, r⟩ := sl.2 i v e; ⟨u, e1, VR.le l _ _ r⟩⟩
theorem Par.le_ex {P : Par} (h : P.ea = none) (a : Addr) (c : SS) : P.le (P.ex a c) := ⟨rfl, rfl, rfl, .inl h, .inr rfl⟩
/-! without the exception -/
mutual
theorem VR.off {P : Par} {ad : Addr} {cn : SS} {Z : Hp} {m : List Addr} : ∀ (x : PV) (v : V), x.nx = true → VR (P.ex ad cn) Z m x v → VR P Z m x v
  | .non, _, _, h => h
  | .bl _, _, _, h => h
  | .int _, _, _, h => h
  | .str _, _, _, h => h
  | .tup xs, _, k, h => by
    obtain ⟨a, vs, e, q, r⟩ := h
    exact ⟨a, vs, e, q, VRs.off xs vs k r⟩
  | .ro xs, _, k, h => by
    obtain ⟨a, vs, e, q, r⟩ := h
    exact ⟨a, vs, e, q, VRs.off xs vs k r⟩
  | .rod _ _, _, _, h => h
  | .obj c fs, _, k, h => by
    obtain ⟨a, dx, fv, ns, e, q, f, n, r⟩ := h
    exact ⟨a, dx, fv, ns, e, q, f, n, VRs.off fs _ k r⟩
  | .rf i, _, _, h => h
  | .scr _, _, _, h => h
  | .gl x, v, _, h => h
  | .ty _, _, _, h => h
  | .clo, _, _, h => h
  | .exo _ _, _, k, _ => by cases k
theorem VRs.off {P : Par} {ad : Addr} {cn : SS} {Z : Hp} {m : List Addr} : ∀ (xs : List PV) (vs : List V), PV.nxs xs = true → VRs (P.ex ad cn) Z m xs vs → VRs P Z m xs vs
  | [], _, _, h => h
  | x :: xs, _, k, h => by
    obtain ⟨v, r, e, h1, h2⟩ := h
    obtain ⟨k1, k2⟩ := Bool.and_eq_true_iff.mp k
    exact ⟨v, r, e, VR.off x v k1 h1, VRs.off xs r k2 h2⟩
end
theorem CR.off {P : Par} {ad : Addr} {cn : SS} {Z : Hp} {m : List Addr} {c : Cell} {o : Option HO} (k : c.nx = true) (h : CR (P.ex ad cn) Z m c o) : CR P Z m c o := by
  cases c with
  | lst xs => obtain ⟨vs, e, r⟩ := h; exact ⟨vs, e, VRs.off _ _ k r⟩
  | dct _ _ => exact h
  | ins c ns fs => obtain ⟨dx, fv, e, n, r⟩ := h; exact ⟨dx, fv, e, n, VRs.off _ _ k r⟩
theorem SR.off {P : Par} {ad : Addr} {cn : SS} {Z : Hp} {m : List Addr} {F : Hp} {S : Store} {H : Hp} (sr : SR (P.ex ad cn) Z m F S H) (h : S.all Cell.nx = true) : SR P Z m F S H :=
  ⟨sr.zh, sr.fh, sr.zf, sr.len, sr.nd, sr.mz, fun i c e => let ⟨a, e1, r⟩ := sr.cell i c e; ⟨a, e1, r.off (List.all_eq_true.mp h c (List.mem_of_getElem? e))⟩, ⟨sr.ts.tb, sr.ts.nz, sr.ts.nf, sr.ts.ne⟩⟩
theorem SgR.off {P : Par} {ad : Addr} {cn : SS} {Z : Hp} {m : List Addr} {σ : Sl} {τ : St} (sl : SgR (P.ex ad cn) Z m σ τ) (h : σ.all (fun o => match o with | some v => v.nx | none => true) = true) : SgR P Z m σ τ :=
  ⟨sl.1, fun i v e => let ⟨u, e1, r⟩ := sl.2 i v e; ⟨u, e1, VR.off _ _ (List.all_eq_true.mp h _ (List.mem_of_getElem? e)) r⟩⟩
theorem SgR.unset {Z : Hp} {m : List Addr} {σ : Sl} {τ : St} (h : SgR P Z m σ τ) (i : Nat) : SgR P Z m (σ.set i none) (τ.set i none) := by
  refine ⟨by simp [h.1], fun j w e => ?_⟩
  by_cases hj : i = j
  · subst hj
    by_cases hl : i < σ.length
    · rw [List.getElem?_set_self hl] at e; cases e
    · rw [List.getElem?_eq_none (by simpa using hl)] at e; cases e
  · rw [List.getElem?_set_ne hj] at e ⊢
    exact h.2 j w e
abbrev Cfg.off (C : Cfg) : Cfg := { C with lam := fun _ => .bad, call := fun _ _ _ _ => .bad }
def offD (D : Ends) (i : Nat) : Ends := { nx := fun σ' H' => D.nx (σ'.set i none) H', rt := D.rt, bk := fun σ' H' => D.bk (σ'.set i none) H', ct := fun σ' H' => D.ct (σ'.set i none) H' }
theorem off_red {ad : Addr} {cn : SS} {i : Nat} {Z : Hp} {m : List Addr} {F : Hp} {r : Rt} {D : Ends} (h : okS P Z m F (offS i r) D W) : okS (P.ex ad cn) Z m F r (offD D i) WF := by
  cases r with
  | nx σ S =>
    unfold offS at h
    simp only at h
    split at h
    · rename_i g
      obtain ⟨g1, g2⟩ := Bool.and_eq_true_iff.mp g
      intro Z' m' τ H hz hm sr sl
      exact h Z' m' _ H hz hm (sr.off g2) ((sl.unset i).off g1)
    · exact h.elim
  | rt v S =>
    unfold offS at h
    simp only at h
    split at h
    · rename_i g
      obtain ⟨g1, g2⟩ := Bool.and_eq_true_iff.mp g
      intro Z' m' u H hz hm sr rv
      exact h Z' m' u H hz hm (sr.off g2) (VR.off _ _ g1 rv)
    · exact h.elim
  | bk σ S => exact h.elim
  | ct σ S => exact h.elim
  | exc c fs σ S => exact h.elim
  | bad => exact h.elim
/-- an except suite's reading, at its exception -/
def tSu (P : Par) (C : Cfg) (d : DenS) (ad : Addr) (cls : Value) (dd : Option Addr) : TS := fun D τ H => ∃ cn, cls = .ref (He.ga P.K cn) ∧ dd = none ∧ P.exn cn = true ∧ tS (P.ex ad cn) WF C d D τ H
theorem s_try {n : SS} {i : Nat} {body suite : List Stmt} {b₀ : Stmt} {np pos' : Pos} (hK : X.K = P.K) (pk : ParOk P) (he : P.ea = none) (sb : C.sub = P.sub) (hs : X.stack = X.env :: X.outer) (hf : X.env.frame = some X.env.locals) (hN : X.N.Nodup) (hi : X.N[i]? = some n) (hln : X.env.kindOf n = some .local)
    (hg : Gl X x) (hm : X.mg x = some (.ref (He.ga P.K x))) (hd : (x == ("__debug__" : SS)) = false) (hx : P.exn x = true) (tk : Takes X W)
    (hb : ∀ (W : L2.WX) (pn : List (Addr × Obj)) (xe : Value → Shared → Prop), Takes (X.tr pn xe) W → PassesOwn (model X.prog X.w) X.A X.env xe → PSs (X.tr pn xe) body (tS P W C ds))
    (hsu : ∀ (ad : Addr) (cn : SS) (oe : Obj) (pn : List (Addr × Obj)), P.exn cn = true → Zc (.ref (He.ga P.K cn)) none oe → (∃ vs, oe.data = .fields vs) → PSs (X.suite ad ((ad, oe) :: pn)) (b₀ :: suite) (tS (P.ex ad cn) WF C.off dt)) :
    PS X (.Try body [.ExceptHandler (some (.Name x np)) (some n) (b₀ :: suite) pos'] [] [] pos) (tS P W C (sTryA x i ds dt)) := by
  refine PS.weak (ps_try_as (c := .ref (He.ga P.K x)) (Wout := W) (tb := fun W => tS P W C ds) (ts := fun ad cls dd => tSu P C.off dt ad cls dd) hs hf hN hi hln ⟨hg, hd, .inl hm⟩ tk hb (fun ad oe cls dd pn hz hv => ?_)) fun D τ H ⟨Z, m, F, S, σ, sr, sl, q⟩ => ⟨Z, m, F, S, σ, sr, sl, ?_⟩
  · refine ⟨fun pins s τ H D I h => ?_⟩
    obtain ⟨cn, rfl, rfl, hcn, h⟩ := h
    exact (hsu ad cn oe pn hcn hz hv).run pins s τ H D I h
  · unfold sTryA at q
    cases e : ds C σ S with
    | exc c fs σ' S' =>
      rw [e] at q
      intro Z' m' cls dd τ' H' hz hm' sr' sl' xr
      obtain ⟨rfl, rfl, rfl, hc⟩ := xr
      simp only at q
      cases e1 : C.sub c (.own x) with
      | none => rw [e1] at q; exact q.elim
      | some k =>
        have e2 := pk.xm c x k hc hx (sb ▸ e1)
        refine ⟨k, hK ▸ e2, fun hk ad hna => ?_, fun hk => ?_⟩
        · subst hk
          rw [e1] at q
          have q := off_red (ad := ad) (cn := c) (okS.mono hz hm' q)
          refine ⟨c, rfl, rfl, hc, Z', m', F, S', _, sr'.le (P.le_ex he ad c), (sl'.le (P.le_ex he ad c)).set i (v := .exo c []) (u := .ref ad) (show [] = [] ∧ ∃ a, V.ref ad = .ref a ∧ some (ad, c) = some (a, c) from ⟨rfl, ad, rfl, rfl⟩), q⟩
        · subst hk
          rw [e1] at q
          exact q Z' m' _ none τ' H' hz hm' sr' sl' ⟨rfl, rfl, rfl, hc⟩
    | _ => rw [e] at q; exact q
end
end Ev

end
section
set_option Elab.async false
set_option linter.all false
set_option maxRecDepth 100000
set_option maxHeartbeats 1000000
namespace Ev
open PySem PySem.Spec PyProof.Rows L2
/-! ### a def's body -/
abbrev WE0 (E : XK) : L2.WX := fun cls d _ H => E cls d H
theorem body_end {P P' : Par} (he : P.base) (hK : P'.K = P.K) (hf : P'.fn = P.fn) (ht : P'.tabs = P.tabs) (hx : P'.exn = P.exn) {Z Z0 : Hp} {m : List Addr} {F : Hp} {S : Store} {H : Hp} {keep : Bool} (hk : keep = true → P' = P) {r : Rt} {Q : VK} {E : XK} (hz0 : Same Z Z0) (q : okE P Z m F (closeR keep S r) Q E) (sr0 : SR P Z m F S H) :
    okS P' Z0 m F r { nx := fun _ H' => Q .non H', rt := Q } (WE0 E) := by
  cases r with
  | rt v S' => exact fun Z' m' u H' hz hm sr rv => close_ok he hK hf ht hk q sr0 sr (hz0.trans hz) hm rv
  | nx σ S' => exact fun Z' m' τ H' hz hm sr sl => close_ok he hK hf ht hk q sr0 sr (hz0.trans hz) hm (x := .non) (u := .non) rfl
  | exc c fs σ S' => exact fun Z' m' cls d τ H' hz hm sr sl x => close_exc he hK hf ht hx q sr0 sr (hz0.trans hz) hm x
  | bk σ S' => exact q.elim
  | ct σ S' => exact q.elim
  | bad => exact q.elim
theorem start_R {P : Par} {Z : Hp} {m : List Addr} {xs : List PV} {vs : List V} {N : List SS} (r : VRs P Z m xs vs) : SgR P Z m (startP N.length xs) (L2.start N vs) := by
  unfold startP L2.start
  refine ⟨by simp [r.length], fun i v e => ?_⟩
  by_cases hi : i < xs.length
  · rw [List.getElem?_append_left (by simpa using hi), List.getElem?_map] at e
    obtain ⟨y, e1, e2⟩ := Option.map_eq_some_iff.mp e
    cases e2
    obtain ⟨u, e3, ru⟩ := r.get e1
    refine ⟨u, ?_, ru⟩
    rw [List.getElem?_append_left (by simp [← r.length, hi]), List.getElem?_map, e3]
    rfl
  · rw [List.getElem?_append_right (by simpa using hi), List.getElem?_replicate] at e
    split at e <;> simp at e
section
variable {Pg : Program} {w : World} {K : PySem.W.Frag} {mg : SS → Option Value} {base : Heap} {x qual : SS} {params : Arguments} {body : List Stmt} {scope : Scope} {f : Addr} {fd : FuncData} {N ps : List SS} {P : Par} {C : Cfg} {d : DenS} {k : Nat} {keep : Bool}
/-- THE RULE for a def -/
theorem fn_ok (Fd : L2.FunD K x qual params body scope [] [] f fd) (Sc : FnScope N ps scope) (he : P.base)
    (hbody : ∀ (cdv : Value) (_ : fd.code = cdv) (A : Around) (outer : List Env) (s : Shared) (H : Hp) (E : XK), Room k (A.deeper (envOfC qual scope s.heap.objs.size f cdv)) → PSs (cxOf (L2.CX Pg w) Pg w K mg base N qual scope f cdv A outer s H E) body (tS P (WE0 E) C d)) :
    FnOk Pg w K mg base (L2.CX Pg w) (k + 1) f fd ps (spF P (fun xs S => closeR keep S (d C (startP N.length xs) S)) ps.length) := by
  obtain ⟨oc, od, dV, kV, doc, pm, an, cdv, ct, osl, rfl, lk, hcd, _, _⟩ := Fd.ex
  refine fn_of lk hcd Sc (fun vs H Q E h => h.1) fun A outer s H vs Q E hr hsp => ⟨_, hbody cdv rfl A outer s H E hr, ?_⟩
  obtain ⟨_, Z, m, F, S, xs, sr, r, q⟩ := hsp
  exact ⟨Z, m, F, S, _, sr, start_R r, body_end he rfl rfl rfl rfl (fun _ => rfl) (Same.refl _) q sr⟩
end
section
variable {X : Cx} {pins : List (Addr × Obj)} {σ : L2.St} {H HZ : Hp} {s : Shared}
open LamX
/-- a() in the def that got the lambda; what is raised is wished for at that def's slots -/
theorem pe_actS {CXg : CXT} {Eg : XK} {Ng : List SS} {qg : SS} {sg : Scope} {g f c' : Addr} {cdg pm ctv : Value} {params : Arguments} {body : Expr} {scope : Scope} {k i : Nat} {a : SS} {pn : List (Addr × Obj)} {xe : Value → Shared → Prop} {W : L2.WX} {tb : XK → TE} {p1 p2 : Pos}
    (I : Inv X pins σ H s) (L : LamS X.env.scope scope) (hf : s.heap.get? f = some (PySem.W.kla_obj "<lambda>" (X.env.qual ++ "<lambda>") params body scope (cloFrom X.env.cells scope.names []) pm c' ctv)) (hfn : H f = none) (hfr : f ∉ frs X.stack)
    (hbind : bindArgs (PySem.W.kla_fn "<lambda>" (X.env.qual ++ "<lambda>") params body scope (cloFrom X.env.cells scope.names []) pm (.ref c') ctv) ⟨[], []⟩ = pure [])
    (tk : Takes ((cxOf CXg X.prog X.w X.K X.mg X.base Ng qg sg g cdg X.A X.stack s H Eg).tr pn xe) W) (hr : Room (k + 1) (X.A.deeper (envOfC qg sg s.heap.objs.size g cdg)))
    (hbody : ∀ (E : XK) (A : Around) (outer : List Env) (s : Shared) (H : Hp), Room k (A.deeper (lamEnv X scope s.heap.objs.size f c')) → PE (lamCx X A outer s H E scope f c') body (tb E))
    (hN : Ng[i]? = some a) (hv : Vis sg a) (hd : (a == ("__debug__" : SS)) = false) (hcd : (a == ("__classdict__" : SS)) = false) :
    PE ((cxOf CXg X.prog X.w X.K X.mg X.base Ng qg sg g cdg X.A X.stack s H Eg).tr pn xe) (.Call (.Name a p1) [] [] p2)
      (fun σZ HZ Q => σZ[i]? = some (some (.ref f)) ∧ HZ c' = some (CodeO c' (X.env.qual ++ "<lambda>")) ∧ tb (WE W σZ) σ HZ Q) := by
  refine ⟨fun pinsZ sZ σZ HZ Q IZ ⟨slot, code, ht⟩ => ?_⟩
  have load := (pe_var (pos := p1) (i := i) hN hv hd hcd).run pinsZ sZ σZ HZ (fun v H1 => v = .ref f ∧ H1 = HZ) IZ ⟨.ref f, slot, rfl, rfl⟩
  refine wpAny_Call_Name_kw (thn load fun u s1 ⟨v, H1, I1, r1, ev, eH⟩ => ?_)
  subst ev eH
  cases r1
  have fun1 := I1.base.keep f _ hf hfn hfr (fun z => nomatch (show f ∈ ([] : List Addr) from z))
  refine PySem.W.callWith_F0 ⟨_, _, _, _, fun1⟩ ?_
  have un : Un (frs X.stack) [] H H1 s.heap s1.heap := I1.base
  obtain ⟨⟨oc, vs, t, hoc, hdc, hvc⟩, _, _⟩ := I1.hok c' _ code
  have enter : codeAny (model X.prog X.w) (X.A.deeper (envOfC qg sg s.heap.objs.size g cdg)) (.call (.ref f) ⟨[], []⟩) (L2.CR (L2.CX X.prog X.w) (envOfC qg sg s.heap.objs.size g cdg :: X.stack) X.prog X.w H1 s1 Q (WE W σZ)) s1 := by
    refine PySem.W.kla_callFunE hr.depth fun1 rfl L.co L.gen rfl ⟨c', oc, vs, t, rfl, hoc, hdc, hvc⟩ ?_
    rw [hbind]
    refine wpAny_pure (wpAny_newFunctionEnv (fun y hy => (L.own y hy).2) (fun y hy => absurd hy (by simp)) (fun h₁ hns hsb => ⟨I1.nolimit.fresh _ hsb, ?_⟩) L.kind)
    have kp : ∀ b o, s1.heap.get? b = some o → h₁.get? b = some o := fun b o e => hsb.extBut b o (Nat.ne_of_lt (Heap.lt_size e)) (Heap.get?_push_of_some _ e)
    have J := lam_start2 (A := X.A.deeper (envOfC qg sg s.heap.objs.size g cdg)) (outer := envOfC qg sg s.heap.objs.size g cdg :: X.stack) (E := WE W σZ) (f := f) (c' := c') (tk := s1.toks + ([] : List (SS × Value)).length) I L I1.env0 hr.hd un hns kp
    have B := (hbody (WE W σZ) _ _ s1 H1 (hr.deeper _)).run [] _ _ H1 Q J ht
    refine PySem.W.kla_codeExpr (wpAny_mono B (fun v s' ⟨w', H', J', rv, q⟩ => ?_) fun e s' hq => hq)
    exact ⟨w', H', J'.os, J'.bare, J'.base, J'.hok, rv, q⟩
  refine wpAny_call (codeAny_mono enter fun r s' hq => ?_)
  match r, hq with
  | .error e, hq => exact passAt tk σZ pinsZ H1 s1 e s' I1 hq
  | .ok (.ret u), hq => exact I1.after hq
end
theorem SR.cutLow {P P' : Par} (hK : P'.K = P.K) (hf : P'.fn = P.fn) (ht : P'.tabs = P.tabs) {Z : Hp} {m : List Addr} {F : Hp} {S : Store} {H : Hp} (sr : SR P' Z m F S H) (g : S.all (Cell.blw S.length) = true) : SR P Z m F S H :=
  ⟨sr.zh, sr.fh, sr.zf, sr.len, sr.nd, sr.mz, fun i c e => by
    obtain ⟨ad, e1, r⟩ := sr.cell i c e
    have := CR.lower (P := P') (P' := P) (Z' := Z) (b := m.length) hK.symm hf.symm (Same.refl _) (by rw [sr.len]; exact List.all_eq_true.mp g c (List.mem_of_getElem? e)) r
    rw [List.take_length] at this
    exact ⟨ad, e1, this⟩, ⟨ht ▸ sr.ts.tb, sr.ts.nz, sr.ts.nf, sr.ts.ne⟩⟩
def Par.clo (P : Par) (f : Addr) (φ : Hp → List Addr → Prop) : Par := ⟨P.K, P.fn, P.sub, P.exn, P.ea, P.tabs, some (f, φ)⟩
abbrev Cfg.lm (C : Cfg) (lam : Store → Rs PV) : Cfg := ⟨fun _ _ _ _ => .bad, lam, C.fuel, C.flds, C.sub, fun _ => false⟩
/-- the lambda may be called here -/
def ActOk (Xz : Cx) (P' : Par) (a : SS) (i : Nat) (Cz : Cfg) : Prop := ∀ (pn : List (Addr × Obj)) (xe : Value → Shared → Prop) (W : L2.WX) (p1 p2 : Pos), Takes (Xz.tr pn xe) W → PE (Xz.tr pn xe) (.Call (.Name a p1) [] [] p2) (tD P' W Cz (dAct i))
section
variable {X : Cx} {P : Par} {W : L2.WX} {C : Cfg} {k : Nat} {x a : SS} {db : Den} {p lpos pos : Pos} {pg : Arguments} {bg : List Stmt} {sg scope : Scope} {fd : FuncData} {Ng : List SS} {params : Arguments} {body : Expr} {dsg : DenS} {cP Pt : Addr}
open LamX
/-- x(lambda: body) -/
theorem e_lam (he : P.base) (hK : X.K = P.K) (hg : Gl X x) (hm : X.mg x = some (.ref (He.ga P.K x))) (hd : (x == ("__debug__" : SS)) = false) (Fd : L2.FunD X.K x x pg bg sg [] [] (He.ga P.K x) fd) (hb : L2.Binds X.K fd [a] []) (Sg : FnScope Ng [a] sg) (hNg : Ng[0]? = some a) (hva : Vis sg a) (hda : (a == ("__debug__" : SS)) = false) (hcd : (a == ("__classdict__" : SS)) = false)
    (TB : TabB X.base X.mg cP Pt) (hcode : X.env.code = .ref cP) (hmT : (Pt, X.env.qual ++ "<lambda>") ∈ P.tabs) (hu : ∀ p ∈ P.tabs, p.1 = Pt → p.2 = X.env.qual ++ "<lambda>") (hr : Room (k + 2) X.A) (L : LamS X.env.scope scope) (hdef : defaultsOf params X.env = ([], []))
    (hbind : ∀ (q : SS) (cl : List (SS × Addr)) (pm cv ctv : Value), bindArgs (PySem.W.kla_fn "<lambda>" q params body scope cl pm cv ctv) ⟨[], []⟩ = pure []) (tk : Takes X W)
    (hbody : ∀ (E : XK) (A : Around) (outer : List Env) (s : Shared) (H : Hp) (f c' : Addr), Room k (A.deeper (lamEnv X scope s.heap.objs.size f c')) → PE (lamCx X A outer s H E scope f c') body (tD P (WE0 E) C db))
    (hG : ∀ (f : Addr) (φ : Hp → List Addr → Prop) (lam : Store → Rs PV) (cdv : Value) (s : Shared) (H : Hp) (E : XK), ActOk (cxOf (L2.CX X.prog X.w) X.prog X.w X.K X.mg X.base Ng x sg (He.ga P.K x) cdv X.A X.stack s H E) (P.clo f φ) a 0 (C.lm lam) →
      Room (k + 1) (X.A.deeper (envOfC x sg s.heap.objs.size (He.ga P.K x) cdv)) → PSs (cxOf (L2.CX X.prog X.w) X.prog X.w X.K X.mg X.base Ng x sg (He.ga P.K x) cdv X.A X.stack s H E) bg (tS (P.clo f φ) (WE0 E) (C.lm lam) dsg))
    (hcall : ∀ (lam : Store → Rs PV) (S : Store), C.call lam x [.clo] S = .bad ∨ C.call lam x [.clo] S = closeR false S (dsg (C.lm lam) (startP Ng.length [.clo]) S)) :
    PE X (.Call (.Name x p) [.Lambda params body scope lpos] [] pos) (tD P W C (dLam x db)) := by
  refine ⟨fun pins s τ H Q I h => ?_⟩
  obtain ⟨Z, m, F, S, σ, sr, sl, q⟩ := h
  have q : okE P Z m F (C.call (fun S => db C σ S) x [.clo] S) Q (fun cls dd H' => W cls dd τ H') := q
  rcases hcall (fun S => db C σ S) S with e0 | e0
  · rw [e0] at q; exact q.elim
  rw [e0] at q
  obtain ⟨oc, od, dV, kV, doc, pm, an, cdv, ct, osl, rfl, lk, hcg, _, _⟩ := Fd.ex
  refine wpAny_Call_Name_kw (ld_glob I hg hm ?_ hd)
  refine PySem.W.callWith_K (h₀ := X.base) I.ok.mod.kin Fd.kp ?_ (by rfl) (by rfl)
  show wpAny _ _ (spliced ((false, eval (.Lambda params body scope lpos) X.env) :: backTo pos (starEach [] X.env))) _ _ s
  refine Calls.spliced_cons (lam_make2 I TB hcode hmT hu sr.ts.tb hdef (L.has I.ok) fun f c' pm' ctv H1 s' I1 eN T1 hf hfn hfr hco => ?_)
  refine Calls.spliced_nil ⟨I1.kIn, ?_⟩
  -- the state behind the making
  have sr1 : SR P Z m F S H1 := ⟨fun b o e => eN b o (sr.zh _ _ e) fun ps z => sr.ts.nz b ps (z ▸ e), fun b o e => eN b o (sr.fh _ _ e) fun ps z => sr.ts.nf b ps (z ▸ e), sr.zf, sr.len, sr.nd, sr.mz, fun i c e => by
    obtain ⟨ad, e1, r⟩ := sr.cell i c e
    refine ⟨ad, e1, ?_⟩
    have nn := r.there
    have no := r.no.1
    cases hA : H ad with
    | none => exact absurd hA nn
    | some o => rw [eN ad o hA fun ps z => no ps (by rw [hA, z])]; rw [hA] at r; exact r, ⟨T1, sr.ts.nz, sr.ts.nf, sr.ts.ne⟩⟩
  have cF : F c' = none := by
    cases hF : F c' with
    | none => rfl
    | some o =>
      have := sr1.fh _ _ hF
      rw [hco] at this
      cases this
      exact absurd hF (sr.ts.ne _ _)
  have cm : c' ∉ m := fun hm' => by
    obtain ⟨i, hi, e⟩ := List.getElem_of_mem hm'
    have hi' : i < S.length := by rw [← sr.len]; exact hi
    obtain ⟨b, e1, r⟩ := sr1.cell i S[i] (List.getElem?_eq_getElem hi')
    rw [List.getElem?_eq_getElem hi, e] at e1
    cases e1
    exact r.no.2 _ hco
  -- the code object among what stays
  obtain ⟨Z1, hZ1⟩ : ∃ Z1 : Hp, Z1 = upd Z c' (CodeO c' (X.env.qual ++ "<lambda>")) := ⟨_, rfl⟩
  have zz : Same Z Z1 := fun b o e => by
    rw [hZ1]
    by_cases hb : b = c'
    · subst hb
      rw [upd_same]
      rw [← sr1.zh _ _ e, hco]
    · rw [upd_ne hb]; exact e
  have zc : Z1 c' = some (CodeO c' (X.env.qual ++ "<lambda>")) := by rw [hZ1, upd_same]
  have sr2 : SR P Z1 m F S H1 := ⟨fun b o e => by
      rw [hZ1] at e
      by_cases hb : b = c'
      · subst hb; rw [upd_same] at e; cases e; exact hco
      · rw [upd_ne hb] at e; exact sr1.zh _ _ e, sr1.fh, fun b o e => by
      rw [hZ1] at e
      by_cases hb : b = c'
      · subst hb; exact cF
      · rw [upd_ne hb] at e; exact sr1.zf _ _ e, sr1.len, sr1.nd, fun b hb => ⟨by rw [hZ1, upd_ne (fun (z : b = c') => cm (z ▸ hb))]; exact (sr1.mz b hb).1, (sr1.mz b hb).2⟩, fun i c e => by
      obtain ⟨ad, e1, r⟩ := sr1.cell i c e
      exact ⟨ad, e1, r.mono zz (List.prefix_refl _)⟩, by rw [hZ1]; exact sr1.ts.z fun ps z => codeO_ne ps z⟩
  let φ : Hp → List Addr → Prop := fun Z' m' => Z' c' = some (CodeO c' (X.env.qual ++ "<lambda>")) ∧ SgR P Z' m' σ τ
  have le : P.le (P.clo f φ) := ⟨rfl, rfl, rfl, .inr rfl, .inl he.2⟩
  have rc : codeAny (model X.prog X.w) X.A (.call (.ref (He.ga P.K x)) ⟨[.ref f], []⟩) (L2.CR (L2.CX X.prog X.w) X.stack X.prog X.w H1 s' Q (WE W τ)) s' := by
    refine run_ofS (N := Ng) (ps := [a]) (us := [.ref f]) (vs := [.ref f]) lk hcg Sg hr I1.env0 (hb s' [.ref f] I1.kIn rfl) (.cons rfl .nil) rfl fun hr' => ?_
    refine ⟨_, hG f φ (fun S => db C σ S) cdv s' H1 (WE W τ) (fun pn xe W' p1 p2 tk' => ?_) hr', Z1, m, F, S, startP Ng.length [.clo], sr2.le le, start_R (N := Ng) ⟨_, [], rfl, ⟨f, φ, Z1, m, rfl, rfl, Same.refl _, List.prefix_refl _, zc, sl.mono zz (List.prefix_refl _)⟩, rfl⟩, body_end (P := P) (P' := P.clo f φ) he rfl rfl rfl rfl (fun z => by cases z) zz q sr1⟩
    refine PE.weak (pe_actS (i := 0) (tb := fun E => tD P (WE0 E) C db) I1 L hf hfn hfr (hbind _ _ _ _ _) tk' hr' (fun E A outer s H hr2 => hbody E A outer s H f c' hr2) hNg hva hda hcd) fun σZ HZ Q' h => ?_
    obtain ⟨Z2, m2, F2, S2, σz, srz, slz, qz⟩ := h
    simp only [dAct] at qz
    cases ez : σz[0]? with
    | none => rw [ez] at qz; exact qz.elim
    | some o => cases o with
      | none => rw [ez] at qz; exact qz.elim
      | some v => cases v with
        | clo =>
          rw [ez] at qz
          obtain ⟨g, qz⟩ := okR_guard qz
          obtain ⟨u, e3, f', φ', Z0, m0, rfl, e4, hz0, hm0, hφ⟩ := slz.2 0 _ ez
          cases e4
          have code := srz.zh _ _ (hz0 _ _ hφ.1)
          have srd : SR P Z2 m2 F2 S2 HZ := SR.cutLow (P := P) (P' := P.clo f φ) rfl rfl rfl srz g
          refine ⟨e3, code, Z2, m2, F2, S2, σ, srd, hφ.2.mono hz0 hm0, ?_⟩
          have qz : okE (P.clo f φ) Z2 m2 F2 (db C σ S2) Q' (fun cls dd H' => W' cls dd σZ H') := qz
          cases er : db C σ S2 with
          | ok v S3 => rw [er] at qz; exact fun Z3 m3 u H3 hz hm sr rv => qz Z3 m3 u H3 hz hm (sr.le le) (VR.le le _ _ rv)
          | exc c fs S3 => rw [er] at qz; exact fun Z3 m3 cls d H3 hz hm sr rv => qz Z3 m3 cls d H3 hz hm (sr.le le) rv
          | bad => rw [er] at qz; exact qz.elim
        | _ => rw [ez] at qz; exact qz.elim
  refine wpAny_call (codeAny_mono rc fun r s2 hq => ?_)
  match r, hq with
  | .error e, hq => exact passAt tk τ pins H1 s' e s2 I1 hq
  | .ok (.ret u), hq => exact I1.after hq
end
end Ev

end
section
set_option Elab.async false
set_option linter.all false
set_option maxRecDepth 100000
set_option maxHeartbeats 1000000
namespace Ev
open PySem PySem.Spec PyProof.Rows L2 LamX
/-! ### the reading of a text -/
inductive GK where
  | fn | cls (init : SS) | exc | int (i : Int) | str (s : SS) | bi (b : BI) | ty (n : String) | isi | rng | enu | zip | rev | lam (d : Nat)
structure Ctx where
  N : List SS
  sc : List (SS × NameKind)
  G : List (SS × GK)
  calm : Bool
  lam : Option (SS × Nat)
  mt : List (Nat × Nat)
  cb : SS → Bool
  lms : Bool
def Ctx.isMt (c : Ctx) (p : Pos) : Bool := c.mt.contains (p.line, p.col)
def Ctx.loc (c : Ctx) (x : SS) : Bool := match c.sc.lookup x with
  | some .local => true
  | some .cell => true
  | some .free => true
  | _ => false
def Ctx.glob (c : Ctx) (x : SS) : Bool := decide (c.sc.lookup x = some .globalImplicit)
def ixOf (x : SS) : List SS → Option Nat
  | [] => none
  | y :: ys => if x = y then some 0 else (ixOf x ys).map (· + 1)
def Ctx.g (c : Ctx) (x : SS) : Option GK := if c.glob x then c.G.lookup x else none
/-- a name to be stored at -/
def Ctx.st (c : Ctx) (x : SS) : Option Nat := match c.sc.lookup x with
  | some .local => ixOf x c.N
  | some .cell => if c.cb x then ixOf x c.N else none
  | _ => none
def Ctx.lamc (c : Ctx) (scope : Scope) : Ctx := { c with sc := scope.names, cb := fun _ => false, lam := none, lms := false, calm := true }
structure Cmp where
  E : Ctx → Expr → Den
  T : Ctx → Expr → DenT
  S : Ctx → Stmt → DenS
def isCall : Expr → Bool
  | .Call _ _ _ _ => true
  | _ => false
def isCompE : Expr → Bool
  | .ListComp _ _ _ _ => true
  | .SetComp _ _ _ _ => true
  | .DictComp _ _ _ _ _ => true
  | _ => false
def isTup : Expr → Bool
  | .Tuple _ _ _ => true
  | _ => false
def isSetE : Expr → Bool
  | .Set _ _ _ => true
  | _ => false
def okNm (x : SS) : Bool := !(x == ("__debug__" : SS)) && !(x == ("__classdict__" : SS)) && !(x == ("__name__" : SS))
def cCst : Const → Den
  | .none => dCst .non
  | .bool b => dCst (.bl b)
  | .int i => dCst (.int i)
  | .str s => dCst (.str s)
  | _ => dBad
def cName (c : Ctx) (x : SS) : Den := if okNm x then (if c.loc x then (match ixOf x c.N with
    | some i => dVar i
    | none => dBad) else match c.g x with
      | some .fn => dCst (.gl x)
      | some (.cls _) => dCst (.gl x)
      | some .exc => dCst (.gl x)
      | some (.int i) => dCst (.int i)
      | some (.str s) => dCst (.str s)
      | some (.bi .int) => dCst (.ty "int")
      | some (.bi .tuple) => dCst (.ty "tuple")
      | some (.bi (.list _)) => dCst (.ty "list")
      | some (.ty n) => dCst (.ty n)
      | _ => dBad) else dBad
section
variable (E : Ctx → Expr → Den) (T : Ctx → Expr → DenT) (c : Ctx)
def cArgs : List Expr → DenL
  | [] => lNil
  | e :: es => if notStar e then lCons (E c e) (cArgs es) else fun _ _ _ => .bad
def cAnds : List Expr → Den
  | [] => dBad
  | [e] => E c e
  | e :: es => dAnd (E c e) (cAnds es)
def cOrs : List Expr → Den
  | [] => dBad
  | [e] => E c e
  | e :: es => dOr (E c e) (cOrs es)
def cAndT : List Expr → DenT
  | [] => tBad
  | [e] => T c e
  | e :: es => tAnd (T c e) (cAndT es)
def cOrT : List Expr → DenT
  | [] => tBad
  | [e] => T c e
  | e :: es => tOr (T c e) (cOrT es)
def cCmp (a : Expr) (ops : List PySem.CmpOp) (bs : List Expr) : DenT := match ops, bs with
  | [op], [b] => if behindInMarks op b then tBad else tCmp op (E c a) (E c b)
  | [op, op'], [b, b'] => if lastMarks [op, op'] [b, b'] then tBad else tChn op op' (E c a) (E c b) (E c b')
  | _, _ => tBad
def cPart : Option Expr → DenP
  | none => pNo
  | some e => pSome (E c e)
def cSub (a b : Expr) : Den := match b with
  | .Slice lo hi none _ => dSl (E c a) (cPart E c lo) (cPart E c hi)
  | .Slice _ _ _ _ => dBad
  | b => dIx (E c a) (E c b)
def cCallN (f : SS) (args : List Expr) (pos : Pos) : Den := match args with
  | [] => match c.lam with
    | some (a, i) => if decide (f = a) && c.loc f then dAct i else dBad
    | none => dBad
  | e :: es => if okNm f && (e :: es).all notStar then (if c.loc f then (match ixOf f c.N with
      | some i => if c.calm then dCallL i (cArgs E c (e :: es)) else dBad
      | none => dBad) else match c.g f with
        | some .fn => if c.calm then dCall f (cArgs E c (e :: es)) else dBad
        | some (.cls init) => if c.calm then dMk f init (c.isMt pos) (cArgs E c (e :: es)) else dBad
        | some (.bi (.list _)) => dBi (.list (c.isMt pos)) (cArgs E c (e :: es))
        | some (.bi b) => if c.calm || !b.hot then dBi b (cArgs E c (e :: es)) else dBad
        | some .isi => dIsi (cArgs E c (e :: es))
        | some (.lam _) => (match e, es with
          | .Lambda ⟨[], [], none, [], [], none, []⟩ body scope _, [] => if c.calm && (c.lms && lamSB ⟨.function, c.sc, false, false, []⟩ scope) then dLam f (E (c.lamc scope) body) else dBad
          | _, _ => dBad)
        | _ => dBad) else dBad
def mtOf (m : SS) : Option MT := if m = ("append" : SS) then some .append else if m = ("count" : SS) then some .count else if m = ("index" : SS) then some .index else none
def cMeth (a : Expr) (m : SS) (apos : Pos) (args : List Expr) (pos : Pos) : Den := match args with
  | [] => dBad
  | e :: es => match mtOf m with
    | some b => if (e :: es).all notStar && (decide ((e :: es).length < 30) && (!isCall a && (apos.endLine == pos.line))) then dMt b (E c a) (cArgs E c (e :: es)) else dBad
    | none => dBad
def cTg (c : Ctx) : Nat → Expr → Option Tg
  | 0, _ => none
  | n + 1, e => match e with
    | .Name x _ => (c.st x).map .nm
    | .Tuple es _ _ => (es.mapM (cTg c n)).map .tp
    | _ => none
def cRng (f : SS) (args : List Expr) : DenI := match args with
  | [a] => if notStar a then iRng1 (cArgs E c [a]) else fun _ _ _ => .bad
  | [a, b] => if notStar a && notStar b then iRng2 (cArgs E c [a, b]) else fun _ _ _ => .bad
  | _ => fun _ _ _ => .bad
def cRev (args : List Expr) : DenI := match args with
  | [.Call (.Name r _) [a] [] _] => if decide (r = ("range" : SS)) && (c.glob r && notStar a) then iRev1 (E c a) else fun _ _ _ => .bad
  | [.Call (.Name r _) [a, b] [] _] => if decide (r = ("range" : SS)) && (c.glob r && (notStar a && notStar b)) then iRev2 (E c a) (E c b) else fun _ _ _ => .bad
  | _ => fun _ _ _ => .bad
def cIter (tg iter : Expr) : DenI := match iter with
  | .Set _ _ _ => fun _ _ _ => .bad
  | .Call (.Name f p) args [] pos => match c.g f with
    | some .rng => cRng E c f args
    | some .enu => match args with
      | [a] => if isTup tg && notStar a then iEnum (cArgs E c [a]) else fun _ _ _ => .bad
      | _ => fun _ _ _ => .bad
    | some .zip => match args with
      | [a, b] => if isTup tg && (notStar a && notStar b) then iZip (cArgs E c [a, b]) else fun _ _ _ => .bad
      | _ => fun _ _ _ => .bad
    | some .rev => cRev E c args
    | _ => iAny (E c (.Call (.Name f p) args [] pos))
  | iter => iAny (E c iter)
def relN (names sc : List (SS × NameKind)) : List (SS × NameKind) := names.map fun (n, k) => if (k == .free && sc.lookup n == some .cell) then (n, .cell) else (n, k)
/-- the block's own names, with their places -/
def ownOf (N : List SS) : List (SS × NameKind) → List (SS × Nat)
  | [] => []
  | (x, k) :: r => match k with
    | .local => (match ixOf x N with
      | some i => (x, i) :: ownOf N r
      | none => ownOf N r)
    | .cell => (match ixOf x N with
      | some i => (x, i) :: ownOf N r
      | none => ownOf N r)
    | _ => ownOf N r
def Ctx.blk (c : Ctx) (scope : Scope) : Ctx := { c with sc := relN scope.names c.sc, cb := fun x => scope.names.lookup x == some .cell, lam := none, lms := false }
def cIfs (E : Ctx → Expr → DenT) (c : Ctx) : List Expr → DenT
  | [] => tYes
  | [e] => E c e
  | _ => tBad
def cComp (elt : Expr) (gens : List Comprehension) (scope : Scope) (pos : Pos) : Den := match gens with
  | [⟨tg, iter, ifs, 0⟩] => match cTg (c.blk scope) 5 tg with
    | some t => if c.calm && (blkC c.N ⟨.function, c.sc, false, false, []⟩ scope (ownOf c.N scope.names) && t.idx.all fun i => ((ownOf c.N scope.names).map (·.2)).contains i) then
        dComp (c.isMt pos) ((ownOf c.N scope.names).map (·.2)) t (cIter E c tg iter) (cIfs T (c.blk scope) ifs) (E (c.blk scope) elt) else dBad
    | none => dBad
  | _ => dBad
def stepE (e : Expr) : Den := match e with
  | .Constant v _ _ => cCst v
  | .Name x _ => cName c x
  | .BinOp a op b pos => if c.isMt pos then dBinM op (E c a) (E c b) else dBin op (E c a) (E c b)
  | .UnaryOp op a _ => (match op with
    | .Not => dNot (E c a)
    | op => dUn op (E c a))
  | .Compare a ops bs _ => dTst (cCmp E c a ops bs)
  | .BoolOp op es _ => (match op with
    | .And => cAnds E c es
    | .Or => cOrs E c es)
  | .IfExp t a b _ => dIte (T c t) (E c a) (E c b)
  | .Tuple es _ _ => dTup (cArgs E c es)
  | .List es pos => dLst (c.isMt pos) (cArgs E c es)
  | .Subscript a b _ => cSub E c a b
  | .Attribute a f _ => if isCall a then dBad else dFld f (E c a)
  | .Call f args kw pos => (match f, kw with
    | .Name x _, [] => cCallN E c x args pos
    | .Attribute a m apos, [] => cMeth E c a m apos args pos
    | _, _ => dBad)
  | .ListComp elt gens scope pos => cComp E T c elt gens scope pos
  | _ => dBad
def stepT (e : Expr) : DenT := match e with
  | .UnaryOp .Not a _ => Ev.tNot (T c a)
  | .BoolOp op es _ => (match op with
    | .And => cAndT T c es
    | .Or => cOrT T c es)
  | .Compare a ops bs _ => cCmp E c a ops bs
  | .IfExp _ _ _ _ => tBad
  | e => tVal (E c e)
end
end Ev

end
section
set_option Elab.async false
set_option linter.all false
set_option maxRecDepth 100000
set_option maxHeartbeats 2000000
namespace Ev
open PySem PySem.Spec PyProof.Rows L2 LamX
/-! ### what is known of a global name -/
def GOk (X : Cx) (P : Par) (C : Cfg) (k : Nat) (hot : Bool) (x : SS) : GK → Prop
  | .fn => C.kn x = true ∧ X.mg x = some (.ref (He.ga P.K x))
  | .cls init => X.mg x = some (.ref (He.ga P.K x)) ∧ (hot = true → P.base ∧ ∀ lam, MkA X P k x init (C.call lam init))
  | .exc => X.mg x = some (.ref (He.ga P.K x)) ∧ RaiseC P x
  | .int i => ∃ t, X.mg x = some (.int i t)
  | .str s => ∃ t, X.mg x = some (.str s t)
  | .bi b => X.mg x = none ∧ bootBuiltins x = some b.val
  | .ty n => X.mg x = none ∧ bootBuiltins x = some (.type n)
  | .isi => X.mg x = none ∧ bootBuiltins x = some (.builtin "isinstance")
  | .rng => x = "range" ∧ X.mg "range" = none
  | .enu => x = "enumerate" ∧ X.mg "enumerate" = none
  | .zip => x = "zip" ∧ X.mg "zip" = none
  | .rev => x = "reversed" ∧ X.mg "reversed" = none ∧ X.mg "range" = none
  | .lam _ => True
/-- a def that takes a lambda -/
def LamF (X : Cx) (P : Par) (C : Cfg) (k : Nat) (x : SS) : Prop :=
  ∃ (pg : Arguments) (bg : List Stmt) (sg : Scope) (fd : FuncData) (Ng : List SS) (a : SS) (cP Pt : Addr) (dsg : DenS), P.base ∧ X.mg x = some (.ref (He.ga P.K x)) ∧ L2.FunD X.K x x pg bg sg [] [] (He.ga P.K x) fd ∧ L2.Binds X.K fd [a] [] ∧ FnScope Ng [a] sg ∧ Ng[0]? = some a ∧ Vis sg a ∧ okNm a = true ∧
    TabB X.base X.mg cP Pt ∧ X.env.code = .ref cP ∧ (Pt, X.env.qual ++ "<lambda>") ∈ P.tabs ∧ (∀ p ∈ P.tabs, p.1 = Pt → p.2 = X.env.qual ++ "<lambda>") ∧ Room (k + 3) X.A ∧
    (∀ (f : Addr) (φ : Hp → List Addr → Prop) (lam : Store → Rs PV) (cdv : Value) (s : Shared) (H : Hp) (E : XK), ActOk (cxOf (L2.CX X.prog X.w) X.prog X.w X.K X.mg X.base Ng x sg (He.ga P.K x) cdv X.A X.stack s H E) (P.clo f φ) a 0 (C.lm lam) →
      Room (k + 2) (X.A.deeper (envOfC x sg s.heap.objs.size (He.ga P.K x) cdv)) → PSs (cxOf (L2.CX X.prog X.w) X.prog X.w X.K X.mg X.base Ng x sg (He.ga P.K x) cdv X.A X.stack s H E) bg (tS (P.clo f φ) (WE0 E) (C.lm lam) dsg)) ∧
    (∀ (lam : Store → Rs PV) (S : Store), C.call lam x [.clo] S = .bad ∨ C.call lam x [.clo] S = closeR false S (dsg (C.lm lam) (startP Ng.length [.clo]) S))
structure Good (X : Cx) (P : Par) (W : L2.WX) (C : Cfg) (c : Ctx) (k : Nat) : Prop where
  o : CxOk X P W C
  tk : Takes X W
  N : X.N = c.N
  sc : X.env.scope.names = c.sc
  kd : X.env.scope.kind = .function
  calm : c.calm = true → X.calm = true
  call : c.calm = true → CallOk X P C k
  ea : c.calm = true → P.ea = none
  isi : ∀ a d, P.ea = some (a, d) → CallR X (.builtin "isinstance") (rIsE X.K (He.ga P.K d) a)
  G : ∀ x g, c.G.lookup x = some g → GOk X P C k c.calm x g
  act : ∀ a i, c.lam = some (a, i) → ActOk X P a i C
  cb : ∀ x, c.sc.lookup x = some .cell → c.cb x = true → X.fn x = true
  lmf : c.lms = true → ∀ x d, c.G.lookup x = some (.lam d) → LamF X P C k x
def SndE (E : Ctx → Expr → Den) : Prop := ∀ X P W C c k, Good X P W C c k → ∀ e, PE X e (tD P W C (E c e))
def SndT (T : Ctx → Expr → DenT) : Prop := ∀ X P W C c k, Good X P W C c k → ∀ e, PT X e (tT P W C (T c e))
section
variable {X : Cx} {P : Par} {W : L2.WX} {C : Cfg} {c : Ctx} {k : Nat} {E : Ctx → Expr → Den} {T : Ctx → Expr → DenT}
theorem ixOf_get : ∀ {N : List SS} {x : SS} {i : Nat}, ixOf x N = some i → N[i]? = some x
  | [], _, _, h => by cases h
  | y :: ys, x, i, h => by
    unfold ixOf at h
    split at h
    · rename_i e; cases h; simp [e]
    · obtain ⟨j, e, rfl⟩ := Option.map_eq_some_iff.mp h
      simpa using ixOf_get e
theorem Good.vis (g : Good X P W C c k) {x : SS} (h : c.loc x = true) : Vis X.env.scope x := by
  unfold Ctx.loc at h
  unfold Vis
  rw [g.sc]
  split at h
  · left; assumption
  · right; left; assumption
  · right; right; assumption
  · cases h
theorem Good.gl (g : Good X P W C c k) {x : SS} (h : c.glob x = true) : Gl X x := by
  show X.env.scope.names.lookup x = _
  rw [g.sc]
  exact of_decide_eq_true h
theorem Good.gg (g : Good X P W C c k) {x : SS} {v : GK} (h : c.g x = some v) : Gl X x ∧ GOk X P C k c.calm x v := by
  unfold Ctx.g at h
  split at h
  · rename_i e; exact ⟨g.gl e, g.G x v h⟩
  · cases h
theorem okNm_d {x : SS} (h : okNm x = true) : (x == ("__debug__" : SS)) = false ∧ (x == ("__classdict__" : SS)) = false ∧ x ≠ "__name__" := by
  unfold okNm at h
  simp only [Bool.and_eq_true, Bool.not_eq_true'] at h
  exact ⟨h.1.1, h.1.2, fun e => by have := h.2; rw [e] at this; simp at this⟩
theorem ty_nm {x : SS} {n : String} {pos : Pos} (hg : Gl X x) (hm : X.mg x = none) (hv : bootBuiltins x = some (.type n)) (hn : okNm x = true) : PE X (.Name x pos) (tD P W C (dCst (.ty n))) :=
  PE.weak (pe_bltn (v := .ty n) hg hm hv rfl (okNm_d hn).2.2 (okNm_d hn).1) fun τ H Q ⟨Z, m, F, S, σ, sr, sl, q⟩ => okE.ret q sr rfl
theorem snd_name (g : Good X P W C c k) {x : SS} {pos : Pos} : PE X (.Name x pos) (tD P W C (cName c x)) := by
  unfold cName
  by_cases hn : okNm x = true
  case neg => rw [if_neg hn]; exact e_bad
  rw [if_pos hn]
  have hd := okNm_d hn
  by_cases hl : c.loc x = true
  · rw [if_pos hl]
    cases hi : ixOf x c.N with
    | none => exact e_bad
    | some i => exact e_var (by rw [g.N]; exact ixOf_get hi) (g.vis hl) hd.1 hd.2.1
  · rw [if_neg hl]
    cases hg : c.g x with
    | none => exact e_bad
    | some v =>
      obtain ⟨hgl, ok⟩ := g.gg hg
      cases v with
      | fn => exact e_gl g.o hgl ok.2 hd.1
      | cls init => exact e_gl g.o hgl ok.1 hd.1
      | exc => exact e_gl g.o hgl ok.1 hd.1
      | int i => obtain ⟨t, e⟩ := ok; exact e_gint hgl e hd.1
      | str i => obtain ⟨t, e⟩ := ok; exact e_gstr hgl e hd.1
      | bi b => cases b <;> first | exact ty_nm hgl ok.1 ok.2 hn | exact e_bad
      | ty n => exact ty_nm hgl ok.1 ok.2 hn
      | _ => exact e_bad
theorem snd_cst {v : Const} {j : Nat} {pos : Pos} : PE X (.Constant v j pos) (tD P W C (cCst v)) := by
  cases v with
  | none => exact e_cst_none
  | bool b => exact e_cst_bool
  | int i => exact e_cst_int
  | str s => exact e_cst_str
  | _ => exact e_bad
theorem snd_args (g : Good X P W C c k) (hE : SndE E) : ∀ es : List Expr, PA X es (tA P W C (cArgs E c es))
  | [] => a_nil
  | e :: es => by
    unfold cArgs
    by_cases h : notStar e = true
    · rw [if_pos h]; exact a_cons h (hE X P W C c k g e) (snd_args g hE es)
    · rw [if_neg h]; exact a_bad
theorem snd_ands (g : Good X P W C c k) (hE : SndE E) {pos : Pos} : ∀ es : List Expr, PE X (.BoolOp .And es pos) (tD P W C (cAnds E c es))
  | [] => e_bad
  | [e] => e_and1 (hE X P W C c k g e)
  | e :: e' :: es => e_and (hE X P W C c k g e) (snd_ands g hE (e' :: es))
theorem snd_ors (g : Good X P W C c k) (hE : SndE E) {pos : Pos} : ∀ es : List Expr, PE X (.BoolOp .Or es pos) (tD P W C (cOrs E c es))
  | [] => e_bad
  | [e] => e_and1 (hE X P W C c k g e)
  | e :: e' :: es => e_or (hE X P W C c k g e) (snd_ors g hE (e' :: es))
theorem snd_andT (g : Good X P W C c k) (hT : SndT T) {pos : Pos} : ∀ es : List Expr, PW X (.BoolOp .And es pos) (tT P W C (cAndT T c es))
  | [] => w_bad
  | [e] => t_and1 (hT X P W C c k g e)
  | e :: e' :: es => t_and (hT X P W C c k g e) (snd_andT g hT (e' :: es))
theorem snd_orT (g : Good X P W C c k) (hT : SndT T) {pos : Pos} : ∀ es : List Expr, PW X (.BoolOp .Or es pos) (tT P W C (cOrT T c es))
  | [] => w_bad
  | [e] => t_or1 (hT X P W C c k g e)
  | e :: e' :: es => t_or (hT X P W C c k g e) (snd_orT g hT (e' :: es))
theorem dTst_bad {e : Expr} : PE X e (tD P W C (dTst tBad)) := ⟨fun _ _ _ _ _ _ ⟨_, _, _, _, _, _, _, q⟩ => q.elim⟩
theorem snd_cmp (g : Good X P W C c k) (hE : SndE E) {a : Expr} {ops : List CmpOp} {bs : List Expr} {pos : Pos} : PE X (.Compare a ops bs pos) (tD P W C (dTst (cCmp E c a ops bs))) ∧ PT X (.Compare a ops bs pos) (tT P W C (cCmp E c a ops bs)) := by
  unfold cCmp
  split
  · rename_i op b
    by_cases h : behindInMarks op b = true
    · rw [if_pos h]; exact ⟨dTst_bad, t_bad⟩
    · rw [if_neg h]
      have h := Bool.not_eq_true _ ▸ h
      exact ⟨e_cmp g.o (hE X P W C c k g a) (hE X P W C c k g b) h, t_cmp g.o (hE X P W C c k g a) (hE X P W C c k g b) h⟩
  · rename_i op op' b b'
    by_cases h : lastMarks [op, op'] [b, b'] = true
    · rw [if_pos h]; exact ⟨dTst_bad, t_bad⟩
    · rw [if_neg h]
      have h := Bool.not_eq_true _ ▸ h
      exact ⟨e_chn g.o (hE X P W C c k g a) (hE X P W C c k g b) (hE X P W C c k g b') h, t_chn g.o (hE X P W C c k g a) (hE X P W C c k g b) (hE X P W C c k g b') h⟩
  · exact ⟨dTst_bad, t_bad⟩
theorem snd_part (g : Good X P W C c k) (hE : SndE E) : ∀ o : Option Expr, PO X o (tP P W C (cPart E c o))
  | none => p_no
  | some e => p_some (hE X P W C c k g e)
theorem snd_sub (g : Good X P W C c k) (hE : SndE E) {a b : Expr} {pos : Pos} : PE X (.Subscript a b pos) (tD P W C (cSub E c a b)) := by
  have ha := hE X P W C c k g a
  have hb := hE X P W C c k g b
  cases b with
  | Slice lo hi st p =>
    cases st with
    | none => exact e_sl g.o ha (snd_part g hE lo) (snd_part g hE hi)
    | some _ => exact e_bad
  | _ => exact e_ix g.o ha hb (fun _ _ => rfl)
theorem snd_meth (g : Good X P W C c k) (hE : SndE E) {a : Expr} {m : SS} {apos pos : Pos} {args : List Expr} : PE X (.Call (.Attribute a m apos) args [] pos) (tD P W C (cMeth E c a m apos args pos)) := by
  unfold cMeth
  cases args with
  | nil => exact e_bad
  | cons e es =>
    simp only
    cases hm : mtOf m with
    | none => exact e_bad
    | some b =>
      simp only
      by_cases h : ((e :: es).all notStar && (decide ((e :: es).length < 30) && (!isCall a && (apos.endLine == pos.line)))) = true
      · rw [if_pos h]
        simp only [Bool.and_eq_true, decide_eq_true_eq, Bool.not_eq_true'] at h
        obtain ⟨h1, h2, h3, h4⟩ := h
        have hb : m = b.name := by
          unfold mtOf at hm
          split at hm
          · rename_i q; cases hm; exact q
          · split at hm
            · rename_i q; cases hm; exact q
            · split at hm
              · rename_i q; cases hm; exact q
              · cases hm
        subst hb
        exact e_mt g.o (hE X P W C c k g a) (snd_args g hE (e :: es)) h1 h2 (by cases a <;> first | rfl | (cases h3; done)) h4
      · rw [if_neg h]; exact e_bad
end
end Ev

end
section
set_option Elab.async false
set_option linter.all false
set_option maxRecDepth 100000
set_option maxHeartbeats 2000000
namespace Ev
open PySem PySem.Spec PyProof.Rows L2 LamX
section
variable {X : Cx} {P : Par} {W : L2.WX} {C : Cfg} {c : Ctx} {k : Nat} {E : Ctx → Expr → Den} {T : Ctx → Expr → DenT}
theorem lamSB_sc {sc sc' : Scope} {scope : Scope} (h : sc.names = sc'.names) (q : lamSB sc scope = true) : lamSB sc' scope = true := by
  unfold lamSB at q ⊢
  rw [← h]
  exact q
theorem Good.lamc (g : Good X P W C c k) (hb : P.base) {scope : Scope} (L : LamS X.env.scope scope) {A : Around} {outer : List Env} {s : Shared} {H : Hp} {E : XK} {f c' : Addr} (hr : Room (k + 1) (A.deeper (lamEnv X scope s.heap.objs.size f c'))) (hc : CallOk X P C k) (hcm : c.calm = true) : Good (lamCx X A outer s H E scope f c') P (WE0 E) C (c.lamc scope) k where
  o := ⟨g.o.hK, g.o.pk, by have := hr.un; show (A.deeper _).units + 100 < _; omega, g.o.nd, g.o.fl, g.o.sb⟩
  tk := takes_of rfl rfl rfl rfl
  N := g.N
  sc := rfl
  kd := L.kind
  calm := fun _ => rfl
  call := fun _ => ⟨hr, hc.fns⟩
  ea := fun _ => hb.1
  isi := fun a d e => by rw [hb.1] at e; cases e
  G := fun x v h => by
    have := g.G x v h
    rw [hcm] at this
    cases v <;> exact this
  act := fun a i e => by cases e
  cb := fun x h e => by cases e
  lmf := fun e => by cases e
theorem snd_callN (g : Good X P W C c k) (hE : SndE E) {f : SS} {args : List Expr} {p pos : Pos} : PE X (.Call (.Name f p) args [] pos) (tD P W C (cCallN E c f args pos)) := by
  unfold cCallN
  cases args with
  | nil =>
    simp only
    cases hl : c.lam with
    | none => exact e_bad
    | some ai =>
      obtain ⟨a, i⟩ := ai
      simp only
      by_cases h : (decide (f = a) && c.loc f) = true
      · rw [if_pos h]
        obtain ⟨h1, h2⟩ := Bool.and_eq_true_iff.mp h
        have e := of_decide_eq_true h1
        subst e
        exact g.act _ _ hl X.pn X.xe W p pos g.tk
      · rw [if_neg h]; exact e_bad
  | cons e es =>
    simp only
    by_cases h : (okNm f && (e :: es).all notStar) = true
    case neg => rw [if_neg h]; exact e_bad
    rw [if_pos h]
    obtain ⟨hn, hs⟩ := Bool.and_eq_true_iff.mp h
    have hd := okNm_d hn
    have ha := snd_args g hE (e :: es)
    by_cases hl : c.loc f = true
    · rw [if_pos hl]
      cases hi : ixOf f c.N with
      | none => exact e_bad
      | some i =>
        simp only
        by_cases hc : c.calm = true
        · rw [if_pos hc]; exact e_callL (g.call hc) g.tk (by rw [g.N]; exact ixOf_get hi) (g.vis hl) hd.1 hd.2.1 hs ha
        · rw [if_neg hc]; exact e_bad
    · rw [if_neg hl]
      cases hg : c.g f with
      | none => exact e_bad
      | some v =>
        obtain ⟨hgl, ok⟩ := g.gg hg
        have bi : ∀ b : BI, (b.hot = true → X.calm = true) → X.mg f = none ∧ bootBuiltins f = some b.val → PE X (.Call (.Name f p) (e :: es) [] pos) (tD P W C (dBi b (cArgs E c (e :: es)))) := fun b hot ok => e_bi g.o hot hgl ok.1 ok.2 hs ha hd.2.2 hd.1
        have hot : ∀ b : BI, (c.calm || !b.hot) = true → (b.hot = true → X.calm = true) := fun b h hb => by
          rw [hb] at h
          exact g.calm (by simpa using h)
        cases v with
        | fn =>
          simp only
          by_cases hc : c.calm = true
          · rw [if_pos hc]; exact e_call (g.call hc) ok.1 g.tk hgl ok.2 hd.1 hs ha
          · rw [if_neg hc]; exact e_bad
        | cls init =>
          simp only
          by_cases hc : c.calm = true
          · rw [if_pos hc]; exact e_mk g.o (ok.2 hc).1 (g.call hc).rm ((ok.2 hc).2 C.lam) g.tk hgl ok.1 hd.1 hs ha
          · rw [if_neg hc]; exact e_bad
        | bi b =>
          cases b with
          | list mt => exact bi (.list _) (fun z => by cases z) ok
          | len => simp only; by_cases hc : (c.calm || !BI.len.hot) = true; (rw [if_pos hc]; exact bi _ (hot _ hc) ok); (rw [if_neg hc]; exact e_bad)
          | all => simp only; by_cases hc : (c.calm || !BI.all.hot) = true; (rw [if_pos hc]; exact bi _ (hot _ hc) ok); (rw [if_neg hc]; exact e_bad)
          | any => simp only; by_cases hc : (c.calm || !BI.any.hot) = true; (rw [if_pos hc]; exact bi _ (hot _ hc) ok); (rw [if_neg hc]; exact e_bad)
          | sum => simp only; by_cases hc : (c.calm || !BI.sum.hot) = true; (rw [if_pos hc]; exact bi _ (hot _ hc) ok); (rw [if_neg hc]; exact e_bad)
          | abs => simp only; by_cases hc : (c.calm || !BI.abs.hot) = true; (rw [if_pos hc]; exact bi _ (hot _ hc) ok); (rw [if_neg hc]; exact e_bad)
          | int => simp only; by_cases hc : (c.calm || !BI.int.hot) = true; (rw [if_pos hc]; exact bi _ (hot _ hc) ok); (rw [if_neg hc]; exact e_bad)
          | tuple => simp only; by_cases hc : (c.calm || !BI.tuple.hot) = true; (rw [if_pos hc]; exact bi _ (hot _ hc) ok); (rw [if_neg hc]; exact e_bad)
          | min => simp only; by_cases hc : (c.calm || !BI.min.hot) = true; (rw [if_pos hc]; exact bi _ (hot _ hc) ok); (rw [if_neg hc]; exact e_bad)
          | max => simp only; by_cases hc : (c.calm || !BI.max.hot) = true; (rw [if_pos hc]; exact bi _ (hot _ hc) ok); (rw [if_neg hc]; exact e_bad)
        | isi =>
          have hs' := hs
          rw [List.all_cons, Bool.and_eq_true] at hs'
          exact PE.weak (pe_callB (cr_isi g.o.hK g.o.pk g.o.fl g.o.sb g.isi) hgl ok.1 ok.2 ha hd.2.2 hd.1 (star_cons hs'.1) (star_any hs'.2)) fun τ H Q ⟨Z, m, F, S, σ, sr, sl, q⟩ =>
            ⟨Z, m, F, S, σ, sr, sl, bnd1 q fun us H1 Z1 m1 S1 xs z1 p1 sr1 r1 q1 => ⟨Z1, m1, F, S1, xs, _, sr1, r1, q1⟩⟩
        | lam d =>
          simp only
          split
          · rename_i body scope lp
            by_cases hc : (c.calm && (c.lms && lamSB ⟨.function, c.sc, false, false, []⟩ scope)) = true
            · rw [if_pos hc]
              obtain ⟨hc3, hc4⟩ := Bool.and_eq_true_iff.mp hc
              obtain ⟨hc1, hc2⟩ := Bool.and_eq_true_iff.mp hc4
              have L : LamS X.env.scope scope := lamS_by (lamSB_sc (by rw [g.sc]) hc2)
              have hk : c.G.lookup f = some (.lam d) := by
                unfold Ctx.g at hg
                split at hg
                · exact hg
                · cases hg
              obtain ⟨pg, bg, sg, fd, Ng, a, cP, Pt, dsg, hb, hm, Fd, hbi, Sg, hNg, hva, hda, TB, hcode, hmT, hu, hr, hG, hcall⟩ := g.lmf hc1 f d hk
              have hc0 : CallOk X P C k := g.call hc3
              exact e_lam (k := k + 1) hb g.o.hK hgl hm hd.1 Fd hbi Sg hNg hva (okNm_d hda).1 (okNm_d hda).2.1 TB hcode hmT hu hr L rfl (fun _ _ _ _ _ => rfl) g.tk (fun E' A outer s H f' c' hr' => hE _ _ _ _ _ _ (g.lamc hb L hr' hc0 hc3) _) hG hcall
            · rw [if_neg hc]; exact e_bad
          · exact e_bad
        | _ => exact e_bad
theorem tI_bad {tg iter : Expr} : PI X tg iter (tI P W C fun _ _ _ => .bad) := ⟨fun _ _ _ _ _ _ ⟨_, _, _, _, _, _, _, q⟩ => q.elim⟩
theorem star1 {a : Expr} {env : Env} (h : notStar a = true) : starEach [a] env = [(false, eval a env)] := star_cons h
theorem star2 {a b : Expr} {env : Env} (h : notStar a = true) (h' : notStar b = true) : starEach [a, b] env = [(false, eval a env), (false, eval b env)] := by rw [star_cons h, star1 h']
theorem snd_iter (g : Good X P W C c k) (hE : SndE E) (tg iter : Expr) : PI X tg iter (tI P W C (cIter E c tg iter)) ∧ ∀ x, foldedSetIterable iter X.env x = pure x ∨ cIter E c tg iter = fun _ _ _ => .bad := by
  have any : ∀ e, PI X tg e (tI P W C (iAny (E c e))) := fun e => i_any g.o.hK (hE X P W C c k g e)
  cases iter with
  | Set a b d => exact ⟨tI_bad, fun x => .inr rfl⟩
  | Call fn args kw pos =>
    refine ⟨?_, fun x => .inl rfl⟩
    cases fn with
    | Name f p =>
      cases kw with
      | cons _ _ => exact any _
      | nil =>
        show PI X tg _ (tI P W C (match c.g f with
          | some .rng => cRng E c f args
          | some .enu => match args with
            | [a] => if isTup tg && notStar a then iEnum (cArgs E c [a]) else fun _ _ _ => .bad
            | _ => fun _ _ _ => .bad
          | some .zip => match args with
            | [a, b] => if isTup tg && (notStar a && notStar b) then iZip (cArgs E c [a, b]) else fun _ _ _ => .bad
            | _ => fun _ _ _ => .bad
          | some .rev => cRev E c args
          | _ => iAny (E c (.Call (.Name f p) args [] pos))))
        cases hg : c.g f with
        | none => exact any _
        | some v =>
          obtain ⟨hgl, ok⟩ := g.gg hg
          cases v with
          | rng =>
            obtain ⟨rfl, hm⟩ := ok
            simp only [cRng]
            split
            · rename_i a
              by_cases h : notStar a = true
              · rw [if_pos h]; exact i_rng1 hgl hm (snd_args g hE [a]) (star1 h)
              · rw [if_neg h]; exact tI_bad
            · rename_i a b
              by_cases h : (notStar a && notStar b) = true
              · rw [if_pos h]
                obtain ⟨h1, h2⟩ := Bool.and_eq_true_iff.mp h
                exact i_rng2 hgl hm (snd_args g hE [a, b]) (star2 h1 h2) (star1 h2)
              · rw [if_neg h]; exact tI_bad
            · exact tI_bad
          | enu =>
            obtain ⟨rfl, hm⟩ := ok
            simp only
            split
            · rename_i a
              by_cases h : (isTup tg && notStar a) = true
              · rw [if_pos h]
                obtain ⟨h1, h2⟩ := Bool.and_eq_true_iff.mp h
                cases tg with
                | Tuple es kk tp => exact i_enum g.o.hK hgl hm (snd_args g hE [a]) (star1 h2)
                | _ => cases h1
              · rw [if_neg h]; exact tI_bad
            · exact tI_bad
          | zip =>
            obtain ⟨rfl, hm⟩ := ok
            simp only
            split
            · rename_i a b
              by_cases h : (isTup tg && (notStar a && notStar b)) = true
              · rw [if_pos h]
                obtain ⟨h1, h2⟩ := Bool.and_eq_true_iff.mp h
                obtain ⟨h2, h3⟩ := Bool.and_eq_true_iff.mp h2
                cases tg with
                | Tuple es kk tp => exact i_zip g.o.hK hgl hm (snd_args g hE [a, b]) (star_cons h2) (by rw [star1 h3]; rfl)
                | _ => cases h1
              · rw [if_neg h]; exact tI_bad
            · exact tI_bad
          | rev =>
            obtain ⟨rfl, hm, hm2⟩ := ok
            simp only [cRev]
            split
            · rename_i r p2 a pos2
              by_cases h : (decide (r = ("range" : SS)) && (c.glob r && notStar a)) = true
              · rw [if_pos h]
                obtain ⟨h1, h2⟩ := Bool.and_eq_true_iff.mp h
                obtain ⟨h2, h3⟩ := Bool.and_eq_true_iff.mp h2
                have e := of_decide_eq_true h1
                subst e
                exact i_rev1 hgl hm (g.gl h2) hm2 (hE X P W C c k g a) (star_cons h3)
              · rw [if_neg h]; exact tI_bad
            · rename_i r p2 a b pos2
              by_cases h : (decide (r = ("range" : SS)) && (c.glob r && (notStar a && notStar b))) = true
              · rw [if_pos h]
                obtain ⟨h1, h2⟩ := Bool.and_eq_true_iff.mp h
                obtain ⟨h2, h3⟩ := Bool.and_eq_true_iff.mp h2
                obtain ⟨h3, h4⟩ := Bool.and_eq_true_iff.mp h3
                have e := of_decide_eq_true h1
                subst e
                exact i_rev2 hgl hm (g.gl h2) hm2 (hE X P W C c k g a) (hE X P W C c k g b) (star_cons h3) (star_cons h4) (by rw [star1 h4]; rfl)
              · rw [if_neg h]; exact tI_bad
            · exact tI_bad
          | _ => exact any _
    | _ => exact any _
  | _ => exact ⟨any _, fun x => .inl rfl⟩
theorem ownOf_ix : ∀ {names : List (SS × NameKind)} {N : List SS}, ∀ p ∈ ownOf N names, N[p.2]? = some p.1
  | [], N, p, h => by cases h
  | (x, kd) :: r, N, p, h => by
    have ih := @ownOf_ix r N p
    unfold ownOf at h
    cases kd <;> simp only at h <;> first | exact ih h | skip
    all_goals
      cases e : ixOf x N with
      | none => rw [e] at h; exact ih h
      | some i =>
        rw [e] at h
        rcases List.mem_cons.mp h with q | q
        · rw [q]; exact ixOf_get e
        · exact ih q
theorem Good.st (g : Good X P W C c k) {x : SS} {i : Nat} (h : c.st x = some i) : X.N[i]? = some x ∧ L2.Loc X.env.scope x ∧ (X.fn x = true ∨ X.env.scope.names.lookup x = some .local) := by
  unfold Ctx.st at h
  unfold L2.Loc
  rw [g.sc, g.N]
  split at h
  · rename_i e; exact ⟨ixOf_get h, .inl e, .inr e⟩
  · rename_i e
    split at h
    · rename_i q; exact ⟨ixOf_get h, .inr e, .inl (g.cb x e q)⟩
    · cases h
  · cases h
theorem snd_tg (g : Good X P W C c k) (hc : X.calm = true) : ∀ (n : Nat) (e : Expr) (t : Tg), cTg c n e = some t → PG X e (gR P t) ∧ (∀ es, (assignEach (e :: es) X.env).map (·.2) = assign e X.env :: (assignEach es X.env).map (·.2)) ∧ (∀ es, assignEach (e :: es) X.env = (false, assign e X.env) :: assignEach es X.env)
  | 0, _, _, h => by cases h
  | n + 1, e, t, h => by
    cases e with
    | Name x p =>
      obtain ⟨i, e1, rfl⟩ := Option.map_eq_some_iff.mp h
      obtain ⟨h1, h2, h3⟩ := g.st e1
      exact ⟨g_nm g.o.nd h1 h2 h3, fun _ => rfl, fun _ => rfl⟩
    | Tuple es kk p =>
      obtain ⟨ts, e1, rfl⟩ := Option.map_eq_some_iff.mp h
      have pr := mapM_R e1
      have many : ∀ {es : List Expr} {ts : List Tg}, Paired (fun x y => cTg c n x = some y) es ts → PGs X es (gsR P ts) ∧ (assignEach es X.env).length = ts.length ∧ (assignEach es X.env).findIdx? (·.1) = none := by
        intro es ts pr
        induction pr with
        | nil => exact ⟨gs_nil, rfl, rfl⟩
        | cons hh pr ih =>
          obtain ⟨q1, q2, q3⟩ := snd_tg g hc n _ _ hh
          refine ⟨gs_cons q1 ih.1 (q2 _), by rw [q3]; simp [ih.2.1], by rw [q3, List.findIdx?_cons]; simp [ih.2.2]⟩
      obtain ⟨m1, m2, m3⟩ := many pr
      exact ⟨g_tp g.o.hK hc m1 m2 m3, fun _ => rfl, fun _ => rfl⟩
    | _ => cases h
theorem relN_relS {scope : Scope} {env : Env} (hk : env.scope.kind = .function) : (relabel scope env).names = relN scope.names env.scope.names := by
  show scope.names.map _ = scope.names.map _
  congr 1
  funext ⟨n, kd⟩
  simp only [hk]
  show (if (kd == NameKind.free && (ScopeKind.function == ScopeKind.function) && env.scope.names.lookup n == some .cell) = true then _ else _) = _
  have e : (ScopeKind.function == ScopeKind.function) = true := rfl
  rw [e, Bool.and_true]
theorem Good.blk (g : Good X P W C c k) (hcalm : c.calm = true) {scope : Scope} (hk : scope.kind = .function) {s : Shared} {H : Hp} {C0 : Addr} {cl : List (SS × Addr)} {fp : List Addr} : Good (X.blk s H scope (compEnvC scope cl C0 X.env) fp) P WF C (c.blk scope) k where
  o := ⟨g.o.hK, g.o.pk, g.o.un, g.o.nd, g.o.fl, g.o.sb⟩
  tk := fun _ _ x => by
    obtain ⟨_, _, _, _, _, _, _, _, _, _, _, _, _, _, _, _, z⟩ := x
    exact z.elim
  N := g.N
  sc := by
    show (relabel scope X.env).names = relN scope.names c.sc
    rw [relN_relS g.kd, g.sc]
  kd := hk
  calm := fun _ => g.calm hcalm
  call := fun _ => ⟨(g.call hcalm).rm, (g.call hcalm).fns⟩
  ea := fun _ => g.ea hcalm
  isi := fun a d e => by rw [g.ea hcalm] at e; cases e
  G := fun x v h => by
    have := g.G x v h
    cases v <;> exact this
  act := fun a i e => by cases e
  cb := fun x h e => e
  lmf := fun e => by cases e
theorem snd_comp (g : Good X P W C c k) (hE : SndE E) (hT : SndT T) {elt : Expr} {gens : List Comprehension} {scope : Scope} {pos : Pos} : PE X (.ListComp elt gens scope pos) (tD P W C (cComp E T c elt gens scope pos)) ∧
    (∀ {i : Nat} {y : SS} {py spos : Pos}, X.N[i]? = some y → X.env.scope.names.lookup y = some .local → swapsWith (.ListComp elt gens scope pos) (some (.Name y py)) spos.line X.env = pure true → PS X (.Assign [.Name y py] (.ListComp elt gens scope pos) spos) (tS P W C (sSet (.nm i) (cComp E T c elt gens scope pos)))) := by
  have sbad : ∀ {i : Nat} {y : SS} {py spos : Pos}, PS X (.Assign [.Name y py] (.ListComp elt gens scope pos) spos) (tS P W C (sSet (.nm i) dBad)) := ⟨fun _ _ _ _ _ _ ⟨_, _, _, _, _, _, _, q⟩ => q.elim⟩
  unfold cComp
  split
  case h_2 => exact ⟨e_bad, fun _ _ _ => sbad⟩
  rename_i tg iter ifs
  cases ht : cTg (c.blk scope) 5 tg with
  | none => exact ⟨e_bad, fun _ _ _ => sbad⟩
  | some t =>
    simp only
    by_cases h : (c.calm && (blkC c.N ⟨.function, c.sc, false, false, []⟩ scope (ownOf c.N scope.names) && t.idx.all fun i => ((ownOf c.N scope.names).map (·.2)).contains i)) = true
    case neg => rw [if_neg h]; exact ⟨e_bad, fun _ _ _ => sbad⟩
    rw [if_pos h]
    obtain ⟨h1, h2⟩ := Bool.and_eq_true_iff.mp h
    obtain ⟨h2, h3⟩ := Bool.and_eq_true_iff.mp h2
    have bo : BlkOk X.N X.env.scope scope (ownOf c.N scope.names) := by
      have b := blkOk_by h2
      have e : X.env.scope.names = c.sc := g.sc
      exact ⟨b.kind, b.uniq, fun p hp => by rw [g.N]; exact b.ix p hp, fun y hy e2 => by rw [e]; exact b.free y hy e2, fun y hy e2 => by rw [g.N]; exact b.own y hy e2⟩
    have hti : ∀ i ∈ t.idx, i ∈ (ownOf c.N scope.names).map (·.2) := fun i hi => by simpa using List.all_eq_true.mp h3 i hi
    have hi := snd_iter g hE tg iter
    have hcal := g.calm h1
    have gg : ∀ s H C0 cl fp, PG (X.blk s H scope (compEnvC scope cl C0 X.env) fp) tg (gR P t) := fun s H C0 cl fp => (snd_tg (g.blk h1 bo.kind) hcal 5 tg t ht).1
    have gi : ∀ s H C0 cl fp, PTs (X.blk s H scope (compEnvC scope cl C0 X.env) fp) ifs (tT P WF C (cIfs T (c.blk scope) ifs)) := fun s H C0 cl fp => by
      match ifs with
      | [] =>
        refine ⟨fun pins s σ H Q I ⟨Z, m, F, S, σ', sr, sl, q⟩ => pts_nil.run pins s σ H Q I ?_⟩
        exact okB.ret (b := true) q sr
      | [e] => exact pts_one (hT _ _ _ _ _ _ (g.blk h1 bo.kind) e)
      | _ :: _ :: _ => exact ⟨fun _ _ _ _ _ _ ⟨_, _, _, _, _, _, _, q⟩ => q.elim⟩
    have ge : ∀ s H C0 cl fp, PE (X.blk s H scope (compEnvC scope cl C0 X.env) fp) elt (tD P WF C (E (c.blk scope) elt)) := fun s H C0 cl fp => hE _ _ _ _ _ _ (g.blk h1 bo.kind) elt
    by_cases hb : cIter E c tg iter = fun _ _ _ => .bad
    · have e0 : ∀ mt own tc de, dComp mt own t (cIter E c tg iter) tc de = dBad := fun mt own tc de => by rw [hb]; rfl
      rw [e0]
      exact ⟨e_bad, fun _ _ _ => sbad⟩
    · have hf : ∀ x, foldedSetIterable iter X.env x = pure x := fun x => (hi.2 x).resolve_right hb
      exact ⟨e_comp hcal g.o.nd hi.1 bo hti gg gi ge hf, fun hy hyl hsw => s_setComp hcal g.o.nd hy hyl hsw hi.1 bo hti gg gi ge hf⟩
theorem snd_stepE (hE : SndE E) (hT : SndT T) : SndE (stepE E T) := by
  intro X P W C c k g e
  cases e with
  | Constant v j pos => exact snd_cst
  | Name x pos => exact snd_name g
  | BinOp a op b pos =>
    show PE X _ (tD P W C (if c.isMt pos then dBinM op (E c a) (E c b) else dBin op (E c a) (E c b)))
    by_cases h : c.isMt pos = true
    · rw [if_pos h]; exact e_binM (hE X P W C c k g a) (hE X P W C c k g b)
    · rw [if_neg h]; exact e_bin g.o (hE X P W C c k g a) (hE X P W C c k g b)
  | UnaryOp op a pos =>
    cases op with
    | Not => exact e_not (hE X P W C c k g a)
    | _ => exact e_un (hE X P W C c k g a)
  | Compare a ops bs pos => exact (snd_cmp g hE).1
  | BoolOp op es pos =>
    cases op with
    | And => exact snd_ands g hE es
    | Or => exact snd_ors g hE es
  | IfExp t a b pos => exact e_ite (hT X P W C c k g t) (hE X P W C c k g a) (hE X P W C c k g b)
  | Tuple es kk pos => exact e_tup (snd_args g hE es)
  | List es pos => exact e_lst (snd_args g hE es)
  | Subscript a b pos => exact snd_sub g hE
  | Attribute a f pos =>
    show PE X _ (tD P W C (if isCall a then dBad else dFld f (E c a)))
    by_cases h : isCall a = true
    · rw [if_pos h]; exact e_bad
    · rw [if_neg h]
      exact e_fld g.o (hE X P W C c k g a) (by cases a <;> first | rfl | exact absurd rfl h)
  | Call f args kw pos =>
    cases f with
    | Name x p => cases kw with
      | nil => exact snd_callN g hE
      | cons _ _ => exact e_bad
    | Attribute a m ap => cases kw with
      | nil => exact snd_meth g hE
      | cons _ _ => exact e_bad
    | _ => exact e_bad
  | ListComp elt gens scope pos => exact (snd_comp g hE hT).1
  | _ => exact e_bad
theorem snd_stepT (hE : SndE E) (hT : SndT T) : SndT (stepT E T) := by
  intro X P W C c k g e
  cases e with
  | UnaryOp op a pos =>
    cases op with
    | Not => exact t_not (hT X P W C c k g a)
    | _ => exact t_val g.o.hK (hE X P W C c k g _) (fun _ => rfl)
  | BoolOp op es pos =>
    cases op with
    | And => exact (snd_andT g hT es).pt
    | Or => exact (snd_orT g hT es).pt
  | Compare a ops bs pos => exact (snd_cmp g hE).2
  | IfExp t a b pos => exact t_bad
  | _ => exact t_val g.o.hK (hE X P W C c k g _) (fun _ => rfl)
/-- the reading of expressions, to a depth -/
def cmp : Nat → (Ctx → Expr → Den) × (Ctx → Expr → DenT)
  | 0 => (fun _ _ => dBad, fun _ _ => tBad)
  | n + 1 => (stepE (cmp n).1 (cmp n).2, stepT (cmp n).1 (cmp n).2)
theorem snd_ex : ∀ n, SndE (cmp n).1 ∧ SndT (cmp n).2
  | 0 => ⟨fun _ _ _ _ _ _ _ _ => e_bad, fun _ _ _ _ _ _ _ _ => t_bad⟩
  | n + 1 => ⟨snd_stepE (snd_ex n).1 (snd_ex n).2, snd_stepT (snd_ex n).1 (snd_ex n).2⟩
end
end Ev

end
section
set_option Elab.async false
set_option linter.all false
set_option maxRecDepth 100000
set_option maxHeartbeats 2000000
namespace Ev
open PySem PySem.Spec PyProof.Rows L2 LamX
/-! ### statements read -/
section
variable (E : Ctx → Expr → Den) (T : Ctx → Expr → DenT) (S : Ctx → Stmt → DenS) (c : Ctx)
def cSs : List Stmt → DenS
  | [] => sNil
  | s :: ss => sSeq (S c s) (cSs ss)
/-- name = comprehension: stored before the block is left -/
def swapB (c : Ctx) (x : SS) (py lp : Pos) (scope : Scope) : Bool := decide (c.sc.lookup x = some .local) && (py.line == lp.line) && !(scope.names.any fun (n, k) => n == x && (k == .local || k == .cell))
def parB (c : Ctx) (x y : SS) (px py : Pos) (a b : Expr) : Bool :=
  c.calm && (decide (c.sc.lookup x = some .local) && (decide (c.sc.lookup y = some .local) && ((py.line == px.line) && (!(y == x) && (notStar a && (notStar b && (!(foldedForSure 8 a && foldedForSure 8 b) && !(constantsAlone 8 a && constantsAlone 8 b))))))))
/-- two names, not both plain locals: stored one after another -/
def parN (c : Ctx) (x y : SS) : Bool := c.calm && (!decide (c.sc.lookup x = some .local) || !decide (c.sc.lookup y = some .local))
def cAsg (tg e : Expr) : DenS := match tg with
  | .Name x _ => (match c.st x with
    | some i => (match e with
      | .SetComp _ _ _ _ => sBad
      | .DictComp _ _ _ _ _ => sBad
      | e => sSet (.nm i) (E c e))
    | none => sBad)
  | .Tuple ts _ _ => (match e with
    | .Tuple vs _ _ => (match ts, vs with
      | [.Name x px, .Name y py], [a, b] => if parB c x y px py a b then (match ixOf x c.N, ixOf y c.N with
        | some i, some j => sPar [i, j] (cArgs E c [a, b])
        | _, _ => sBad) else if parN c x y then (match c.st x, c.st y with
        | some i, some j => sSet (.tp [.nm i, .nm j]) (E c e)
        | _, _ => sBad) else sBad
      | _, _ => sBad)
    | e => if c.calm && !isCompE e then (match cTg c 5 tg with
      | some t => sSet t (E c e)
      | none => sBad) else sBad)
  | .Subscript o i _ => if notSl i && !isCompE e then sPut (E c o) (E c i) (E c e) else sBad
  | .Attribute o f _ => if !isCompE e then sFld f (E c o) (E c e) else sBad
  | _ => sBad
def cAug (tg : Expr) (op : Operator) (e : Expr) : DenS := match tg with
  | .Name x _ => if op = .Add ∨ op = .Sub then (match c.st x with
    | some i => sAug op i (E c e)
    | none => sBad) else sBad
  | _ => sBad
def cFor (tg iter : Expr) (body : List Stmt) : DenS := if c.calm then (match cTg c 5 tg with
  | some t => sFor t (cIter E c tg iter) (cSs S c body)
  | none => sBad) else sBad
def cRaise (e : Option Expr) (cause : Option Expr) : DenS := match e, cause with
  | some (.Call (.Name x _) [] [] _), none => if c.calm && okNm x then (match c.g x with
    | some .exc => sRaise x
    | _ => sBad) else sBad
  | _, _ => sBad
def Ctx.su (c : Ctx) : Ctx := { c with calm := false, lam := none, lms := false }
def cTry (body : List Stmt) (hs : List ExceptHandler) (orelse fin : List Stmt) : DenS := match hs, orelse, fin with
  | [.ExceptHandler (some (.Name x _)) (some n) (b₀ :: suite) _], [], [] => if c.calm && (okNm x && decide (c.sc.lookup n = some .local)) then (match c.g x, ixOf n c.N with
    | some .exc, some i => sTryA x i (cSs S c body) (cSs S c.su (b₀ :: suite))
    | _, _ => sBad) else sBad
  | _, _, _ => sBad
def stepS (s : Stmt) : DenS := match s with
  | .Return none _ => sRetN
  | .Return (some e) _ => sRet (E c e)
  | .Assign [tg] e _ => cAsg E c tg e
  | .AugAssign tg op e _ => cAug E c tg op e
  | .For tg iter body [] _ => cFor E S c tg iter body
  | .While t body [] _ => if c.calm then sWhile (T c t) (cSs S c body) else sBad
  | .If t a b _ => sIf (T c t) (cSs S c a) (cSs S c b)
  | .Raise e cause _ => cRaise c e cause
  | .Try body hs orelse fin _ => cTry S c body hs orelse fin
  | .Expr e _ => if isCompE e then sBad else sExpr (E c e)
  | .Pass _ => sNil
  | .Break _ => sBrk
  | .Continue _ => sCnt
  | _ => sBad
end
/-- the reading of statements, to a depth -/
def cmpS (m : Nat) : Nat → Ctx → Stmt → DenS
  | 0 => fun _ _ => sBad
  | n + 1 => stepS (cmp (m + 1)).1 (cmp (m + 1)).2 (cmpS m n)

structure GoodS (X : Cx) (P : Par) (W : L2.WX) (C : Cfg) (c : Ctx) (k : Nat) : Prop extends Good X P W C c k where
  hs : c.calm = true → X.stack = X.env :: X.outer
  hf : c.calm = true → X.env.frame = some X.env.locals
  ps : c.calm = true → PassesOwn (model X.prog X.w) X.A X.env X.xe
def SndS (S : Ctx → Stmt → DenS) : Prop := ∀ X P W C c k, GoodS X P W C c k → ∀ s, PS X s (tS P W C (S c s))
section
variable {X : Cx} {P : Par} {W : L2.WX} {C : Cfg} {c : Ctx} {k : Nat} {E : Ctx → Expr → Den} {T : Ctx → Expr → DenT} {S : Ctx → Stmt → DenS}
theorem snd_ss (g : GoodS X P W C c k) (hS : SndS S) : ∀ ss : List Stmt, PSs X ss (tS P W C (cSs S c ss))
  | [] => s_nil
  | s :: ss => s_cons (hS X P W C c k g s) (snd_ss g hS ss)
theorem swap_no {e : Expr} (h : isCompE e = false) {t : Option Expr} {l : Nat} {env : Env} : swapsWith e t l env = pure false := by
  cases e <;> first | rfl | cases h
theorem swap_sole {e t : Expr} (h : isCompE e = false) {l : Nat} {env : Env} : swapsWithSole [t] e l env = pure false := by
  show swapsWith e (some t) l env = _
  exact swap_no h
theorem putFd_R {Z : Hp} {m : List Addr} {f : SS} {v : PV} {u : V} (rv : VR P Z m v u) : ∀ {ns : List SS} {fs : List PV} {fv : List (SS × V)}, fv.map (·.1) = ns → VRs P Z m fs (fv.map (·.2)) → (putF f u fv).map (·.1) = (putFd f v ns fs).1 ∧ VRs P Z m (putFd f v ns fs).2 ((putF f u fv).map (·.2))
  | [], fs, [], _, r => by
    have e : fs = [] := List.length_eq_zero_iff.mp r.length
    subst e
    exact ⟨rfl, u, [], rfl, rv, rfl⟩
  | [], _, _ :: _, h, _ => by cases h
  | _ :: _, _, [], h, _ => by cases h
  | n :: ns, fs, (g, x) :: fv, h, r => by
    have h1 : g = n := (List.cons.inj h).1
    have h2 : fv.map (·.1) = ns := (List.cons.inj h).2
    cases fs with
    | nil => cases r
    | cons y ys =>
      obtain ⟨w, ws, e, r1, r2⟩ := r
      cases e
      unfold putFd putF
      subst h1
      by_cases hg : g = f
      · rw [if_pos hg, if_pos hg]
        exact ⟨by simp [h2], u, _, rfl, rv, r2⟩
      · rw [if_neg hg, if_neg hg]
        obtain ⟨q1, q2⟩ := putFd_R rv (ns := ns) (fs := ys) (fv := fv) h2 r2
        exact ⟨by simp [q1], x, _, rfl, r1, q2⟩
theorem s_fld (o : CxOk X P W C) {a e : Expr} {da de : Den} {f : SS} {p2 pos : Pos} (ha : PE X a (tD P W C da)) (he : PE X e (tD P W C de)) (hs : swapsWith e (some (.Attribute a f p2)) pos.line X.env = pure false) : PS X (.Assign [.Attribute a f p2] e pos) (tS P W C (Ev.sFld f da de)) :=
  PS.weak (ps_fld ha he hs) fun D τ H ⟨Z, m, F, S, σ, sr, sl, q⟩ => by
    refine ⟨Z, m, F, S, σ, sr, sl, okS_in (R := VR P) sl q fun u H1 Z1 m1 S1 v z1 p1 s1 r1 q => ?_⟩
    refine ⟨Z1, m1, F, S1, σ, s1, sl.mono z1 p1, okS_in (R := VR P) (sl.mono z1 p1) q fun ou H2 Z2 m2 S2 ov z2 p2 s2 r2 q => ?_⟩
    have r1' := VR.mono z2 p2 _ _ r1
    cases e1 : setFd C ov v f S2 with
    | none => rw [e1] at q; exact q.elim
    | some S3 =>
      rw [e1] at q
      cases ov with
      | rf r =>
        simp only [setFd] at e1
        obtain ⟨ad, e2, rfl⟩ := r2
        cases e3 : S2[r]? with
        | none => rw [e3] at e1; cases e1
        | some cl =>
          rw [e3] at e1
          cases cl with
          | ins cn ns fs =>
            simp only at e1
            cases e4 : C.flds cn with
            | none => rw [e4] at e1; cases e1
            | some all =>
              rw [e4] at e1
              simp only at e1
              split at e1
              · rename_i hh
                cases e1
                obtain ⟨ad', e5, dx, fv, e6, e7, r⟩ := s2.cell _ _ e3
                rw [e2] at e5; cases e5
                have e8 : P.fn cn = some all := o.fl ▸ e4
                have hl : fv.length = ns.length := by rw [← e7, List.length_map]
                obtain ⟨q1, q2⟩ := putFd_R r1' e7 r (f := f)
                refine ⟨ad, _, dx, fv, rfl, e6, o.hK ▸ (o.pk.cls cn all e8).cl, o.hK ▸ o.pk.noa cn all f e8 (by simpa using hh.1), by rw [hl]; omega, ?_⟩
                exact q Z2 m2 τ _ (Same.refl _) (List.prefix_refl _) (s2.put e2 ⟨dx, _, rfl, q1, q2⟩) ((sl.mono z1 p1).mono z2 p2)
              · cases e1
          | _ => cases e1
      | _ => cases e1
theorem swapped_none1 {x : SS} {px : Pos} {e : Expr} {env : Env} : swappedStores [.Name x px] e env = pure none := rfl
theorem swapped_none2 {ts : List Expr} {kk : Nat} {tp : Pos} {e : Expr} {env : Env} (h : isTup e = false) : swappedStores [.Tuple ts kk tp] e env = pure none := by
  cases e <;> first | rfl | cases h
theorem blockKind_of {env : Env} (h : env.scope.kind = .function) : env.blockKind = .function := by
  unfold Env.blockKind
  rw [h]
  rfl
theorem kindOf_of {env : Env} {x : SS} {kd : NameKind} (h : env.scope.names.lookup x = some kd) : env.kindOf x = some kd := h
theorem swapped_two {x y : SS} {px py tp vp : Pos} {kk kv : Nat} {a b : Expr} {env : Env} (hk : env.scope.kind = .function) (hx : env.scope.names.lookup x = some .local) (hy : env.scope.names.lookup y = some .local) (hp : (py.line == px.line) = true) (hne : (y == x) = false) (ha : notStar a = true) (hb : notStar b = true)
    (h1 : (foldedForSure 8 a && foldedForSure 8 b) = false) (h2 : (constantsAlone 8 a && constantsAlone 8 b) = false) : swappedStores [.Tuple [.Name x px, .Name y py] kk tp] (.Tuple [a, b] kv vp) env = pure (some [x, y]) := by
  have kx : (env.kindOf x == some .local) = true := by rw [kindOf_of hx]; rfl
  have ky : (env.kindOf y == some .local) = true := by rw [kindOf_of hy]; rfl
  have hb0 : (env.blockKind != .function) = false := by rw [blockKind_of hk]; rfl
  have hpp : px.line = px.line := rfl
  have hp' : py.line = px.line := by simpa using hp
  have hne' : ¬ (y = x) := by simpa using hne
  have ed : ([x, y].eraseDups.length != [x, y].length) = false := by
    simp [List.eraseDups_cons, hne]
  unfold swappedStores
  simp [hb0, kx, ky, hp', h1, h2, ed, Expr.pos, List.eraseDups_cons, hne, kindOf_of hx, kindOf_of hy]
  intro h
  exfalso
  clear h1 h2
  rcases h with h | h
  · cases a <;> first | (cases ha; done) | (cases h; done)
  · cases b <;> first | (cases hb; done) | (cases h; done)
theorem swapped_nl {x y : SS} {px py tp vp : Pos} {kk kv : Nat} {a b : Expr} {env : Env} (h : (env.kindOf x == some .local) = false ∨ (env.kindOf y == some .local) = false) : swappedStores [.Tuple [.Name x px, .Name y py] kk tp] (.Tuple [a, b] kv vp) env = pure none := by
  unfold swappedStores
  rcases h with h | h
  · have h' : ¬ env.kindOf x = some .local := by simpa using h
    by_cases h2 : env.kindOf y = some .local <;> by_cases h3 : py.line = px.line <;> simp [h', h2, h3, Expr.pos, List.filterMap_cons]
  · have h' : ¬ env.kindOf y = some .local := by simpa using h
    by_cases h2 : env.kindOf x = some .local <;> simp [h', h2, Expr.pos, List.filterMap_cons]
theorem asg_bad {tgs : List Expr} {e : Expr} {pos : Pos} : PS X (.Assign tgs e pos) (tS P W C sBad) := s_bad
theorem swaps_name {x : SS} {py pos : Pos} {elt : Expr} {gens : List Comprehension} {scope : Scope} {lp : Pos} (g : Good X P W C c k) : swapsWith (.ListComp elt gens scope lp) (some (.Name x py)) pos.line X.env = pure (swapB c x py lp scope) := by
  unfold swapsWith swapB
  have h1 : (X.env.blockKind == .function) = true := by rw [blockKind_of g.kd]; rfl
  have h2 : (X.env.kindOf x == some .local) = decide (c.sc.lookup x = some .local) := by
    show (X.env.scope.names.lookup x == some .local) = _
    rw [g.sc]
    cases c.sc.lookup x with
    | none => rfl
    | some kd => cases kd <;> rfl
  simp only [h1, h2, Expr.pos, Bool.true_and]
theorem snd_asg (g : GoodS X P W C c k) {n : Nat} {tg e : Expr} {pos : Pos} : PS X (.Assign [tg] e pos) (tS P W C (cAsg (cmp (n + 1)).1 c tg e)) := by
  have hE := (snd_ex (n + 1)).1
  cases tg with
  | Name x py =>
    simp only [cAsg]
    cases hst : c.st x with
    | none => exact asg_bad
    | some i =>
      obtain ⟨h1, h2, h3⟩ := g.st hst
      have pl : swapsWith e (some (.Name x py)) pos.line X.env = pure false → PS X (.Assign [.Name x py] e pos) (tS P W C (sSet (.nm i) ((cmp (n + 1)).1 c e))) := fun hs => s_asg (hE X P W C c k g.toGood e) (g_nm g.o.nd h1 h2 h3) hs swapped_none1 rfl
      cases e with
      | SetComp _ _ _ _ => exact asg_bad
      | DictComp _ _ _ _ _ => exact asg_bad
      | ListComp elt gens scope lp =>
        have hsw := swaps_name (x := x) (py := py) (pos := pos) (elt := elt) (gens := gens) (scope := scope) (lp := lp) g.toGood
        cases hb : swapB c x py lp scope with
        | false => rw [hb] at hsw; exact pl hsw
        | true =>
          rw [hb] at hsw
          have hl : X.env.scope.names.lookup x = some .local := by
            unfold swapB at hb
            simp only [Bool.and_eq_true, decide_eq_true_eq] at hb
            rw [g.sc]; exact hb.1.1
          exact (snd_comp g.toGood (snd_ex n).1 (snd_ex n).2).2 h1 hl hsw
      | _ => exact pl (swap_no rfl)
  | Tuple ts kk tp =>
    have other : ∀ e, isTup e = false → PS X (.Assign [.Tuple ts kk tp] e pos) (tS P W C (if c.calm && !isCompE e then (match cTg c 5 (.Tuple ts kk tp) with
      | some t => sSet t ((cmp (n + 1)).1 c e)
      | none => sBad) else sBad)) := fun e ht => by
      by_cases h : (c.calm && !isCompE e) = true
      · rw [if_pos h]
        obtain ⟨h1, h2⟩ := Bool.and_eq_true_iff.mp h
        have h2 : isCompE e = false := by simpa using h2
        cases hh : cTg c 5 (.Tuple ts kk tp) with
        | none => exact asg_bad
        | some t => exact s_asg (hE X P W C c k g.toGood e) (snd_tg g.toGood (g.calm h1) 5 _ t hh).1 (swap_sole h2) (swapped_none2 ht) rfl
      · rw [if_neg h]; exact asg_bad
    cases e with
    | Tuple vs kv vp =>
      clear other
      simp only [cAsg]
      split
      · rename_i x px y py a b
        by_cases h : parB c x y px py a b = true
        · rw [if_pos h]
          cases hi : ixOf x c.N with
          | none => exact asg_bad
          | some i =>
            cases hj : ixOf y c.N with
            | none => exact asg_bad
            | some j =>
              unfold parB at h
              simp only [Bool.and_eq_true, decide_eq_true_eq, Bool.not_eq_true'] at h
              obtain ⟨q1, q2, q3, q4, q5, q6, q7, q8, q9⟩ := h
              have hx : X.N[i]? = some x := by rw [g.N]; exact ixOf_get hi
              have hy : X.N[j]? = some y := by rw [g.N]; exact ixOf_get hj
              have hij : i ≠ j := fun z => by
                subst z
                rw [hx] at hy
                cases hy
                simp at q5
              exact s_par2 (g.calm q1) g.o.nd hx hy hij (by rw [g.sc]; exact q2) (by rw [g.sc]; exact q3) (snd_args g.toGood hE [a, b]) (swapped_two g.kd (by rw [g.sc]; exact q2) (by rw [g.sc]; exact q3) q4 q5 q6 q7 q8 q9)
        · rw [if_neg h]
          by_cases hn : parN c x y = true
          · rw [if_pos hn]
            obtain ⟨n1, n2⟩ := Bool.and_eq_true_iff.mp hn
            cases hi : c.st x with
            | none => exact asg_bad
            | some i =>
              cases hj : c.st y with
              | none => exact asg_bad
              | some j =>
                obtain ⟨x1, x2, x3⟩ := g.st hi
                obtain ⟨y1, y2, y3⟩ := g.st hj
                have hl : (X.env.kindOf x == some .local) = false ∨ (X.env.kindOf y == some .local) = false := by
                  have cv : ∀ z, (!decide (c.sc.lookup z = some .local)) = true → (X.env.kindOf z == some .local) = false := fun z q => by
                    show (X.env.scope.names.lookup z == some .local) = false
                    rw [g.sc]
                    have q : ¬ (c.sc.lookup z = some .local) := by simpa using q
                    simpa using q
                  rcases Bool.or_eq_true_iff.mp n2 with q | q
                  · exact .inl (cv x q)
                  · exact .inr (cv y q)
                exact s_asg (hE X P W C c k g.toGood _) (g_tp g.o.hK (g.calm n1) (gs_cons (g_nm g.o.nd x1 x2 x3) (gs_cons (g_nm g.o.nd y1 y2 y3) gs_nil rfl) rfl) rfl rfl) (swap_sole rfl) (swapped_nl hl) rfl
          · rw [if_neg hn]; exact asg_bad
      · exact asg_bad
    | _ => exact other _ rfl
  | Subscript o i p2 =>
    show PS X _ (tS P W C (if notSl i && !isCompE e then sPut ((cmp (n + 1)).1 c o) ((cmp (n + 1)).1 c i) ((cmp (n + 1)).1 c e) else sBad))
    by_cases h : (notSl i && !isCompE e) = true
    · rw [if_pos h]
      obtain ⟨h1, h2⟩ := Bool.and_eq_true_iff.mp h
      exact s_put (hE X P W C c k g.toGood e) (hE X P W C c k g.toGood o) (hE X P W C c k g.toGood i) h1 (swap_sole (by simpa using h2)) rfl
    · rw [if_neg h]; exact asg_bad
  | Attribute o f p2 =>
    show PS X _ (tS P W C (if !isCompE e then Ev.sFld f ((cmp (n + 1)).1 c o) ((cmp (n + 1)).1 c e) else sBad))
    by_cases h : (!isCompE e) = true
    · rw [if_pos h]; exact s_fld g.o (hE X P W C c k g.toGood o) (hE X P W C c k g.toGood e) (swap_no (by simpa using h))
    · rw [if_neg h]; exact asg_bad
  | _ => exact asg_bad
theorem GoodS.tr (g : GoodS X P W C c k) (hc : c.calm = true) {pn : List (Addr × Obj)} {xe : Value → Shared → Prop} {W' : L2.WX} (tk : Takes (X.tr pn xe) W') (ps : PassesOwn (model X.prog X.w) X.A X.env xe) : GoodS (X.tr pn xe) P W' C c k where
  o := ⟨g.o.hK, g.o.pk, g.o.un, g.o.nd, g.o.fl, g.o.sb⟩
  tk := tk
  N := g.N
  sc := g.sc
  kd := g.kd
  calm := g.calm
  call := fun h => ⟨(g.call h).rm, (g.call h).fns⟩
  ea := g.ea
  isi := fun a d e => by rw [g.ea hc] at e; cases e
  G := fun x v h => by
    have := g.G x v h
    cases v <;> exact this
  act := fun a i h => g.act a i h
  cb := g.cb
  lmf := g.lmf
  hs := g.hs
  hf := g.hf
  ps := fun _ => ps
theorem ParOk.ex (pk : ParOk P) (ad : Addr) (cn : SS) : ParOk (P.ex ad cn) := ⟨pk.cls, pk.noa, pk.sb, pk.k3, pk.xm, pk.xc⟩
theorem mark_units {A : Around} {h : Option Value} : (A.mark h).units = A.units := rfl
theorem GoodS.suite (g : GoodS X P W C c k) {ad : Addr} {cn : SS} {oe : Obj} {pn : List (Addr × Obj)} (hcn : P.exn cn = true) (hz : Zc (.ref (He.ga P.K cn)) none oe) (hv : ∃ vs, oe.data = .fields vs) : GoodS (X.suite ad ((ad, oe) :: pn)) (P.ex ad cn) WF C.off c.su k where
  o := ⟨g.o.hK, g.o.pk.ex ad cn, g.o.un, g.o.nd, g.o.fl, g.o.sb⟩
  tk := fun _ _ x => by
    obtain ⟨_, _, _, _, _, _, _, _, _, _, _, _, _, _, _, _, z⟩ := x
    exact z.elim
  N := g.N
  sc := g.sc
  kd := g.kd
  calm := fun h => by cases h
  call := fun h => by cases h
  ea := fun h => by cases h
  isi := fun a d e => by
    cases e
    have xc := g.o.pk.xc cn hcn
    exact call_isE (X := X) (a := ad) (D := He.ga P.K cn) (g.o.hK ▸ xc) hz hv
  G := fun x v h => by
    have := g.G x v h
    cases v with
    | cls init => exact ⟨this.1, fun z => by cases z⟩
    | _ => exact this
  act := fun a i e => by cases e
  cb := g.cb
  lmf := fun e => by cases e
  hs := fun h => by cases h
  hf := fun h => by cases h
  ps := fun h => by cases h
theorem snd_try (g : GoodS X P W C c k) (hS : SndS S) {body : List Stmt} {hs : List ExceptHandler} {orelse fin : List Stmt} {pos : Pos} : PS X (.Try body hs orelse fin pos) (tS P W C (cTry S c body hs orelse fin)) := by
  unfold cTry
  split
  · rename_i x np n b0 suite p'
    by_cases h : (c.calm && (okNm x && decide (c.sc.lookup n = some .local))) = true
    · rw [if_pos h]
      obtain ⟨h1, h2⟩ := Bool.and_eq_true_iff.mp h
      obtain ⟨h2, h3⟩ := Bool.and_eq_true_iff.mp h2
      have h3 := of_decide_eq_true h3
      cases hg : c.g x with
      | none => exact s_bad
      | some v =>
        cases v with
        | exc =>
          cases hi : ixOf n c.N with
          | none => exact s_bad
          | some i =>
            obtain ⟨hgl, hm, rc⟩ := g.gg hg
            refine s_try g.o.hK g.o.pk (g.ea h1) g.o.sb (g.hs h1) (g.hf h1) g.o.nd (by rw [g.N]; exact ixOf_get hi) (by show X.env.scope.names.lookup n = _; rw [g.sc]; exact h3) hgl hm (okNm_d h2).1 rc.1 g.tk (fun W' pn xe tk ps => snd_ss (g.tr h1 tk ps) hS body) (fun ad cn oe pn hcn hz hv => snd_ss (g.suite hcn hz hv) hS (b0 :: suite))
        | _ => exact s_bad
    · rw [if_neg h]; exact s_bad
  · exact s_bad
theorem snd_raise (g : GoodS X P W C c k) {e : Option Expr} {cause : Option Expr} {pos : Pos} : PS X (.Raise e cause pos) (tS P W C (cRaise c e cause)) := by
  unfold cRaise
  split
  · rename_i x p1 p2
    by_cases h : (c.calm && okNm x) = true
    · rw [if_pos h]
      obtain ⟨h1, h2⟩ := Bool.and_eq_true_iff.mp h
      cases hg : c.g x with
      | none => exact s_bad
      | some v =>
        cases v with
        | exc =>
          obtain ⟨hgl, hm, rc⟩ := g.gg hg
          exact s_raise g.o.hK (g.calm h1) g.tk rc hgl hm (okNm_d h2).1
        | _ => exact s_bad
    · rw [if_neg h]; exact s_bad
  · exact s_bad
theorem snd_for (g : GoodS X P W C c k) (hE : SndE E) (hS : SndS S) {tg iter : Expr} {body : List Stmt} {pos : Pos} : PS X (.For tg iter body [] pos) (tS P W C (cFor E S c tg iter body)) := by
  unfold cFor
  by_cases h : c.calm = true
  · rw [if_pos h]
    cases ht : cTg c 5 tg with
    | none => exact s_bad
    | some t =>
      have hi := snd_iter g.toGood hE tg iter
      by_cases hb : cIter E c tg iter = fun _ _ _ => .bad
      · rw [hb]
        exact ⟨fun _ _ _ _ _ _ ⟨_, _, _, _, _, _, _, q⟩ => q.elim⟩
      · exact s_for (g.ps h) (g.calm h) hi.1 (snd_tg g.toGood (g.calm h) 5 tg t ht).1 (snd_ss g hS body) fun x => (hi.2 x).resolve_right hb
  · rw [if_neg h]; exact s_bad
theorem snd_aug (g : GoodS X P W C c k) (hE : SndE E) {tg e : Expr} {op : Operator} {pos : Pos} : PS X (.AugAssign tg op e pos) (tS P W C (cAug E c tg op e)) := by
  cases tg with
  | Name x p =>
    simp only [cAug]
    by_cases h : op = .Add ∨ op = .Sub
    · rw [if_pos h]
      cases hst : c.st x with
      | none => exact s_bad
      | some i =>
        obtain ⟨h1, h2, h3⟩ := g.st hst
        exact s_aug h g.o.nd h1 h2 (hE X P W C c k g.toGood e) h3
    · rw [if_neg h]; exact s_bad
  | _ => exact s_bad
theorem snd_st (m : Nat) : ∀ n, SndS (cmpS m n)
  | 0 => fun _ _ _ _ _ _ _ _ => s_bad
  | n + 1 => by
    intro X P W C c k g s
    have hE := (snd_ex (m + 1)).1
    have hT := (snd_ex (m + 1)).2
    have hS := snd_st m n
    cases s with
    | Return e pos => cases e with
      | none => exact s_retN
      | some e => exact s_ret (hE X P W C c k g.toGood e)
    | Assign tgs e pos =>
      match tgs with
      | [tg] => exact snd_asg g
      | [] => exact s_bad
      | _ :: _ :: _ => exact s_bad
    | AugAssign tg op e pos => exact snd_aug g hE
    | For tg iter body orelse pos =>
      cases orelse with
      | nil => exact snd_for g hE hS
      | cons _ _ => exact s_bad
    | While t body orelse pos =>
      cases orelse with
      | cons _ _ => exact s_bad
      | nil =>
        show PS X _ (tS P W C (if c.calm then sWhile ((cmp (m + 1)).2 c t) (cSs (cmpS m n) c body) else sBad))
        by_cases h : c.calm = true
        · rw [if_pos h]; exact s_while (g.ps h) (hT X P W C c k g.toGood t) (snd_ss g hS body)
        · rw [if_neg h]; exact s_bad
    | If t a b pos => exact s_if (hT X P W C c k g.toGood t) (snd_ss g hS a) (snd_ss g hS b)
    | Raise e cause pos => exact snd_raise g
    | Try body hs orelse fin pos => exact snd_try g hS
    | Expr e pos =>
      show PS X _ (tS P W C (if isCompE e then sBad else sExpr ((cmp (m + 1)).1 c e)))
      by_cases h : isCompE e = true
      · rw [if_pos h]; exact s_bad
      · rw [if_neg h]; exact s_expr (hE X P W C c k g.toGood e) (swap_no (by simpa using h))
    | Pass pos => exact s_pass
    | Break pos => exact s_break
    | Continue pos => exact s_cont
    | _ => exact s_bad
/-- THE THEOREM: a block does what is read -/
theorem snd_block (m n : Nat) (g : GoodS X P W C c k) (ss : List Stmt) : PSs X ss (tS P W C (cSs (cmpS m n) c ss)) := snd_ss g (snd_st m n) ss
end
end Ev

end
section
set_option Elab.async false
set_option linter.all false
set_option maxRecDepth 100000
set_option maxHeartbeats 2000000
namespace Ev
open PySem PySem.Spec PyProof.Rows L2 LamX
/-! ### a law's defs -/
structure DefI where
  nm : SS
  d : He.DefD
  N : List SS
  ps : List SS
  keep : Bool
  lamp : Bool
  glob : Bool
  lmk : Bool
  mt : List (Nat × Nat)
def coldG (p : SS × GK) : Bool := match p.2 with
  | .fn => false
  | .cls _ => false
  | .lam _ => false
  | _ => true
def DefI.ctx (G : List (SS × GK)) (i : DefI) : Ctx := ⟨i.N, i.d.scope.names, if i.lamp then G.filter coldG else G, true, if i.lamp then some (i.ps.headD "", 0) else none, i.mt, fun _ => true, i.lmk⟩
def DefI.fn (G : List (SS × GK)) (m n : Nat) (i : DefI) : FnI := ⟨i.ps.length, i.N.length, i.keep, i.lamp, i.glob, cSs (cmpS m n) (i.ctx G) i.d.body⟩
/-- the code object, the table of a def -/
def cdA (K : PySem.W.Frag) (p : SS × Option SS) : Addr := match K.lookup (He.fAd K p) with
  | some ⟨_, _, .func fd, _⟩ => (match fd.code with
    | .ref c => c
    | _ => 0)
  | _ => 0
def tbA (K : PySem.W.Frag) (p : SS × Option SS) : Addr := match K.lookup (cdA K p) with
  | some ⟨_, _, .fields vs, _⟩ => (match (vs[11]? : Option Value) with
    | some (.ref P) => P
    | _ => 0)
  | _ => 0
def qualOf (q : SS) : SS := (envOfC q default 0 0 .none).qual ++ "<lambda>"
theorem qualOf_eq {q : SS} {sc : Scope} {L a : Addr} {cd : Value} : (envOfC q sc L a cd).qual ++ "<lambda>" = qualOf q := rfl
def parOf (fl : SS → Option (List SS)) (sub : SS → TyQ → Option Bool) (exn : SS → Bool) (lms : List DefI) (K : PySem.W.Frag) : Par := ⟨K, fl, sub, exn, none, lms.map fun i => (tbA K i.d.at_, qualOf i.d.qual), none⟩
/-- what the written part must say of a name -/
def GSay (K : PySem.W.Frag) (mg : SS → Option Value) (P : Par) (ds : List DefI) (x : SS) : GK → Prop
  | .fn => (∃ i ∈ ds, i.nm = x ∧ i.glob = true) ∧ mg x = some (.ref (He.ga K x))
  | .cls init => mg x = some (.ref (He.ga K x)) ∧ (P.fn x).isSome = true ∧ ∃ i ∈ ds, i.nm = init ∧ i.lamp = false ∧ Mk K (He.ga K x) (He.fAd K i.d.at_)
  | .exc => mg x = some (.ref (He.ga K x)) ∧ RaiseC P x
  | .int i => ∃ t, mg x = some (.int i t)
  | .str s => ∃ t, mg x = some (.str s t)
  | .bi b => mg x = none ∧ bootBuiltins x = some b.val
  | .ty n => mg x = none ∧ bootBuiltins x = some (.type n)
  | .isi => mg x = none ∧ bootBuiltins x = some (.builtin "isinstance")
  | .rng => x = "range" ∧ mg "range" = none
  | .enu => x = "enumerate" ∧ mg "enumerate" = none
  | .zip => x = "zip" ∧ mg "zip" = none
  | .rev => x = "reversed" ∧ mg "reversed" = none ∧ mg "range" = none
  | .lam d => mg x = some (.ref (He.ga K x)) ∧ ∃ i ∈ ds, i.nm = x ∧ i.lamp = true ∧ i.keep = false ∧ i.d.name = x ∧ i.d.qual = x ∧ He.fAd K i.d.at_ = He.ga K x
/-- what is known of a def -/
structure DSay (K : PySem.W.Frag) (mg : SS → Option Value) (base : Heap) (P : Par) (i : DefI) : Prop where
  fd : ∃ fd, L2.FunD K i.d.name i.d.qual i.d.params i.d.body i.d.scope [] [] (He.fAd K i.d.at_) fd ∧ L2.Binds K fd i.ps [] ∧ (i.lmk = true → fd.code = .ref (cdA K i.d.at_))
  sc : FnScope i.N i.ps i.d.scope
  ga : i.glob = true → He.fAd K i.d.at_ = He.ga K i.nm
  gl : i.lamp = true → i.glob = false ∧ i.keep = false ∧ i.lmk = false ∧ ∃ a, i.ps = [a] ∧ okNm a = true ∧ Vis i.d.scope a
  tb : i.lmk = true → TabB base mg (cdA K i.d.at_) (tbA K i.d.at_) ∧ (tbA K i.d.at_, qualOf i.d.qual) ∈ P.tabs ∧ ∀ p ∈ P.tabs, p.1 = tbA K i.d.at_ → p.2 = qualOf i.d.qual
structure LSay (K : PySem.W.Frag) (mg : SS → Option Value) (base : Heap) (P : Par) (G : List (SS × GK)) (ds : List DefI) : Prop where
  hK : P.K = K
  bs : P.base
  pk : ParOk P
  g : ∀ p ∈ G, GSay K mg P ds p.1 p.2
  d : ∀ i ∈ ds, DSay K mg base P i
def tabOf (T : Tab) (G : List (SS × GK)) (m n : Nat) (ds : List DefI) : Prop := (∀ i ∈ ds, T i.nm = some (i.fn G m n)) ∧ ∀ x f, T x = some f → ∃ i ∈ ds, i.nm = x
theorem lookup_mem {α β : Type} [BEq α] [LawfulBEq α] {x : α} {v : β} : ∀ {l : List (α × β)}, l.lookup x = some v → (x, v) ∈ l
  | [], h => by cases h
  | (y, u) :: l, h => by
    rw [List.lookup_cons] at h
    split at h
    · rename_i e
      cases h
      rw [beq_iff_eq.mp e]
      exact .head _
    · exact .tail _ (lookup_mem h)
section
variable {Pg : Program} {w : World} {K : PySem.W.Frag} {mg : SS → Option Value} {base : Heap} {P : Par} {G : List (SS × GK)} {ds : List DefI} {T : Tab} {m n fuel : Nat}
theorem ParOk.clo {f : Addr} {φ : Hp → List Addr → Prop} (pk : ParOk P) : ParOk (P.clo f φ) := ⟨pk.cls, pk.noa, pk.sb, pk.k3, pk.xm, pk.xc⟩
theorem FnA0.bad {k : Nat} {a : Addr} {fd : FuncData} {ps : List SS} {g : List PV → Store → Rs PV} (hk : PySem.W.keepIn K (.ref a) = true) (hb : L2.Binds K fd ps []) (hg : ∀ xs S, g xs S = .bad) : FnA0 Pg w K mg base P k a g :=
  ⟨fd, ps, ⟨fun _ _ _ _ h => h.1, fun A outer s H args us vs Q E _ _ _ _ h => by
    obtain ⟨_, Z, m, F, S, xs, _, _, q⟩ := h
    rw [hg] at q
    exact q.elim⟩, hk, hb, fun xs S => .inl (hg xs S)⟩
abbrev cfgOf (T : Tab) (P : Par) (fuel d : Nat) (lam : Store → Rs PV) : Cfg := ⟨runF T P.fn P.sub fuel d, lam, fuel, P.fn, P.sub, fun x => knT T x⟩
theorem lam_good (L : LSay K mg base P G ds) {i : DefI} (hi : i ∈ ds) (hl : i.lamp = true) {C : Cfg} (hC : C.flds = P.fn ∧ C.sub = P.sub) {lam : Store → Rs PV} {k : Nat} {f : Addr} {φ : Hp → List Addr → Prop} {cdv : Value} {A : Around} {outer : List Env} {s : Shared} {H : Hp} {E : XK} {a : Addr} {qual : SS}
    (ha : ActOk (cxOf (L2.CX Pg w) Pg w K mg base i.N qual i.d.scope a cdv A outer s H E) (P.clo f φ) (i.ps.headD "") 0 (C.lm lam)) (hr : Room (k + 1) (A.deeper (envOfC qual i.d.scope s.heap.objs.size a cdv))) :
    GoodS (cxOf (L2.CX Pg w) Pg w K mg base i.N qual i.d.scope a cdv A outer s H E) (P.clo f φ) (WE0 E) (C.lm lam) (i.ctx G) k := by
  have D := L.d i hi
  obtain ⟨g1, g2, g3, _⟩ := D.gl hl
  refine { o := ⟨L.hK.symm, L.pk.clo, (by have := hr.un; show (A.deeper _).units + 100 < _; omega), D.sc.nd, hC.1, hC.2⟩, tk := takes_of rfl rfl rfl rfl, N := rfl, sc := rfl, kd := D.sc.kind, calm := fun _ => rfl, call := fun _ => ⟨hr, fun f lam h => by cases h⟩, ea := fun _ => L.bs.1, isi := fun a d e => (by rw [show (P.clo f φ).ea = P.ea from rfl, L.bs.1] at e; cases e), G := fun x v h => ?_, act := fun a' j e => ?_, cb := fun _ _ _ => rfl, lmf := fun e => (by rw [show (i.ctx G).lms = i.lmk from rfl, g3] at e; cases e), hs := fun _ => rfl, hf := fun _ => rfl, ps := fun _ => passes_of rfl }
  · have hm : (x, v) ∈ G.filter coldG := by
      have := lookup_mem h
      simp only [DefI.ctx, hl, if_true] at this
      exact this
    obtain ⟨hm1, hm2⟩ := List.mem_filter.mp hm
    have say := L.g _ hm1
    obtain rfl := L.hK
    cases v with
    | fn => cases hm2
    | cls init => cases hm2
    | lam d => cases hm2
    | exc => exact say
    | _ => exact say
  · have e : some (i.ps.headD "", 0) = some (a', j) := by
      have e2 : (if i.lamp then some (i.ps.headD "", 0) else none) = some (a', j) := e
      rw [hl] at e2
      exact e2
    cases e
    exact ha
theorem run_at (hT : tabOf T G m n ds) {i : DefI} (hi : i ∈ ds) (hl : i.lamp = false) {d : Nat} {lam : Store → Rs PV} (xs : List PV) (S : Store) : runF T P.fn P.sub fuel (d + 1) lam i.nm xs S = if xs.length = i.ps.length ∧ xs.any isClo = false then closeR i.keep S (cSs (cmpS m n) (i.ctx G) i.d.body (cfgOf T P fuel d lam) (startP i.N.length xs) S) else .bad := by
  show (match T i.nm with
    | none => Rs.bad
    | some f => if xs.length = f.np ∧ xs.any isClo = f.lamp then closeR f.keep S (f.body (if f.lamp then ⟨fun _ _ _ _ => .bad, lam, fuel, P.fn, P.sub, fun _ => false⟩ else ⟨runF T P.fn P.sub fuel d, lam, fuel, P.fn, P.sub, fun x => knT T x⟩) (startP f.nn xs) S) else .bad) = _
  rw [hT.1 i hi]
  simp only [DefI.fn, hl, Bool.false_eq_true, if_false]
theorem step_ok (L : LSay K mg base P G ds) (hT : tabOf T G m n ds) {d : Nat} (IH : ∀ i ∈ ds, i.lamp = false → ∀ lam, FnA0 Pg w K mg base P (4 * d) (He.fAd K i.d.at_) (runF T P.fn P.sub fuel d lam i.nm)) {i : DefI} (hi : i ∈ ds) (hl : i.lamp = false) (lam : Store → Rs PV) {fd : FuncData}
    (Fd : L2.FunD K i.d.name i.d.qual i.d.params i.d.body i.d.scope [] [] (He.fAd K i.d.at_) fd) (hcode : i.lmk = true → fd.code = .ref (cdA K i.d.at_)) : FnOk Pg w K mg base (L2.CX Pg w) (4 * (d + 1)) (He.fAd K i.d.at_) fd i.ps (spF P (runF T P.fn P.sub fuel (d + 1) lam i.nm) i.ps.length) := by
    have D := L.d i hi
    have hTi := hT.1 i hi
    obtain rfl := L.hK
    have F := fn_ok (Pg := Pg) (w := w) (mg := mg) (base := base) (P := P) (C := cfgOf T P fuel d lam) (d := cSs (cmpS m n) (i.ctx G) i.d.body) (k := 4 * d + 3) (keep := i.keep) Fd D.sc L.bs fun cdv hcv A outer s H E hr => by
      refine snd_block (k := 4 * d) m n ?_ i.d.body
      refine { o := ⟨rfl, L.pk, (by have := hr.un; show (A.deeper _).units + 100 < _; omega), D.sc.nd, rfl, rfl⟩, tk := takes_of rfl rfl rfl rfl, N := rfl, sc := rfl, kd := D.sc.kind, calm := fun _ => rfl, call := fun _ => ⟨hr.mono (by omega), fun f lam' h => ?_⟩, ea := fun _ => L.bs.1, isi := fun a d e => (by rw [L.bs.1] at e; cases e), G := fun x v h => ?_, act := fun a' j e => ?_, cb := fun _ _ _ => rfl, lmf := fun e x dd h => ?_, hs := fun _ => rfl, hf := fun _ => rfl, ps := fun _ => passes_of rfl }
      · have h : knT T f = true := h
        unfold knT at h
        cases e : T f with
        | none => rw [e] at h; cases h
        | some fi =>
          rw [e] at h
          obtain ⟨i', hi', e'⟩ := hT.2 f fi e
          subst e'
          rw [hT.1 i' hi'] at e
          cases e
          have hg : i'.glob = true := h
          have D' := L.d i' hi'
          have hl' : i'.lamp = false := by
            cases q : i'.lamp with
            | false => rfl
            | true => have := (D'.gl q).1; rw [hg] at this; cases this
          have := IH i' hi' hl' lam'
          rw [D'.ga hg] at this
          exact this
      · have hm : (x, v) ∈ G := by
          have := lookup_mem h
          simp only [DefI.ctx, hl, Bool.false_eq_true, if_false] at this
          exact this
        have say := L.g _ hm
        cases v with
        | fn =>
          obtain ⟨⟨i', hi', e1, e2⟩, e3⟩ := say
          refine ⟨?_, e3⟩
          show knT T x = true
          unfold knT
          have e1 : i'.nm = x := e1
          subst e1
          rw [hT.1 i' hi']
          exact e2
        | cls init =>
          obtain ⟨e1, e2, i', hi', e3, e4, e5⟩ := say
          refine ⟨e1, fun _ => ⟨L.bs, fun lam' => ⟨_, e5, ?_, e2⟩⟩⟩
          have := IH i' hi' e4 lam'
          rw [e3] at this
          exact this
        | lam d => trivial
        | _ => exact say
      · simp only [DefI.ctx, hl, Bool.false_eq_true, if_false] at e
        cases e
      · have hlm : i.lmk = true := e
        have hm : (x, GK.lam dd) ∈ G := by
          have := lookup_mem h
          simp only [DefI.ctx, hl, Bool.false_eq_true, if_false] at this
          exact this
        obtain ⟨e1, i', hi', e2, e3, e4, e5, e6, e7⟩ := L.g _ hm
        have e1 : mg x = some (.ref (He.ga P.K x)) := e1
        have e2 : i'.nm = x := e2
        have e5 : i'.d.name = x := e5
        have e6 : i'.d.qual = x := e6
        have e7 : He.fAd P.K i'.d.at_ = He.ga P.K x := e7
        have D' := L.d i' hi'
        obtain ⟨g1, g2, g3, a, g4, g5, g6⟩ := D'.gl e3
        obtain ⟨fd', Fd', hb', _⟩ := D'.fd
        obtain ⟨t1, t2, t3⟩ := D.tb hlm
        have hcd := hcode hlm
        have sc' := D'.sc
        rw [e5, e6, e7] at Fd'
        rw [g4] at hb' sc'
        have hNg : i'.N[0]? = some a := by
          have := sc'.pre
          have h0 : (i'.N.take [a].length)[0]? = some a := by rw [this]; rfl
          rw [List.getElem?_take_of_lt (by simp)] at h0
          exact h0
        refine ⟨i'.d.params, i'.d.body, i'.d.scope, fd', i'.N, a, _, _, cSs (cmpS m n) (i'.ctx G) i'.d.body, L.bs, e1, Fd', hb', sc', hNg, g6, g5, t1, ?_, ?_, ?_, hr, fun f φ lam2 cdv2 s2 H2 E2 act hr2 => ?_, fun lam2 S2 => ?_⟩
        · show cdv = _
          rw [← hcv, hcd]
        · exact t2
        · exact t3
        · refine snd_block (k := 4 * d) m n (lam_good L hi' e3 ⟨rfl, rfl⟩ ?_ (hr2.mono (by omega))) i'.d.body
          rw [show i'.ps.headD "" = a from by rw [g4]; rfl]
          exact act
        · cases d with
          | zero => exact .inl rfl
          | succ d =>
            refine .inr ?_
            show (match T x with
              | none => Rs.bad
              | some f => if [PV.clo].length = f.np ∧ [PV.clo].any isClo = f.lamp then closeR f.keep S2 (f.body (if f.lamp then ⟨fun _ _ _ _ => .bad, lam2, fuel, P.fn, P.sub, fun _ => false⟩ else ⟨runF T P.fn P.sub fuel d, lam2, fuel, P.fn, P.sub, fun x => knT T x⟩) (startP f.nn [.clo]) S2) else .bad) = _
            have := hT.1 i' hi'
            rw [e2] at this
            rw [this]
            have e9 : i'.ps.length = 1 := by rw [g4]; rfl
            simp only [DefI.fn, e3, e9, g2, if_true]
            rw [if_pos ⟨rfl, rfl⟩]
    refine (F.mono (by omega)).imp fun vs H Q E h => ?_
    obtain ⟨hl2, Z, m', F', S, xs, sr, r, q⟩ := h
    refine ⟨hl2, Z, m', F', S, xs, sr, r, ?_⟩
    rw [run_at hT hi hl] at q
    split at q
    · exact q
    · exact q.elim
theorem tab_ok (L : LSay K mg base P G ds) (hT : tabOf T G m n ds) : ∀ d, ∀ i ∈ ds, i.lamp = false → ∀ lam, FnA0 Pg w K mg base P (4 * d) (He.fAd K i.d.at_) (runF T P.fn P.sub fuel d lam i.nm)
  | 0, i, hi, hl, lam => by
    obtain ⟨fd, Fd, hb, _⟩ := (L.d i hi).fd
    exact FnA0.bad Fd.kp hb fun _ _ => rfl
  | d + 1, i, hi, hl, lam => by
    obtain ⟨fd, Fd, hb, hcode⟩ := (L.d i hi).fd
    refine ⟨fd, i.ps, step_ok L hT (tab_ok L hT d) hi hl lam Fd hcode, Fd.kp, hb, fun xs S => ?_⟩
    rw [run_at hT hi hl]
    by_cases hx : xs.length = i.ps.length ∧ xs.any isClo = false
    · exact .inr hx.1
    · rw [if_neg hx]; exact .inl rfl
end
end Ev

end
section
set_option Elab.async false
set_option linter.all false
set_option maxRecDepth 100000
set_option maxHeartbeats 2000000
namespace Ev
open PySem PySem.Spec PyProof.Rows L2 LamX
/-! ### a law's data, and what is checked at the written part -/
structure LawI where
  fl : List (SS × List SS)
  subs : List (SS × TyQ × Bool)
  exns : List SS
  G : List (SS × GK)
  ds : List DefI
def LawI.flF (L : LawI) (c : SS) : Option (List SS) := L.fl.lookup c
def LawI.subF (L : LawI) (c : SS) (q : TyQ) : Option Bool := (L.subs.find? fun e => decide (e.1 = c) && decide (e.2.1 = q)).map (·.2.2)
def LawI.exF (L : LawI) (c : SS) : Bool := L.exns.contains c
def LawI.lms (L : LawI) : List DefI := L.ds.filter (·.lmk)
def LawI.par (L : LawI) (K : PySem.W.Frag) : Par := parOf L.flF L.subF L.exF L.lms K
def qvK (K : PySem.W.Frag) : TyQ → Value
  | .ty n => .type n
  | .own d => .ref (He.ga K d)
def tyNames : List String := ["NoneType", "int", "bool", "str", "tuple", "list", "dict"]
def clsFB (K : PySem.W.Frag) (c : SS) : Bool := (He.Fa.cls c).ok K && (He.eqO (PySem.W.findIn K (.ref (He.ga K c)) "__class__") (some (some (.builtin "object.__class__"))) && (decide (PySem.W.specialIn K (.builtin "object.__class__") "__get__" = some (some (.builtin "getset_descriptor.__get__"))) && (decide (PySem.W.takesIn K (.builtin "object.__class__") = some true) && decide (PySem.W.mroIn K (He.ga K c) (.type "object") = some true))))
def excCB (K : PySem.W.Frag) (D : Addr) : Bool := He.eqO (PySem.W.findIn K (.ref D) "__getattribute__") (some (some (.builtin "BaseException.__getattribute__"))) && (He.eqO (PySem.W.findIn K (.ref D) "__getattr__") (some none) && (decide (PySem.W.subIn K (.ref D) (.type "BaseException") = some true) && (PySem.W.hasDictIn K D &&
  (He.eqO (PySem.W.findIn K (.ref D) "__class__") (some (some (.builtin "object.__class__"))) && (decide (PySem.W.specialIn K (.builtin "object.__class__") "__get__" = some (some (.builtin "getset_descriptor.__get__"))) && (decide (PySem.W.takesIn K (.builtin "object.__class__") = some true) && decide (PySem.W.mroIn K D (.type "object") = some true)))))))
def subB (L : LawI) (K : PySem.W.Frag) (e : SS × TyQ × Bool) : Bool := decide (PySem.W.kitOne K (.ref (He.ga K e.1)) (qvK K e.2.1) = some e.2.2) && (match e.2.1 with
  | .own d => (!(decide (d = e.1) && e.2.2) || tyNames.all fun n => decide (PySem.W.kitOne K (.type n) (.ref (He.ga K d)) = some false)) && (!(L.exF e.1 && L.exF d) || decide (PySem.W.exmOne K (.ref (He.ga K e.1)) (.ref (He.ga K d)) = some e.2.2))
  | .ty _ => true)
def mkAtB (K : PySem.W.Frag) (C f : Addr) : Bool := PySem.W.makesIn K C && (He.eqO (PySem.W.findIn K (.ref C) "__init__") (some (some (.ref f))) && (PySem.W.isFn K (.ref f) && PySem.W.keepIn K (.ref C)))
def gB (L : LawI) (K : PySem.W.Frag) (x : SS) : GK → Bool
  | .fn => (He.Fa.glo x).ok K && L.ds.any fun i => decide (i.nm = x) && i.glob
  | .cls init => (He.Fa.glo x).ok K && ((L.flF x).isSome && L.ds.any fun i => decide (i.nm = init) && (!i.lamp && mkAtB K (He.ga K x) (He.fAd K i.d.at_)))
  | .exc => (He.Fa.glo x).ok K && ((He.Fa.exc x).ok K && L.exF x)
  | .int i => (He.Fa.int x i).ok K
  | .str s => (He.Fa.str x s).ok K
  | .bi _ => (He.Fa.free x).ok K
  | .ty _ => (He.Fa.free x).ok K
  | .isi => (He.Fa.free x).ok K
  | .rng => decide (x = "range") && (He.Fa.free x).ok K
  | .enu => decide (x = "enumerate") && (He.Fa.free x).ok K
  | .zip => decide (x = "zip") && (He.Fa.free x).ok K
  | .rev => decide (x = "reversed") && ((He.Fa.free x).ok K && (He.Fa.free "range").ok K)
  | .lam _ => (He.Fa.glo x).ok K && L.ds.any fun i => decide (i.nm = x) && (i.lamp && (!i.keep && (decide (i.d.name = x) && (decide (i.d.qual = x) && decide (He.fAd K i.d.at_ = He.ga K x)))))
def codeRB (K : PySem.W.Frag) (p : SS × Option SS) : Bool := match K.lookup (He.fAd K p) with
  | some ⟨_, _, .func fd, _⟩ => decide (fd.code = .ref (cdA K p))
  | _ => false
def dB (K : PySem.W.Frag) (i : DefI) : Bool := (!i.glob || decide (He.fAd K i.d.at_ = He.ga K i.nm)) && (!i.lmk || codeRB K i.d.at_)
def distB (K : PySem.W.Frag) : List DefI → Bool
  | [] => true
  | i :: r => (r.all fun j => decide (tbA K i.d.at_ ≠ tbA K j.d.at_)) && distB K r
def chkB (L : LawI) (K : PySem.W.Frag) : Bool := (L.fl.all fun p => clsFB K p.1 && p.2.all fun f => (He.Fa.noat p.1 f).ok K) && ((L.subs.all (subB L K)) && ((L.exns.all fun c => excCB K (He.ga K c)) && ((L.G.all fun p => gB L K p.1 p.2) && ((L.ds.all (dB K)) && distB K L.lms))))
/-- what the text alone must say of a name -/
def bootB (x : SS) : GK → Bool
  | .bi b => decide (bootBuiltins x = some b.val)
  | .ty n => decide (bootBuiltins x = some (.type n))
  | .isi => decide (bootBuiltins x = some (.builtin "isinstance"))
  | _ => true
/-- the code object at c bears the table P -/
def codeHB (K : PySem.W.Frag) (c P : Addr) : Bool := match K.lookup c with
  | some ⟨.type t, _, .fields vs, _⟩ => decide (t = "code") && (decide ((vs[11]? : Option Value) = some (.ref P)) && ((match vs.getD 18 .none with | .str _ _ => true | _ => false) && ((match vs.getD 7 .none with | .int _ _ => true | _ => false) && ((match vs.getD 9 .none with | .bool _ => true | _ => false) && ((match vs.getD 10 .none with | .int _ _ => true | _ => false) && decide (c ≠ P))))))
  | _ => false
theorem codeHB_ok {K : PySem.W.Frag} {c P : Addr} {h : Heap} (X : K.In h) (q : codeHB K c P = true) : PySem.W.CodeHd h c P := by
  unfold codeHB at q
  cases e : K.lookup c with
  | none => rw [e] at q; cases q
  | some o =>
    rw [e] at q
    obtain ⟨oc, od, dt, sl⟩ := o
    cases oc with
    | type t =>
      cases dt with
      | fields vs =>
        simp only [Bool.and_eq_true, decide_eq_true_eq] at q
        obtain ⟨q1, q2, q3, q4, q5, q6, q7⟩ := q
        have g11 : vs.getD 11 .none = .ref P := by
          rw [Array.getD_eq_getD_getElem?, q2]; rfl
        revert q3 q4 q5 q6
        cases e18 : vs.getD 18 .none <;> intro q3 <;> try (cases q3; done)
        cases e7 : vs.getD 7 .none <;> intro q4 <;> try (cases q4; done)
        cases e9 : vs.getD 9 .none <;> intro q5 <;> try (cases q5; done)
        cases e10 : vs.getD 10 .none <;> intro q6 <;> try (cases q6; done)
        exact ⟨_, vs, _, _, _, _, _, _, _, X _ _ e, by rw [q1], rfl, q2, g11, e18, e7, e9, e10, q7⟩
      | _ => cases q
    | _ => cases dt <;> cases q
/-! ### the Hook -/
def asE (g : Addr → Option Obj) : List Addr := (He.asD g 5).filter fun a => match g a with
  | some ⟨.none, _, _, _⟩ => false
  | _ => true
def frE (g : Addr → Option Obj) : PySem.W.Frag := He.frG g (asE g)
def tabEB (g : Addr → Option Obj) (K : PySem.W.Frag) (p : SS × Option SS) : Bool := codeHB K (cdA K p) (tbA K p) && ((K.lookup (tbA K p)).isNone && (match g (tbA K p) with
  | some ⟨.none, none, .fields vs, sl⟩ => vs.isEmpty && sl.isEmpty
  | _ => false))
def obsE (L : LawI) (fa : List He.Fa) (g : Addr → Option Obj) : Bool × He.AlD := (chkB L (frE g) && L.lms.all fun i => tabEB g (frE g) i.d.at_, He.obsD fa (L.ds.map (·.d)) (frE g))
def SaysE (L : LawI) (fa : List He.Fa) (h : Heap) : Prop := ∃ K : PySem.W.Frag, K.In h ∧ He.SaysD fa (L.ds.map (·.d)) K ∧ chkB L K = true ∧ ∀ i ∈ L.lms, codeHB K (cdA K i.d.at_) (tbA K i.d.at_) = true ∧ K.lookup (tbA K i.d.at_) = none ∧ h.get? (tbA K i.d.at_) = some { cls := .none, data := .fields #[] }
def hookE (L : LawI) (fa : List He.Fa) : PySem.W.Hook where
  α := Bool × He.AlD
  obs := fun s => obsE L fa s.heap.get?
  val := fun _ => (true, He.valD (L.ds.map (·.d)))
  says := fun _ h => SaysE L fa h
  of := fun _ s e => by
    have e1 := congrArg (fun z : Bool × He.AlD => z.1) e
    have e2 := congrArg (fun z : Bool × He.AlD => z.2) e
    obtain ⟨c1, c2⟩ := Bool.and_eq_true_iff.mp (show (chkB L (frE s.heap.get?) && L.lms.all fun i => tabEB s.heap.get? (frE s.heap.get?) i.d.at_) = true from e1)
    refine ⟨frE s.heap.get?, He.frG_in, e2, c1, fun i hi => ?_⟩
    have c3 := List.all_eq_true.mp c2 i hi
    unfold tabEB at c3
    obtain ⟨c4, c5⟩ := Bool.and_eq_true_iff.mp c3
    obtain ⟨c5, c6⟩ := Bool.and_eq_true_iff.mp c5
    refine ⟨c4, by simpa using c5, ?_⟩
    split at c6
    · rename_i vs sl e
      obtain ⟨d1, d2⟩ := Bool.and_eq_true_iff.mp c6
      have v0 : vs = #[] := by simpa using d1
      have s0 : sl = #[] := by simpa using d2
      rw [e, v0, s0]
    · cases c6
  keeps := fun _ _ _ ⟨K, hK, c, d, t⟩ k => ⟨K, PySem.W.Frag.In.keeps hK k, c, d, fun i hi => ⟨(t i hi).1, (t i hi).2.1, k _ _ (t i hi).2.2⟩⟩
theorem obsE_eq {L : LawI} {fa : List He.Fa} {g : Addr → Option Obj} {s : Shared} (h : ∀ a, g a = s.heap.get? a) : obsE L fa g = (hookE L fa).obs s := by
  have e : g = s.heap.get? := funext h
  rw [e] <;> rfl
/-! ### from the checks to what is said -/
structure DPure (i : DefI) : Prop where
  bind : ∀ (kV doc pm : Value) (an : Option Addr) (cdv ct : Value) (us : List Value), us.length = i.ps.length → bindArgs (PySem.W.fnOf i.d.name i.d.qual i.d.params i.d.body i.d.scope .none kV doc pm an cdv ct) ⟨us, []⟩ = pure (i.ps.zip us)
  sc : FnScope i.N i.ps i.d.scope
  gl : i.lamp = true → i.glob = false ∧ i.keep = false ∧ i.lmk = false ∧ ∃ a, i.ps = [a] ∧ okNm a = true ∧ Vis i.d.scope a
  df : i.d.dfl = [] ∧ i.d.kwd = []
section
variable {L : LawI} {K : PySem.W.Frag} {h base : Heap} {mg : SS → Option Value} {fa : List He.Fa}
theorem subF_mem {c : SS} {q : TyQ} {b : Bool} (e : L.subF c q = some b) : (c, q, b) ∈ L.subs := by
  unfold LawI.subF at e
  obtain ⟨p, e1, e2⟩ := Option.map_eq_some_iff.mp e
  have m := List.mem_of_find?_eq_some e1
  have t := List.find?_some e1
  simp only [Bool.and_eq_true, decide_eq_true_eq] at t
  obtain ⟨p1, p2, p3⟩ := p
  obtain ⟨t1, t2⟩ := t
  simp only at t1 t2 e2
  subst t1 t2 e2
  exact m
theorem clsFB_ok {c : SS} (q : clsFB K c = true) : ClsF K (He.ga K c) := by
  obtain ⟨q1, q⟩ := Bool.and_eq_true_iff.mp q
  obtain ⟨q2, q⟩ := Bool.and_eq_true_iff.mp q
  obtain ⟨q3, q⟩ := Bool.and_eq_true_iff.mp q
  obtain ⟨q4, q5⟩ := Bool.and_eq_true_iff.mp q
  exact ⟨He.cls_ok q1, He.eqO_ok q2, of_decide_eq_true q3, of_decide_eq_true q4, of_decide_eq_true q5⟩
theorem excCB_ok {D : Addr} (q : excCB K D = true) : ExcC K D := by
  obtain ⟨q1, q⟩ := Bool.and_eq_true_iff.mp q
  obtain ⟨q2, q⟩ := Bool.and_eq_true_iff.mp q
  obtain ⟨q3, q⟩ := Bool.and_eq_true_iff.mp q
  obtain ⟨q4, q⟩ := Bool.and_eq_true_iff.mp q
  obtain ⟨q5, q⟩ := Bool.and_eq_true_iff.mp q
  obtain ⟨q6, q⟩ := Bool.and_eq_true_iff.mp q
  obtain ⟨q7, q8⟩ := Bool.and_eq_true_iff.mp q
  exact ⟨He.eqO_ok q1, He.eqO_ok q2, of_decide_eq_true q3, q4, He.eqO_ok q5, of_decide_eq_true q6, of_decide_eq_true q7, of_decide_eq_true q8⟩
theorem parOk (ck : chkB L K = true) : ParOk (L.par K) := by
  obtain ⟨c1, ck⟩ := Bool.and_eq_true_iff.mp ck
  obtain ⟨c2, ck⟩ := Bool.and_eq_true_iff.mp ck
  obtain ⟨c3, ck⟩ := Bool.and_eq_true_iff.mp ck
  have sub : ∀ {c q b}, L.subF c q = some b → subB L K (c, q, b) = true := fun e => List.all_eq_true.mp c2 _ (subF_mem e)
  refine ⟨fun c ns e => ?_, fun c ns f e hf => ?_, fun c q b e => ?_, fun d n e hn => ?_, fun c d b h1 h2 e => ?_, fun c e => ?_⟩
  · exact clsFB_ok (Bool.and_eq_true_iff.mp (List.all_eq_true.mp c1 _ (lookup_mem e))).1
  · exact He.noat_ok (List.all_eq_true.mp (Bool.and_eq_true_iff.mp (List.all_eq_true.mp c1 _ (lookup_mem e))).2 f hf)
  · have := (Bool.and_eq_true_iff.mp (sub e)).1
    cases q <;> exact of_decide_eq_true this
  · have q := (Bool.and_eq_true_iff.mp (Bool.and_eq_true_iff.mp (sub e)).2).1
    simp only [decide_true, Bool.and_self, Bool.not_true, Bool.false_or] at q
    exact of_decide_eq_true (List.all_eq_true.mp q n hn)
  · have q := (Bool.and_eq_true_iff.mp (Bool.and_eq_true_iff.mp (sub e)).2).2
    have e1 : L.exF c = true := h1
    have e2 : L.exF d = true := h2
    simp only [e1, e2, Bool.and_self, Bool.not_true, Bool.false_or] at q
    exact of_decide_eq_true q
  · have e : L.exns.contains c = true := e
    exact excCB_ok (List.all_eq_true.mp c3 c (by simpa using e))
theorem mkAtB_ok {C f : Addr} (q : mkAtB K C f = true) : Mk K C f := by
  obtain ⟨q1, q⟩ := Bool.and_eq_true_iff.mp q
  obtain ⟨q2, q⟩ := Bool.and_eq_true_iff.mp q
  obtain ⟨q3, q4⟩ := Bool.and_eq_true_iff.mp q
  exact ⟨q1, He.eqO_ok q2, q3, q4⟩
theorem gB_ok (X : K.In h) (Gn : h.Ns mainGlobals mg) {x : SS} {v : GK} (q : gB L K x v = true) (hb : bootB x v = true) : GSay K mg (L.par K) L.ds x v := by
  cases v with
  | fn =>
    obtain ⟨q1, q2⟩ := Bool.and_eq_true_iff.mp q
    obtain ⟨i, hi, q3⟩ := List.any_eq_true.mp q2
    obtain ⟨q3, q4⟩ := Bool.and_eq_true_iff.mp q3
    exact ⟨⟨i, hi, of_decide_eq_true q3, q4⟩, He.glo_ok X Gn q1⟩
  | cls init =>
    obtain ⟨q1, q2⟩ := Bool.and_eq_true_iff.mp q
    obtain ⟨q2, q5⟩ := Bool.and_eq_true_iff.mp q2
    obtain ⟨i, hi, q3⟩ := List.any_eq_true.mp q5
    obtain ⟨q3, q4⟩ := Bool.and_eq_true_iff.mp q3
    obtain ⟨q4, q6⟩ := Bool.and_eq_true_iff.mp q4
    exact ⟨He.glo_ok X Gn q1, q2, i, hi, of_decide_eq_true q3, by simpa using q4, mkAtB_ok q6⟩
  | exc =>
    obtain ⟨q1, q2⟩ := Bool.and_eq_true_iff.mp q
    obtain ⟨q2, q3⟩ := Bool.and_eq_true_iff.mp q2
    obtain ⟨r1, r2, r3, r4⟩ := He.exc_ok q2
    exact ⟨He.glo_ok X Gn q1, q3, r2, r3, r4, _, _, _, _, PySem.F.excBase_ValueError, r1⟩
  | int i => exact He.int_ok X Gn q
  | str s => exact He.str_ok X Gn q
  | bi b => exact ⟨He.free_ok X Gn q, of_decide_eq_true hb⟩
  | ty n => exact ⟨He.free_ok X Gn q, of_decide_eq_true hb⟩
  | isi => exact ⟨He.free_ok X Gn q, of_decide_eq_true hb⟩
  | rng =>
    obtain ⟨q1, q2⟩ := Bool.and_eq_true_iff.mp q
    have e := of_decide_eq_true q1
    subst e
    exact ⟨rfl, He.free_ok X Gn q2⟩
  | enu =>
    obtain ⟨q1, q2⟩ := Bool.and_eq_true_iff.mp q
    have e := of_decide_eq_true q1
    subst e
    exact ⟨rfl, He.free_ok X Gn q2⟩
  | zip =>
    obtain ⟨q1, q2⟩ := Bool.and_eq_true_iff.mp q
    have e := of_decide_eq_true q1
    subst e
    exact ⟨rfl, He.free_ok X Gn q2⟩
  | rev =>
    obtain ⟨q1, q2⟩ := Bool.and_eq_true_iff.mp q
    obtain ⟨q2, q3⟩ := Bool.and_eq_true_iff.mp q2
    have e := of_decide_eq_true q1
    subst e
    exact ⟨rfl, He.free_ok X Gn q2, He.free_ok X Gn q3⟩
  | lam d =>
    obtain ⟨q1, q2⟩ := Bool.and_eq_true_iff.mp q
    obtain ⟨i, hi, q3⟩ := List.any_eq_true.mp q2
    simp only [Bool.and_eq_true, decide_eq_true_eq, Bool.not_eq_true'] at q3
    obtain ⟨q3, q4, q5, q6, q7, q8⟩ := q3
    exact ⟨He.glo_ok X Gn q1, i, hi, q3, q4, q5, q6, q7, q8⟩
theorem distB_ok : ∀ {l : List DefI}, distB K l = true → ∀ i ∈ l, ∀ j ∈ l, tbA K i.d.at_ = tbA K j.d.at_ → qualOf i.d.qual = qualOf j.d.qual
  | [], _, i, hi, _, _, _ => by cases hi
  | a :: l, q, i, hi, j, hj, e => by
    obtain ⟨q1, q2⟩ := Bool.and_eq_true_iff.mp q
    have ne : ∀ j ∈ l, tbA K a.d.at_ ≠ tbA K j.d.at_ := fun j hj => of_decide_eq_true (List.all_eq_true.mp q1 j hj)
    rcases List.mem_cons.mp hi with h1 | h1 <;> rcases List.mem_cons.mp hj with h2 | h2
    · rw [h1, h2]
    · subst h1; exact absurd e (ne j h2)
    · subst h2; exact absurd e.symm (ne i h1)
    · exact distB_ok q2 i h1 j h2 e
theorem lsay (X : K.In h) (Gn : h.Ns mainGlobals mg) (c : He.SaysD fa (L.ds.map (·.d)) K) (ck : chkB L K = true) (hb : (L.G.all fun p => bootB p.1 p.2) = true) (hp : ∀ i ∈ L.ds, DPure i) (tb : ∀ i ∈ L.lms, TabB base mg (cdA K i.d.at_) (tbA K i.d.at_)) : LSay K mg base (L.par K) L.G L.ds := by
  have pk := parOk ck
  obtain ⟨c1, ck⟩ := Bool.and_eq_true_iff.mp ck
  obtain ⟨c2, ck⟩ := Bool.and_eq_true_iff.mp ck
  obtain ⟨c3, ck⟩ := Bool.and_eq_true_iff.mp ck
  obtain ⟨c4, ck⟩ := Bool.and_eq_true_iff.mp ck
  obtain ⟨c5, c6⟩ := Bool.and_eq_true_iff.mp ck
  refine ⟨rfl, ⟨rfl, rfl⟩, pk, fun p hpG => gB_ok X Gn (List.all_eq_true.mp c4 p hpG) (List.all_eq_true.mp hb p hpG), fun i hi => ?_⟩
  have D := hp i hi
  obtain ⟨q1, q2⟩ := Bool.and_eq_true_iff.mp (List.all_eq_true.mp c5 i hi)
  refine ⟨?_, D.sc, fun hg => ?_, D.gl, fun hl => ?_⟩
  · obtain ⟨j, hj, e⟩ := List.getElem_of_mem hi
    obtain ⟨fd, Fd⟩ := c.def_ j (d := i.d) (by rw [List.getElem?_map, List.getElem?_eq_getElem hj, e]; rfl)
    have Fd : L2.FunD K i.d.name i.d.qual i.d.params i.d.body i.d.scope [] [] (He.fAd K i.d.at_) fd := by
      have e1 : i.d.dvs K = [] := by unfold He.DefD.dvs; rw [D.df.1]; rfl
      have e2 : i.d.kws K = [] := by unfold He.DefD.kws; rw [D.df.2]; rfl
      rw [e1, e2] at Fd
      exact Fd
    refine ⟨fd, Fd, ?_, fun hl => ?_⟩
    · obtain ⟨oc, od, dV, kV, doc, pm, an, cdv, ct, osl, rfl, _, _, hD, _⟩ := Fd.ex
      obtain rfl : dV = .none := hD.elim (fun z => z.2) (fun z => absurd rfl z.1)
      exact Binds.all fun us hl => D.bind kV doc pm an cdv ct us hl
    · rw [hl, Bool.not_true, Bool.false_or] at q2
      obtain ⟨oc, od, dV, kV, doc, pm, an, cdv, ct, osl, rfl, lk, _⟩ := Fd.ex
      unfold codeRB at q2
      rw [lk] at q2
      exact of_decide_eq_true q2
  · rw [hg, Bool.not_true, Bool.false_or] at q1
    exact of_decide_eq_true q1
  · have hm : i ∈ L.lms := List.mem_filter.mpr ⟨hi, hl⟩
    refine ⟨tb i hm, List.mem_map.mpr ⟨i, hm, rfl⟩, fun p hp' e => ?_⟩
    obtain ⟨j, hj, rfl⟩ := List.mem_map.mp hp'
    exact distB_ok c6 j hj i hm e
/-- the law's end: F gives what the law's function says over every base -/
theorem law_at {l : PySem.W.OpenLaw} {w : World} {n : Nat} {f0 : Addr} {x : SS} {T : Tab} {m nn fuel d : Nat} {i : DefI} (X : K.In h) (Gn : h.Ns mainGlobals mg) (hm0 : mg i.nm = some (.ref f0)) (c : He.SaysD fa (L.ds.map (·.d)) K) (ck : chkB L K = true) (hb : (L.G.all fun p => bootB p.1 p.2) = true) (hp : ∀ i ∈ L.ds, DPure i)
    (tt : ∀ i ∈ L.lms, codeHB K (cdA K i.d.at_) (tbA K i.d.at_) = true ∧ K.lookup (tbA K i.d.at_) = none ∧ h.get? (tbA K i.d.at_) = some { cls := .none, data := .fields #[] }) (hT : tabOf T L.G m nn L.ds) (hi : i ∈ L.ds) (hi1 : i.lamp = false) (hi2 : i.lmk = false) (hi3 : i.glob = true) (hi4 : i.ps = [x]) (hi5 : (i.nm, GK.fn) ∈ L.G)
    (hr : ∀ (ns : List Int), ns.length ≤ n → (∀ z ∈ ns, Builtin.Int.intBits z ≤ 1048576) → ∃ S', runF T L.flF L.subF fuel (d + 1) (fun _ => .bad) i.nm [.scr ns] [] = .ok (.bl true) S') :
    LawAtS l w K (L2.CX l.prog w) (4 * (d + 1)) n x mg f0 h := by
  obtain ⟨j, hj, e⟩ := List.getElem_of_mem hi
  have D := hp i hi
  obtain ⟨fd, Fd⟩ := c.def_ j (d := i.d) (by rw [List.getElem?_map, List.getElem?_eq_getElem hj, e]; rfl)
  have Fd : L2.FunD K i.d.name i.d.qual i.d.params i.d.body i.d.scope [] [] (He.fAd K i.d.at_) fd := by
    have e1 : i.d.dvs K = [] := by unfold He.DefD.dvs; rw [D.df.1]; rfl
    have e2 : i.d.kws K = [] := by unfold He.DefD.kws; rw [D.df.2]; rfl
    rw [e1, e2] at Fd
    exact Fd
  have ga : He.fAd K i.d.at_ = f0 := by
    have ck' := ck
    obtain ⟨c1, ck⟩ := Bool.and_eq_true_iff.mp ck'
    obtain ⟨c2, ck⟩ := Bool.and_eq_true_iff.mp ck
    obtain ⟨c3, ck⟩ := Bool.and_eq_true_iff.mp ck
    obtain ⟨c4, ck⟩ := Bool.and_eq_true_iff.mp ck
    obtain ⟨c5, c6⟩ := Bool.and_eq_true_iff.mp ck
    obtain ⟨q1, q2⟩ := Bool.and_eq_true_iff.mp (List.all_eq_true.mp c5 i hi)
    rw [hi3, Bool.not_true, Bool.false_or] at q1
    rw [of_decide_eq_true q1]
    have g := (gB_ok X Gn (List.all_eq_true.mp c4 _ hi5) rfl).2
    have g : mg i.nm = some (.ref (He.ga K i.nm)) := g
    rw [hm0] at g
    cases g
    rfl
  have bnd : L2.Binds K fd [x] [] := by
    obtain ⟨oc, od, dV, kV, doc, pm, an, cdv, ct, osl, rfl, _, _, hD, _⟩ := Fd.ex
    obtain rfl : dV = .none := hD.elim (fun z => z.2) (fun z => absurd rfl z.1)
    exact Binds.all fun us hl => by
      have := D.bind kV doc pm an cdv ct us (by rw [hi4]; exact hl)
      rw [hi4] at this
      exact this
  refine ⟨fd, L.lms.map fun i => (cdA K i.d.at_, tbA K i.d.at_), spF (L.par K) (runF T L.flF L.subF fuel (d + 1) (fun _ => .bad) i.nm) 1, fun p hp' => ?_, fun p hp' => ?_, fun p hp' => ?_, fun s u => ?_, fun H a ns hl hbits hH hS => ?_, fun base KB GB tb => ?_⟩
  · obtain ⟨i', hi', rfl⟩ := List.mem_map.mp hp'
    exact (tt i' hi').2.2
  · obtain ⟨i', hi', rfl⟩ := List.mem_map.mp hp'
    exact (tt i' hi').2.1
  · obtain ⟨i', hi', rfl⟩ := List.mem_map.mp hp'
    exact codeHB_ok X (tt i' hi').1
  · obtain ⟨oc, od, dV, kV, doc, pm, an, cdv, ct, osl, rfl, _, _, hD, _⟩ := Fd.ex
    obtain rfl : dV = .none := hD.elim (fun z => z.2) (fun z => absurd rfl z.1)
    have := D.bind kV doc pm an cdv ct [u] (by rw [hi4]; rfl)
    rw [hi4] at this
    exact .of_eq this
  · obtain ⟨S', hS'⟩ := hr ns hl hbits
    -- what stays: the script alone
    have key : ∃ Z : Hp, Same Z H ∧ (∀ a ps, Z a ≠ some (.tbl ps)) ∧ SqL K Z a (ns.map V.int) := by
      rcases hS with (e | ⟨o, e⟩) | e
      · refine ⟨upd (fun _ => none) a (.lst (ns.map V.int)), fun b u q => ?_, fun b ps q => ?_, .inl (.inl upd_same)⟩
        · by_cases hb : b = a
          · subst hb; rw [upd_same] at q; cases q; exact e
          · rw [upd_ne hb] at q; cases q
        · by_cases hb : b = a
          · subst hb; rw [upd_same] at q; cases q
          · rw [upd_ne hb] at q; cases q
      · refine ⟨upd (fun _ => none) a (.frz o (.lst (ns.map V.int))), fun b u q => ?_, fun b ps q => ?_, .inl (.inr ⟨o, upd_same⟩)⟩
        · by_cases hb : b = a
          · subst hb; rw [upd_same] at q; cases q; exact e
          · rw [upd_ne hb] at q; cases q
        · by_cases hb : b = a
          · subst hb; rw [upd_same] at q; cases q
          · rw [upd_ne hb] at q; cases q
      · exact ⟨fun _ => none, fun b u q => (by cases q), fun b ps q => (by cases q), .inr e⟩
    obtain ⟨Z, z1, z2, z3⟩ := key
    refine ⟨rfl, Z, [], fun _ => none, [], [.scr ns], ⟨z1, fun b u q => (by cases q), fun b u q => rfl, rfl, .nil, fun b hb => (by cases hb), fun i c e => (by simp at e), ⟨fun p hp' => ?_, z2, fun b ps q => (by cases q), fun b φ q => (by cases q)⟩⟩, ⟨.ref a, [], rfl, ⟨a, rfl, z3⟩, rfl⟩, ?_⟩
    · obtain ⟨i', hi', rfl⟩ := List.mem_map.mp hp'
      exact TabS.nil (hH _ (List.mem_map.mpr ⟨i', hi', rfl⟩))
    · rw [hS']
      exact fun Z' m' u H' _ _ _ r => r
  · have LS := lsay (base := base) X Gn c ck hb hp fun i' hi' => tb _ (List.mem_map.mpr ⟨i', hi', rfl⟩)
    have := step_ok (Pg := l.prog) (w := w) (fuel := fuel) LS hT (tab_ok LS hT d) hi hi1 (fun _ => .bad) Fd (fun z => by rw [hi2] at z; cases z)
    rw [ga, hi4] at this
    exact this
end
end Ev
namespace Ev
open PySem PySem.Spec PyProof.Rows L2 LamX
theorem tab_of {L : LawI} {T : Tab} {m n : Nat} (hn : (L.ds.all fun i => decide ((L.ds.find? fun j => decide (j.nm = i.nm)).map (·.nm) = some i.nm) && decide ((L.ds.filter fun j => decide (j.nm = i.nm)).length = 1)) = true) (hT : T = fun x => (L.ds.find? fun i => decide (i.nm = x)).map (DefI.fn L.G m n)) : tabOf T L.G m n L.ds := by
  subst hT
  refine ⟨fun i hi => ?_, fun x f e => ?_⟩
  · have q := (Bool.and_eq_true_iff.mp (List.all_eq_true.mp hn i hi)).2
    have q := of_decide_eq_true q
    cases e : L.ds.find? fun j => decide (j.nm = i.nm) with
    | none =>
      have := List.find?_eq_none.mp e i hi
      simp at this
    | some j =>
      have hj := List.mem_of_find?_eq_some e
      have hjn : j.nm = i.nm := of_decide_eq_true (List.find?_some (p := fun j : DefI => decide (j.nm = i.nm)) e)
      have m1 : i ∈ L.ds.filter fun j => decide (j.nm = i.nm) := List.mem_filter.mpr ⟨hi, by simp⟩
      have m2 : j ∈ L.ds.filter fun j => decide (j.nm = i.nm) := List.mem_filter.mpr ⟨hj, by simp [hjn]⟩
      obtain ⟨a, ha⟩ := List.length_eq_one_iff.mp q
      rw [ha] at m1 m2
      simp at m1 m2
      rw [m1, ← m2]
      simp only [Option.map_some]
      rw [m2, ← m1, e, m1, ← m2]
      rfl
  · obtain ⟨i, e1, e2⟩ := Option.map_eq_some_iff.mp e
    exact ⟨i, List.mem_of_find?_eq_some e1, of_decide_eq_true (List.find?_some (p := fun j : DefI => decide (j.nm = x)) e1)⟩
end Ev

end
section
set_option Elab.async false
set_option linter.all false
set_option maxRecDepth 100000
set_option maxHeartbeats 1000000
/-! plain lemmas about the evaluator -/
namespace Ev
open PySem L2
theorem oldOk_same (b : Nat) : ∀ S : Store, oldOk b S S = true
  | [] => rfl
  | c :: S => by simp [oldOk, Cell.beq_self, oldOk_same b S]
theorem oldOk_app (b : Nat) : ∀ (S S1 X : Store), oldOk b S S1 = true → oldOk b S (S1 ++ X) = true
  | [], _, _, _ => by simp [oldOk]
  | c :: S, [], _, h => by simp [oldOk] at h
  | c :: S, d :: S1, X, h => by
    simp only [oldOk, Bool.and_eq_true, List.cons_append] at h ⊢
    exact ⟨h.1, oldOk_app b S S1 X h.2⟩
theorem oldOk_set (b : Nat) {c : Cell} (hc : c.blw b = true) : ∀ (S : Store) (i : Nat), oldOk b S (S.set i c) = true
  | [], _ => rfl
  | d :: S, 0 => by simp [oldOk, hc, oldOk_same]
  | d :: S, i + 1 => by simp [oldOk, Cell.beq_self, oldOk_set b hc S i]
theorem closeV_gen {S S1 X : Store} {v w : PV} (ho : oldOk S.length S S1 = true) (hl : S1.length = S.length) (hf : frz 8 (S1 ++ X) S.length v = some w) : closeV false S v (S1 ++ X) = .ok w S1 := by
  unfold closeV
  rw [if_neg (by decide), hf]
  simp only [oldOk_app _ _ _ X ho, guardR_true]
  rw [← hl, List.take_left]
theorem frz_blw {n : Nat} {S : Store} {b : Nat} {v : PV} (h : v.blw b = true) : frz n S b v = some v := by
  cases n <;> (unfold frz; rw [if_pos h])
theorem closeV_same {S : Store} {v : PV} (h : v.blw S.length = true) : closeV false S v S = .ok v S := by
  have := closeV_gen (X := []) (oldOk_same S.length S) rfl (by rw [List.append_nil]; exact frz_blw h)
  rwa [List.append_nil] at this
theorem closeR_rt {S S' : Store} {v : PV} : closeR false S (.rt v S') = closeV false S v S' := rfl
theorem closeR_nx {S S' : Store} {σ : Sl} : closeR false S (.nx σ S') = closeV false S .non S' := rfl
theorem closeR_exc {S : Store} {σ : Sl} {c : SS} : closeR false S (.exc c [] σ S) = .exc c [] S := by
  unfold closeR
  simp [oldOk_same]
section
variable {T : Tab} {fl : SS → Option (List SS)} {sub : SS → TyQ → Option Bool} {fuel : Nat}
abbrev cf (T : Tab) (fl : SS → Option (List SS)) (sub : SS → TyQ → Option Bool) (fuel d : Nat) (lam : Store → Rs PV) : Cfg := ⟨runF T fl sub fuel d, lam, fuel, fl, sub, fun x => knT T x⟩
theorem run1 {x : SS} {np nn : Nat} {glob : Bool} {b : DenS} (h : T x = some ⟨np, nn, false, false, glob, b⟩) {args : List PV} (hl : args.length = np) (hc : args.any isClo = false) (d : Nat) (lam : Store → Rs PV) (S : Store) :
    runF T fl sub fuel (d + 1) lam x args S = closeR false S (b (cf T fl sub fuel d lam) (startP nn args) S) := by
  show (match T x with
    | none => Rs.bad
    | some f => if args.length = f.np ∧ args.any isClo = f.lamp then closeR f.keep S (f.body (if f.lamp then ⟨fun _ _ _ _ => .bad, lam, fuel, fl, sub, fun _ => false⟩ else ⟨runF T fl sub fuel d, lam, fuel, fl, sub, fun x => knT T x⟩) (startP f.nn args) S) else .bad) = _
  rw [h]
  simp only [hl, hc, and_self, if_true]
  rfl
end
theorem kit_int_int : kitB "int" "int" = some true := by kernel_rfl
theorem kit_int_bool : kitB "int" "bool" = some false := by kernel_rfl
theorem kit_bool_int : kitB "bool" "int" = some true := by kernel_rfl
theorem kit_bool_bool : kitB "bool" "bool" = some true := by kernel_rfl
theorem kit_non_int : kitB "NoneType" "int" = some false := by kernel_rfl
theorem kit_str_int : kitB "str" "int" = some false := by kernel_rfl
theorem kit_tup_int : kitB "tuple" "int" = some false := by kernel_rfl
theorem kit_lst_int : kitB "list" "int" = some false := by kernel_rfl
theorem kit_tup_tup : kitB "tuple" "tuple" = some true := by kernel_rfl
theorem kit_lst_tup : kitB "list" "tuple" = some false := by kernel_rfl
theorem kit_int_tup : kitB "int" "tuple" = some false := by kernel_rfl
theorem kit_int_lst : kitB "int" "list" = some false := by kernel_rfl
theorem kit_tup_lst : kitB "tuple" "list" = some false := by kernel_rfl
theorem kit_lst_lst : kitB "list" "list" = some true := by kernel_rfl
theorem kit_bl_tup : kitB "bool" "tuple" = some false := by kernel_rfl
theorem kit_bl_lst : kitB "bool" "list" = some false := by kernel_rfl
theorem kit_non_tup : kitB "NoneType" "tuple" = some false := by kernel_rfl
theorem kit_non_lst : kitB "NoneType" "list" = some false := by kernel_rfl
theorem kit_str_tup : kitB "str" "tuple" = some false := by kernel_rfl
theorem kit_str_lst : kitB "str" "list" = some false := by kernel_rfl
theorem kit_int_str : kitB "int" "str" = some false := by kernel_rfl
theorem kit_str_str : kitB "str" "str" = some true := by kernel_rfl
theorem kit_non_bool : kitB "NoneType" "bool" = some false := by kernel_rfl
theorem kit_str_bool : kitB "str" "bool" = some false := by kernel_rfl
theorem kit_tup_bool : kitB "tuple" "bool" = some false := by kernel_rfl
theorem kit_lst_bool : kitB "list" "bool" = some false := by kernel_rfl
theorem kit_bool_str : kitB "bool" "str" = some false := by kernel_rfl
end Ev

/-! applied -/
namespace Ev
open PySem L2
@[simp] theorem dCst_ap (v : PV) (C : Cfg) (σ : Sl) (S : Store) : Ev.dCst v C σ S = .ok v S := rfl
@[simp] theorem dVar_ap (i : Nat) (C : Cfg) (σ : Sl) (S : Store) : Ev.dVar i C σ S = match σ[i]? with
  | some (some v) => .ok v S
  | _ => .bad := rfl
@[simp] theorem dBin_ap (op : PySem.Operator) (a b : Den) (C : Cfg) (σ : Sl) (S : Store) : Ev.dBin op a b C σ S = (a C σ S).bnd fun x S => (b C σ S).bnd fun y S => binV op x y S := rfl
@[simp] theorem dBinM_ap (op : PySem.Operator) (a b : Den) (C : Cfg) (σ : Sl) (S : Store) : Ev.dBinM op a b C σ S = (a C σ S).bnd fun x S => (b C σ S).bnd fun y S => binVM op x y S := rfl
@[simp] theorem dUn_ap (op : PySem.UnaryOp) (a : Den) (C : Cfg) (σ : Sl) (S : Store) : Ev.dUn op a C σ S = (a C σ S).bnd fun x S => unV op x S := rfl
@[simp] theorem tCmp_ap (op : PySem.CmpOp) (a b : Den) (C : Cfg) (σ : Sl) (S : Store) : Ev.tCmp op a b C σ S = (a C σ S).bnd fun x S => (b C σ S).bnd fun y S => cmpV C op x y S := rfl
@[simp] theorem tChn_ap (op op' : PySem.CmpOp) (a b c : Den) (C : Cfg) (σ : Sl) (S : Store) : Ev.tChn op op' a b c C σ S = (a C σ S).bnd fun x S => (b C σ S).bnd fun y S => (cmpV C op x y S).bnd fun k S =>
  if k then (c C σ S).bnd fun z S => cmpV C op' y z S else .ok false S := rfl
@[simp] theorem tAnd_ap (a b : DenT) (C : Cfg) (σ : Sl) (S : Store) : Ev.tAnd a b C σ S = (a C σ S).bnd fun k S => if k then b C σ S else .ok false S := rfl
@[simp] theorem tOr_ap (a b : DenT) (C : Cfg) (σ : Sl) (S : Store) : Ev.tOr a b C σ S = (a C σ S).bnd fun k S => if k then .ok true S else b C σ S := rfl
@[simp] theorem tNot_ap (a : DenT) (C : Cfg) (σ : Sl) (S : Store) : Ev.tNot a C σ S = (a C σ S).bnd fun k S => .ok (!k) S := rfl
@[simp] theorem tVal_ap (a : Den) (C : Cfg) (σ : Sl) (S : Store) : Ev.tVal a C σ S = (a C σ S).bnd fun x S => match truV S x with
  | some k => .ok k S
  | none => .bad := rfl
@[simp] theorem dTst_ap (a : DenT) (C : Cfg) (σ : Sl) (S : Store) : Ev.dTst a C σ S = (a C σ S).bnd fun k S => .ok (.bl k) S := rfl
@[simp] theorem dAnd_ap (a b : Den) (C : Cfg) (σ : Sl) (S : Store) : Ev.dAnd a b C σ S = (a C σ S).bnd fun x S => (asB x S).bnd fun k S => if k then b C σ S else .ok (.bl false) S := rfl
@[simp] theorem dOr_ap (a b : Den) (C : Cfg) (σ : Sl) (S : Store) : Ev.dOr a b C σ S = (a C σ S).bnd fun x S => (asB x S).bnd fun k S => if k then .ok (.bl true) S else b C σ S := rfl
@[simp] theorem dNot_ap (a : Den) (C : Cfg) (σ : Sl) (S : Store) : Ev.dNot a C σ S = (a C σ S).bnd fun x S => (asB x S).bnd fun k S => .ok (.bl (!k)) S := rfl
@[simp] theorem dIte_ap (t : DenT) (a b : Den) (C : Cfg) (σ : Sl) (S : Store) : Ev.dIte t a b C σ S = (t C σ S).bnd fun k S => if k then a C σ S else b C σ S := rfl
@[simp] theorem lNil_ap  (C : Cfg) (σ : Sl) (S : Store) : Ev.lNil  C σ S = .ok [] S := rfl
@[simp] theorem lCons_ap (a : Den) (l : DenL) (C : Cfg) (σ : Sl) (S : Store) : Ev.lCons a l C σ S = (a C σ S).bnd fun x S => (l C σ S).bnd fun xs S => .ok (x :: xs) S := rfl
@[simp] theorem dTup_ap (l : DenL) (C : Cfg) (σ : Sl) (S : Store) : Ev.dTup l C σ S = (l C σ S).bnd fun xs S => guardR (decide (xs.length ≤ sizeLine)) (.ok (.tup xs) S) := rfl
@[simp] theorem dLst_ap (mt : Bool) (l : DenL) (C : Cfg) (σ : Sl) (S : Store) : Ev.dLst mt l C σ S = (l C σ S).bnd fun xs S => guardR (decide (xs.length ≤ sizeLine)) (mkLst mt xs S) := rfl
@[simp] theorem dIx_ap (a b : Den) (C : Cfg) (σ : Sl) (S : Store) : Ev.dIx a b C σ S = (a C σ S).bnd fun x S => (b C σ S).bnd fun y S => ixV x y S := rfl
@[simp] theorem pNo_ap  (C : Cfg) (σ : Sl) (S : Store) : Ev.pNo  C σ S = .ok none S := rfl
@[simp] theorem pSome_ap (a : Den) (C : Cfg) (σ : Sl) (S : Store) : Ev.pSome a C σ S = (a C σ S).bnd fun x S => asPart x S := rfl
@[simp] theorem dSl_ap (a : Den) (lo hi : DenP) (C : Cfg) (σ : Sl) (S : Store) : Ev.dSl a lo hi C σ S = (a C σ S).bnd fun x S => (lo C σ S).bnd fun l S => (hi C σ S).bnd fun h S => slV x l h S := rfl
@[simp] theorem dFld_ap (f : SS) (a : Den) (C : Cfg) (σ : Sl) (S : Store) : Ev.dFld f a C σ S = (a C σ S).bnd fun x S => fldV C f x S := rfl
@[simp] theorem dCall_ap (f : SS) (l : DenL) (C : Cfg) (σ : Sl) (S : Store) : Ev.dCall f l C σ S = (l C σ S).bnd fun xs S => C.call C.lam f xs S := rfl
@[simp] theorem dCallL_ap (i : Nat) (l : DenL) (C : Cfg) (σ : Sl) (S : Store) : Ev.dCallL i l C σ S = match σ[i]? with
  | some (some (.gl f)) => guardR (C.kn f) ((l C σ S).bnd fun xs S => C.call C.lam f xs S)
  | _ => .bad := rfl
@[simp] theorem dLam_ap (f : SS) (body : Den) (C : Cfg) (σ : Sl) (S : Store) : Ev.dLam f body C σ S = C.call (fun S => body C σ S) f [.clo] S := rfl
@[simp] theorem dAct_ap (i : Nat) (C : Cfg) (σ : Sl) (S : Store) : Ev.dAct i C σ S = match σ[i]? with
  | some (some .clo) => guardR (S.all (Cell.blw S.length)) (C.lam S)
  | _ => .bad := rfl
@[simp] theorem dMk_ap (c init : SS) (mt : Bool) (l : DenL) (C : Cfg) (σ : Sl) (S : Store) : Ev.dMk c init mt l C σ S = (l C σ S).bnd fun xs S => mkV C c init mt xs S := rfl
@[simp] theorem dBad_ap  (C : Cfg) (σ : Sl) (S : Store) : Ev.dBad  C σ S = .bad := rfl
@[simp] theorem tBad_ap  (C : Cfg) (σ : Sl) (S : Store) : Ev.tBad  C σ S = .bad := rfl
@[simp] theorem dIsi_ap (l : DenL) (C : Cfg) (σ : Sl) (S : Store) : Ev.dIsi l C σ S = (l C σ S).bnd fun xs S => isiX C xs S := rfl
@[simp] theorem dBi_ap (b : BI) (l : DenL) (C : Cfg) (σ : Sl) (S : Store) : Ev.dBi b l C σ S = (l C σ S).bnd fun xs S => biV b xs S := rfl
@[simp] theorem dMt_ap (b : MT) (o : Den) (l : DenL) (C : Cfg) (σ : Sl) (S : Store) : Ev.dMt b o l C σ S = (o C σ S).bnd fun x S => guardR (lstOf S x).isSome ((l C σ S).bnd fun xs S => mtV b x xs S) := rfl
@[simp] theorem iAny_ap (a : Den) (C : Cfg) (σ : Sl) (S : Store) : Ev.iAny a C σ S = (a C σ S).bnd fun x S => match itOf S x with
  | some it => .ok it S
  | none => .bad := rfl
@[simp] theorem iRng1_ap (l : DenL) (C : Cfg) (σ : Sl) (S : Store) : Ev.iRng1 l C σ S = (l C σ S).bnd fun xs S => rng1V xs S := rfl
@[simp] theorem iRng2_ap (l : DenL) (C : Cfg) (σ : Sl) (S : Store) : Ev.iRng2 l C σ S = (l C σ S).bnd fun xs S => rng2V xs S := rfl
@[simp] theorem iEnum_ap (l : DenL) (C : Cfg) (σ : Sl) (S : Store) : Ev.iEnum l C σ S = (l C σ S).bnd fun xs S => enumV xs S := rfl
@[simp] theorem iZip_ap (l : DenL) (C : Cfg) (σ : Sl) (S : Store) : Ev.iZip l C σ S = (l C σ S).bnd fun xs S => zipV xs S := rfl
@[simp] theorem iRev1_ap (a : Den) (C : Cfg) (σ : Sl) (S : Store) : Ev.iRev1 a C σ S = (a C σ S).bnd fun x S => match x with
  | .int j => guardR (small62 j) (.ok ⟨(rngL 0 j.toNat).reverse, []⟩ S)
  | _ => .bad := rfl
@[simp] theorem iRev2_ap (a b : Den) (C : Cfg) (σ : Sl) (S : Store) : Ev.iRev2 a b C σ S = (a C σ S).bnd fun x S => (b C σ S).bnd fun y S => match x, y with
  | .int i, .int j => guardR (small62 i && small62 j) (.ok ⟨(rngL i (j - i).toNat).reverse, []⟩ S)
  | _, _ => .bad := rfl
@[simp] theorem tYes_ap  (C : Cfg) (σ : Sl) (S : Store) : Ev.tYes  C σ S = .ok true S := rfl
@[simp] theorem dComp_ap (mt : Bool) (own : List Nat) (tg : Tg) (it : DenI) (cond : DenT) (elt : Den) (C : Cfg) (σ : Sl) (S : Store) : Ev.dComp mt own tg it cond elt C σ S = (it C σ S).bnd fun it S => guardR (decide (it.items.length ≤ sizeLine)) ((compGo tg cond elt C (wipeP σ own) it it.items S).bnd fun xs S => mkLst mt xs S) := rfl
@[simp] theorem sNil_ap  (C : Cfg) (σ : Sl) (S : Store) : Ev.sNil  C σ S = .nx σ S := rfl
@[simp] theorem sSeq_ap (a b : DenS) (C : Cfg) (σ : Sl) (S : Store) : Ev.sSeq a b C σ S = (a C σ S).bnd fun σ S => b C σ S := rfl
@[simp] theorem sSet_ap (tg : Tg) (e : Den) (C : Cfg) (σ : Sl) (S : Store) : Ev.sSet tg e C σ S = inS (e C σ S) σ fun v S => match tg.put v σ with
  | some σ' => .nx σ' S
  | none => .bad := rfl
@[simp] theorem sPar_ap (is : List Nat) (l : DenL) (C : Cfg) (σ : Sl) (S : Store) : Ev.sPar is l C σ S = inS (l C σ S) σ fun vs S => match setMany is vs σ with
  | some σ' => .nx σ' S
  | none => .bad := rfl
@[simp] theorem sPut_ap (o i e : Den) (C : Cfg) (σ : Sl) (S : Store) : Ev.sPut o i e C σ S = inS (e C σ S) σ fun v S => inS (o C σ S) σ fun ov S => inS (i C σ S) σ fun iv S => match putV ov iv v S with
  | some S' => .nx σ S'
  | none => .bad := rfl
@[simp] theorem sFld_ap (f : SS) (o e : Den) (C : Cfg) (σ : Sl) (S : Store) : Ev.sFld f o e C σ S = inS (e C σ S) σ fun v S => inS (o C σ S) σ fun ov S => match setFd C ov v f S with
  | some S' => .nx σ S'
  | none => .bad := rfl
@[simp] theorem sAug_ap (op : PySem.Operator) (i : Nat) (e : Den) (C : Cfg) (σ : Sl) (S : Store) : Ev.sAug op i e C σ S = match σ[i]? with
  | some (some x) => inS (e C σ S) σ fun y S => inS (ipV op x y S) σ fun z S => .nx (σ.set i (some z)) S
  | _ => .bad := rfl
@[simp] theorem sExpr_ap (e : Den) (C : Cfg) (σ : Sl) (S : Store) : Ev.sExpr e C σ S = inS (e C σ S) σ fun _ S => .nx σ S := rfl
@[simp] theorem sRet_ap (e : Den) (C : Cfg) (σ : Sl) (S : Store) : Ev.sRet e C σ S = inS (e C σ S) σ fun v S => .rt v S := rfl
@[simp] theorem sRetN_ap  (C : Cfg) (σ : Sl) (S : Store) : Ev.sRetN  C σ S = .rt .non S := rfl
@[simp] theorem sIf_ap (t : DenT) (a b : DenS) (C : Cfg) (σ : Sl) (S : Store) : Ev.sIf t a b C σ S = inS (t C σ S) σ fun k S => if k then a C σ S else b C σ S := rfl
@[simp] theorem sBrk_ap  (C : Cfg) (σ : Sl) (S : Store) : Ev.sBrk  C σ S = .bk σ S := rfl
@[simp] theorem sCnt_ap  (C : Cfg) (σ : Sl) (S : Store) : Ev.sCnt  C σ S = .ct σ S := rfl
@[simp] theorem sRaise_ap (c : SS) (C : Cfg) (σ : Sl) (S : Store) : Ev.sRaise c C σ S = .exc c [] σ S := rfl
@[simp] theorem sBad_ap  (C : Cfg) (σ : Sl) (S : Store) : Ev.sBad  C σ S = .bad := rfl
@[simp] theorem sTryA_ap (d : SS) (i : Nat) (body suite : DenS) (C : Cfg) (σ : Sl) (S : Store) : Ev.sTryA d i body suite C σ S = match body C σ S with
  | .exc c fs σ' S' => match C.sub c (.own d) with
    | some true => offS i (suite { C with lam := fun _ => .bad, call := fun _ _ _ _ => .bad } (σ'.set i (some (.exo c fs))) S')
    | some false => .exc c fs σ' S'
    | none => .bad
  | r => r := rfl
@[simp] theorem sFor_ap (tg : Tg) (it : DenI) (body : DenS) (C : Cfg) (σ : Sl) (S : Store) : Ev.sFor tg it body C σ S = inS (it C σ S) σ fun it S => forGo tg body C it it.items σ S := rfl
@[simp] theorem sWhile_ap (t : DenT) (body : DenS) (C : Cfg) (σ : Sl) (S : Store) : Ev.sWhile t body C σ S = whGo t body C C.fuel σ S := rfl
@[simp] theorem blw_non {b : Nat} : PV.non.blw b = true := rfl
@[simp] theorem blw_bl {b : Nat} {k : Bool} : (PV.bl k).blw b = true := rfl
@[simp] theorem blw_int {b : Nat} {k : Int} : (PV.int k).blw b = true := rfl
@[simp] theorem blw_str {b : Nat} {k : SS} : (PV.str k).blw b = true := rfl
@[simp] theorem blw_tup {b : Nat} {k : List PV} : (PV.tup k).blw b = PV.blws b k := rfl
@[simp] theorem blw_ro {b : Nat} {k : List PV} : (PV.ro k).blw b = PV.blws b k := rfl
@[simp] theorem blw_obj {b : Nat} {c : SS} {k : List PV} : (PV.obj c k).blw b = PV.blws b k := rfl
@[simp] theorem blws_nil {b : Nat} : PV.blws b [] = true := rfl
@[simp] theorem blws_cons {b : Nat} {x : PV} {xs : List PV} : PV.blws b (x :: xs) = (x.blw b && PV.blws b xs) := rfl
theorem blws_all {b : Nat} : ∀ {xs : List PV}, (∀ x ∈ xs, x.blw b = true) → PV.blws b xs = true
  | [], _ => rfl
  | x :: xs, h => by
    rw [blws_cons, h x (.head _), blws_all fun y hy => h y (.tail _ hy)]
    rfl
@[simp] theorem blws_ints {b : Nat} {ns : List Int} : PV.blws b (ns.map .int) = true := blws_all fun x hx => by
  obtain ⟨n, _, rfl⟩ := List.mem_map.mp hx
  rfl
@[simp] theorem asB_bl (k : Bool) (S : Store) : asB (.bl k) S = .ok k S := rfl
@[simp] theorem truV_bl (k : Bool) (S : Store) : truV S (.bl k) = some k := rfl
@[simp] theorem truV_int (k : Int) (S : Store) : truV S (.int k) = some (k != 0) := rfl
@[simp] theorem startP_def (n : Nat) (args : List PV) : startP n args = args.map some ++ List.replicate (n - args.length) none := rfl
end Ev
namespace Ev
open PySem L2
@[simp] theorem cl_bl (S : Store) (k : Bool) : closeV false S (.bl k) S = .ok (.bl k) S := closeV_same rfl
@[simp] theorem cl_int (S : Store) (k : Int) : closeV false S (.int k) S = .ok (.int k) S := closeV_same rfl
@[simp] theorem cl_non (S : Store) : closeV false S .non S = .ok .non S := closeV_same rfl
@[simp] theorem cl_str (S : Store) (k : SS) : closeV false S (.str k) S = .ok (.str k) S := closeV_same rfl
@[simp] theorem cR_rt (S S' : Store) (v : PV) (keep : Bool) : closeR keep S (.rt v S') = closeV keep S v S' := rfl
@[simp] theorem cR_nx (S S' : Store) (σ : Sl) (keep : Bool) : closeR keep S (.nx σ S') = closeV keep S .non S' := rfl
@[simp] theorem cR_exc (S : Store) (σ : Sl) (c : SS) : closeR false S (.exc c [] σ S) = .exc c [] S := closeR_exc
end Ev
namespace Ev
open PySem L2
theorem comp_pure {tg : Tg} {cond : DenT} {elt : Den} {C : Cfg} {σ : Sl} {it : ItV} {S : Store} {p : PV → Bool} {f : PV → PV} (st : it.still S = true) : ∀ (items : List PV), (∀ x ∈ items, ∃ σ', tg.put x σ = some σ' ∧ cond C σ' S = .ok (p x) S ∧ (p x = true → elt C σ' S = .ok (f x) S)) → compGo tg cond elt C σ it items S = .ok ((items.filter p).map f) S
  | [], _ => by simp [compGo, st]
  | x :: xs, h => by
    obtain ⟨σ', h1, h2, h3⟩ := h x (.head _)
    have ih := comp_pure (p := p) (f := f) st xs fun y hy => h y (.tail _ hy)
    simp only [compGo, st, guardR_true, h1, h2, noX_ok, Rs.bnd_ok]
    cases hp : p x with
    | false => simp [hp, ih]
    | true => simp [hp, h3 hp, ih]
theorem comp_map {tg : Tg} {elt : Den} {C : Cfg} {σ : Sl} {it : ItV} {S : Store} {f : PV → PV} (st : it.still S = true) (items : List PV) (h : ∀ x ∈ items, ∃ σ', tg.put x σ = some σ' ∧ elt C σ' S = .ok (f x) S) : compGo tg Ev.tYes elt C σ it items S = .ok (items.map f) S := by
  have := comp_pure (tg := tg) (cond := Ev.tYes) (elt := elt) (C := C) (σ := σ) (p := fun _ => true) (f := f) st items fun x hx => let ⟨σ', h1, h2⟩ := h x hx; ⟨σ', h1, rfl, fun _ => h2⟩
  rw [this, List.filter_eq_self.mpr (fun _ _ => rfl)]
/-- a loop, by what is left -/
theorem for_ind {tg : Tg} {body : DenS} {C : Cfg} {it : ItV} {R : Rt → Prop} (P : List PV → Sl → Store → Prop) (he : ∀ σ S, P [] σ S → it.still S = true ∧ R (.nx σ S))
    (hs : ∀ x xs σ S, P (x :: xs) σ S → it.still S = true ∧ ∃ σ', tg.put x σ = some σ' ∧ (match body C σ' S with
      | .nx σ2 S2 => P xs σ2 S2
      | .ct σ2 S2 => P xs σ2 S2
      | .bk σ2 S2 => R (.nx σ2 S2)
      | r => R r)) : ∀ items σ S, P items σ S → R (forGo tg body C it items σ S)
  | [], σ, S, h => by
    obtain ⟨h1, h2⟩ := he σ S h
    simp only [forGo, h1, guardS_true]
    exact h2
  | x :: xs, σ, S, h => by
    obtain ⟨h1, σ', h2, h3⟩ := hs x xs σ S h
    simp only [forGo, h1, guardS_true, h2]
    cases e : body C σ' S with
    | nx σ2 S2 => rw [e] at h3; exact for_ind P he hs xs σ2 S2 h3
    | ct σ2 S2 => rw [e] at h3; exact for_ind P he hs xs σ2 S2 h3
    | bk σ2 S2 => rw [e] at h3; exact h3
    | rt v S2 => rw [e] at h3; exact h3
    | exc c fs σ2 S2 => rw [e] at h3; exact h3
    | bad => rw [e] at h3; exact h3
@[simp] theorem still_nil {xs : List PV} {S : Store} : ItV.still ⟨xs, []⟩ S = true := rfl
theorem blsOf_map {α : Type} (f : α → Bool) : ∀ xs : List α, blsOf (xs.map fun x => .bl (f x)) = some (xs.map f)
  | [] => rfl
  | x :: xs => by simp [blsOf, blsOf_map f xs]
theorem intsOf_map {α : Type} (f : α → Int) : ∀ xs : List α, intsOf (xs.map fun x => .int (f x)) = some (xs.map f)
  | [] => rfl
  | x :: xs => by simp [intsOf, intsOf_map f xs]
theorem intsOf_ints (ns : List Int) : intsOf (ns.map .int) = some ns := by
  have := intsOf_map (fun x => x) ns
  simpa using this
end Ev
namespace Ev
open PySem L2
theorem mapM_self {f : PV → Option PV} : ∀ {xs : List PV}, (∀ x ∈ xs, f x = some x) → xs.mapM f = some xs
  | [], _ => rfl
  | x :: xs, h => by
    rw [List.mapM_cons, h x (.head _), mapM_self fun y hy => h y (.tail _ hy)]
    rfl
theorem frz_rf {n : Nat} {S : Store} {b i : Nat} {xs : List PV} (hi : b ≤ i) (e : S[i]? = some (.lst xs)) (h : ∀ x ∈ xs, x.blw b = true) : frz (n + 1) S b (.rf i) = some (.ro xs) := by
  have h0 : (PV.rf i).blw b = false := decide_eq_false (by omega)
  unfold frz
  rw [if_neg (by rw [h0]; decide)]
  simp only [e]
  rw [mapM_self fun x hx => frz_blw (h x hx)]
  rfl
theorem atI_last {α : Type} {xs : List α} {x : α} (h : xs.getLast? = some x) : atI xs (-1) = some x := by
  have hl : 0 < xs.length := by cases xs with
    | nil => cases h
    | cons _ _ => simp
  unfold atI ixN
  rw [if_neg (by decide), if_pos (by omega)]
  have e : ((-1 : Int) + (xs.length : Int)).toNat = xs.length - 1 := by omega
  rw [e]
  rw [List.getLast?_eq_getElem?] at h
  exact h
end Ev

namespace Ev
theorem small_of {i : Int} (h1 : -1000000 ≤ i) (h2 : i ≤ 1000000) : small62 i = true := by
  unfold small62
  by_cases h0 : i.natAbs = 0
  · rw [h0]; decide
  · exact decide_eq_true ((Nat.log2_lt h0).mpr (Nat.lt_of_le_of_lt (show i.natAbs ≤ 1000000 by omega) (by decide)))
end Ev

end
section
set_option Elab.async false
set_option linter.all false
set_option maxRecDepth 100000
set_option maxHeartbeats 1000000
/-! the simp layer: head first -/
namespace Ev
open PySem L2
theorem Rs.bnd_cg {α β : Type} {a b : Rs α} {f : α → Store → Rs β} (h : True → a = b) : a.bnd f = b.bnd f := by rw [h trivial]
theorem Rt.bnd_cg {a b : Rt} {f : Sl → Store → Rt} (h : True → a = b) : a.bnd f = b.bnd f := by rw [h trivial]
theorem Rt.lp_cg {a b : Rt} {f : Sl → Store → Rt} (h : True → a = b) : a.lp f = b.lp f := by rw [h trivial]
theorem inS_cg {α : Type} {a b : Rs α} {σ : Sl} {f : α → Store → Rt} (h : True → a = b) : inS a σ f = inS b σ f := by rw [h trivial]
theorem guardR_cg {α : Type} {a b : Bool} {r : Rs α} (h : True → a = b) : guardR a r = guardR b r := by rw [h trivial]
theorem guardS_cg {a b : Bool} {r : Rt} (h : True → a = b) : guardS a r = guardS b r := by rw [h trivial]
theorem closeR_cg {k : Bool} {S : Store} {a b : Rt} (h : True → a = b) : closeR k S a = closeR k S b := by rw [h trivial]
theorem dCst_e (v : PV) (C : Cfg) (σ : Sl) (S : Store) : Ev.dCst v C σ S = .ok v S := (rfl)
theorem dVar_e (i : Nat) (C : Cfg) (σ : Sl) (S : Store) : Ev.dVar i C σ S = match σ[i]? with
  | some (some v) => .ok v S
  | _ => .bad := (rfl)
theorem dBin_e (op : PySem.Operator) (a b : Den) (C : Cfg) (σ : Sl) (S : Store) : Ev.dBin op a b C σ S = (a C σ S).bnd fun x S => (b C σ S).bnd fun y S => binV op x y S := (rfl)
theorem dBinM_e (op : PySem.Operator) (a b : Den) (C : Cfg) (σ : Sl) (S : Store) : Ev.dBinM op a b C σ S = (a C σ S).bnd fun x S => (b C σ S).bnd fun y S => binVM op x y S := (rfl)
theorem dUn_e (op : PySem.UnaryOp) (a : Den) (C : Cfg) (σ : Sl) (S : Store) : Ev.dUn op a C σ S = (a C σ S).bnd fun x S => unV op x S := (rfl)
theorem tCmp_e (op : PySem.CmpOp) (a b : Den) (C : Cfg) (σ : Sl) (S : Store) : Ev.tCmp op a b C σ S = (a C σ S).bnd fun x S => (b C σ S).bnd fun y S => cmpV C op x y S := (rfl)
theorem tChn_e (op op' : PySem.CmpOp) (a b c : Den) (C : Cfg) (σ : Sl) (S : Store) : Ev.tChn op op' a b c C σ S = (a C σ S).bnd fun x S => (b C σ S).bnd fun y S => (cmpV C op x y S).bnd fun k S =>
  if k then (c C σ S).bnd fun z S => cmpV C op' y z S else .ok false S := (rfl)
theorem tAnd_e (a b : DenT) (C : Cfg) (σ : Sl) (S : Store) : Ev.tAnd a b C σ S = (a C σ S).bnd fun k S => if k then b C σ S else .ok false S := (rfl)
theorem tOr_e (a b : DenT) (C : Cfg) (σ : Sl) (S : Store) : Ev.tOr a b C σ S = (a C σ S).bnd fun k S => if k then .ok true S else b C σ S := (rfl)
theorem tNot_e (a : DenT) (C : Cfg) (σ : Sl) (S : Store) : Ev.tNot a C σ S = (a C σ S).bnd fun k S => .ok (!k) S := (rfl)
theorem tVal_e (a : Den) (C : Cfg) (σ : Sl) (S : Store) : Ev.tVal a C σ S = (a C σ S).bnd fun x S => match truV S x with
  | some k => .ok k S
  | none => .bad := (rfl)
theorem dTst_e (a : DenT) (C : Cfg) (σ : Sl) (S : Store) : Ev.dTst a C σ S = (a C σ S).bnd fun k S => .ok (.bl k) S := (rfl)
theorem dAnd_e (a b : Den) (C : Cfg) (σ : Sl) (S : Store) : Ev.dAnd a b C σ S = (a C σ S).bnd fun x S => (asB x S).bnd fun k S => if k then b C σ S else .ok (.bl false) S := (rfl)
theorem dOr_e (a b : Den) (C : Cfg) (σ : Sl) (S : Store) : Ev.dOr a b C σ S = (a C σ S).bnd fun x S => (asB x S).bnd fun k S => if k then .ok (.bl true) S else b C σ S := (rfl)
theorem dNot_e (a : Den) (C : Cfg) (σ : Sl) (S : Store) : Ev.dNot a C σ S = (a C σ S).bnd fun x S => (asB x S).bnd fun k S => .ok (.bl (!k)) S := (rfl)
theorem dIte_e (t : DenT) (a b : Den) (C : Cfg) (σ : Sl) (S : Store) : Ev.dIte t a b C σ S = (t C σ S).bnd fun k S => if k then a C σ S else b C σ S := (rfl)
theorem lNil_e  (C : Cfg) (σ : Sl) (S : Store) : Ev.lNil  C σ S = .ok [] S := (rfl)
theorem lCons_e (a : Den) (l : DenL) (C : Cfg) (σ : Sl) (S : Store) : Ev.lCons a l C σ S = (a C σ S).bnd fun x S => (l C σ S).bnd fun xs S => .ok (x :: xs) S := (rfl)
theorem dTup_e (l : DenL) (C : Cfg) (σ : Sl) (S : Store) : Ev.dTup l C σ S = (l C σ S).bnd fun xs S => guardR (decide (xs.length ≤ sizeLine)) (.ok (.tup xs) S) := (rfl)
theorem dLst_e (mt : Bool) (l : DenL) (C : Cfg) (σ : Sl) (S : Store) : Ev.dLst mt l C σ S = (l C σ S).bnd fun xs S => guardR (decide (xs.length ≤ sizeLine)) (mkLst mt xs S) := (rfl)
theorem dIx_e (a b : Den) (C : Cfg) (σ : Sl) (S : Store) : Ev.dIx a b C σ S = (a C σ S).bnd fun x S => (b C σ S).bnd fun y S => ixV x y S := (rfl)
theorem pNo_e  (C : Cfg) (σ : Sl) (S : Store) : Ev.pNo  C σ S = .ok none S := (rfl)
theorem pSome_e (a : Den) (C : Cfg) (σ : Sl) (S : Store) : Ev.pSome a C σ S = (a C σ S).bnd fun x S => asPart x S := (rfl)
theorem dSl_e (a : Den) (lo hi : DenP) (C : Cfg) (σ : Sl) (S : Store) : Ev.dSl a lo hi C σ S = (a C σ S).bnd fun x S => (lo C σ S).bnd fun l S => (hi C σ S).bnd fun h S => slV x l h S := (rfl)
theorem dFld_e (f : SS) (a : Den) (C : Cfg) (σ : Sl) (S : Store) : Ev.dFld f a C σ S = (a C σ S).bnd fun x S => fldV C f x S := (rfl)
theorem dCall_e (f : SS) (l : DenL) (C : Cfg) (σ : Sl) (S : Store) : Ev.dCall f l C σ S = (l C σ S).bnd fun xs S => C.call C.lam f xs S := (rfl)
theorem dCallL_e (i : Nat) (l : DenL) (C : Cfg) (σ : Sl) (S : Store) : Ev.dCallL i l C σ S = match σ[i]? with
  | some (some (.gl f)) => guardR (C.kn f) ((l C σ S).bnd fun xs S => C.call C.lam f xs S)
  | _ => .bad := (rfl)
theorem dLam_e (f : SS) (body : Den) (C : Cfg) (σ : Sl) (S : Store) : Ev.dLam f body C σ S = C.call (fun S => body C σ S) f [.clo] S := (rfl)
theorem dAct_e (i : Nat) (C : Cfg) (σ : Sl) (S : Store) : Ev.dAct i C σ S = match σ[i]? with
  | some (some .clo) => guardR (S.all (Cell.blw S.length)) (C.lam S)
  | _ => .bad := (rfl)
theorem dMk_e (c init : SS) (mt : Bool) (l : DenL) (C : Cfg) (σ : Sl) (S : Store) : Ev.dMk c init mt l C σ S = (l C σ S).bnd fun xs S => mkV C c init mt xs S := (rfl)
theorem dBad_e  (C : Cfg) (σ : Sl) (S : Store) : Ev.dBad  C σ S = .bad := (rfl)
theorem tBad_e  (C : Cfg) (σ : Sl) (S : Store) : Ev.tBad  C σ S = .bad := (rfl)
theorem dIsi_e (l : DenL) (C : Cfg) (σ : Sl) (S : Store) : Ev.dIsi l C σ S = (l C σ S).bnd fun xs S => isiX C xs S := (rfl)
theorem dBi_e (b : BI) (l : DenL) (C : Cfg) (σ : Sl) (S : Store) : Ev.dBi b l C σ S = (l C σ S).bnd fun xs S => biV b xs S := (rfl)
theorem dMt_e (b : MT) (o : Den) (l : DenL) (C : Cfg) (σ : Sl) (S : Store) : Ev.dMt b o l C σ S = (o C σ S).bnd fun x S => guardR (lstOf S x).isSome ((l C σ S).bnd fun xs S => mtV b x xs S) := (rfl)
theorem iAny_e (a : Den) (C : Cfg) (σ : Sl) (S : Store) : Ev.iAny a C σ S = (a C σ S).bnd fun x S => match itOf S x with
  | some it => .ok it S
  | none => .bad := (rfl)
theorem iRng1_e (l : DenL) (C : Cfg) (σ : Sl) (S : Store) : Ev.iRng1 l C σ S = (l C σ S).bnd fun xs S => rng1V xs S := (rfl)
theorem iRng2_e (l : DenL) (C : Cfg) (σ : Sl) (S : Store) : Ev.iRng2 l C σ S = (l C σ S).bnd fun xs S => rng2V xs S := (rfl)
theorem iEnum_e (l : DenL) (C : Cfg) (σ : Sl) (S : Store) : Ev.iEnum l C σ S = (l C σ S).bnd fun xs S => enumV xs S := (rfl)
theorem iZip_e (l : DenL) (C : Cfg) (σ : Sl) (S : Store) : Ev.iZip l C σ S = (l C σ S).bnd fun xs S => zipV xs S := (rfl)
theorem iRev1_e (a : Den) (C : Cfg) (σ : Sl) (S : Store) : Ev.iRev1 a C σ S = (a C σ S).bnd fun x S => match x with
  | .int j => guardR (small62 j) (.ok ⟨(rngL 0 j.toNat).reverse, []⟩ S)
  | _ => .bad := (rfl)
theorem iRev2_e (a b : Den) (C : Cfg) (σ : Sl) (S : Store) : Ev.iRev2 a b C σ S = (a C σ S).bnd fun x S => (b C σ S).bnd fun y S => match x, y with
  | .int i, .int j => guardR (small62 i && small62 j) (.ok ⟨(rngL i (j - i).toNat).reverse, []⟩ S)
  | _, _ => .bad := (rfl)
theorem tYes_e  (C : Cfg) (σ : Sl) (S : Store) : Ev.tYes  C σ S = .ok true S := (rfl)
theorem dComp_e (mt : Bool) (own : List Nat) (tg : Tg) (it : DenI) (cond : DenT) (elt : Den) (C : Cfg) (σ : Sl) (S : Store) : Ev.dComp mt own tg it cond elt C σ S = (it C σ S).bnd fun it S => guardR (decide (it.items.length ≤ sizeLine)) ((compGo tg cond elt C (wipeP σ own) it it.items S).bnd fun xs S => mkLst mt xs S) := (rfl)
theorem sNil_e  (C : Cfg) (σ : Sl) (S : Store) : Ev.sNil  C σ S = .nx σ S := (rfl)
theorem sSeq_e (a b : DenS) (C : Cfg) (σ : Sl) (S : Store) : Ev.sSeq a b C σ S = (a C σ S).bnd fun σ S => b C σ S := (rfl)
theorem sSet_e (tg : Tg) (e : Den) (C : Cfg) (σ : Sl) (S : Store) : Ev.sSet tg e C σ S = inS (e C σ S) σ fun v S => match tg.put v σ with
  | some σ' => .nx σ' S
  | none => .bad := (rfl)
theorem sPar_e (is : List Nat) (l : DenL) (C : Cfg) (σ : Sl) (S : Store) : Ev.sPar is l C σ S = inS (l C σ S) σ fun vs S => match setMany is vs σ with
  | some σ' => .nx σ' S
  | none => .bad := (rfl)
theorem sPut_e (o i e : Den) (C : Cfg) (σ : Sl) (S : Store) : Ev.sPut o i e C σ S = inS (e C σ S) σ fun v S => inS (o C σ S) σ fun ov S => inS (i C σ S) σ fun iv S => match putV ov iv v S with
  | some S' => .nx σ S'
  | none => .bad := (rfl)
theorem sFld_e (f : SS) (o e : Den) (C : Cfg) (σ : Sl) (S : Store) : Ev.sFld f o e C σ S = inS (e C σ S) σ fun v S => inS (o C σ S) σ fun ov S => match setFd C ov v f S with
  | some S' => .nx σ S'
  | none => .bad := (rfl)
theorem sAug_e (op : PySem.Operator) (i : Nat) (e : Den) (C : Cfg) (σ : Sl) (S : Store) : Ev.sAug op i e C σ S = match σ[i]? with
  | some (some x) => inS (e C σ S) σ fun y S => inS (ipV op x y S) σ fun z S => .nx (σ.set i (some z)) S
  | _ => .bad := (rfl)
theorem sExpr_e (e : Den) (C : Cfg) (σ : Sl) (S : Store) : Ev.sExpr e C σ S = inS (e C σ S) σ fun _ S => .nx σ S := (rfl)
theorem sRet_e (e : Den) (C : Cfg) (σ : Sl) (S : Store) : Ev.sRet e C σ S = inS (e C σ S) σ fun v S => .rt v S := (rfl)
theorem sRetN_e  (C : Cfg) (σ : Sl) (S : Store) : Ev.sRetN  C σ S = .rt .non S := (rfl)
theorem sIf_e (t : DenT) (a b : DenS) (C : Cfg) (σ : Sl) (S : Store) : Ev.sIf t a b C σ S = inS (t C σ S) σ fun k S => if k then a C σ S else b C σ S := (rfl)
theorem sBrk_e  (C : Cfg) (σ : Sl) (S : Store) : Ev.sBrk  C σ S = .bk σ S := (rfl)
theorem sCnt_e  (C : Cfg) (σ : Sl) (S : Store) : Ev.sCnt  C σ S = .ct σ S := (rfl)
theorem sRaise_e (c : SS) (C : Cfg) (σ : Sl) (S : Store) : Ev.sRaise c C σ S = .exc c [] σ S := (rfl)
theorem sBad_e  (C : Cfg) (σ : Sl) (S : Store) : Ev.sBad  C σ S = .bad := (rfl)
theorem sTryA_e (d : SS) (i : Nat) (body suite : DenS) (C : Cfg) (σ : Sl) (S : Store) : Ev.sTryA d i body suite C σ S = match body C σ S with
  | .exc c fs σ' S' => match C.sub c (.own d) with
    | some true => offS i (suite { C with lam := fun _ => .bad, call := fun _ _ _ _ => .bad } (σ'.set i (some (.exo c fs))) S')
    | some false => .exc c fs σ' S'
    | none => .bad
  | r => r := (rfl)
theorem sFor_e (tg : Tg) (it : DenI) (body : DenS) (C : Cfg) (σ : Sl) (S : Store) : Ev.sFor tg it body C σ S = inS (it C σ S) σ fun it S => forGo tg body C it it.items σ S := (rfl)
theorem sWhile_e (t : DenT) (body : DenS) (C : Cfg) (σ : Sl) (S : Store) : Ev.sWhile t body C σ S = whGo t body C C.fuel σ S := (rfl)
def atR (o : Option PV) (S : Store) : Rs PV := match o with | some v => .ok v S | none => .bad
theorem atR_e (v : PV) (S : Store) : atR (some v) S = .ok v S := (rfl)
theorem bnd_ok_e {α β : Type} (a : α) (S : Store) (f : α → Store → Rs β) : (Rs.ok a S).bnd f = f a S := (rfl)
theorem bnd_exc_e {α β : Type} (c : SS) (fs : List PV) (S : Store) (f : α → Store → Rs β) : (Rs.exc c fs S : Rs α).bnd f = .exc c fs S := (rfl)
theorem guardR_e {α : Type} (r : Rs α) : guardR true r = r := (rfl)
theorem guardS_t_e (r : Rt) : guardS true r = r := (rfl)
theorem noX_e {α : Type} (a : α) (S : Store) : noX (.ok a S) = .ok a S := (rfl)
theorem inS_ok_e {α : Type} (a : α) (S : Store) (σ : Sl) (f : α → Store → Rt) : inS (.ok a S) σ f = f a S := (rfl)
theorem inS_exc_e {α : Type} (c : SS) (fs : List PV) (S : Store) (σ : Sl) (f : α → Store → Rt) : inS (.exc c fs S : Rs α) σ f = .exc c fs σ S := (rfl)
theorem tb_nx_e (σ : Sl) (S : Store) (f : Sl → Store → Rt) : (Rt.nx σ S).bnd f = f σ S := (rfl)
theorem tb_rt_e (v : PV) (S : Store) (f : Sl → Store → Rt) : (Rt.rt v S).bnd f = .rt v S := (rfl)
theorem tb_bk_e (σ : Sl) (S : Store) (f : Sl → Store → Rt) : (Rt.bk σ S).bnd f = .bk σ S := (rfl)
theorem tb_ct_e (σ : Sl) (S : Store) (f : Sl → Store → Rt) : (Rt.ct σ S).bnd f = .ct σ S := (rfl)
theorem tb_exc_e (c : SS) (fs : List PV) (σ : Sl) (S : Store) (f : Sl → Store → Rt) : (Rt.exc c fs σ S).bnd f = .exc c fs σ S := (rfl)
theorem lp_nx_e (σ : Sl) (S : Store) (f : Sl → Store → Rt) : (Rt.nx σ S).lp f = f σ S := (rfl)
theorem lp_ct_e (σ : Sl) (S : Store) (f : Sl → Store → Rt) : (Rt.ct σ S).lp f = f σ S := (rfl)
theorem lp_bk_e (σ : Sl) (S : Store) (f : Sl → Store → Rt) : (Rt.bk σ S).lp f = .nx σ S := (rfl)
theorem lp_rt_e (v : PV) (S : Store) (f : Sl → Store → Rt) : (Rt.rt v S).lp f = .rt v S := (rfl)
theorem lp_exc_e (c : SS) (fs : List PV) (σ : Sl) (S : Store) (f : Sl → Store → Rt) : (Rt.exc c fs σ S).lp f = .exc c fs σ S := (rfl)
/-! slots -/
theorem dVar_z (v : PV) (C : Cfg) (σ : Sl) (S : Store) : dVar 0 C (some v :: σ) S = .ok v S := (rfl)
theorem dVar_s (i : Nat) (o : Option PV) (C : Cfg) (σ : Sl) (S : Store) : dVar (i + 1) C (o :: σ) S = dVar i C σ S := (rfl)
theorem dCallL_z (f : SS) (l : DenL) (C : Cfg) (σ : Sl) (S : Store) : dCallL 0 l C (some (.gl f) :: σ) S = guardR (C.kn f) ((l C (some (.gl f) :: σ) S).bnd fun xs S => C.call C.lam f xs S) := (rfl)
theorem put_nm (i : Nat) (v : PV) (σ : Sl) : Tg.put (.nm i) v σ = some (σ.set i (some v)) := (rfl)
theorem put_tp (ts : List Tg) (xs : List PV) (σ : Sl) : Tg.put (.tp ts) (.tup xs) σ = Tg.puts ts xs σ := (rfl)
theorem puts_nil (σ : Sl) : Tg.puts [] [] σ = some σ := (rfl)
theorem puts_cons (t : Tg) (ts : List Tg) (x : PV) (xs : List PV) (σ : Sl) : Tg.puts (t :: ts) (x :: xs) σ = (Tg.put t x σ).bind (Tg.puts ts xs) := (rfl)
theorem setMany_nil (σ : Sl) : setMany [] [] σ = some σ := (rfl)
theorem setMany_cons (i : Nat) (is : List Nat) (v : PV) (vs : List PV) (σ : Sl) : setMany (i :: is) (v :: vs) σ = setMany is vs (σ.set i (some v)) := (rfl)
theorem wipe_nil (σ : Sl) : wipeP σ [] = σ := (rfl)
theorem wipe_cons (σ : Sl) (v : Nat) (vs : List Nat) : wipeP σ (v :: vs) = (wipeP σ vs).set v none := (rfl)
theorem startP_e (n : Nat) (args : List PV) : startP n args = args.map some ++ List.replicate (n - args.length) none := (rfl)
/-! sizes -/
theorem le_size {n : Nat} (h : n ≤ 16000000) : decide (n ≤ sizeLine) = true := decide_eq_true (Nat.le_trans h (by decide))
theorem sz_0 : decide (0 ≤ sizeLine) = true := le_size (by decide)
theorem sz_1 : decide (1 ≤ sizeLine) = true := le_size (by decide)
theorem sz_2 : decide (2 ≤ sizeLine) = true := le_size (by decide)
theorem sz_3 : decide (3 ≤ sizeLine) = true := le_size (by decide)
theorem sz_4 : decide (4 ≤ sizeLine) = true := le_size (by decide)
theorem sz_5 : decide (5 ≤ sizeLine) = true := le_size (by decide)
theorem sz_6 : decide (6 ≤ sizeLine) = true := le_size (by decide)
theorem sz_7 : decide (7 ≤ sizeLine) = true := le_size (by decide)
theorem sz_8 : decide (8 ≤ sizeLine) = true := le_size (by decide)
theorem sz_9 : decide (9 ≤ sizeLine) = true := le_size (by decide)
theorem sz_10 : decide (10 ≤ sizeLine) = true := le_size (by decide)
theorem sz_11 : decide (11 ≤ sizeLine) = true := le_size (by decide)
theorem sz_12 : decide (12 ≤ sizeLine) = true := le_size (by decide)
theorem sz_13 : decide (13 ≤ sizeLine) = true := le_size (by decide)
theorem sz_14 : decide (14 ≤ sizeLine) = true := le_size (by decide)
theorem sz_15 : decide (15 ≤ sizeLine) = true := le_size (by decide)
theorem sz_16 : decide (16 ≤ sizeLine) = true := le_size (by decide)
theorem sz_17 : decide (17 ≤ sizeLine) = true := le_size (by decide)
theorem sz_18 : decide (18 ≤ sizeLine) = true := le_size (by decide)
theorem sz_19 : decide (19 ≤ sizeLine) = true := le_size (by decide)
theorem sz_20 : decide (20 ≤ sizeLine) = true := le_size (by decide)
/-! operators -/
theorem add_int (i j : Int) (S : Store) : binV .Add (.int i) (.int j) S = .ok (.int (i + j)) S := (rfl)
theorem sub_int (i j : Int) (S : Store) : binV .Sub (.int i) (.int j) S = .ok (.int (i - j)) S := (rfl)
theorem mul_int (i j : Int) (S : Store) : binV .Mult (.int i) (.int j) S = guardR (mulOk i j) (.ok (.int (i * j)) S) := (rfl)
theorem mod_int (i j : Int) (S : Store) : binV .Mod (.int i) (.int j) S = guardR (decide (0 < j)) (.ok (.int (i % j)) S) := (rfl)
theorem fdiv_int (i j : Int) (S : Store) : binV .FloorDiv (.int i) (.int j) S = guardR (decide (0 < j ∧ j.natAbs.log2 < 9000)) (.ok (.int (i / j)) S) := (rfl)
theorem pow_int (i j : Int) (S : Store) : binV .Pow (.int i) (.int j) S = guardR (decide (0 ≤ j ∧ j ≤ 1000000 ∧ i.natAbs < 2 ^ 64)) (.ok (.int (i ^ j.toNat)) S) := (rfl)
theorem add_tup (xs ys : List PV) (S : Store) : binV .Add (.tup xs) (.tup ys) S = guardR (decide (xs.length + ys.length ≤ sizeLine)) (.ok (.tup (xs ++ ys)) S) := (rfl)
theorem add_ro (xs ys : List PV) (S : Store) : binV .Add (.ro xs) (.ro ys) S = guardR (decide (xs.length + ys.length ≤ sizeLine)) (.ok (.ro (xs ++ ys)) S) := (rfl)
theorem add_str (x y : SS) (S : Store) : binV .Add (.str x) (.str y) S = guardR (decide (x.length + y.length ≤ sizeLine)) (.ok (.str (x ++ y)) S) := (rfl)
theorem neg_int (i : Int) (S : Store) : unV .USub (.int i) S = .ok (.int (-i)) S := (rfl)
theorem ip_add (i j : Int) (S : Store) : ipV .Add (.int i) (.int j) S = .ok (.int (i + j)) S := (rfl)
theorem ip_sub (i j : Int) (S : Store) : ipV .Sub (.int i) (.int j) S = .ok (.int (i - j)) S := (rfl)
theorem lt_int (C : Cfg) (i j : Int) (S : Store) : cmpV C .Lt (.int i) (.int j) S = .ok (decide (i < j)) S := (rfl)
theorem le_int (C : Cfg) (i j : Int) (S : Store) : cmpV C .LtE (.int i) (.int j) S = .ok (decide (i ≤ j)) S := (rfl)
theorem gt_int (C : Cfg) (i j : Int) (S : Store) : cmpV C .Gt (.int i) (.int j) S = .ok (decide (j < i)) S := (rfl)
theorem ge_int (C : Cfg) (i j : Int) (S : Store) : cmpV C .GtE (.int i) (.int j) S = .ok (decide (j ≤ i)) S := (rfl)
theorem eq_e (C : Cfg) (x y : PV) (S : Store) : cmpV C .Eq x y S = eqV C x y S := (rfl)
theorem ne_e (C : Cfg) (x y : PV) (S : Store) : cmpV C .NotEq x y S = (eqV C x y S).bnd fun b S => .ok (!b) S := (rfl)
theorem is_e (C : Cfg) (x : PV) (S : Store) : cmpV C .Is x .non S = .ok (isNone x) S := (rfl)
theorem isn_e (C : Cfg) (x : PV) (S : Store) : cmpV C .IsNot x .non S = .ok (!isNone x) S := (rfl)
theorem in_e (C : Cfg) (x y : PV) (S : Store) : cmpV C .In x y S = inV x y S := (rfl)
theorem nin_e (C : Cfg) (x y : PV) (S : Store) : cmpV C .NotIn x y S = (inV x y S).bnd fun b S => .ok (!b) S := (rfl)
theorem eqv_int_ (i j : Int) : PyData.eqv (.int i) (.int j) = (i == j) := by unfold PyData.eqv; rfl
theorem eq_int (C : Cfg) (i j : Int) (S : Store) : eqV C (.int i) (.int j) S = .ok (decide (i = j)) S := by
  have h : PySem.SeqAt.shaped (.int i) = true := rfl
  have h' : PySem.SeqAt.shaped (.int j) = true := rfl
  simp only [eqV, toD1, toD, h, h', eqv_int_, Bool.and_self, guardR_true]
  by_cases e : i = j <;> simp [e]
theorem tru_bl (S : Store) (b : Bool) : truV S (.bl b) = some b := (rfl)
theorem tru_int (S : Store) (i : Int) : truV S (.int i) = some (i != 0) := (rfl)
theorem tru_non (S : Store) : truV S .non = some false := (rfl)
theorem tru_tup (S : Store) (xs : List PV) : truV S (.tup xs) = some (!xs.isEmpty) := (rfl)
theorem tru_ro (S : Store) (xs : List PV) : truV S (.ro xs) = some (!xs.isEmpty) := (rfl)
theorem asB_e (S : Store) (b : Bool) : asB (.bl b) S = .ok b S := (rfl)
theorem asPart_e (S : Store) (i : Int) : asPart (.int i) S = .ok (some i) S := (rfl)
theorem len_tup (xs : List PV) (S : Store) : biV .len [.tup xs] S = .ok (.int xs.length) S := (rfl)
theorem len_ro (xs : List PV) (S : Store) : biV .len [.ro xs] S = .ok (.int xs.length) S := (rfl)
theorem int_int (i : Int) (S : Store) : biV .int [.int i] S = .ok (.int i) S := (rfl)
theorem int_bl (b : Bool) (S : Store) : biV .int [.bl b] S = .ok (.int (if b then 1 else 0)) S := (rfl)
theorem tup_ro (xs : List PV) (S : Store) : biV .tuple [.ro xs] S = .ok (.tup xs) S := (rfl)
theorem tup_tup (xs : List PV) (S : Store) : biV .tuple [.tup xs] S = .ok (.tup xs) S := (rfl)
theorem sum_ro (xs : List PV) (S : Store) : biV .sum [.ro xs] S = match intsOf xs with | some ns => .ok (.int ns.sum) S | none => .bad := (rfl)
theorem all_ro (xs : List PV) (S : Store) : biV .all [.ro xs] S = match blsOf xs with | some ns => .ok (.bl (ns.all id)) S | none => .bad := (rfl)
theorem any_ro (xs : List PV) (S : Store) : biV .any [.ro xs] S = match blsOf xs with | some ns => .ok (.bl (ns.any id)) S | none => .bad := (rfl)
theorem min_int (i j : Int) (S : Store) : biV .min [.int i, .int j] S = .ok (.int (minI i j)) S := (rfl)
theorem max_int (i j : Int) (S : Store) : biV .max [.int i, .int j] S = .ok (.int (maxI i j)) S := (rfl)
theorem abs_int (i : Int) (S : Store) : biV .abs [.int i] S = .ok (.int (if i < 0 then -i else i)) S := (rfl)
theorem mk_ro (xs : List PV) (S : Store) : mkLst false xs S = .ok (.ro xs) S := (rfl)
theorem mk_rf (xs : List PV) (S : Store) : mkLst true xs S = .ok (.rf S.length) (S ++ [.lst xs]) := (rfl)
theorem it_tup (xs : List PV) (S : Store) : itOf S (.tup xs) = some ⟨xs, []⟩ := (rfl)
theorem it_ro (xs : List PV) (S : Store) : itOf S (.ro xs) = some ⟨xs, []⟩ := (rfl)
theorem rng1_e (j : Int) (S : Store) : rng1V [.int j] S = guardR (small62 j) (.ok ⟨rngL 0 j.toNat, []⟩ S) := (rfl)
theorem rng2_e (i j : Int) (S : Store) : rng2V [.int i, .int j] S = guardR (small62 i && small62 j) (.ok ⟨rngL i (j - i).toNat, []⟩ S) := (rfl)
theorem enum_tup (xs : List PV) (S : Store) : enumV [.tup xs] S = .ok ⟨enumL 0 xs, []⟩ S := (rfl)
theorem enum_ro (xs : List PV) (S : Store) : enumV [.ro xs] S = .ok ⟨enumL 0 xs, []⟩ S := (rfl)
theorem sl_tup (xs : List PV) (lo hi : Option Int) (S : Store) : slV (.tup xs) lo hi S = .ok (.tup (cutP xs lo hi)) S := (rfl)
theorem sl_ro (xs : List PV) (lo hi : Option Int) (S : Store) : slV (.ro xs) lo hi S = .ok (.ro (cutP xs lo hi)) S := (rfl)
theorem ix_tup (xs : List PV) (i : Int) (S : Store) : ixV (.tup xs) (.int i) S = atR (L2.atI xs i) S := by cases h : L2.atI xs i <;> simp only [ixV, seqOf, lstOf, h, atR]
theorem ix_ro (xs : List PV) (i : Int) (S : Store) : ixV (.ro xs) (.int i) S = atR (L2.atI xs i) S := by cases h : L2.atI xs i <;> simp only [ixV, seqOf, lstOf, h, atR]
/-! cells of the store -/
theorem at_app (S : Store) (c : Cell) (X : Store) : (S ++ c :: X)[S.length]? = some c := by simp
theorem at_app1 (S : Store) (c e : Cell) (X : Store) : (S ++ c :: e :: X)[S.length + 1]? = some e := by
  rw [List.getElem?_append_right (by omega)]; simp
theorem set_at (S : Store) (c c' : Cell) (X : Store) : (S ++ c :: X).set S.length c' = S ++ c' :: X := by simp
theorem set_at1 (S : Store) (c e c' : Cell) (X : Store) : (S ++ c :: e :: X).set (S.length + 1) c' = S ++ c :: c' :: X := by
  rw [List.set_append_right _ _ (by omega)]; simp
theorem ix_rf {S : Store} {r : Nat} {xs : List PV} (h : S[r]? = some (.lst xs)) (i : Int) : ixV (.rf r) (.int i) S = atR (L2.atI xs i) S := by
  cases e : L2.atI xs i <;> simp only [ixV, seqOf, lstOf, h, e, atR]
theorem len_rf {S : Store} {r : Nat} {xs : List PV} (h : S[r]? = some (.lst xs)) : biV .len [.rf r] S = .ok (.int xs.length) S := by
  simp only [biV, un1, lenV, seqOf, lstOf, h]
theorem put_rf {S : Store} {r : Nat} {xs : List PV} (h : S[r]? = some (.lst xs)) {j : Nat} (hj : j < xs.length) (v : PV) : putV (.rf r) (.int j) v S = some (S.set r (.lst (xs.set j v))) := by
  have e : L2.ixN xs.length (j : Int) = some j := by
    unfold L2.ixN
    rw [if_pos (by omega), if_pos (by omega)]
    simp
  simp only [putV, h, e]
theorem app_rf {S : Store} {r : Nat} {xs : List PV} (h : S[r]? = some (.lst xs)) (hl : xs.length < 16000000) (v : PV) : mtV .append (.rf r) [v] S = .ok .non (S.set r (.lst (xs ++ [v]))) := by
  have e : decide (xs.length < sizeLine) = true := decide_eq_true (Nat.lt_of_lt_of_le hl (by decide))
  simp only [mtV, un1, appV, h, e, guardR_true]
theorem lst_rf {S : Store} {r : Nat} {xs : List PV} (h : S[r]? = some (.lst xs)) : lstOf S (.rf r) = some xs := by
  simp only [lstOf, h]
theorem it_rf {S : Store} {r : Nat} {xs : List PV} (h : S[r]? = some (.lst xs)) : itOf S (.rf r) = some ⟨xs, [(r, .lst xs)]⟩ := by
  simp only [itOf, h]
theorem tup_rf {S : Store} {r : Nat} {xs : List PV} (h : S[r]? = some (.lst xs)) : biV .tuple [.rf r] S = .ok (.tup xs) S := by
  simp only [biV, un1, tupV, lst_rf h]
theorem lst_ro (S : Store) (xs : List PV) : lstOf S (.ro xs) = some xs := (rfl)
theorem cr_rt (k : Bool) (S S' : Store) (v : PV) : closeR k S (.rt v S') = closeV k S v S' := (rfl)
theorem cr_nx (k : Bool) (S S' : Store) (σ : Sl) : closeR k S (.nx σ S') = closeV k S .non S' := (rfl)
theorem cl_int_e (S : Store) (i : Int) : closeV false S (.int i) S = .ok (.int i) S := closeV_same rfl
theorem cl_bl_e (S : Store) (i : Bool) : closeV false S (.bl i) S = .ok (.bl i) S := closeV_same rfl
theorem cl_str_e (S : Store) (i : SS) : closeV false S (.str i) S = .ok (.str i) S := closeV_same rfl
theorem cl_non_e (S : Store) : closeV false S .non S = .ok .non S := closeV_same rfl
theorem blw_nil_e {b : Nat} : PV.blws b [] = true := (rfl)
theorem blw_cons_e {b : Nat} {x : PV} {xs : List PV} : PV.blws b (x :: xs) = (x.blw b && PV.blws b xs) := (rfl)
/-- local cells given up at the end -/
theorem cl_app {S X : Store} {v : PV} (h : v.blw S.length = true) : closeV false S v (S ++ X) = .ok v S := closeV_gen (S1 := S) (oldOk_same _ _) rfl (frz_blw h)
theorem cl_rf {S X : Store} {xs : List PV} (h : ∀ x ∈ xs, x.blw S.length = true) : closeV false S (.rf S.length) (S ++ .lst xs :: X) = .ok (.ro xs) S := closeV_gen (S1 := S) (oldOk_same _ _) rfl (frz_rf (Nat.le_refl _) (at_app _ _ _) h)
end Ev

end
section
set_option Elab.async false
set_option linter.all false
set_option maxRecDepth 100000
set_option maxHeartbeats 1000000
/-! comprehensions over typed lists -/
namespace Ev
open PySem L2
theorem comp_filT {α : Type} {tg : Tg} {cond : DenT} {elt : Den} {C : Cfg} {σ : Sl} {it : ItV} {S : Store} {g h : α → PV} {p : α → Bool} (st : it.still S = true) : ∀ (xs : List α), (∀ x ∈ xs, ∃ σ', tg.put (g x) σ = some σ' ∧ cond C σ' S = .ok (p x) S ∧ (p x = true → elt C σ' S = .ok (h x) S)) → compGo tg cond elt C σ it (xs.map g) S = .ok ((xs.filter p).map h) S
  | [], _ => by simp [compGo, st]
  | x :: xs, H => by
    obtain ⟨σ', h1, h2, h3⟩ := H x (.head _)
    have ih := comp_filT (g := g) (h := h) (p := p) st xs fun y hy => H y (.tail _ hy)
    simp only [List.map_cons, compGo, st, guardR_true, h1, h2, noX_ok, Rs.bnd_ok]
    cases hp : p x with
    | false => simp [hp, ih]
    | true => simp [hp, h3 hp, ih]
theorem comp_mapT {α : Type} {tg : Tg} {elt : Den} {C : Cfg} {σ : Sl} {it : ItV} {S : Store} {g h : α → PV} (st : it.still S = true) (xs : List α) (H : ∀ x ∈ xs, ∃ σ', tg.put (g x) σ = some σ' ∧ elt C σ' S = .ok (h x) S) : compGo tg Ev.tYes elt C σ it (xs.map g) S = .ok (xs.map h) S := by
  have := comp_filT (tg := tg) (cond := Ev.tYes) (elt := elt) (C := C) (σ := σ) (g := g) (h := h) (p := fun _ => true) st xs fun x hx => let ⟨σ', h1, h2⟩ := H x hx; ⟨σ', h1, rfl, fun _ => h2⟩
  rw [this, List.filter_eq_self.mpr (fun _ _ => rfl)]
theorem rngL_nat (n : Nat) : rngL 0 n = (List.range n).map fun (i : Nat) => PV.int (i : Int) := by simp [rngL]
end Ev

end
section
set_option Elab.async false
set_option linter.all false
set_option maxRecDepth 100000
set_option maxHeartbeats 0
open PySem PySem.Spec PyProof.Rows L2 LamX Ev
namespace Lk85
abbrev R : PySem.W.OpenRow := PySem.W.OpenLaw.row PySem.Challenge.rw_whotowhom_k85_whole_walks_counted_and_nu
def topS (i : Nat) : Stmt := PySem.Challenge.pw_whotowhom_k85_whole_walks_counted_and_nu.main.body.getD i (.Pass ⟨0, 0, 0, 0⟩)
def i_0 : DefI := ⟨"is_integer", ⟨("is_integer", none), "is_integer", "is_integer", defArgs (topS 9), defBody (topS 9), defScope (topS 9), [], []⟩, ["thing"], ["thing"], false, false, true, false, []⟩
def i_1 : DefI := ⟨"is_within_size", ⟨("is_within_size", none), "is_within_size", "is_within_size", defArgs (topS 10), defBody (topS 10), defScope (topS 10), [], []⟩, ["thing", "low", "high"], ["thing", "low", "high"], false, false, true, false, []⟩
def i_2 : DefI := ⟨"is_lot", ⟨("is_lot", none), "is_lot", "is_lot", defArgs (topS 11), defBody (topS 11), defScope (topS 11), [], []⟩, ["limit", "thing", "at", "one"], ["limit", "thing"], false, false, true, false, []⟩
def i_3 : DefI := ⟨"Links.__init__", ⟨("Links", some "__init__"), "__init__", "Links.__init__", defArgs (inClass (topS 12) 0), defBody (inClass (topS 12) 0), defScope (inClass (topS 12) 0), [], []⟩, ["self", "wide", "rows", "at", "row"], ["self", "wide", "rows"], false, false, false, false, []⟩
def i_4 : DefI := ⟨"check_links", ⟨("check_links", none), "check_links", "check_links", defArgs (topS 13), defBody (topS 13), defScope (topS 13), [], []⟩, ["thing"], ["thing"], false, false, true, false, []⟩
def i_5 : DefI := ⟨"all_pairs", ⟨("all_pairs", none), "all_pairs", "all_pairs", defArgs (topS 14), defBody (topS 14), defScope (topS 14), [], []⟩, ["rows", "at", "row", "column"], ["rows"], false, false, true, false, []⟩
def i_6 : DefI := ⟨"check_square", ⟨("check_square", none), "check_square", "check_square", defArgs (topS 16), defBody (topS 16), defScope (topS 16), [], []⟩, ["links"], ["links"], false, false, true, false, []⟩
def i_7 : DefI := ⟨"check_rows", ⟨("check_rows", none), "check_rows", "check_rows", defArgs (topS 19), defBody (topS 19), defScope (topS 19), [], []⟩, ["links", "begin", "goal"], ["links", "begin", "goal"], false, false, true, false, []⟩
def i_8 : DefI := ⟨"check_steps", ⟨("check_steps", none), "check_steps", "check_steps", defArgs (topS 20), defBody (topS 20), defScope (topS 20), [], []⟩, ["steps"], ["steps"], false, false, true, false, []⟩
def i_9 : DefI := ⟨"step_back", ⟨("step_back", none), "step_back", "step_back", defArgs (topS 21), defBody (topS 21), defScope (topS 21), [], []⟩, ["rows", "counts", "row", "later"], ["rows", "counts"], false, false, true, false, []⟩
def i_10 : DefI := ⟨"counts_to", ⟨("counts_to", none), "counts_to", "counts_to", defArgs (topS 22), defBody (topS 22), defScope (topS 22), [], []⟩, ["links", "goal", "steps", "found", "turn", "at"], ["links", "goal", "steps"], false, false, true, false, [(77, 12)]⟩
def i_11 : DefI := ⟨"many_walks", ⟨("many_walks", none), "many_walks", "many_walks", defArgs (topS 23), defBody (topS 23), defScope (topS 23), [], []⟩, ["links", "begin", "goal", "steps"], ["links", "begin", "goal", "steps"], false, false, true, false, []⟩
def i_12 : DefI := ⟨"walk_numbered", ⟨("walk_numbered", none), "walk_numbered", "walk_numbered", defArgs (topS 24), defBody (topS 24), defScope (topS 24), [], []⟩, ["links", "begin", "goal", "steps", "number", "counts", "walk", "rest", "later"], ["links", "begin", "goal", "steps", "number"], false, false, true, false, [(93, 11)]⟩
def i_13 : DefI := ⟨"walks_at_most", ⟨("walks_at_most", none), "walks_at_most", "walks_at_most", defArgs (topS 25), defBody (topS 25), defScope (topS 25), [], []⟩, ["links", "begin", "goal", "steps", "counts"], ["links", "begin", "goal", "steps"], false, false, true, false, []⟩
def i_14 : DefI := ⟨"rounds_from", ⟨("rounds_from", none), "rounds_from", "rounds_from", defArgs (topS 26), defBody (topS 26), defScope (topS 26), [], []⟩, ["links", "steps", "at"], ["links", "steps"], false, false, true, false, []⟩
def i_15 : DefI := ⟨"_law_hand", ⟨("_law_hand", none), "_law_hand", "_law_hand", defArgs (topS 28), defBody (topS 28), defScope (topS 28), [], []⟩, ["script", "cells", "cell"], ["script"], true, false, true, false, [(112, 11)]⟩
def i_16 : DefI := ⟨"_law_draw", ⟨("_law_draw", none), "_law_draw", "_law_draw", defArgs (topS 29), defBody (topS 29), defScope (topS 29), [], []⟩, ["hand", "many", "number", "cell", "digit"], ["hand", "many"], false, false, true, false, []⟩
def i_17 : DefI := ⟨"_law_any", ⟨("_law_any", none), "_law_any", "_law_any", defArgs (topS 30), defBody (topS 30), defScope (topS 30), [], []⟩, ["hand", "some"], ["hand", "some"], false, false, true, false, []⟩
def i_18 : DefI := ⟨"_law_is", ⟨("_law_is", none), "_law_is", "_law_is", defArgs (topS 31), defBody (topS 31), defScope (topS 31), [], []⟩, ["given", "due", "one", "other"], ["given", "due"], false, false, true, false, []⟩
def i_19 : DefI := ⟨"_law_square", ⟨("_law_square", none), "_law_square", "_law_square", defArgs (topS 32), defBody (topS 32), defScope (topS 32), [], []⟩, ["hand", "most", "many", "share", "found", "row", "lot", "column"], ["hand", "most"], false, false, true, false, [(145, 12)]⟩
def i_20 : DefI := ⟨"_law_steps", ⟨("_law_steps", none), "_law_steps", "_law_steps", defArgs (topS 33), defBody (topS 33), defScope (topS 33), [], []⟩, ["rows", "begin", "many", "here", "found", "step", "later", "row", "lot", "column"], ["rows", "begin", "many"], false, false, true, false, [(154, 12), (156, 16)]⟩
def i_21 : DefI := ⟨"_law_walks", ⟨("_law_walks", none), "_law_walks", "_law_walks", defArgs (topS 34), defBody (topS 34), defScope (topS 34), [], []⟩, ["rows", "begin", "goal", "steps", "found", "step", "longer", "walk", "column"], ["rows", "begin", "goal", "steps"], false, false, true, false, []⟩
def i_22 : DefI := ⟨"_law_numbered", ⟨("_law_numbered", none), "_law_numbered", "_law_numbered", defArgs (topS 35), defBody (topS 35), defScope (topS 35), [], []⟩, ["rows", "begin", "goal", "steps", "number", "flipped", "column", "left", "walk", "step", "many", "row"], ["rows", "begin", "goal", "steps", "number"], false, false, true, false, [(172, 14)]⟩
def i_23 : DefI := ⟨"_law_case_right", ⟨("_law_case_right", none), "_law_case_right", "_law_case_right", defArgs (topS 36), defBody (topS 36), defScope (topS 36), [], []⟩, ["hand", "rows", "table", "many", "begin", "goal", "steps", "counts", "total", "told", "ends", "least", "some", "number", "few", "walk", "far", "both", "row", "due", "one"], ["hand"], false, false, true, false, []⟩
def i_24 : DefI := ⟨"_law_word", ⟨("_law_word", none), "_law_word", "_law_word", defArgs (topS 37), defBody (topS 37), defScope (topS 37), [], []⟩, ["call", "found", "e", "flags"], ["call"], false, true, false, false, [(223, 16)]⟩
def i_25 : DefI := ⟨"_law_refused", ⟨("_law_refused", none), "_law_refused", "_law_refused", defArgs (topS 38), defBody (topS 38), defScope (topS 38), [], []⟩, ["hand", "table", "wide", "odd", "bad", "steps", "number", "told", "asked"], ["hand"], false, false, true, true, [(233, 11)]⟩
def i_26 : DefI := ⟨"law", ⟨("law", none), "law", "law", defArgs (topS 39), defBody (topS 39), defScope (topS 39), [], []⟩, ["script", "hand", "known", "told", "turn"], ["script"], false, false, true, false, []⟩
def G : List (SS × GK) := ([("is_integer", .fn), ("is_within_size", .fn), ("is_lot", .fn), ("check_links", .fn), ("all_pairs", .fn), ("check_square", .fn), ("check_rows", .fn), ("check_steps", .fn), ("step_back", .fn), ("counts_to", .fn), ("many_walks", .fn), ("walk_numbered", .fn), ("walks_at_most", .fn), ("rounds_from", .fn), ("_law_hand", .fn), ("_law_draw", .fn), ("_law_any", .fn), ("_law_is", .fn), ("_law_square", .fn), ("_law_steps", .fn)] : List (SS × GK)) ++ ([("_law_walks", .fn), ("_law_numbered", .fn), ("_law_case_right", .fn), ("_law_word", .lam 0), ("_law_refused", .fn), ("law", .fn), ("LinkError", .exc), ("NoLinks", .exc), ("NoSquare", .exc), ("NoNumber", .exc), ("NoRow", .exc), ("Links", .cls "Links.__init__"), ("MOST_SIZE", .int 12), ("MOST_STEPS", .int 500), ("len", .bi .len), ("all", .bi .all), ("sum", .bi .sum), ("abs", .bi .abs), ("int", .bi .int), ("tuple", .bi .tuple)] : List (SS × GK)) ++ ([("list", .bi (.list false)), ("min", .bi .min), ("bool", .ty "bool"), ("str", .ty "str"), ("isinstance", .isi), ("range", .rng), ("enumerate", .enu), ("zip", .zip), ("reversed", .rev), ("ValueError", .ty "ValueError")] : List (SS × GK))
def law : LawI := ⟨[("Links", ["wide", "rows", "tall"])], ([("LinkError", .own "LinkError", true), ("LinkError", .own "NoLinks", false), ("LinkError", .own "NoSquare", false), ("LinkError", .own "NoNumber", false), ("LinkError", .own "NoRow", false), ("LinkError", .ty "ValueError", true), ("NoLinks", .own "LinkError", true), ("NoLinks", .own "NoLinks", true), ("NoLinks", .own "NoSquare", false), ("NoLinks", .own "NoNumber", false), ("NoLinks", .own "NoRow", false), ("NoLinks", .ty "ValueError", true), ("NoSquare", .own "LinkError", true), ("NoSquare", .own "NoLinks", false), ("NoSquare", .own "NoSquare", true), ("NoSquare", .own "NoNumber", false), ("NoSquare", .own "NoRow", false), ("NoSquare", .ty "ValueError", true), ("NoNumber", .own "LinkError", true), ("NoNumber", .own "NoLinks", false)] : List (SS × TyQ × Bool)) ++ ([("NoNumber", .own "NoSquare", false), ("NoNumber", .own "NoNumber", true), ("NoNumber", .own "NoRow", false), ("NoNumber", .ty "ValueError", true), ("NoRow", .own "LinkError", true), ("NoRow", .own "NoLinks", false), ("NoRow", .own "NoSquare", false), ("NoRow", .own "NoNumber", false), ("NoRow", .own "NoRow", true), ("NoRow", .ty "ValueError", true), ("Links", .own "Links", true), ("Links", .ty "int", false), ("Links", .ty "bool", false), ("Links", .ty "str", false), ("Links", .ty "tuple", false), ("Links", .ty "list", false), ("Links", .ty "dict", false)] : List (SS × TyQ × Bool)), (["LinkError", "NoLinks", "NoSquare", "NoNumber", "NoRow"] : List SS), G, [i_0, i_1, i_2, i_3, i_4, i_5, i_6, i_7, i_8, i_9, i_10, i_11, i_12, i_13, i_14, i_15, i_16, i_17, i_18, i_19, i_20, i_21, i_22, i_23, i_24, i_25, i_26]⟩
def loose : List SS := (["LinkError", "BadLinks", "NoLinks", "NoSquare", "NoNumber", "NoRow", "MOST_SIZE", "is_integer", "is_within_size", "is_lot", "Links", "check_links", "all_pairs", "check_square", "MOST_STEPS", "check_rows", "check_steps", "step_back", "counts_to", "many_walks"] : List SS) ++ (["walk_numbered", "walks_at_most", "rounds_from", "_law_hand", "_law_draw", "_law_any", "_law_is", "_law_square", "_law_steps", "_law_walks", "_law_numbered", "_law_case_right", "_law_word", "_law_refused"] : List SS)
abbrev hk : PySem.W.Hook := hookE law []
def ob (s : PySem.W.SharedT) : Bool × He.AlD := obsE law [] (HandSHeadRun.getT s)
theorem ob_eq (s : PySem.W.SharedT) : ob s = hk.obs s.abs := obsE_eq (HandSHeadRun.getT_eq s)
def T : Tab := fun x => (law.ds.find? fun i => decide (i.nm = x)).map (DefI.fn G 16 10)
def d_is_integer : DenS := sSeq (sRet (dAnd (dIsi (lCons (dVar 0) (lCons (dCst (.ty "int")) lNil))) (dNot (dIsi (lCons (dVar 0) (lCons (dCst (.ty "bool")) lNil)))))) sNil
def d_is_within_size : DenS := sSeq (sRet (dAnd (dCall "is_integer" (lCons (dVar 0) lNil)) (dTst (tChn .LtE .LtE (dVar 1) (dVar 0) (dVar 2))))) sNil
def d_is_lot : DenS := sSeq (sIf (Ev.tOr (Ev.tNot (tVal (dIsi (lCons (dVar 1) (lCons (dCst (.ty "tuple")) lNil))))) (Ev.tNot (tVal (dBi .all (lCons (dComp false [3] (.nm 3) (iAny (dVar 1)) Ev.tYes (dCall "is_within_size" (lCons (dVar 3) (lCons (dCst (.int 0)) (lCons (dBin .Sub (dVar 0) (dCst (.int 1))) lNil))))) lNil))))) (sSeq (sRet (dCst (.bl false))) sNil) sNil) (sSeq (sRet (dBi .all (lCons (dComp false [2] (.nm 2) (iRng1 (lCons (dBin .Sub (dBi .len (lCons (dVar 1) lNil)) (dCst (.int 1))) lNil)) Ev.tYes (dTst (tCmp .Lt (dIx (dVar 1) (dVar 2)) (dIx (dVar 1) (dBin .Add (dVar 2) (dCst (.int 1))))))) lNil))) sNil)
def d_Links___init__ : DenS := sSeq (sIf (Ev.tNot (tVal (dCall "is_within_size" (lCons (dVar 1) (lCons (dCst (.int 1)) (lCons (dCst (.int 12)) lNil)))))) (sSeq sBad sNil) sNil) (sSeq (sIf (Ev.tOr (Ev.tNot (tVal (dIsi (lCons (dVar 2) (lCons (dCst (.ty "tuple")) lNil))))) (Ev.tNot (tChn .LtE .LtE (dCst (.int 1)) (dBi .len (lCons (dVar 2) lNil)) (dCst (.int 12))))) (sSeq sBad sNil) sNil) (sSeq (sFor (.tp [.nm 3, .nm 4]) (iEnum (lCons (dVar 2) lNil)) (sSeq (sIf (Ev.tNot (tVal (dCall "is_lot" (lCons (dVar 1) (lCons (dVar 4) lNil))))) (sSeq sBad sNil) sNil) sNil)) (sSeq (Ev.sFld "wide" (dVar 0) (dVar 1)) (sSeq (Ev.sFld "rows" (dVar 0) (dVar 2)) (sSeq (Ev.sFld "tall" (dVar 0) (dBi .len (lCons (dVar 2) lNil))) sNil)))))
def d_check_links : DenS := sSeq (sIf (Ev.tNot (tVal (dIsi (lCons (dVar 0) (lCons (dCst (.gl "Links")) lNil))))) (sSeq (sRaise "NoLinks") sNil) sNil) sNil
def d_all_pairs : DenS := sSeq (sRet dBad) sNil
def d_check_square : DenS := sSeq (sExpr (dCall "check_links" (lCons (dVar 0) lNil))) (sSeq (sIf (tCmp .NotEq (dFld "tall" (dVar 0)) (dFld "wide" (dVar 0))) (sSeq (sRaise "NoSquare") sNil) sNil) sNil)
def d_check_rows : DenS := sSeq (sExpr (dCall "check_square" (lCons (dVar 0) lNil))) (sSeq (sIf (Ev.tOr (Ev.tNot (tVal (dCall "is_within_size" (lCons (dVar 1) (lCons (dCst (.int 0)) (lCons (dBin .Sub (dFld "tall" (dVar 0)) (dCst (.int 1))) lNil)))))) (Ev.tNot (tVal (dCall "is_within_size" (lCons (dVar 2) (lCons (dCst (.int 0)) (lCons (dBin .Sub (dFld "tall" (dVar 0)) (dCst (.int 1))) lNil))))))) (sSeq (sRaise "NoRow") sNil) sNil) sNil)
def d_check_steps : DenS := sSeq (sIf (Ev.tNot (tVal (dCall "is_within_size" (lCons (dVar 0) (lCons (dCst (.int 0)) (lCons (dCst (.int 500)) lNil)))))) (sSeq (sRaise "NoNumber") sNil) sNil) sNil
def d_step_back : DenS := sSeq (sRet (dComp false [2] (.nm 2) (iAny (dVar 0)) Ev.tYes (dBi .sum (lCons (dComp false [3] (.nm 3) (iAny (dVar 2)) Ev.tYes (dIx (dVar 1) (dVar 3))) lNil)))) sNil
def d_counts_to : DenS := sSeq (sSet (.nm 3) (dLst true (lCons (dComp false [5] (.nm 5) (iRng1 (lCons (dFld "tall" (dVar 0)) lNil)) Ev.tYes (dBi .int (lCons (dTst (tCmp .Eq (dVar 5) (dVar 1))) lNil))) lNil))) (sSeq (sFor (.nm 4) (iRng1 (lCons (dVar 2) lNil)) (sSeq (sExpr (dMt .append (dVar 3) (lCons (dCall "step_back" (lCons (dFld "rows" (dVar 0)) (lCons (dIx (dVar 3) (dUn .USub (dCst (.int 1)))) lNil))) lNil))) sNil)) (sSeq (sRet (dVar 3)) sNil))
def d_many_walks : DenS := sSeq (sExpr (dCall "check_rows" (lCons (dVar 0) (lCons (dVar 1) (lCons (dVar 2) lNil))))) (sSeq (sExpr (dCall "check_steps" (lCons (dVar 3) lNil))) (sSeq (sRet (dIx (dIx (dCall "counts_to" (lCons (dVar 0) (lCons (dVar 2) (lCons (dVar 3) lNil)))) (dVar 3)) (dVar 1))) sNil))
def d_walk_numbered : DenS := sSeq (sExpr (dCall "check_rows" (lCons (dVar 0) (lCons (dVar 1) (lCons (dVar 2) lNil))))) (sSeq (sExpr (dCall "check_steps" (lCons (dVar 3) lNil))) (sSeq (sIf (Ev.tOr (Ev.tNot (tVal (dCall "is_integer" (lCons (dVar 4) lNil)))) (tCmp .Lt (dVar 4) (dCst (.int 0)))) (sSeq (sRaise "NoNumber") sNil) sNil) (sSeq (sSet (.nm 5) (dCall "counts_to" (lCons (dVar 0) (lCons (dVar 2) (lCons (dVar 3) lNil))))) (sSeq (sIf (tCmp .GtE (dVar 4) (dIx (dIx (dVar 5) (dVar 3)) (dVar 1))) (sSeq (sRet (dCst .non)) sNil) sNil) (sSeq (sSet (.nm 6) (dLst true (lCons (dVar 1) lNil))) (sSeq (sFor (.nm 7) (iRev1 (dVar 3)) (sSeq (sFor (.nm 8) (iAny (dIx (dFld "rows" (dVar 0)) (dIx (dVar 6) (dUn .USub (dCst (.int 1)))))) (sSeq (sIf (tCmp .Lt (dVar 4) (dIx (dIx (dVar 5) (dVar 7)) (dVar 8))) (sSeq (sExpr (dMt .append (dVar 6) (lCons (dVar 8) lNil))) (sSeq sBrk sNil)) sNil) (sSeq (sAug .Sub 4 (dIx (dIx (dVar 5) (dVar 7)) (dVar 8))) sNil))) sNil)) (sSeq (sRet (dBi .tuple (lCons (dVar 6) lNil))) sNil)))))))
def d_walks_at_most : DenS := sSeq (sExpr (dCall "check_rows" (lCons (dVar 0) (lCons (dVar 1) (lCons (dVar 2) lNil))))) (sSeq (sExpr (dCall "check_steps" (lCons (dVar 3) lNil))) (sSeq (sRet (dBi .sum (lCons (dComp false [4] (.nm 4) (iAny (dCall "counts_to" (lCons (dVar 0) (lCons (dVar 2) (lCons (dVar 3) lNil))))) Ev.tYes (dIx (dVar 4) (dVar 1))) lNil))) sNil))
def d_rounds_from : DenS := sSeq (sExpr (dCall "check_square" (lCons (dVar 0) lNil))) (sSeq (sExpr (dCall "check_steps" (lCons (dVar 1) lNil))) (sSeq (sRet (dBi .sum (lCons (dComp false [2] (.nm 2) (iRng1 (lCons (dFld "tall" (dVar 0)) lNil)) Ev.tYes (dIx (dIx (dCall "counts_to" (lCons (dVar 0) (lCons (dVar 2) (lCons (dVar 1) lNil)))) (dVar 1)) (dVar 2))) lNil))) sNil))
def d__law_hand : DenS := sSeq (sSet (.nm 1) (dComp false [2] (.nm 2) (iAny (dSl (dVar 0) pNo (pSome (dCst (.int 63))))) Ev.tYes (dBi .abs (lCons (dBi .int (lCons (dVar 2) lNil)) lNil)))) (sSeq (sRet (dLst true (lCons (dVar 1) (lCons (dCst (.int 0)) (lCons (dCst (.int 0)) (lCons (dBin .Add (dCst (.int 97)) (dBin .Mult (dCst (.int 13)) (dBi .len (lCons (dVar 1) lNil)))) (lCons (dCst (.int 0)) lNil))))))) sNil)
def d__law_draw : DenS := sSeq (sIf (Ev.tAnd (tCmp .Eq (dIx (dVar 0) (dCst (.int 2))) (dCst (.int 0))) (tCmp .Lt (dIx (dVar 0) (dCst (.int 1))) (dBi .len (lCons (dIx (dVar 0) (dCst (.int 0))) lNil)))) (sSeq (sSet (.nm 3) (dIx (dIx (dVar 0) (dCst (.int 0))) (dIx (dVar 0) (dCst (.int 1))))) (sSeq (sPut (dVar 0) (dCst (.int 1)) (dBin .Add (dIx (dVar 0) (dCst (.int 1))) (dCst (.int 1)))) (sSeq (sPut (dVar 0) (dCst (.int 3)) (dBin .Mod (dBi .int (lCons (dBin .Add (dBin .Add (dBin .Mult (dIx (dVar 0) (dCst (.int 3))) (dCst (.int 69621))) (dBin .Mult (dVar 3) (dCst (.int 40692)))) (dCst (.int 31))) lNil)) (dCst (.int 2147483629)))) (sSeq (sIf (tCmp .GtE (dVar 3) (dBin .Pow (dCst (.int 10)) (dCst (.int 18)))) (sSeq (sPut (dVar 0) (dCst (.int 2)) (dVar 3)) sNil) sNil) sNil)))) sNil) (sSeq (sIf (tCmp .Gt (dIx (dVar 0) (dCst (.int 2))) (dCst (.int 0))) (sSeq (sSet (.nm 4) (dBin .Mod (dBi .int (lCons (dIx (dVar 0) (dCst (.int 2))) lNil)) (dVar 1))) (sSeq (sPut (dVar 0) (dCst (.int 2)) (dBin .FloorDiv (dIx (dVar 0) (dCst (.int 2))) (dVar 1))) (sSeq (sRet (dVar 4)) sNil))) sNil) (sSeq (sPut (dVar 0) (dCst (.int 4)) (dBin .Add (dIx (dVar 0) (dCst (.int 4))) (dCst (.int 1)))) (sSeq (sSet (.nm 2) (dBin .Mod (dBi .int (lCons (dBin .Mult (dBi .int (lCons (dBin .Add (dIx (dVar 0) (dCst (.int 3))) (dBin .Mult (dCst (.int 7919)) (dIx (dVar 0) (dCst (.int 4))))) lNil)) (dCst (.int 48271))) lNil)) (dCst (.int 2147483647)))) (sSeq (sSet (.nm 2) (dBin .Mod (dBi .int (lCons (dBin .Mult (dVar 2) (dBin .Add (dBin .FloorDiv (dVar 2) (dCst (.int 1009))) (dCst (.int 69621)))) lNil)) (dCst (.int 2147483647)))) (sSeq (sSet (.nm 2) (dBin .Mod (dBi .int (lCons (dBin .Mult (dVar 2) (dBin .Add (dBin .FloorDiv (dVar 2) (dCst (.int 2003))) (dCst (.int 40014)))) lNil)) (dCst (.int 2147483563)))) (sSeq (sRet (dBin .Mod (dBi .int (lCons (dBin .FloorDiv (dVar 2) (dCst (.int 16))) lNil)) (dVar 1))) sNil))))))
def d__law_any : DenS := sSeq (sRet (dIx (dVar 1) (dCall "_law_draw" (lCons (dVar 0) (lCons (dBi .len (lCons (dVar 1) lNil)) lNil))))) sNil
def c__law_is_0 : Den := dComp false [2, 3] (.tp [.nm 2, .nm 3]) (iZip (lCons (dVar 0) (lCons (dVar 1) lNil))) Ev.tYes (dCall "_law_is" (lCons (dVar 2) (lCons (dVar 3) lNil)))
def d__law_is : DenS := sSeq (sIf (Ev.tOr (tCmp .Is (dVar 1) (dCst .non)) (tCmp .Is (dVar 0) (dCst .non))) (sSeq (sRet (dAnd (dTst (tCmp .Is (dVar 1) (dCst .non))) (dTst (tCmp .Is (dVar 0) (dCst .non))))) sNil) sNil) (sSeq (sIf (tVal (dIsi (lCons (dVar 1) (lCons (dTup (lCons (dCst (.ty "tuple")) (lCons (dCst (.ty "list")) lNil))) lNil)))) (sSeq (sIf (tCmp .NotEq (dIsi (lCons (dVar 0) (lCons (dCst (.ty "tuple")) lNil))) (dIsi (lCons (dVar 1) (lCons (dCst (.ty "tuple")) lNil)))) (sSeq (sRet (dCst (.bl false))) sNil) sNil) (sSeq (sIf (tCmp .NotEq (dIsi (lCons (dVar 0) (lCons (dCst (.ty "list")) lNil))) (dIsi (lCons (dVar 1) (lCons (dCst (.ty "list")) lNil)))) (sSeq (sRet (dCst (.bl false))) sNil) sNil) (sSeq (sRet (dAnd (dTst (tCmp .Eq (dBi .len (lCons (dVar 0) lNil)) (dBi .len (lCons (dVar 1) lNil)))) (dBi .all (lCons c__law_is_0 lNil)))) sNil))) sNil) (sSeq (sIf (Ev.tOr (tCmp .NotEq (dIsi (lCons (dVar 0) (lCons (dCst (.ty "bool")) lNil))) (dIsi (lCons (dVar 1) (lCons (dCst (.ty "bool")) lNil)))) (tCmp .NotEq (dIsi (lCons (dVar 0) (lCons (dCst (.ty "int")) lNil))) (dIsi (lCons (dVar 1) (lCons (dCst (.ty "int")) lNil))))) (sSeq (sRet (dCst (.bl false))) sNil) sNil) (sSeq (sRet (dAnd (dTst (tCmp .Eq (dIsi (lCons (dVar 0) (lCons (dCst (.ty "str")) lNil))) (dIsi (lCons (dVar 1) (lCons (dCst (.ty "str")) lNil))))) (dTst (tCmp .Eq (dVar 0) (dVar 1))))) sNil)))
def d__law_square : DenS := sSeq (sSet (.tp [.nm 2, .nm 3]) (dTup (lCons (dBin .Add (dCst (.int 1)) (dCall "_law_draw" (lCons (dVar 0) (lCons (dVar 1) lNil)))) (lCons (dBin .Add (dCst (.int 1)) (dCall "_law_draw" (lCons (dVar 0) (lCons (dCst (.int 4)) lNil)))) lNil)))) (sSeq (sSet (.nm 4) (dLst true lNil)) (sSeq (sFor (.nm 5) (iRng1 (lCons (dVar 2) lNil)) (sSeq (sSet (.nm 6) (dComp false [7] (.nm 7) (iRng1 (lCons (dVar 2) lNil)) (tCmp .Lt (dCall "_law_draw" (lCons (dVar 0) (lCons (dCst (.int 6)) lNil))) (dVar 3)) (dVar 7))) (sSeq (sIf (tCmp .Eq (dCall "_law_draw" (lCons (dVar 0) (lCons (dCst (.int 4)) lNil))) (dCst (.int 0))) (sSeq (sSet (.nm 6) (dLst false (lCons (dBin .Mod (dBi .int (lCons (dBin .Add (dVar 5) (dCst (.int 1))) lNil)) (dVar 2)) lNil))) sNil) sNil) (sSeq (sExpr (dMt .append (dVar 4) (lCons (dBi .tuple (lCons (dVar 6) lNil)) lNil))) sNil)))) (sSeq (sRet (dBi .tuple (lCons (dVar 4) lNil))) sNil)))
def b__law_steps_0 : DenS := sSeq (sPut (dVar 6) (dVar 9) (dBin .Add (dIx (dVar 6) (dVar 9)) (dIx (dVar 3) (dVar 7)))) sNil
def b__law_steps_1 : DenS := sSeq (sFor (.nm 9) (iAny (dVar 8)) b__law_steps_0) sNil
def b__law_steps_2 : DenS := sSeq (sSet (.nm 6) (dBinM .Mult (dLst true (lCons (dCst (.int 0)) lNil)) (dBi .len (lCons (dVar 0) lNil)))) (sSeq (sFor (.tp [.nm 7, .nm 8]) (iEnum (lCons (dVar 0) lNil)) b__law_steps_1) (sSeq (sSet (.nm 3) (dVar 6)) (sSeq (sExpr (dMt .append (dVar 4) (lCons (dVar 3) lNil))) sNil)))
def c__law_steps_0 : Den := dComp false [7] (.nm 7) (iRng1 (lCons (dBi .len (lCons (dVar 0) lNil)) lNil)) Ev.tYes (dBi .int (lCons (dTst (tCmp .Eq (dVar 7) (dVar 1))) lNil))
def d__law_steps : DenS := sSeq (sSet (.nm 3) c__law_steps_0) (sSeq (sSet (.nm 4) (dLst true (lCons (dVar 3) lNil))) (sSeq (sFor (.nm 5) (iRng1 (lCons (dVar 2) lNil)) b__law_steps_2) (sSeq (sRet (dVar 4)) sNil)))
def c__law_walks_0 : Den := dComp false [7] (.nm 7) (iAny (dVar 4)) (tCmp .Eq (dIx (dVar 7) (dUn .USub (dCst (.int 1)))) (dVar 2)) (dVar 7)
def c__law_walks_1 : Den := dComp false [8] (.nm 8) (iAny (dIx (dVar 0) (dIx (dVar 7) (dUn .USub (dCst (.int 1)))))) Ev.tYes (dBin .Add (dVar 7) (dTup (lCons (dVar 8) lNil)))
def b__law_walks_0 : DenS := sSeq (sSet (.nm 6) (dBin .Add (dVar 6) c__law_walks_1)) sNil
def b__law_walks_1 : DenS := sSeq (sSet (.nm 6) (dLst false lNil)) (sSeq (sFor (.nm 7) (iAny (dVar 4)) b__law_walks_0) (sSeq (sSet (.nm 4) (dVar 6)) sNil))
def d__law_walks : DenS := sSeq (sSet (.nm 4) (dLst false (lCons (dTup (lCons (dVar 1) lNil)) lNil))) (sSeq (sFor (.nm 5) (iRng1 (lCons (dVar 3) lNil)) b__law_walks_1) (sSeq (sRet c__law_walks_0) sNil))
def b__law_numbered_0 : DenS := sSeq (sSet (.nm 10) (dIx (dIx (dVar 7) (dBin .Sub (dBin .Sub (dVar 3) (dVar 9)) (dCst (.int 1)))) (dVar 6))) (sSeq (sIf (tCmp .Lt (dVar 4) (dVar 10)) (sSeq (sSet (.nm 8) (dBin .Add (dVar 8) (dTup (lCons (dVar 6) lNil)))) (sSeq sBrk sNil)) sNil) (sSeq (sSet (.nm 4) (dBin .Sub (dVar 4) (dVar 10))) sNil))
def b__law_numbered_1 : DenS := sSeq (sFor (.nm 6) (iAny (dIx (dVar 0) (dIx (dVar 8) (dUn .USub (dCst (.int 1)))))) b__law_numbered_0) sNil
def c__law_numbered_0 : Den := dComp false [11] (.nm 11) (iRng1 (lCons (dBi .len (lCons (dVar 0) lNil)) lNil)) (tCmp .In (dVar 6) (dIx (dVar 0) (dVar 11))) (dVar 11)
def b__law_numbered_2 : DenS := sSeq (sExpr (dMt .append (dVar 5) (lCons (dBi .tuple (lCons c__law_numbered_0 lNil)) lNil))) sNil
def d__law_numbered : DenS := sSeq (sSet (.nm 5) (dLst true lNil)) (sSeq (sFor (.nm 6) (iRng1 (lCons (dBi .len (lCons (dVar 0) lNil)) lNil)) b__law_numbered_2) (sSeq (sSet (.nm 7) (dCall "_law_steps" (lCons (dVar 5) (lCons (dVar 2) (lCons (dVar 3) lNil))))) (sSeq (sIf (tCmp .GtE (dVar 4) (dIx (dIx (dVar 7) (dVar 3)) (dVar 1))) (sSeq (sRet (dCst .non)) sNil) sNil) (sSeq (sSet (.nm 8) (dTup (lCons (dVar 1) lNil))) (sSeq (sFor (.nm 9) (iRng1 (lCons (dVar 3) lNil)) b__law_numbered_1) (sSeq (sRet (dVar 8)) sNil))))))
def b__law_case_right_0 : DenS := sSeq (sSet (.nm 17) (dBin .Add (dVar 17) (dBin .Mult (dCall "many_walks" (lCons (dVar 2) (lCons (dVar 4) (lCons (dVar 18) (lCons (dVar 16) lNil))))) (dCall "many_walks" (lCons (dVar 2) (lCons (dVar 18) (lCons (dVar 5) (lCons (dBin .Sub (dVar 6) (dVar 16)) lNil)))))))) sNil
def b__law_case_right_1 : DenS := sSeq (sIf (Ev.tNot (tVal (dCall "_law_is" (lCons (dCall "walk_numbered" (lCons (dVar 2) (lCons (dVar 4) (lCons (dVar 5) (lCons (dVar 14) (lCons (dVar 13) lNil)))))) (lCons (dVar 15) lNil))))) (sSeq (sRet (dCst (.bl false))) sNil) sNil) sNil
def b__law_case_right_2 : DenS := sSeq (sIf (tCmp .GtE (dVar 13) (dCst (.int 0))) (sSeq (sSet (.nm 19) (dCall "_law_numbered" (lCons (dVar 1) (lCons (dVar 4) (lCons (dVar 5) (lCons (dVar 6) (lCons (dVar 13) lNil))))))) (sSeq (sIf (Ev.tNot (tVal (dCall "_law_is" (lCons (dCall "walk_numbered" (lCons (dVar 2) (lCons (dVar 4) (lCons (dVar 5) (lCons (dVar 6) (lCons (dVar 13) lNil)))))) (lCons (dVar 19) lNil))))) (sSeq (sRet (dCst (.bl false))) sNil) sNil) sNil)) sNil) sNil
def c__law_case_right_0 : Den := dComp false [18] (.nm 18) (iRng1 (lCons (dVar 3) lNil)) Ev.tYes (dIx (dIx (dCall "_law_steps" (lCons (dVar 1) (lCons (dVar 18) (lCons (dVar 6) lNil)))) (dVar 6)) (dVar 18))
def c__law_case_right_1 : Den := dComp false [20] (.nm 20) (iAny (dVar 7)) Ev.tYes (dIx (dVar 20) (dVar 5))
def d__law_case_right : DenS := sSeq (sSet (.nm 1) (dCall "_law_square" (lCons (dVar 0) (lCons (dCst (.int 6)) lNil)))) (sSeq (sPar [2, 3] (lCons (dMk "Links" "Links.__init__" false (lCons (dBi .len (lCons (dVar 1) lNil)) (lCons (dVar 1) lNil))) (lCons (dBi .len (lCons (dVar 1) lNil)) lNil))) (sSeq (sSet (.tp [.nm 4, .nm 5]) (dTup (lCons (dCall "_law_draw" (lCons (dVar 0) (lCons (dVar 3) lNil))) (lCons (dCall "_law_draw" (lCons (dVar 0) (lCons (dVar 3) lNil))) lNil)))) (sSeq (sSet (.nm 6) (dCall "_law_any" (lCons (dVar 0) (lCons (dLst false (lCons (dCst (.int 0)) (lCons (dCst (.int 1)) (lCons (dCst (.int 2)) (lCons (dCst (.int 5)) (lCons (dCst (.int 20)) (lCons (dCst (.int 100)) (lCons (dIte (tCmp .Eq (dCall "_law_draw" (lCons (dVar 0) (lCons (dCst (.int 4)) lNil))) (dCst (.int 0))) (dCst (.int 500)) (dCst (.int 30))) lNil)))))))) lNil)))) (sSeq (sSet (.nm 7) (dCall "_law_steps" (lCons (dVar 1) (lCons (dVar 4) (lCons (dVar 6) lNil))))) (sSeq (sSet (.nm 8) (dBi .sum (lCons c__law_case_right_1 lNil))) (sSeq (sSet (.nm 9) (dLst false (lCons (dCall "many_walks" (lCons (dVar 2) (lCons (dVar 4) (lCons (dVar 5) (lCons (dVar 6) lNil))))) (lCons (dCall "walks_at_most" (lCons (dVar 2) (lCons (dVar 4) (lCons (dVar 5) (lCons (dVar 6) lNil))))) lNil)))) (sSeq (sIf (Ev.tNot (tVal (dCall "_law_is" (lCons (dVar 9) (lCons (dLst false (lCons (dIx (dIx (dVar 7) (dVar 6)) (dVar 5)) (lCons (dVar 8) lNil))) lNil))))) (sSeq (sRet (dCst (.bl false))) sNil) sNil) (sSeq (sSet (.nm 10) (dBi .sum (lCons c__law_case_right_0 lNil))) (sSeq (sIf (Ev.tNot (tVal (dCall "_law_is" (lCons (dCall "rounds_from" (lCons (dVar 2) (lCons (dVar 6) lNil))) (lCons (dVar 10) lNil))))) (sSeq (sRet (dCst (.bl false))) sNil) sNil) (sSeq (sSet (.nm 11) (dIx (dIx (dVar 7) (dVar 6)) (dVar 5))) (sSeq (sSet (.nm 12) (dLst false (lCons (dCst (.int 0)) (lCons (dVar 11) lNil)))) (sSeq (sIf (tCmp .Lt (dVar 11) (dBin .Pow (dCst (.int 10)) (dCst (.int 50)))) (sSeq (sSet (.nm 12) (dBin .Add (dVar 12) (dLst false (lCons (dBin .Sub (dVar 11) (dCst (.int 1))) (lCons (dBin .Add (dVar 11) (dCst (.int 5))) (lCons (dBin .FloorDiv (dVar 11) (dCst (.int 2))) (lCons (dBin .FloorDiv (dVar 11) (dCst (.int 3))) lNil))))))) sNil) sNil) (sSeq (sFor (.nm 13) (iAny (dVar 12)) b__law_case_right_2) (sSeq (sSet (.nm 14) (dBi .min (lCons (dVar 6) (lCons (dCst (.int 3)) lNil)))) (sSeq (sFor (.tp [.nm 13, .nm 15]) (iEnum (lCons (dSl (dCall "_law_walks" (lCons (dVar 1) (lCons (dVar 4) (lCons (dVar 5) (lCons (dVar 14) lNil))))) pNo (pSome (dCst (.int 8)))) lNil)) b__law_case_right_1) (sSeq (sSet (.nm 16) (dCall "_law_draw" (lCons (dVar 0) (lCons (dBin .Add (dVar 6) (dCst (.int 1))) lNil)))) (sSeq (sSet (.nm 17) (dCst (.int 0))) (sSeq (sFor (.nm 18) (iRng1 (lCons (dVar 3) lNil)) b__law_case_right_0) (sSeq (sRet (dTst (tCmp .Eq (dVar 17) (dVar 11)))) sNil)))))))))))))))))))
def d__law_word : DenS := sSeq (sSet (.nm 1) (dCst (.str "other"))) (sSeq (sTryA "LinkError" 2 (sSeq (sSet (.nm 1) (dAct 0)) sNil) (sSeq (sSet (.nm 3) (dLst true (lCons (dIsi (lCons (dVar 2) (lCons (dCst (.gl "NoLinks")) lNil))) (lCons (dIsi (lCons (dVar 2) (lCons (dCst (.gl "NoSquare")) lNil))) (lCons (dIsi (lCons (dVar 2) (lCons (dCst (.gl "NoRow")) lNil))) lNil))))) (sSeq (sExpr (dMt .append (dVar 3) (lCons (dIsi (lCons (dVar 2) (lCons (dCst (.gl "NoNumber")) lNil))) lNil))) (sSeq (sIf (Ev.tAnd (tCmp .Eq (dMt .count (dVar 3) (lCons (dCst (.bl true)) lNil)) (dCst (.int 1))) (tVal (dIsi (lCons (dVar 2) (lCons (dCst (.ty "ValueError")) lNil))))) (sSeq (sSet (.nm 1) (dIx (dLst false (lCons (dCst (.str "links")) (lCons (dCst (.str "square")) (lCons (dCst (.str "row")) (lCons (dCst (.str "number")) lNil))))) (dMt .index (dVar 3) (lCons (dCst (.bl true)) lNil)))) sNil) sNil) sNil)))) (sSeq (sRet (dVar 1)) sNil))
def b__law_refused_0 : DenS := sSeq (sExpr (dMt .append (dVar 7) (lCons (dLam "_law_word" (dCallL 8 (lCons (dVar 3) (lCons (dVar 4) (lCons (dVar 4) (lCons (dVar 5) lNil)))))) lNil))) (sSeq (sExpr (dMt .append (dVar 7) (lCons (dLam "_law_word" (dCallL 8 (lCons (dVar 2) (lCons (dVar 4) (lCons (dVar 4) (lCons (dVar 5) lNil)))))) lNil))) (sSeq (sExpr (dMt .append (dVar 7) (lCons (dLam "_law_word" (dCallL 8 (lCons (dVar 1) (lCons (dVar 4) (lCons (dVar 4) (lCons (dVar 5) lNil)))))) lNil))) (sSeq (sExpr (dMt .append (dVar 7) (lCons (dLam "_law_word" (dCallL 8 (lCons (dVar 1) (lCons (dCst (.int 0)) (lCons (dVar 4) (lCons (dVar 5) lNil)))))) lNil))) (sSeq (sExpr (dMt .append (dVar 7) (lCons (dLam "_law_word" (dCallL 8 (lCons (dVar 1) (lCons (dCst (.int 0)) (lCons (dCst (.int 1)) (lCons (dVar 5) lNil)))))) lNil))) sNil))))
def d__law_refused : DenS := sSeq (sSet (.tp [.nm 1, .nm 2]) (dTup (lCons (dMk "Links" "Links.__init__" false (lCons (dCst (.int 2)) (lCons (dTup (lCons (dTup (lCons (dCst (.int 0)) (lCons (dCst (.int 1)) lNil))) (lCons (dTup (lCons (dCst (.int 1)) lNil)) lNil))) lNil))) (lCons (dMk "Links" "Links.__init__" false (lCons (dCst (.int 2)) (lCons (dTup (lCons (dTup (lCons (dCst (.int 0)) (lCons (dCst (.int 1)) lNil))) lNil)) lNil))) lNil)))) (sSeq (sSet (.nm 3) (dCall "_law_any" (lCons (dVar 0) (lCons (dLst false (lCons (dCst .non) (lCons (dCst (.int 0)) (lCons (dTup (lCons (dTup (lCons (dCst (.int 0)) lNil)) lNil)) (lCons (dCst (.str "links")) (lCons (dLst false lNil) lNil)))))) lNil)))) (sSeq (sSet (.nm 4) (dCall "_law_any" (lCons (dVar 0) (lCons (dLst false (lCons (dCst (.int 2)) (lCons (dUn .USub (dCst (.int 1))) (lCons (dCst .non) (lCons (dCst (.bl true)) (lCons (dCst (.str "0")) (lCons (dTup (lCons (dCst (.int 0)) lNil)) lNil))))))) lNil)))) (sSeq (sSet (.tp [.nm 5, .nm 6]) (dTup (lCons (dCall "_law_any" (lCons (dVar 0) (lCons (dLst false (lCons (dUn .USub (dCst (.int 1))) (lCons (dCst (.int 501)) (lCons (dCst .non) (lCons (dCst (.bl true)) (lCons (dCst (.str "1")) lNil)))))) lNil))) (lCons (dCall "_law_any" (lCons (dVar 0) (lCons (dLst false (lCons (dUn .USub (dCst (.int 1))) (lCons (dCst .non) (lCons (dCst (.bl true)) (lCons (dCst (.str "1")) (lCons (dTup (lCons (dCst (.int 1)) lNil)) lNil)))))) lNil))) lNil)))) (sSeq (sSet (.nm 7) (dLst true lNil)) (sSeq (sFor (.nm 8) (iAny (dTup (lCons (dCst (.gl "many_walks")) (lCons (dCst (.gl "walks_at_most")) lNil)))) b__law_refused_0) (sSeq (sExpr (dMt .append (dVar 7) (lCons (dLam "_law_word" (dCall "walk_numbered" (lCons (dVar 1) (lCons (dCst (.int 0)) (lCons (dCst (.int 1)) (lCons (dVar 5) (lCons (dVar 6) lNil))))))) lNil))) (sSeq (sExpr (dMt .append (dVar 7) (lCons (dLam "_law_word" (dCall "walk_numbered" (lCons (dVar 1) (lCons (dCst (.int 0)) (lCons (dCst (.int 1)) (lCons (dCst (.int 3)) (lCons (dVar 6) lNil))))))) lNil))) (sSeq (sExpr (dMt .append (dVar 7) (lCons (dLam "_law_word" (dCall "rounds_from" (lCons (dVar 2) (lCons (dVar 5) lNil)))) lNil))) (sSeq (sExpr (dMt .append (dVar 7) (lCons (dLam "_law_word" (dCall "rounds_from" (lCons (dVar 1) (lCons (dVar 5) lNil)))) lNil))) (sSeq (sRet (dTst (tCmp .Eq (dVar 7) (dBin .Add (dBin .Mult (dLst false (lCons (dCst (.str "links")) (lCons (dCst (.str "square")) (lCons (dCst (.str "row")) (lCons (dCst (.str "row")) (lCons (dCst (.str "number")) lNil)))))) (dCst (.int 2))) (dLst false (lCons (dCst (.str "number")) (lCons (dCst (.str "number")) (lCons (dCst (.str "square")) (lCons (dCst (.str "number")) lNil))))))))) sNil))))))))))
def c_law_0 : Den := dComp false [4] (.nm 4) (iRng1 (lCons (dCst (.int 4)) lNil)) Ev.tYes (dCall "_law_case_right" (lCons (dVar 1) lNil))
def d_law : DenS := sSeq (sSet (.nm 1) (dCall "_law_hand" (lCons (dVar 0) lNil))) (sSeq (sSet (.nm 2) (dMk "Links" "Links.__init__" false (lCons (dCst (.int 2)) (lCons (dTup (lCons (dTup (lCons (dCst (.int 0)) (lCons (dCst (.int 1)) lNil))) (lCons (dTup (lCons (dCst (.int 0)) lNil)) lNil))) lNil)))) (sSeq (sSet (.nm 3) (dLst false (lCons (dCall "many_walks" (lCons (dVar 2) (lCons (dCst (.int 0)) (lCons (dCst (.int 0)) (lCons (dCst (.int 10)) lNil))))) (lCons (dCall "walk_numbered" (lCons (dVar 2) (lCons (dCst (.int 0)) (lCons (dCst (.int 0)) (lCons (dCst (.int 2)) (lCons (dCst (.int 1)) lNil)))))) lNil)))) (sSeq (sSet (.nm 3) (dBin .Add (dVar 3) (dLst false (lCons (dCall "walks_at_most" (lCons (dVar 2) (lCons (dCst (.int 0)) (lCons (dCst (.int 1)) (lCons (dCst (.int 3)) lNil))))) (lCons (dCall "rounds_from" (lCons (dVar 2) (lCons (dCst (.int 3)) lNil))) lNil))))) (sSeq (sIf (Ev.tOr (Ev.tNot (tVal (dCall "_law_is" (lCons (dVar 3) (lCons (dLst false (lCons (dCst (.int 89)) (lCons (dTup (lCons (dCst (.int 0)) (lCons (dCst (.int 1)) (lCons (dCst (.int 0)) lNil)))) (lCons (dCst (.int 4)) (lCons (dCst (.int 4)) lNil))))) lNil))))) (Ev.tNot (tVal (dCall "_law_refused" (lCons (dVar 1) lNil))))) (sSeq (sRet (dCst (.bl false))) sNil) sNil) (sSeq (sRet (dBi .all (lCons c_law_0 lNil))) sNil)))))
end Lk85

end
section
set_option Elab.async false
set_option linter.all false
set_option maxRecDepth 100000
set_option maxHeartbeats 0
open PySem PySem.Spec PyProof.Rows L2 LamX Ev
namespace Lk85
theorem q_0 : T "is_integer" = some ⟨1, 1, false, false, true, d_is_integer⟩ := by kernel_rfl
theorem q_1 : T "is_within_size" = some ⟨3, 3, false, false, true, d_is_within_size⟩ := by kernel_rfl
theorem q_2 : T "is_lot" = some ⟨2, 4, false, false, true, d_is_lot⟩ := by kernel_rfl
theorem q_3 : T "Links.__init__" = some ⟨3, 5, false, false, false, d_Links___init__⟩ := by kernel_rfl
theorem q_4 : T "check_links" = some ⟨1, 1, false, false, true, d_check_links⟩ := by kernel_rfl
theorem q_5 : T "all_pairs" = some ⟨1, 4, false, false, true, d_all_pairs⟩ := by kernel_rfl
theorem q_6 : T "check_square" = some ⟨1, 1, false, false, true, d_check_square⟩ := by kernel_rfl
theorem q_7 : T "check_rows" = some ⟨3, 3, false, false, true, d_check_rows⟩ := by kernel_rfl
theorem q_8 : T "check_steps" = some ⟨1, 1, false, false, true, d_check_steps⟩ := by kernel_rfl
theorem q_9 : T "step_back" = some ⟨2, 4, false, false, true, d_step_back⟩ := by kernel_rfl
theorem q_10 : T "counts_to" = some ⟨3, 6, false, false, true, d_counts_to⟩ := by kernel_rfl
theorem q_11 : T "many_walks" = some ⟨4, 4, false, false, true, d_many_walks⟩ := by kernel_rfl
theorem q_12 : T "walk_numbered" = some ⟨5, 9, false, false, true, d_walk_numbered⟩ := by kernel_rfl
theorem q_13 : T "walks_at_most" = some ⟨4, 5, false, false, true, d_walks_at_most⟩ := by kernel_rfl
theorem q_14 : T "rounds_from" = some ⟨2, 3, false, false, true, d_rounds_from⟩ := by kernel_rfl
theorem q_15 : T "_law_hand" = some ⟨1, 3, true, false, true, d__law_hand⟩ := by kernel_rfl
theorem q_16 : T "_law_draw" = some ⟨2, 5, false, false, true, d__law_draw⟩ := by kernel_rfl
theorem q_17 : T "_law_any" = some ⟨2, 2, false, false, true, d__law_any⟩ := by kernel_rfl
theorem q_18 : T "_law_is" = some ⟨2, 4, false, false, true, d__law_is⟩ := by kernel_rfl
theorem q_19 : T "_law_square" = some ⟨2, 8, false, false, true, d__law_square⟩ := by kernel_rfl
theorem q_20 : T "_law_steps" = some ⟨3, 10, false, false, true, d__law_steps⟩ := by kernel_rfl
theorem q_21 : T "_law_walks" = some ⟨4, 9, false, false, true, d__law_walks⟩ := by kernel_rfl
theorem q_22 : T "_law_numbered" = some ⟨5, 12, false, false, true, d__law_numbered⟩ := by kernel_rfl
theorem q_23 : T "_law_case_right" = some ⟨1, 21, false, false, true, d__law_case_right⟩ := by kernel_rfl
theorem q_24 : T "_law_word" = some ⟨1, 4, false, true, false, d__law_word⟩ := by kernel_rfl
theorem q_25 : T "_law_refused" = some ⟨1, 9, false, false, true, d__law_refused⟩ := by kernel_rfl
theorem q_26 : T "law" = some ⟨1, 5, false, false, true, d_law⟩ := by kernel_rfl
end Lk85

end
section
set_option Elab.async false
set_option linter.all false
set_option maxRecDepth 100000
set_option maxHeartbeats 1000000
namespace Lk85
open PySem Ev
def rn (d : Nat) (lam : Store → Rs PV) (x : Ev.SS) (args : List PV) (S : Store) : Rs PV := runF T law.flF law.subF 1000 d lam x args S
def cC (d : Nat) (lam : Store → Rs PV) : Cfg := ⟨rn d, lam, 1000, law.flF, law.subF, fun x => knT T x⟩
@[simp] theorem cC_call (d : Nat) (lam : Store → Rs PV) : (cC d lam).call = rn d := rfl
@[simp] theorem cC_lam (d : Nat) (lam : Store → Rs PV) : (cC d lam).lam = lam := rfl
@[simp] theorem cC_flds (d : Nat) (lam : Store → Rs PV) : (cC d lam).flds = law.flF := rfl
@[simp] theorem cC_sub (d : Nat) (lam : Store → Rs PV) : (cC d lam).sub = law.subF := rfl
@[simp] theorem cC_kn (d : Nat) (lam : Store → Rs PV) (x : Ev.SS) : (cC d lam).kn x = knT T x := rfl
theorem e1 {x : Ev.SS} {np nn : Nat} {glob : Bool} {b : DenS} (h : T x = some ⟨np, nn, false, false, glob, b⟩) {args : List PV} (hl : args.length = np) (hc : args.any isClo = false) (d : Nat) (lam : Store → Rs PV) (S : Store) :
    rn (d + 1) lam x args S = closeR false S (b (cC d lam) (startP nn args) S) := run1 h hl hc d lam S
/-- an int that is no bool -/
def isI : PV → Bool
  | .int _ => true
  | _ => false
/-- a plain value (one that isinstance asks) -/
def pl : PV → Bool
  | .non => true
  | .bl _ => true
  | .int _ => true
  | .str _ => true
  | .tup _ => true
  | .ro _ => true
  | _ => false
theorem is_int (d : Nat) (lam : Store → Rs PV) (v : PV) (S : Store) (h : pl v = true) : rn (d + 1) lam "is_integer" [v] S = .ok (.bl (isI v)) S := by
  rw [e1 q_0 rfl (by cases v <;> first | rfl | cases h)]
  cases v <;> first | (cases h; done) | simp [d_is_integer, isiX, qOne, isiV, tyOf, isiAny, isiT, kit_int_int, kit_int_bool, kit_bool_int, kit_bool_bool, kit_non_int, kit_str_int, kit_tup_int, kit_lst_int, isI]
def isW (lo hi : Int) : PV → Bool
  | .int i => decide (lo ≤ i ∧ i ≤ hi)
  | _ => false
theorem within (d : Nat) (lam : Store → Rs PV) (v : PV) (lo hi : Int) (S : Store) (h : pl v = true) : rn (d + 2) lam "is_within_size" [v, .int lo, .int hi] S = .ok (.bl (isW lo hi v)) S := by
  rw [e1 q_1 rfl (by cases v <;> first | rfl | cases h)]
  simp only [d_is_within_size, sSeq_ap, sRet_ap, dAnd_ap, dCall_ap, lCons_ap, lNil_ap, dVar_ap, startP_def]
  simp only [List.map_cons, List.map_nil, List.cons_append, List.nil_append, List.getElem?_cons_zero, Rs.bnd_ok]
  rw [cC_call, cC_lam, is_int d lam v S h]
  cases v <;> first | (cases h; done) | simp [isI, isW, cmpV, ordV, cmpI]
  rename_i i
  by_cases h1 : lo ≤ i <;> simp [h1]
def rowV (r : List Nat) : PV := .tup (r.map fun (x : Nat) => PV.int (x : Int))
def rowsV (R : List (List Nat)) : PV := .tup (R.map rowV)
def lnk (w : Nat) (R : List (List Nat)) : PV := .obj "Links" [.int w, rowsV R, .int R.length]
structure Asc (w : Nat) (r : List Nat) : Prop where
  lt : ∀ x ∈ r, x < w
  asc : r.Pairwise (· < ·)
theorem big (n : Nat) (h : n ≤ 1000000) : decide (n ≤ sizeLine) = true := decide_eq_true (Nat.le_trans h (by decide))
theorem asc_len {w : Nat} : ∀ {r : List Nat} {lo : Nat}, (∀ x ∈ r, lo ≤ x ∧ x < w) → r.Pairwise (· < ·) → r.length ≤ w - lo
  | [], _, _, _ => Nat.zero_le _
  | x :: r, lo, h, p => by
    obtain ⟨p1, p2⟩ := List.pairwise_cons.mp p
    have := asc_len (lo := x + 1) (fun y hy => ⟨p1 y hy, (h y (.tail _ hy)).2⟩) p2
    have hx := h x (.head _)
    simp only [List.length_cons]
    omega
theorem Asc.len {w : Nat} {r : List Nat} (h : Asc w r) : r.length ≤ w := by
  have := asc_len (lo := 0) (fun x hx => ⟨Nat.zero_le _, h.lt x hx⟩) h.asc
  omega
theorem atI_nat {α : Type} {xs : List α} {i : Nat} {x : α} (h : xs[i]? = some x) : L2.atI xs (i : Int) = some x := by
  have hl := (List.getElem?_eq_some_iff.mp h).1
  unfold L2.atI L2.ixN
  rw [if_pos (by omega), if_pos (by omega)]
  simpa using h
theorem is_lot (d : Nat) (lam : Store → Rs PV) (w : Nat) (hw : w ≤ 1000) (r : List Nat) (h : Asc w r) (S : Store) : rn (d + 3) lam "is_lot" [.int w, rowV r] S = .ok (.bl true) S := by
  rw [e1 q_2 rfl rfl]
  have hl := h.len
  have c1 : ∀ σ : Sl, σ[0]? = some (some (.int w)) → σ[1]? = some (some (rowV r)) → 3 < σ.length → dComp false [3] (.nm 3) (iAny (dVar 1)) Ev.tYes (dCall "is_within_size" (lCons (dVar 3) (lCons (dCst (.int 0)) (lCons (dBin .Sub (dVar 0) (dCst (.int 1))) lNil)))) (cC (d + 2) lam) σ S = .ok (.ro (r.map fun x => .bl true)) S := by
    intro σ h0 h1 h3
    simp only [dComp_ap, iAny_ap, dVar_ap, h1, rowV, Rs.bnd_ok, itOf]
    rw [big _ (by simp; omega), guardR_true]
    rw [comp_map (f := fun _ => .bl true) rfl]
    · simp [mkLst]
    · intro x hx
      obtain ⟨y, hy, rfl⟩ := List.mem_map.mp hx
      refine ⟨_, rfl, ?_⟩
      have g3 : ((wipeP σ [3]).set 3 (some (PV.int (y : Int))))[3]? = some (some (.int y)) := by simp [wipeP, h3]
      have g0 : ((wipeP σ [3]).set 3 (some (PV.int (y : Int))))[0]? = some (some (.int w)) := by simp [wipeP, h0]
      simp only [dCall_ap, lCons_ap, lNil_ap, dVar_ap, g3, g0, Rs.bnd_ok, dCst_ap, dBin_ap, binV, subV]
      rw [cC_call, cC_lam, within d lam (.int y) 0 (w - 1) S rfl]
      have := h.lt y hy
      simp [isW]
      omega
  have c2 : ∀ σ : Sl, σ[1]? = some (some (rowV r)) → 2 < σ.length → dComp false [2] (.nm 2) (iRng1 (lCons (dBin .Sub (dBi .len (lCons (dVar 1) lNil)) (dCst (.int 1))) lNil)) Ev.tYes (dTst (tCmp .Lt (dIx (dVar 1) (dVar 2)) (dIx (dVar 1) (dBin .Add (dVar 2) (dCst (.int 1)))))) (cC (d + 2) lam) σ S = .ok (.ro ((List.range (r.length - 1)).map fun x => .bl true)) S := by
    intro σ h1 h3
    have e0 : ((r.length : Int) - 1).toNat = r.length - 1 := by omega
    have sm : small62 ((r.length : Int) - 1) = true := small_of (by omega) (by omega)
    simp only [dComp_ap, iRng1_ap, lCons_ap, lNil_ap, dBin_ap, dBi_ap, dVar_ap, h1, Rs.bnd_ok, dCst_ap]
    simp only [biV, un1, lenV, rowV, seqOf, Rs.bnd_ok, binV, subV, List.length_map, rng1V, intsOf, Option.map_some, sm, guardR_true, e0]
    rw [big _ (by rw [rngL_length]; omega), guardR_true]
    rw [comp_map (f := fun _ => .bl true) rfl]
    · simp [mkLst, rngL]
    · intro x hx
      obtain ⟨i, hi, rfl⟩ := List.mem_map.mp (show x ∈ (List.range (r.length - 1)).map fun (k : Nat) => PV.int (0 + (k : Int)) from hx)
      have hi : i < r.length - 1 := List.mem_range.mp hi
      refine ⟨_, rfl, ?_⟩
      have g2 : ∀ v : PV, ((wipeP σ [2]).set 2 (some v))[2]? = some (some v) := fun v => by simp [wipeP, h3]
      have g1 : ∀ v : PV, ((wipeP σ [2]).set 2 (some v))[1]? = some (some (rowV r)) := fun v => by simp [wipeP, h1]
      have a1 : r[i]? = some r[i] := List.getElem?_eq_getElem (by omega)
      have a2 : r[i + 1]? = some r[i + 1] := List.getElem?_eq_getElem (by omega)
      have b1 : L2.atI (r.map fun (x : Nat) => PV.int (x : Int)) (0 + (i : Int)) = some (.int r[i]) := by rw [Int.zero_add]; exact atI_nat (by rw [List.getElem?_map, a1]; rfl)
      have b2 : L2.atI (r.map fun (x : Nat) => PV.int (x : Int)) (0 + (i : Int) + 1) = some (.int r[i + 1]) := by
        have : (0 + (i : Int) + 1) = ((i + 1 : Nat) : Int) := by omega
        rw [this]; exact atI_nat (by rw [List.getElem?_map, a2]; rfl)
      simp only [dTst_ap, tCmp_ap, dIx_ap, dVar_ap, g1, g2, Rs.bnd_ok, dBin_ap, dCst_ap, binV, addV, ixV, rowV, seqOf, b1, b2, cmpV, ordV, cmpI]
      have := List.pairwise_iff_getElem.mp h.asc i (i + 1) (by omega) (by omega) (by omega)
      simp
      omega
  have b1 : blsOf (r.map fun _ => PV.bl true) = some (r.map fun _ => true) := blsOf_map (fun _ => true) r
  have b2 : blsOf ((List.range (r.length - 1)).map fun _ => PV.bl true) = some ((List.range (r.length - 1)).map fun _ => true) := blsOf_map (fun _ => true) _
  have al : ∀ {α : Type} (l : List α), (l.map fun _ => true).all id = true := fun l => by simp
  simp only [d_is_lot, sSeq_ap, sIf_ap, tOr_ap, tNot_ap, tVal_ap, dIsi_ap, dBi_ap, lCons_ap, lNil_ap, dVar_ap, dCst_ap, startP_def, sRet_ap]
  simp only [List.map_cons, List.map_nil, List.cons_append, List.nil_append, List.getElem?_cons_zero, List.getElem?_cons_succ, Rs.bnd_ok]
  have i1 : isiX (cC (d + 2) lam) [rowV r, .ty "tuple"] S = .ok (.bl true) S := by simp [isiX, qOne, isiV, tyOf, isiAny, isiT, kit_tup_tup, rowV]
  simp only [i1, Rs.bnd_ok, truV_bl, Bool.not_true, Bool.false_eq_true, if_false]
  rw [c1 _ rfl rfl (by simp)]
  simp only [Rs.bnd_ok, biV, un1, allV, lstOf, Option.bind_some, b1, al, truV_bl, Bool.not_true, inS_ok, Bool.false_eq_true, if_false, sNil_ap, Rt.bnd_nx]
  rw [c2 _ rfl (by simp)]
  simp [biV, un1, allV, lstOf, b2]
structure Good (w : Nat) (R : List (List Nat)) : Prop where
  w1 : 1 ≤ w
  w2 : w ≤ 12
  n1 : 1 ≤ R.length
  n2 : R.length ≤ 12
  asc : ∀ r ∈ R, Asc w r
theorem fl_links : law.flF "Links" = some (["wide", "rows", "tall"] : List Ev.SS) := by kernel_rfl
theorem pf1 (v : PV) : putFd "wide" v [] [] = ((["wide"] : List Ev.SS), [v]) := rfl
theorem pf2 (v a : PV) : putFd "rows" v (["wide"] : List Ev.SS) [a] = ((["wide", "rows"] : List Ev.SS), [a, v]) := by
  unfold putFd
  rw [if_neg (by decide)]
  rfl
theorem pf3 (v a b : PV) : putFd "tall" v (["wide", "rows"] : List Ev.SS) [a, b] = ((["wide", "rows", "tall"] : List Ev.SS), [a, b, v]) := by
  unfold putFd
  rw [if_neg (by decide)]
  unfold putFd
  rw [if_neg (by decide)]
  rfl
theorem app_at {S0 : Store} {c : Cell} : (S0 ++ [c])[S0.length]? = some c := by simp
theorem app_set {S0 : Store} {c c' : Cell} : (S0 ++ [c]).set S0.length c' = S0 ++ [c'] := by simp
theorem enumL_at {xs : List PV} {v : PV} : ∀ {k : Nat}, v ∈ enumL k xs → ∃ (j : Nat) (x : PV), x ∈ xs ∧ v = .tup [.int (j : Int), x] := by
  induction xs with
  | nil => intro k h; cases h
  | cons x xs ih =>
    intro k h
    rcases List.mem_cons.mp h with h | h
    · exact ⟨k, x, .head _, h⟩
    · obtain ⟨j, y, hy, e⟩ := ih h
      exact ⟨j, y, .tail _ hy, e⟩
theorem fld_set {d : Nat} {lam : Store → Rs PV} {S0 : Store} {ns : List Ev.SS} {fs : List PV} {f : Ev.SS} {v : PV} (hf : (["wide", "rows", "tall"] : List Ev.SS).contains f = true) (hn : ns.length < 900) : setFd (cC d lam) (.rf S0.length) v f (S0 ++ [.ins "Links" ns fs]) = some (S0 ++ [.ins "Links" (putFd f v ns fs).1 (putFd f v ns fs).2]) := by
  simp only [setFd, app_at, cC_flds, fl_links, hf, hn, and_self, if_true, app_set]
theorem links_init (d : Nat) (lam : Store → Rs PV) (w : Nat) (R : List (List Nat)) (g : Good w R) (S0 : Store) : rn (d + 4) lam "Links.__init__" [.rf S0.length, .int w, rowsV R] (S0 ++ [.ins "Links" [] []]) = .ok .non (S0 ++ [.ins "Links" ["wide", "rows", "tall"] [.int w, rowsV R, .int R.length]]) := by
  rw [e1 q_3 rfl rfl]
  have g1 := g.w1; have g2 := g.w2; have g3 := g.n1; have g4 := g.n2
  generalize hS : S0 ++ [.ins "Links" [] []] = S
  have w1 : rn (d + 3) lam "is_within_size" [.int w, .int 1, .int 12] S = .ok (.bl true) S := by
    rw [within (d + 1) lam (.int w) 1 12 S rfl]
    simp [isW]; omega
  have i1 : isiX (cC (d + 3) lam) [rowsV R, .ty "tuple"] S = .ok (.bl true) S := by simp [isiX, qOne, isiV, tyOf, isiAny, isiT, kit_tup_tup, rowsV]
  have loop : ∀ σ : Sl, σ[1]? = some (some (.int w)) → 4 < σ.length → ∃ σ', forGo (.tp [.nm 3, .nm 4]) (sSeq (sIf (Ev.tNot (tVal (dCall "is_lot" (lCons (dVar 1) (lCons (dVar 4) lNil))))) (sSeq sBad sNil) sNil) sNil) (cC (d + 3) lam) ⟨enumL 0 (R.map rowV), []⟩ (enumL 0 (R.map rowV)) σ S = .nx σ' S ∧ σ'.take 3 = σ.take 3 := by
    intro σ0 h0 h4
    refine for_ind (R := fun r => ∃ σ', r = .nx σ' S ∧ σ'.take 3 = σ0.take 3) (fun items σ S' => S' = S ∧ σ.take 3 = σ0.take 3 ∧ 4 < σ.length ∧ σ[1]? = some (some (.int w)) ∧ ∀ v ∈ items, ∃ (j : Nat) (r : List Nat), r ∈ R ∧ v = .tup [.int (j : Int), rowV r]) ?_ ?_ _ σ0 S ⟨rfl, rfl, h4, h0, fun v hv => ?_⟩
    · rintro σ S' ⟨rfl, h1, h2, h3, _⟩
      exact ⟨still_nil, σ, rfl, h1⟩
    · rintro x xs σ S' ⟨rfl, h1, h2, h3, h5⟩
      obtain ⟨j, r, hr, rfl⟩ := h5 x (.head _)
      refine ⟨still_nil, _, rfl, ?_⟩
      have a1 : (((σ.set 3 (some (PV.int (j : Int)))).set 4 (some (rowV r))))[1]? = some (some (.int w)) := by simp [h3]
      have a4 : (((σ.set 3 (some (PV.int (j : Int)))).set 4 (some (rowV r))))[4]? = some (some (rowV r)) := by simp [h2]
      simp only [sSeq_ap, sIf_ap, tNot_ap, tVal_ap, dCall_ap, lCons_ap, lNil_ap, dVar_ap, a1, a4, Rs.bnd_ok, cC_call, cC_lam]
      rw [is_lot d lam w (by omega) r (g.asc r hr) S']
      simp only [Rs.bnd_ok, truV_bl, Bool.not_true, inS_ok, Bool.false_eq_true, if_false, sNil_ap, Rt.bnd_nx]
      refine ⟨trivial, ?_, by simp [h2], a1, fun v hv => h5 v (.tail _ hv)⟩
      rw [List.take_set_of_le (by omega), List.take_set_of_le (by omega)]
      exact h1
    · obtain ⟨j, y, hy, rfl⟩ := enumL_at hv
      obtain ⟨r, hr, rfl⟩ := List.mem_map.mp hy
      exact ⟨j, r, hr, rfl⟩
  simp only [d_Links___init__, sSeq_ap, sIf_ap, tOr_ap, tNot_ap, tVal_ap, dCall_ap, dIsi_ap, dBi_ap, lCons_ap, lNil_ap, dVar_ap, dCst_ap, startP_def, tChn_ap]
  simp only [List.map_cons, List.map_nil, List.cons_append, List.nil_append, List.getElem?_cons_zero, List.getElem?_cons_succ, Rs.bnd_ok, cC_call, cC_lam, w1, truV_bl, Bool.not_true, inS_ok, Bool.false_eq_true, if_false, sNil_ap, Rt.bnd_nx, i1]
  have l1 : lenV (rowsV R) S = .ok (.int R.length) S := by simp [lenV, rowsV, seqOf]
  have c1 : cmpV (cC (d + 3) lam) .LtE (.int 1) (.int R.length) S = .ok true S := by simp [cmpV, ordV, cmpI]; omega
  have c2 : cmpV (cC (d + 3) lam) .LtE (.int R.length) (.int 12) S = .ok true S := by simp [cmpV, ordV, cmpI]; omega
  simp only [biV, un1, l1, Rs.bnd_ok, c1, c2, if_true, Bool.not_true, inS_ok, Bool.false_eq_true, if_false, sNil_ap, Rt.bnd_nx, sFor_ap, iEnum_ap, lCons_ap, lNil_ap, dVar_ap, List.getElem?_cons_zero, List.getElem?_cons_succ, enumV]
  simp only [rowsV, itOf, Rs.bnd_ok, inS_ok]
  obtain ⟨σ', h1, h2⟩ := loop (some (.rf S0.length) :: some (.int w) :: some (.tup (R.map rowV)) :: List.replicate (5 - [PV.rf S0.length, .int w, .tup (R.map rowV)].length) none) rfl (by simp)
  rw [h1]
  have v0 : σ'[0]? = some (some (.rf S0.length)) := by
    have : (σ'.take 3)[0]? = σ'[0]? := List.getElem?_take_of_lt (by omega)
    rw [← this, h2]; rfl
  have v1 : σ'[1]? = some (some (.int w)) := by
    have : (σ'.take 3)[1]? = σ'[1]? := List.getElem?_take_of_lt (by omega)
    rw [← this, h2]; rfl
  have v2 : σ'[2]? = some (some (.tup (R.map rowV))) := by
    have : (σ'.take 3)[2]? = σ'[2]? := List.getElem?_take_of_lt (by omega)
    rw [← this, h2]; rfl
  simp only [Rt.bnd_nx, sSeq_ap, sFld_ap, dVar_ap, v0, v1, v2, inS_ok]
  rw [← hS, fld_set (by decide) (by simp), pf1]
  simp only [Rt.bnd_nx, sSeq_ap, sFld_ap, dVar_ap, v0, v1, v2, inS_ok]
  rw [fld_set (by decide) (by simp), pf2]
  simp only [Rt.bnd_nx, sSeq_ap, sFld_ap, dVar_ap, v0, v1, v2, inS_ok, dBi_ap, lCons_ap, lNil_ap, Rs.bnd_ok, biV, un1, lenV, seqOf]
  rw [fld_set (by decide) (by simp), pf3]
  simp only [Rt.bnd_nx, sNil_ap, cR_nx]
  have hb : ∀ b, (Cell.ins "Links" (["wide", "rows", "tall"] : List Ev.SS) [.int w, .tup (R.map rowV), .int ((R.map rowV).length : Nat)]).blw b = true := fun b => by
    simp only [Cell.blw, blws_cons, blw_int, blw_tup, blws_nil, Bool.and_true, Bool.true_and]
    refine blws_all fun x hx => ?_
    obtain ⟨r, _, rfl⟩ := List.mem_map.mp hx
    exact blws_all fun y hy => by
      obtain ⟨z, _, rfl⟩ := List.mem_map.mp hy
      rfl
  have e : S0 ++ [Cell.ins "Links" (["wide", "rows", "tall"] : List Ev.SS) [.int w, .tup (R.map rowV), .int ((R.map rowV).length : Nat)]] = (S0 ++ [Cell.ins "Links" [] []]).set S0.length (Cell.ins "Links" (["wide", "rows", "tall"] : List Ev.SS) [.int w, .tup (R.map rowV), .int ((R.map rowV).length : Nat)]) := app_set.symm
  have cl := closeV_gen (S := S0 ++ [Cell.ins "Links" [] []]) (S1 := (S0 ++ [Cell.ins "Links" [] []]).set S0.length (Cell.ins "Links" (["wide", "rows", "tall"] : List Ev.SS) [.int w, .tup (R.map rowV), .int ((R.map rowV).length : Nat)])) (X := []) (v := .non) (oldOk_set _ (hb _) _ _) (by simp) (frz_blw rfl)
  rw [List.append_nil] at cl
  rw [e, cl, app_set]
  simp [rowsV]
theorem blw_rowV {b : Nat} {r : List Nat} : (rowV r).blw b = true := blws_all fun y hy => by
  obtain ⟨z, _, rfl⟩ := List.mem_map.mp hy
  rfl
theorem blw_rowsV {b : Nat} {R : List (List Nat)} : (rowsV R).blw b = true := blws_all fun y hy => by
  obtain ⟨z, _, rfl⟩ := List.mem_map.mp hy
  exact blw_rowV
/-- Links(w, rows) -/
theorem links_mk (d : Nat) (lam : Store → Rs PV) (w : Nat) (R : List (List Nat)) (g : Good w R) (S : Store) : mkV (cC (d + 4) lam) "Links" "Links.__init__" false [.int w, rowsV R] S = .ok (lnk w R) S := by
  unfold mkV
  rw [cC_call, cC_lam, links_init d lam w R g S]
  simp only [isNone, guardR_true, mkEnd, Bool.false_eq_true, if_false, app_at, cC_flds, fl_links]
  have h1 : PV.blws S.length [.int w, rowsV R, .int R.length] = true := by simp [blw_rowsV]
  have h2 : oldOk S.length S (S ++ [Cell.ins "Links" (["wide", "rows", "tall"] : List Ev.SS) [.int w, rowsV R, .int R.length]]) = true := oldOk_app _ _ _ _ (oldOk_same _ _)
  simp [h1, h2, lnk]
end Lk85

end
section
set_option Elab.async false
set_option linter.all false
set_option maxRecDepth 100000
set_option maxHeartbeats 1000000
namespace Lk85
open PySem Ev
theorem sub_ll : law.subF "Links" (.own "Links") = some true := by kernel_rfl
theorem self_l (d : Nat) (lam : Store → Rs PV) : isSelf (cC d lam) "Links" = true := by
  unfold isSelf
  rw [cC_sub, sub_ll]
theorem clinks_ok (d : Nat) (lam : Store → Rs PV) (w : Nat) (R : List (List Nat)) (S : Store) : rn (d + 1) lam "check_links" [lnk w R] S = .ok .non S := by
  rw [e1 q_4 rfl rfl]
  simp [d_check_links, isiX, qOne, isiV, tyOf, isiAny, isiT, lnk, sub_ll]
theorem clinks_no (d : Nat) (lam : Store → Rs PV) (v : PV) (h : pl v = true) (S : Store) : rn (d + 1) lam "check_links" [v] S = .exc "NoLinks" [] S := by
  rw [e1 q_4 rfl (by cases v <;> first | rfl | cases h)]
  cases v <;> first | (cases h; done) | simp [d_check_links, isiX, qOne, isiV, tyOf, isiAny, isiT, self_l]
def exR (o : Option Ev.SS) (S : Store) : Rs PV := match o with
  | none => .ok .non S
  | some c => .exc c [] S
theorem fld_wide {d : Nat} {lam : Store → Rs PV} {w : Nat} {R : List (List Nat)} {S : Store} : fldV (cC d lam) "wide" (lnk w R) S = .ok (.int w) S := by
  simp only [fldV, lnk, cC_flds, fl_links]
  rfl
theorem fld_rows {d : Nat} {lam : Store → Rs PV} {w : Nat} {R : List (List Nat)} {S : Store} : fldV (cC d lam) "rows" (lnk w R) S = .ok (rowsV R) S := by
  simp only [fldV, lnk, cC_flds, fl_links]
  rfl
theorem fld_tall {d : Nat} {lam : Store → Rs PV} {w : Nat} {R : List (List Nat)} {S : Store} : fldV (cC d lam) "tall" (lnk w R) S = .ok (.int R.length) S := by
  simp only [fldV, lnk, cC_flds, fl_links]
  rfl
theorem eqv_int (i j : Int) : PyData.eqv (.int i) (.int j) = (i == j) := by
  unfold PyData.eqv
  rfl
theorem shaped_int (i : Int) : PySem.SeqAt.shaped (.int i) = true := rfl
theorem eqV_int (C : Cfg) (i j : Int) (S : Store) : Ev.eqV C (.int i) (.int j) S = .ok (i == j) S := by
  simp only [Ev.eqV, toD1, toD, shaped_int, eqv_int, Bool.and_self, guardR_true]
theorem csq (d : Nat) (lam : Store → Rs PV) (w : Nat) (R : List (List Nat)) (S : Store) : rn (d + 2) lam "check_square" [lnk w R] S = exR (if R.length = w then none else some "NoSquare") S := by
  rw [e1 q_6 rfl rfl]
  simp only [d_check_square, sSeq_ap, sExpr_ap, dCall_ap, lCons_ap, lNil_ap, dVar_ap, startP_def, List.map_cons, List.map_nil, List.cons_append, List.getElem?_cons_zero, Rs.bnd_ok, cC_call, cC_lam, clinks_ok, inS_ok, Rt.bnd_nx, sIf_ap, tCmp_ap, dFld_ap, fld_tall, fld_wide, cmpV, eqV_int]
  by_cases h : R.length = w
  · simp [h, exR]
  · have h' : ¬ ((R.length : Int) = (w : Int)) := by omega
    simp [h, h', exR]
theorem csq_no (d : Nat) (lam : Store → Rs PV) (v : PV) (h : pl v = true) (S : Store) : rn (d + 2) lam "check_square" [v] S = .exc "NoLinks" [] S := by
  rw [e1 q_6 rfl (by cases v <;> first | rfl | cases h)]
  simp [d_check_square, clinks_no _ _ v h]
theorem crows (d : Nat) (lam : Store → Rs PV) (w : Nat) (R : List (List Nat)) (a b : PV) (ha : pl a = true) (hb : pl b = true) (S : Store) : rn (d + 3) lam "check_rows" [lnk w R, a, b] S = exR (if R.length = w then (if isW 0 (R.length - 1) a && isW 0 (R.length - 1) b then none else some "NoRow") else some "NoSquare") S := by
  rw [e1 q_7 rfl (by cases a <;> first | (cases ha; done) | (cases b <;> first | rfl | cases hb))]
  simp only [d_check_rows, sSeq_ap, sExpr_ap, dCall_ap, lCons_ap, lNil_ap, dVar_ap, startP_def, List.map_cons, List.map_nil, List.cons_append, List.getElem?_cons_zero, Rs.bnd_ok, cC_call, cC_lam, csq]
  by_cases h : R.length = w
  · simp only [h, if_true, exR, inS_ok, Rt.bnd_nx, sIf_ap, tOr_ap, tNot_ap, tVal_ap, dCall_ap, lCons_ap, lNil_ap, dVar_ap, dCst_ap, dBin_ap, dFld_ap, List.getElem?_cons_zero, List.getElem?_cons_succ, Rs.bnd_ok, fld_tall, binV, subV, cC_call, cC_lam]
    rw [within d lam a _ _ S ha]
    simp only [Rs.bnd_ok, truV_bl]
    rw [within d lam b _ _ S hb]
    cases h1 : isW 0 (↑w - 1) a <;> cases h2 : isW 0 (↑w - 1) b <;> simp [h1, h2]
  · simp [h, exR]
theorem crows_no (d : Nat) (lam : Store → Rs PV) (v a b : PV) (h : pl v = true) (ha : pl a = true) (hb : pl b = true) (S : Store) : rn (d + 3) lam "check_rows" [v, a, b] S = .exc "NoLinks" [] S := by
  rw [e1 q_7 rfl (by cases v <;> first | (cases h; done) | (cases a <;> first | (cases ha; done) | (cases b <;> first | rfl | cases hb)))]
  simp [d_check_rows, csq_no _ _ v h]
theorem csteps (d : Nat) (lam : Store → Rs PV) (v : PV) (h : pl v = true) (S : Store) : rn (d + 3) lam "check_steps" [v] S = exR (if isW 0 500 v then none else some "NoNumber") S := by
  rw [e1 q_8 rfl (by cases v <;> first | rfl | cases h)]
  simp only [d_check_steps, sSeq_ap, sIf_ap, tNot_ap, tVal_ap, dCall_ap, lCons_ap, lNil_ap, dVar_ap, dCst_ap, startP_def, List.map_cons, List.map_nil, List.cons_append, List.getElem?_cons_zero, Rs.bnd_ok, cC_call, cC_lam]
  rw [within d lam v 0 500 S h]
  cases h1 : isW 0 500 v <;> simp [exR]
end Lk85

end
section
set_option Elab.async false
set_option linter.all false
set_option maxRecDepth 100000
set_option maxHeartbeats 1000000
namespace Lk85
open PySem Ev
/-- the walks of a length from i to g -/
def wk (R : List (List Nat)) (g : Nat) : Nat → Nat → Nat
  | 0, i => if i = g then 1 else 0
  | t + 1, i => ((R.getD i []).map (wk R g t)).sum
def vecV (n : Nat) (f : Nat → Nat) : PV := .ro ((List.range n).map fun i => .int (f i : Int))
theorem ix_vec {n : Nat} {f : Nat → Nat} {j : Nat} (h : j < n) (S : Store) : ixV (vecV n f) (.int j) S = .ok (.int (f j)) S := by
  have : L2.atI ((List.range n).map fun i => PV.int (f i : Int)) (j : Int) = some (.int (f j)) := atI_nat (by simp [h])
  simp [ixV, vecV, seqOf, lstOf, this]
theorem map_range {α β : Type} (R : List α) (f : α → β) (d : α) : R.map f = (List.range R.length).map fun i => f (R.getD i d) := by
  apply List.ext_getElem
  · simp
  · intro i h1 h2
    simp at h1
    simp [List.getD_eq_getElem?_getD, h1]
theorem sum_cast : ∀ (l : List Nat), (l.map fun (x : Nat) => (x : Int)).sum = ((l.sum : Nat) : Int)
  | [] => rfl
  | x :: l => by simp [sum_cast l]
theorem step_back (d : Nat) (lam : Store → Rs PV) (R : List (List Nat)) (n : Nat) (hn : n ≤ 12) (g : ∀ r ∈ R, Asc n r) (hR : R.length = n) (f : Nat → Nat) (S : Store) : rn (d + 1) lam "step_back" [rowsV R, vecV n f] S = .ok (vecV n fun i => ((R.getD i []).map f).sum) S := by
  rw [e1 q_9 rfl rfl]
  simp only [d_step_back, sSeq_ap, sRet_ap, dComp_ap, iAny_ap, dVar_ap, startP_def, List.map_cons, List.map_nil, List.cons_append, List.getElem?_cons_zero, Rs.bnd_ok, rowsV, itOf]
  rw [big _ (by simp; omega), guardR_true]
  have hc : compGo (.nm 2) Ev.tYes (dBi .sum (lCons (dComp false [3] (.nm 3) (iAny (dVar 2)) Ev.tYes (dIx (dVar 1) (dVar 3))) lNil)) (cC d lam) (wipeP (some (PV.tup (R.map rowV)) :: some (vecV n f) :: ([] ++ List.replicate (4 - [PV.tup (R.map rowV), vecV n f].length) none)) [2]) ⟨R.map rowV, []⟩ (R.map rowV) S = .ok (R.map fun r => .int (((r.map f).sum : Nat) : Int)) S := by
    have key : ∀ (l : List (List Nat)), (∀ r ∈ l, Asc n r) → ∀ it : ItV, it.still S = true → compGo (.nm 2) Ev.tYes (dBi .sum (lCons (dComp false [3] (.nm 3) (iAny (dVar 2)) Ev.tYes (dIx (dVar 1) (dVar 3))) lNil)) (cC d lam) (wipeP (some (PV.tup (R.map rowV)) :: some (vecV n f) :: ([] ++ List.replicate (4 - [PV.tup (R.map rowV), vecV n f].length) none)) [2]) it (l.map rowV) S = .ok (l.map fun r => .int (((r.map f).sum : Nat) : Int)) S := by
      intro l
      induction l with
      | nil => intro _ it st; simp [compGo, st]
      | cons r l ih =>
        intro h it st
        have a := h r (.head _)
        have hl := a.len
        have inner : dComp false [3] (.nm 3) (iAny (dVar 2)) Ev.tYes (dIx (dVar 1) (dVar 3)) (cC d lam) [some (PV.tup (R.map rowV)), some (vecV n f), some (rowV r), none] S = .ok (.ro (r.map fun j => .int (f j : Int))) S := by
          simp only [dComp_ap, iAny_ap, dVar_ap, List.getElem?_cons_zero, List.getElem?_cons_succ, Rs.bnd_ok, rowV, itOf]
          rw [big _ (by simp; omega), guardR_true]
          rw [comp_map (f := fun v => match v with | .int j => .int (f j.toNat : Int) | v => v) rfl]
          · simp [mkLst]
          · intro x hx
            obtain ⟨j, hj, rfl⟩ := List.mem_map.mp hx
            refine ⟨[some (PV.tup (R.map rowV)), some (vecV n f), some (.tup (r.map fun (x : Nat) => PV.int (x : Int))), some (.int j)], rfl, ?_⟩
            simp only [dIx_ap, dVar_ap, List.getElem?_cons_zero, List.getElem?_cons_succ, Rs.bnd_ok]
            rw [ix_vec (a.lt j hj)]
            simp
        have put : Tg.put (.nm 2) (rowV r) (wipeP (some (PV.tup (R.map rowV)) :: some (vecV n f) :: ([] ++ List.replicate (4 - [PV.tup (R.map rowV), vecV n f].length) none)) [2]) = some [some (PV.tup (R.map rowV)), some (vecV n f), some (rowV r), none] := rfl
        simp only [List.map_cons, compGo, st, guardR_true, put, tYes_ap, noX_ok, Rs.bnd_ok, if_true, dBi_ap, lCons_ap, lNil_ap, inner, biV, un1, sumV, lstOf, Option.bind_some]
        rw [intsOf_map (fun j => (f j : Int)) r]
        simp only [noX_ok, Rs.bnd_ok]
        rw [ih (fun r' h' => h r' (.tail _ h')) it st]
        have : (r.map fun j => (f j : Int)).sum = (((r.map f).sum : Nat) : Int) := by rw [← sum_cast, List.map_map]; rfl
        simp [this]
    exact key R g _ rfl
  rw [hc]
  have e : (R.map fun r => PV.int (((r.map f).sum : Nat) : Int)) = (List.range n).map fun i => PV.int ((((R.getD i []).map f).sum : Nat) : Int) := by
    rw [map_range R _ [], hR]
  simp only [Rs.bnd_ok, mkLst, Bool.false_eq_true, if_false, inS_ok, Rt.bnd_rt, cR_rt, e]
  rw [closeV_same]
  · rfl
  · exact blws_all fun x hx => by
      obtain ⟨y, _, rfl⟩ := List.mem_map.mp hx
      rfl
end Lk85

end
section
set_option Elab.async false
set_option linter.all false
set_option maxRecDepth 100000
set_option maxHeartbeats 1000000
namespace Lk85
open PySem Ev
/-- the first vectors -/
def vecs (R : List (List Nat)) (g n k : Nat) : List PV := (List.range k).map fun t => vecV n (wk R g t)
theorem big1 (n : Nat) (h : n < 1000000) : decide (n < sizeLine) = true := decide_eq_true (Nat.lt_of_lt_of_le h (by decide))
theorem vecs_len {R : List (List Nat)} {g n k : Nat} : (vecs R g n k).length = k := by simp [vecs]
theorem vecs_succ {R : List (List Nat)} {g n k : Nat} : vecs R g n (k + 1) = vecs R g n k ++ [vecV n (wk R g k)] := by simp [vecs, List.range_succ]
theorem vecs_last {R : List (List Nat)} {g n k : Nat} : (vecs R g n (k + 1)).getLast? = some (vecV n (wk R g k)) := by rw [vecs_succ]; simp
theorem blw_vec {n b : Nat} {f : Nat → Nat} : (vecV n f).blw b = true := blws_all fun x hx => by
  obtain ⟨y, _, rfl⟩ := List.mem_map.mp hx
  rfl
theorem blw_vecs {R : List (List Nat)} {g n k b : Nat} : ∀ x ∈ vecs R g n k, x.blw b = true := fun x hx => by
  obtain ⟨t, _, rfl⟩ := List.mem_map.mp hx
  exact blw_vec
theorem ix_last {xs : List PV} {x : PV} {S : Store} {i : Nat} (e : S[i]? = some (.lst xs)) (h : xs.getLast? = some x) : ixV (.rf i) (.int (-1)) S = .ok x S := by
  simp [ixV, seqOf, lstOf, e, atI_last h]
theorem vec_succ {R : List (List Nat)} {g n k : Nat} : vecV n (fun i => ((R.getD i []).map (wk R g k)).sum) = vecV n (wk R g (k + 1)) := rfl
theorem counts_first (d : Nat) (lam : Store → Rs PV) (R : List (List Nat)) (n : Nat) (h1 : 1 ≤ n) (hn : n ≤ 12) (hg : ∀ r ∈ R, Asc n r) (hR : R.length = n) (g steps : Nat) (hs : steps ≤ 500) (S : Store) : dComp false [5] (.nm 5) (iRng1 (lCons (dFld "tall" (dVar 0)) lNil)) Ev.tYes (dBi .int (lCons (dTst (tCmp .Eq (dVar 5) (dVar 1))) lNil)) (cC (d + 1) lam) [some (lnk n R), some (.int g), some (.int steps), none, none, none] S = .ok (vecV n (wk R g 0)) S := by
  simp only [dComp_ap, iRng1_ap, lCons_ap, lNil_ap, dFld_ap, dVar_ap, List.getElem?_cons_zero, Rs.bnd_ok, fld_tall, rng1V, intsOf, Option.map_some]
  have sm : small62 (R.length : Int) = true := small_of (by omega) (by omega)
  rw [sm, guardR_true]
  simp only [Rs.bnd_ok]
  rw [big _ (by rw [rngL_length]; omega), guardR_true]
  rw [comp_map (f := fun v => match v with | .int j => .int (wk R g 0 j.toNat : Int) | v => v) rfl]
  · simp [mkLst, rngL, vecV, hR]
  · intro x hx
    obtain ⟨j, hj, rfl⟩ := List.mem_map.mp (show x ∈ (List.range (R.length : Int).toNat).map fun (k : Nat) => PV.int (0 + (k : Int)) from hx)
    refine ⟨[some (lnk n R), some (.int g), some (.int steps), none, none, some (.int (0 + (j : Int)))], rfl, ?_⟩
    simp only [dBi_ap, lCons_ap, lNil_ap, dTst_ap, tCmp_ap, dVar_ap, List.getElem?_cons_zero, List.getElem?_cons_succ, Rs.bnd_ok, cmpV, eqV_int, biV, un1, intV]
    have : ((0 + (j : Int)) == (g : Int)) = decide (j = g) := by
      rw [Int.zero_add]
      by_cases h : j = g <;> simp [h]
      omega
    simp only [this, wk]
    by_cases h : j = g <;> simp [h]
theorem counts_loop (d : Nat) (lam : Store → Rs PV) (R : List (List Nat)) (n : Nat) (h1 : 1 ≤ n) (hn : n ≤ 12) (hg : ∀ r ∈ R, Asc n r) (hR : R.length = n) (g steps : Nat) (hs : steps ≤ 500) (S : Store) : ∀ σ0 : Sl, σ0.take 4 = [some (lnk n R), some (.int g), some (.int steps), some (.rf S.length)] → 4 < σ0.length → ∃ σ', forGo (.nm 4) (sSeq (sExpr (dMt .append (dVar 3) (lCons (dCall "step_back" (lCons (dFld "rows" (dVar 0)) (lCons (dIx (dVar 3) (dUn .USub (dCst (.int 1)))) lNil))) lNil))) sNil) (cC (d + 1) lam) ⟨rngL 0 steps, []⟩ (rngL 0 steps) σ0 (S ++ [.lst (vecs R g n 1)]) = .nx σ' (S ++ [.lst (vecs R g n (steps + 1))]) ∧ σ'.take 4 = σ0.take 4 := by
  intro σ0 h0 h4
  refine for_ind (R := fun r => ∃ σ', r = .nx σ' (S ++ [.lst (vecs R g n (steps + 1))]) ∧ σ'.take 4 = σ0.take 4) (fun items σ S' => items.length ≤ steps ∧ S' = S ++ [.lst (vecs R g n (steps - items.length + 1))] ∧ σ.take 4 = σ0.take 4 ∧ 4 < σ.length) ?_ ?_ (rngL 0 steps) σ0 (S ++ [.lst (vecs R g n 1)]) ⟨Nat.le_of_eq rngL_length, by rw [rngL_length, Nat.sub_self], rfl, h4⟩
  · rintro σ S' ⟨_, rfl, h1, h2⟩
    exact ⟨still_nil, σ, rfl, h1⟩
  · rintro x xs σ S' ⟨hx, rfl, h1, h2⟩
    refine ⟨still_nil, σ.set 4 (some x), rfl, ?_⟩
    have tk : (σ.set 4 (some x)).take 4 = [some (lnk n R), some (.int g), some (.int steps), some (.rf S.length)] := by rw [List.take_set_of_le (by omega), h1, h0]
    have at_ : ∀ j, j < 4 → (σ.set 4 (some x))[j]? = [some (lnk n R), some (PV.int g), some (.int steps), some (.rf S.length)][j]? := fun j hj => by rw [← tk, List.getElem?_take_of_lt hj]
    have a0 := at_ 0 (by decide)
    have a3 := at_ 3 (by decide)
    simp only [List.getElem?_cons_zero, List.getElem?_cons_succ] at a0 a3
    simp only [List.length_cons] at hx
    obtain ⟨k, hk⟩ : ∃ k, steps - (x :: xs).length = k := ⟨_, rfl⟩
    have hk' : steps - xs.length = k + 1 := by simp only [List.length_cons] at hk; omega
    rw [hk]
    have e : (S ++ [Cell.lst (vecs R g n (k + 1))])[S.length]? = some (.lst (vecs R g n (k + 1))) := app_at
    simp only [sSeq_ap, sExpr_ap, dMt_ap, dVar_ap, a3, a0, Rs.bnd_ok, lstOf, e, Option.isSome_some, guardR_true, lCons_ap, lNil_ap, dCall_ap, dFld_ap, fld_rows, dIx_ap, dUn_ap, dCst_ap, unV]
    rw [ix_last e vecs_last]
    simp only [Rs.bnd_ok, cC_call, cC_lam]
    rw [step_back d lam R n hn hg hR]
    have ln : decide ((vecs R g n (k + 1)).length < sizeLine) = true := big1 _ (by rw [vecs_len]; omega)
    simp only [Rs.bnd_ok, mtV, un1, appV, e, ln, guardR_true, inS_ok, Rt.bnd_nx, sNil_ap, app_set]
    refine ⟨by omega, ?_, by rw [tk, h0], by simp [h2]⟩
    rw [hk', vecs_succ (k := k + 1), ← vec_succ]
theorem counts_to (d : Nat) (lam : Store → Rs PV) (R : List (List Nat)) (n : Nat) (h1 : 1 ≤ n) (hn : n ≤ 12) (hg : ∀ r ∈ R, Asc n r) (hR : R.length = n) (g steps : Nat) (hs : steps ≤ 500) (S : Store) :
    rn (d + 2) lam "counts_to" [lnk n R, .int g, .int steps] S = .ok (.ro (vecs R g n (steps + 1))) S := by
  rw [e1 q_10 rfl rfl]
  have first := counts_first d lam R n h1 hn hg hR g steps hs S
  have loop := counts_loop d lam R n h1 hn hg hR g steps hs S
  simp only [d_counts_to, sSeq_ap, sSet_ap, dLst_ap, lCons_ap, lNil_ap, startP_def, List.map_cons, List.map_nil, List.cons_append, List.nil_append]
  have e0 : List.replicate (6 - [lnk n R, PV.int g, .int steps].length) (none : Option PV) = [none, none, none] := rfl
  rw [e0, first]
  have b1 : decide ([vecV n (wk R g 0)].length ≤ sizeLine) = true := big _ (by simp)
  simp only [Rs.bnd_ok, b1, guardR_true, mkLst, if_true, inS_ok, Tg.put, Rt.bnd_nx, sFor_ap, iRng1_ap, lCons_ap, lNil_ap, dVar_ap, List.set_cons_succ, List.set_cons_zero, List.getElem?_cons_zero, List.getElem?_cons_succ, rng1V, intsOf, Option.map_some]
  have sm : small62 (steps : Int) = true := small_of (by omega) (by omega)
  rw [sm, guardR_true]
  simp only [inS_ok, Rs.bnd_ok, Int.toNat_natCast]
  obtain ⟨σ', f1, f2⟩ := loop [some (lnk n R), some (.int g), some (.int steps), some (.rf S.length), none, none] rfl (by simp)
  have v1 : [vecV n (wk R g 0)] = vecs R g n 1 := by simp [vecs]
  rw [v1, f1]
  have v3 : σ'[3]? = some (some (.rf S.length)) := by
    have : (σ'.take 4)[3]? = σ'[3]? := List.getElem?_take_of_lt (by omega)
    rw [← this, f2]; rfl
  simp only [Rt.bnd_nx, sRet_ap, dVar_ap, v3, inS_ok, Rt.bnd_rt, cR_rt]
  exact closeV_gen (S1 := S) (X := [.lst (vecs R g n (steps + 1))]) (oldOk_same _ _) rfl (frz_rf (Nat.le_refl _) app_at blw_vecs)
end Lk85

end
section
set_option Elab.async false
set_option linter.all false
set_option maxRecDepth 100000
set_option maxHeartbeats 1000000
namespace Lk85
open PySem Ev
/-- a square table -/
structure Sq (n : Nat) (R : List (List Nat)) : Prop where
  n1 : 1 ≤ n
  n2 : n ≤ 12
  len : R.length = n
  asc : ∀ r ∈ R, Asc n r
theorem isW_in {n b : Nat} (h : b < n) : isW 0 ((n : Int) - 1) (.int b) = true := decide_eq_true (by omega)
theorem isW_st {t : Nat} (h : t ≤ 500) : isW 0 500 (.int t) = true := decide_eq_true (by omega)
theorem ix_vecs {R : List (List Nat)} {g n k t : Nat} (h : t < k) (S : Store) : ixV (.ro (vecs R g n k)) (.int t) S = .ok (vecV n (wk R g t)) S := by
  have : L2.atI (vecs R g n k) (t : Int) = some (vecV n (wk R g t)) := atI_nat (by simp [vecs, h])
  simp [ixV, seqOf, lstOf, this]
section
variable (d : Nat) (lam : Store → Rs PV) {R : List (List Nat)} {n : Nat} (q : Sq n R) {b g steps : Nat} (S : Store)
include q
theorem rows_ok (hb : b < n) (hg : g < n) : rn (d + 3) lam "check_rows" [lnk n R, .int b, .int g] S = .ok .non S := by
  rw [crows d lam n R (.int b) (.int g) rfl rfl S, q.len, if_pos rfl, isW_in hb, isW_in hg]
  rfl
theorem steps_ok (hs : steps ≤ 500) : rn (d + 3) lam "check_steps" [.int steps] S = .ok .non S := by
  rw [csteps d lam (.int steps) rfl S, isW_st hs]
  rfl
theorem many_ok (hb : b < n) (hg : g < n) (hs : steps ≤ 500) : rn (d + 4) lam "many_walks" [lnk n R, .int b, .int g, .int steps] S = .ok (.int (wk R g steps b)) S := by
  rw [e1 q_11 rfl rfl]
  simp only [d_many_walks, sSeq_ap, sExpr_ap, dCall_ap, lCons_ap, lNil_ap, dVar_ap, startP_def, List.map_cons, List.map_nil, List.cons_append, List.nil_append, List.getElem?_cons_zero, List.getElem?_cons_succ, Rs.bnd_ok, cC_call, cC_lam]
  rw [rows_ok d lam q S hb hg]
  simp only [inS_ok, Rt.bnd_nx, List.getElem?_cons_zero, List.getElem?_cons_succ, Rs.bnd_ok]
  rw [steps_ok d lam q S hs]
  simp only [inS_ok, Rt.bnd_nx, sRet_ap, dIx_ap, dCall_ap, lCons_ap, lNil_ap, dVar_ap, List.getElem?_cons_zero, List.getElem?_cons_succ, Rs.bnd_ok, cC_call, cC_lam]
  rw [counts_to (d + 1) lam R n q.n1 q.n2 q.asc q.len g steps hs S]
  simp only [Rs.bnd_ok]
  rw [ix_vecs (Nat.lt_succ_self steps)]
  simp only [Rs.bnd_ok]
  rw [ix_vec hb]
  simp
theorem most_ok (hb : b < n) (hg : g < n) (hs : steps ≤ 500) : rn (d + 4) lam "walks_at_most" [lnk n R, .int b, .int g, .int steps] S = .ok (.int ((((List.range (steps + 1)).map fun t => wk R g t b).sum : Nat) : Int)) S := by
  rw [e1 q_13 rfl rfl]
  simp only [d_walks_at_most, sSeq_ap, sExpr_ap, dCall_ap, lCons_ap, lNil_ap, dVar_ap, startP_def, List.map_cons, List.map_nil, List.cons_append, List.nil_append, List.getElem?_cons_zero, List.getElem?_cons_succ, Rs.bnd_ok, cC_call, cC_lam]
  rw [rows_ok d lam q S hb hg]
  simp only [inS_ok, Rt.bnd_nx, List.getElem?_cons_zero, List.getElem?_cons_succ, Rs.bnd_ok]
  rw [steps_ok d lam q S hs]
  simp only [inS_ok, Rt.bnd_nx, sRet_ap, dBi_ap, dComp_ap, iAny_ap, dCall_ap, lCons_ap, lNil_ap, dVar_ap, List.getElem?_cons_zero, List.getElem?_cons_succ, Rs.bnd_ok, cC_call, cC_lam]
  rw [counts_to (d + 1) lam R n q.n1 q.n2 q.asc q.len g steps hs S]
  simp only [Rs.bnd_ok, itOf]
  rw [big _ (by rw [vecs_len]; omega), guardR_true]
  have hc : compGo (.nm 4) Ev.tYes (dIx (dVar 4) (dVar 1)) (cC (d + 3) lam) (wipeP (some (lnk n R) :: some (.int b) :: some (.int g) :: some (.int steps) :: List.replicate (5 - [lnk n R, .int b, .int g, .int steps].length) none) [4]) ⟨vecs R g n (steps + 1), []⟩ (vecs R g n (steps + 1)) S = .ok ((List.range (steps + 1)).map fun t => .int (wk R g t b : Int)) S := by
    have key : ∀ (l : List Nat) (it : ItV), it.still S = true → compGo (.nm 4) Ev.tYes (dIx (dVar 4) (dVar 1)) (cC (d + 3) lam) (wipeP (some (lnk n R) :: some (.int b) :: some (.int g) :: some (.int steps) :: List.replicate (5 - [lnk n R, .int b, .int g, .int steps].length) none) [4]) it (l.map fun t => vecV n (wk R g t)) S = .ok (l.map fun t => .int (wk R g t b : Int)) S := by
      intro l it st
      induction l with
      | nil => simp [compGo, st]
      | cons t l ih =>
        have put : Tg.put (.nm 4) (vecV n (wk R g t)) (wipeP (some (lnk n R) :: some (.int b) :: some (.int g) :: some (.int steps) :: List.replicate (5 - [lnk n R, .int b, .int g, .int steps].length) none) [4]) = some [some (lnk n R), some (.int b), some (.int g), some (.int steps), some (vecV n (wk R g t))] := rfl
        simp only [List.map_cons, compGo, st, guardR_true, put, tYes_ap, noX_ok, Rs.bnd_ok, if_true, dIx_ap, dVar_ap, List.getElem?_cons_zero, List.getElem?_cons_succ]
        rw [ix_vec hb]
        simp only [noX_ok, Rs.bnd_ok]
        rw [ih]
        simp
    exact key _ _ rfl
  rw [hc]
  have e : ((List.range (steps + 1)).map fun t => (wk R g t b : Int)).sum = ((((List.range (steps + 1)).map fun t => wk R g t b).sum : Nat) : Int) := by rw [← sum_cast, List.map_map]; rfl
  simp only [Rs.bnd_ok, mkLst, Bool.false_eq_true, if_false, biV, un1, sumV, lstOf, Option.bind_some]
  rw [intsOf_map (fun t => (wk R g t b : Int))]
  simp [e]
theorem rounds_ok (hs : steps ≤ 500) : rn (d + 4) lam "rounds_from" [lnk n R, .int steps] S = .ok (.int ((((List.range n).map fun i => wk R i steps i).sum : Nat) : Int)) S := by
  rw [e1 q_14 rfl rfl]
  simp only [d_rounds_from, sSeq_ap, sExpr_ap, dCall_ap, lCons_ap, lNil_ap, dVar_ap, startP_def, List.map_cons, List.map_nil, List.cons_append, List.nil_append, List.getElem?_cons_zero, List.getElem?_cons_succ, Rs.bnd_ok, cC_call, cC_lam]
  rw [csq (d + 1) lam n R S, if_pos q.len]
  simp only [exR, inS_ok, Rt.bnd_nx, List.getElem?_cons_zero, List.getElem?_cons_succ, Rs.bnd_ok]
  rw [steps_ok d lam q S hs]
  simp only [inS_ok, Rt.bnd_nx, sRet_ap, dBi_ap, dComp_ap, iRng1_ap, dFld_ap, lCons_ap, lNil_ap, dVar_ap, List.getElem?_cons_zero, List.getElem?_cons_succ, Rs.bnd_ok, fld_tall, rng1V, intsOf, Option.map_some]
  have n1 := q.n1; have n2 := q.n2; have hl := q.len
  have sm : small62 (R.length : Int) = true := small_of (by omega) (by omega)
  rw [sm, guardR_true]
  simp only [Rs.bnd_ok]
  rw [big _ (by rw [rngL_length]; omega), guardR_true]
  rw [comp_map (f := fun v => match v with | .int j => .int (wk R j.toNat steps j.toNat : Int) | v => v) rfl]
  · have e0 : ((rngL 0 (R.length : Int).toNat).map fun v => match v with | .int j => PV.int (wk R j.toNat steps j.toNat : Int) | v => v) = (List.range n).map fun i => PV.int (wk R i steps i : Int) := by simp [rngL, hl]
    have e : ((List.range n).map fun i => (wk R i steps i : Int)).sum = ((((List.range n).map fun i => wk R i steps i).sum : Nat) : Int) := by rw [← sum_cast, List.map_map]; rfl
    simp only [Rs.bnd_ok, mkLst, Bool.false_eq_true, if_false, e0, biV, un1, sumV, lstOf, Option.bind_some]
    rw [intsOf_map (fun i => (wk R i steps i : Int))]
    simp [e]
  · intro x hx
    obtain ⟨j, hj, rfl⟩ := List.mem_map.mp (show x ∈ (List.range (R.length : Int).toNat).map fun (k : Nat) => PV.int (0 + (k : Int)) from hx)
    have hj : j < n := by have := List.mem_range.mp hj; omega
    refine ⟨[some (lnk n R), some (.int steps), some (.int (0 + (j : Int)))], rfl, ?_⟩
    rw [Int.zero_add]
    simp only [dIx_ap, dCall_ap, lCons_ap, lNil_ap, dVar_ap, List.getElem?_cons_zero, List.getElem?_cons_succ, Rs.bnd_ok, cC_call, cC_lam]
    rw [counts_to (d + 1) lam R n q.n1 q.n2 q.asc q.len j steps hs S]
    simp only [Rs.bnd_ok]
    rw [ix_vecs (Nat.lt_succ_self steps)]
    simp only [Rs.bnd_ok]
    rw [ix_vec hj]
    simp
end
end Lk85

end
section
set_option Elab.async false
set_option linter.all false
set_option maxRecDepth 100000
set_option maxHeartbeats 1000000
namespace Lk85
open PySem Ev
/-- the first whose block holds the number -/
def step1 (c : Nat → Nat) : List Nat → Nat → Option (Nat × Nat)
  | [], _ => none
  | j :: r, m => if m < c j then some (j, m) else step1 c r (m - c j)
def numb (R : List (List Nat)) (g : Nat) : Nat → Nat → Nat → List Nat
  | 0, i, _ => [i]
  | t + 1, i, m => match step1 (wk R g t) (R.getD i []) m with
    | some (j, m') => i :: numb R g t j m'
    | none => [i]
theorem step1_some {c : Nat → Nat} : ∀ {r : List Nat} {m : Nat}, m < (r.map c).sum → ∃ j m', step1 c r m = some (j, m') ∧ j ∈ r ∧ m' < c j
  | [], m, h => by simp at h
  | j :: r, m, h => by
    unfold step1
    by_cases hm : m < c j
    · exact ⟨j, m, by rw [if_pos hm], .head _, hm⟩
    · obtain ⟨j', m', e, h1, h2⟩ := step1_some (c := c) (r := r) (m := m - c j) (by simp at h; omega)
      exact ⟨j', m', by rw [if_neg hm]; exact e, .tail _ h1, h2⟩
def wnBody : DenS := sSeq (sIf (tCmp .Lt (dVar 4) (dIx (dIx (dVar 5) (dVar 7)) (dVar 8))) (sSeq (sExpr (dMt .append (dVar 6) (lCons (dVar 8) lNil))) (sSeq sBrk sNil)) sNil) (sSeq (sAug .Sub 4 (dIx (dIx (dVar 5) (dVar 7)) (dVar 8))) sNil)
theorem inner_ok (C : Cfg) {R : List (List Nat)} {n g k t : Nat} (ht : t < k) (S : Store) (xs : List PV) (hx : xs.length < 1000) (it : ItV) (st : ∀ S', it.still S' = true) : ∀ (r : List Nat) (m : Nat) (σ : Sl), (∀ j ∈ r, j < n) → σ[4]? = some (some (.int m)) → σ[5]? = some (some (.ro (vecs R g n k))) → σ[6]? = some (some (.rf S.length)) → σ[7]? = some (some (.int t)) → 8 < σ.length → m < (r.map (wk R g t)).sum →
    ∃ j m' σ', step1 (wk R g t) r m = some (j, m') ∧ j ∈ r ∧ m' < wk R g t j ∧ forGo (.nm 8) wnBody C it (r.map fun (x : Nat) => PV.int (x : Int)) σ (S ++ [.lst xs]) = .nx σ' (S ++ [.lst (xs ++ [.int j])]) ∧ σ'[4]? = some (some (.int m')) ∧ σ'.take 4 = σ.take 4 ∧ σ'[5]? = σ[5]? ∧ σ'[6]? = σ[6]? ∧ σ'.length = σ.length
  | [], m, σ, _, _, _, _, _, _, h => by simp at h
  | j :: r, m, σ, hr, h4, h5, h6, h7, hl, h => by
    have g8 : (σ.set 8 (some (PV.int (j : Int))))[8]? = some (some (.int j)) := by simp [hl]
    have gg : ∀ i, i ≠ 8 → (σ.set 8 (some (PV.int (j : Int))))[i]? = σ[i]? := fun i hi => List.getElem?_set_ne (Ne.symm hi)
    have g4 := (gg 4 (by decide)).trans h4
    have g5 := (gg 5 (by decide)).trans h5
    have g6 := (gg 6 (by decide)).trans h6
    have g7 := (gg 7 (by decide)).trans h7
    have val : ∀ S', (dIx (dIx (dVar 5) (dVar 7)) (dVar 8)) C (σ.set 8 (some (PV.int (j : Int)))) S' = .ok (.int (wk R g t j)) S' := fun S' => by
      simp only [dIx_ap, dVar_ap, g5, g7, g8, Rs.bnd_ok]
      rw [ix_vecs ht]
      simp only [Rs.bnd_ok]
      rw [ix_vec (hr j (.head _))]
    have cmpLt : ∀ S', cmpV C .Lt (.int m) (.int (wk R g t j)) S' = .ok (decide (m < wk R g t j)) S' := fun S' => by simp [cmpV, ordV, cmpI]
    simp only [List.map_cons, forGo, st, guardS_true, Tg.put]
    unfold step1
    by_cases hm : m < wk R g t j
    · refine ⟨j, m, σ.set 8 (some (.int j)), by rw [if_pos hm], .head _, hm, ?_, g4, by rw [List.take_set_of_le (by omega)], gg 5 (by decide), gg 6 (by decide), by simp⟩
      have ln : decide (xs.length < sizeLine) = true := big1 _ (by omega)
      have at1 : (S ++ [Cell.lst xs])[S.length]? = some (.lst xs) := app_at
      simp only [wnBody, sSeq_ap, sIf_ap, tCmp_ap, val, dVar_ap, g4, Rs.bnd_ok, cmpLt, decide_eq_true hm, inS_ok, if_true, sExpr_ap, dMt_ap, g6, lstOf, at1, Option.isSome_some, guardR_true, lCons_ap, lNil_ap, g8, mtV, un1, appV, ln, app_set, Rt.bnd_nx, sBrk_ap, Rt.bnd_bk, Rt.lp_bk]
    · obtain ⟨j', m', σ', e1, e2, e3, e4, e5, e6, e7, e8, e9⟩ := inner_ok C ht S xs hx it st r (m - wk R g t j) ((σ.set 8 (some (.int j))).set 4 (some (.int ((m - wk R g t j : Nat) : Int)))) (fun y hy => hr y (.tail _ hy)) (List.getElem?_set_self (by rw [List.length_set]; omega)) (by rw [List.getElem?_set_ne (by decide)]; exact g5) (by rw [List.getElem?_set_ne (by decide)]; exact g6) (by rw [List.getElem?_set_ne (by decide)]; exact g7) (by rw [List.length_set, List.length_set]; exact hl) (by simp only [List.map_cons, List.sum_cons] at h; omega)
      refine ⟨j', m', σ', by rw [if_neg hm]; exact e1, .tail _ e2, e3, ?_, e5, ?_, ?_, ?_, by rw [e9]; simp⟩
      · have sub : (m : Int) - (wk R g t j : Int) = ((m - wk R g t j : Nat) : Int) := by omega
        simp only [wnBody, sSeq_ap, sIf_ap, tCmp_ap, val, dVar_ap, g4, Rs.bnd_ok, cmpLt, decide_eq_false hm, inS_ok, Bool.false_eq_true, if_false, sNil_ap, Rt.bnd_nx, sAug_ap, ipV, sub, Rt.lp_nx]
        exact e4
      · rw [e6, List.take_set_of_le (by omega), List.take_set_of_le (by omega)]
      · rw [e7, List.getElem?_set_ne (by decide)]; exact gg 5 (by decide)
      · rw [e8, List.getElem?_set_ne (by decide)]; exact gg 6 (by decide)
end Lk85

end
section
set_option Elab.async false
set_option linter.all false
set_option maxRecDepth 100000
set_option maxHeartbeats 1000000
namespace Lk85
open PySem Ev
def intsV (l : List Nat) : List PV := l.map fun (x : Nat) => PV.int (x : Int)
def wnOut : DenS := sSeq (sFor (.nm 8) (iAny (dIx (dFld "rows" (dVar 0)) (dIx (dVar 6) (dUn .USub (dCst (.int 1)))))) wnBody) sNil
theorem ix_rows {R : List (List Nat)} {i : Nat} (h : i < R.length) (S : Store) : ixV (rowsV R) (.int i) S = .ok (rowV (R.getD i [])) S := by
  have : L2.atI (R.map rowV) (i : Int) = some (rowV (R.getD i [])) := atI_nat (by simp [h, List.getD_eq_getElem?_getD])
  simp [ixV, rowsV, seqOf, this]
theorem rev_succ (t : Nat) : (rngL 0 (t + 1)).reverse = .int (t : Int) :: (rngL 0 t).reverse := by
  unfold rngL
  rw [List.range_succ, List.map_append, List.reverse_append]
  simp
theorem outer_ok (d : Nat) (lam : Store → Rs PV) {R : List (List Nat)} {n g k : Nat} (q : Sq n R) (hg : g < n) (S : Store) (it : ItV) (st : ∀ S', it.still S' = true) : ∀ (t : Nat) (i m : Nat) (pre : List PV) (σ : Sl), t ≤ k → i < n → pre.length + t < 900 → σ[0]? = some (some (lnk n R)) → σ[4]? = some (some (.int m)) → σ[5]? = some (some (.ro (vecs R g n k))) → σ[6]? = some (some (.rf S.length)) → 8 < σ.length → m < wk R g t i →
    ∃ σ', forGo (.nm 7) wnOut (cC d lam) it (rngL 0 t).reverse σ (S ++ [.lst (pre ++ [.int i])]) = .nx σ' (S ++ [.lst (pre ++ intsV (numb R g t i m))]) ∧ σ'[6]? = σ[6]?
  | 0, i, m, pre, σ, _, _, _, _, _, _, _, _, _ => ⟨σ, by simp [rngL, forGo, st, numb, intsV], rfl⟩
  | t + 1, i, m, pre, σ, hk, hi, hp, h0, h4, h5, h6, hl, hm => by
    have gg : ∀ j, j ≠ 7 → (σ.set 7 (some (PV.int (t : Int))))[j]? = σ[j]? := fun j hj => List.getElem?_set_ne (Ne.symm hj)
    have asc := q.asc
    have hr : ∀ j ∈ R.getD i [], j < n := fun j hj => by
      have hiR : i < R.length := by rw [q.len]; exact hi
      rw [List.getD_eq_getElem?_getD, List.getElem?_eq_getElem hiR] at hj
      exact (asc _ (List.getElem_mem hiR)).lt j hj
    obtain ⟨j, m', σ1, e1, e2, e3, e4, e5, e6, e7, e8, e9⟩ := inner_ok (cC d lam) (R := R) (n := n) (g := g) (k := k) (t := t) (by omega) S (pre ++ [.int i]) (by simp; omega) ⟨(R.getD i []).map fun (x : Nat) => PV.int (x : Int), []⟩ (fun _ => rfl) (R.getD i []) m (σ.set 7 (some (.int t))) hr ((gg 4 (by decide)).trans h4) ((gg 5 (by decide)).trans h5) ((gg 6 (by decide)).trans h6) (List.getElem?_set_self (by omega)) (by rw [List.length_set]; exact hl) hm
    have g0 := (gg 0 (by decide)).trans h0
    have g6 := (gg 6 (by decide)).trans h6
    have last : ∀ C : Cfg, ixV (.rf S.length) (.int (-1)) (S ++ [.lst (pre ++ [.int i])]) = .ok (.int i) (S ++ [.lst (pre ++ [.int i])]) := fun _ => ix_last app_at (by simp)
    have s0 : σ1[0]? = some (some (lnk n R)) := by
      have h := congrArg (fun l : Sl => l[0]?) e6
      simp only [List.getElem?_take_of_lt (show (0 : Nat) < 4 by decide)] at h
      rw [h]; exact g0
    obtain ⟨σ2, f1, f2⟩ := outer_ok (k := k) d lam q hg S it st t j m' (pre ++ [.int i]) σ1 (by omega) (hr j e2) (by simp; omega) s0 e5 (by rw [e7]; exact (gg 5 (by decide)).trans h5) (by rw [e8]; exact g6) (by rw [e9, List.length_set]; exact hl) e3
    refine ⟨σ2, ?_, by rw [f2, e8]; exact gg 6 (by decide)⟩
    rw [rev_succ]
    have hb : wnOut (cC d lam) (σ.set 7 (some (.int t))) (S ++ [.lst (pre ++ [.int i])]) = .nx σ1 (S ++ [.lst (pre ++ [.int i] ++ [.int j])]) := by
      simp only [wnOut, sSeq_ap, sFor_ap, iAny_ap, dIx_ap, dFld_ap, dVar_ap, g0, Rs.bnd_ok, fld_rows, g6, dUn_ap, dCst_ap, unV, last (cC d lam)]
      rw [ix_rows (by rw [q.len]; exact hi)]
      simp only [Rs.bnd_ok, rowV, itOf, inS_ok]
      rw [e4]
      rfl
    simp only [forGo, st, guardS_true, Tg.put, hb, Rt.lp_nx]
    rw [f1]
    simp only [numb, e1]
    simp [intsV]
end Lk85

end
section
set_option Elab.async false
set_option linter.all false
set_option maxRecDepth 100000
set_option maxHeartbeats 1000000
namespace Lk85
open PySem Ev
theorem wn_ok (d : Nat) (lam : Store → Rs PV) {R : List (List Nat)} {n : Nat} (q : Sq n R) {b g steps num : Nat} (S : Store) (hb : b < n) (hg : g < n) (hs : steps ≤ 500) :
    rn (d + 4) lam "walk_numbered" [lnk n R, .int b, .int g, .int steps, .int num] S = .ok (if num < wk R g steps b then .tup (intsV (numb R g steps b num)) else .non) S := by
  rw [e1 q_12 rfl rfl]
  have hn0 : cmpV (cC (d + 3) lam) .Lt (.int num) (.int 0) S = .ok false S := by simp [cmpV, ordV, cmpI]
  simp only [d_walk_numbered, sSeq_ap, sExpr_ap, dCall_ap, lCons_ap, lNil_ap, dVar_ap, startP_def, List.map_cons, List.map_nil, List.cons_append, List.nil_append, List.getElem?_cons_zero, List.getElem?_cons_succ, Rs.bnd_ok, cC_call, cC_lam]
  rw [rows_ok d lam q S hb hg]
  simp only [inS_ok, Rt.bnd_nx, List.getElem?_cons_zero, List.getElem?_cons_succ, Rs.bnd_ok]
  rw [steps_ok d lam q S hs]
  simp only [inS_ok, Rt.bnd_nx, List.getElem?_cons_zero, List.getElem?_cons_succ, Rs.bnd_ok, sIf_ap, tOr_ap, tNot_ap, tVal_ap, dCall_ap, lCons_ap, lNil_ap, dVar_ap, cC_call, cC_lam]
  rw [is_int (d + 2) lam (.int num) S rfl]
  simp only [Rs.bnd_ok, isI, truV_bl, Bool.not_true, Bool.false_eq_true, if_false, tCmp_ap, dVar_ap, dCst_ap, List.getElem?_cons_zero, List.getElem?_cons_succ, hn0, inS_ok, sNil_ap, Rt.bnd_nx, sSet_ap, dCall_ap, lCons_ap, lNil_ap, cC_call, cC_lam]
  rw [counts_to (d + 1) lam R n q.n1 q.n2 q.asc q.len g steps hs S]
  have e3 : List.replicate (9 - [lnk n R, PV.int b, .int g, .int steps, .int num].length) (none : Option PV) = [none, none, none, none] := rfl
  simp only [inS_ok, e3, Tg.put, List.set_cons_succ, List.set_cons_zero, Rt.bnd_nx, sIf_ap, tCmp_ap, dVar_ap, dIx_ap, List.getElem?_cons_zero, List.getElem?_cons_succ, Rs.bnd_ok]
  rw [ix_vecs (Nat.lt_succ_self steps)]
  simp only [Rs.bnd_ok]
  rw [ix_vec hb]
  have cg : cmpV (cC (d + 3) lam) .GtE (.int num) (.int (wk R g steps b)) S = .ok (decide (wk R g steps b ≤ num)) S := by simp [cmpV, ordV, cmpI]
  simp only [Rs.bnd_ok, cg, inS_ok]
  by_cases h : num < wk R g steps b
  · have h' : decide (wk R g steps b ≤ num) = false := decide_eq_false (by omega)
    have b1 : decide ([PV.int (b : Int)].length ≤ sizeLine) = true := big _ (by simp)
    have sm : small62 (steps : Int) = true := small_of (by omega) (by omega)
    simp only [h', Bool.false_eq_true, if_false, sNil_ap, Rt.bnd_nx, dLst_ap, lCons_ap, lNil_ap, dVar_ap, List.getElem?_cons_zero, List.getElem?_cons_succ, Rs.bnd_ok, b1, guardR_true, mkLst, if_true, inS_ok, Tg.put, List.set_cons_succ, List.set_cons_zero, sFor_ap, iRev1_ap, sm, Int.toNat_natCast]
    obtain ⟨σ', f1, f2⟩ := outer_ok (k := steps + 1) d.succ.succ.succ lam q hg S ⟨(rngL 0 steps).reverse, []⟩ (fun _ => rfl) steps b num [] [some (lnk n R), some (.int b), some (.int g), some (.int steps), some (.int num), some (.ro (vecs R g n (steps + 1))), some (.rf S.length), none, none] (by omega) hb (by simp; omega) rfl rfl rfl rfl (by simp) h
    simp only [List.nil_append] at f1
    have f1' : forGo (.nm 7) (sSeq (sFor (.nm 8) (iAny (dIx (dFld "rows" (dVar 0)) (dIx (dVar 6) (dUn .USub (dCst (.int 1)))))) (sSeq (sIf (tCmp .Lt (dVar 4) (dIx (dIx (dVar 5) (dVar 7)) (dVar 8))) (sSeq (sExpr (dMt .append (dVar 6) (lCons (dVar 8) lNil))) (sSeq sBrk sNil)) sNil) (sSeq (sAug .Sub 4 (dIx (dIx (dVar 5) (dVar 7)) (dVar 8))) sNil))) sNil) (cC (d + 3) lam) ⟨(rngL 0 steps).reverse, []⟩ (rngL 0 steps).reverse [some (lnk n R), some (.int b), some (.int g), some (.int steps), some (.int num), some (.ro (vecs R g n (steps + 1))), some (.rf S.length), none, none] (S ++ [.lst [.int b]]) = .nx σ' (S ++ [.lst (intsV (numb R g steps b num))]) := f1
    rw [f1']
    have v6 : σ'[6]? = some (some (.rf S.length)) := by rw [f2]; rfl
    have lo : lstOf (S ++ [Cell.lst (intsV (numb R g steps b num))]) (.rf S.length) = some (intsV (numb R g steps b num)) := by simp [lstOf]
    simp only [Rt.bnd_nx, sRet_ap, dBi_ap, lCons_ap, lNil_ap, dVar_ap, v6, Rs.bnd_ok, biV, un1, tupV, lo, inS_ok, Rt.bnd_rt, cR_rt, if_pos h]
    have bl : (PV.tup (intsV (numb R g steps b num))).blw S.length = true := blws_all fun x hx => by
      obtain ⟨y, _, rfl⟩ := List.mem_map.mp hx
      rfl
    exact closeV_gen (S1 := S) (X := [.lst (intsV (numb R g steps b num))]) (oldOk_same _ _) rfl (frz_blw bl)
  · have h' : decide (wk R g steps b ≤ num) = true := decide_eq_true (by omega)
    simp only [h', if_true, sSeq_ap, sRet_ap, dCst_ap, inS_ok, Rt.bnd_rt, cR_rt, cl_non, if_neg h]
end Lk85

end
section
set_option Elab.async false
set_option linter.all false
set_option maxRecDepth 100000
set_option maxHeartbeats 1000000
namespace Lk85
/-! ### walk counts, plain -/
theorem sum_map_zero {α : Type} : ∀ l : List α, (l.map fun _ => 0).sum = 0
  | [] => rfl
  | _ :: l => by simp [sum_map_zero l]
theorem sum_map_add {α : Type} (f h : α → Nat) : ∀ l : List α, (l.map fun x => f x + h x).sum = (l.map f).sum + (l.map h).sum
  | [] => rfl
  | x :: l => by simp [sum_map_add f h l]; omega
theorem sum_map_mul {α : Type} (f : α → Nat) (c : Nat) : ∀ l : List α, (l.map fun x => c * f x).sum = c * (l.map f).sum
  | [] => by simp
  | x :: l => by simp [sum_map_mul f c l, Nat.mul_add]
theorem sum_map_mul' {α : Type} (f : α → Nat) (c : Nat) : ∀ l : List α, (l.map fun x => f x * c).sum = (l.map f).sum * c
  | [] => by simp
  | x :: l => by simp [sum_map_mul' f c l, Nat.add_mul]
theorem sum_comm {α β : Type} (f : α → β → Nat) (m : List β) : ∀ l : List α, (l.map fun x => (m.map fun y => f x y).sum).sum = (m.map fun y => (l.map fun x => f x y).sum).sum
  | [] => by simp [sum_map_zero]
  | x :: l => by
    simp only [List.map_cons, List.sum_cons]
    rw [sum_comm f m l, ← sum_map_add]
theorem sum_one {n j : Nat} (h : j < n) (f : Nat → Nat) : ((List.range n).map fun i => if i = j then f i else 0).sum = f j := by
  induction n with
  | zero => omega
  | succ n ih =>
    rw [List.range_succ, List.map_append, List.sum_append]
    by_cases hj : j = n
    · subst hj
      have z : ((List.range j).map fun i => if i = j then f i else 0).sum = 0 := by
        have : (List.range j).map (fun i => if i = j then f i else 0) = (List.range j).map fun _ => 0 := List.map_congr_left fun i hi => by
          have := List.mem_range.mp hi
          rw [if_neg (by omega)]
        rw [this, sum_map_zero]
      simp [z]
    · rw [ih (by omega)]
      simp [Ne.symm hj]
theorem sum_congr {α : Type} {f h : α → Nat} {l : List α} (e : ∀ x ∈ l, f x = h x) : (l.map f).sum = (l.map h).sum := by rw [List.map_congr_left e]
/-- a sum over a row, by its columns -/
theorem sum_cols {n : Nat} (f : Nat → Nat) : ∀ (r : List Nat), (∀ x ∈ r, x < n) → (r.map f).sum = ((List.range n).map fun j => r.count j * f j).sum
  | [], _ => by simp [sum_map_zero]
  | x :: r, h => by
    have hx := h x (.head _)
    simp only [List.map_cons, List.sum_cons]
    rw [sum_cols f r fun y hy => h y (.tail _ hy)]
    have e : ((List.range n).map fun j => (x :: r).count j * f j).sum = ((List.range n).map fun j => (if j = x then f j else 0) + r.count j * f j).sum := sum_congr fun j _ => by
      rw [List.count_cons]
      by_cases hj : j = x
      · subst hj; simp [Nat.add_mul, Nat.add_comm]
      · have hj' : ¬ (x = j) := fun e => hj e.symm
        simp [hj, hj']
    rw [e, sum_map_add, sum_one hx]
/-- the last step told apart -/
theorem wk_last {n : Nat} {R : List (List Nat)} (q : Sq n R) (hrow : ∀ i, ∀ x ∈ R.getD i [], x < n) (g : Nat) (hg : g < n) : ∀ (t i : Nat), i < n → wk R g (t + 1) i = ((List.range n).map fun k => (R.getD k []).count g * wk R k t i).sum
  | 0, i, hi => by
    show ((R.getD i []).map fun j => if j = g then 1 else 0).sum = ((List.range n).map fun k => (R.getD k []).count g * (if i = k then 1 else 0)).sum
    have e : ((List.range n).map fun k => (R.getD k []).count g * (if i = k then 1 else 0)).sum = ((List.range n).map fun k => if k = i then (R.getD k []).count g else 0).sum := sum_congr fun k _ => by
      by_cases h : k = i
      · subst h; simp
      · have h' : ¬ (i = k) := fun e => h e.symm
        simp [h, h']
    rw [e, sum_one hi]
    generalize R.getD i [] = r
    induction r with
    | nil => rfl
    | cons x r ih =>
      rw [List.map_cons, List.sum_cons, ih, List.count_cons]
      by_cases h : x = g <;> simp [h, Nat.add_comm]
  | t + 1, i, hi => by
    show ((R.getD i []).map fun j => wk R g (t + 1) j).sum = ((List.range n).map fun k => (R.getD k []).count g * ((R.getD i []).map fun j => wk R k t j).sum).sum
    have e1 : ((R.getD i []).map fun j => wk R g (t + 1) j).sum = ((R.getD i []).map fun j => ((List.range n).map fun k => (R.getD k []).count g * wk R k t j).sum).sum := sum_congr fun j hj => wk_last q hrow g hg t j (hrow i j hj)
    rw [e1, sum_comm]
    exact sum_congr fun k _ => by rw [sum_map_mul]
/-- Chapman, Kolmogorov -/
theorem wk_split {n : Nat} {R : List (List Nat)} (hrow : ∀ i, ∀ x ∈ R.getD i [], x < n) (g : Nat) (b : Nat) : ∀ (a i : Nat), i < n → ((List.range n).map fun k => wk R k a i * wk R g b k).sum = wk R g (a + b) i
  | 0, i, hi => by
    have e : ((List.range n).map fun k => wk R k 0 i * wk R g b k).sum = ((List.range n).map fun k => if k = i then wk R g b k else 0).sum := sum_congr fun k _ => by
      show (if i = k then 1 else 0) * _ = _
      by_cases h : k = i
      · subst h; simp
      · have h' : ¬ (i = k) := fun e => h e.symm
        simp [h, h']
    rw [e, sum_one hi, Nat.zero_add]
  | a + 1, i, hi => by
    have e : ((List.range n).map fun k => wk R k (a + 1) i * wk R g b k).sum = ((List.range n).map fun k => ((R.getD i []).map fun j => wk R k a j * wk R g b k).sum).sum := sum_congr fun k _ => by
      rw [sum_map_mul' (fun j => wk R k a j)]
      rfl
    rw [e, sum_comm (fun k j => wk R k a j * wk R g b k)]
    have : a + 1 + b = (a + b) + 1 := by omega
    rw [this]
    exact sum_congr fun j hj => wk_split hrow g b a j (hrow i j hj)
end Lk85

end
section
set_option Elab.async false
set_option linter.all false
set_option maxRecDepth 100000
set_option maxHeartbeats 1000000
namespace Lk85
open PySem Ev
/-- the hand's cell -/
def hnd (cs : List Int) (p q r s : Int) : Cell := .lst [.ro (cs.map .int), .int p, .int q, .int r, .int s]
theorem hx0 {S : Store} {cs : List Int} {p q r s : Int} (h : S[0]? = some (hnd cs p q r s)) : ixV (.rf 0) (.int 0) S = .ok (.ro (cs.map .int)) S := by
  simp [ixV, seqOf, lstOf, h, hnd, L2.atI, L2.ixN]
theorem hx1 {S : Store} {cs : List Int} {p q r s : Int} (h : S[0]? = some (hnd cs p q r s)) : ixV (.rf 0) (.int 1) S = .ok (.int p) S := by
  simp [ixV, seqOf, lstOf, h, hnd, L2.atI, L2.ixN]
theorem hx2 {S : Store} {cs : List Int} {p q r s : Int} (h : S[0]? = some (hnd cs p q r s)) : ixV (.rf 0) (.int 2) S = .ok (.int q) S := by
  simp [ixV, seqOf, lstOf, h, hnd, L2.atI, L2.ixN]
theorem hx3 {S : Store} {cs : List Int} {p q r s : Int} (h : S[0]? = some (hnd cs p q r s)) : ixV (.rf 0) (.int 3) S = .ok (.int r) S := by
  simp [ixV, seqOf, lstOf, h, hnd, L2.atI, L2.ixN]
theorem hx4 {S : Store} {cs : List Int} {p q r s : Int} (h : S[0]? = some (hnd cs p q r s)) : ixV (.rf 0) (.int 4) S = .ok (.int s) S := by
  simp [ixV, seqOf, lstOf, h, hnd, L2.atI, L2.ixN]
theorem hp1 {S : Store} {cs : List Int} {p q r s : Int} (h : S[0]? = some (hnd cs p q r s)) (v : Int) : putV (.rf 0) (.int 1) (.int v) S = some (S.set 0 (hnd cs v q r s)) := by
  simp [putV, h, hnd, L2.ixN]
theorem hp2 {S : Store} {cs : List Int} {p q r s : Int} (h : S[0]? = some (hnd cs p q r s)) (v : Int) : putV (.rf 0) (.int 2) (.int v) S = some (S.set 0 (hnd cs p v r s)) := by
  simp [putV, h, hnd, L2.ixN]
theorem hp3 {S : Store} {cs : List Int} {p q r s : Int} (h : S[0]? = some (hnd cs p q r s)) (v : Int) : putV (.rf 0) (.int 3) (.int v) S = some (S.set 0 (hnd cs p q v s)) := by
  simp [putV, h, hnd, L2.ixN]
theorem hp4 {S : Store} {cs : List Int} {p q r s : Int} (h : S[0]? = some (hnd cs p q r s)) (v : Int) : putV (.rf 0) (.int 4) (.int v) S = some (S.set 0 (hnd cs p q r v)) := by
  simp [putV, h, hnd, L2.ixN]
theorem set_get {S : Store} {c c' : Cell} (h : S[0]? = some c) : (S.set 0 c')[0]? = some c' := by
  cases S with
  | nil => cases h
  | cons a S => rfl
theorem set_set (S : Store) (c c' : Cell) : (S.set 0 c).set 0 c' = S.set 0 c' := by
  cases S <;> rfl
theorem set_self {S : Store} {c : Cell} (h : S[0]? = some c) : S.set 0 c = S := by
  cases S with
  | nil => cases h
  | cons a S => cases h; rfl
theorem mulOk_r {i j : Int} (h : j.natAbs.log2 < 63) : mulOk i j = true := by simp [mulOk, h]
theorem mulOk_l {i j : Int} (h : i.natAbs.log2 < 63) : mulOk i j = true := by simp [mulOk, h]
theorem log_of {j : Int} (h1 : -4611686018 ≤ j) (h2 : j ≤ 4611686018) : j.natAbs.log2 < 63 := by
  have h : j.natAbs < 2 ^ 63 := by omega
  by_cases z : j.natAbs = 0
  · rw [z]; decide
  · exact (Nat.log2_lt z).mpr h
def tA : DenT := Ev.tAnd (tCmp .Eq (dIx (dVar 0) (dCst (.int 2))) (dCst (.int 0))) (tCmp .Lt (dIx (dVar 0) (dCst (.int 1))) (dBi .len (lCons (dIx (dVar 0) (dCst (.int 0))) lNil)))
def bA : DenS := sSeq (sSet (.nm 3) (dIx (dIx (dVar 0) (dCst (.int 0))) (dIx (dVar 0) (dCst (.int 1))))) (sSeq (sPut (dVar 0) (dCst (.int 1)) (dBin .Add (dIx (dVar 0) (dCst (.int 1))) (dCst (.int 1)))) (sSeq (sPut (dVar 0) (dCst (.int 3)) (dBin .Mod (dBi .int (lCons (dBin .Add (dBin .Add (dBin .Mult (dIx (dVar 0) (dCst (.int 3))) (dCst (.int 69621))) (dBin .Mult (dVar 3) (dCst (.int 40692)))) (dCst (.int 31))) lNil)) (dCst (.int 2147483629)))) (sSeq (sIf (tCmp .GtE (dVar 3) (dBin .Pow (dCst (.int 10)) (dCst (.int 18)))) (sSeq (sPut (dVar 0) (dCst (.int 2)) (dVar 3)) sNil) sNil) sNil)))
theorem bA_ok (C : Cfg) (m : Int) {S : Store} {cs : List Int} {p q r s : Int} (h : S[0]? = some (hnd cs p q r s)) (hp : 0 ≤ p) (hl : p < cs.length) :
    ∃ x p' q' r', 0 ≤ p' ∧ bA C [some (.rf 0), some (.int m), none, none, none] S = .nx [some (.rf 0), some (.int m), none, x, none] (S.set 0 (hnd cs p' q' r' s)) := by
  obtain ⟨k, rfl⟩ := Int.eq_ofNat_of_zero_le hp
  have hk : k < cs.length := by omega
  have ea : ixV (.ro (cs.map .int)) (.int (k : Int)) S = .ok (.int cs[k]) S := by
    have : L2.atI (cs.map PV.int) (k : Int) = some (.int cs[k]) := by
      exact atI_nat (by simp [hk])
    simp [ixV, seqOf, lstOf, this]
  have g1 : (S.set 0 (hnd cs ((k : Int) + 1) q r s))[0]? = some (hnd cs ((k : Int) + 1) q r s) := set_get h
  have l1 := log_of (j := 69621) (by decide) (by decide)
  have l2 := log_of (j := 40692) (by decide) (by decide)
  generalize hv : (r * 69621 + cs[k] * 40692 + 31) % 2147483629 = v
  have g2 : (S.set 0 (hnd cs ((k : Int) + 1) q v s))[0]? = some (hnd cs ((k : Int) + 1) q v s) := set_get h
  have pw : powV (.int 10) (.int 18) (S.set 0 (hnd cs ((k : Int) + 1) q v s)) = .ok (.int (10 ^ 18)) (S.set 0 (hnd cs ((k : Int) + 1) q v s)) := by
    simp [powV, guardR]
  have cg : cmpV C .GtE (.int cs[k]) (.int (10 ^ 18)) (S.set 0 (hnd cs ((k : Int) + 1) q v s)) = .ok (decide ((10 : Int) ^ 18 ≤ cs[k])) (S.set 0 (hnd cs ((k : Int) + 1) q v s)) := by simp [cmpV, ordV, cmpI]
  refine ⟨some (.int cs[k]), (k : Int) + 1, if (10 : Int) ^ 18 ≤ cs[k] then cs[k] else q, v, by omega, ?_⟩
  simp only [bA, sSeq_ap, sSet_ap, dIx_ap, dVar_ap, dCst_ap, List.getElem?_cons_zero, List.getElem?_cons_succ, Rs.bnd_ok, hx0 h, hx1 h, ea, inS_ok, Tg.put, List.set_cons_succ, List.set_cons_zero, Rt.bnd_nx, sPut_ap, dBin_ap, binV, addV, hp1 h]
  simp only [sPut_ap, dBin_ap, dIx_ap, dVar_ap, dCst_ap, List.getElem?_cons_zero, List.getElem?_cons_succ, Rs.bnd_ok, hx3 g1, binV, mulV, mulOk_r l1, mulOk_r l2, guardR_true, addV, dBi_ap, lCons_ap, lNil_ap, biV, un1, intV, modV, inS_ok]
  simp only [show decide ((0:Int) < 2147483629) = true from rfl, guardR_true, Rs.bnd_ok, inS_ok, hv, hp3 g1, set_set, Rt.bnd_nx, sIf_ap, tCmp_ap, dBin_ap, dVar_ap, dCst_ap, List.getElem?_cons_zero, List.getElem?_cons_succ, binV, pw, cg]
  by_cases c : (10 : Int) ^ 18 ≤ cs[k]
  · simp only [decide_eq_true c, if_true, if_pos c, sSeq_ap, sPut_ap, dVar_ap, dCst_ap, List.getElem?_cons_zero, List.getElem?_cons_succ, Rs.bnd_ok, inS_ok, hp2 g2, set_set, Rt.bnd_nx, sNil_ap]
  · simp only [decide_eq_false c, Bool.false_eq_true, if_false, if_neg c, Rt.bnd_nx, sNil_ap]
theorem lenV_ro (xs : List PV) (S : Store) : lenV (.ro xs) S = .ok (.int xs.length) S := rfl
theorem A_ok (C : Cfg) (m : Int) {S : Store} {cs : List Int} {p q r s : Int} (h : S[0]? = some (hnd cs p q r s)) (hp : 0 ≤ p) :
    ∃ x p' q' r', 0 ≤ p' ∧ sIf tA bA sNil C [some (.rf 0), some (.int m), none, none, none] S = .nx [some (.rf 0), some (.int m), none, x, none] (S.set 0 (hnd cs p' q' r' s)) := by
  have c1 : cmpV C .Eq (.int q) (.int 0) S = .ok (q == 0) S := by simp only [cmpV, eqV_int]
  have c2 : cmpV C .Lt (.int p) (.int cs.length) S = .ok (decide (p < cs.length)) S := by simp [cmpV, ordV, cmpI]
  have stay : ∃ x p' q' r', 0 ≤ p' ∧ (Rt.nx [some (PV.rf 0), some (.int m), none, none, none] S) = .nx [some (.rf 0), some (.int m), none, x, none] (S.set 0 (hnd cs p' q' r' s)) := ⟨none, p, q, r, hp, by rw [set_self h]⟩
  simp only [sIf_ap, tA, tAnd_ap, tCmp_ap, dIx_ap, dVar_ap, dCst_ap, List.getElem?_cons_zero, List.getElem?_cons_succ, Rs.bnd_ok, hx2 h, c1]
  by_cases e : (q == 0) = true
  · simp only [e, if_true, dIx_ap, dVar_ap, dCst_ap, dBi_ap, lCons_ap, lNil_ap, List.getElem?_cons_zero, List.getElem?_cons_succ, Rs.bnd_ok, hx1 h, hx0 h, biV, un1, lenV_ro, List.length_map, c2, inS_ok]
    by_cases l : p < cs.length
    · simp only [decide_eq_true l, if_true]
      exact bA_ok C m h hp l
    · simp only [decide_eq_false l, Bool.false_eq_true, if_false, sNil_ap]
      exact stay
  · simp only [e, Bool.false_eq_true, if_false, inS_ok, sNil_ap]
    exact stay
end Lk85

end
section
set_option Elab.async false
set_option linter.all false
set_option maxRecDepth 100000
set_option maxHeartbeats 1000000
namespace Lk85
open PySem Ev
/-- the first cell is a hand -/
def Hd (S : Store) : Prop := ∃ cs p q r s, S[0]? = some (hnd cs p q r s) ∧ 0 ≤ p
theorem mod_lt (i : Int) {j : Int} (h : 0 < j) : 0 ≤ i % j ∧ i % j < j := ⟨Int.emod_nonneg _ (by omega), Int.emod_lt_of_pos _ h⟩
def B_ : DenS := (sSeq (sIf (tCmp .Gt (dIx (dVar 0) (dCst (.int 2))) (dCst (.int 0))) (sSeq (sSet (.nm 4) (dBin .Mod (dBi .int (lCons (dIx (dVar 0) (dCst (.int 2))) lNil)) (dVar 1))) (sSeq (sPut (dVar 0) (dCst (.int 2)) (dBin .FloorDiv (dIx (dVar 0) (dCst (.int 2))) (dVar 1))) (sSeq (sRet (dVar 4)) sNil))) sNil) (sSeq (sPut (dVar 0) (dCst (.int 4)) (dBin .Add (dIx (dVar 0) (dCst (.int 4))) (dCst (.int 1)))) (sSeq (sSet (.nm 2) (dBin .Mod (dBi .int (lCons (dBin .Mult (dBi .int (lCons (dBin .Add (dIx (dVar 0) (dCst (.int 3))) (dBin .Mult (dCst (.int 7919)) (dIx (dVar 0) (dCst (.int 4))))) lNil)) (dCst (.int 48271))) lNil)) (dCst (.int 2147483647)))) (sSeq (sSet (.nm 2) (dBin .Mod (dBi .int (lCons (dBin .Mult (dVar 2) (dBin .Add (dBin .FloorDiv (dVar 2) (dCst (.int 1009))) (dCst (.int 69621)))) lNil)) (dCst (.int 2147483647)))) (sSeq (sSet (.nm 2) (dBin .Mod (dBi .int (lCons (dBin .Mult (dVar 2) (dBin .Add (dBin .FloorDiv (dVar 2) (dCst (.int 2003))) (dCst (.int 40014)))) lNil)) (dCst (.int 2147483563)))) (sSeq (sRet (dBin .Mod (dBi .int (lCons (dBin .FloorDiv (dVar 2) (dCst (.int 16))) lNil)) (dVar 1))) sNil))))))
theorem fg {j : Int} (h : 0 < j) (h2 : j ≤ 1000000) : decide (0 < j ∧ j.natAbs.log2 < 9000) = true :=
  decide_eq_true ⟨h, Nat.lt_trans (log_of (by omega) (by omega)) (by decide)⟩
theorem mg_ {j : Int} (h : 0 < j) : decide (0 < j) = true := decide_eq_true h
theorem B_ok (C : Cfg) (x : Option PV) {m : Int} (hm : 0 < m) (hm2 : m ≤ 1000000) {S : Store} {cs : List Int} {p q r s : Int} (h : S[0]? = some (hnd cs p q r s)) (hp : 0 ≤ p) :
    ∃ v q' s', 0 ≤ v ∧ v < m ∧ B_ C [some (.rf 0), some (.int m), none, x, none] S = .rt (.int v) (S.set 0 (hnd cs p q' r s')) := by
  have c1 : cmpV C .Gt (.int q) (.int 0) S = .ok (decide (0 < q)) S := by simp [cmpV, ordV, cmpI]
  simp only [B_, sSeq_ap, sIf_ap, tCmp_ap, dIx_ap, dVar_ap, dCst_ap, List.getElem?_cons_zero, List.getElem?_cons_succ, Rs.bnd_ok, hx2 h, c1, inS_ok]
  by_cases c : 0 < q
  · refine ⟨q % m, q / m, s, (mod_lt q hm).1, (mod_lt q hm).2, ?_⟩
    simp only [decide_eq_true c, if_true, sSeq_ap, sSet_ap, dBin_ap, dBi_ap, lCons_ap, lNil_ap, dIx_ap, dVar_ap, dCst_ap, List.getElem?_cons_zero, List.getElem?_cons_succ, Rs.bnd_ok, hx2 h, biV, un1, intV, binV, modV, mg_ hm, guardR_true, inS_ok, Tg.put, List.set_cons_succ, List.set_cons_zero, Rt.bnd_nx]
    simp only [sPut_ap, dBin_ap, dIx_ap, dVar_ap, dCst_ap, List.getElem?_cons_zero, List.getElem?_cons_succ, Rs.bnd_ok, hx2 h, binV, fdivV, fg hm hm2, guardR_true, inS_ok, hp2 h, Rt.bnd_nx, sRet_ap, Rt.bnd_rt]
  · have g : (S.set 0 (hnd cs p q r (s + 1)))[0]? = some (hnd cs p q r (s + 1)) := set_get h
    have l1 := log_of (j := 48271) (by decide) (by decide)
    have l2 := log_of (j := 7919) (by decide) (by decide)
    simp only [decide_eq_false c, Bool.false_eq_true, if_false, sNil_ap, Rt.bnd_nx, sPut_ap, dBin_ap, dIx_ap, dVar_ap, dCst_ap, List.getElem?_cons_zero, List.getElem?_cons_succ, Rs.bnd_ok, hx4 h, binV, addV, inS_ok, hp4 h]
    simp only [sSet_ap, dBin_ap, dBi_ap, lCons_ap, lNil_ap, dIx_ap, dVar_ap, dCst_ap, List.getElem?_cons_zero, List.getElem?_cons_succ, Rs.bnd_ok, hx3 g, hx4 g, biV, un1, intV, binV, addV, mulV, modV, mulOk_r l1, mulOk_l l2, guardR_true, mg_ (j := 2147483647) (by decide), inS_ok, Tg.put, List.set_cons_succ, List.set_cons_zero, Rt.bnd_nx]
    obtain ⟨a1, a2⟩ := mod_lt ((r + 7919 * (s + 1)) * 48271) (j := 2147483647) (by decide)
    generalize (r + 7919 * (s + 1)) * 48271 % 2147483647 = a at a1 a2 ⊢
    have la := log_of (j := a) (by omega) (by omega)
    simp only [sSet_ap, dBin_ap, dBi_ap, lCons_ap, lNil_ap, dVar_ap, dCst_ap, List.getElem?_cons_zero, List.getElem?_cons_succ, Rs.bnd_ok, biV, un1, intV, binV, addV, mulV, modV, fdivV, fg (j := 1009) (by decide) (by decide), mulOk_l la, guardR_true, mg_ (j := 2147483647) (by decide), inS_ok, Tg.put, List.set_cons_succ, List.set_cons_zero, Rt.bnd_nx]
    obtain ⟨b1, b2⟩ := mod_lt (a * (a / 1009 + 69621)) (j := 2147483647) (by decide)
    generalize a * (a / 1009 + 69621) % 2147483647 = b at b1 b2 ⊢
    have lb := log_of (j := b) (by omega) (by omega)
    simp only [sSet_ap, dBin_ap, dBi_ap, lCons_ap, lNil_ap, dVar_ap, dCst_ap, List.getElem?_cons_zero, List.getElem?_cons_succ, Rs.bnd_ok, biV, un1, intV, binV, addV, mulV, modV, fdivV, fg (j := 2003) (by decide) (by decide), mulOk_l lb, guardR_true, mg_ (j := 2147483563) (by decide), inS_ok, Tg.put, List.set_cons_succ, List.set_cons_zero, Rt.bnd_nx]
    generalize b * (b / 2003 + 40014) % 2147483563 = w
    refine ⟨w / 16 % m, q, s + 1, (mod_lt _ hm).1, (mod_lt _ hm).2, ?_⟩
    simp only [sRet_ap, dBin_ap, dBi_ap, lCons_ap, lNil_ap, dVar_ap, dCst_ap, List.getElem?_cons_zero, List.getElem?_cons_succ, Rs.bnd_ok, biV, un1, intV, binV, modV, fdivV, fg (j := 16) (by decide) (by decide), guardR_true, mg_ hm, inS_ok, Rt.bnd_rt]
theorem draw_ok (d : Nat) (lam : Store → Rs PV) {m : Int} (hm : 0 < m) (hm2 : m ≤ 1000000) {S : Store} (h : Hd S) :
    ∃ (v : Nat) (S' : Store), (v : Int) < m ∧ Hd S' ∧ (∃ c, S' = S.set 0 c) ∧ rn (d + 1) lam "_law_draw" [.rf 0, .int m] S = .ok (.int v) S' := by
  obtain ⟨cs, p, q, r, s, h, hp⟩ := h
  obtain ⟨x, p', q', r', hp', eA⟩ := A_ok (cC d lam) m h hp
  have g := set_get (c' := hnd cs p' q' r' s) h
  obtain ⟨v, q2, s2, v0, v1, eB⟩ := B_ok (cC d lam) x hm hm2 g hp'
  obtain ⟨v, rfl⟩ := Int.eq_ofNat_of_zero_le v0
  refine ⟨v, S.set 0 (hnd cs p' q2 r' s2), v1, ⟨cs, p', q2, r', s2, set_get h, hp'⟩, ⟨_, rfl⟩, ?_⟩
  rw [e1 q_16 rfl rfl]
  have e : d__law_draw (cC d lam) (startP 5 [.rf 0, .int m]) S = (sIf tA bA sNil (cC d lam) [some (.rf 0), some (.int m), none, none, none] S).bnd fun σ S => B_ (cC d lam) σ S := rfl
  rw [e, eA, Rt.bnd_nx, eB, set_set, cR_rt]
  have bl : (hnd cs p' q2 r' s2).blw S.length = true := by
    simp [hnd, Cell.blw]
  have := closeV_gen (S1 := S.set 0 (hnd cs p' q2 r' s2)) (X := []) (v := .int v) (w := .int v) (oldOk_set S.length bl S 0) (by simp) (frz_blw rfl)
  simpa using this
end Lk85

end
section
set_option Elab.async false
set_option linter.all false
set_option maxRecDepth 100000
set_option maxHeartbeats 1000000
namespace Lk85
open PySem Ev
theorem run1k {T : Tab} {fl : SS → Option (List SS)} {sub : SS → TyQ → Option Bool} {fuel : Nat} {x : SS} {np nn : Nat} {glob : Bool} {b : DenS} (h : T x = some ⟨np, nn, true, false, glob, b⟩) {args : List PV} (hl : args.length = np) (hc : args.any isClo = false) (d : Nat) (lam : Store → Rs PV) (S : Store) :
    runF T fl sub fuel (d + 1) lam x args S = closeR true S (b ⟨runF T fl sub fuel d, lam, fuel, fl, sub, fun x => knT T x⟩ (startP nn args) S) := by
  show (match T x with
    | none => Rs.bad
    | some f => if args.length = f.np ∧ args.any isClo = f.lamp then closeR f.keep S (f.body (if f.lamp then ⟨fun _ _ _ _ => .bad, lam, fuel, fl, sub, fun _ => false⟩ else ⟨runF T fl sub fuel d, lam, fuel, fl, sub, fun x => knT T x⟩) (startP f.nn args) S) else .bad) = _
  rw [h]
  simp only [hl, hc, and_self, if_true]
  rfl
theorem cutP_map (ns : List Int) (lo hi : Option Int) : cutP (ns.map PV.int) lo hi = (cutP ns lo hi).map PV.int := by
  simp [cutP, List.map_take, List.map_drop]
theorem cutP_len {α : Type} (ns : List α) (lo hi : Option Int) : (cutP ns lo hi).length ≤ ns.length := by
  simp [cutP]; omega
theorem hand_ok (d : Nat) (lam : Store → Rs PV) (ns : List Int) (hl : ns.length ≤ 63) : ∃ S, Hd S ∧ S.length = 1 ∧ rn (d + 1) lam "_law_hand" [.scr ns] [] = .ok (.rf 0) S := by
  let cs := (cutP ns none (some 63)).map fun i => ((i.natAbs : Nat) : Int)
  have hc : (cutP ns none (some 63)).length ≤ 63 := Nat.le_trans (cutP_len _ _ _) hl
  have lc : cs.length ≤ 63 := by simpa [cs] using hc
  refine ⟨[hnd cs 0 0 (97 + 13 * (cs.length : Int)) 0], ⟨cs, 0, 0, _, 0, rfl, Int.le_refl 0⟩, rfl, ?_⟩
  have e0 := run1k (T := T) (fl := law.flF) (sub := law.subF) (fuel := 1000) q_15 (args := [.scr ns]) rfl rfl d lam []
  have e0' : rn (d + 1) lam "_law_hand" [.scr ns] [] = closeR true [] (d__law_hand (cC d lam) (startP 3 [.scr ns]) []) := e0
  rw [e0']
  have b1 : decide (((cutP ns none (some 63)).map PV.int).length ≤ sizeLine) = true := big _ (by simpa using (by omega : (cutP ns none (some 63)).length ≤ 1000000))
  have l13 := log_of (j := 13) (by decide) (by decide)
  have cm := comp_map (tg := .nm 2) (elt := dBi .abs (lCons (dBi .int (lCons (dVar 2) lNil)) lNil)) (C := cC d lam) (σ := [some (.scr ns), none, none]) (it := ⟨(cutP ns none (some 63)).map PV.int, []⟩) (S := []) (f := fun x => match x with
    | .int i => .int ((i.natAbs : Nat) : Int)
    | x => x) rfl ((cutP ns none (some 63)).map PV.int) (fun x hx => by
      obtain ⟨i, _, rfl⟩ := List.mem_map.mp hx
      refine ⟨[some (.scr ns), none, some (.int i)], rfl, ?_⟩
      simp [biV, un1, intV, absV]
      omega)
  have e2 : (((cutP ns none (some 63)).map PV.int).map fun x => match x with
    | .int i => PV.int ((i.natAbs : Nat) : Int)
    | x => x) = cs.map PV.int := by simp [cs, List.map_map, Function.comp_def]
  rw [e2] at cm
  simp only [d__law_hand, sSeq_ap, sSet_ap, dComp_ap, iAny_ap, dSl_ap, dVar_ap, pNo_ap, pSome_ap, dCst_ap, startP_def, List.map_cons, List.map_nil, List.cons_append, List.nil_append, List.getElem?_cons_zero, List.getElem?_cons_succ, Rs.bnd_ok, asPart, slV, cutP_map, itOf, b1, guardR_true]
  have w : wipeP [some (PV.scr ns), none, none] [2] = [some (.scr ns), none, none] := rfl
  have e3 : List.replicate (3 - [PV.scr ns].length) (none : Option PV) = [none, none] := rfl
  simp only [e3, w, cm, Rs.bnd_ok, mkLst, Bool.false_eq_true, if_false, inS_ok, Tg.put, List.set_cons_succ, List.set_cons_zero, Rt.bnd_nx]
  have b5 : ∀ a b c e f : PV, decide ([a, b, c, e, f].length ≤ sizeLine) = true := fun _ _ _ _ _ => big _ (by simp)
  simp only [sRet_ap, dLst_ap, dBin_ap, dBi_ap, lCons_ap, lNil_ap, dVar_ap, dCst_ap, List.getElem?_cons_zero, List.getElem?_cons_succ, Rs.bnd_ok, biV, un1, lenV_ro, binV, addV, mulV, mulOk_l l13, guardR_true, b5, mkLst, if_true, inS_ok, Rt.bnd_rt, cR_rt, List.length_map, List.length_nil, List.nil_append]
  rfl
theorem any_ok (d : Nat) (lam : Store → Rs PV) {xs : List PV} (h1 : 0 < xs.length) (h2 : xs.length ≤ 1000000) (hb : ∀ x ∈ xs, ∀ b, x.blw b = true) {S : Store} (h : Hd S) :
    ∃ v S', v ∈ xs ∧ Hd S' ∧ (∃ c, S' = S.set 0 c) ∧ rn (d + 2) lam "_law_any" [.rf 0, .tup xs] S = .ok v S' := by
  obtain ⟨k, S', k1, k2, ⟨c, k3⟩, k4⟩ := draw_ok d lam (m := xs.length) (by omega) (by omega) h
  have hk : k < xs.length := by omega
  refine ⟨xs[k], S', List.getElem_mem hk, k2, ⟨c, k3⟩, ?_⟩
  rw [e1 q_17 rfl rfl]
  have lt : lenV (.tup xs) S = .ok (.int xs.length) S := rfl
  have ia : ixV (.tup xs) (.int (k : Int)) S' = .ok xs[k] S' := by
    have : L2.atI xs (k : Int) = some xs[k] := atI_nat (by simp [hk])
    simp [ixV, seqOf, this]
  simp only [d__law_any, sSeq_ap, sRet_ap, dIx_ap, dCall_ap, lCons_ap, lNil_ap, dVar_ap, startP_def, List.map_cons, List.map_nil, List.cons_append, List.nil_append, List.getElem?_cons_zero, List.getElem?_cons_succ, Rs.bnd_ok, dBi_ap, biV, un1, lt, cC_call, cC_lam]
  rw [k4]
  simp only [Rs.bnd_ok, ia, inS_ok, Rt.bnd_rt, cR_rt]
  obtain ⟨cs, p, q, r, s, g, _⟩ := k2
  have ho : oldOk S.length S S' = true := by
    subst k3
    have hc : c = hnd cs p q r s := by
      cases S with
      | nil => cases g
      | cons a S => simpa using g
    subst hc
    exact oldOk_set _ (by simp [hnd, Cell.blw]) S 0
  have := closeV_gen (S1 := S') (X := []) (v := xs[k]) (w := xs[k]) ho (by rw [k3]; simp) (by rw [List.append_nil]; exact frz_blw (hb _ (List.getElem_mem hk) _))
  simpa using this
end Lk85

end
section
set_option Elab.async false
set_option linter.all false
set_option maxRecDepth 100000
set_option maxHeartbeats 1000000
namespace Lk85
open PySem Ev
/-- a comprehension over a range whose condition draws: some of its numbers, in order -/
theorem comp_draw {C : Cfg} {σ : Sl} {cond : DenT} {k : Nat} {it : ItV} (st : ∀ S, it.still S = true)
    (hc : ∀ (i : Nat) S, Hd S → ∃ b c, Hd (S.set 0 c) ∧ cond C (σ.set k (some (.int i))) S = .ok b (S.set 0 c)) (hk : k < σ.length) :
    ∀ (xs : List Nat) S, Hd S → ∃ (ys : List Nat) (c : Cell), ys.Sublist xs ∧ Hd (S.set 0 c) ∧ compGo (.nm k) cond (dVar k) C σ it (xs.map fun (i : Nat) => PV.int i) S = .ok (ys.map fun (i : Nat) => PV.int i) (S.set 0 c)
  | [], S, h => by
    obtain ⟨cs, p, q, r, s, g, hp⟩ := h
    refine ⟨[], hnd cs p q r s, .slnil, ⟨cs, p, q, r, s, set_get g, hp⟩, ?_⟩
    rw [set_self g]
    simp [compGo, st]
  | x :: xs, S, h => by
    obtain ⟨b, c, h1, h2⟩ := hc x S h
    obtain ⟨ys, c', h3, h4, h5⟩ := comp_draw st hc hk xs _ h1
    rw [set_set] at h4 h5
    have hv : dVar k C (σ.set k (some (.int (x : Int)))) (S.set 0 c) = .ok (.int (x : Int)) (S.set 0 c) := by simp [hk]
    simp only [List.map_cons, compGo, st, guardR_true, Tg.put, h2, noX_ok, Rs.bnd_ok, hv, h5]
    cases b with
    | false => exact ⟨ys, c', .cons _ h3, h4, by simp⟩
    | true => exact ⟨x :: ys, c', .cons_cons _ h3, h4, by simp⟩
end Lk85

end
section
set_option Elab.async false
set_option linter.all false
set_option maxRecDepth 100000
set_option maxHeartbeats 1000000
namespace Lk85
open PySem Ev
theorem asc_sub {n : Nat} {ys : List Nat} (h : ys.Sublist (List.range n)) : Asc n ys :=
  ⟨fun x hx => List.mem_range.mp (h.subset hx), List.Pairwise.sublist h List.pairwise_lt_range⟩
theorem asc_one {n x : Nat} (h : x < n) : Asc n [x] := ⟨fun y hy => by rw [List.mem_singleton.mp hy]; exact h, List.pairwise_singleton _ _⟩
/-- the store of `_law_square` within its loop -/
theorem oldOk_hd {S : Store} {c : Cell} (h : Hd (S.set 0 c)) (h0 : 0 < S.length) : oldOk S.length S (S.set 0 c) = true := by
  obtain ⟨cs, p, q, r, s, g, _⟩ := h
  have e : c = hnd cs p q r s := by
    cases S with
    | nil => cases h0
    | cons a S => simpa using g
  subst e
  exact oldOk_set _ (by simp [hnd, Cell.blw]) S 0
end Lk85

end
section
set_option Elab.async false
set_option linter.all false
set_option maxRecDepth 100000
set_option maxHeartbeats 1000000
namespace Lk85
open PySem Ev
def rowB : DenS := (sSeq (sSet (.nm 6) (dComp false [7] (.nm 7) (iRng1 (lCons (dVar 2) lNil)) (tCmp .Lt (dCall "_law_draw" (lCons (dVar 0) (lCons (dCst (.int 6)) lNil))) (dVar 3)) (dVar 7))) (sSeq (sIf (tCmp .Eq (dCall "_law_draw" (lCons (dVar 0) (lCons (dCst (.int 4)) lNil))) (dCst (.int 0))) (sSeq (sSet (.nm 6) (dLst false (lCons (dBin .Mod (dBi .int (lCons (dBin .Add (dVar 5) (dCst (.int 1))) lNil)) (dVar 2)) lNil))) sNil) sNil) (sSeq (sExpr (dMt .append (dVar 4) (lCons (dBi .tuple (lCons (dVar 6) lNil)) lNil))) sNil)))
theorem Hd_app {S X : Store} (h : Hd S) : Hd (S ++ X) := by
  obtain ⟨cs, p, q, r, s, g, hp⟩ := h
  refine ⟨cs, p, q, r, s, ?_, hp⟩
  cases S with
  | nil => cases g
  | cons a S => exact g
theorem Hd_pos {S : Store} (h : Hd S) : 0 < S.length := by
  obtain ⟨cs, p, q, r, s, g, hp⟩ := h
  cases S with
  | nil => cases g
  | cons a S => simp
theorem rngL_map (n : Nat) : rngL 0 n = (List.range n).map fun (i : Nat) => PV.int i := by simp [rngL]
theorem row_comp (d : Nat) (lam : Store → Rs PV) (σ : Sl) {n : Nat} (hn : n ≤ 1000) {sh : Int} (h0 : σ[0]? = some (some (.rf 0))) (h2 : σ[2]? = some (some (.int n))) (h3 : σ[3]? = some (some (.int sh))) (hl : σ.length = 8) {S : Store} (h : Hd S) :
    ∃ (ys : List Nat) (c : Cell), Asc n ys ∧ Hd (S.set 0 c) ∧ dComp false [7] (.nm 7) (iRng1 (lCons (dVar 2) lNil)) (tCmp .Lt (dCall "_law_draw" (lCons (dVar 0) (lCons (dCst (.int 6)) lNil))) (dVar 3)) (dVar 7) (cC (d + 1) lam) σ S = .ok (.ro (ys.map fun (i : Nat) => PV.int i)) (S.set 0 c) := by
  have key := comp_draw (C := cC (d + 1) lam) (σ := σ.set 7 none) (cond := tCmp .Lt (dCall "_law_draw" (lCons (dVar 0) (lCons (dCst (.int 6)) lNil))) (dVar 3)) (k := 7) (it := ⟨rngL 0 n, []⟩) (fun _ => rfl) (fun i S h => by
    obtain ⟨v, S', v1, v2, ⟨c, rfl⟩, v4⟩ := draw_ok d lam (m := 6) (by decide) (by decide) h
    refine ⟨decide ((v : Int) < sh), c, v2, ?_⟩
    have e0 : ((σ.set 7 none).set 7 (some (PV.int (i : Int))))[0]? = some (some (.rf 0)) := by simp [h0]
    have e3 : ((σ.set 7 none).set 7 (some (PV.int (i : Int))))[3]? = some (some (.int sh)) := by simp [h3]
    have cl : cmpV (cC (d + 1) lam) .Lt (.int v) (.int sh) (S.set 0 c) = .ok (decide ((v : Int) < sh)) (S.set 0 c) := by simp [cmpV, ordV, cmpI]
    simp only [tCmp_ap, dCall_ap, lCons_ap, lNil_ap, dVar_ap, dCst_ap, e0, e3, Rs.bnd_ok, cC_call, cC_lam]
    rw [v4]
    simp only [Rs.bnd_ok, cl]) (by simp [hl]) (List.range n) S h
  obtain ⟨ys, c, k1, k2, k3⟩ := key
  refine ⟨ys, c, asc_sub k1, k2, ?_⟩
  have sm : small62 (n : Int) = true := small_of (by omega) (by omega)
  have bg : decide ((rngL 0 n).length ≤ sizeLine) = true := big _ (by simp [rngL]; omega)
  have w : wipeP σ [7] = σ.set 7 none := rfl
  simp only [dComp_ap, iRng1_ap, lCons_ap, lNil_ap, dVar_ap, h2, Rs.bnd_ok, rng1V, intsOf, sm, Int.toNat_natCast, guardR_true]
  rw [← rngL_map] at k3
  simp only [List.mapM_cons, List.mapM_nil, bg, w, guardR_true]
  simp [sm, bg, k3, mkLst]
end Lk85

end
section
set_option Elab.async false
set_option linter.all false
set_option maxRecDepth 100000
set_option maxHeartbeats 1000000
namespace Lk85
open PySem Ev
theorem set_app {S X : Store} (h : 0 < S.length) (c : Cell) : (S ++ X).set 0 c = S.set 0 c ++ X := by
  cases S with
  | nil => cases h
  | cons a S => rfl
theorem Hd_cut {S X : Store} (h0 : 0 < S.length) (h : Hd (S ++ X)) : Hd S := by
  obtain ⟨cs, p, q, r, s, g, hp⟩ := h
  refine ⟨cs, p, q, r, s, ?_, hp⟩
  cases S with
  | nil => cases h0
  | cons a S => exact g
theorem rowB_ok (d : Nat) (lam : Store → Rs PV) {n : Nat} (n1 : 1 ≤ n) (hn : n ≤ 1000) {mo sh : Int} {S : Store} (h : Hd S) (i : Nat) (x6 x7 : Option PV) (rs : List PV) (hr : rs.length < 1000) :
    ∃ (ys : List Nat) (c : Cell), Asc n ys ∧ Hd (S.set 0 c) ∧ rowB (cC (d + 1) lam) [some (.rf 0), some (.int mo), some (.int n), some (.int sh), some (.rf S.length), some (.int i), x6, x7] (S ++ [.lst rs]) = .nx [some (.rf 0), some (.int mo), some (.int n), some (.int sh), some (.rf S.length), some (.int i), some (.ro (ys.map fun (i : Nat) => PV.int i)), x7] (S.set 0 c ++ [.lst (rs ++ [rowV ys])]) := by
  have h0 := Hd_pos h
  obtain ⟨ys, c, a1, a2, a3⟩ := row_comp d lam [some (.rf 0), some (.int mo), some (.int n), some (.int sh), some (.rf S.length), some (.int i), x6, x7] hn rfl rfl rfl rfl (Hd_app (X := [.lst rs]) h)
  obtain ⟨v, S', v1, v2, ⟨c', rfl⟩, v4⟩ := draw_ok d lam (m := 4) (by decide) (by decide) a2
  rw [set_set, set_app h0] at v2
  rw [set_set, set_app h0, set_app h0] at v4
  rw [set_app h0] at a3
  have v3 : Hd (S.set 0 c') := Hd_cut (by simpa using h0) v2
  have ce : ∀ T, cmpV (cC (d + 1) lam) .Eq (.int (v : Int)) (.int 0) T = .ok ((v : Int) == 0) T := fun T => by simp only [cmpV, eqV_int]
  have ap : ∀ (zs : List Nat), appV (.rf S.length) (rowV zs) (S.set 0 c' ++ [.lst rs]) = .ok .non (S.set 0 c' ++ [.lst (rs ++ [rowV zs])]) := fun zs => by
    have b : decide (rs.length < sizeLine) = true := decide_eq_true (Nat.lt_trans hr (by decide))
    have e : (S.set 0 c' ++ [Cell.lst rs])[S.length]? = some (.lst rs) := by
      rw [List.getElem?_append_right (by simp)]; simp
    have e2 : (S.set 0 c' ++ [Cell.lst rs]).set S.length (.lst (rs ++ [rowV zs])) = S.set 0 c' ++ [.lst (rs ++ [rowV zs])] := by
      rw [List.set_append_right _ _ (by simp)]; simp
    simp only [appV, e, b, guardR_true, e2]
  simp only [rowB, sSeq_ap, sSet_ap, a3, inS_ok, Tg.put, List.set_cons_succ, List.set_cons_zero, Rt.bnd_nx, sIf_ap, tCmp_ap, dCall_ap, lCons_ap, lNil_ap, dVar_ap, dCst_ap, List.getElem?_cons_zero, List.getElem?_cons_succ, Rs.bnd_ok, cC_call, cC_lam]
  rw [v4]
  simp only [Rs.bnd_ok, ce, inS_ok]
  have fin : ∀ zs : List Nat, ((sExpr (dMt .append (dVar 4) (lCons (dBi .tuple (lCons (dVar 6) lNil)) lNil)) (cC (d + 1) lam) [some (.rf 0), some (.int mo), some (.int n), some (.int sh), some (.rf S.length), some (.int i), some (.ro (zs.map fun (i : Nat) => PV.int i)), x7] (S.set 0 c' ++ [.lst rs])).bnd fun σ S => .nx σ S) = .nx [some (.rf 0), some (.int mo), some (.int n), some (.int sh), some (.rf S.length), some (.int i), some (.ro (zs.map fun (i : Nat) => PV.int i)), x7] (S.set 0 c' ++ [.lst (rs ++ [rowV zs])]) := fun zs => by
    have e : (lstOf (S.set 0 c' ++ [Cell.lst rs]) (.rf S.length)).isSome = true := by
      have e : (S.set 0 c' ++ [Cell.lst rs])[S.length]? = some (.lst rs) := by
        rw [List.getElem?_append_right (by simp)]; simp
      simp only [lstOf, e, Option.isSome]
    have ap' := ap zs
    have tv : tupV (.ro (zs.map fun (i : Nat) => PV.int i)) (S.set 0 c' ++ [.lst rs]) = .ok (.tup (zs.map fun (i : Nat) => PV.int i)) (S.set 0 c' ++ [.lst rs]) := rfl
    simp only [rowV] at ap' ⊢
    simp only [sExpr_ap, dMt_ap, dBi_ap, lCons_ap, lNil_ap, dVar_ap, List.getElem?_cons_zero, List.getElem?_cons_succ, Rs.bnd_ok, e, guardR_true, biV, un1, tv, mtV, ap', inS_ok, Rt.bnd_nx]
  by_cases z : ((v : Int) == 0) = true
  · refine ⟨[(i + 1) % n], c', asc_one (Nat.mod_lt _ (by omega)), v3, ?_⟩
    have em : (((i : Int) + 1) % (n : Int)) = (((i + 1) % n : Nat) : Int) := by rw [Int.natCast_emod]; rfl
    have bn : ∀ x : PV, decide ([x].length ≤ sizeLine) = true := fun x => big _ (by simp)
    simp only [z, if_true, sSeq_ap, sSet_ap, dLst_ap, dBin_ap, dBi_ap, lCons_ap, lNil_ap, dVar_ap, dCst_ap, List.getElem?_cons_zero, List.getElem?_cons_succ, Rs.bnd_ok, binV, addV, biV, un1, intV, modV, mg_ (j := (n : Int)) (by omega), guardR_true, bn, mkLst, Bool.false_eq_true, if_false, inS_ok, Tg.put, List.set_cons_succ, List.set_cons_zero, Rt.bnd_nx, sNil_ap, em]
    exact fin [(i + 1) % n]
  · refine ⟨ys, c', a1, v3, ?_⟩
    simp only [z, Bool.false_eq_true, if_false, sNil_ap, Rt.bnd_nx]
    exact fin ys
end Lk85

end
section
set_option Elab.async false
set_option linter.all false
set_option maxRecDepth 100000
set_option maxHeartbeats 1000000
local macro_rules | `(tactic| dsimp! [$ls,*]) => `(tactic| simp only [Ev.dCst_e, Ev.dBin_e, Ev.dBinM_e, Ev.dUn_e, Ev.tCmp_e, Ev.tChn_e, Ev.tAnd_e, Ev.tOr_e, Ev.tNot_e, Ev.tVal_e, Ev.dTst_e, Ev.dAnd_e, Ev.dOr_e, Ev.dNot_e, Ev.dIte_e, Ev.lNil_e, Ev.lCons_e, Ev.dTup_e, Ev.dLst_e, Ev.dIx_e, Ev.pNo_e, Ev.pSome_e, Ev.dSl_e, Ev.dFld_e, Ev.dCall_e, Ev.dCallL_e, Ev.dAct_e, Ev.dMk_e, Ev.dBad_e, Ev.tBad_e, Ev.dIsi_e, Ev.dBi_e, Ev.dMt_e, Ev.iAny_e, Ev.iRng1_e, Ev.iRng2_e, Ev.iEnum_e, Ev.iZip_e, Ev.iRev1_e, Ev.iRev2_e, Ev.tYes_e, Ev.dComp_e, Ev.sNil_e, Ev.sSeq_e, Ev.sSet_e, Ev.sPar_e, Ev.sPut_e, Ev.sFld_e, Ev.sAug_e, Ev.sExpr_e, Ev.sRet_e, Ev.sRetN_e, Ev.sIf_e, Ev.sBrk_e, Ev.sCnt_e, Ev.sRaise_e, Ev.sBad_e, Ev.sTryA_e, Ev.sFor_e, Ev.sWhile_e, Ev.atR_e, Ev.bnd_ok_e, Ev.bnd_exc_e, Ev.guardR_e, Ev.guardS_t_e, Ev.noX_e, Ev.inS_ok_e, Ev.inS_exc_e, Ev.tb_nx_e, Ev.tb_rt_e, Ev.tb_bk_e, Ev.tb_ct_e, Ev.tb_exc_e, Ev.lp_nx_e, Ev.lp_ct_e, Ev.lp_bk_e, Ev.lp_rt_e, Ev.lp_exc_e, Ev.dVar_z, Ev.dVar_s, Ev.dCallL_z, Ev.put_nm, Ev.put_tp, Ev.puts_nil, Ev.puts_cons, Ev.setMany_nil, Ev.setMany_cons, Ev.wipe_nil, Ev.wipe_cons, Ev.startP_e, Ev.sz_0, Ev.sz_1, Ev.sz_2, Ev.sz_3, Ev.sz_4, Ev.sz_5, Ev.sz_6, Ev.sz_7, Ev.sz_8, Ev.sz_9, Ev.sz_10, Ev.sz_11, Ev.sz_12, Ev.sz_13, Ev.sz_14, Ev.sz_15, Ev.sz_16, Ev.sz_17, Ev.sz_18, Ev.sz_19, Ev.sz_20, Ev.add_int, Ev.sub_int, Ev.mul_int, Ev.mod_int, Ev.fdiv_int, Ev.pow_int, Ev.add_tup, Ev.add_ro, Ev.add_str, Ev.neg_int, Ev.ip_add, Ev.ip_sub, Ev.lt_int, Ev.le_int, Ev.gt_int, Ev.ge_int, Ev.eq_e, Ev.ne_e, Ev.is_e, Ev.isn_e, Ev.in_e, Ev.nin_e, Ev.eq_int, Ev.tru_bl, Ev.tru_int, Ev.tru_non, Ev.tru_tup, Ev.tru_ro, Ev.asB_e, Ev.asPart_e, Ev.len_tup, Ev.len_ro, Ev.int_int, Ev.int_bl, Ev.tup_ro, Ev.tup_tup, Ev.sum_ro, Ev.all_ro, Ev.any_ro, Ev.min_int, Ev.max_int, Ev.abs_int, Ev.mk_ro, Ev.mk_rf, Ev.it_tup, Ev.it_ro, Ev.rng1_e, Ev.rng2_e, Ev.enum_tup, Ev.enum_ro, Ev.sl_tup, Ev.sl_ro, Ev.ix_tup, Ev.ix_ro, Ev.lst_ro, Ev.cr_rt, Ev.cr_nx, Ev.cl_int_e, Ev.cl_bl_e, Ev.cl_str_e, Ev.cl_non_e, Ev.blw_nil_e, Ev.blw_cons_e, Ev.at_app, Ev.set_at, Ev.at_app1, Ev.set_at1, List.getElem?_cons_zero, List.getElem?_cons_succ, List.set_cons_zero, List.set_cons_succ, List.map_cons, List.map_nil, List.cons_append, List.nil_append, List.length_cons, List.length_nil, List.reduceReplicate, Nat.reduceAdd, Nat.reduceSub, Nat.zero_add, Option.bind_some, Bool.not_true, Bool.not_false, Bool.false_eq_true, Bool.true_and, Bool.and_true, Bool.false_and, Bool.and_false, if_true, if_false, ite_true, ite_false, Int.toNat_natCast, Option.isSome_some, List.append_assoc, $ls,*])
namespace Lk85
open PySem Ev
theorem sq_loop (d : Nat) (lam : Store → Rs PV) {n : Nat} (n1 : 1 ≤ n) (hn : n ≤ 1000) {mo sh : Int} {it : ItV} (st : ∀ S, it.still S = true) : ∀ (is : List Nat) {S : Store} (h : Hd S) (x5 x6 x7 : Option PV) (R : List (List Nat)), R.length + is.length < 1000 →
    ∃ (R' : List (List Nat)) (c : Cell) (y5 y6 : Option PV), R'.length = is.length ∧ (∀ r ∈ R', Asc n r) ∧ Hd (S.set 0 c) ∧ forGo (.nm 5) rowB (cC (d + 1) lam) it (is.map fun (i : Nat) => PV.int i) [some (.rf 0), some (.int mo), some (.int n), some (.int sh), some (.rf S.length), x5, x6, x7] (S ++ [.lst (R.map rowV)]) = .nx [some (.rf 0), some (.int mo), some (.int n), some (.int sh), some (.rf S.length), y5, y6, x7] (S.set 0 c ++ [.lst ((R ++ R').map rowV)])
  | [], S, h, x5, x6, x7, R, hl => by
    obtain ⟨cs, p, q, r, s, g, hp⟩ := h
    refine ⟨[], hnd cs p q r s, x5, x6, rfl, fun _ h => by (cases h), ⟨cs, p, q, r, s, set_get g, hp⟩, ?_⟩
    rw [set_self g]
    simp [forGo, st]
  | i :: is, S, h, x5, x6, x7, R, hl => by
    simp only [List.length_cons] at hl
    obtain ⟨ys, c, a1, a2, a3⟩ := rowB_ok d lam n1 hn (mo := mo) (sh := sh) h i x6 x7 (R.map rowV) (by simp; omega)
    have e : R.map rowV ++ [rowV ys] = (R ++ [ys]).map rowV := by simp
    rw [e] at a3
    obtain ⟨R', c', y5, y6, b1, b2, b3, b4⟩ := sq_loop d lam n1 hn (mo := mo) (sh := sh) st is a2 (some (.int i)) (some (.ro (ys.map fun (i : Nat) => PV.int i))) x7 (R ++ [ys]) (by simp; omega)
    rw [set_set] at b3 b4
    rw [List.length_set] at b4
    refine ⟨ys :: R', c', y5, y6, by simp [b1], fun r hr => ?_, b3, ?_⟩
    · rcases List.mem_cons.mp hr with rfl | hr
      · exact a1
      · exact b2 r hr
    · simp only [List.map_cons, forGo, st, guardS_true, Tg.put, List.set_cons_succ, List.set_cons_zero, a3]
      have e2 : R ++ ys :: R' = R ++ [ys] ++ R' := by simp
      rw [e2]
      exact b4
theorem square_ok (d : Nat) (lam : Store → Rs PV) {mo : Nat} (m1 : 1 ≤ mo) (m2 : mo ≤ 12) {S : Store} (h : Hd S) :
    ∃ (n : Nat) (R : List (List Nat)) (c : Cell), n ≤ mo ∧ Sq n R ∧ Hd (S.set 0 c) ∧ rn (d + 2) lam "_law_square" [.rf 0, .int mo] S = .ok (rowsV R) (S.set 0 c) := by
  have h0 := Hd_pos h
  obtain ⟨v, S1, v1, v2, ⟨c1, rfl⟩, v4⟩ := draw_ok d lam (m := (mo : Int)) (by omega) (by omega) h
  obtain ⟨w, S2, w1, w2, ⟨c2, rfl⟩, w4⟩ := draw_ok d lam (m := 4) (by decide) (by decide) v2
  rw [set_set] at w2 w4
  have hl : (S.set 0 c2).length = S.length := by simp
  obtain ⟨R, c, y5, y6, b1, b2, b3, b4⟩ := sq_loop d lam (n := 1 + v) (by omega) (by omega) (mo := mo) (sh := 1 + (w : Int)) (it := ⟨rngL 0 (1 + v), []⟩) (fun _ => rfl) (List.range (1 + v)) w2 none none none [] (by simp; omega)
  rw [set_set] at b3 b4
  rw [hl] at b4
  refine ⟨1 + v, R, c, by omega, ⟨by omega, by omega, by simpa using b1, b2⟩, b3, ?_⟩
  rw [← rngL_map] at b4
  rw [e1 q_19 rfl rfl]
  have sm : small62 ((1 : Int) + (v : Int)) = true := small_of (by omega) (by omega)
  have tn : ((1 : Int) + (v : Int)).toNat = 1 + v := by omega
  have cst : ((1 + v : Nat) : Int) = (1 : Int) + (v : Int) := by omega
  rw [cst] at b4
  simp only [rowB, List.map_nil, List.nil_append] at b4
  have lo : (S.set 0 c ++ [Cell.lst (R.map rowV)])[S.length]? = some (.lst (R.map rowV)) := by
    rw [List.getElem?_append_right (by simp)]; simp
  dsimp! [d__law_square, cC_call, cC_lam, v4, w4, sm, tn, hl, b4, tup_rf lo]
  have bl : (rowsV R).blw S.length = true := blws_all fun x hx => by
    obtain ⟨r, _, rfl⟩ := List.mem_map.mp hx
    exact blws_all fun y hy => by
      obtain ⟨z, _, rfl⟩ := List.mem_map.mp hy
      rfl
  exact closeV_gen (oldOk_hd b3 h0) (by simp) (frz_blw bl)
end Lk85

end
section
set_option Elab.async false
set_option linter.all false
set_option maxRecDepth 100000
set_option maxHeartbeats 1000000
local macro_rules | `(tactic| dsimp! [$ls,*]) => `(tactic| simp only [Ev.dCst_e, Ev.dBin_e, Ev.dBinM_e, Ev.dUn_e, Ev.tCmp_e, Ev.tChn_e, Ev.tAnd_e, Ev.tOr_e, Ev.tNot_e, Ev.tVal_e, Ev.dTst_e, Ev.dAnd_e, Ev.dOr_e, Ev.dNot_e, Ev.dIte_e, Ev.lNil_e, Ev.lCons_e, Ev.dTup_e, Ev.dLst_e, Ev.dIx_e, Ev.pNo_e, Ev.pSome_e, Ev.dSl_e, Ev.dFld_e, Ev.dCall_e, Ev.dCallL_e, Ev.dAct_e, Ev.dMk_e, Ev.dBad_e, Ev.tBad_e, Ev.dIsi_e, Ev.dBi_e, Ev.dMt_e, Ev.iAny_e, Ev.iRng1_e, Ev.iRng2_e, Ev.iEnum_e, Ev.iZip_e, Ev.iRev1_e, Ev.iRev2_e, Ev.tYes_e, Ev.dComp_e, Ev.sNil_e, Ev.sSeq_e, Ev.sSet_e, Ev.sPar_e, Ev.sPut_e, Ev.sFld_e, Ev.sAug_e, Ev.sExpr_e, Ev.sRet_e, Ev.sRetN_e, Ev.sIf_e, Ev.sBrk_e, Ev.sCnt_e, Ev.sRaise_e, Ev.sBad_e, Ev.sTryA_e, Ev.sFor_e, Ev.sWhile_e, Ev.atR_e, Ev.bnd_ok_e, Ev.bnd_exc_e, Ev.guardR_e, Ev.guardS_t_e, Ev.noX_e, Ev.inS_ok_e, Ev.inS_exc_e, Ev.tb_nx_e, Ev.tb_rt_e, Ev.tb_bk_e, Ev.tb_ct_e, Ev.tb_exc_e, Ev.lp_nx_e, Ev.lp_ct_e, Ev.lp_bk_e, Ev.lp_rt_e, Ev.lp_exc_e, Ev.dVar_z, Ev.dVar_s, Ev.dCallL_z, Ev.put_nm, Ev.put_tp, Ev.puts_nil, Ev.puts_cons, Ev.setMany_nil, Ev.setMany_cons, Ev.wipe_nil, Ev.wipe_cons, Ev.startP_e, Ev.sz_0, Ev.sz_1, Ev.sz_2, Ev.sz_3, Ev.sz_4, Ev.sz_5, Ev.sz_6, Ev.sz_7, Ev.sz_8, Ev.sz_9, Ev.sz_10, Ev.sz_11, Ev.sz_12, Ev.sz_13, Ev.sz_14, Ev.sz_15, Ev.sz_16, Ev.sz_17, Ev.sz_18, Ev.sz_19, Ev.sz_20, Ev.add_int, Ev.sub_int, Ev.mul_int, Ev.mod_int, Ev.fdiv_int, Ev.pow_int, Ev.add_tup, Ev.add_ro, Ev.add_str, Ev.neg_int, Ev.ip_add, Ev.ip_sub, Ev.lt_int, Ev.le_int, Ev.gt_int, Ev.ge_int, Ev.eq_e, Ev.ne_e, Ev.is_e, Ev.isn_e, Ev.in_e, Ev.nin_e, Ev.eq_int, Ev.tru_bl, Ev.tru_int, Ev.tru_non, Ev.tru_tup, Ev.tru_ro, Ev.asB_e, Ev.asPart_e, Ev.len_tup, Ev.len_ro, Ev.int_int, Ev.int_bl, Ev.tup_ro, Ev.tup_tup, Ev.sum_ro, Ev.all_ro, Ev.any_ro, Ev.min_int, Ev.max_int, Ev.abs_int, Ev.mk_ro, Ev.mk_rf, Ev.it_tup, Ev.it_ro, Ev.rng1_e, Ev.rng2_e, Ev.enum_tup, Ev.enum_ro, Ev.sl_tup, Ev.sl_ro, Ev.ix_tup, Ev.ix_ro, Ev.lst_ro, Ev.cr_rt, Ev.cr_nx, Ev.cl_int_e, Ev.cl_bl_e, Ev.cl_str_e, Ev.cl_non_e, Ev.blw_nil_e, Ev.blw_cons_e, Ev.at_app, Ev.set_at, Ev.at_app1, Ev.set_at1, List.getElem?_cons_zero, List.getElem?_cons_succ, List.set_cons_zero, List.set_cons_succ, List.map_cons, List.map_nil, List.cons_append, List.nil_append, List.length_cons, List.length_nil, List.reduceReplicate, Nat.reduceAdd, Nat.reduceSub, Nat.zero_add, Option.bind_some, Bool.not_true, Bool.not_false, Bool.false_eq_true, Bool.true_and, Bool.and_true, Bool.false_and, Bool.and_false, if_true, if_false, ite_true, ite_false, Int.toNat_natCast, Option.isSome_some, List.append_assoc, $ls,*])
namespace Lk85
open PySem Ev
/-! ### _law_steps -/
def vecP (n : Nat) (f : Nat → Nat) : List PV := (List.range n).map fun i => PV.int (f i : Int)
theorem vecP_len {n : Nat} {f : Nat → Nat} : (vecP n f).length = n := by simp [vecP]
theorem vecP_at {n : Nat} {f : Nat → Nat} {j : Nat} (h : j < n) : L2.atI (vecP n f) (j : Int) = some (.int (f j)) := atI_nat (by simp [vecP, h])
theorem vecP_set {n : Nat} {f : Nat → Nat} {j v : Nat} (h : j < n) : (vecP n f).set j (.int (v : Int)) = vecP n (fun i => if i = j then v else f i) := by
  apply List.ext_getElem
  · simp [vecP]
  · intro i h1 h2
    simp only [vecP, List.length_set, List.length_map, List.length_range] at h1
    simp only [vecP, List.getElem_set, List.getElem_map, List.getElem_range]
    by_cases e : j = i
    · subst e; simp
    · have e' : ¬ (i = j) := fun x => e x.symm
      simp [e, e']
theorem set_set' (T : Store) (r : Nat) (c c' : Cell) : (T.set r c).set r c' = T.set r c' := by simp
theorem steps0 (C : Cfg) {n r : Nat} {T : Store} (hr : r < T.length) {hv : PV} {k h : Nat} (hh : ∀ xs, ixV hv (.int k) (T.set r (.lst xs)) = .ok (.int h) (T.set r (.lst xs))) {it : ItV} (st : ∀ S', it.still S' = true) (s0 s1 s2 s4 s5 s8 : Option PV) : ∀ (lot : List Nat), (∀ x ∈ lot, x < n) → ∀ (f : Nat → Nat) (o9 : Option PV),
    ∃ o, forGo (.nm 9) b__law_steps_0 C it (lot.map fun (x : Nat) => PV.int (x : Int)) [s0, s1, s2, some hv, s4, s5, some (.rf r), some (.int k), s8, o9] (T.set r (.lst (vecP n f))) = .nx [s0, s1, s2, some hv, s4, s5, some (.rf r), some (.int k), s8, o] (T.set r (.lst (vecP n fun c => f c + lot.count c * h)))
  | [], _, f, o9 => ⟨o9, by simp [forGo, st]⟩
  | x :: lot, hx, f, o9 => by
    have hxn := hx x (.head _)
    obtain ⟨o, ih⟩ := steps0 C hr hh st s0 s1 s2 s4 s5 s8 lot (fun y hy => hx y (.tail _ hy)) (fun i => if i = x then f x + h else f i) (some (.int x))
    refine ⟨o, ?_⟩
    have e : (T.set r (.lst (vecP n f)))[r]? = some (.lst (vecP n f)) := List.getElem?_set_self hr
    have pe : putV (.rf r) (.int (x : Int)) (.int ((f x : Int) + (h : Int))) (T.set r (.lst (vecP n f))) = some (T.set r (.lst (vecP n fun i => if i = x then f x + h else f i))) := by
      rw [put_rf e (by rw [vecP_len]; exact hxn), set_set', show ((f x : Int) + (h : Int)) = ((f x + h : Nat) : Int) by omega, vecP_set hxn]
    have body : b__law_steps_0 C [s0, s1, s2, some hv, s4, s5, some (.rf r), some (.int k), s8, some (.int x)] (T.set r (.lst (vecP n f))) = .nx [s0, s1, s2, some hv, s4, s5, some (.rf r), some (.int k), s8, some (.int x)] (T.set r (.lst (vecP n fun i => if i = x then f x + h else f i))) := by
      dsimp! [b__law_steps_0, ix_rf e, vecP_at hxn, hh, pe]
    simp only [List.map_cons, forGo, st, guardS_true, Tg.put, List.set_cons_succ, List.set_cons_zero, body, Rt.lp_nx, ih]
    congr 4
    funext c
    rw [List.count_cons]
    by_cases hc : c = x
    · subst hc
      simp [Nat.add_mul]; omega
    · have hc' : ¬ (x = c) := fun e => hc e.symm
      simp [hc, hc']
/-- what the rows add -/
def accV (hf : Nat → Nat) : Nat → List (List Nat) → (Nat → Nat) → Nat → Nat
  | _, [], f => f
  | k, r :: R, f => accV hf (k + 1) R fun c => f c + r.count c * hf k
theorem steps1 (C : Cfg) {n r : Nat} {T : Store} (hr : r < T.length) {hv : PV} {hf : Nat → Nat} (hh : ∀ (k : Nat) xs, k < n → ixV hv (.int k) (T.set r (.lst xs)) = .ok (.int (hf k)) (T.set r (.lst xs))) {it : ItV} (st : ∀ xs, it.still (T.set r (.lst xs)) = true) (s0 s1 s2 s4 s5 : Option PV) : ∀ (R : List (List Nat)) (k : Nat), k + R.length ≤ n → (∀ l ∈ R, ∀ x ∈ l, x < n) → ∀ (f : Nat → Nat) (o7 o8 o9 : Option PV),
    ∃ p7 p8 p9, forGo (.tp [.nm 7, .nm 8]) b__law_steps_1 C it (enumL k (R.map rowV)) [s0, s1, s2, some hv, s4, s5, some (.rf r), o7, o8, o9] (T.set r (.lst (vecP n f))) = .nx [s0, s1, s2, some hv, s4, s5, some (.rf r), p7, p8, p9] (T.set r (.lst (vecP n (accV hf k R f))))
  | [], k, _, _, f, o7, o8, o9 => ⟨o7, o8, o9, by simp [forGo, st, enumL, accV]⟩
  | l :: R, k, hk, hR, f, o7, o8, o9 => by
    simp only [List.length_cons] at hk
    obtain ⟨o, h0⟩ := steps0 C hr (hh k · (by omega)) (it := ⟨l.map fun (x : Nat) => PV.int (x : Int), []⟩) (fun _ => rfl) s0 s1 s2 s4 s5 (some (rowV l)) l (hR l (.head _)) f o9
    obtain ⟨p7, p8, p9, ih⟩ := steps1 C hr hh st s0 s1 s2 s4 s5 R (k + 1) (by omega) (fun l hl => hR l (.tail _ hl)) (fun c => f c + l.count c * hf k) (some (.int k)) (some (rowV l)) o
    refine ⟨p7, p8, p9, ?_⟩
    have body : b__law_steps_1 C [s0, s1, s2, some hv, s4, s5, some (.rf r), some (.int k), some (rowV l), o9] (T.set r (.lst (vecP n f))) = .nx [s0, s1, s2, some hv, s4, s5, some (.rf r), some (.int k), some (rowV l), o] (T.set r (.lst (vecP n fun c => f c + l.count c * hf k))) := by
      simp only [rowV] at h0 ⊢
      dsimp! [b__law_steps_1, h0]
    simp only [List.map_cons, enumL, forGo, st, guardS_true, Tg.put, Tg.puts, Option.bind_some, List.set_cons_succ, List.set_cons_zero, body, Rt.lp_nx, ih, accV]
end Lk85

end
section
set_option Elab.async false
set_option linter.all false
set_option maxRecDepth 100000
set_option maxHeartbeats 1000000
local macro_rules | `(tactic| dsimp! [$ls,*]) => `(tactic| simp only [Ev.dCst_e, Ev.dBin_e, Ev.dBinM_e, Ev.dUn_e, Ev.tCmp_e, Ev.tChn_e, Ev.tAnd_e, Ev.tOr_e, Ev.tNot_e, Ev.tVal_e, Ev.dTst_e, Ev.dAnd_e, Ev.dOr_e, Ev.dNot_e, Ev.dIte_e, Ev.lNil_e, Ev.lCons_e, Ev.dTup_e, Ev.dLst_e, Ev.dIx_e, Ev.pNo_e, Ev.pSome_e, Ev.dSl_e, Ev.dFld_e, Ev.dCall_e, Ev.dCallL_e, Ev.dAct_e, Ev.dMk_e, Ev.dBad_e, Ev.tBad_e, Ev.dIsi_e, Ev.dBi_e, Ev.dMt_e, Ev.iAny_e, Ev.iRng1_e, Ev.iRng2_e, Ev.iEnum_e, Ev.iZip_e, Ev.iRev1_e, Ev.iRev2_e, Ev.tYes_e, Ev.dComp_e, Ev.sNil_e, Ev.sSeq_e, Ev.sSet_e, Ev.sPar_e, Ev.sPut_e, Ev.sFld_e, Ev.sAug_e, Ev.sExpr_e, Ev.sRet_e, Ev.sRetN_e, Ev.sIf_e, Ev.sBrk_e, Ev.sCnt_e, Ev.sRaise_e, Ev.sBad_e, Ev.sTryA_e, Ev.sFor_e, Ev.sWhile_e, Ev.atR_e, Ev.bnd_ok_e, Ev.bnd_exc_e, Ev.guardR_e, Ev.guardS_t_e, Ev.noX_e, Ev.inS_ok_e, Ev.inS_exc_e, Ev.tb_nx_e, Ev.tb_rt_e, Ev.tb_bk_e, Ev.tb_ct_e, Ev.tb_exc_e, Ev.lp_nx_e, Ev.lp_ct_e, Ev.lp_bk_e, Ev.lp_rt_e, Ev.lp_exc_e, Ev.dVar_z, Ev.dVar_s, Ev.dCallL_z, Ev.put_nm, Ev.put_tp, Ev.puts_nil, Ev.puts_cons, Ev.setMany_nil, Ev.setMany_cons, Ev.wipe_nil, Ev.wipe_cons, Ev.startP_e, Ev.sz_0, Ev.sz_1, Ev.sz_2, Ev.sz_3, Ev.sz_4, Ev.sz_5, Ev.sz_6, Ev.sz_7, Ev.sz_8, Ev.sz_9, Ev.sz_10, Ev.sz_11, Ev.sz_12, Ev.sz_13, Ev.sz_14, Ev.sz_15, Ev.sz_16, Ev.sz_17, Ev.sz_18, Ev.sz_19, Ev.sz_20, Ev.add_int, Ev.sub_int, Ev.mul_int, Ev.mod_int, Ev.fdiv_int, Ev.pow_int, Ev.add_tup, Ev.add_ro, Ev.add_str, Ev.neg_int, Ev.ip_add, Ev.ip_sub, Ev.lt_int, Ev.le_int, Ev.gt_int, Ev.ge_int, Ev.eq_e, Ev.ne_e, Ev.is_e, Ev.isn_e, Ev.in_e, Ev.nin_e, Ev.eq_int, Ev.tru_bl, Ev.tru_int, Ev.tru_non, Ev.tru_tup, Ev.tru_ro, Ev.asB_e, Ev.asPart_e, Ev.len_tup, Ev.len_ro, Ev.int_int, Ev.int_bl, Ev.tup_ro, Ev.tup_tup, Ev.sum_ro, Ev.all_ro, Ev.any_ro, Ev.min_int, Ev.max_int, Ev.abs_int, Ev.mk_ro, Ev.mk_rf, Ev.it_tup, Ev.it_ro, Ev.rng1_e, Ev.rng2_e, Ev.enum_tup, Ev.enum_ro, Ev.sl_tup, Ev.sl_ro, Ev.ix_tup, Ev.ix_ro, Ev.lst_ro, Ev.cr_rt, Ev.cr_nx, Ev.cl_int_e, Ev.cl_bl_e, Ev.cl_str_e, Ev.cl_non_e, Ev.blw_nil_e, Ev.blw_cons_e, Ev.at_app, Ev.set_at, Ev.at_app1, Ev.set_at1, List.getElem?_cons_zero, List.getElem?_cons_succ, List.set_cons_zero, List.set_cons_succ, List.map_cons, List.map_nil, List.cons_append, List.nil_append, List.length_cons, List.length_nil, List.reduceReplicate, Nat.reduceAdd, Nat.reduceSub, Nat.zero_add, Option.bind_some, Bool.not_true, Bool.not_false, Bool.false_eq_true, Bool.true_and, Bool.and_true, Bool.false_and, Bool.and_false, if_true, if_false, ite_true, ite_false, Int.toNat_natCast, Option.isSome_some, List.append_assoc, $ls,*])
namespace Lk85
open PySem Ev
/-- a value that tells rows, in a store -/
structure RwV (rv : PV) (R : List (List Nat)) (src : List (Nat × Cell)) (S : Store) : Prop where
  len : ∀ X, biV .len [rv] (S ++ X) = .ok (.int R.length) (S ++ X)
  enu : ∀ X, enumV [rv] (S ++ X) = .ok ⟨enumL 0 (R.map rowV), src⟩ (S ++ X)
  st : ∀ X, ItV.still ⟨enumL 0 (R.map rowV), src⟩ (S ++ X) = true
def hvV (n : Nat) (F : Nat → Nat → Nat) (a : Nat) : Nat → PV
  | 0 => .ro (vecP n (F 0))
  | t + 1 => .rf (a + (2 * t + 2))
def fsV (n : Nat) (F : Nat → Nat → Nat) (a t : Nat) : List PV := (List.range (t + 1)).map (hvV n F a)
def gsV (n : Nat) (F : Nat → Nat → Nat) (t : Nat) : Store := (List.range t).flatMap fun k => [.lst [.int 0], .lst (vecP n (F (k + 1)))]
theorem fsV_succ {n : Nat} {F : Nat → Nat → Nat} {a t : Nat} : fsV n F a (t + 1) = fsV n F a t ++ [hvV n F a (t + 1)] := by
  simp [fsV, List.range_succ]
theorem fsV_len {n : Nat} {F : Nat → Nat → Nat} {a t : Nat} : (fsV n F a t).length = t + 1 := by simp [fsV]
theorem gsV_succ {n : Nat} {F : Nat → Nat → Nat} {t : Nat} : gsV n F (t + 1) = gsV n F t ++ [.lst [.int 0], .lst (vecP n (F (t + 1)))] := by
  simp [gsV, List.range_succ]
theorem gsV_len {n : Nat} {F : Nat → Nat → Nat} : ∀ {t : Nat}, (gsV n F t).length = 2 * t
  | 0 => rfl
  | t + 1 => by
    rw [gsV_succ, List.length_append, gsV_len]
    simp; omega
theorem gsV_at {n : Nat} {F : Nat → Nat → Nat} {S X : Store} {c : Cell} : ∀ {m t : Nat}, t < m → (S ++ c :: (gsV n F m ++ X))[S.length + (2 * t + 2)]? = some (.lst (vecP n (F (t + 1))))
  | 0, t, h => by omega
  | m + 1, t, h => by
    rw [gsV_succ]
    by_cases e : t < m
    · rw [List.append_assoc]
      exact gsV_at e
    · have : t = m := by omega
      subst this
      rw [List.getElem?_append_right (by omega), show S.length + (2 * t + 2) - S.length = (2 * t + 1) + 1 by omega, List.getElem?_cons_succ, List.append_assoc, List.getElem?_append_right (by rw [gsV_len]; omega), gsV_len, show 2 * t + 1 - 2 * t = 1 by omega]
      rfl
theorem hv_ix {n : Nat} {F : Nat → Nat → Nat} {S X : Store} {c : Cell} {k : Nat} (hk : k < n) : ∀ (t : Nat), ixV (hvV n F S.length t) (.int k) (S ++ c :: (gsV n F t ++ X)) = .ok (.int (F t k)) (S ++ c :: (gsV n F t ++ X))
  | 0 => by rw [hvV, ix_ro, vecP_at hk, atR_e]
  | t + 1 => by rw [hvV, ix_rf (gsV_at (Nat.lt_succ_self t)), vecP_at hk, atR_e]
theorem repl_flat {α : Type} (x : α) : ∀ n : Nat, (List.replicate n [x]).flatten = List.replicate n x
  | 0 => rfl
  | n + 1 => by simp [List.replicate_succ, repl_flat x n]
theorem mulM_e {S : Store} {r n : Nat} (h : S[r]? = some (.lst [.int 0])) (hn : n ≤ 1000) : binVM .Mult (.rf r) (.int n) S = .ok (.rf S.length) (S ++ [.lst (vecP n fun _ => 0)]) := by
  have g : decide ((0 : Int) ≤ (n : Int) ∧ (n : Int).toNat ≤ sizeLine ∧ [PV.int 0].length * (n : Int).toNat ≤ sizeLine) = true := by
    have : 1000 ≤ sizeLine := by decide
    refine decide_eq_true ⟨by omega, ?_, ?_⟩
    · simp; omega
    · simp; omega
  have e : (List.replicate (n : Int).toNat [PV.int 0]).flatten = vecP n fun _ => 0 := by
    rw [repl_flat, Int.toNat_natCast]
    apply List.ext_getElem
    · simp [vecP]
    · intro i h1 h2
      simp [vecP]
  simp only [binVM, lstOf, h, g, guardR_true, e, mkLst, if_true]
def Fst (R : List (List Nat)) (b : Nat) : Nat → Nat → Nat
  | 0, c => if c = b then 1 else 0
  | t + 1, c => accV (Fst R b t) 0 R (fun _ => 0) c
theorem steps2 (d : Nat) (lam : Store → Rs PV) {rv : PV} {R : List (List Nat)} {src : List (Nat × Cell)} {S : Store} {n b m : Nat} (rw_ : RwV rv R src S) (hn : R.length = n) (h12 : n ≤ 12) (hR : ∀ l ∈ R, ∀ x ∈ l, x < n) {it : ItV} (sti : ∀ S', it.still S' = true) : ∀ (is : List PV) (t : Nat), t + is.length ≤ 1000 → ∀ (o5 o6 o7 o8 o9 : Option PV),
    ∃ p3 p5 p6 p7 p8 p9, forGo (.nm 5) b__law_steps_2 (cC d lam) it is [some rv, some (.int b), some (.int m), some (hvV n (Fst R b) S.length t), some (.rf S.length), o5, o6, o7, o8, o9] (S ++ .lst (fsV n (Fst R b) S.length t) :: gsV n (Fst R b) t) = .nx [some rv, some (.int b), some (.int m), p3, some (.rf S.length), p5, p6, p7, p8, p9] (S ++ .lst (fsV n (Fst R b) S.length (t + is.length)) :: gsV n (Fst R b) (t + is.length))
  | [], t, _, o5, o6, o7, o8, o9 => ⟨some (hvV n (Fst R b) S.length t), o5, o6, o7, o8, o9, by simp [forGo, sti]⟩
  | i :: is, t, hl, o5, o6, o7, o8, o9 => by
    simp only [List.length_cons] at hl
    have hY : ∃ Y, S ++ Cell.lst (fsV n (Fst R b) S.length t) :: gsV n (Fst R b) t = Y := ⟨_, rfl⟩
    obtain ⟨Y, hY⟩ := hY
    have hYl : Y.length = S.length + 1 + 2 * t := by rw [← hY]; simp [gsV_len]; omega
    -- the store of the inner loop
    have hT : ∀ X, Y ++ X = S ++ (Cell.lst (fsV n (Fst R b) S.length t) :: (gsV n (Fst R b) t ++ X)) := fun X => by rw [← hY]; simp
    have hset : ∀ xs, (Y ++ [Cell.lst [.int 0], Cell.lst (vecP n fun _ => 0)]).set (Y.length + 1) (Cell.lst xs) = Y ++ [Cell.lst [.int 0], Cell.lst xs] := fun xs => set_at1 _ _ _ _ _
    obtain ⟨p7, p8, p9, h1⟩ := steps1 (cC d lam) (n := n) (r := Y.length + 1) (T := Y ++ [.lst [.int 0], .lst (vecP n fun _ => 0)]) (by simp) (hv := hvV n (Fst R b) S.length t) (hf := Fst R b t) (fun k xs hk => by
      rw [hset, hT]; exact hv_ix hk t) (it := ⟨enumL 0 (R.map rowV), src⟩) (fun xs => by rw [hset, hT]; exact rw_.st _) (some rv) (some (.int b)) (some (.int m)) (some (.rf S.length)) (some i) R 0 (by omega) hR (fun _ => 0) o7 o8 o9
    rw [hset, hset] at h1
    obtain ⟨q3, q5, q6, q7, q8, q9, ih⟩ := steps2 d lam (b := b) (m := m) rw_ hn h12 hR sti is (t + 1) (by omega) (some i) (some (.rf (Y.length + 1))) p7 p8 p9
    refine ⟨q3, q5, q6, q7, q8, q9, ?_⟩
    have l0 : ∀ X, biV .len [rv] (Y ++ X) = .ok (.int n) (Y ++ X) := fun X => by rw [hT, rw_.len, hn]
    have e0 : ∀ X, enumV [rv] (Y ++ X) = .ok ⟨enumL 0 (R.map rowV), src⟩ (Y ++ X) := fun X => by rw [hT, rw_.enu]
    have z0 : (Y ++ [Cell.lst [.int 0]])[Y.length]? = some (.lst [.int 0]) := at_app _ _ _
    have m0 := mulM_e (n := n) z0 (by omega)
    have hF : accV (Fst R b t) 0 R (fun _ => 0) = Fst R b (t + 1) := rfl
    have a0 : (Y ++ [Cell.lst [.int 0], .lst (vecP n (Fst R b (t + 1)))])[S.length]? = some (.lst (fsV n (Fst R b) S.length t)) := by rw [hT]; exact at_app _ _ _
    have a1 := app_rf a0 (by rw [fsV_len]; omega) (.rf (Y.length + 1))
    have a2 : (Y ++ [Cell.lst [.int 0], .lst (vecP n (Fst R b (t + 1)))]).set S.length (.lst (fsV n (Fst R b) S.length t ++ [.rf (Y.length + 1)])) = S ++ Cell.lst (fsV n (Fst R b) S.length (t + 1)) :: gsV n (Fst R b) (t + 1) := by
      rw [hT, set_at, fsV_succ, gsV_succ]
      have : hvV n (Fst R b) S.length (t + 1) = .rf (Y.length + 1) := by
        rw [hvV, hYl, show S.length + (2 * t + 2) = S.length + 1 + 2 * t + 1 by omega]
      rw [this]
    have body : b__law_steps_2 (cC d lam) [some rv, some (.int b), some (.int m), some (hvV n (Fst R b) S.length t), some (.rf S.length), some i, o6, o7, o8, o9] Y = .nx [some rv, some (.int b), some (.int m), some (.rf (Y.length + 1)), some (.rf S.length), some i, some (.rf (Y.length + 1)), p7, p8, p9] (S ++ .lst (fsV n (Fst R b) S.length (t + 1)) :: gsV n (Fst R b) (t + 1)) := by
      rw [hF] at h1
      dsimp! [b__law_steps_2, l0, m0, List.length_append, e0, h1, lst_rf a0, a1, a2]
    have hv1 : hvV n (Fst R b) S.length (t + 1) = .rf (Y.length + 1) := by
      rw [hvV, hYl, show S.length + (2 * t + 2) = S.length + 1 + 2 * t + 1 by omega]
    rw [hv1] at ih
    simp only [forGo, sti, guardS_true, Tg.put, List.set_cons_succ, List.set_cons_zero, hY, body, Rt.lp_nx, ih, List.length_cons]
    rw [show t + 1 + is.length = t + (is.length + 1) by omega]
end Lk85

end
section
set_option Elab.async false
set_option linter.all false
set_option maxRecDepth 100000
set_option maxHeartbeats 1000000
local macro_rules | `(tactic| dsimp! [$ls,*]) => `(tactic| simp only [Ev.dCst_e, Ev.dBin_e, Ev.dBinM_e, Ev.dUn_e, Ev.tCmp_e, Ev.tChn_e, Ev.tAnd_e, Ev.tOr_e, Ev.tNot_e, Ev.tVal_e, Ev.dTst_e, Ev.dAnd_e, Ev.dOr_e, Ev.dNot_e, Ev.dIte_e, Ev.lNil_e, Ev.lCons_e, Ev.dTup_e, Ev.dLst_e, Ev.dIx_e, Ev.pNo_e, Ev.pSome_e, Ev.dSl_e, Ev.dFld_e, Ev.dCall_e, Ev.dCallL_e, Ev.dAct_e, Ev.dMk_e, Ev.dBad_e, Ev.tBad_e, Ev.dIsi_e, Ev.dBi_e, Ev.dMt_e, Ev.iAny_e, Ev.iRng1_e, Ev.iRng2_e, Ev.iEnum_e, Ev.iZip_e, Ev.iRev1_e, Ev.iRev2_e, Ev.tYes_e, Ev.dComp_e, Ev.sNil_e, Ev.sSeq_e, Ev.sSet_e, Ev.sPar_e, Ev.sPut_e, Ev.sFld_e, Ev.sAug_e, Ev.sExpr_e, Ev.sRet_e, Ev.sRetN_e, Ev.sIf_e, Ev.sBrk_e, Ev.sCnt_e, Ev.sRaise_e, Ev.sBad_e, Ev.sTryA_e, Ev.sFor_e, Ev.sWhile_e, Ev.atR_e, Ev.bnd_ok_e, Ev.bnd_exc_e, Ev.guardR_e, Ev.guardS_t_e, Ev.noX_e, Ev.inS_ok_e, Ev.inS_exc_e, Ev.tb_nx_e, Ev.tb_rt_e, Ev.tb_bk_e, Ev.tb_ct_e, Ev.tb_exc_e, Ev.lp_nx_e, Ev.lp_ct_e, Ev.lp_bk_e, Ev.lp_rt_e, Ev.lp_exc_e, Ev.dVar_z, Ev.dVar_s, Ev.dCallL_z, Ev.put_nm, Ev.put_tp, Ev.puts_nil, Ev.puts_cons, Ev.setMany_nil, Ev.setMany_cons, Ev.wipe_nil, Ev.wipe_cons, Ev.startP_e, Ev.sz_0, Ev.sz_1, Ev.sz_2, Ev.sz_3, Ev.sz_4, Ev.sz_5, Ev.sz_6, Ev.sz_7, Ev.sz_8, Ev.sz_9, Ev.sz_10, Ev.sz_11, Ev.sz_12, Ev.sz_13, Ev.sz_14, Ev.sz_15, Ev.sz_16, Ev.sz_17, Ev.sz_18, Ev.sz_19, Ev.sz_20, Ev.add_int, Ev.sub_int, Ev.mul_int, Ev.mod_int, Ev.fdiv_int, Ev.pow_int, Ev.add_tup, Ev.add_ro, Ev.add_str, Ev.neg_int, Ev.ip_add, Ev.ip_sub, Ev.lt_int, Ev.le_int, Ev.gt_int, Ev.ge_int, Ev.eq_e, Ev.ne_e, Ev.is_e, Ev.isn_e, Ev.in_e, Ev.nin_e, Ev.eq_int, Ev.tru_bl, Ev.tru_int, Ev.tru_non, Ev.tru_tup, Ev.tru_ro, Ev.asB_e, Ev.asPart_e, Ev.len_tup, Ev.len_ro, Ev.int_int, Ev.int_bl, Ev.tup_ro, Ev.tup_tup, Ev.sum_ro, Ev.all_ro, Ev.any_ro, Ev.min_int, Ev.max_int, Ev.abs_int, Ev.mk_ro, Ev.mk_rf, Ev.it_tup, Ev.it_ro, Ev.rng1_e, Ev.rng2_e, Ev.enum_tup, Ev.enum_ro, Ev.sl_tup, Ev.sl_ro, Ev.ix_tup, Ev.ix_ro, Ev.lst_ro, Ev.cr_rt, Ev.cr_nx, Ev.cl_int_e, Ev.cl_bl_e, Ev.cl_str_e, Ev.cl_non_e, Ev.blw_nil_e, Ev.blw_cons_e, Ev.at_app, Ev.set_at, Ev.at_app1, Ev.set_at1, List.getElem?_cons_zero, List.getElem?_cons_succ, List.set_cons_zero, List.set_cons_succ, List.map_cons, List.map_nil, List.cons_append, List.nil_append, List.length_cons, List.length_nil, List.reduceReplicate, Nat.reduceAdd, Nat.reduceSub, Nat.zero_add, Option.bind_some, Bool.not_true, Bool.not_false, Bool.false_eq_true, Bool.true_and, Bool.and_true, Bool.false_and, Bool.and_false, if_true, if_false, ite_true, ite_false, Int.toNat_natCast, Option.isSome_some, List.append_assoc, $ls,*])
namespace Lk85
open PySem Ev
theorem mapM_map {α : Type} {f : PV → Option PV} {g h : α → PV} : ∀ {xs : List α}, (∀ x ∈ xs, f (g x) = some (h x)) → (xs.map g).mapM f = some (xs.map h)
  | [], _ => rfl
  | x :: xs, e => by
    rw [List.map_cons, List.mapM_cons, e x (.head _), mapM_map fun y hy => e y (.tail _ hy)]
    rfl
theorem blw_vecP {n b : Nat} {f : Nat → Nat} : ∀ x ∈ vecP n f, x.blw b = true := fun x hx => by
  obtain ⟨y, _, rfl⟩ := List.mem_map.mp hx
  rfl
theorem frz_hv {n : Nat} {F : Nat → Nat → Nat} {S : Store} {c : Cell} {m k : Nat} : ∀ {t : Nat}, t ≤ m → frz (k + 1) (S ++ c :: gsV n F m) S.length (hvV n F S.length t) = some (.ro (vecP n (F t)))
  | 0, _ => by rw [hvV]; exact frz_blw (blws_all blw_vecP)
  | t + 1, h => by
    rw [hvV]
    refine frz_rf (by omega) ?_ blw_vecP
    have := gsV_at (n := n) (F := F) (S := S) (X := []) (c := c) (m := m) (t := t) (by omega)
    simpa using this
theorem frz_fs {n : Nat} {F : Nat → Nat → Nat} {S : Store} {m : Nat} : frz 8 (S ++ .lst (fsV n F S.length m) :: gsV n F m) S.length (.rf S.length) = some (.ro ((List.range (m + 1)).map fun t => .ro (vecP n (F t)))) := by
  have h0 : (PV.rf S.length).blw S.length = false := decide_eq_false (by omega)
  unfold frz
  rw [if_neg (by rw [h0]; decide)]
  simp only [at_app]
  rw [fsV, mapM_map (h := fun t => .ro (vecP n (F t))) (fun t ht => frz_hv (by have := List.mem_range.mp ht; omega))]
  rfl
theorem steps_c0 (d : Nat) (lam : Store → Rs PV) {rv : PV} {R : List (List Nat)} {src : List (Nat × Cell)} {S : Store} {n b m : Nat} (rw_ : RwV rv R src S) (hn : R.length = n) (h12 : n ≤ 12) : c__law_steps_0 (cC d lam) [some rv, some (.int b), some (.int m), none, none, none, none, none, none, none] S = .ok (.ro (vecP n (Fst R b 0))) S := by
  have l0 : biV .len [rv] S = .ok (.int n) S := by
    have := rw_.len []
    rw [List.append_nil] at this
    rw [this, hn]
  have sm : small62 (n : Int) = true := small_of (by omega) (by omega)
  have sz : decide ((rngL 0 n).length ≤ sizeLine) = true := big _ (by rw [rngL_length]; omega)
  have cm := comp_map (tg := .nm 7) (elt := dBi .int (lCons (dTst (tCmp .Eq (dVar 7) (dVar 1))) lNil)) (C := cC d lam) (σ := [some rv, some (.int b), some (.int m), none, none, none, none, none, none, none]) (it := ⟨rngL 0 n, []⟩) (S := S) (f := fun v => match v with | .int j => .int (if j = (b : Int) then 1 else 0) | v => v) rfl (rngL 0 n) (fun x hx => by
    obtain ⟨j, hj, rfl⟩ := List.mem_map.mp (show x ∈ (List.range n).map fun (k : Nat) => PV.int (0 + (k : Int)) from hx)
    refine ⟨_, rfl, ?_⟩
    dsimp! [eq_int, decide_eq_true_eq])
  dsimp! [c__law_steps_0, l0, sm, sz, cm]
  simp only [rngL, vecP, List.map_map, Function.comp_def, Fst]
  congr 2
  apply List.map_congr_left
  intro j _
  by_cases h : j = b
  · simp [h]
  · have : ¬ ((j : Int) = (b : Int)) := by omega
    simp [h, this]
theorem law_steps (d : Nat) (lam : Store → Rs PV) {rv : PV} {R : List (List Nat)} {src : List (Nat × Cell)} {S : Store} {n b m : Nat} (rw_ : RwV rv R src S) (hc : isClo rv = false) (hn : R.length = n) (h12 : n ≤ 12) (hR : ∀ l ∈ R, ∀ x ∈ l, x < n) (hm : m ≤ 500) : rn (d + 1) lam "_law_steps" [rv, .int b, .int m] S = .ok (.ro ((List.range (m + 1)).map fun t => .ro (vecP n (Fst R b t)))) S := by
  rw [e1 q_20 rfl (by show (isClo rv || _) = _; rw [hc]; rfl)]
  have sm : small62 (m : Int) = true := small_of (by omega) (by omega)
  obtain ⟨p3, p5, p6, p7, p8, p9, h⟩ := steps2 d lam (b := b) (m := m) rw_ hn h12 hR (it := ⟨rngL 0 m, []⟩) (fun _ => rfl) (rngL 0 m) 0 (by rw [rngL_length]; omega) none none none none none
  rw [rngL_length, Nat.zero_add] at h
  have e1 : fsV n (Fst R b) S.length 0 = [.ro (vecP n (Fst R b 0))] := rfl
  have e2 : gsV n (Fst R b) 0 = [] := rfl
  have e3 : hvV n (Fst R b) S.length 0 = .ro (vecP n (Fst R b 0)) := rfl
  rw [e1, e2, e3] at h
  dsimp! [d__law_steps, cC_call, cC_lam, steps_c0 d lam (m := m) rw_ hn h12, sm, h]
  exact closeV_gen (S1 := S) (oldOk_same _ _) rfl frz_fs
/-! the count, plainly -/
theorem accV_at (hf : Nat → Nat) (c : Nat) : ∀ (R : List (List Nat)) (k : Nat) (f : Nat → Nat), accV hf k R f c = f c + ((List.range R.length).map fun j => (R.getD j []).count c * hf (k + j)).sum
  | [], k, f => by simp [accV]
  | r :: R, k, f => by
    rw [accV, accV_at hf c R (k + 1)]
    simp only [List.length_cons, List.range_succ_eq_map, List.map_cons, List.sum_cons, List.map_map, Function.comp_def, List.getD_cons_zero, List.getD_cons_succ, Nat.add_zero]
    have : ∀ j, k + 1 + j = k + (j + 1) := fun j => by omega
    simp only [this, Nat.succ_eq_add_one]
    omega
theorem Fst_wk {n : Nat} {R : List (List Nat)} (q : Sq n R) (hrow : ∀ i, ∀ x ∈ R.getD i [], x < n) {b : Nat} (hb : b < n) : ∀ (t c : Nat), c < n → Fst R b t c = wk R c t b
  | 0, c, _ => by
    show (if c = b then 1 else 0) = (if b = c then 1 else 0)
    by_cases h : c = b
    · simp [h]
    · have h' : ¬ (b = c) := fun e => h e.symm
      simp [h, h']
  | t + 1, c, hc => by
    rw [wk_last q hrow c hc t b hb]
    show accV (Fst R b t) 0 R (fun _ => 0) c = _
    rw [accV_at, Nat.zero_add, q.len]
    exact sum_congr fun k hk => by rw [Nat.zero_add, Fst_wk q hrow hb t k (List.mem_range.mp hk)]
end Lk85

end
section
set_option Elab.async false
set_option linter.all false
set_option maxRecDepth 100000
set_option maxHeartbeats 1000000
local macro_rules | `(tactic| dsimp! [$ls,*]) => `(tactic| simp only [Ev.dCst_e, Ev.dBin_e, Ev.dBinM_e, Ev.dUn_e, Ev.tCmp_e, Ev.tChn_e, Ev.tAnd_e, Ev.tOr_e, Ev.tNot_e, Ev.tVal_e, Ev.dTst_e, Ev.dAnd_e, Ev.dOr_e, Ev.dNot_e, Ev.dIte_e, Ev.lNil_e, Ev.lCons_e, Ev.dTup_e, Ev.dLst_e, Ev.dIx_e, Ev.pNo_e, Ev.pSome_e, Ev.dSl_e, Ev.dFld_e, Ev.dCall_e, Ev.dCallL_e, Ev.dAct_e, Ev.dMk_e, Ev.dBad_e, Ev.tBad_e, Ev.dIsi_e, Ev.dBi_e, Ev.dMt_e, Ev.iAny_e, Ev.iRng1_e, Ev.iRng2_e, Ev.iEnum_e, Ev.iZip_e, Ev.iRev1_e, Ev.iRev2_e, Ev.tYes_e, Ev.dComp_e, Ev.sNil_e, Ev.sSeq_e, Ev.sSet_e, Ev.sPar_e, Ev.sPut_e, Ev.sFld_e, Ev.sAug_e, Ev.sExpr_e, Ev.sRet_e, Ev.sRetN_e, Ev.sIf_e, Ev.sBrk_e, Ev.sCnt_e, Ev.sRaise_e, Ev.sBad_e, Ev.sTryA_e, Ev.sFor_e, Ev.sWhile_e, Ev.atR_e, Ev.bnd_ok_e, Ev.bnd_exc_e, Ev.guardR_e, Ev.guardS_t_e, Ev.noX_e, Ev.inS_ok_e, Ev.inS_exc_e, Ev.tb_nx_e, Ev.tb_rt_e, Ev.tb_bk_e, Ev.tb_ct_e, Ev.tb_exc_e, Ev.lp_nx_e, Ev.lp_ct_e, Ev.lp_bk_e, Ev.lp_rt_e, Ev.lp_exc_e, Ev.dVar_z, Ev.dVar_s, Ev.dCallL_z, Ev.put_nm, Ev.put_tp, Ev.puts_nil, Ev.puts_cons, Ev.setMany_nil, Ev.setMany_cons, Ev.wipe_nil, Ev.wipe_cons, Ev.startP_e, Ev.sz_0, Ev.sz_1, Ev.sz_2, Ev.sz_3, Ev.sz_4, Ev.sz_5, Ev.sz_6, Ev.sz_7, Ev.sz_8, Ev.sz_9, Ev.sz_10, Ev.sz_11, Ev.sz_12, Ev.sz_13, Ev.sz_14, Ev.sz_15, Ev.sz_16, Ev.sz_17, Ev.sz_18, Ev.sz_19, Ev.sz_20, Ev.add_int, Ev.sub_int, Ev.mul_int, Ev.mod_int, Ev.fdiv_int, Ev.pow_int, Ev.add_tup, Ev.add_ro, Ev.add_str, Ev.neg_int, Ev.ip_add, Ev.ip_sub, Ev.lt_int, Ev.le_int, Ev.gt_int, Ev.ge_int, Ev.eq_e, Ev.ne_e, Ev.is_e, Ev.isn_e, Ev.in_e, Ev.nin_e, Ev.eq_int, Ev.tru_bl, Ev.tru_int, Ev.tru_non, Ev.tru_tup, Ev.tru_ro, Ev.asB_e, Ev.asPart_e, Ev.len_tup, Ev.len_ro, Ev.int_int, Ev.int_bl, Ev.tup_ro, Ev.tup_tup, Ev.sum_ro, Ev.all_ro, Ev.any_ro, Ev.min_int, Ev.max_int, Ev.abs_int, Ev.mk_ro, Ev.mk_rf, Ev.it_tup, Ev.it_ro, Ev.rng1_e, Ev.rng2_e, Ev.enum_tup, Ev.enum_ro, Ev.sl_tup, Ev.sl_ro, Ev.ix_tup, Ev.ix_ro, Ev.lst_ro, Ev.cr_rt, Ev.cr_nx, Ev.cl_int_e, Ev.cl_bl_e, Ev.cl_str_e, Ev.cl_non_e, Ev.blw_nil_e, Ev.blw_cons_e, Ev.at_app, Ev.set_at, Ev.at_app1, Ev.set_at1, List.getElem?_cons_zero, List.getElem?_cons_succ, List.set_cons_zero, List.set_cons_succ, List.map_cons, List.map_nil, List.cons_append, List.nil_append, List.length_cons, List.length_nil, List.reduceReplicate, Nat.reduceAdd, Nat.reduceSub, Nat.zero_add, Option.bind_some, Bool.not_true, Bool.not_false, Bool.false_eq_true, Bool.true_and, Bool.and_true, Bool.false_and, Bool.and_false, if_true, if_false, ite_true, ite_false, Int.toNat_natCast, Option.isSome_some, List.append_assoc, $ls,*])
namespace Lk85
open PySem Ev
/-! ### _law_walks -/
def walkV (w : List Nat) : PV := .tup (intsV w)
def lastN (w : List Nat) : Nat := w.getLastD 0
def ext (R : List (List Nat)) (w : List Nat) : List (List Nat) := (R.getD (lastN w) []).map fun c => w ++ [c]
def itr (R : List (List Nat)) : Nat → List (List Nat) → List (List Nat)
  | 0, ws => ws
  | t + 1, ws => itr R t (ws.flatMap (ext R))
theorem atI_lastN {w : List Nat} (h : w ≠ []) : L2.atI (intsV w) (-1) = some (.int (lastN w)) := by
  refine atI_last ?_
  rw [intsV, List.getLast?_map, lastN, List.getLast?_eq_some_getLast h]
  simp [List.getLastD_eq_getLast?, List.getLast?_eq_some_getLast h]
theorem size_add {a b : Nat} (h : a + b ≤ 1000000) : decide (a + b ≤ sizeLine) = true := big _ h
theorem rowD_lt {n : Nat} {R : List (List Nat)} (q : Sq n R) (i : Nat) : ∀ x ∈ R.getD i [], x < n := by
  intro x hx
  by_cases h : i < R.length
  · rw [List.getD_eq_getElem?_getD, List.getElem?_eq_getElem h] at hx
    exact (q.asc _ (List.getElem_mem h)).lt x hx
  · rw [List.getD_eq_getElem?_getD, List.getElem?_eq_none (by omega)] at hx
    cases hx
theorem rowD_len {n : Nat} {R : List (List Nat)} (q : Sq n R) (i : Nat) : (R.getD i []).length ≤ n := by
  by_cases h : i < R.length
  · rw [List.getD_eq_getElem?_getD, List.getElem?_eq_getElem h]
    exact (q.asc _ (List.getElem_mem h)).len
  · rw [List.getD_eq_getElem?_getD, List.getElem?_eq_none (by omega)]
    simp
theorem walks_c1 (C : Cfg) {n : Nat} {R : List (List Nat)} (q : Sq n R) {w : List Nat} (hw : w ≠ []) (hl : w.length ≤ 1000) (hn : lastN w < n) (s1 s2 s3 s4 s5 s6 o8 : Option PV) (S : Store) : c__law_walks_1 C [some (rowsV R), s1, s2, s3, s4, s5, s6, some (walkV w), o8] S = .ok (.ro ((ext R w).map walkV)) S := by
  have q2 := q.n2
  have hr := rowD_len q (lastN w)
  have ir : ixV (rowsV R) (.int (lastN w)) S = .ok (rowV (R.getD (lastN w) [])) S := ix_rows (by rw [q.len]; exact hn) S
  have iw : ixV (walkV w) (.int (-1)) S = .ok (.int (lastN w)) S := by rw [walkV, ix_tup, atI_lastN hw, atR_e]
  have sz : decide (((R.getD (lastN w) []).map fun (x : Nat) => PV.int (x : Int)).length ≤ sizeLine) = true := big _ (by simp only [List.length_map]; omega)
  have sa : decide ((intsV w).length + 1 ≤ sizeLine) = true := size_add (by simp only [intsV, List.length_map]; omega)
  have cm := comp_mapT (tg := .nm 8) (elt := dBin .Add (dVar 7) (dTup (lCons (dVar 8) lNil))) (C := C) (σ := [some (rowsV R), s1, s2, s3, s4, s5, s6, some (walkV w), none]) (it := ⟨(R.getD (lastN w) []).map fun (x : Nat) => PV.int (x : Int), []⟩) (S := S) (g := fun (x : Nat) => PV.int (x : Int)) (h := fun c => walkV (w ++ [c])) rfl (R.getD (lastN w) []) (fun x hx => by
    refine ⟨_, rfl, ?_⟩
    dsimp! [walkV, sa]
    simp [intsV])
  dsimp! [c__law_walks_1, iw, ir, rowV, sz, cm]
  simp [ext, List.map_map, Function.comp_def]
theorem walks_b0 (C : Cfg) {n k : Nat} {R : List (List Nat)} (q : Sq n R) (hk : 0 < k) (hk2 : k ≤ 1000) {it : ItV} {S : Store} (st : it.still S = true) (s1 s2 s3 s4 s5 o8 : Option PV) : ∀ (ws : List (List Nat)), (∀ w ∈ ws, w.length = k ∧ lastN w < n) → ∀ (xs : List (List Nat)) (o7 : Option PV), xs.length + 12 * ws.length ≤ 100000 →
    ∃ p7, forGo (.nm 7) b__law_walks_0 C it (ws.map walkV) [some (rowsV R), s1, s2, s3, s4, s5, some (.ro (xs.map walkV)), o7, o8] S = .nx [some (rowsV R), s1, s2, s3, s4, s5, some (.ro ((xs ++ ws.flatMap (ext R)).map walkV)), p7, o8] S
  | [], _, xs, o7, _ => ⟨o7, by simp [forGo, st]⟩
  | w :: ws, h, xs, o7, hx => by
    obtain ⟨w1, w2⟩ := h w (.head _)
    have q2 := q.n2
    have hr := rowD_len q (lastN w)
    have el : (ext R w).length ≤ 12 := by simp only [ext, List.length_map]; omega
    simp only [List.length_cons] at hx
    obtain ⟨p7, ih⟩ := walks_b0 C q hk hk2 st s1 s2 s3 s4 s5 o8 ws (fun w hw => h w (.tail _ hw)) (xs ++ ext R w) (some (walkV w)) (by rw [List.length_append]; omega)
    refine ⟨p7, ?_⟩
    have c1 := walks_c1 C q (w := w) (by intro e; subst e; simp at w1; omega) (by omega) w2 s1 s2 s3 s4 s5 (some (.ro (xs.map walkV))) o8 S
    have sa : decide ((xs.map walkV).length + ((ext R w).map walkV).length ≤ sizeLine) = true := size_add (by simp only [List.length_map]; omega)
    have body : b__law_walks_0 C [some (rowsV R), s1, s2, s3, s4, s5, some (.ro (xs.map walkV)), some (walkV w), o8] S = .nx [some (rowsV R), s1, s2, s3, s4, s5, some (.ro ((xs ++ ext R w).map walkV)), some (walkV w), o8] S := by
      dsimp! [b__law_walks_0, c1, sa, List.map_append]
    simp only [List.map_cons, forGo, st, guardS_true, Tg.put, List.set_cons_succ, List.set_cons_zero, body, Rt.lp_nx, ih]
    simp
theorem ext_ok {n k : Nat} {R : List (List Nat)} (q : Sq n R) {ws : List (List Nat)} (h : ∀ w ∈ ws, w.length = k ∧ lastN w < n) : ∀ w ∈ ws.flatMap (ext R), w.length = k + 1 ∧ lastN w < n := by
  intro w hw
  obtain ⟨u, hu, hw⟩ := List.mem_flatMap.mp hw
  obtain ⟨c, hc, rfl⟩ := List.mem_map.mp hw
  refine ⟨by simp [(h u hu).1], ?_⟩
  simp only [lastN, List.getLastD_concat]
  exact rowD_lt q _ c hc
theorem ext_len {n : Nat} {R : List (List Nat)} (q : Sq n R) : ∀ ws : List (List Nat), (ws.flatMap (ext R)).length ≤ 12 * ws.length
  | [] => by simp
  | w :: ws => by
    have q2 := q.n2
    have hr := rowD_len q (lastN w)
    have := ext_len q ws
    simp only [List.flatMap_cons, List.length_append, List.length_cons, ext, List.length_map] at this ⊢
    omega
theorem walks_b1 (C : Cfg) {n : Nat} {R : List (List Nat)} (q : Sq n R) {it : ItV} {S : Store} (st : it.still S = true) (s1 s2 s3 o8 : Option PV) : ∀ (is : List PV) (k : Nat) (ws : List (List Nat)), 0 < k → k + is.length ≤ 1000 → (∀ w ∈ ws, w.length = k ∧ lastN w < n) → ws.length * 12 ^ is.length ≤ 5000 → ∀ (o5 o6 o7 : Option PV),
    ∃ p5 p6 p7, forGo (.nm 5) b__law_walks_1 C it is [some (rowsV R), s1, s2, s3, some (.ro (ws.map walkV)), o5, o6, o7, o8] S = .nx [some (rowsV R), s1, s2, s3, some (.ro ((itr R is.length ws).map walkV)), p5, p6, p7, o8] S ∧ (itr R is.length ws).length ≤ ws.length * 12 ^ is.length ∧ ∀ w ∈ itr R is.length ws, w ≠ []
  | [], k, ws, hk, _, h, _, o5, o6, o7 => ⟨o5, o6, o7, by simp [forGo, st, itr], by simp [itr], fun w hw e => by subst e; have := (h [] hw).1; simp at this; omega⟩
  | i :: is, k, ws, hk, hk2, h, hb, o5, o6, o7 => by
    simp only [List.length_cons] at hk2 hb
    have l1 := ext_len q ws
    have p12 : 12 ≤ 12 ^ (is.length + 1) := by
      rw [Nat.pow_succ]
      have : 1 ≤ 12 ^ is.length := Nat.one_le_pow _ _ (by decide)
      omega
    have wl : ws.length * 12 ≤ 5000 := Nat.le_trans (Nat.mul_le_mul_left _ p12) hb
    have e3 : 12 * ws.length * 12 ^ is.length = ws.length * 12 ^ (is.length + 1) := by
      rw [Nat.pow_succ, Nat.mul_comm 12 ws.length, Nat.mul_assoc, Nat.mul_comm 12]
    have wl2 : (ws.flatMap (ext R)).length * 12 ^ is.length ≤ ws.length * 12 ^ (is.length + 1) := by
      rw [← e3]
      exact Nat.mul_le_mul_right _ l1
    obtain ⟨p7, b0⟩ := walks_b0 C q hk (by omega) (it := ⟨ws.map walkV, []⟩) (S := S) rfl s1 s2 s3 (some (.ro (ws.map walkV))) (some i) o8 ws h [] o7 (by simp; omega)
    obtain ⟨q5, q6, q7, ih, ih2, ih3⟩ := walks_b1 C q st s1 s2 s3 o8 is (k + 1) (ws.flatMap (ext R)) (by omega) (by omega) (ext_ok q h) (by omega) (some i) (some (.ro ((ws.flatMap (ext R)).map walkV))) p7
    refine ⟨q5, q6, q7, ?_, by simp only [List.length_cons, itr]; omega, by simpa only [List.length_cons, itr] using ih3⟩
    simp only [List.map_nil, List.nil_append] at b0
    have body : b__law_walks_1 C [some (rowsV R), s1, s2, s3, some (.ro (ws.map walkV)), some i, o6, o7, o8] S = .nx [some (rowsV R), s1, s2, s3, some (.ro ((ws.flatMap (ext R)).map walkV)), some i, some (.ro ((ws.flatMap (ext R)).map walkV)), p7, o8] S := by
      dsimp! [b__law_walks_1, b0]
    simp only [forGo, st, guardS_true, Tg.put, List.set_cons_succ, List.set_cons_zero, body, Rt.lp_nx, ih, List.length_cons, itr]
theorem law_walks (d : Nat) (lam : Store → Rs PV) {n b g t : Nat} {R : List (List Nat)} (q : Sq n R) (hb : b < n) (ht : t ≤ 3) (S : Store) : rn (d + 1) lam "_law_walks" [rowsV R, .int b, .int g, .int t] S = .ok (.ro (((itr R t [[b]]).filter fun w => decide (lastN w = g)).map walkV)) S := by
  rw [e1 q_21 rfl rfl]
  have sm : small62 (t : Int) = true := small_of (by omega) (by omega)
  have p3 : 12 ^ t ≤ 12 ^ 3 := Nat.pow_le_pow_right (by decide) ht
  obtain ⟨p5, p6, p7, h, hl, hne⟩ := walks_b1 (cC d lam) q (it := ⟨rngL 0 t, []⟩) (S := S) rfl (some (.int b)) (some (.int g)) (some (.int t)) none (rngL 0 t) 1 [[b]] (by decide) (by rw [rngL_length]; omega) (fun w hw => by
    rw [List.mem_singleton.mp hw]; exact ⟨rfl, hb⟩) (by rw [rngL_length]; simp; omega) none none none
  rw [rngL_length] at h hl hne
  have e0 : ([[b]] : List (List Nat)).map walkV = [.tup [.int b]] := rfl
  rw [e0] at h
  have sz : decide (((itr R t [[b]]).map walkV).length ≤ sizeLine) = true := big _ (by simp only [List.length_map]; simp at hl; omega)
  have cm := comp_filT (tg := .nm 7) (cond := tCmp .Eq (dIx (dVar 7) (dUn .USub (dCst (.int 1)))) (dVar 2)) (elt := dVar 7) (C := cC d lam) (σ := [some (rowsV R), some (.int b), some (.int g), some (.int t), some (.ro ((itr R t [[b]]).map walkV)), p5, p6, none, none]) (it := ⟨(itr R t [[b]]).map walkV, []⟩) (S := S) (g := walkV) (h := walkV) (p := fun w => decide (lastN w = g)) rfl (itr R t [[b]]) (fun w hw => by
    refine ⟨_, rfl, ?_, ?_⟩
    · have e : ∀ a b : Nat, decide ((a : Int) = (b : Int)) = decide (a = b) := fun a b => by
        by_cases h : a = b
        · simp [h]
        · simp [h]; omega
      dsimp! [walkV, atI_lastN (hne w hw), eq_int, e]
    · intro _
      dsimp! [])
  dsimp! [d__law_walks, cC_call, cC_lam, sm, h, c__law_walks_0, sz, cm]
  exact closeV_same (blws_all fun x hx => by
    obtain ⟨w, _, rfl⟩ := List.mem_map.mp hx
    exact blws_all fun y hy => by
      obtain ⟨z, _, rfl⟩ := List.mem_map.mp hy
      rfl)
end Lk85

end
section
set_option Elab.async false
set_option linter.all false
set_option maxRecDepth 100000
set_option maxHeartbeats 1000000
local macro_rules | `(tactic| dsimp! [$ls,*]) => `(tactic| simp only [Ev.dCst_e, Ev.dBin_e, Ev.dBinM_e, Ev.dUn_e, Ev.tCmp_e, Ev.tChn_e, Ev.tAnd_e, Ev.tOr_e, Ev.tNot_e, Ev.tVal_e, Ev.dTst_e, Ev.dAnd_e, Ev.dOr_e, Ev.dNot_e, Ev.dIte_e, Ev.lNil_e, Ev.lCons_e, Ev.dTup_e, Ev.dLst_e, Ev.dIx_e, Ev.pNo_e, Ev.pSome_e, Ev.dSl_e, Ev.dFld_e, Ev.dCall_e, Ev.dCallL_e, Ev.dAct_e, Ev.dMk_e, Ev.dBad_e, Ev.tBad_e, Ev.dIsi_e, Ev.dBi_e, Ev.dMt_e, Ev.iAny_e, Ev.iRng1_e, Ev.iRng2_e, Ev.iEnum_e, Ev.iZip_e, Ev.iRev1_e, Ev.iRev2_e, Ev.tYes_e, Ev.dComp_e, Ev.sNil_e, Ev.sSeq_e, Ev.sSet_e, Ev.sPar_e, Ev.sPut_e, Ev.sFld_e, Ev.sAug_e, Ev.sExpr_e, Ev.sRet_e, Ev.sRetN_e, Ev.sIf_e, Ev.sBrk_e, Ev.sCnt_e, Ev.sRaise_e, Ev.sBad_e, Ev.sTryA_e, Ev.sFor_e, Ev.sWhile_e, Ev.atR_e, Ev.bnd_ok_e, Ev.bnd_exc_e, Ev.guardR_e, Ev.guardS_t_e, Ev.noX_e, Ev.inS_ok_e, Ev.inS_exc_e, Ev.tb_nx_e, Ev.tb_rt_e, Ev.tb_bk_e, Ev.tb_ct_e, Ev.tb_exc_e, Ev.lp_nx_e, Ev.lp_ct_e, Ev.lp_bk_e, Ev.lp_rt_e, Ev.lp_exc_e, Ev.dVar_z, Ev.dVar_s, Ev.dCallL_z, Ev.put_nm, Ev.put_tp, Ev.puts_nil, Ev.puts_cons, Ev.setMany_nil, Ev.setMany_cons, Ev.wipe_nil, Ev.wipe_cons, Ev.startP_e, Ev.sz_0, Ev.sz_1, Ev.sz_2, Ev.sz_3, Ev.sz_4, Ev.sz_5, Ev.sz_6, Ev.sz_7, Ev.sz_8, Ev.sz_9, Ev.sz_10, Ev.sz_11, Ev.sz_12, Ev.sz_13, Ev.sz_14, Ev.sz_15, Ev.sz_16, Ev.sz_17, Ev.sz_18, Ev.sz_19, Ev.sz_20, Ev.add_int, Ev.sub_int, Ev.mul_int, Ev.mod_int, Ev.fdiv_int, Ev.pow_int, Ev.add_tup, Ev.add_ro, Ev.add_str, Ev.neg_int, Ev.ip_add, Ev.ip_sub, Ev.lt_int, Ev.le_int, Ev.gt_int, Ev.ge_int, Ev.eq_e, Ev.ne_e, Ev.is_e, Ev.isn_e, Ev.in_e, Ev.nin_e, Ev.eq_int, Ev.tru_bl, Ev.tru_int, Ev.tru_non, Ev.tru_tup, Ev.tru_ro, Ev.asB_e, Ev.asPart_e, Ev.len_tup, Ev.len_ro, Ev.int_int, Ev.int_bl, Ev.tup_ro, Ev.tup_tup, Ev.sum_ro, Ev.all_ro, Ev.any_ro, Ev.min_int, Ev.max_int, Ev.abs_int, Ev.mk_ro, Ev.mk_rf, Ev.it_tup, Ev.it_ro, Ev.rng1_e, Ev.rng2_e, Ev.enum_tup, Ev.enum_ro, Ev.sl_tup, Ev.sl_ro, Ev.ix_tup, Ev.ix_ro, Ev.lst_ro, Ev.cr_rt, Ev.cr_nx, Ev.cl_int_e, Ev.cl_bl_e, Ev.cl_str_e, Ev.cl_non_e, Ev.blw_nil_e, Ev.blw_cons_e, Ev.at_app, Ev.set_at, Ev.at_app1, Ev.set_at1, List.getElem?_cons_zero, List.getElem?_cons_succ, List.set_cons_zero, List.set_cons_succ, List.map_cons, List.map_nil, List.cons_append, List.nil_append, List.length_cons, List.length_nil, List.reduceReplicate, Nat.reduceAdd, Nat.reduceSub, Nat.zero_add, Option.bind_some, Bool.not_true, Bool.not_false, Bool.false_eq_true, Bool.true_and, Bool.and_true, Bool.false_and, Bool.and_false, if_true, if_false, ite_true, ite_false, Int.toNat_natCast, Option.isSome_some, List.append_assoc, $ls,*])
namespace Lk85
open PySem Ev
/-! ### _law_numbered -/
theorem flatEq_int (i j : Int) : flatEq (.int i) (.int j) = (i == j) := rfl
theorem inV_row (c : Nat) (r : List Nat) (S : Store) : inV (.int c) (rowV r) S = .ok (decide (c ∈ r)) S := by
  have h1 : ((r.map fun (x : Nat) => PV.int (x : Int)).all flat) = true := List.all_eq_true.mpr fun x hx => by
    obtain ⟨y, _, rfl⟩ := List.mem_map.mp hx
    rfl
  have h2 : ((r.map fun (x : Nat) => PV.int (x : Int)).any fun y => flatEq y (.int c)) = decide (c ∈ r) := by
    induction r with
    | nil => rfl
    | cons x r ih =>
      rw [List.map_cons, List.any_cons, ih (by
        exact List.all_eq_true.mpr fun x hx => by
          obtain ⟨y, _, rfl⟩ := List.mem_map.mp hx
          rfl), flatEq_int]
      by_cases e : c = x
      · subst e; simp
      · have e' : ¬ ((x : Int) = (c : Int)) := by omega
        simp [e, e']
  simp only [inV, rowV, seqOf, h1, h2, flat, Bool.and_self, guardR_true]
def flipR (n : Nat) (R : List (List Nat)) (k : Nat) : List Nat := (List.range n).filter fun j => decide (k ∈ R.getD j [])
def flipT (n : Nat) (R : List (List Nat)) (t : Nat) : List (List Nat) := (List.range t).map (flipR n R)
theorem num_c0 (C : Cfg) {n k : Nat} {R : List (List Nat)} (q : Sq n R) (s1 s2 s3 s4 s5 s7 s8 s9 s10 s11 : Option PV) (S : Store) : c__law_numbered_0 C [some (rowsV R), s1, s2, s3, s4, s5, some (.int k), s7, s8, s9, s10, s11] S = .ok (.ro ((flipR n R k).map fun (x : Nat) => PV.int (x : Int))) S := by
  have q2 := q.n2
  have l0 : biV .len [rowsV R] S = .ok (.int n) S := by rw [rowsV, len_tup, List.length_map, q.len]
  have sm : small62 (n : Int) = true := small_of (by omega) (by omega)
  have sz : decide ((rngL 0 n).length ≤ sizeLine) = true := big _ (by rw [rngL_length]; omega)
  have cm := comp_filT (tg := .nm 11) (cond := tCmp .In (dVar 6) (dIx (dVar 0) (dVar 11))) (elt := dVar 11) (C := C) (σ := [some (rowsV R), s1, s2, s3, s4, s5, some (.int k), s7, s8, s9, s10, none]) (it := ⟨rngL 0 n, []⟩) (S := S) (g := fun (x : Nat) => PV.int (x : Int)) (h := fun (x : Nat) => PV.int (x : Int)) (p := fun j => decide (k ∈ R.getD j [])) rfl (List.range n) (fun j hj => by
    have hj := List.mem_range.mp hj
    refine ⟨_, rfl, ?_, ?_⟩
    · dsimp! [ix_rows (show j < R.length by rw [q.len]; exact hj), inV_row]
    · intro _
      dsimp! [])
  rw [← rngL_nat] at cm
  dsimp! [c__law_numbered_0, l0, sm, sz, cm, flipR]
theorem num_b2 (C : Cfg) {n : Nat} {R : List (List Nat)} (q : Sq n R) {it : ItV} {S : Store} (st : ∀ S', it.still S' = true) (s1 s2 s3 s4 s7 s8 s9 s10 s11 : Option PV) : ∀ (m t : Nat), t + m ≤ 1000 → ∀ (o6 : Option PV),
    ∃ p6, forGo (.nm 6) b__law_numbered_2 C it ((List.range' t m).map fun (x : Nat) => PV.int (x : Int)) [some (rowsV R), s1, s2, s3, s4, some (.rf S.length), o6, s7, s8, s9, s10, s11] (S ++ [.lst ((flipT n R t).map rowV)]) = .nx [some (rowsV R), s1, s2, s3, s4, some (.rf S.length), p6, s7, s8, s9, s10, s11] (S ++ [.lst ((flipT n R (t + m)).map rowV)])
  | 0, t, _, o6 => ⟨o6, by simp [forGo, st]⟩
  | m + 1, t, h, o6 => by
    obtain ⟨p6, ih⟩ := num_b2 C q (S := S) st s1 s2 s3 s4 s7 s8 s9 s10 s11 m (t + 1) (by omega) (some (.int t))
    refine ⟨p6, ?_⟩
    have a0 : (S ++ [Cell.lst ((flipT n R t).map rowV)])[S.length]? = some (.lst ((flipT n R t).map rowV)) := at_app _ _ _
    have a1 := app_rf a0 (by simp only [List.length_map, flipT, List.length_range]; omega) (rowV (flipR n R t))
    have e : (flipT n R t).map rowV ++ [rowV (flipR n R t)] = (flipT n R (t + 1)).map rowV := by simp [flipT, List.range_succ]
    rw [set_at, e] at a1
    have body : b__law_numbered_2 C [some (rowsV R), s1, s2, s3, s4, some (.rf S.length), some (.int t), s7, s8, s9, s10, s11] (S ++ [.lst ((flipT n R t).map rowV)]) = .nx [some (rowsV R), s1, s2, s3, s4, some (.rf S.length), some (.int t), s7, s8, s9, s10, s11] (S ++ [.lst ((flipT n R (t + 1)).map rowV)]) := by
      simp only [rowV] at a0 a1 ⊢
      dsimp! [b__law_numbered_2, num_c0 C q, lst_rf a0, a1]
    simp only [List.range'_succ, List.map_cons, forGo, st, guardS_true, Tg.put, List.set_cons_succ, List.set_cons_zero, body, Rt.lp_nx, ih]
    rw [show t + 1 + m = t + (m + 1) by omega]
theorem left_ix {n k t : Nat} {F : Nat → Nat → Nat} (h : t < k) (S : Store) : ixV (.ro ((List.range k).map fun t => .ro (vecP n (F t)))) (.int t) S = .ok (.ro (vecP n (F t))) S := by
  have : L2.atI ((List.range k).map fun t => PV.ro (vecP n (F t))) (t : Int) = some (.ro (vecP n (F t))) := atI_nat (by simp [h])
  rw [ix_ro, this, atR_e]
theorem num_b0 (C : Cfg) {n m s t : Nat} {F : Nat → Nat → Nat} (hm : s + (t + 1) = m) {it : ItV} {S : Store} (st : ∀ S', it.still S' = true) {w : List Nat} (hw : w.length ≤ 1000) (s0 s1 s2 s5 s11 : Option PV) : ∀ (r : List Nat) (k : Nat), (∀ j ∈ r, j < n) → k < (r.map (F t)).sum → ∀ (o6 o10 : Option PV),
    ∃ j k' p6 p10, step1 (F t) r k = some (j, k') ∧ j ∈ r ∧ k' < F t j ∧ forGo (.nm 6) b__law_numbered_0 C it (r.map fun (x : Nat) => PV.int (x : Int)) [s0, s1, s2, some (.int m), some (.int k), s5, o6, some (.ro ((List.range (m + 1)).map fun t => .ro (vecP n (F t)))), some (walkV w), some (.int s), o10, s11] S = .nx [s0, s1, s2, some (.int m), some (.int k'), s5, p6, some (.ro ((List.range (m + 1)).map fun t => .ro (vecP n (F t)))), some (walkV (w ++ [j])), some (.int s), p10, s11] S
  | [], k, _, h, o6, o10 => by simp at h
  | j :: r, k, hr, h, o6, o10 => by
    have hj := hr j (.head _)
    have ei : (m : Int) - (s : Int) - 1 = ((t : Nat) : Int) := by omega
    have lx := left_ix (n := n) (F := F) (k := m + 1) (t := t) (by omega)
    have sa : decide ((intsV w).length + 1 ≤ sizeLine) = true := size_add (by simp only [intsV, List.length_map]; omega)
    have ew : intsV w ++ [PV.int (j : Int)] = intsV (w ++ [j]) := by simp [intsV]
    unfold step1
    by_cases c : k < F t j
    · refine ⟨j, k, some (.int j), some (.int (F t j)), by rw [if_pos c], .head _, c, ?_⟩
      have dc : decide ((k : Int) < (F t j : Int)) = true := decide_eq_true (by omega)
      have body : b__law_numbered_0 C [s0, s1, s2, some (.int m), some (.int k), s5, some (.int j), some (.ro ((List.range (m + 1)).map fun t => .ro (vecP n (F t)))), some (walkV w), some (.int s), o10, s11] S = .bk [s0, s1, s2, some (.int m), some (.int k), s5, some (.int j), some (.ro ((List.range (m + 1)).map fun t => .ro (vecP n (F t)))), some (walkV (w ++ [j])), some (.int s), some (.int (F t j)), s11] S := by
        simp only [walkV]
        dsimp! [b__law_numbered_0, ei, lx, ix_ro, vecP_at hj, dc, sa, ew]
      simp only [List.map_cons, forGo, st, guardS_true, Tg.put, List.set_cons_succ, List.set_cons_zero, body, Rt.lp_bk]
    · obtain ⟨j', k', p6, p10, e1, e2, e3, ih⟩ := num_b0 C (n := n) (F := F) (S := S) hm st hw s0 s1 s2 s5 s11 r (k - F t j) (fun y hy => hr y (.tail _ hy)) (by simp at h; omega) (some (.int j)) (some (.int (F t j)))
      refine ⟨j', k', p6, p10, by rw [if_neg c]; exact e1, .tail _ e2, e3, ?_⟩
      have dc : decide ((k : Int) < (F t j : Int)) = false := decide_eq_false (by omega)
      have sb : (k : Int) - (F t j : Int) = ((k - F t j : Nat) : Int) := by omega
      have body : b__law_numbered_0 C [s0, s1, s2, some (.int m), some (.int k), s5, some (.int j), some (.ro ((List.range (m + 1)).map fun t => .ro (vecP n (F t)))), some (walkV w), some (.int s), o10, s11] S = .nx [s0, s1, s2, some (.int m), some (.int ((k - F t j : Nat) : Int)), s5, some (.int j), some (.ro ((List.range (m + 1)).map fun t => .ro (vecP n (F t)))), some (walkV w), some (.int s), some (.int (F t j)), s11] S := by
        simp only [walkV]
        dsimp! [b__law_numbered_0, ei, lx, ix_ro, vecP_at hj, dc, sb]
      simp only [List.map_cons, forGo, st, guardS_true, Tg.put, List.set_cons_succ, List.set_cons_zero, body, Rt.lp_nx, ih]
end Lk85

end
section
set_option Elab.async false
set_option linter.all false
set_option maxRecDepth 100000
set_option maxHeartbeats 1000000
local macro_rules | `(tactic| dsimp! [$ls,*]) => `(tactic| simp only [Ev.dCst_e, Ev.dBin_e, Ev.dBinM_e, Ev.dUn_e, Ev.tCmp_e, Ev.tChn_e, Ev.tAnd_e, Ev.tOr_e, Ev.tNot_e, Ev.tVal_e, Ev.dTst_e, Ev.dAnd_e, Ev.dOr_e, Ev.dNot_e, Ev.dIte_e, Ev.lNil_e, Ev.lCons_e, Ev.dTup_e, Ev.dLst_e, Ev.dIx_e, Ev.pNo_e, Ev.pSome_e, Ev.dSl_e, Ev.dFld_e, Ev.dCall_e, Ev.dCallL_e, Ev.dAct_e, Ev.dMk_e, Ev.dBad_e, Ev.tBad_e, Ev.dIsi_e, Ev.dBi_e, Ev.dMt_e, Ev.iAny_e, Ev.iRng1_e, Ev.iRng2_e, Ev.iEnum_e, Ev.iZip_e, Ev.iRev1_e, Ev.iRev2_e, Ev.tYes_e, Ev.dComp_e, Ev.sNil_e, Ev.sSeq_e, Ev.sSet_e, Ev.sPar_e, Ev.sPut_e, Ev.sFld_e, Ev.sAug_e, Ev.sExpr_e, Ev.sRet_e, Ev.sRetN_e, Ev.sIf_e, Ev.sBrk_e, Ev.sCnt_e, Ev.sRaise_e, Ev.sBad_e, Ev.sTryA_e, Ev.sFor_e, Ev.sWhile_e, Ev.atR_e, Ev.bnd_ok_e, Ev.bnd_exc_e, Ev.guardR_e, Ev.guardS_t_e, Ev.noX_e, Ev.inS_ok_e, Ev.inS_exc_e, Ev.tb_nx_e, Ev.tb_rt_e, Ev.tb_bk_e, Ev.tb_ct_e, Ev.tb_exc_e, Ev.lp_nx_e, Ev.lp_ct_e, Ev.lp_bk_e, Ev.lp_rt_e, Ev.lp_exc_e, Ev.dVar_z, Ev.dVar_s, Ev.dCallL_z, Ev.put_nm, Ev.put_tp, Ev.puts_nil, Ev.puts_cons, Ev.setMany_nil, Ev.setMany_cons, Ev.wipe_nil, Ev.wipe_cons, Ev.startP_e, Ev.sz_0, Ev.sz_1, Ev.sz_2, Ev.sz_3, Ev.sz_4, Ev.sz_5, Ev.sz_6, Ev.sz_7, Ev.sz_8, Ev.sz_9, Ev.sz_10, Ev.sz_11, Ev.sz_12, Ev.sz_13, Ev.sz_14, Ev.sz_15, Ev.sz_16, Ev.sz_17, Ev.sz_18, Ev.sz_19, Ev.sz_20, Ev.add_int, Ev.sub_int, Ev.mul_int, Ev.mod_int, Ev.fdiv_int, Ev.pow_int, Ev.add_tup, Ev.add_ro, Ev.add_str, Ev.neg_int, Ev.ip_add, Ev.ip_sub, Ev.lt_int, Ev.le_int, Ev.gt_int, Ev.ge_int, Ev.eq_e, Ev.ne_e, Ev.is_e, Ev.isn_e, Ev.in_e, Ev.nin_e, Ev.eq_int, Ev.tru_bl, Ev.tru_int, Ev.tru_non, Ev.tru_tup, Ev.tru_ro, Ev.asB_e, Ev.asPart_e, Ev.len_tup, Ev.len_ro, Ev.int_int, Ev.int_bl, Ev.tup_ro, Ev.tup_tup, Ev.sum_ro, Ev.all_ro, Ev.any_ro, Ev.min_int, Ev.max_int, Ev.abs_int, Ev.mk_ro, Ev.mk_rf, Ev.it_tup, Ev.it_ro, Ev.rng1_e, Ev.rng2_e, Ev.enum_tup, Ev.enum_ro, Ev.sl_tup, Ev.sl_ro, Ev.ix_tup, Ev.ix_ro, Ev.lst_ro, Ev.cr_rt, Ev.cr_nx, Ev.cl_int_e, Ev.cl_bl_e, Ev.cl_str_e, Ev.cl_non_e, Ev.blw_nil_e, Ev.blw_cons_e, Ev.at_app, Ev.set_at, Ev.at_app1, Ev.set_at1, List.getElem?_cons_zero, List.getElem?_cons_succ, List.set_cons_zero, List.set_cons_succ, List.map_cons, List.map_nil, List.cons_append, List.nil_append, List.length_cons, List.length_nil, List.reduceReplicate, Nat.reduceAdd, Nat.reduceSub, Nat.zero_add, Option.bind_some, Bool.not_true, Bool.not_false, Bool.false_eq_true, Bool.true_and, Bool.and_true, Bool.false_and, Bool.and_false, if_true, if_false, ite_true, ite_false, Int.toNat_natCast, Option.isSome_some, List.append_assoc, $ls,*])
namespace Lk85
open PySem Ev
theorem vecP_congr {n : Nat} {f h : Nat → Nat} (e : ∀ i, i < n → f i = h i) : vecP n f = vecP n h := List.map_congr_left fun i hi => by rw [e i (List.mem_range.mp hi)]
theorem count_nd : ∀ {l : List Nat} (c : Nat), l.Pairwise (· < ·) → l.count c = if c ∈ l then 1 else 0
  | [], c, _ => rfl
  | x :: l, c, h => by
    obtain ⟨h1, h2⟩ := List.pairwise_cons.mp h
    rw [List.count_cons, count_nd c h2]
    by_cases e : x = c
    · subst e
      have : ¬ (x ∈ l) := fun hm => Nat.lt_irrefl _ (h1 x hm)
      simp [this]
    · have e' : ¬ (c = x) := fun h => e h.symm
      simp [e, e']
theorem flip_asc {n k : Nat} {R : List (List Nat)} : (flipR n R k).Pairwise (· < ·) := List.Pairwise.sublist List.filter_sublist List.pairwise_lt_range
theorem flip_lt {n k : Nat} {R : List (List Nat)} : ∀ x ∈ flipR n R k, x < n := fun x hx => List.mem_range.mp (List.mem_filter.mp hx).1
theorem row_asc {n : Nat} {R : List (List Nat)} (q : Sq n R) (i : Nat) : (R.getD i []).Pairwise (· < ·) := by
  by_cases h : i < R.length
  · rw [List.getD_eq_getElem?_getD, List.getElem?_eq_getElem h]
    exact (q.asc _ (List.getElem_mem h)).asc
  · rw [List.getD_eq_getElem?_getD, List.getElem?_eq_none (by omega)]
    exact .nil
theorem flipT_at {n k : Nat} {R : List (List Nat)} (h : k < n) : (flipT n R n).getD k [] = flipR n R k := by
  simp [flipT, List.getD_eq_getElem?_getD, h]
theorem flip_wk {n : Nat} {R : List (List Nat)} (q : Sq n R) (g : Nat) : ∀ (t c : Nat), c < n → Fst (flipT n R n) g t c = wk R g t c
  | 0, c, _ => rfl
  | t + 1, c, hc => by
    show accV (Fst (flipT n R n) g t) 0 (flipT n R n) (fun _ => 0) c = ((R.getD c []).map fun j => wk R g t j).sum
    have e : ((R.getD c []).map fun j => wk R g t j).sum = ((List.range n).map fun j => (R.getD c []).count j * wk R g t j).sum := sum_cols (fun j => wk R g t j) (R.getD c []) (rowD_lt q c)
    have hl : (flipT n R n).length = n := by simp [flipT]
    rw [accV_at, Nat.zero_add, e, hl]
    refine sum_congr fun j hj => ?_
    have hj := List.mem_range.mp hj
    rw [Nat.zero_add, flipT_at hj, flip_wk q g t j hj, count_nd c flip_asc, count_nd j (row_asc q c)]
    have : (c ∈ flipR n R j) ↔ j ∈ R.getD c [] := by
      simp [flipR, hc]
    by_cases h : j ∈ R.getD c []
    · rw [if_pos h, if_pos (this.mpr h)]
    · rw [if_neg h, if_neg (fun x => h (this.mp x))]
theorem lastN_app (u : List Nat) (i : Nat) : lastN (u ++ [i]) = i := by simp [lastN]
theorem num_b1 (C : Cfg) {n m g : Nat} {R : List (List Nat)} (q : Sq n R) (hm : m ≤ 500) {it : ItV} {S : Store} (st : ∀ S', it.still S' = true) (s1 s2 s5 s11 : Option PV) : ∀ (t s i k : Nat) (u : List Nat), s + t = m → i < n → u.length + t ≤ 900 → k < wk R g t i → ∀ (o6 o9 o10 : Option PV),
    ∃ k' p6 p9 p10, forGo (.nm 9) b__law_numbered_1 C it ((List.range' s t).map fun (x : Nat) => PV.int (x : Int)) [some (rowsV R), s1, s2, some (.int m), some (.int k), s5, o6, some (.ro ((List.range (m + 1)).map fun t => .ro (vecP n (wk R g t)))), some (walkV (u ++ [i])), o9, o10, s11] S = .nx [some (rowsV R), s1, s2, some (.int m), k', s5, p6, some (.ro ((List.range (m + 1)).map fun t => .ro (vecP n (wk R g t)))), some (walkV (u ++ numb R g t i k)), p9, p10, s11] S
  | 0, s, i, k, u, _, _, _, _, o6, o9, o10 => ⟨_, o6, o9, o10, by simp only [List.range'_zero, List.map_nil, forGo, st, guardS_true, numb]; rfl⟩
  | t + 1, s, i, k, u, hs, hi, hu, hk, o6, o9, o10 => by
    obtain ⟨j, k', p6, p10, e1, e2, e3, h0⟩ := num_b0 C (n := n) (F := fun t c => wk R g t c) (m := m) (s := s) (t := t) hs (it := ⟨(R.getD i []).map fun (x : Nat) => PV.int (x : Int), []⟩) (S := S) (fun _ => rfl) (w := u ++ [i]) (by simp; omega) (some (rowsV R)) s1 s2 s5 s11 (R.getD i []) k (rowD_lt q i) hk o6 o10
    obtain ⟨q4, q6, q9, q10, ih⟩ := num_b1 C q hm (g := g) (S := S) st s1 s2 s5 s11 t (s + 1) j k' (u ++ [i]) (by omega) (rowD_lt q i j e2) (by simp; omega) e3 p6 (some (.int s)) p10
    refine ⟨q4, q6, q9, q10, ?_⟩
    have iw : ixV (walkV (u ++ [i])) (.int (-1)) S = .ok (.int i) S := by rw [walkV, ix_tup, atI_lastN (by simp), atR_e, lastN_app]
    have ir : ixV (rowsV R) (.int i) S = .ok (rowV (R.getD i [])) S := ix_rows (by rw [q.len]; exact hi) S
    have e1' : step1 (wk R g t) (R.getD i []) k = some (j, k') := e1
    have nb : numb R g (t + 1) i k = i :: numb R g t j k' := by
      simp only [numb, e1']
    have body : b__law_numbered_1 C [some (rowsV R), s1, s2, some (.int m), some (.int k), s5, o6, some (.ro ((List.range (m + 1)).map fun t => .ro (vecP n (wk R g t)))), some (walkV (u ++ [i])), some (.int s), o10, s11] S = .nx [some (rowsV R), s1, s2, some (.int m), some (.int k'), s5, p6, some (.ro ((List.range (m + 1)).map fun t => .ro (vecP n (wk R g t)))), some (walkV (u ++ [i] ++ [j])), some (.int s), p10, s11] S := by
      dsimp! [b__law_numbered_1, iw, ir, rowV]
      rw [h0]
      dsimp! []
    rw [List.range'_succ]
    simp only [List.map_cons, forGo, st, guardS_true, Tg.put, List.set_cons_succ, List.set_cons_zero, body, Rt.lp_nx, ih, nb]
    simp
theorem law_numbered (d : Nat) (lam : Store → Rs PV) {n b g m k : Nat} {R : List (List Nat)} (q : Sq n R) (hb : b < n) (hm : m ≤ 500) (S : Store) : rn (d + 2) lam "_law_numbered" [rowsV R, .int b, .int g, .int m, .int k] S = .ok (if k < wk R g m b then walkV (numb R g m b k) else .non) S := by
  rw [e1 q_22 rfl rfl]
  have q2 := q.n2
  have l0 : ∀ S, biV .len [rowsV R] S = .ok (.int n) S := fun S => by rw [rowsV, len_tup, List.length_map, q.len]
  have smn : small62 (n : Int) = true := small_of (by omega) (by omega)
  have smm : small62 (m : Int) = true := small_of (by omega) (by omega)
  obtain ⟨p6, h2⟩ := num_b2 (cC (d + 1) lam) q (it := ⟨rngL 0 n, []⟩) (S := S) (fun _ => rfl) (some (.int b)) (some (.int g)) (some (.int m)) (some (.int k)) none none none none none n 0 (by omega) none
  have e0 : (flipT n R 0).map rowV = [] := rfl
  rw [e0, Nat.zero_add, ← List.range_eq_range', ← rngL_nat] at h2
  have fl : (flipT n R n).length = n := by simp [flipT]
  have rw_ : RwV (.rf S.length) (flipT n R n) [(S.length, .lst ((flipT n R n).map rowV))] (S ++ [.lst ((flipT n R n).map rowV)]) := by
    have ha : ∀ X : Store, ((S ++ [Cell.lst ((flipT n R n).map rowV)]) ++ X)[S.length]? = some (.lst ((flipT n R n).map rowV)) := fun X => by
      rw [List.append_assoc]; exact at_app _ _ _
    refine ⟨fun X => by rw [len_rf (ha X), List.length_map], fun X => by simp only [enumV, it_rf (ha X)], fun X => ?_⟩
    simp only [ItV.still, List.all_cons, List.all_nil, Bool.and_true, cellIs_iff]
    exact ha X
  have st := law_steps d lam (b := g) (m := m) rw_ rfl fl (by omega) (fun l hl x hx => by
    obtain ⟨k, _, rfl⟩ := List.mem_map.mp hl
    exact flip_lt x hx) hm
  have lf : ((List.range (m + 1)).map fun t => PV.ro (vecP n (Fst (flipT n R n) g t))) = (List.range (m + 1)).map fun t => .ro (vecP n (wk R g t)) := List.map_congr_left fun t _ => by rw [vecP_congr (flip_wk q g t)]
  rw [lf] at st
  have lx := left_ix (n := n) (F := fun t c => wk R g t c) (k := m + 1) (t := m) (by omega)
  by_cases c : k < wk R g m b
  · obtain ⟨k', q6, q9, q10, h1⟩ := num_b1 (cC (d + 1) lam) q hm (g := g) (it := ⟨rngL 0 m, []⟩) (S := S ++ [.lst ((flipT n R n).map rowV)]) (fun _ => rfl) (some (.int b)) (some (.int g)) (some (.rf S.length)) none m 0 b k [] (by omega) hb (by simp; omega) c p6 none none
    rw [← List.range_eq_range', ← rngL_nat] at h1
    have ew : walkV ([] ++ [b]) = .tup [.int b] := rfl
    rw [ew, List.nil_append] at h1
    have dc : decide ((wk R g m b : Int) ≤ (k : Int)) = false := decide_eq_false (by omega)
    dsimp! [d__law_numbered, cC_call, cC_lam, l0, smn, smm, h2, st, lx, ix_ro, vecP_at hb, dc, h1, if_pos c]
    exact cl_app (blws_all fun y hy => by
      obtain ⟨z, _, rfl⟩ := List.mem_map.mp hy
      rfl)
  · have dc : decide ((wk R g m b : Int) ≤ (k : Int)) = true := decide_eq_true (by omega)
    dsimp! [d__law_numbered, cC_call, cC_lam, l0, smn, smm, h2, st, lx, ix_ro, vecP_at hb, dc, if_neg c]
    exact cl_app rfl
end Lk85

end
section
set_option Elab.async false
set_option linter.all false
set_option maxRecDepth 100000
set_option maxHeartbeats 1000000
local macro_rules | `(tactic| dsimp! [$ls,*]) => `(tactic| simp only [Ev.dCst_e, Ev.dBin_e, Ev.dBinM_e, Ev.dUn_e, Ev.tCmp_e, Ev.tChn_e, Ev.tAnd_e, Ev.tOr_e, Ev.tNot_e, Ev.tVal_e, Ev.dTst_e, Ev.dAnd_e, Ev.dOr_e, Ev.dNot_e, Ev.dIte_e, Ev.lNil_e, Ev.lCons_e, Ev.dTup_e, Ev.dLst_e, Ev.dIx_e, Ev.pNo_e, Ev.pSome_e, Ev.dSl_e, Ev.dFld_e, Ev.dCall_e, Ev.dCallL_e, Ev.dAct_e, Ev.dMk_e, Ev.dBad_e, Ev.tBad_e, Ev.dIsi_e, Ev.dBi_e, Ev.dMt_e, Ev.iAny_e, Ev.iRng1_e, Ev.iRng2_e, Ev.iEnum_e, Ev.iZip_e, Ev.iRev1_e, Ev.iRev2_e, Ev.tYes_e, Ev.dComp_e, Ev.sNil_e, Ev.sSeq_e, Ev.sSet_e, Ev.sPar_e, Ev.sPut_e, Ev.sFld_e, Ev.sAug_e, Ev.sExpr_e, Ev.sRet_e, Ev.sRetN_e, Ev.sIf_e, Ev.sBrk_e, Ev.sCnt_e, Ev.sRaise_e, Ev.sBad_e, Ev.sTryA_e, Ev.sFor_e, Ev.sWhile_e, Ev.atR_e, Ev.bnd_ok_e, Ev.bnd_exc_e, Ev.guardR_e, Ev.guardS_t_e, Ev.noX_e, Ev.inS_ok_e, Ev.inS_exc_e, Ev.tb_nx_e, Ev.tb_rt_e, Ev.tb_bk_e, Ev.tb_ct_e, Ev.tb_exc_e, Ev.lp_nx_e, Ev.lp_ct_e, Ev.lp_bk_e, Ev.lp_rt_e, Ev.lp_exc_e, Ev.dVar_z, Ev.dVar_s, Ev.dCallL_z, Ev.put_nm, Ev.put_tp, Ev.puts_nil, Ev.puts_cons, Ev.setMany_nil, Ev.setMany_cons, Ev.wipe_nil, Ev.wipe_cons, Ev.startP_e, Ev.sz_0, Ev.sz_1, Ev.sz_2, Ev.sz_3, Ev.sz_4, Ev.sz_5, Ev.sz_6, Ev.sz_7, Ev.sz_8, Ev.sz_9, Ev.sz_10, Ev.sz_11, Ev.sz_12, Ev.sz_13, Ev.sz_14, Ev.sz_15, Ev.sz_16, Ev.sz_17, Ev.sz_18, Ev.sz_19, Ev.sz_20, Ev.add_int, Ev.sub_int, Ev.mul_int, Ev.mod_int, Ev.fdiv_int, Ev.pow_int, Ev.add_tup, Ev.add_ro, Ev.add_str, Ev.neg_int, Ev.ip_add, Ev.ip_sub, Ev.lt_int, Ev.le_int, Ev.gt_int, Ev.ge_int, Ev.eq_e, Ev.ne_e, Ev.is_e, Ev.isn_e, Ev.in_e, Ev.nin_e, Ev.eq_int, Ev.tru_bl, Ev.tru_int, Ev.tru_non, Ev.tru_tup, Ev.tru_ro, Ev.asB_e, Ev.asPart_e, Ev.len_tup, Ev.len_ro, Ev.int_int, Ev.int_bl, Ev.tup_ro, Ev.tup_tup, Ev.sum_ro, Ev.all_ro, Ev.any_ro, Ev.min_int, Ev.max_int, Ev.abs_int, Ev.mk_ro, Ev.mk_rf, Ev.it_tup, Ev.it_ro, Ev.rng1_e, Ev.rng2_e, Ev.enum_tup, Ev.enum_ro, Ev.sl_tup, Ev.sl_ro, Ev.ix_tup, Ev.ix_ro, Ev.lst_ro, Ev.cr_rt, Ev.cr_nx, Ev.cl_int_e, Ev.cl_bl_e, Ev.cl_str_e, Ev.cl_non_e, Ev.blw_nil_e, Ev.blw_cons_e, Ev.at_app, Ev.set_at, Ev.at_app1, Ev.set_at1, List.getElem?_cons_zero, List.getElem?_cons_succ, List.set_cons_zero, List.set_cons_succ, List.map_cons, List.map_nil, List.cons_append, List.nil_append, List.length_cons, List.length_nil, List.reduceReplicate, Nat.reduceAdd, Nat.reduceSub, Nat.zero_add, Option.bind_some, Bool.not_true, Bool.not_false, Bool.false_eq_true, Bool.true_and, Bool.and_true, Bool.false_and, Bool.and_false, if_true, if_false, ite_true, ite_false, Int.toNat_natCast, Option.isSome_some, List.append_assoc, decide_true, decide_false, beq_self_eq_true, $ls,*])
namespace Lk85
open PySem Ev
/-! ### _law_is -/
theorem eq_bl (C : Cfg) (a b : Bool) (S : Store) : Ev.eqV C (.bl a) (.bl b) S = .ok (a == b) S := by
  cases a <;> cases b <;> rfl
theorem eq_intb (C : Cfg) (i : Int) (S : Store) : Ev.eqV C (.int i) (.int i) S = .ok true S := by
  rw [eq_int]; simp
/-- plain data, so deep at most -/
def dat : Nat → PV → Prop
  | 0, v => v = .non ∨ ∃ i, v = .int i
  | k + 1, v => (v = .non ∨ ∃ i, v = .int i) ∨ ∃ xs, (v = .tup xs ∨ v = .ro xs) ∧ xs.length ≤ 1000 ∧ ∀ x ∈ xs, dat k x
theorem dat_pl : ∀ {k : Nat} {v : PV}, dat k v → isClo v = false
  | 0, v, h => by rcases h with rfl | ⟨i, rfl⟩ <;> rfl
  | k + 1, v, h => by
    rcases h with (rfl | ⟨i, rfl⟩) | ⟨xs, (rfl | rfl), _⟩ <;> rfl
theorem zipL_self : ∀ xs : List PV, zipL xs xs = xs.map fun x => .tup [x, x]
  | [] => rfl
  | x :: xs => by simp [zipL, zipL_self xs]
theorem law_is0 (d : Nat) (lam : Store → Rs PV) (v : PV) (h : v = .non ∨ ∃ i, v = .int i) (S : Store) : rn (d + 1) lam "_law_is" [v, v] S = .ok (.bl true) S := by
  rw [e1 q_18 rfl (by rcases h with rfl | ⟨i, rfl⟩ <;> rfl)]
  rcases h with rfl | ⟨i, rfl⟩
  · dsimp! [d__law_is, isNone]
  · have a1 : isiX (cC d lam) [.int i, .tup [.ty "tuple", .ty "list"]] S = .ok (.bl false) S := by simp [isiX, qOne, qAll, isExo, isiV, tyOf, isiAny, isiT, kit_int_tup, kit_int_lst]
    have a2 : isiX (cC d lam) [.int i, .ty "bool"] S = .ok (.bl false) S := by simp [isiX, qOne, isiV, tyOf, isiAny, isiT, kit_int_bool]
    have a3 : isiX (cC d lam) [.int i, .ty "int"] S = .ok (.bl true) S := by simp [isiX, qOne, isiV, tyOf, isiAny, isiT, kit_int_int]
    have a4 : isiX (cC d lam) [.int i, .ty "str"] S = .ok (.bl false) S := by simp [isiX, qOne, isiV, tyOf, isiAny, isiT, kit_int_str]
    dsimp! [d__law_is, isNone, a1, a2, a3, a4, eq_bl, eq_intb, beq_self_eq_true]
theorem blsOf_true {α : Type} (xs : List α) : blsOf (xs.map fun _ => PV.bl true) = some (xs.map fun _ => true) := blsOf_map (fun _ => true) xs
theorem all_true {α : Type} (xs : List α) : (xs.map fun _ => true).all id = true := by simp
theorem law_is (lam : Store → Rs PV) : ∀ (k d : Nat) (v : PV), dat k v → ∀ S, rn (d + k + 1) lam "_law_is" [v, v] S = .ok (.bl true) S
  | 0, d, v, h, S => law_is0 d lam v h S
  | k + 1, d, v, h, S => by
    rcases h with h | ⟨xs, h, hl, hx⟩
    · exact law_is0 (d + (k + 1)) lam v h S
    · show rn (d + k + 1 + 1) lam "_law_is" [v, v] S = _
      rw [e1 q_18 rfl (by rcases h with rfl | rfl <;> rfl)]
      have sz : decide ((xs.map fun x => PV.tup [x, x]).length ≤ sizeLine) = true := big _ (by simp only [List.length_map]; omega)
      have cm := fun (s0 s1 : Option PV) => comp_mapT (tg := .tp [.nm 2, .nm 3]) (elt := dCall "_law_is" (lCons (dVar 2) (lCons (dVar 3) lNil))) (C := cC (d + k + 1) lam) (σ := [s0, s1, none, none]) (it := ⟨xs.map fun x => .tup [x, x], []⟩) (S := S) (g := fun x => .tup [x, x]) (h := fun _ => .bl true) rfl xs (fun x hx' => by
        refine ⟨_, rfl, ?_⟩
        dsimp! [cC_call, cC_lam, law_is lam k d x (hx x hx') S])
      have eqn : decide ((xs.length : Int) = (xs.length : Int)) = true := decide_eq_true rfl
      rcases h with rfl | rfl
      · have a1 : isiX (cC (d + k + 1) lam) [.tup xs, .tup [.ty "tuple", .ty "list"]] S = .ok (.bl true) S := by simp [isiX, qOne, qAll, isExo, isiV, tyOf, isiAny, isiT, kit_tup_tup, kit_tup_lst]
        have a2 : isiX (cC (d + k + 1) lam) [.tup xs, .ty "tuple"] S = .ok (.bl true) S := by simp [isiX, qOne, isiV, tyOf, isiAny, isiT, kit_tup_tup]
        have a3 : isiX (cC (d + k + 1) lam) [.tup xs, .ty "list"] S = .ok (.bl false) S := by simp [isiX, qOne, isiV, tyOf, isiAny, isiT, kit_tup_lst]
        have zp : zipV [.tup xs, .tup xs] S = .ok ⟨xs.map fun x => .tup [x, x], []⟩ S := by simp [zipV, itOf, isT, zipL_self]
        dsimp! [d__law_is, isNone, a1, a2, a3, eq_bl, eq_int, eqn, beq_self_eq_true, c__law_is_0, zp, sz, cm, blsOf_true, all_true]
      · have a1 : isiX (cC (d + k + 1) lam) [.ro xs, .tup [.ty "tuple", .ty "list"]] S = .ok (.bl true) S := by simp [isiX, qOne, qAll, isExo, isiV, tyOf, isiAny, isiT, kit_lst_lst, kit_lst_tup]
        have a2 : isiX (cC (d + k + 1) lam) [.ro xs, .ty "tuple"] S = .ok (.bl false) S := by simp [isiX, qOne, isiV, tyOf, isiAny, isiT, kit_lst_tup]
        have a3 : isiX (cC (d + k + 1) lam) [.ro xs, .ty "list"] S = .ok (.bl true) S := by simp [isiX, qOne, isiV, tyOf, isiAny, isiT, kit_lst_lst]
        have zp : zipV [.ro xs, .ro xs] S = .ok ⟨xs.map fun x => .tup [x, x], []⟩ S := by simp [zipV, itOf, isT, zipL_self]
        dsimp! [d__law_is, isNone, a1, a2, a3, eq_bl, eq_int, eqn, beq_self_eq_true, c__law_is_0, zp, sz, cm, blsOf_true, all_true]
end Lk85

end
section
set_option Elab.async false
set_option linter.all false
set_option maxRecDepth 100000
set_option maxHeartbeats 1000000
local macro_rules | `(tactic| dsimp! [$ls,*]) => `(tactic| simp only [Ev.dCst_e, Ev.dBin_e, Ev.dBinM_e, Ev.dUn_e, Ev.tCmp_e, Ev.tChn_e, Ev.tAnd_e, Ev.tOr_e, Ev.tNot_e, Ev.tVal_e, Ev.dTst_e, Ev.dAnd_e, Ev.dOr_e, Ev.dNot_e, Ev.dIte_e, Ev.lNil_e, Ev.lCons_e, Ev.dTup_e, Ev.dLst_e, Ev.dIx_e, Ev.pNo_e, Ev.pSome_e, Ev.dSl_e, Ev.dFld_e, Ev.dCall_e, Ev.dCallL_e, Ev.dAct_e, Ev.dMk_e, Ev.dBad_e, Ev.tBad_e, Ev.dIsi_e, Ev.dBi_e, Ev.dMt_e, Ev.iAny_e, Ev.iRng1_e, Ev.iRng2_e, Ev.iEnum_e, Ev.iZip_e, Ev.iRev1_e, Ev.iRev2_e, Ev.tYes_e, Ev.dComp_e, Ev.sNil_e, Ev.sSeq_e, Ev.sSet_e, Ev.sPar_e, Ev.sPut_e, Ev.sFld_e, Ev.sAug_e, Ev.sExpr_e, Ev.sRet_e, Ev.sRetN_e, Ev.sIf_e, Ev.sBrk_e, Ev.sCnt_e, Ev.sRaise_e, Ev.sBad_e, Ev.sTryA_e, Ev.sFor_e, Ev.sWhile_e, Ev.atR_e, Ev.bnd_ok_e, Ev.bnd_exc_e, Ev.guardR_e, Ev.guardS_t_e, Ev.noX_e, Ev.inS_ok_e, Ev.inS_exc_e, Ev.tb_nx_e, Ev.tb_rt_e, Ev.tb_bk_e, Ev.tb_ct_e, Ev.tb_exc_e, Ev.lp_nx_e, Ev.lp_ct_e, Ev.lp_bk_e, Ev.lp_rt_e, Ev.lp_exc_e, Ev.dVar_z, Ev.dVar_s, Ev.dCallL_z, Ev.put_nm, Ev.put_tp, Ev.puts_nil, Ev.puts_cons, Ev.setMany_nil, Ev.setMany_cons, Ev.wipe_nil, Ev.wipe_cons, Ev.startP_e, Ev.sz_0, Ev.sz_1, Ev.sz_2, Ev.sz_3, Ev.sz_4, Ev.sz_5, Ev.sz_6, Ev.sz_7, Ev.sz_8, Ev.sz_9, Ev.sz_10, Ev.sz_11, Ev.sz_12, Ev.sz_13, Ev.sz_14, Ev.sz_15, Ev.sz_16, Ev.sz_17, Ev.sz_18, Ev.sz_19, Ev.sz_20, Ev.add_int, Ev.sub_int, Ev.mul_int, Ev.mod_int, Ev.fdiv_int, Ev.pow_int, Ev.add_tup, Ev.add_ro, Ev.add_str, Ev.neg_int, Ev.ip_add, Ev.ip_sub, Ev.lt_int, Ev.le_int, Ev.gt_int, Ev.ge_int, Ev.eq_e, Ev.ne_e, Ev.is_e, Ev.isn_e, Ev.in_e, Ev.nin_e, Ev.eq_int, Ev.tru_bl, Ev.tru_int, Ev.tru_non, Ev.tru_tup, Ev.tru_ro, Ev.asB_e, Ev.asPart_e, Ev.len_tup, Ev.len_ro, Ev.int_int, Ev.int_bl, Ev.tup_ro, Ev.tup_tup, Ev.sum_ro, Ev.all_ro, Ev.any_ro, Ev.min_int, Ev.max_int, Ev.abs_int, Ev.mk_ro, Ev.mk_rf, Ev.it_tup, Ev.it_ro, Ev.rng1_e, Ev.rng2_e, Ev.enum_tup, Ev.enum_ro, Ev.sl_tup, Ev.sl_ro, Ev.ix_tup, Ev.ix_ro, Ev.lst_ro, Ev.cr_rt, Ev.cr_nx, Ev.cl_int_e, Ev.cl_bl_e, Ev.cl_str_e, Ev.cl_non_e, Ev.blw_nil_e, Ev.blw_cons_e, Ev.at_app, Ev.set_at, Ev.at_app1, Ev.set_at1, List.getElem?_cons_zero, List.getElem?_cons_succ, List.set_cons_zero, List.set_cons_succ, List.map_cons, List.map_nil, List.cons_append, List.nil_append, List.length_cons, List.length_nil, List.reduceReplicate, Nat.reduceAdd, Nat.reduceSub, Nat.zero_add, Option.bind_some, Bool.not_true, Bool.not_false, Bool.false_eq_true, Bool.true_and, Bool.and_true, Bool.false_and, Bool.and_false, if_true, if_false, ite_true, ite_false, Int.toNat_natCast, Option.isSome_some, List.append_assoc, decide_true, decide_false, beq_self_eq_true, $ls,*])
namespace Lk85
open PySem Ev
/-! ### all walks, plainly -/
def aw (R : List (List Nat)) : Nat → Nat → List (List Nat)
  | 0, i => [[i]]
  | t + 1, i => (R.getD i []).flatMap fun j => (aw R t j).map (i :: ·)
theorem aw_ne {R : List (List Nat)} : ∀ {t i : Nat} {w : List Nat}, w ∈ aw R t i → w ≠ []
  | 0, i, w, h => by rw [List.mem_singleton.mp h]; simp
  | t + 1, i, w, h => by
    obtain ⟨j, _, h⟩ := List.mem_flatMap.mp h
    obtain ⟨u, _, rfl⟩ := List.mem_map.mp h
    simp
theorem last_split {w : List Nat} (h : w ≠ []) : w.dropLast ++ [lastN w] = w := by
  have := List.dropLast_concat_getLast h
  rw [lastN, List.getLastD_eq_getLast?, List.getLast?_eq_some_getLast h]
  exact this
theorem itr_aw {R : List (List Nat)} : ∀ (t : Nat) (ws : List (List Nat)), (∀ w ∈ ws, w ≠ []) → itr R t ws = ws.flatMap fun w => (aw R t (lastN w)).map (w.dropLast ++ ·)
  | 0, ws, h => by
    induction ws with
    | nil => rfl
    | cons w ws ih =>
      have := ih fun u hu => h u (.tail _ hu)
      simp only [itr, aw, List.map_cons, List.map_nil, List.flatMap_cons] at this ⊢
      rw [← this, last_split (h w (.head _))]
      rfl
  | t + 1, ws, h => by
    rw [itr, itr_aw t _ (fun w hw => by
      obtain ⟨u, _, hw⟩ := List.mem_flatMap.mp hw
      obtain ⟨c, _, rfl⟩ := List.mem_map.mp hw
      simp), List.flatMap_assoc]
    induction ws with
    | nil => rfl
    | cons w ws ih =>
      rw [List.flatMap_cons, List.flatMap_cons, ih fun u hu => h u (.tail _ hu)]
      congr 1
      simp only [ext, aw, List.flatMap_map, List.map_flatMap, List.map_map, Function.comp_def, lastN_app, List.dropLast_concat]
      have e : ∀ x : List Nat, w.dropLast ++ lastN w :: x = w ++ x := fun x => by
        have := last_split (h w (.head _))
        rw [show w.dropLast ++ lastN w :: x = (w.dropLast ++ [lastN w]) ++ x by simp, this]
      simp only [e]
def fl (R : List (List Nat)) (g t i : Nat) : List (List Nat) := (aw R t i).filter fun w => decide (lastN w = g)
theorem lastN_cons {i : Nat} {w : List Nat} (h : w ≠ []) : lastN (i :: w) = lastN w := by
  cases w with
  | nil => exact absurd rfl h
  | cons a w => rfl
theorem fl_succ {R : List (List Nat)} {g t i : Nat} : fl R g (t + 1) i = (R.getD i []).flatMap fun j => (fl R g t j).map (i :: ·) := by
  simp only [fl, aw]
  generalize R.getD i [] = r
  induction r with
  | nil => rfl
  | cons j r ih =>
    rw [List.flatMap_cons, List.flatMap_cons, List.filter_append, ih, List.filter_map]
    congr 2
    apply List.filter_congr
    intro w hw
    simp only [Function.comp_def, lastN_cons (aw_ne hw)]
theorem fl_len {R : List (List Nat)} {g : Nat} : ∀ (t i : Nat), (fl R g t i).length = wk R g t i
  | 0, i => by
    by_cases h : i = g <;> simp [fl, aw, wk, lastN, h]
  | t + 1, i => by
    rw [fl_succ, List.length_flatMap]
    show _ = ((R.getD i []).map fun j => wk R g t j).sum
    congr 1
    apply List.map_congr_left
    intro j _
    rw [List.length_map, fl_len t j]
theorem fl_at {R : List (List Nat)} {g : Nat} : ∀ (t i m : Nat), m < wk R g t i → (fl R g t i)[m]? = some (numb R g t i m)
  | 0, i, m, h => by
    by_cases e : i = g
    · have hm : m = 0 := by simp [wk, e] at h; omega
      subst hm
      simp [fl, aw, lastN, e, numb]
    · simp [wk, e] at h
  | t + 1, i, m, h => by
    rw [fl_succ]
    have key : ∀ (r : List Nat) (m : Nat), m < (r.map fun j => wk R g t j).sum → (r.flatMap fun j => (fl R g t j).map (i :: ·))[m]? = (match step1 (wk R g t) r m with | some (j, m') => some (i :: numb R g t j m') | none => none) := by
      intro r
      induction r with
      | nil => intro m h; simp at h
      | cons j r ih =>
        intro m h
        rw [List.flatMap_cons]
        unfold step1
        by_cases c : m < wk R g t j
        · rw [List.getElem?_append_left (by rw [List.length_map, fl_len]; exact c), List.getElem?_map, fl_at t j m c, if_pos c]
          rfl
        · rw [List.getElem?_append_right (by rw [List.length_map, fl_len]; omega), List.length_map, fl_len, ih (m - wk R g t j) (by simp at h; omega), if_neg c]
    obtain ⟨j, m', e, _⟩ := step1_some (c := wk R g t) (r := R.getD i []) (m := m) h
    rw [key _ m h, e]
    simp only [numb, e]
theorem walks_fl {R : List (List Nat)} {g t b : Nat} : ((itr R t [[b]]).filter fun w => decide (lastN w = g)) = fl R g t b := by
  rw [itr_aw t [[b]] (fun w hw => by rw [List.mem_singleton.mp hw]; simp)]
  have : ∀ x : List Nat, ([b] : List Nat).dropLast ++ x = x := fun x => rfl
  simp only [List.flatMap_cons, List.flatMap_nil, List.append_nil, this, List.map_id']
  rfl
end Lk85

end
section
set_option Elab.async false
set_option linter.all false
set_option maxRecDepth 100000
set_option maxHeartbeats 1000000
local macro_rules | `(tactic| dsimp! [$ls,*]) => `(tactic| simp only [Ev.dCst_e, Ev.dBin_e, Ev.dBinM_e, Ev.dUn_e, Ev.tCmp_e, Ev.tChn_e, Ev.tAnd_e, Ev.tOr_e, Ev.tNot_e, Ev.tVal_e, Ev.dTst_e, Ev.dAnd_e, Ev.dOr_e, Ev.dNot_e, Ev.dIte_e, Ev.lNil_e, Ev.lCons_e, Ev.dTup_e, Ev.dLst_e, Ev.dIx_e, Ev.pNo_e, Ev.pSome_e, Ev.dSl_e, Ev.dFld_e, Ev.dCall_e, Ev.dCallL_e, Ev.dAct_e, Ev.dMk_e, Ev.dBad_e, Ev.tBad_e, Ev.dIsi_e, Ev.dBi_e, Ev.dMt_e, Ev.iAny_e, Ev.iRng1_e, Ev.iRng2_e, Ev.iEnum_e, Ev.iZip_e, Ev.iRev1_e, Ev.iRev2_e, Ev.tYes_e, Ev.dComp_e, Ev.sNil_e, Ev.sSeq_e, Ev.sSet_e, Ev.sPar_e, Ev.sPut_e, Ev.sFld_e, Ev.sAug_e, Ev.sExpr_e, Ev.sRet_e, Ev.sRetN_e, Ev.sIf_e, Ev.sBrk_e, Ev.sCnt_e, Ev.sRaise_e, Ev.sBad_e, Ev.sTryA_e, Ev.sFor_e, Ev.sWhile_e, Ev.atR_e, Ev.bnd_ok_e, Ev.bnd_exc_e, Ev.guardR_e, Ev.guardS_t_e, Ev.noX_e, Ev.inS_ok_e, Ev.inS_exc_e, Ev.tb_nx_e, Ev.tb_rt_e, Ev.tb_bk_e, Ev.tb_ct_e, Ev.tb_exc_e, Ev.lp_nx_e, Ev.lp_ct_e, Ev.lp_bk_e, Ev.lp_rt_e, Ev.lp_exc_e, Ev.dVar_z, Ev.dVar_s, Ev.dCallL_z, Ev.put_nm, Ev.put_tp, Ev.puts_nil, Ev.puts_cons, Ev.setMany_nil, Ev.setMany_cons, Ev.wipe_nil, Ev.wipe_cons, Ev.startP_e, Ev.sz_0, Ev.sz_1, Ev.sz_2, Ev.sz_3, Ev.sz_4, Ev.sz_5, Ev.sz_6, Ev.sz_7, Ev.sz_8, Ev.sz_9, Ev.sz_10, Ev.sz_11, Ev.sz_12, Ev.sz_13, Ev.sz_14, Ev.sz_15, Ev.sz_16, Ev.sz_17, Ev.sz_18, Ev.sz_19, Ev.sz_20, Ev.add_int, Ev.sub_int, Ev.mul_int, Ev.mod_int, Ev.fdiv_int, Ev.pow_int, Ev.add_tup, Ev.add_ro, Ev.add_str, Ev.neg_int, Ev.ip_add, Ev.ip_sub, Ev.lt_int, Ev.le_int, Ev.gt_int, Ev.ge_int, Ev.eq_e, Ev.ne_e, Ev.is_e, Ev.isn_e, Ev.in_e, Ev.nin_e, Ev.eq_int, Ev.tru_bl, Ev.tru_int, Ev.tru_non, Ev.tru_tup, Ev.tru_ro, Ev.asB_e, Ev.asPart_e, Ev.len_tup, Ev.len_ro, Ev.int_int, Ev.int_bl, Ev.tup_ro, Ev.tup_tup, Ev.sum_ro, Ev.all_ro, Ev.any_ro, Ev.min_int, Ev.max_int, Ev.abs_int, Ev.mk_ro, Ev.mk_rf, Ev.it_tup, Ev.it_ro, Ev.rng1_e, Ev.rng2_e, Ev.enum_tup, Ev.enum_ro, Ev.sl_tup, Ev.sl_ro, Ev.ix_tup, Ev.ix_ro, Ev.lst_ro, Ev.cr_rt, Ev.cr_nx, Ev.cl_int_e, Ev.cl_bl_e, Ev.cl_str_e, Ev.cl_non_e, Ev.blw_nil_e, Ev.blw_cons_e, Ev.at_app, Ev.set_at, Ev.at_app1, Ev.set_at1, List.getElem?_cons_zero, List.getElem?_cons_succ, List.set_cons_zero, List.set_cons_succ, List.map_cons, List.map_nil, List.cons_append, List.nil_append, List.length_cons, List.length_nil, List.reduceReplicate, Nat.reduceAdd, Nat.reduceSub, Nat.zero_add, Option.bind_some, Bool.not_true, Bool.not_false, Bool.false_eq_true, Bool.true_and, Bool.and_true, Bool.false_and, Bool.and_false, if_true, if_false, ite_true, ite_false, Int.toNat_natCast, Option.isSome_some, List.append_assoc, decide_true, decide_false, beq_self_eq_true, $ls,*])
namespace Lk85
open PySem Ev
/-! ### _law_case_right, its parts -/
theorem any_ro_ok (d : Nat) (lam : Store → Rs PV) {xs : List PV} (h1 : 0 < xs.length) (h2 : xs.length ≤ 1000000) (hb : ∀ x ∈ xs, ∀ b, x.blw b = true) {S : Store} (h : Hd S) :
    ∃ v c, v ∈ xs ∧ Hd (S.set 0 c) ∧ rn (d + 2) lam "_law_any" [.rf 0, .ro xs] S = .ok v (S.set 0 c) := by
  have h0 := Hd_pos h
  obtain ⟨k, S', k1, k2, ⟨c, rfl⟩, k4⟩ := draw_ok d lam (m := xs.length) (by omega) (by omega) h
  have hk : k < xs.length := by omega
  refine ⟨xs[k], c, List.getElem_mem hk, k2, ?_⟩
  rw [e1 q_17 rfl rfl]
  have ia : L2.atI xs (k : Int) = some xs[k] := atI_nat (by simp [hk])
  dsimp! [d__law_any, cC_call, cC_lam, k4, ix_ro, ia]
  have := closeV_gen (S1 := S.set 0 c) (X := []) (v := xs[k]) (w := xs[k]) (oldOk_hd k2 h0) (by simp) (by rw [List.append_nil]; exact frz_blw (hb _ (List.getElem_mem hk) _))
  simpa using this
theorem sumI (f : Nat → Nat) (l : List Nat) : (l.map fun t => (f t : Int)).sum = (((l.map f).sum : Nat) : Int) := by
  rw [← sum_cast, List.map_map]; rfl
def lefV (n m : Nat) (F : Nat → Nat → Nat) : PV := .ro ((List.range (m + 1)).map fun t => .ro (vecP n (F t)))
theorem case_c1 (C : Cfg) {n m g : Nat} {F : Nat → Nat → Nat} (hg : g < n) (hm : m ≤ 500) (s0 s1 s2 s3 s4 s6 s8 s9 s10 s11 s12 s13 s14 s15 s16 s17 s18 s19 s20 : Option PV) (S : Store) : c__law_case_right_1 C [s0, s1, s2, s3, s4, some (.int g), s6, some (lefV n m F), s8, s9, s10, s11, s12, s13, s14, s15, s16, s17, s18, s19, s20] S = .ok (.ro ((List.range (m + 1)).map fun t => .int (F t g))) S := by
  have sz : decide (((List.range (m + 1)).map fun t => PV.ro (vecP n (F t))).length ≤ sizeLine) = true := big _ (by simp only [List.length_map, List.length_range]; omega)
  have cm := comp_mapT (tg := .nm 20) (elt := dIx (dVar 20) (dVar 5)) (C := C) (σ := [s0, s1, s2, s3, s4, some (.int g), s6, some (lefV n m F), s8, s9, s10, s11, s12, s13, s14, s15, s16, s17, s18, s19, none]) (it := ⟨(List.range (m + 1)).map fun t => PV.ro (vecP n (F t)), []⟩) (S := S) (g := fun t => PV.ro (vecP n (F t))) (h := fun t => .int (F t g)) rfl (List.range (m + 1)) (fun x hx => by
    refine ⟨_, rfl, ?_⟩
    dsimp! [ix_ro, vecP_at hg])
  simp only [lefV] at cm ⊢
  dsimp! [c__law_case_right_1, sz, cm]
theorem steps_ok' (d : Nat) (lam : Store → Rs PV) {n b m : Nat} {R : List (List Nat)} (q : Sq n R) (hb : b < n) (hm : m ≤ 500) (S : Store) : rn (d + 1) lam "_law_steps" [rowsV R, .int b, .int m] S = .ok (lefV n m fun t c => wk R c t b) S := by
  have rw_ : RwV (rowsV R) R [] S := ⟨fun X => by rw [rowsV, len_tup, List.length_map], fun X => by rw [rowsV, enum_tup], fun X => rfl⟩
  rw [law_steps d lam rw_ rfl q.len q.n2 (fun l hl x hx => (q.asc l hl).lt x hx) hm]
  have : ((List.range (m + 1)).map fun t => PV.ro (vecP n (Fst R b t))) = (List.range (m + 1)).map fun t => .ro (vecP n (fun c => wk R c t b)) := List.map_congr_left fun t _ => by
    rw [vecP_congr (Fst_wk q (rowD_lt q) hb t)]
  rw [this]
  rfl
theorem lef_ix {n m t : Nat} {F : Nat → Nat → Nat} (h : t ≤ m) (S : Store) : ixV (lefV n m F) (.int t) S = .ok (.ro (vecP n (F t))) S := left_ix (by omega) S
theorem case_c0 (d : Nat) (lam : Store → Rs PV) {n m : Nat} {R : List (List Nat)} (q : Sq n R) (hm : m ≤ 500) (s0 s2 s4 s5 s7 s8 s9 s10 s11 s12 s13 s14 s15 s16 s17 s18 s19 s20 : Option PV) (S : Store) : c__law_case_right_0 (cC (d + 1) lam) [s0, some (rowsV R), s2, some (.int n), s4, s5, some (.int m), s7, s8, s9, s10, s11, s12, s13, s14, s15, s16, s17, s18, s19, s20] S = .ok (.ro ((List.range n).map fun i => .int (wk R i m i))) S := by
  have q2 := q.n2
  have sm : small62 (n : Int) = true := small_of (by omega) (by omega)
  have sz : decide ((rngL 0 n).length ≤ sizeLine) = true := big _ (by rw [rngL_length]; omega)
  have cm := comp_mapT (tg := .nm 18) (elt := dIx (dIx (dCall "_law_steps" (lCons (dVar 1) (lCons (dVar 18) (lCons (dVar 6) lNil)))) (dVar 6)) (dVar 18)) (C := cC (d + 1) lam) (σ := [s0, some (rowsV R), s2, some (.int n), s4, s5, some (.int m), s7, s8, s9, s10, s11, s12, s13, s14, s15, s16, s17, none, s19, s20]) (it := ⟨rngL 0 n, []⟩) (S := S) (g := fun (t : Nat) => PV.int (t : Int)) (h := fun t => .int (wk R t m t)) rfl (List.range n) (fun x hx => by
    have hx := List.mem_range.mp hx
    refine ⟨_, rfl, ?_⟩
    dsimp! [cC_call, cC_lam, steps_ok' d lam q hx hm, lef_ix (Nat.le_refl m), ix_ro, vecP_at hx])
  rw [← rngL_nat] at cm
  dsimp! [c__law_case_right_0, sm, sz, cm]
theorem wk_le {n : Nat} {R : List (List Nat)} (q : Sq n R) (g : Nat) : ∀ t i, wk R g t i ≤ 12 ^ t
  | 0, i => by
    show (if i = g then 1 else 0) ≤ _
    by_cases h : i = g <;> simp [h]
  | t + 1, i => by
    have q2 := q.n2
    show ((R.getD i []).map fun j => wk R g t j).sum ≤ _
    have key : ∀ r : List Nat, (r.map fun j => wk R g t j).sum ≤ r.length * 12 ^ t := by
      intro r
      induction r with
      | nil => simp
      | cons j r ih =>
        have := wk_le q g t j
        simp only [List.map_cons, List.sum_cons, List.length_cons, Nat.add_mul, Nat.one_mul]
        omega
    refine Nat.le_trans (key _) ?_
    rw [Nat.pow_succ, Nat.mul_comm]
    exact Nat.mul_le_mul_left _ (Nat.le_trans (rowD_len q i) q2)
theorem wk_log {n : Nat} {R : List (List Nat)} (q : Sq n R) {g t i : Nat} (ht : t ≤ 500) : ((wk R g t i : Nat) : Int).natAbs.log2 < 2001 := by
  rw [Int.natAbs_natCast]
  by_cases z : wk R g t i = 0
  · rw [z]; decide
  · refine (Nat.log2_lt z).mpr ?_
    refine Nat.lt_of_le_of_lt (wk_le q g t i) ?_
    refine Nat.lt_of_le_of_lt (Nat.pow_le_pow_left (show 12 ≤ 2 ^ 4 by decide) t) ?_
    rw [← Nat.pow_mul]
    exact Nat.pow_lt_pow_right (by decide) (by omega)
theorem case_b0 (d : Nat) (lam : Store → Rs PV) {n m b g far : Nat} {R : List (List Nat)} (q : Sq n R) (hb : b < n) (hg : g < n) (hm : m ≤ 500) (hf : far ≤ m) {it : ItV} {S : Store} (st : ∀ S', it.still S' = true) (s0 s1 s3 s7 s8 s9 s10 s11 s12 s13 s14 s15 s19 s20 : Option PV) : ∀ (is : List Nat) (acc : Nat), (∀ i ∈ is, i < n) → ∀ (o18 : Option PV),
    ∃ p18, forGo (.nm 18) b__law_case_right_0 (cC (d + 4) lam) it (is.map fun (x : Nat) => PV.int (x : Int)) [s0, s1, some (lnk n R), s3, some (.int b), some (.int g), some (.int m), s7, s8, s9, s10, s11, s12, s13, s14, s15, some (.int far), some (.int acc), o18, s19, s20] S = .nx [s0, s1, some (lnk n R), s3, some (.int b), some (.int g), some (.int m), s7, s8, s9, s10, s11, s12, s13, s14, s15, some (.int far), some (.int ((acc + (is.map fun k => wk R k far b * wk R g (m - far) k).sum : Nat) : Int)), p18, s19, s20] S
  | [], acc, _, o18 => ⟨o18, by simp [forGo, st]⟩
  | i :: is, acc, h, o18 => by
    have hi := h i (.head _)
    obtain ⟨p18, ih⟩ := case_b0 d lam q hb hg hm hf (S := S) st s0 s1 s3 s7 s8 s9 s10 s11 s12 s13 s14 s15 s19 s20 is (acc + wk R i far b * wk R g (m - far) i) (fun j hj => h j (.tail _ hj)) (some (.int i))
    refine ⟨p18, ?_⟩
    have m1 := many_ok d lam q S hb hi (show far ≤ 500 by omega)
    have m2 := many_ok d lam q S hi hg (show m - far ≤ 500 by omega)
    have es : (m : Int) - (far : Int) = ((m - far : Nat) : Int) := by omega
    have mo : mulOk (wk R i far b : Nat) (wk R g (m - far) i : Nat) = true := by
      have h1 := wk_log q (g := i) (i := b) (show far ≤ 500 by omega)
      have h2 := wk_log q (g := g) (i := i) (show m - far ≤ 500 by omega)
      unfold mulOk
      rw [decide_eq_true (show _ + _ < 1000000 by omega)]
      rfl
    have ea : (acc : Int) + (wk R i far b : Int) * (wk R g (m - far) i : Int) = ((acc + wk R i far b * wk R g (m - far) i : Nat) : Int) := by
      rw [Int.natCast_add, Int.natCast_mul]
    have body : b__law_case_right_0 (cC (d + 4) lam) [s0, s1, some (lnk n R), s3, some (.int b), some (.int g), some (.int m), s7, s8, s9, s10, s11, s12, s13, s14, s15, some (.int far), some (.int acc), some (.int i), s19, s20] S = .nx [s0, s1, some (lnk n R), s3, some (.int b), some (.int g), some (.int m), s7, s8, s9, s10, s11, s12, s13, s14, s15, some (.int far), some (.int ((acc + wk R i far b * wk R g (m - far) i : Nat) : Int)), some (.int i), s19, s20] S := by
      dsimp! [b__law_case_right_0, cC_call, cC_lam, m1, m2, es, mo, ea]
    simp only [List.map_cons, forGo, st, guardS_true, Tg.put, List.set_cons_succ, List.set_cons_zero, body, Rt.lp_nx, ih, List.sum_cons, Nat.add_assoc]
end Lk85

end
section
set_option Elab.async false
set_option linter.all false
set_option maxRecDepth 100000
set_option maxHeartbeats 1000000
local macro_rules | `(tactic| dsimp! [$ls,*]) => `(tactic| simp only [Ev.dCst_e, Ev.dBin_e, Ev.dBinM_e, Ev.dUn_e, Ev.tCmp_e, Ev.tChn_e, Ev.tAnd_e, Ev.tOr_e, Ev.tNot_e, Ev.tVal_e, Ev.dTst_e, Ev.dAnd_e, Ev.dOr_e, Ev.dNot_e, Ev.dIte_e, Ev.lNil_e, Ev.lCons_e, Ev.dTup_e, Ev.dLst_e, Ev.dIx_e, Ev.pNo_e, Ev.pSome_e, Ev.dSl_e, Ev.dFld_e, Ev.dCall_e, Ev.dCallL_e, Ev.dAct_e, Ev.dMk_e, Ev.dBad_e, Ev.tBad_e, Ev.dIsi_e, Ev.dBi_e, Ev.dMt_e, Ev.iAny_e, Ev.iRng1_e, Ev.iRng2_e, Ev.iEnum_e, Ev.iZip_e, Ev.iRev1_e, Ev.iRev2_e, Ev.tYes_e, Ev.dComp_e, Ev.sNil_e, Ev.sSeq_e, Ev.sSet_e, Ev.sPar_e, Ev.sPut_e, Ev.sFld_e, Ev.sAug_e, Ev.sExpr_e, Ev.sRet_e, Ev.sRetN_e, Ev.sIf_e, Ev.sBrk_e, Ev.sCnt_e, Ev.sRaise_e, Ev.sBad_e, Ev.sTryA_e, Ev.sFor_e, Ev.sWhile_e, Ev.atR_e, Ev.bnd_ok_e, Ev.bnd_exc_e, Ev.guardR_e, Ev.guardS_t_e, Ev.noX_e, Ev.inS_ok_e, Ev.inS_exc_e, Ev.tb_nx_e, Ev.tb_rt_e, Ev.tb_bk_e, Ev.tb_ct_e, Ev.tb_exc_e, Ev.lp_nx_e, Ev.lp_ct_e, Ev.lp_bk_e, Ev.lp_rt_e, Ev.lp_exc_e, Ev.dVar_z, Ev.dVar_s, Ev.dCallL_z, Ev.put_nm, Ev.put_tp, Ev.puts_nil, Ev.puts_cons, Ev.setMany_nil, Ev.setMany_cons, Ev.wipe_nil, Ev.wipe_cons, Ev.startP_e, Ev.sz_0, Ev.sz_1, Ev.sz_2, Ev.sz_3, Ev.sz_4, Ev.sz_5, Ev.sz_6, Ev.sz_7, Ev.sz_8, Ev.sz_9, Ev.sz_10, Ev.sz_11, Ev.sz_12, Ev.sz_13, Ev.sz_14, Ev.sz_15, Ev.sz_16, Ev.sz_17, Ev.sz_18, Ev.sz_19, Ev.sz_20, Ev.add_int, Ev.sub_int, Ev.mul_int, Ev.mod_int, Ev.fdiv_int, Ev.pow_int, Ev.add_tup, Ev.add_ro, Ev.add_str, Ev.neg_int, Ev.ip_add, Ev.ip_sub, Ev.lt_int, Ev.le_int, Ev.gt_int, Ev.ge_int, Ev.eq_e, Ev.ne_e, Ev.is_e, Ev.isn_e, Ev.in_e, Ev.nin_e, Ev.eq_int, Ev.tru_bl, Ev.tru_int, Ev.tru_non, Ev.tru_tup, Ev.tru_ro, Ev.asB_e, Ev.asPart_e, Ev.len_tup, Ev.len_ro, Ev.int_int, Ev.int_bl, Ev.tup_ro, Ev.tup_tup, Ev.sum_ro, Ev.all_ro, Ev.any_ro, Ev.min_int, Ev.max_int, Ev.abs_int, Ev.mk_ro, Ev.mk_rf, Ev.it_tup, Ev.it_ro, Ev.rng1_e, Ev.rng2_e, Ev.enum_tup, Ev.enum_ro, Ev.sl_tup, Ev.sl_ro, Ev.ix_tup, Ev.ix_ro, Ev.lst_ro, Ev.cr_rt, Ev.cr_nx, Ev.cl_int_e, Ev.cl_bl_e, Ev.cl_str_e, Ev.cl_non_e, Ev.blw_nil_e, Ev.blw_cons_e, Ev.at_app, Ev.set_at, Ev.at_app1, Ev.set_at1, List.getElem?_cons_zero, List.getElem?_cons_succ, List.set_cons_zero, List.set_cons_succ, List.map_cons, List.map_nil, List.cons_append, List.nil_append, List.length_cons, List.length_nil, List.reduceReplicate, Nat.reduceAdd, Nat.reduceSub, Nat.zero_add, Option.bind_some, Bool.not_true, Bool.not_false, Bool.false_eq_true, Bool.true_and, Bool.and_true, Bool.false_and, Bool.and_false, if_true, if_false, ite_true, ite_false, Int.toNat_natCast, Option.isSome_some, List.append_assoc, decide_true, decide_false, beq_self_eq_true, $ls,*])
namespace Lk85
open PySem Ev
def numV (R : List (List Nat)) (g m b k : Nat) : PV := if k < wk R g m b then walkV (numb R g m b k) else .non
theorem numb_len {R : List (List Nat)} {g : Nat} : ∀ t i k, (numb R g t i k).length ≤ t + 1
  | 0, _, _ => by simp [numb]
  | t + 1, i, k => by
    unfold numb
    cases e : step1 (wk R g t) (R.getD i []) k with
    | none => simp
    | some p =>
      obtain ⟨j, m'⟩ := p
      have := numb_len (R := R) (g := g) t j m'
      simp only [List.length_cons]
      omega
theorem numV_dat {R : List (List Nat)} {g m b k : Nat} (hm : m ≤ 500) : dat 1 (numV R g m b k) := by
  unfold numV
  by_cases h : k < wk R g m b
  · rw [if_pos h]
    refine .inr ⟨_, .inl rfl, ?_, ?_⟩
    · have := numb_len (R := R) (g := g) m b k
      simp only [intsV, List.length_map]; omega
    · intro x hx
      obtain ⟨y, _, rfl⟩ := List.mem_map.mp hx
      exact .inr ⟨_, rfl⟩
  · rw [if_neg h]; exact .inl (.inl rfl)
theorem case_b2 (d : Nat) (lam : Store → Rs PV) {n m b g : Nat} {R : List (List Nat)} (q : Sq n R) (hb : b < n) (hg : g < n) (hm : m ≤ 500) {it : ItV} {S : Store} (st : ∀ S', it.still S' = true) (s0 s3 s7 s8 s9 s10 s11 s12 s14 s15 s16 s17 s18 s20 : Option PV) : ∀ (xs : List Int) (o13 o19 : Option PV),
    ∃ p13 p19, forGo (.nm 13) b__law_case_right_2 (cC (d + 4) lam) it (xs.map PV.int) [s0, some (rowsV R), some (lnk n R), s3, some (.int b), some (.int g), some (.int m), s7, s8, s9, s10, s11, s12, o13, s14, s15, s16, s17, s18, o19, s20] S = .nx [s0, some (rowsV R), some (lnk n R), s3, some (.int b), some (.int g), some (.int m), s7, s8, s9, s10, s11, s12, p13, s14, s15, s16, s17, s18, p19, s20] S
  | [], o13, o19 => ⟨o13, o19, by simp [forGo, st]⟩
  | x :: xs, o13, o19 => by
    by_cases h : 0 ≤ x
    · obtain ⟨k, rfl⟩ := Int.eq_ofNat_of_zero_le h
      obtain ⟨p13, p19, ih⟩ := case_b2 d lam q hb hg hm (S := S) st s0 s3 s7 s8 s9 s10 s11 s12 s14 s15 s16 s17 s18 s20 xs (some (.int k)) (some (numV R g m b k))
      refine ⟨p13, p19, ?_⟩
      have n1 : rn (d + 4) lam "_law_numbered" [rowsV R, .int b, .int g, .int m, .int k] S = .ok (numV R g m b k) S := law_numbered (d + 2) lam q hb hm S
      have n2 : rn (d + 4) lam "walk_numbered" [lnk n R, .int b, .int g, .int m, .int k] S = .ok (numV R g m b k) S := wn_ok d lam q S hb hg hm
      have n3 : rn (d + 4) lam "_law_is" [numV R g m b k, numV R g m b k] S = .ok (.bl true) S := law_is lam 1 (d + 2) _ (numV_dat hm) S
      have dc : decide ((0 : Int) ≤ (k : Int)) = true := decide_eq_true h
      have body : b__law_case_right_2 (cC (d + 4) lam) [s0, some (rowsV R), some (lnk n R), s3, some (.int b), some (.int g), some (.int m), s7, s8, s9, s10, s11, s12, some (.int k), s14, s15, s16, s17, s18, o19, s20] S = .nx [s0, some (rowsV R), some (lnk n R), s3, some (.int b), some (.int g), some (.int m), s7, s8, s9, s10, s11, s12, some (.int k), s14, s15, s16, s17, s18, some (numV R g m b k), s20] S := by
        dsimp! [b__law_case_right_2, cC_call, cC_lam, n1, n2, n3, dc]
      simp only [List.map_cons, forGo, st, guardS_true, Tg.put, List.set_cons_succ, List.set_cons_zero, body, Rt.lp_nx, ih]
    · obtain ⟨p13, p19, ih⟩ := case_b2 d lam q hb hg hm (S := S) st s0 s3 s7 s8 s9 s10 s11 s12 s14 s15 s16 s17 s18 s20 xs (some (.int x)) o19
      refine ⟨p13, p19, ?_⟩
      have dc : decide ((0 : Int) ≤ x) = false := decide_eq_false h
      have body : b__law_case_right_2 (cC (d + 4) lam) [s0, some (rowsV R), some (lnk n R), s3, some (.int b), some (.int g), some (.int m), s7, s8, s9, s10, s11, s12, some (.int x), s14, s15, s16, s17, s18, o19, s20] S = .nx [s0, some (rowsV R), some (lnk n R), s3, some (.int b), some (.int g), some (.int m), s7, s8, s9, s10, s11, s12, some (.int x), s14, s15, s16, s17, s18, o19, s20] S := by
        dsimp! [b__law_case_right_2, cC_call, cC_lam, dc]
      simp only [List.map_cons, forGo, st, guardS_true, Tg.put, List.set_cons_succ, List.set_cons_zero, body, Rt.lp_nx, ih]
theorem case_b1 (d : Nat) (lam : Store → Rs PV) {n m b g : Nat} {R : List (List Nat)} (q : Sq n R) (hb : b < n) (hg : g < n) (hm : m ≤ 500) {it : ItV} {S : Store} (st : ∀ S', it.still S' = true) (s0 s1 s3 s6 s7 s8 s9 s10 s11 s12 s16 s17 s18 s19 s20 : Option PV) : ∀ (ws : List (List Nat)) (k : Nat), (∀ j w, ws[j]? = some w → k + j < wk R g m b ∧ numb R g m b (k + j) = w) → ∀ (o13 o15 : Option PV),
    ∃ p13 p15, forGo (.tp [.nm 13, .nm 15]) b__law_case_right_1 (cC (d + 4) lam) it (enumL k (ws.map walkV)) [s0, s1, some (lnk n R), s3, some (.int b), some (.int g), s6, s7, s8, s9, s10, s11, s12, o13, some (.int m), o15, s16, s17, s18, s19, s20] S = .nx [s0, s1, some (lnk n R), s3, some (.int b), some (.int g), s6, s7, s8, s9, s10, s11, s12, p13, some (.int m), p15, s16, s17, s18, s19, s20] S
  | [], k, _, o13, o15 => ⟨o13, o15, by simp [forGo, st, enumL]⟩
  | w :: ws, k, h, o13, o15 => by
    obtain ⟨h1, h2⟩ := h 0 w rfl
    obtain ⟨p13, p15, ih⟩ := case_b1 d lam q hb hg hm (S := S) st s0 s1 s3 s6 s7 s8 s9 s10 s11 s12 s16 s17 s18 s19 s20 ws (k + 1) (fun j u e => by
      have := h (j + 1) u e
      rw [show k + 1 + j = k + (j + 1) by omega]; exact this) (some (.int k)) (some (walkV w))
    refine ⟨p13, p15, ?_⟩
    have ev : numV R g m b k = walkV w := by
      unfold numV
      rw [if_pos (by omega)]
      rw [Nat.add_zero] at h2
      rw [h2]
    have n2 : rn (d + 4) lam "walk_numbered" [lnk n R, .int b, .int g, .int m, .int k] S = .ok (walkV w) S := by rw [← ev]; exact wn_ok d lam q S hb hg hm
    have n3 : rn (d + 4) lam "_law_is" [walkV w, walkV w] S = .ok (.bl true) S := law_is lam 1 (d + 2) _ (by rw [← ev]; exact numV_dat hm) S
    have body : b__law_case_right_1 (cC (d + 4) lam) [s0, s1, some (lnk n R), s3, some (.int b), some (.int g), s6, s7, s8, s9, s10, s11, s12, some (.int k), some (.int m), some (walkV w), s16, s17, s18, s19, s20] S = .nx [s0, s1, some (lnk n R), s3, some (.int b), some (.int g), s6, s7, s8, s9, s10, s11, s12, some (.int k), some (.int m), some (walkV w), s16, s17, s18, s19, s20] S := by
      dsimp! [b__law_case_right_1, cC_call, cC_lam, n2, n3]
    simp only [List.map_cons, enumL, forGo, st, guardS_true, Tg.put, Tg.puts, Option.bind_some, List.set_cons_succ, List.set_cons_zero, body, Rt.lp_nx, ih]
theorem cut8 (xs : List PV) : cutP xs none (some 8) = xs.take (min 8 xs.length) := by
  have e : HT.sIx xs.length xs.length (some 8) = min 8 xs.length := HT.sIx_nat _ _ 8
  simp only [cutP, e, HT.sIx_none, List.drop_zero, Nat.sub_zero]
end Lk85

end
section
set_option Elab.async false
set_option linter.all false
set_option maxRecDepth 100000
set_option maxHeartbeats 1000000
local macro_rules | `(tactic| dsimp! [$ls,*]) => `(tactic| simp only [Ev.dCst_e, Ev.dBin_e, Ev.dBinM_e, Ev.dUn_e, Ev.tCmp_e, Ev.tChn_e, Ev.tAnd_e, Ev.tOr_e, Ev.tNot_e, Ev.tVal_e, Ev.dTst_e, Ev.dAnd_e, Ev.dOr_e, Ev.dNot_e, Ev.dIte_e, Ev.lNil_e, Ev.lCons_e, Ev.dTup_e, Ev.dLst_e, Ev.dIx_e, Ev.pNo_e, Ev.pSome_e, Ev.dSl_e, Ev.dFld_e, Ev.dCall_e, Ev.dCallL_e, Ev.dAct_e, Ev.dMk_e, Ev.dBad_e, Ev.tBad_e, Ev.dIsi_e, Ev.dBi_e, Ev.dMt_e, Ev.iAny_e, Ev.iRng1_e, Ev.iRng2_e, Ev.iEnum_e, Ev.iZip_e, Ev.iRev1_e, Ev.iRev2_e, Ev.tYes_e, Ev.dComp_e, Ev.sNil_e, Ev.sSeq_e, Ev.sSet_e, Ev.sPar_e, Ev.sPut_e, Ev.sFld_e, Ev.sAug_e, Ev.sExpr_e, Ev.sRet_e, Ev.sRetN_e, Ev.sIf_e, Ev.sBrk_e, Ev.sCnt_e, Ev.sRaise_e, Ev.sBad_e, Ev.sTryA_e, Ev.sFor_e, Ev.sWhile_e, Ev.atR_e, Ev.bnd_ok_e, Ev.bnd_exc_e, Ev.guardR_e, Ev.guardS_t_e, Ev.noX_e, Ev.inS_ok_e, Ev.inS_exc_e, Ev.tb_nx_e, Ev.tb_rt_e, Ev.tb_bk_e, Ev.tb_ct_e, Ev.tb_exc_e, Ev.lp_nx_e, Ev.lp_ct_e, Ev.lp_bk_e, Ev.lp_rt_e, Ev.lp_exc_e, Ev.dVar_z, Ev.dVar_s, Ev.dCallL_z, Ev.put_nm, Ev.put_tp, Ev.puts_nil, Ev.puts_cons, Ev.setMany_nil, Ev.setMany_cons, Ev.wipe_nil, Ev.wipe_cons, Ev.startP_e, Ev.sz_0, Ev.sz_1, Ev.sz_2, Ev.sz_3, Ev.sz_4, Ev.sz_5, Ev.sz_6, Ev.sz_7, Ev.sz_8, Ev.sz_9, Ev.sz_10, Ev.sz_11, Ev.sz_12, Ev.sz_13, Ev.sz_14, Ev.sz_15, Ev.sz_16, Ev.sz_17, Ev.sz_18, Ev.sz_19, Ev.sz_20, Ev.add_int, Ev.sub_int, Ev.mul_int, Ev.mod_int, Ev.fdiv_int, Ev.pow_int, Ev.add_tup, Ev.add_ro, Ev.add_str, Ev.neg_int, Ev.ip_add, Ev.ip_sub, Ev.lt_int, Ev.le_int, Ev.gt_int, Ev.ge_int, Ev.eq_e, Ev.ne_e, Ev.is_e, Ev.isn_e, Ev.in_e, Ev.nin_e, Ev.eq_int, Ev.tru_bl, Ev.tru_int, Ev.tru_non, Ev.tru_tup, Ev.tru_ro, Ev.asB_e, Ev.asPart_e, Ev.len_tup, Ev.len_ro, Ev.int_int, Ev.int_bl, Ev.tup_ro, Ev.tup_tup, Ev.sum_ro, Ev.all_ro, Ev.any_ro, Ev.min_int, Ev.max_int, Ev.abs_int, Ev.mk_ro, Ev.mk_rf, Ev.it_tup, Ev.it_ro, Ev.rng1_e, Ev.rng2_e, Ev.enum_tup, Ev.enum_ro, Ev.sl_tup, Ev.sl_ro, Ev.ix_tup, Ev.ix_ro, Ev.lst_ro, Ev.cr_rt, Ev.cr_nx, Ev.cl_int_e, Ev.cl_bl_e, Ev.cl_str_e, Ev.cl_non_e, Ev.blw_nil_e, Ev.blw_cons_e, Ev.at_app, Ev.set_at, Ev.at_app1, Ev.set_at1, List.getElem?_cons_zero, List.getElem?_cons_succ, List.set_cons_zero, List.set_cons_succ, List.map_cons, List.map_nil, List.cons_append, List.nil_append, List.length_cons, List.length_nil, List.reduceReplicate, Nat.reduceAdd, Nat.reduceSub, Nat.zero_add, Option.bind_some, Bool.not_true, Bool.not_false, Bool.false_eq_true, Bool.true_and, Bool.and_true, Bool.false_and, Bool.and_false, if_true, if_false, ite_true, ite_false, Int.toNat_natCast, Option.isSome_some, List.append_assoc, decide_true, decide_false, beq_self_eq_true, $ls,*])
namespace Lk85
open PySem Ev
theorem case_right (d : Nat) (lam : Store → Rs PV) {S : Store} (h : Hd S) : ∃ c, Hd (S.set 0 c) ∧ rn (d + 6) lam "_law_case_right" [.rf 0] S = .ok (.bl true) (S.set 0 c) := by
  have h0 := Hd_pos h
  obtain ⟨n, R, c1, n6, q, h1, e1_⟩ := square_ok (d + 3) lam (mo := 6) (by decide) (by decide) h
  have q1 := q.n1; have q2 := q.n2
  have e1' : rn (d + 5) lam "_law_square" [.rf 0, .int 6] S = .ok (rowsV R) (S.set 0 c1) := e1_
  have good : Good n R := ⟨q1, q2, by rw [q.len]; exact q1, by rw [q.len]; exact q2, q.asc⟩
  have lk : ∀ S, mkV (cC (d + 5) lam) "Links" "Links.__init__" false [.int n, rowsV R] S = .ok (lnk n R) S := fun S => links_mk (d + 1) lam n R good S
  have ln : ∀ S, biV .len [rowsV R] S = .ok (.int n) S := fun S => by rw [rowsV, len_tup, List.length_map, q.len]
  obtain ⟨b, S2, hb, h2, ⟨c2, rfl⟩, d1_⟩ := draw_ok (d + 4) lam (m := n) (by omega) (by omega) h1
  rw [set_set] at h2 d1_
  have d1 : rn (d + 5) lam "_law_draw" [.rf 0, .int n] (S.set 0 c1) = .ok (.int b) (S.set 0 c2) := d1_
  obtain ⟨g, S3, hg, h3, ⟨c3, rfl⟩, d2_⟩ := draw_ok (d + 4) lam (m := n) (by omega) (by omega) h2
  rw [set_set] at h3 d2_
  have d2 : rn (d + 5) lam "_law_draw" [.rf 0, .int n] (S.set 0 c2) = .ok (.int g) (S.set 0 c3) := d2_
  have hb : b < n := by omega
  have hg : g < n := by omega
  obtain ⟨w, S4, hw, h4, ⟨c4, rfl⟩, d3_⟩ := draw_ok (d + 4) lam (m := 4) (by decide) (by decide) h3
  rw [set_set] at h4 d3_
  have d3 : rn (d + 5) lam "_law_draw" [.rf 0, .int 4] (S.set 0 c3) = .ok (.int w) (S.set 0 c4) := d3_
  obtain ⟨z, hz, hz2⟩ : ∃ z : Int, (z = 500 ∨ z = 30) ∧ ∀ T, (if decide ((w : Int) = 0) = true then Rs.ok (PV.int 500) T else Rs.ok (PV.int 30) T) = Rs.ok (PV.int z) T := by
    by_cases e : (w : Int) = 0
    · exact ⟨500, .inl rfl, fun T => by rw [if_pos (decide_eq_true e)]⟩
    · exact ⟨30, .inr rfl, fun T => by rw [if_neg (by simp; omega)]⟩
  obtain ⟨v, c5, hv, h5, d4_⟩ := any_ro_ok (d + 3) lam (xs := [.int 0, .int 1, .int 2, .int 5, .int 20, .int 100, .int z]) (by simp) (by simp) (fun x hx b => by
    simp only [List.mem_cons, List.not_mem_nil, or_false] at hx
    rcases hx with rfl | rfl | rfl | rfl | rfl | rfl | rfl <;> rfl) h4
  rw [set_set] at h5 d4_
  obtain ⟨m, hm, rfl⟩ : ∃ m : Nat, m ≤ 500 ∧ v = .int m := by
    simp only [List.mem_cons, List.not_mem_nil, or_false] at hv
    rcases hv with rfl | rfl | rfl | rfl | rfl | rfl | rfl
    · exact ⟨0, by decide, rfl⟩
    · exact ⟨1, by decide, rfl⟩
    · exact ⟨2, by decide, rfl⟩
    · exact ⟨5, by decide, rfl⟩
    · exact ⟨20, by decide, rfl⟩
    · exact ⟨100, by decide, rfl⟩
    · rcases hz with rfl | rfl
      · exact ⟨500, by decide, rfl⟩
      · exact ⟨30, by decide, rfl⟩
  have d4 : rn (d + 5) lam "_law_any" [.rf 0, .ro [.int 0, .int 1, .int 2, .int 5, .int 20, .int 100, .int z]] (S.set 0 c4) = .ok (.int m) (S.set 0 c5) := d4_
  obtain ⟨far, S6, hf, h6, ⟨c6, rfl⟩, d5_⟩ := draw_ok (d + 4) lam (m := (m : Int) + 1) (by omega) (by omega) h5
  rw [set_set] at h6 d5_
  have d5 : rn (d + 5) lam "_law_draw" [.rf 0, .int ((m : Int) + 1)] (S.set 0 c5) = .ok (.int far) (S.set 0 c6) := d5_
  generalize hT : S.set 0 c5 = T at *
  generalize hU : S.set 0 c6 = U at *
  have k1 : rn (d + 5) lam "_law_steps" [rowsV R, .int b, .int m] T = .ok (lefV n m fun t c => wk R c t b) T := steps_ok' (d + 4) lam q hb hm T
  have k2 := fun s0 s1 s2 s3 s4 s6 s8 s9 s10 s11 s12 s13 s14 s15 s16 s17 s18 s19 s20 => case_c1 (cC (d + 5) lam) (n := n) (F := fun t c => wk R c t b) hg hm s0 s1 s2 s3 s4 s6 s8 s9 s10 s11 s12 s13 s14 s15 s16 s17 s18 s19 s20 T
  have k3 : rn (d + 5) lam "many_walks" [lnk n R, .int b, .int g, .int m] T = .ok (.int (wk R g m b)) T := many_ok (d + 1) lam q T hb hg hm
  have k4 : rn (d + 5) lam "walks_at_most" [lnk n R, .int b, .int g, .int m] T = .ok (.int ((((List.range (m + 1)).map fun t => wk R g t b).sum : Nat) : Int)) T := most_ok (d + 1) lam q T hb hg hm
  have k5 : intsOf ((List.range (m + 1)).map fun t => PV.int (wk R g t b)) = some ((List.range (m + 1)).map fun t => (wk R g t b : Int)) := intsOf_map _ _
  have k6 := sumI (fun t => wk R g t b) (List.range (m + 1))
  have k7 : ∀ x y : Int, rn (d + 5) lam "_law_is" [.ro [.int x, .int y], .ro [.int x, .int y]] T = .ok (.bl true) T := fun x y => law_is lam 1 (d + 3) _ (.inr ⟨_, .inr rfl, by simp, fun v hv => by
    simp only [List.mem_cons, List.not_mem_nil, or_false] at hv
    rcases hv with rfl | rfl
    · exact .inr ⟨_, rfl⟩
    · exact .inr ⟨_, rfl⟩⟩) T
  have k8 := fun s0 s2 s4 s5 s7 s8 s9 s10 s11 s12 s13 s14 s15 s16 s17 s18 s19 s20 => case_c0 (d + 4) lam q hm s0 s2 s4 s5 s7 s8 s9 s10 s11 s12 s13 s14 s15 s16 s17 s18 s19 s20 T
  have k9 : intsOf ((List.range n).map fun i => PV.int (wk R i m i)) = some ((List.range n).map fun i => (wk R i m i : Int)) := intsOf_map _ _
  have k10 := sumI (fun i => wk R i m i) (List.range n)
  have k11 : rn (d + 5) lam "rounds_from" [lnk n R, .int m] T = .ok (.int ((((List.range n).map fun i => wk R i m i).sum : Nat) : Int)) T := rounds_ok (d + 1) lam q T hm
  have k12 : ∀ x : Int, rn (d + 5) lam "_law_is" [.int x, .int x] T = .ok (.bl true) T := fun x => law_is lam 0 (d + 4) _ (.inr ⟨_, rfl⟩) T
  have k13 : ∃ few : Nat, few ≤ 3 ∧ few ≤ 500 ∧ minI (m : Int) 3 = (few : Int) := by
    unfold minI
    by_cases e : (3 : Int) < (m : Int)
    · exact ⟨3, by decide, by decide, by rw [if_pos e]; rfl⟩
    · exact ⟨m, by omega, hm, by rw [if_neg e]⟩
  obtain ⟨few, f3, f5, k14⟩ := k13
  have k15 : rn (d + 5) lam "_law_walks" [rowsV R, .int b, .int g, .int few] T = .ok (.ro ((fl R g few b).map walkV)) T := by
    have := law_walks (d + 4) lam (g := g) q hb f3 T
    rw [walks_fl] at this
    exact this
  obtain ⟨ws, k16, k17⟩ : ∃ ws : List (List Nat), cutP ((fl R g few b).map walkV) none (some 8) = ws.map walkV ∧ ∀ j w, ws[j]? = some w → 0 + j < wk R g few b ∧ numb R g few b (0 + j) = w := by
    refine ⟨(fl R g few b).take (min 8 (fl R g few b).length), by rw [cut8, List.length_map, List.map_take], fun j w e => ?_⟩
    have e2 : (fl R g few b)[j]? = some w := by
      rw [List.getElem?_take] at e
      split at e
      · exact e
      · cases e
    have hj : j < wk R g few b := by
      rw [← fl_len]
      exact (List.getElem?_eq_some_iff.mp e2).1
    rw [Nat.zero_add]
    refine ⟨hj, ?_⟩
    rw [fl_at few b j hj] at e2
    exact Option.some.inj e2
  have wlast : ((List.range n).map fun k => wk R k far b * wk R g (m - far) k).sum = wk R g m b := by
    rw [wk_split (rowD_lt q) g (m - far) far b hb, show far + (m - far) = m by omega]
  have smn : small62 (n : Int) = true := small_of (by omega) (by omega)
  have g2 := fg (j := 2) (by decide) (by decide)
  have g3 := fg (j := 3) (by decide) (by decide)
  rw [e1 q_23 rfl rfl]
  generalize hA : ((((List.range (m + 1)).map fun t => wk R g t b).sum : Nat) : Int) = A at k4 k6
  generalize hE : ((((List.range n).map fun i => wk R i m i).sum : Nat) : Int) = E at k10 k11
  have fin : ∀ xs : List Int, ∃ p13 p19 p13' p15 p18,
      forGo (.nm 13) b__law_case_right_2 (cC (d + 5) lam) ⟨xs.map PV.int, []⟩ (xs.map PV.int) [some (.rf 0), some (rowsV R), some (lnk n R), some (.int n), some (.int b), some (.int g), some (.int m), some (lefV n m fun t c => wk R c t b), some (.int A), some (.ro [.int (wk R g m b), .int A]), some (.int E), some (.int (wk R g m b)), some (.ro (xs.map PV.int)), none, none, none, none, none, none, none, none] T = .nx [some (.rf 0), some (rowsV R), some (lnk n R), some (.int n), some (.int b), some (.int g), some (.int m), some (lefV n m fun t c => wk R c t b), some (.int A), some (.ro [.int (wk R g m b), .int A]), some (.int E), some (.int (wk R g m b)), some (.ro (xs.map PV.int)), p13, none, none, none, none, none, p19, none] T
      ∧ forGo (.tp [.nm 13, .nm 15]) b__law_case_right_1 (cC (d + 5) lam) ⟨enumL 0 (ws.map walkV), []⟩ (enumL 0 (ws.map walkV)) [some (.rf 0), some (rowsV R), some (lnk n R), some (.int n), some (.int b), some (.int g), some (.int m), some (lefV n m fun t c => wk R c t b), some (.int A), some (.ro [.int (wk R g m b), .int A]), some (.int E), some (.int (wk R g m b)), some (.ro (xs.map PV.int)), p13, some (.int few), none, none, none, none, p19, none] T = .nx [some (.rf 0), some (rowsV R), some (lnk n R), some (.int n), some (.int b), some (.int g), some (.int m), some (lefV n m fun t c => wk R c t b), some (.int A), some (.ro [.int (wk R g m b), .int A]), some (.int E), some (.int (wk R g m b)), some (.ro (xs.map PV.int)), p13', some (.int few), p15, none, none, none, p19, none] T
      ∧ forGo (.nm 18) b__law_case_right_0 (cC (d + 5) lam) ⟨rngL 0 n, []⟩ (rngL 0 n) [some (.rf 0), some (rowsV R), some (lnk n R), some (.int n), some (.int b), some (.int g), some (.int m), some (lefV n m fun t c => wk R c t b), some (.int A), some (.ro [.int (wk R g m b), .int A]), some (.int E), some (.int (wk R g m b)), some (.ro (xs.map PV.int)), p13', some (.int few), p15, some (.int far), some (.int 0), none, p19, none] U = .nx [some (.rf 0), some (rowsV R), some (lnk n R), some (.int n), some (.int b), some (.int g), some (.int m), some (lefV n m fun t c => wk R c t b), some (.int A), some (.ro [.int (wk R g m b), .int A]), some (.int E), some (.int (wk R g m b)), some (.ro (xs.map PV.int)), p13', some (.int few), p15, some (.int far), some (.int (wk R g m b)), p18, p19, none] U := by
    intro xs
    obtain ⟨p13, p19, r1⟩ := case_b2 (d + 1) lam q hb hg hm (it := ⟨xs.map PV.int, []⟩) (S := T) (fun _ => rfl) (some (.rf 0)) (some (.int n)) (some (lefV n m fun t c => wk R c t b)) (some (.int A)) (some (.ro [.int (wk R g m b), .int A])) (some (.int E)) (some (.int (wk R g m b))) (some (.ro (xs.map PV.int))) none none none none none none xs none none
    obtain ⟨p13', p15, r2⟩ := case_b1 (d + 1) lam q hb hg f5 (it := ⟨enumL 0 (ws.map walkV), []⟩) (S := T) (fun _ => rfl) (some (.rf 0)) (some (rowsV R)) (some (.int n)) (some (.int m)) (some (lefV n m fun t c => wk R c t b)) (some (.int A)) (some (.ro [.int (wk R g m b), .int A])) (some (.int E)) (some (.int (wk R g m b))) (some (.ro (xs.map PV.int))) none none none p19 none ws 0 k17 p13 none
    obtain ⟨p18, r3⟩ := case_b0 (d + 1) lam q hb hg hm (show far ≤ m by omega) (it := ⟨rngL 0 n, []⟩) (S := U) (fun _ => rfl) (some (.rf 0)) (some (rowsV R)) (some (.int n)) (some (lefV n m fun t c => wk R c t b)) (some (.int A)) (some (.ro [.int (wk R g m b), .int A])) (some (.int E)) (some (.int (wk R g m b))) (some (.ro (xs.map PV.int))) p13' (some (.int few)) p15 p19 none (List.range n) 0 (fun i hi => List.mem_range.mp hi) none
    rw [← rngL_nat, Nat.zero_add, wlast] at r3
    exact ⟨p13, p19, p13', p15, p18, r1, r2, r3⟩
  have hc6 : ∃ c, Hd (S.set 0 c) ∧ U = S.set 0 c := ⟨c6, by rw [hU]; exact h6, hU.symm⟩
  obtain ⟨c, hc, rfl⟩ := hc6
  refine ⟨c, hc, ?_⟩
  have clo : closeV false S (.bl true) (S.set 0 c) = .ok (.bl true) (S.set 0 c) := by
    have := closeV_gen (S1 := S.set 0 c) (X := []) (v := .bl true) (w := .bl true) (oldOk_hd hc h0) (by simp) (by rw [List.append_nil]; exact frz_blw rfl)
    simpa using this
  have pw : decide ((0 : Int) ≤ 50 ∧ (50 : Int) ≤ 1000000 ∧ Int.natAbs 10 < 2 ^ 64) = true := by decide
  by_cases big : ((wk R g m b : Int)) < 10 ^ 50
  · obtain ⟨p13, p19, p13', p15, p18, r1, r2, r3⟩ := fin [0, (wk R g m b : Int), (wk R g m b : Int) - 1, (wk R g m b : Int) + 5, (wk R g m b : Int) / 2, (wk R g m b : Int) / 3]
    simp only [List.map_cons, List.map_nil] at r1 r2 r3
    have dc : decide ((wk R g m b : Int) < 10 ^ Int.toNat 50) = true := decide_eq_true big
    dsimp! [d__law_case_right, cC_call, cC_lam, e1', lk, ln, d1, d2, d3, hz2, d4, eq_int, k1, k2, k3, k4, k5, k6, k7, lef_ix (Nat.le_refl m), ix_ro, vecP_at hg, pw, k8, k9, k10, k11, k12, dc, g2, g3, r1, k14, k15, k16, r2, d5, smn, r3, clo]
  · obtain ⟨p13, p19, p13', p15, p18, r1, r2, r3⟩ := fin [0, (wk R g m b : Int)]
    simp only [List.map_cons, List.map_nil] at r1 r2 r3
    have dc : decide ((wk R g m b : Int) < 10 ^ Int.toNat 50) = false := decide_eq_false big
    dsimp! [d__law_case_right, cC_call, cC_lam, e1', lk, ln, d1, d2, d3, hz2, d4, eq_int, k1, k2, k3, k4, k5, k6, k7, lef_ix (Nat.le_refl m), ix_ro, vecP_at hg, pw, k8, k9, k10, k11, k12, dc, g2, g3, r1, k14, k15, k16, r2, d5, smn, r3, clo]
end Lk85

end
section
set_option Elab.async false
set_option linter.all false
set_option maxRecDepth 100000
set_option maxHeartbeats 1000000
local macro_rules | `(tactic| dsimp! [$ls,*]) => `(tactic| simp only [Ev.dCst_e, Ev.dBin_e, Ev.dBinM_e, Ev.dUn_e, Ev.tCmp_e, Ev.tChn_e, Ev.tAnd_e, Ev.tOr_e, Ev.tNot_e, Ev.tVal_e, Ev.dTst_e, Ev.dAnd_e, Ev.dOr_e, Ev.dNot_e, Ev.dIte_e, Ev.lNil_e, Ev.lCons_e, Ev.dTup_e, Ev.dLst_e, Ev.dIx_e, Ev.pNo_e, Ev.pSome_e, Ev.dSl_e, Ev.dFld_e, Ev.dCall_e, Ev.dCallL_e, Ev.dAct_e, Ev.dMk_e, Ev.dBad_e, Ev.tBad_e, Ev.dIsi_e, Ev.dBi_e, Ev.dMt_e, Ev.iAny_e, Ev.iRng1_e, Ev.iRng2_e, Ev.iEnum_e, Ev.iZip_e, Ev.iRev1_e, Ev.iRev2_e, Ev.tYes_e, Ev.dComp_e, Ev.sNil_e, Ev.sSeq_e, Ev.sSet_e, Ev.sPar_e, Ev.sPut_e, Ev.sFld_e, Ev.sAug_e, Ev.sExpr_e, Ev.sRet_e, Ev.sRetN_e, Ev.sIf_e, Ev.sBrk_e, Ev.sCnt_e, Ev.sRaise_e, Ev.sBad_e, Ev.sTryA_e, Ev.sFor_e, Ev.sWhile_e, Ev.atR_e, Ev.bnd_ok_e, Ev.bnd_exc_e, Ev.guardR_e, Ev.guardS_t_e, Ev.noX_e, Ev.inS_ok_e, Ev.inS_exc_e, Ev.tb_nx_e, Ev.tb_rt_e, Ev.tb_bk_e, Ev.tb_ct_e, Ev.tb_exc_e, Ev.lp_nx_e, Ev.lp_ct_e, Ev.lp_bk_e, Ev.lp_rt_e, Ev.lp_exc_e, Ev.dVar_z, Ev.dVar_s, Ev.dCallL_z, Ev.put_nm, Ev.put_tp, Ev.puts_nil, Ev.puts_cons, Ev.setMany_nil, Ev.setMany_cons, Ev.wipe_nil, Ev.wipe_cons, Ev.startP_e, Ev.sz_0, Ev.sz_1, Ev.sz_2, Ev.sz_3, Ev.sz_4, Ev.sz_5, Ev.sz_6, Ev.sz_7, Ev.sz_8, Ev.sz_9, Ev.sz_10, Ev.sz_11, Ev.sz_12, Ev.sz_13, Ev.sz_14, Ev.sz_15, Ev.sz_16, Ev.sz_17, Ev.sz_18, Ev.sz_19, Ev.sz_20, Ev.add_int, Ev.sub_int, Ev.mul_int, Ev.mod_int, Ev.fdiv_int, Ev.pow_int, Ev.add_tup, Ev.add_ro, Ev.add_str, Ev.neg_int, Ev.ip_add, Ev.ip_sub, Ev.lt_int, Ev.le_int, Ev.gt_int, Ev.ge_int, Ev.eq_e, Ev.ne_e, Ev.is_e, Ev.isn_e, Ev.in_e, Ev.nin_e, Ev.eq_int, Ev.tru_bl, Ev.tru_int, Ev.tru_non, Ev.tru_tup, Ev.tru_ro, Ev.asB_e, Ev.asPart_e, Ev.len_tup, Ev.len_ro, Ev.int_int, Ev.int_bl, Ev.tup_ro, Ev.tup_tup, Ev.sum_ro, Ev.all_ro, Ev.any_ro, Ev.min_int, Ev.max_int, Ev.abs_int, Ev.mk_ro, Ev.mk_rf, Ev.it_tup, Ev.it_ro, Ev.rng1_e, Ev.rng2_e, Ev.enum_tup, Ev.enum_ro, Ev.sl_tup, Ev.sl_ro, Ev.ix_tup, Ev.ix_ro, Ev.lst_ro, Ev.cr_rt, Ev.cr_nx, Ev.cl_int_e, Ev.cl_bl_e, Ev.cl_str_e, Ev.cl_non_e, Ev.blw_nil_e, Ev.blw_cons_e, Ev.at_app, Ev.set_at, Ev.at_app1, Ev.set_at1, List.getElem?_cons_zero, List.getElem?_cons_succ, List.set_cons_zero, List.set_cons_succ, List.map_cons, List.map_nil, List.cons_append, List.nil_append, List.length_cons, List.length_nil, List.reduceReplicate, Nat.reduceAdd, Nat.reduceSub, Nat.zero_add, Option.bind_some, Bool.not_true, Bool.not_false, Bool.false_eq_true, Bool.true_and, Bool.and_true, Bool.false_and, Bool.and_false, if_true, if_false, ite_true, ite_false, Int.toNat_natCast, Option.isSome_some, List.append_assoc, decide_true, decide_false, beq_self_eq_true, $ls,*])
namespace Lk85
open PySem Ev
/-! ### _law_word -/
theorem e1l {x : Ev.SS} {np nn : Nat} {glob : Bool} {b : DenS} (h : T x = some ⟨np, nn, false, true, glob, b⟩) {args : List PV} (hl : args.length = np) (hc : args.any isClo = true) (d : Nat) (lam : Store → Rs PV) (S : Store) :
    rn (d + 1) lam x args S = closeR false S (b ⟨fun _ _ _ _ => .bad, lam, 1000, law.flF, law.subF, fun _ => false⟩ (startP nn args) S) := by
  show (match T x with
    | none => Rs.bad
    | some f => if args.length = f.np ∧ args.any isClo = f.lamp then closeR f.keep S (f.body (if f.lamp then ⟨fun _ _ _ _ => .bad, lam, 1000, law.flF, law.subF, fun _ => false⟩ else ⟨runF T law.flF law.subF 1000 d, lam, 1000, law.flF, law.subF, fun x => knT T x⟩) (startP f.nn args) S) else .bad) = _
  rw [h]
  simp only [hl, hc, and_self, if_true]
theorem cr_exc (S : Store) (σ : Sl) (c : Ev.SS) : closeR false S (.exc c [] σ S) = .exc c [] S := closeR_exc
theorem cnt_bl {S : Store} {v : PV} {bs : List Bool} (h : lstOf S v = some (bs.map PV.bl)) : mtV .count v [.bl true] S = .ok (.int ((bs.countP id : Nat) : Int)) S := by
  have e1 : ∀ bs : List Bool, toDs S (bs.map PV.bl) = some (bs.map PyData.bool) := by
    intro bs
    induction bs with
    | nil => rfl
    | cons b bs ih => simp [toDs, toD, ih]
  have e2 : ∀ bs : List Bool, PySem.SeqAt.shaped (.list (bs.map PyData.bool)) = true := by
    intro bs
    induction bs with
    | nil => rfl
    | cons b bs ih => exact ih
  have e3 : ∀ bs : List Bool, ((bs.map PyData.bool).countP fun z => PyData.eqv z (.bool true)) = bs.countP id := by
    intro bs
    induction bs with
    | nil => rfl
    | cons b bs ih => cases b <;> simp only [List.map_cons, List.countP_cons, ih] <;> rfl
  have e4 : PySem.SeqAt.shaped (.bool true) = true := rfl
  simp only [mtV, un1, cntV, h, Option.bind_some, e1, toD, e2, e4, Bool.and_self, guardR_true, e3]
theorem idx_bl {S : Store} {v : PV} {bs : List Bool} {k : Nat} (h : lstOf S v = some (bs.map PV.bl)) (hk : bs.findIdx? id = some k) : mtV .index v [.bl true] S = .ok (.int (k : Int)) S := by
  have e1 : ∀ bs : List Bool, toDs S (bs.map PV.bl) = some (bs.map PyData.bool) := by
    intro bs
    induction bs with
    | nil => rfl
    | cons b bs ih => simp [toDs, toD, ih]
  have e2 : ∀ bs : List Bool, PySem.SeqAt.shaped (.list (bs.map PyData.bool)) = true := by
    intro bs
    induction bs with
    | nil => rfl
    | cons b bs ih => exact ih
  have e3 : ∀ bs : List Bool, ((bs.map PyData.bool).findIdx? fun z => PyData.eqv z (.bool true)) = bs.findIdx? id := by
    intro bs
    induction bs with
    | nil => rfl
    | cons b bs ih =>
      cases b
      · simp only [List.map_cons, List.findIdx?_cons, ih]; rfl
      · rfl
  have e4 : PySem.SeqAt.shaped (.bool true) = true := rfl
  simp only [mtV, un1, idxV, h, Option.bind_some, e1, toD, e2, e4, Bool.and_self, guardR_true, e3, hk]
theorem exo_is {C : Cfg} {c e : Ev.SS} {S : Store} {b : Bool} (h : C.sub c (.own e) = some b) : isiX C [.exo c [], .gl e] S = .ok (.bl b) S := by
  cases b <;> simp [isiX, qOne, isiV, tyOf, isiAny, isiT, h]
theorem exo_ty {C : Cfg} {c : Ev.SS} {e : String} {S : Store} {b : Bool} (h : C.sub c (.ty e) = some b) : isiX C [.exo c [], .ty e] S = .ok (.bl b) S := by
  cases b <;> simp [isiX, qOne, isiV, tyOf, isiAny, isiT, h]
/-- the four classes, told apart -/
structure Wd (c w : Ev.SS) (k : Nat) : Prop where
  le : law.subF c (.own "LinkError") = some true
  a0 : law.subF c (.own "NoLinks") = some (k == 0)
  a1 : law.subF c (.own "NoSquare") = some (k == 1)
  a2 : law.subF c (.own "NoRow") = some (k == 2)
  a3 : law.subF c (.own "NoNumber") = some (k == 3)
  ve : law.subF c (.ty "ValueError") = some true
  lt : k < 4
  at_ : ([PV.str "links", .str "square", .str "row", .str "number"])[k]? = some (.str w)
theorem wd0 : Wd "NoLinks" "links" 0 := ⟨by kernel_rfl, by kernel_rfl, by kernel_rfl, by kernel_rfl, by kernel_rfl, by kernel_rfl, by decide, rfl⟩
theorem wd1 : Wd "NoSquare" "square" 1 := ⟨by kernel_rfl, by kernel_rfl, by kernel_rfl, by kernel_rfl, by kernel_rfl, by kernel_rfl, by decide, rfl⟩
theorem wd2 : Wd "NoRow" "row" 2 := ⟨by kernel_rfl, by kernel_rfl, by kernel_rfl, by kernel_rfl, by kernel_rfl, by kernel_rfl, by decide, rfl⟩
theorem wd3 : Wd "NoNumber" "number" 3 := ⟨by kernel_rfl, by kernel_rfl, by kernel_rfl, by kernel_rfl, by kernel_rfl, by kernel_rfl, by decide, rfl⟩
theorem word_ok (d : Nat) {c w : Ev.SS} {k : Nat} (h : Wd c w k) {lam : Store → Rs PV} {S : Store} (hl : lam S = .exc c [] S) (hb : (S.all fun c => Cell.blw S.length c) = true) (hx : S.all Cell.nx = true) : rn (d + 1) lam "_law_word" [.clo] S = .ok (.str w) S := by
  rw [e1l q_24 rfl rfl]
  have hb' : S.all (Cell.blw S.length) = true := hb
  have kk : k = 0 ∨ k = 1 ∨ k = 2 ∨ k = 3 := by have := h.lt; omega
  have at_ : L2.atI ([PV.str "links", .str "square", .str "row", .str "number"]) (k : Int) = some (.str w) := atI_nat h.at_
  have l3 : (S ++ [Cell.lst [.bl (k == 0), .bl (k == 1), .bl (k == 2)]])[S.length]? = some (.lst [.bl (k == 0), .bl (k == 1), .bl (k == 2)]) := at_app _ _ _
  have ap := app_rf l3 (by simp) (.bl (k == 3))
  have l4 : (S ++ [Cell.lst [.bl (k == 0), .bl (k == 1), .bl (k == 2), .bl (k == 3)]])[S.length]? = some (.lst [.bl (k == 0), .bl (k == 1), .bl (k == 2), .bl (k == 3)]) := at_app _ _ _
  have ct := cnt_bl (bs := [k == 0, k == 1, k == 2, k == 3]) (lst_rf l4)
  have fx : ([k == 0, k == 1, k == 2, k == 3]).findIdx? id = some k := by rcases kk with rfl | rfl | rfl | rfl <;> rfl
  have c1 : ([k == 0, k == 1, k == 2, k == 3]).countP id = 1 := by rcases kk with rfl | rfl | rfl | rfl <;> rfl
  rw [c1] at ct
  have ix := idx_bl (bs := [k == 0, k == 1, k == 2, k == 3]) (lst_rf l4) fx
  have i0 := fun S => exo_is (C := ⟨fun _ _ _ _ => .bad, fun _ => .bad, 1000, law.flF, law.subF, fun _ => false⟩) (S := S) h.a0
  have i1 := fun S => exo_is (C := ⟨fun _ _ _ _ => .bad, fun _ => .bad, 1000, law.flF, law.subF, fun _ => false⟩) (S := S) h.a1
  have i2 := fun S => exo_is (C := ⟨fun _ _ _ _ => .bad, fun _ => .bad, 1000, law.flF, law.subF, fun _ => false⟩) (S := S) h.a2
  have i3 := fun S => exo_is (C := ⟨fun _ _ _ _ => .bad, fun _ => .bad, 1000, law.flF, law.subF, fun _ => false⟩) (S := S) h.a3
  have i4 := fun S => exo_ty (C := ⟨fun _ _ _ _ => .bad, fun _ => .bad, 1000, law.flF, law.subF, fun _ => false⟩) (S := S) h.ve
  have hx' : ∀ bs, (S ++ [Cell.lst bs]).all Cell.nx = PV.nxs bs := fun bs => by
    rw [List.all_append, hx]; simp [Cell.nx]
  have e11 : decide (((1 : Nat) : Int) = 1) = true := rfl
  have of_ : offS 2 (.nx [some .clo, some (.str w), some (.exo c []), some (.rf S.length)] (S ++ [Cell.lst [PV.bl (k == 0), PV.bl (k == 1), PV.bl (k == 2), PV.bl (k == 3)]])) = .nx [some .clo, some (.str w), none, some (.rf S.length)] (S ++ [Cell.lst [PV.bl (k == 0), PV.bl (k == 1), PV.bl (k == 2), PV.bl (k == 3)]]) := by
    show (if _ then _ else _) = _
    rw [if_pos (by rw [hx']; rfl)]
    rfl
  dsimp! [d__law_word, hb', hl, h.le, i0, i1, i2, i3, lst_rf l3, ap, lst_rf l4, ct, eq_int, e11, i4, ix_ro, ix, at_, of_]
  exact cl_app rfl
/-! ### what is refused -/
theorem many_no (d : Nat) (lam : Store → Rs PV) {t b g s : PV} {c : Ev.SS} {S : Store} (h : rn (d + 3) lam "check_rows" [t, b, g] S = .exc c [] S) (hc : [t, b, g, s].any isClo = false) : rn (d + 4) lam "many_walks" [t, b, g, s] S = .exc c [] S := by
  rw [e1 q_11 rfl hc]
  dsimp! [d_many_walks, cC_call, cC_lam, h, cr_exc]
theorem many_no2 (d : Nat) (lam : Store → Rs PV) {t b g s : PV} {c : Ev.SS} {S : Store} (h : rn (d + 3) lam "check_rows" [t, b, g] S = .ok .non S) (h2 : rn (d + 3) lam "check_steps" [s] S = .exc c [] S) (hc : [t, b, g, s].any isClo = false) : rn (d + 4) lam "many_walks" [t, b, g, s] S = .exc c [] S := by
  rw [e1 q_11 rfl hc]
  dsimp! [d_many_walks, cC_call, cC_lam, h, h2, cr_exc]
theorem most_no (d : Nat) (lam : Store → Rs PV) {t b g s : PV} {c : Ev.SS} {S : Store} (h : rn (d + 3) lam "check_rows" [t, b, g] S = .exc c [] S) (hc : [t, b, g, s].any isClo = false) : rn (d + 4) lam "walks_at_most" [t, b, g, s] S = .exc c [] S := by
  rw [e1 q_13 rfl hc]
  dsimp! [d_walks_at_most, cC_call, cC_lam, h, cr_exc]
theorem most_no2 (d : Nat) (lam : Store → Rs PV) {t b g s : PV} {c : Ev.SS} {S : Store} (h : rn (d + 3) lam "check_rows" [t, b, g] S = .ok .non S) (h2 : rn (d + 3) lam "check_steps" [s] S = .exc c [] S) (hc : [t, b, g, s].any isClo = false) : rn (d + 4) lam "walks_at_most" [t, b, g, s] S = .exc c [] S := by
  rw [e1 q_13 rfl hc]
  dsimp! [d_walks_at_most, cC_call, cC_lam, h, h2, cr_exc]
theorem wn_no (d : Nat) (lam : Store → Rs PV) {t b g s k : PV} {c : Ev.SS} {S : Store} (h : rn (d + 3) lam "check_rows" [t, b, g] S = .ok .non S) (h2 : rn (d + 3) lam "check_steps" [s] S = .exc c [] S) (hc : [t, b, g, s, k].any isClo = false) : rn (d + 4) lam "walk_numbered" [t, b, g, s, k] S = .exc c [] S := by
  rw [e1 q_12 rfl hc]
  dsimp! [d_walk_numbered, cC_call, cC_lam, h, h2, cr_exc]
/-- no number -/
def noNum (k : PV) : Prop := pl k = true ∧ (isI k = false ∨ ∃ i : Int, k = .int i ∧ i < 0)
theorem wn_no2 (d : Nat) (lam : Store → Rs PV) {t b g s k : PV} {S : Store} (h : rn (d + 3) lam "check_rows" [t, b, g] S = .ok .non S) (h2 : rn (d + 3) lam "check_steps" [s] S = .ok .non S) (hk : noNum k) (hc : [t, b, g, s, k].any isClo = false) : rn (d + 4) lam "walk_numbered" [t, b, g, s, k] S = .exc "NoNumber" [] S := by
  rw [e1 q_12 rfl hc]
  have i0 : rn (d + 3) lam "is_integer" [k] S = .ok (.bl (isI k)) S := is_int (d + 2) lam k S hk.1
  rcases hk with ⟨_, hk | ⟨i, rfl, hi⟩⟩
  · dsimp! [d_walk_numbered, cC_call, cC_lam, h, h2, i0, hk, cr_exc]
  · have dc : decide (i < 0) = true := decide_eq_true hi
    dsimp! [d_walk_numbered, cC_call, cC_lam, h, h2, i0, isI, dc, cr_exc]
theorem rounds_no (d : Nat) (lam : Store → Rs PV) {t s : PV} {c : Ev.SS} {S : Store} (h : rn (d + 3) lam "check_square" [t] S = .exc c [] S) (hc : [t, s].any isClo = false) : rn (d + 4) lam "rounds_from" [t, s] S = .exc c [] S := by
  rw [e1 q_14 rfl hc]
  dsimp! [d_rounds_from, cC_call, cC_lam, h, cr_exc]
theorem rounds_no2 (d : Nat) (lam : Store → Rs PV) {t s : PV} {c : Ev.SS} {S : Store} (h : rn (d + 3) lam "check_square" [t] S = .ok .non S) (h2 : rn (d + 3) lam "check_steps" [s] S = .exc c [] S) (hc : [t, s].any isClo = false) : rn (d + 4) lam "rounds_from" [t, s] S = .exc c [] S := by
  rw [e1 q_14 rfl hc]
  dsimp! [d_rounds_from, cC_call, cC_lam, h, h2, cr_exc]
end Lk85

end
section
set_option Elab.async false
set_option linter.all false
set_option maxRecDepth 100000
set_option maxHeartbeats 1000000
local macro_rules | `(tactic| dsimp! [$ls,*]) => `(tactic| simp only [Ev.dCst_e, Ev.dBin_e, Ev.dBinM_e, Ev.dUn_e, Ev.tCmp_e, Ev.tChn_e, Ev.tAnd_e, Ev.tOr_e, Ev.tNot_e, Ev.tVal_e, Ev.dTst_e, Ev.dAnd_e, Ev.dOr_e, Ev.dNot_e, Ev.dIte_e, Ev.lNil_e, Ev.lCons_e, Ev.dTup_e, Ev.dLst_e, Ev.dIx_e, Ev.pNo_e, Ev.pSome_e, Ev.dSl_e, Ev.dFld_e, Ev.dCall_e, Ev.dCallL_e, Ev.dAct_e, Ev.dMk_e, Ev.dBad_e, Ev.tBad_e, Ev.dIsi_e, Ev.dBi_e, Ev.dMt_e, Ev.iAny_e, Ev.iRng1_e, Ev.iRng2_e, Ev.iEnum_e, Ev.iZip_e, Ev.iRev1_e, Ev.iRev2_e, Ev.tYes_e, Ev.dComp_e, Ev.sNil_e, Ev.sSeq_e, Ev.sSet_e, Ev.sPar_e, Ev.sPut_e, Ev.sFld_e, Ev.sAug_e, Ev.sExpr_e, Ev.sRet_e, Ev.sRetN_e, Ev.sIf_e, Ev.sBrk_e, Ev.sCnt_e, Ev.sRaise_e, Ev.sBad_e, Ev.sTryA_e, Ev.sFor_e, Ev.sWhile_e, Ev.atR_e, Ev.bnd_ok_e, Ev.bnd_exc_e, Ev.guardR_e, Ev.guardS_t_e, Ev.noX_e, Ev.inS_ok_e, Ev.inS_exc_e, Ev.tb_nx_e, Ev.tb_rt_e, Ev.tb_bk_e, Ev.tb_ct_e, Ev.tb_exc_e, Ev.lp_nx_e, Ev.lp_ct_e, Ev.lp_bk_e, Ev.lp_rt_e, Ev.lp_exc_e, Ev.dVar_z, Ev.dVar_s, Ev.dCallL_z, Ev.put_nm, Ev.put_tp, Ev.puts_nil, Ev.puts_cons, Ev.setMany_nil, Ev.setMany_cons, Ev.wipe_nil, Ev.wipe_cons, Ev.startP_e, Ev.sz_0, Ev.sz_1, Ev.sz_2, Ev.sz_3, Ev.sz_4, Ev.sz_5, Ev.sz_6, Ev.sz_7, Ev.sz_8, Ev.sz_9, Ev.sz_10, Ev.sz_11, Ev.sz_12, Ev.sz_13, Ev.sz_14, Ev.sz_15, Ev.sz_16, Ev.sz_17, Ev.sz_18, Ev.sz_19, Ev.sz_20, Ev.add_int, Ev.sub_int, Ev.mul_int, Ev.mod_int, Ev.fdiv_int, Ev.pow_int, Ev.add_tup, Ev.add_ro, Ev.add_str, Ev.neg_int, Ev.ip_add, Ev.ip_sub, Ev.lt_int, Ev.le_int, Ev.gt_int, Ev.ge_int, Ev.eq_e, Ev.ne_e, Ev.is_e, Ev.isn_e, Ev.in_e, Ev.nin_e, Ev.eq_int, Ev.tru_bl, Ev.tru_int, Ev.tru_non, Ev.tru_tup, Ev.tru_ro, Ev.asB_e, Ev.asPart_e, Ev.len_tup, Ev.len_ro, Ev.int_int, Ev.int_bl, Ev.tup_ro, Ev.tup_tup, Ev.sum_ro, Ev.all_ro, Ev.any_ro, Ev.min_int, Ev.max_int, Ev.abs_int, Ev.mk_ro, Ev.mk_rf, Ev.it_tup, Ev.it_ro, Ev.rng1_e, Ev.rng2_e, Ev.enum_tup, Ev.enum_ro, Ev.sl_tup, Ev.sl_ro, Ev.ix_tup, Ev.ix_ro, Ev.lst_ro, Ev.cr_rt, Ev.cr_nx, Ev.cl_int_e, Ev.cl_bl_e, Ev.cl_str_e, Ev.cl_non_e, Ev.blw_nil_e, Ev.blw_cons_e, Ev.at_app, Ev.set_at, Ev.at_app1, Ev.set_at1, List.getElem?_cons_zero, List.getElem?_cons_succ, List.set_cons_zero, List.set_cons_succ, List.map_cons, List.map_nil, List.cons_append, List.nil_append, List.length_cons, List.length_nil, List.reduceReplicate, Nat.reduceAdd, Nat.reduceSub, Nat.zero_add, Option.bind_some, Bool.not_true, Bool.not_false, Bool.false_eq_true, Bool.true_and, Bool.and_true, Bool.false_and, Bool.and_false, if_true, if_false, ite_true, ite_false, Int.toNat_natCast, Option.isSome_some, List.append_assoc, decide_true, decide_false, beq_self_eq_true, $ls,*])
namespace Lk85
open PySem Ev
theorem lam_word (D : Nat) (lam : Store → Rs PV) {c w : Ev.SS} {k : Nat} (h : Wd c w k) {body : Den} {σ : Sl} {S : Store} (hl : body (cC (D + 1) lam) σ S = .exc c [] S) (hb : (S.all fun c => Cell.blw S.length c) = true) (hx : S.all Cell.nx = true) : dLam "_law_word" body (cC (D + 1) lam) σ S = .ok (.str w) S := word_ok D h hl hb hx
def R1 : List (List Nat) := [[0, 1], [1]]
def R2 : List (List Nat) := [[0, 1]]
theorem good1 : Good 2 R1 := ⟨by decide, by decide, by decide, by decide, fun r hr => by
  simp only [R1, List.mem_cons, List.not_mem_nil, or_false] at hr
  rcases hr with rfl | rfl <;> exact ⟨by decide, by decide⟩⟩
theorem good2 : Good 2 R2 := ⟨by decide, by decide, by decide, by decide, fun r hr => by
  simp only [R2, List.mem_cons, List.not_mem_nil, or_false] at hr
  subst hr; exact ⟨by decide, by decide⟩⟩
theorem nx_lst (xs : List PV) : (Cell.lst xs).nx = PV.nxs xs := rfl
theorem cblw_lst (b : Nat) (xs : List PV) : (Cell.lst xs).blw b = PV.blws b xs := rfl
theorem nxs_str (ws : List Ev.SS) : PV.nxs (ws.map PV.str) = true := by
  induction ws with
  | nil => rfl
  | cons w ws ih => exact ih
theorem blws_str (b : Nat) (ws : List Ev.SS) : PV.blws b (ws.map PV.str) = true := by
  induction ws with
  | nil => rfl
  | cons w ws ih => exact ih
theorem hd_cell {c0 c : Cell} (h : Hd [c]) : c.nx = true ∧ ∀ b, c.blw b = true := by
  obtain ⟨cs, p, q, r, s, g, _⟩ := h
  cases g
  refine ⟨?_, fun b => by simp [hnd, Cell.blw]⟩
  simp only [hnd, Cell.nx, PV.nxs, PV.nx, Bool.and_true]
  induction cs with
  | nil => rfl
  | cons x cs ih => exact ih
def wrds : List Ev.SS := ["links", "square", "row", "row", "number", "links", "square", "row", "row", "number", "number", "number", "square", "number"]
theorem refused_at (d : Nat) (lam : Store → Rs PV) {c : Cell} (hn : c.nx = true) (hbl : ∀ b, c.blw b = true) {odd bad st num : PV} (ho : pl odd = true) (hb : pl bad = true) (hb2 : isW 0 1 bad = false) (hs : pl st = true) (hs2 : isW 0 500 st = false) (hnum : noNum num) (f : Ev.SS) (ws : List Ev.SS) (hw : ws.length < 1000) (hf : f = "many_walks" ∨ f = "walks_at_most") (o8 : Option PV) :
    b__law_refused_0 (cC (d + 5) lam) [some (.rf 0), some (lnk 2 R1), some (lnk 2 R2), some odd, some bad, some st, some num, some (.rf 1), some (.gl f)] [c, .lst (ws.map PV.str)] = .nx [some (.rf 0), some (lnk 2 R1), some (lnk 2 R2), some odd, some bad, some st, some num, some (.rf 1), some (.gl f)] [c, .lst ((ws ++ (["links", "square", "row", "row", "number"] : List Ev.SS)).map PV.str)] := by
  have nx : ∀ ws : List Ev.SS, ([c, .lst (ws.map PV.str)] : Store).all Cell.nx = true := fun ws => by
    simp only [List.all_cons, List.all_nil, hn, nx_lst, nxs_str, Bool.and_self]
  have bl : ∀ ws : List Ev.SS, (([c, .lst (ws.map PV.str)] : Store).all fun x => Cell.blw ([c, .lst (ws.map PV.str)] : Store).length x) = true := fun ws => by
    simp only [List.all_cons, List.all_nil, hbl, cblw_lst, blws_str, Bool.and_self]
  have ap : ∀ (ws : List Ev.SS) (w : Ev.SS), ws.length < 2000 → mtV .append (.rf 1) [.str w] [c, .lst (ws.map PV.str)] = .ok .non [c, .lst ((ws ++ [w]).map PV.str)] := fun ws w h => by
    rw [app_rf (S := [c, .lst (ws.map PV.str)]) (r := 1) (xs := ws.map PV.str) rfl (by simp only [List.length_map]; omega)]
    simp
  have lo : ∀ ws : List Ev.SS, lstOf [c, .lst (ws.map PV.str)] (.rf 1) = some (ws.map PV.str) := fun _ => rfl
  have kn : knT T f = true := by rcases hf with rfl | rfl <;> kernel_rfl
  have cl : ∀ v : PV, pl v = true → isClo v = false := fun v h => by cases v <;> first | rfl | cases h
  have call_no : ∀ {t b g s : PV} {e : Ev.SS} {S : Store}, rn (d + 4) lam "check_rows" [t, b, g] S = .exc e [] S → [t, b, g, s].any isClo = false → rn (d + 5) lam f [t, b, g, s] S = .exc e [] S := fun h hc => by
    rcases hf with rfl | rfl
    · exact many_no (d + 1) lam h hc
    · exact most_no (d + 1) lam h hc
  have call_no2 : ∀ {t b g s : PV} {e : Ev.SS} {S : Store}, rn (d + 4) lam "check_rows" [t, b, g] S = .ok .non S → rn (d + 4) lam "check_steps" [s] S = .exc e [] S → [t, b, g, s].any isClo = false → rn (d + 5) lam f [t, b, g, s] S = .exc e [] S := fun h h2 hc => by
    rcases hf with rfl | rfl
    · exact many_no2 (d + 1) lam h h2 hc
    · exact most_no2 (d + 1) lam h h2 hc
  have c1 := cl odd ho; have c2 := cl bad hb; have c3 := cl st hs
  have ci : ∀ i, isClo (.int i) = false := fun _ => rfl
  have lk : ∀ R, isClo (lnk 2 R) = false := fun _ => rfl
  have r0 : ∀ S, rn (d + 5) lam f [odd, bad, bad, st] S = .exc "NoLinks" [] S := fun S => call_no (crows_no (d + 1) lam odd bad bad ho hb hb S) (by simp [c1, c2, c3])
  have r1 : ∀ S, rn (d + 5) lam f [lnk 2 R2, bad, bad, st] S = .exc "NoSquare" [] S := fun S => call_no (by
    have := crows (d + 1) lam 2 R2 bad bad hb hb S
    rw [if_neg (by decide)] at this
    exact this) (by simp [c2, c3, lk])
  have r2 : ∀ S, rn (d + 5) lam f [lnk 2 R1, bad, bad, st] S = .exc "NoRow" [] S := fun S => call_no (by
    have := crows (d + 1) lam 2 R1 bad bad hb hb S
    rw [if_pos (by decide), show ((R1.length : Int) - 1) = 1 from rfl, hb2, Bool.false_and, if_neg (by decide)] at this
    exact this) (by simp [c2, c3, lk])
  have r3 : ∀ S, rn (d + 5) lam f [lnk 2 R1, .int 0, bad, st] S = .exc "NoRow" [] S := fun S => call_no (by
    have := crows (d + 1) lam 2 R1 (.int 0) bad rfl hb S
    rw [if_pos (by decide), show ((R1.length : Int) - 1) = 1 from rfl, hb2, Bool.and_false, if_neg (by decide)] at this
    exact this) (by simp [c2, c3, lk, ci])
  have r4 : ∀ S, rn (d + 5) lam f [lnk 2 R1, .int 0, .int 1, st] S = .exc "NoNumber" [] S := fun S => call_no2 (crows (d + 1) lam 2 R1 (.int 0) (.int 1) rfl rfl S) (by
    have := csteps (d + 1) lam st hs S
    rw [hs2] at this
    exact this) (by simp [c3, lk, ci])
  have L0 : ∀ ws : List Ev.SS, dLam "_law_word" (dCallL 8 (lCons (dVar 3) (lCons (dVar 4) (lCons (dVar 4) (lCons (dVar 5) lNil))))) (cC (d + 5) lam) [some (.rf 0), some (lnk 2 R1), some (lnk 2 R2), some odd, some bad, some st, some num, some (.rf 1), some (.gl f)] [c, .lst (ws.map PV.str)] = .ok (.str "links") [c, .lst (ws.map PV.str)] := fun ws => lam_word (d + 4) lam wd0 (by
    dsimp! [cC_kn, kn, cC_call, cC_lam, r0]) (bl ws) (nx ws)
  have L1 : ∀ ws : List Ev.SS, dLam "_law_word" (dCallL 8 (lCons (dVar 2) (lCons (dVar 4) (lCons (dVar 4) (lCons (dVar 5) lNil))))) (cC (d + 5) lam) [some (.rf 0), some (lnk 2 R1), some (lnk 2 R2), some odd, some bad, some st, some num, some (.rf 1), some (.gl f)] [c, .lst (ws.map PV.str)] = .ok (.str "square") [c, .lst (ws.map PV.str)] := fun ws => lam_word (d + 4) lam wd1 (by
    dsimp! [cC_kn, kn, cC_call, cC_lam, r1]) (bl ws) (nx ws)
  have L2 : ∀ ws : List Ev.SS, dLam "_law_word" (dCallL 8 (lCons (dVar 1) (lCons (dVar 4) (lCons (dVar 4) (lCons (dVar 5) lNil))))) (cC (d + 5) lam) [some (.rf 0), some (lnk 2 R1), some (lnk 2 R2), some odd, some bad, some st, some num, some (.rf 1), some (.gl f)] [c, .lst (ws.map PV.str)] = .ok (.str "row") [c, .lst (ws.map PV.str)] := fun ws => lam_word (d + 4) lam wd2 (by
    dsimp! [cC_kn, kn, cC_call, cC_lam, r2]) (bl ws) (nx ws)
  have L3 : ∀ ws : List Ev.SS, dLam "_law_word" (dCallL 8 (lCons (dVar 1) (lCons (dCst (.int 0)) (lCons (dVar 4) (lCons (dVar 5) lNil))))) (cC (d + 5) lam) [some (.rf 0), some (lnk 2 R1), some (lnk 2 R2), some odd, some bad, some st, some num, some (.rf 1), some (.gl f)] [c, .lst (ws.map PV.str)] = .ok (.str "row") [c, .lst (ws.map PV.str)] := fun ws => lam_word (d + 4) lam wd2 (by
    dsimp! [cC_kn, kn, cC_call, cC_lam, r3]) (bl ws) (nx ws)
  have L4 : ∀ ws : List Ev.SS, dLam "_law_word" (dCallL 8 (lCons (dVar 1) (lCons (dCst (.int 0)) (lCons (dCst (.int 1)) (lCons (dVar 5) lNil))))) (cC (d + 5) lam) [some (.rf 0), some (lnk 2 R1), some (lnk 2 R2), some odd, some bad, some st, some num, some (.rf 1), some (.gl f)] [c, .lst (ws.map PV.str)] = .ok (.str "number") [c, .lst (ws.map PV.str)] := fun ws => lam_word (d + 4) lam wd3 (by
    dsimp! [cC_kn, kn, cC_call, cC_lam, r4]) (bl ws) (nx ws)
  have a0 := ap ws "links" (by omega)
  have a1 := ap (ws ++ (["links"] : List Ev.SS)) "square" (by simp; omega)
  have a2 := ap (ws ++ (["links"] : List Ev.SS) ++ (["square"] : List Ev.SS)) "row" (by simp; omega)
  have a3 := ap (ws ++ (["links"] : List Ev.SS) ++ (["square"] : List Ev.SS) ++ (["row"] : List Ev.SS)) "row" (by simp; omega)
  have a4 := ap (ws ++ (["links"] : List Ev.SS) ++ (["square"] : List Ev.SS) ++ (["row"] : List Ev.SS) ++ (["row"] : List Ev.SS)) "number" (by simp; omega)
  simp only [List.append_assoc, List.cons_append, List.nil_append] at a0 a1 a2 a3 a4
  dsimp! [b__law_refused_0, lo, L0, L1, L2, L3, L4, a0, a1, a2, a3, a4]
end Lk85

end
section
set_option Elab.async false
set_option linter.all false
set_option maxRecDepth 100000
set_option maxHeartbeats 1000000
local macro_rules | `(tactic| dsimp! [$ls,*]) => `(tactic| simp only [Ev.dCst_e, Ev.dBin_e, Ev.dBinM_e, Ev.dUn_e, Ev.tCmp_e, Ev.tChn_e, Ev.tAnd_e, Ev.tOr_e, Ev.tNot_e, Ev.tVal_e, Ev.dTst_e, Ev.dAnd_e, Ev.dOr_e, Ev.dNot_e, Ev.dIte_e, Ev.lNil_e, Ev.lCons_e, Ev.dTup_e, Ev.dLst_e, Ev.dIx_e, Ev.pNo_e, Ev.pSome_e, Ev.dSl_e, Ev.dFld_e, Ev.dCall_e, Ev.dCallL_e, Ev.dAct_e, Ev.dMk_e, Ev.dBad_e, Ev.tBad_e, Ev.dIsi_e, Ev.dBi_e, Ev.dMt_e, Ev.iAny_e, Ev.iRng1_e, Ev.iRng2_e, Ev.iEnum_e, Ev.iZip_e, Ev.iRev1_e, Ev.iRev2_e, Ev.tYes_e, Ev.dComp_e, Ev.sNil_e, Ev.sSeq_e, Ev.sSet_e, Ev.sPar_e, Ev.sPut_e, Ev.sFld_e, Ev.sAug_e, Ev.sExpr_e, Ev.sRet_e, Ev.sRetN_e, Ev.sIf_e, Ev.sBrk_e, Ev.sCnt_e, Ev.sRaise_e, Ev.sBad_e, Ev.sTryA_e, Ev.sFor_e, Ev.sWhile_e, Ev.atR_e, Ev.bnd_ok_e, Ev.bnd_exc_e, Ev.guardR_e, Ev.guardS_t_e, Ev.noX_e, Ev.inS_ok_e, Ev.inS_exc_e, Ev.tb_nx_e, Ev.tb_rt_e, Ev.tb_bk_e, Ev.tb_ct_e, Ev.tb_exc_e, Ev.lp_nx_e, Ev.lp_ct_e, Ev.lp_bk_e, Ev.lp_rt_e, Ev.lp_exc_e, Ev.dVar_z, Ev.dVar_s, Ev.dCallL_z, Ev.put_nm, Ev.put_tp, Ev.puts_nil, Ev.puts_cons, Ev.setMany_nil, Ev.setMany_cons, Ev.wipe_nil, Ev.wipe_cons, Ev.startP_e, Ev.sz_0, Ev.sz_1, Ev.sz_2, Ev.sz_3, Ev.sz_4, Ev.sz_5, Ev.sz_6, Ev.sz_7, Ev.sz_8, Ev.sz_9, Ev.sz_10, Ev.sz_11, Ev.sz_12, Ev.sz_13, Ev.sz_14, Ev.sz_15, Ev.sz_16, Ev.sz_17, Ev.sz_18, Ev.sz_19, Ev.sz_20, Ev.add_int, Ev.sub_int, Ev.mul_int, Ev.mod_int, Ev.fdiv_int, Ev.pow_int, Ev.add_tup, Ev.add_ro, Ev.add_str, Ev.neg_int, Ev.ip_add, Ev.ip_sub, Ev.lt_int, Ev.le_int, Ev.gt_int, Ev.ge_int, Ev.eq_e, Ev.ne_e, Ev.is_e, Ev.isn_e, Ev.in_e, Ev.nin_e, Ev.eq_int, Ev.tru_bl, Ev.tru_int, Ev.tru_non, Ev.tru_tup, Ev.tru_ro, Ev.asB_e, Ev.asPart_e, Ev.len_tup, Ev.len_ro, Ev.int_int, Ev.int_bl, Ev.tup_ro, Ev.tup_tup, Ev.sum_ro, Ev.all_ro, Ev.any_ro, Ev.min_int, Ev.max_int, Ev.abs_int, Ev.mk_ro, Ev.mk_rf, Ev.it_tup, Ev.it_ro, Ev.rng1_e, Ev.rng2_e, Ev.enum_tup, Ev.enum_ro, Ev.sl_tup, Ev.sl_ro, Ev.ix_tup, Ev.ix_ro, Ev.lst_ro, Ev.cr_rt, Ev.cr_nx, Ev.cl_int_e, Ev.cl_bl_e, Ev.cl_str_e, Ev.cl_non_e, Ev.blw_nil_e, Ev.blw_cons_e, Ev.at_app, Ev.set_at, Ev.at_app1, Ev.set_at1, List.getElem?_cons_zero, List.getElem?_cons_succ, List.set_cons_zero, List.set_cons_succ, List.map_cons, List.map_nil, List.cons_append, List.nil_append, List.length_cons, List.length_nil, List.reduceReplicate, Nat.reduceAdd, Nat.reduceSub, Nat.zero_add, Option.bind_some, Bool.not_true, Bool.not_false, Bool.false_eq_true, Bool.true_and, Bool.and_true, Bool.false_and, Bool.and_false, if_true, if_false, ite_true, ite_false, Int.toNat_natCast, Option.isSome_some, List.append_assoc, decide_true, decide_false, beq_self_eq_true, $ls,*])
namespace Lk85
open PySem Ev
theorem any1 (d : Nat) (lam : Store → Rs PV) {xs : List PV} (h1 : 0 < xs.length) (h2 : xs.length ≤ 1000000) (hb : ∀ x ∈ xs, ∀ b, x.blw b = true) {c0 : Cell} (h : Hd [c0]) :
    ∃ v c, v ∈ xs ∧ Hd [c] ∧ rn (d + 2) lam "_law_any" [.rf 0, .ro xs] [c0] = .ok v [c] := by
  obtain ⟨v, c, a, b, e⟩ := any_ro_ok d lam h1 h2 hb h
  exact ⟨v, c, a, b, e⟩
theorem law_refused (d : Nat) (lam : Store → Rs PV) {c0 : Cell} (h : Hd [c0]) : ∃ c, Hd [c] ∧ rn (d + 6) lam "_law_refused" [.rf 0] [c0] = .ok (.bl true) [c] := by
  obtain ⟨odd, c1, o1, h1, a1⟩ := any1 (d + 3) lam (xs := [.non, .int 0, .tup [.tup [.int 0]], .str "links", .ro []]) (by simp) (by simp) (fun x hx b => by
    simp only [List.mem_cons, List.not_mem_nil, or_false] at hx
    rcases hx with rfl | rfl | rfl | rfl | rfl <;> rfl) h
  have o2 : pl odd = true := by
    simp only [List.mem_cons, List.not_mem_nil, or_false] at o1
    rcases o1 with rfl | rfl | rfl | rfl | rfl <;> rfl
  obtain ⟨bad, c2, b1, h2, a2⟩ := any1 (d + 3) lam (xs := [.int 2, .int (-1), .non, .bl true, .str "0", .tup [.int 0]]) (by simp) (by simp) (fun x hx b => by
    simp only [List.mem_cons, List.not_mem_nil, or_false] at hx
    rcases hx with rfl | rfl | rfl | rfl | rfl | rfl <;> rfl) h1
  have b2 : pl bad = true ∧ isW 0 1 bad = false := by
    simp only [List.mem_cons, List.not_mem_nil, or_false] at b1
    rcases b1 with rfl | rfl | rfl | rfl | rfl | rfl <;> exact ⟨rfl, rfl⟩
  obtain ⟨st, c3, s1, h3, a3⟩ := any1 (d + 3) lam (xs := [.int (-1), .int 501, .non, .bl true, .str "1"]) (by simp) (by simp) (fun x hx b => by
    simp only [List.mem_cons, List.not_mem_nil, or_false] at hx
    rcases hx with rfl | rfl | rfl | rfl | rfl <;> rfl) h2
  have s2 : pl st = true ∧ isW 0 500 st = false := by
    simp only [List.mem_cons, List.not_mem_nil, or_false] at s1
    rcases s1 with rfl | rfl | rfl | rfl | rfl <;> exact ⟨rfl, rfl⟩
  obtain ⟨num, c, n1, h4, a4⟩ := any1 (d + 3) lam (xs := [.int (-1), .non, .bl true, .str "1", .tup [.int 1]]) (by simp) (by simp) (fun x hx b => by
    simp only [List.mem_cons, List.not_mem_nil, or_false] at hx
    rcases hx with rfl | rfl | rfl | rfl | rfl <;> rfl) h3
  have n2 : noNum num := by
    simp only [List.mem_cons, List.not_mem_nil, or_false] at n1
    rcases n1 with rfl | rfl | rfl | rfl | rfl
    · exact ⟨rfl, .inr ⟨-1, rfl, by decide⟩⟩
    all_goals exact ⟨rfl, .inl rfl⟩
  refine ⟨c, h4, ?_⟩
  have a1' : rn (d + 5) lam "_law_any" [.rf 0, .ro [.non, .int 0, .tup [.tup [.int 0]], .str "links", .ro []]] [c0] = .ok odd [c1] := a1
  have a2' : rn (d + 5) lam "_law_any" [.rf 0, .ro [.int 2, .int (-1), .non, .bl true, .str "0", .tup [.int 0]]] [c1] = .ok bad [c2] := a2
  have a3' : rn (d + 5) lam "_law_any" [.rf 0, .ro [.int (-1), .int 501, .non, .bl true, .str "1"]] [c2] = .ok st [c3] := a3
  have a4' : rn (d + 5) lam "_law_any" [.rf 0, .ro [.int (-1), .non, .bl true, .str "1", .tup [.int 1]]] [c3] = .ok num [c] := a4
  have k1 : ∀ S, mkV (cC (d + 5) lam) "Links" "Links.__init__" false [.int 2, .tup [.tup [.int 0, .int 1], .tup [.int 1]]] S = .ok (lnk 2 R1) S := fun S => links_mk (d + 1) lam 2 R1 good1 S
  have k2 : ∀ S, mkV (cC (d + 5) lam) "Links" "Links.__init__" false [.int 2, .tup [.tup [.int 0, .int 1]]] S = .ok (lnk 2 R2) S := fun S => links_mk (d + 1) lam 2 R2 good2 S
  obtain ⟨hn, hbl⟩ := hd_cell (c0 := c) h4
  have nx : ∀ ws : List Ev.SS, ([c, .lst (ws.map PV.str)] : Store).all Cell.nx = true := fun ws => by
    simp only [List.all_cons, List.all_nil, hn, nx_lst, nxs_str, Bool.and_self]
  have bl : ∀ ws : List Ev.SS, (([c, .lst (ws.map PV.str)] : Store).all fun x => Cell.blw ([c, .lst (ws.map PV.str)] : Store).length x) = true := fun ws => by
    simp only [List.all_cons, List.all_nil, hbl, cblw_lst, blws_str, Bool.and_self]
  have ap : ∀ (ws : List Ev.SS) (w : Ev.SS), ws.length < 2000 → mtV .append (.rf 1) [.str w] [c, .lst (ws.map PV.str)] = .ok .non [c, .lst ((ws ++ [w]).map PV.str)] := fun ws w h => by
    rw [app_rf (S := [c, .lst (ws.map PV.str)]) (r := 1) (xs := ws.map PV.str) rfl (by simp only [List.length_map]; omega)]
    simp
  have lo : ∀ ws : List Ev.SS, lstOf [c, .lst (ws.map PV.str)] (.rf 1) = some (ws.map PV.str) := fun _ => rfl
  have cl : ∀ v : PV, pl v = true → isClo v = false := fun v h => by cases v <;> first | rfl | cases h
  have lk : ∀ R, isClo (lnk 2 R) = false := fun _ => rfl
  have ci : ∀ i, isClo (.int i) = false := fun _ => rfl
  have e1' := cl st s2.1; have e2' := cl num n2.1
  have R0 := refused_at d lam hn hbl o2 b2.1 b2.2 s2.1 s2.2 n2 "many_walks" [] (by decide) (.inl rfl) none
  have R0' := refused_at d lam hn hbl o2 b2.1 b2.2 s2.1 s2.2 n2 "walks_at_most" (["links", "square", "row", "row", "number"] : List Ev.SS) (by decide) (.inr rfl) (some (.gl "many_walks"))
  simp only [List.cons_append, List.nil_append, List.map_nil] at R0 R0'
  have rr : ∀ S, rn (d + 4) lam "check_rows" [lnk 2 R1, .int 0, .int 1] S = .ok .non S := fun S => crows (d + 1) lam 2 R1 (.int 0) (.int 1) rfl rfl S
  have rs : ∀ S, rn (d + 4) lam "check_steps" [st] S = .exc "NoNumber" [] S := fun S => by
    have := csteps (d + 1) lam st s2.1 S
    rw [s2.2] at this
    exact this
  have rs3 : ∀ S, rn (d + 4) lam "check_steps" [.int 3] S = .ok .non S := fun S => csteps (d + 1) lam (.int 3) rfl S
  have q1 : ∀ S, rn (d + 4) lam "check_square" [lnk 2 R2] S = .exc "NoSquare" [] S := fun S => csq (d + 2) lam 2 R2 S
  have q2 : ∀ S, rn (d + 4) lam "check_square" [lnk 2 R1] S = .ok .non S := fun S => csq (d + 2) lam 2 R1 S
  have r5 : ∀ S, rn (d + 5) lam "walk_numbered" [lnk 2 R1, .int 0, .int 1, st, num] S = .exc "NoNumber" [] S := fun S => wn_no (d + 1) lam (rr S) (rs S) (by simp [e1', e2', lk, ci])
  have r6 : ∀ S, rn (d + 5) lam "walk_numbered" [lnk 2 R1, .int 0, .int 1, .int 3, num] S = .exc "NoNumber" [] S := fun S => wn_no2 (d + 1) lam (rr S) (rs3 S) n2 (by simp [e2', lk, ci])
  have r7 : ∀ S, rn (d + 5) lam "rounds_from" [lnk 2 R2, st] S = .exc "NoSquare" [] S := fun S => rounds_no (d + 1) lam (q1 S) (by simp [e1', lk])
  have r8 : ∀ S, rn (d + 5) lam "rounds_from" [lnk 2 R1, st] S = .exc "NoNumber" [] S := fun S => rounds_no2 (d + 1) lam (q2 S) (rs S) (by simp [e1', lk])
  have L5 : ∀ (g : PV) (ws : List Ev.SS), dLam "_law_word" (dCall "walk_numbered" (lCons (dVar 1) (lCons (dCst (.int 0)) (lCons (dCst (.int 1)) (lCons (dVar 5) (lCons (dVar 6) lNil)))))) (cC (d + 5) lam) [some (.rf 0), some (lnk 2 R1), some (lnk 2 R2), some odd, some bad, some st, some num, some (.rf 1), some g] [c, .lst (ws.map PV.str)] = .ok (.str "number") [c, .lst (ws.map PV.str)] := fun g ws => lam_word (d + 4) lam wd3 (by
    dsimp! [cC_call, cC_lam, r5]) (bl ws) (nx ws)
  have L6 : ∀ (g : PV) (ws : List Ev.SS), dLam "_law_word" (dCall "walk_numbered" (lCons (dVar 1) (lCons (dCst (.int 0)) (lCons (dCst (.int 1)) (lCons (dCst (.int 3)) (lCons (dVar 6) lNil)))))) (cC (d + 5) lam) [some (.rf 0), some (lnk 2 R1), some (lnk 2 R2), some odd, some bad, some st, some num, some (.rf 1), some g] [c, .lst (ws.map PV.str)] = .ok (.str "number") [c, .lst (ws.map PV.str)] := fun g ws => lam_word (d + 4) lam wd3 (by
    dsimp! [cC_call, cC_lam, r6]) (bl ws) (nx ws)
  have L7 : ∀ (g : PV) (ws : List Ev.SS), dLam "_law_word" (dCall "rounds_from" (lCons (dVar 2) (lCons (dVar 5) lNil))) (cC (d + 5) lam) [some (.rf 0), some (lnk 2 R1), some (lnk 2 R2), some odd, some bad, some st, some num, some (.rf 1), some g] [c, .lst (ws.map PV.str)] = .ok (.str "square") [c, .lst (ws.map PV.str)] := fun g ws => lam_word (d + 4) lam wd1 (by
    dsimp! [cC_call, cC_lam, r7]) (bl ws) (nx ws)
  have L8 : ∀ (g : PV) (ws : List Ev.SS), dLam "_law_word" (dCall "rounds_from" (lCons (dVar 1) (lCons (dVar 5) lNil))) (cC (d + 5) lam) [some (.rf 0), some (lnk 2 R1), some (lnk 2 R2), some odd, some bad, some st, some num, some (.rf 1), some g] [c, .lst (ws.map PV.str)] = .ok (.str "number") [c, .lst (ws.map PV.str)] := fun g ws => lam_word (d + 4) lam wd3 (by
    dsimp! [cC_call, cC_lam, r8]) (bl ws) (nx ws)
  have A5 := ap (["links", "square", "row", "row", "number", "links", "square", "row", "row", "number"] : List Ev.SS) "number" (by decide)
  have A6 := ap (["links", "square", "row", "row", "number", "links", "square", "row", "row", "number", "number"] : List Ev.SS) "number" (by decide)
  have A7 := ap (["links", "square", "row", "row", "number", "links", "square", "row", "row", "number", "number", "number"] : List Ev.SS) "square" (by decide)
  have A8 := ap (["links", "square", "row", "row", "number", "links", "square", "row", "row", "number", "number", "number", "square"] : List Ev.SS) "number" (by decide)
  have eqf : ∀ C : Cfg, Ev.eqV C (.rf 1) (.ro (wrds.map PV.str)) [c, .lst (wrds.map PV.str)] = .ok true [c, .lst (wrds.map PV.str)] := fun C => by kernel_rfl
  have clo : closeV false [c0] (.bl true) [c, .lst (wrds.map PV.str)] = .ok (.bl true) [c] := closeV_gen (S := [c0]) (S1 := [c]) (X := [.lst (wrds.map PV.str)]) (oldOk_hd (S := [c0]) (c := c) h4 (by simp)) rfl (frz_blw rfl)
  simp only [wrds] at eqf clo
  have mu : binV .Mult (.ro [.str "links", .str "square", .str "row", .str "row", .str "number"]) (.int 2) [c, .lst ((["links", "square", "row", "row", "number", "links", "square", "row", "row", "number", "number", "number", "square", "number"] : List Ev.SS).map PV.str)] = .ok (.ro [.str "links", .str "square", .str "row", .str "row", .str "number", .str "links", .str "square", .str "row", .str "row", .str "number"]) [c, .lst ((["links", "square", "row", "row", "number", "links", "square", "row", "row", "number", "number", "number", "square", "number"] : List Ev.SS).map PV.str)] := by kernel_rfl
  have lo' : ∀ xs, lstOf [c, .lst xs] (.rf 1) = some xs := fun _ => rfl
  simp only [List.map_cons, List.map_nil, List.cons_append, List.nil_append] at R0 R0' A5 A6 A7 A8 eqf clo mu
  have L5' := fun g => L5 g (["links", "square", "row", "row", "number", "links", "square", "row", "row", "number"] : List Ev.SS)
  have L6' := fun g => L6 g (["links", "square", "row", "row", "number", "links", "square", "row", "row", "number", "number"] : List Ev.SS)
  have L7' := fun g => L7 g (["links", "square", "row", "row", "number", "links", "square", "row", "row", "number", "number", "number"] : List Ev.SS)
  have L8' := fun g => L8 g (["links", "square", "row", "row", "number", "links", "square", "row", "row", "number", "number", "number", "square"] : List Ev.SS)
  simp only [List.map_cons, List.map_nil] at L5' L6' L7' L8'
  rw [e1 q_25 rfl rfl]
  dsimp! [d__law_refused, cC_call, cC_lam, k1, k2, a1', a2', a3', a4', forGo, still_nil, R0, R0', lo', L5', L6', L7', L8', A5, A6, A7, A8, mu, eqf, clo]
end Lk85

end
section
set_option Elab.async false
set_option linter.all false
set_option maxRecDepth 100000
set_option maxHeartbeats 1000000
local macro_rules | `(tactic| dsimp! [$ls,*]) => `(tactic| simp only [Ev.dCst_e, Ev.dBin_e, Ev.dBinM_e, Ev.dUn_e, Ev.tCmp_e, Ev.tChn_e, Ev.tAnd_e, Ev.tOr_e, Ev.tNot_e, Ev.tVal_e, Ev.dTst_e, Ev.dAnd_e, Ev.dOr_e, Ev.dNot_e, Ev.dIte_e, Ev.lNil_e, Ev.lCons_e, Ev.dTup_e, Ev.dLst_e, Ev.dIx_e, Ev.pNo_e, Ev.pSome_e, Ev.dSl_e, Ev.dFld_e, Ev.dCall_e, Ev.dCallL_e, Ev.dAct_e, Ev.dMk_e, Ev.dBad_e, Ev.tBad_e, Ev.dIsi_e, Ev.dBi_e, Ev.dMt_e, Ev.iAny_e, Ev.iRng1_e, Ev.iRng2_e, Ev.iEnum_e, Ev.iZip_e, Ev.iRev1_e, Ev.iRev2_e, Ev.tYes_e, Ev.dComp_e, Ev.sNil_e, Ev.sSeq_e, Ev.sSet_e, Ev.sPar_e, Ev.sPut_e, Ev.sFld_e, Ev.sAug_e, Ev.sExpr_e, Ev.sRet_e, Ev.sRetN_e, Ev.sIf_e, Ev.sBrk_e, Ev.sCnt_e, Ev.sRaise_e, Ev.sBad_e, Ev.sTryA_e, Ev.sFor_e, Ev.sWhile_e, Ev.atR_e, Ev.bnd_ok_e, Ev.bnd_exc_e, Ev.guardR_e, Ev.guardS_t_e, Ev.noX_e, Ev.inS_ok_e, Ev.inS_exc_e, Ev.tb_nx_e, Ev.tb_rt_e, Ev.tb_bk_e, Ev.tb_ct_e, Ev.tb_exc_e, Ev.lp_nx_e, Ev.lp_ct_e, Ev.lp_bk_e, Ev.lp_rt_e, Ev.lp_exc_e, Ev.dVar_z, Ev.dVar_s, Ev.dCallL_z, Ev.put_nm, Ev.put_tp, Ev.puts_nil, Ev.puts_cons, Ev.setMany_nil, Ev.setMany_cons, Ev.wipe_nil, Ev.wipe_cons, Ev.startP_e, Ev.sz_0, Ev.sz_1, Ev.sz_2, Ev.sz_3, Ev.sz_4, Ev.sz_5, Ev.sz_6, Ev.sz_7, Ev.sz_8, Ev.sz_9, Ev.sz_10, Ev.sz_11, Ev.sz_12, Ev.sz_13, Ev.sz_14, Ev.sz_15, Ev.sz_16, Ev.sz_17, Ev.sz_18, Ev.sz_19, Ev.sz_20, Ev.add_int, Ev.sub_int, Ev.mul_int, Ev.mod_int, Ev.fdiv_int, Ev.pow_int, Ev.add_tup, Ev.add_ro, Ev.add_str, Ev.neg_int, Ev.ip_add, Ev.ip_sub, Ev.lt_int, Ev.le_int, Ev.gt_int, Ev.ge_int, Ev.eq_e, Ev.ne_e, Ev.is_e, Ev.isn_e, Ev.in_e, Ev.nin_e, Ev.eq_int, Ev.tru_bl, Ev.tru_int, Ev.tru_non, Ev.tru_tup, Ev.tru_ro, Ev.asB_e, Ev.asPart_e, Ev.len_tup, Ev.len_ro, Ev.int_int, Ev.int_bl, Ev.tup_ro, Ev.tup_tup, Ev.sum_ro, Ev.all_ro, Ev.any_ro, Ev.min_int, Ev.max_int, Ev.abs_int, Ev.mk_ro, Ev.mk_rf, Ev.it_tup, Ev.it_ro, Ev.rng1_e, Ev.rng2_e, Ev.enum_tup, Ev.enum_ro, Ev.sl_tup, Ev.sl_ro, Ev.ix_tup, Ev.ix_ro, Ev.lst_ro, Ev.cr_rt, Ev.cr_nx, Ev.cl_int_e, Ev.cl_bl_e, Ev.cl_str_e, Ev.cl_non_e, Ev.blw_nil_e, Ev.blw_cons_e, Ev.at_app, Ev.set_at, Ev.at_app1, Ev.set_at1, List.getElem?_cons_zero, List.getElem?_cons_succ, List.set_cons_zero, List.set_cons_succ, List.map_cons, List.map_nil, List.cons_append, List.nil_append, List.length_cons, List.length_nil, List.reduceReplicate, Nat.reduceAdd, Nat.reduceSub, Nat.zero_add, Option.bind_some, Bool.not_true, Bool.not_false, Bool.false_eq_true, Bool.true_and, Bool.and_true, Bool.false_and, Bool.and_false, if_true, if_false, ite_true, ite_false, Int.toNat_natCast, Option.isSome_some, List.append_assoc, decide_true, decide_false, beq_self_eq_true, $ls,*])
namespace Lk85
open PySem Ev
def R3 : List (List Nat) := [[0, 1], [0]]
theorem sq3 : Sq 2 R3 := ⟨by decide, by decide, rfl, fun r hr => by
  simp only [R3, List.mem_cons, List.not_mem_nil, or_false] at hr
  rcases hr with rfl | rfl <;> exact ⟨by decide, by decide⟩⟩
theorem good3 : Good 2 R3 := ⟨by decide, by decide, by decide, by decide, sq3.asc⟩
def depth : Nat := 6
theorem law_true (lam : Store → Rs PV) (ns : List Int) (hl : ns.length ≤ 63) : ∃ S', rn 7 lam "law" [.scr ns] [] = .ok (.bl true) S' := by
  obtain ⟨S, h, hS, e0⟩ := hand_ok 5 lam ns hl
  obtain ⟨c0, rfl⟩ : ∃ c, S = [c] := by
    cases S with
    | nil => simp at hS
    | cons c S =>
      cases S with
      | nil => exact ⟨c, rfl⟩
      | cons _ _ => simp at hS
  obtain ⟨c1, h1, e1_⟩ := law_refused 0 lam h
  obtain ⟨c2, h2, e2⟩ := case_right 0 lam h1
  obtain ⟨c3, h3, e3⟩ := case_right 0 lam h2
  obtain ⟨c4, h4, e4⟩ := case_right 0 lam h3
  obtain ⟨c5, h5, e5⟩ := case_right 0 lam h4
  simp only [List.set_cons_zero] at e2 e3 e4 e5
  refine ⟨[], ?_⟩
  have k0 : rn 6 lam "_law_hand" [.scr ns] [] = .ok (.rf 0) [c0] := e0
  have k1 : ∀ S, mkV (cC 6 lam) "Links" "Links.__init__" false [.int 2, .tup [.tup [.int 0, .int 1], .tup [.int 0]]] S = .ok (lnk 2 R3) S := fun S => links_mk 2 lam 2 R3 good3 S
  have k2 : ∀ S, rn 6 lam "many_walks" [lnk 2 R3, .int 0, .int 0, .int 10] S = .ok (.int 89) S := fun S => many_ok 2 lam sq3 (b := 0) (g := 0) (steps := 10) S (by decide) (by decide) (by decide)
  have k3 : ∀ S, rn 6 lam "walk_numbered" [lnk 2 R3, .int 0, .int 0, .int 2, .int 1] S = .ok (.tup [.int 0, .int 1, .int 0]) S := fun S => wn_ok 2 lam sq3 (b := 0) (g := 0) (steps := 2) (num := 1) S (by decide) (by decide) (by decide)
  have k4 : ∀ S, rn 6 lam "walks_at_most" [lnk 2 R3, .int 0, .int 1, .int 3] S = .ok (.int 4) S := fun S => most_ok 2 lam sq3 (b := 0) (g := 1) (steps := 3) S (by decide) (by decide) (by decide)
  have k5 : ∀ S, rn 6 lam "rounds_from" [lnk 2 R3, .int 3] S = .ok (.int 4) S := fun S => rounds_ok 2 lam sq3 (steps := 3) S (by decide)
  have k6 : ∀ S, rn 6 lam "_law_is" [.ro [.int 89, .tup [.int 0, .int 1, .int 0], .int 4, .int 4], .ro [.int 89, .tup [.int 0, .int 1, .int 0], .int 4, .int 4]] S = .ok (.bl true) S := fun S => law_is lam 2 3 _ (.inr ⟨_, .inr rfl, by simp, fun x hx => by
    simp only [List.mem_cons, List.not_mem_nil, or_false] at hx
    rcases hx with rfl | rfl | rfl | rfl
    · exact .inl (.inr ⟨_, rfl⟩)
    · refine .inr ⟨_, .inl rfl, by simp, fun y hy => ?_⟩
      simp only [List.mem_cons, List.not_mem_nil, or_false] at hy
      rcases hy with rfl | rfl | rfl <;> exact .inr ⟨_, rfl⟩
    · exact .inl (.inr ⟨_, rfl⟩)
    · exact .inl (.inr ⟨_, rfl⟩)⟩) S
  have k7 : rn 6 lam "_law_refused" [.rf 0] [c0] = .ok (.bl true) [c1] := e1_
  have sm : small62 4 = true := small_of (by decide) (by decide)
  have sz : decide ((rngL 0 (Int.toNat 4)).length ≤ sizeLine) = true := by decide
  have rg : rngL 0 (Int.toNat 4) = [.int 0, .int 1, .int 2, .int 3] := rfl
  have al : blsOf [.bl true, .bl true, .bl true, .bl true] = some [true, true, true, true] := rfl
  have al2 : ([true, true, true, true].all id) = true := rfl
  have clo : closeV false [] (.bl true) [c5] = .ok (.bl true) [] := closeV_gen (S := []) (S1 := []) (X := [c5]) rfl rfl (frz_blw rfl)
  rw [e1 q_26 rfl rfl]
  rw [rg] at sz
  dsimp! [d_law, cC_call, cC_lam, k0, k1, k2, k3, k4, k5, k6, k7, c_law_0, sm, rg, compGo, still_nil, e2, e3, e4, e5, al, al2, clo]
theorem final : ∀ ns : List Int, ns.length ≤ 63 → ∃ S', runF T law.flF law.subF 1000 (depth + 1) (fun _ => .bad) "law" [.scr ns] [] = .ok (.bl true) S' := fun ns h => law_true (fun _ => .bad) ns h
end Lk85

end
section
set_option Elab.async false
set_option linter.all false
set_option maxRecDepth 100000
set_option maxHeartbeats 0
open PySem PySem.Spec PyProof.Rows L2 LamX Ev
namespace Lk85
theorem p_0 : DPure i_0 := ⟨fun _ _ _ _ _ _ us hl => (match us, hl with | [_], _ => by kernel_rfl), ⟨by kernel_rfl, by kernel_rfl, by kernel_rfl, by decide +kernel, by kernel_rfl, by decide +kernel, by decide +kernel⟩, fun h => absurd (show false = true from h) Bool.false_ne_true, rfl, rfl⟩
theorem p_1 : DPure i_1 := ⟨fun _ _ _ _ _ _ us hl => (match us, hl with | [_, _, _], _ => by kernel_rfl), ⟨by kernel_rfl, by kernel_rfl, by kernel_rfl, by decide +kernel, by kernel_rfl, by decide +kernel, by decide +kernel⟩, fun h => absurd (show false = true from h) Bool.false_ne_true, rfl, rfl⟩
theorem p_2 : DPure i_2 := ⟨fun _ _ _ _ _ _ us hl => (match us, hl with | [_, _], _ => by kernel_rfl), ⟨by kernel_rfl, by kernel_rfl, by kernel_rfl, by decide +kernel, by kernel_rfl, by decide +kernel, by decide +kernel⟩, fun h => absurd (show false = true from h) Bool.false_ne_true, rfl, rfl⟩
theorem p_3 : DPure i_3 := ⟨fun _ _ _ _ _ _ us hl => (match us, hl with | [_, _, _], _ => by kernel_rfl), ⟨by kernel_rfl, by kernel_rfl, by kernel_rfl, by decide +kernel, by kernel_rfl, by decide +kernel, by decide +kernel⟩, fun h => absurd (show false = true from h) Bool.false_ne_true, rfl, rfl⟩
theorem p_4 : DPure i_4 := ⟨fun _ _ _ _ _ _ us hl => (match us, hl with | [_], _ => by kernel_rfl), ⟨by kernel_rfl, by kernel_rfl, by kernel_rfl, by decide +kernel, by kernel_rfl, by decide +kernel, by decide +kernel⟩, fun h => absurd (show false = true from h) Bool.false_ne_true, rfl, rfl⟩
theorem p_5 : DPure i_5 := ⟨fun _ _ _ _ _ _ us hl => (match us, hl with | [_], _ => by kernel_rfl), ⟨by kernel_rfl, by kernel_rfl, by kernel_rfl, by decide +kernel, by kernel_rfl, by decide +kernel, by decide +kernel⟩, fun h => absurd (show false = true from h) Bool.false_ne_true, rfl, rfl⟩
theorem p_6 : DPure i_6 := ⟨fun _ _ _ _ _ _ us hl => (match us, hl with | [_], _ => by kernel_rfl), ⟨by kernel_rfl, by kernel_rfl, by kernel_rfl, by decide +kernel, by kernel_rfl, by decide +kernel, by decide +kernel⟩, fun h => absurd (show false = true from h) Bool.false_ne_true, rfl, rfl⟩
theorem p_7 : DPure i_7 := ⟨fun _ _ _ _ _ _ us hl => (match us, hl with | [_, _, _], _ => by kernel_rfl), ⟨by kernel_rfl, by kernel_rfl, by kernel_rfl, by decide +kernel, by kernel_rfl, by decide +kernel, by decide +kernel⟩, fun h => absurd (show false = true from h) Bool.false_ne_true, rfl, rfl⟩
theorem p_8 : DPure i_8 := ⟨fun _ _ _ _ _ _ us hl => (match us, hl with | [_], _ => by kernel_rfl), ⟨by kernel_rfl, by kernel_rfl, by kernel_rfl, by decide +kernel, by kernel_rfl, by decide +kernel, by decide +kernel⟩, fun h => absurd (show false = true from h) Bool.false_ne_true, rfl, rfl⟩
theorem p_9 : DPure i_9 := ⟨fun _ _ _ _ _ _ us hl => (match us, hl with | [_, _], _ => by kernel_rfl), ⟨by kernel_rfl, by kernel_rfl, by kernel_rfl, by decide +kernel, by kernel_rfl, by decide +kernel, by decide +kernel⟩, fun h => absurd (show false = true from h) Bool.false_ne_true, rfl, rfl⟩
theorem p_10 : DPure i_10 := ⟨fun _ _ _ _ _ _ us hl => (match us, hl with | [_, _, _], _ => by kernel_rfl), ⟨by kernel_rfl, by kernel_rfl, by kernel_rfl, by decide +kernel, by kernel_rfl, by decide +kernel, by decide +kernel⟩, fun h => absurd (show false = true from h) Bool.false_ne_true, rfl, rfl⟩
theorem p_11 : DPure i_11 := ⟨fun _ _ _ _ _ _ us hl => (match us, hl with | [_, _, _, _], _ => by kernel_rfl), ⟨by kernel_rfl, by kernel_rfl, by kernel_rfl, by decide +kernel, by kernel_rfl, by decide +kernel, by decide +kernel⟩, fun h => absurd (show false = true from h) Bool.false_ne_true, rfl, rfl⟩
theorem p_12 : DPure i_12 := ⟨fun _ _ _ _ _ _ us hl => (match us, hl with | [_, _, _, _, _], _ => by kernel_rfl), ⟨by kernel_rfl, by kernel_rfl, by kernel_rfl, by decide +kernel, by kernel_rfl, by decide +kernel, by decide +kernel⟩, fun h => absurd (show false = true from h) Bool.false_ne_true, rfl, rfl⟩
theorem p_13 : DPure i_13 := ⟨fun _ _ _ _ _ _ us hl => (match us, hl with | [_, _, _, _], _ => by kernel_rfl), ⟨by kernel_rfl, by kernel_rfl, by kernel_rfl, by decide +kernel, by kernel_rfl, by decide +kernel, by decide +kernel⟩, fun h => absurd (show false = true from h) Bool.false_ne_true, rfl, rfl⟩
theorem p_14 : DPure i_14 := ⟨fun _ _ _ _ _ _ us hl => (match us, hl with | [_, _], _ => by kernel_rfl), ⟨by kernel_rfl, by kernel_rfl, by kernel_rfl, by decide +kernel, by kernel_rfl, by decide +kernel, by decide +kernel⟩, fun h => absurd (show false = true from h) Bool.false_ne_true, rfl, rfl⟩
theorem p_15 : DPure i_15 := ⟨fun _ _ _ _ _ _ us hl => (match us, hl with | [_], _ => by kernel_rfl), ⟨by kernel_rfl, by kernel_rfl, by kernel_rfl, by decide +kernel, by kernel_rfl, by decide +kernel, by decide +kernel⟩, fun h => absurd (show false = true from h) Bool.false_ne_true, rfl, rfl⟩
theorem p_16 : DPure i_16 := ⟨fun _ _ _ _ _ _ us hl => (match us, hl with | [_, _], _ => by kernel_rfl), ⟨by kernel_rfl, by kernel_rfl, by kernel_rfl, by decide +kernel, by kernel_rfl, by decide +kernel, by decide +kernel⟩, fun h => absurd (show false = true from h) Bool.false_ne_true, rfl, rfl⟩
theorem p_17 : DPure i_17 := ⟨fun _ _ _ _ _ _ us hl => (match us, hl with | [_, _], _ => by kernel_rfl), ⟨by kernel_rfl, by kernel_rfl, by kernel_rfl, by decide +kernel, by kernel_rfl, by decide +kernel, by decide +kernel⟩, fun h => absurd (show false = true from h) Bool.false_ne_true, rfl, rfl⟩
theorem p_18 : DPure i_18 := ⟨fun _ _ _ _ _ _ us hl => (match us, hl with | [_, _], _ => by kernel_rfl), ⟨by kernel_rfl, by kernel_rfl, by kernel_rfl, by decide +kernel, by kernel_rfl, by decide +kernel, by decide +kernel⟩, fun h => absurd (show false = true from h) Bool.false_ne_true, rfl, rfl⟩
theorem p_19 : DPure i_19 := ⟨fun _ _ _ _ _ _ us hl => (match us, hl with | [_, _], _ => by kernel_rfl), ⟨by kernel_rfl, by kernel_rfl, by kernel_rfl, by decide +kernel, by kernel_rfl, by decide +kernel, by decide +kernel⟩, fun h => absurd (show false = true from h) Bool.false_ne_true, rfl, rfl⟩
theorem p_20 : DPure i_20 := ⟨fun _ _ _ _ _ _ us hl => (match us, hl with | [_, _, _], _ => by kernel_rfl), ⟨by kernel_rfl, by kernel_rfl, by kernel_rfl, by decide +kernel, by kernel_rfl, by decide +kernel, by decide +kernel⟩, fun h => absurd (show false = true from h) Bool.false_ne_true, rfl, rfl⟩
theorem p_21 : DPure i_21 := ⟨fun _ _ _ _ _ _ us hl => (match us, hl with | [_, _, _, _], _ => by kernel_rfl), ⟨by kernel_rfl, by kernel_rfl, by kernel_rfl, by decide +kernel, by kernel_rfl, by decide +kernel, by decide +kernel⟩, fun h => absurd (show false = true from h) Bool.false_ne_true, rfl, rfl⟩
theorem p_22 : DPure i_22 := ⟨fun _ _ _ _ _ _ us hl => (match us, hl with | [_, _, _, _, _], _ => by kernel_rfl), ⟨by kernel_rfl, by kernel_rfl, by kernel_rfl, by decide +kernel, by kernel_rfl, by decide +kernel, by decide +kernel⟩, fun h => absurd (show false = true from h) Bool.false_ne_true, rfl, rfl⟩
theorem p_23 : DPure i_23 := ⟨fun _ _ _ _ _ _ us hl => (match us, hl with | [_], _ => by kernel_rfl), ⟨by kernel_rfl, by kernel_rfl, by kernel_rfl, by decide +kernel, by kernel_rfl, by decide +kernel, by decide +kernel⟩, fun h => absurd (show false = true from h) Bool.false_ne_true, rfl, rfl⟩
theorem p_24 : DPure i_24 := ⟨fun _ _ _ _ _ _ us hl => (match us, hl with | [_], _ => by kernel_rfl), ⟨by kernel_rfl, by kernel_rfl, by kernel_rfl, by decide +kernel, by kernel_rfl, by decide +kernel, by decide +kernel⟩, fun _ => ⟨rfl, rfl, rfl, "call", rfl, by kernel_rfl, .inl (by kernel_rfl)⟩, rfl, rfl⟩
theorem p_25 : DPure i_25 := ⟨fun _ _ _ _ _ _ us hl => (match us, hl with | [_], _ => by kernel_rfl), ⟨by kernel_rfl, by kernel_rfl, by kernel_rfl, by decide +kernel, by kernel_rfl, by decide +kernel, by decide +kernel⟩, fun h => absurd (show false = true from h) Bool.false_ne_true, rfl, rfl⟩
theorem p_26 : DPure i_26 := ⟨fun _ _ _ _ _ _ us hl => (match us, hl with | [_], _ => by kernel_rfl), ⟨by kernel_rfl, by kernel_rfl, by kernel_rfl, by decide +kernel, by kernel_rfl, by decide +kernel, by decide +kernel⟩, fun h => absurd (show false = true from h) Bool.false_ne_true, rfl, rfl⟩
theorem pure_ : ∀ i ∈ law.ds, DPure i := List.forall_mem_cons.mpr ⟨p_0, List.forall_mem_cons.mpr ⟨p_1, List.forall_mem_cons.mpr ⟨p_2, List.forall_mem_cons.mpr ⟨p_3, List.forall_mem_cons.mpr ⟨p_4, List.forall_mem_cons.mpr ⟨p_5, List.forall_mem_cons.mpr ⟨p_6, List.forall_mem_cons.mpr ⟨p_7, List.forall_mem_cons.mpr ⟨p_8, List.forall_mem_cons.mpr ⟨p_9, List.forall_mem_cons.mpr ⟨p_10, List.forall_mem_cons.mpr ⟨p_11, List.forall_mem_cons.mpr ⟨p_12, List.forall_mem_cons.mpr ⟨p_13, List.forall_mem_cons.mpr ⟨p_14, List.forall_mem_cons.mpr ⟨p_15, List.forall_mem_cons.mpr ⟨p_16, List.forall_mem_cons.mpr ⟨p_17, List.forall_mem_cons.mpr ⟨p_18, List.forall_mem_cons.mpr ⟨p_19, List.forall_mem_cons.mpr ⟨p_20, List.forall_mem_cons.mpr ⟨p_21, List.forall_mem_cons.mpr ⟨p_22, List.forall_mem_cons.mpr ⟨p_23, List.forall_mem_cons.mpr ⟨p_24, List.forall_mem_cons.mpr ⟨p_25, List.forall_mem_cons.mpr ⟨p_26, fun _ h => nomatch h⟩⟩⟩⟩⟩⟩⟩⟩⟩⟩⟩⟩⟩⟩⟩⟩⟩⟩⟩⟩⟩⟩⟩⟩⟩⟩⟩
theorem boot_ : (law.G.all fun p => bootB p.1 p.2) = true := by kernel_rfl
theorem tabOk : tabOf T law.G 16 10 law.ds := tab_of (L := law) (by kernel_rfl) rfl
theorem run (w : World) : HandSHeadRun.RunEq R (PySem.W.view R.prog [39]) hk ob 20000 loose w := by
  intro os
  kernel_rfl
end Lk85

end
namespace Lk85
end Lk85
set_option Elab.async false
set_option linter.all false
set_option maxRecDepth 100000
set_option maxHeartbeats 0
open PySem PySem.W PySem.Calls PyProof.Rows
theorem PySem.Challenge.cw_whotowhom_k85_whole_walks_counted_and_nu_holds : PySem.Challenge.rw_whotowhom_k85_whole_walks_counted_and_nu.Holds := by
  w_on; o_law
  refine HandSHeadRun.head_any (r := OpenLaw.row PySem.Challenge.rw_whotowhom_k85_whole_walks_counted_and_nu) (q := view (OpenLaw.row PySem.Challenge.rw_whotowhom_k85_whole_walks_counted_and_nu).prog [39]) (H := Lk85.hk) (ob := Lk85.ob) (M := 20000) (loose := Lk85.loose) (d := HandSHeadRun.topDef (OpenLaw.row PySem.Challenge.rw_whotowhom_k85_whole_walks_counted_and_nu).prog 39) (kwd := []) Lk85.ob_eq
    (by kernel_rfl) (fun s => by kernel_rfl) Lk85.run (by kernel_rfl) (by kernel_rfl) (by kernel_rfl) (by rfl) (by first | assumption | decide +kernel) (by decide +kernel) ⟨rfl, rfl, rfl, rfl, rfl, by decide +kernel⟩ ?hw ?hc
  case hw => w_witness2
  case hc =>
    refine LamX.walk_ofTsE (l := PySem.Challenge.rw_whotowhom_k85_whole_walks_counted_and_nu) (n := 63) (k := 4 * (Lk85.depth + 1)) (x := "script") (CX := fun w => L2.CX (PySem.Challenge.rw_whotowhom_k85_whole_walks_counted_and_nu).prog w) rfl (by decide) (by kernel_rfl) ⟨rfl, by decide, by decide⟩ ?F (fun w H s e s' z => by obtain ⟨_, _, _, _, _, _, _, _, _, _, _, _, f⟩ := z; exact f)
    intro w mg fa h Y Gn hmg0
    obtain ⟨K, KX, c, ck, tt⟩ := Y
    have hmg : mg ("law" : PySem.Str) = some (.ref fa) := by
      have e : (HandSHeadRun.topDef (OpenLaw.row PySem.Challenge.rw_whotowhom_k85_whole_walks_counted_and_nu).prog 39).name = ("law" : PySem.Str) := by kernel_rfl
      rw [← e]
      exact hmg0
    exact ⟨K, KX, Ev.law_at (L := Lk85.law) (i := Lk85.i_26) (T := Lk85.T) (fuel := 1000) (d := Lk85.depth) (x := "script") KX Gn hmg c ck Lk85.boot_ Lk85.pure_ tt Lk85.tabOk (by simp [Lk85.law]) rfl rfl rfl rfl (by simp [Lk85.law, Lk85.G, Lk85.i_26]) fun ns hl hb => Lk85.final ns hl⟩

