import PyProof.Rows.All
import HandS.ForMost
import HandS.Exc
import HandS.ExcOwn
import HandS.WordsExc
import HandS.IsInst
import HandS.Flow
import HandS.Iter
import HandS.ExcInit
import HandS.ExcField
import HandS.ExcIs
import HandS.Text
import HandS.RaiseMore
import KE.KExcIs
import Wide.All
import OpenK.AllK
import Wide.FinOn
import PySem.Challenge.RW_layerask_k42_errors_of_tokens
/-! MvCore: values as trees, outcomes, and the combinators into which a def of the program is turned. Core Lean only. -/
set_option autoImplicit false
namespace Mv

/-- a value: tuples, locked lists and locked dicts are trees; what may change is a cell of the heap -/
inductive MV where
  | non | bl (b : Bool) | int (i : Int) | str (s : List Nat)
  | tup (xs : List MV) | lst (xs : List MV) | dct (ks vs : List MV)
  | ref (n : Nat) | scr (xs : List MV)
  deriving Inhabited, Repr

inductive HObj where
  | lst (xs : List MV) | dct (ks vs : List MV) | ins (c : Nat) (fs : List MV)
  deriving Inhabited, Repr
abbrev MH := List HObj

/-- a slot: without a value; a value; a list of this def's own, that nobody else knows; a caught error (its class, its fields) -/
inductive Slot where
  | non | val (v : MV) | own (xs : List MV) | xc (c : Nat) (fs : List MV)
  deriving Inhabited, Repr
abbrev Sg := List Slot

inductive Out (α : Type) where
  | ok (a : α) (M : MH) | exc (c : Nat) (fs : List MV) (M : MH) | bad
  deriving Inhabited, Repr
abbrev Ex (α : Type) := Sg → MH → Out α

inductive Fl where
  | nx (S : Sg) (M : MH) | rt (v : MV) (M : MH) | bk (S : Sg) (M : MH) | ct (S : Sg) (M : MH)
  | exc (c : Nat) (fs : List MV) (S : Sg) (M : MH) | bad
  deriving Inhabited, Repr
abbrev Cm := Sg → MH → Fl

/-! ### equality of data -/
mutual
def MV.beq : MV → MV → Bool
  | .non, .non => true
  | .bl a, .bl b => a == b
  | .int a, .int b => a == b
  | .str a, .str b => a == b
  | .tup a, .tup b => MV.beqs a b
  | .lst a, .lst b => MV.beqs a b
  | .dct a b, .dct c d => MV.beqs a c && MV.beqs b d
  | .ref a, .ref b => a == b
  | .scr a, .scr b => MV.beqs a b
  | _, _ => false
def MV.beqs : List MV → List MV → Bool
  | [], [] => true
  | x :: xs, y :: ys => MV.beq x y && MV.beqs xs ys
  | _, _ => false
end
mutual
theorem MV.beq_iff : ∀ a b : MV, MV.beq a b = true ↔ a = b
  | .non, b => by cases b <;> simp [MV.beq]
  | .bl _, b => by cases b <;> simp [MV.beq]
  | .int _, b => by cases b <;> simp [MV.beq]
  | .str _, b => by cases b <;> simp [MV.beq]
  | .tup xs, b => by cases b <;> simp [MV.beq, MV.beqs_iff xs]
  | .lst xs, b => by cases b <;> simp [MV.beq, MV.beqs_iff xs]
  | .dct ks vs, b => by cases b <;> simp [MV.beq, MV.beqs_iff ks, MV.beqs_iff vs]
  | .ref _, b => by cases b <;> simp [MV.beq]
  | .scr xs, b => by cases b <;> simp [MV.beq, MV.beqs_iff xs]
theorem MV.beqs_iff : ∀ a b : List MV, MV.beqs a b = true ↔ a = b
  | [], b => by cases b <;> simp [MV.beqs]
  | x :: xs, b => by cases b <;> simp [MV.beqs, MV.beq_iff x, MV.beqs_iff xs]
end
instance : DecidableEq MV := fun a b => if h : MV.beq a b = true then .isTrue ((MV.beq_iff a b).mp h) else .isFalse fun e => h ((MV.beq_iff a b).mpr e)

/-! plain data: no cell, no dict, no truth value; texts of code points; its depth -/
mutual
def MV.plain : MV → Bool
  | .non => true
  | .int _ => true
  | .str s => s.all (· < 1114112)
  | .tup xs => MV.plains xs
  | .lst xs => MV.plains xs
  | _ => false
def MV.plains : List MV → Bool
  | [] => true
  | x :: xs => MV.plain x && MV.plains xs
end
mutual
def MV.dep : MV → Nat
  | .tup xs => MV.deps xs + 1
  | .lst xs => MV.deps xs + 1
  | _ => 0
def MV.deps : List MV → Nat
  | [] => 0
  | x :: xs => max (MV.dep x) (MV.deps xs)
end

/-- a place in a list by an int of any sign -/
def ixN (n : Nat) (i : Int) : Option Nat := if 0 ≤ i then (if i < n then some i.toNat else none) else if -(n : Int) ≤ i then some (i + n).toNat else none
def atM {α : Type} (xs : List α) (i : Int) : Option α := (ixN xs.length i).bind fun j => xs[j]?

/-! ### expressions -/
section
variable {α β : Type}
@[simp] def retE (a : α) : Ex α := fun _ M => .ok a M
@[simp] def bindE (x : Ex α) (y : α → Ex β) : Ex β := fun S M => match x S M with
  | .ok a M' => y a S M'
  | .exc c fs M' => .exc c fs M'
  | .bad => .bad
@[simp] def ofOpt (o : Option α) : Ex α := fun _ M => match o with
  | some a => .ok a M
  | none => .bad
end
@[simp] def varE (i : Nat) : Ex MV := fun S M => match S[i]? with
  | some (.val v) => .ok v M
  | _ => .bad
@[simp] def op2E (f : MV → MV → Option MV) (a b : Ex MV) : Ex MV := bindE a fun x => bindE b fun y => ofOpt (f x y)
/-- an operation that reads the heap -/
@[simp] def op2H (f : MH → MV → MV → Option MV) (a b : Ex MV) : Ex MV := bindE a fun x => bindE b fun y => fun S M => ofOpt (f M x y) S M
@[simp] def op1E (f : MV → Option MV) (a : Ex MV) : Ex MV := bindE a fun x => ofOpt (f x)
@[simp] def op1H (f : MH → MV → Option MV) (a : Ex MV) : Ex MV := bindE a fun x => fun S M => ofOpt (f M x) S M
@[simp] def nilA : Ex (List MV) := retE []
@[simp] def consA (a : Ex MV) (r : Ex (List MV)) : Ex (List MV) := bindE a fun x => bindE r fun xs => retE (x :: xs)
@[simp] def tupE (a : Ex (List MV)) : Ex MV := bindE a fun xs => ofOpt (if xs.length ≤ 16777216 then some (.tup xs) else none)
/-- a new list, not yet given to anybody -/
@[simp] def lstL (a : Ex (List MV)) : Ex (List MV) := bindE a fun xs => ofOpt (if xs.length ≤ 16777216 then some xs else none)
/-- .. locked for ever; .. a cell of the heap -/
@[simp] def frzE (a : Ex (List MV)) : Ex MV := bindE a fun xs => retE (.lst xs)
@[simp] def shrE (a : Ex (List MV)) : Ex MV := bindE a fun xs => fun _ M => .ok (.ref M.length) (M ++ [.lst xs])
@[simp] def callE (g : List MV → MH → Out MV) (a : Ex (List MV)) : Ex MV := bindE a fun xs => fun _ M => g xs M
/-- a built-in function of values -/
@[simp] def bltH (f : MH → List MV → Option MV) (a : Ex (List MV)) : Ex MV := bindE a fun xs => fun S M => ofOpt (f M xs) S M
@[simp] def bltL (f : MH → List MV → Option (List MV)) (a : Ex (List MV)) : Ex (List MV) := bindE a fun xs => fun S M => ofOpt (f M xs) S M
/-- the class of the instance at a cell -/
@[simp] def insOf (M : MH) (C : Nat) : MV → Option (List MV)
  | .ref n => match M[n]? with
    | some (.ins c fs) => if c = C then some fs else none
    | _ => none
  | _ => none
@[simp] def methE (C : Nat) (g : List MV → MH → Out MV) (o : Ex MV) (a : Ex (List MV)) : Ex MV := bindE o fun x => fun S M => match insOf M C x with
  | some _ => bindE a (fun xs => fun _ M' => g (x :: xs) M') S M
  | none => .bad
@[simp] def makeE (C : Nat) (g : List MV → MH → Out MV) (a : Ex (List MV)) : Ex MV := bindE a fun xs => fun _ M => match g (.ref M.length :: xs) (M ++ [.ins C []]) with
  | .ok .non M' => .ok (.ref M.length) M'
  | .exc c fs M' => .exc c fs M'
  | _ => .bad
@[simp] def fldE (C k : Nat) (o : Ex MV) : Ex MV := bindE o fun x => fun S M => ofOpt ((insOf M C x).bind fun fs => fs[k]?) S M

/-! ### tests -/
abbrev Te := Ex Bool
@[simp] def asT (a : Ex MV) : Te := bindE a fun x => ofOpt (match x with | .bl b => some b | _ => none)
/-- the truth of any value -/
@[simp] def truV (M : MH) : MV → Option Bool
  | .non => some false
  | .bl b => some b
  | .int i => some (i != 0)
  | .str s => if s.length ≤ 16777216 then some (!s.isEmpty) else none
  | .tup xs => some (!xs.isEmpty)
  | .lst xs => some (!xs.isEmpty)
  | .scr xs => some (!xs.isEmpty)
  | .ref n => match M[n]? with
    | some (.lst xs) => some (!xs.isEmpty)
    | _ => none
  | _ => none
@[simp] def truT (a : Ex MV) : Te := bindE a fun x => fun S M => ofOpt (truV M x) S M
@[simp] def notT (a : Te) : Te := bindE a fun b => retE (!b)
@[simp] def andT (a b : Te) : Te := bindE a fun x => if x = true then b else retE false
@[simp] def orT (a b : Te) : Te := bindE a fun x => if x = true then retE true else b
/-- a test as a value -/
@[simp] def ofT (a : Te) : Ex MV := bindE a fun b => retE (.bl b)
@[simp] def iteE (t : Te) (a b : Ex MV) : Ex MV := bindE t fun x => if x = true then a else b

@[simp] def onBl (x : MV) (f : Bool → Ex MV) : Ex MV := match x with
  | .bl k => f k
  | _ => ofOpt none
@[simp] def onOpt (x : Option MV) (f : MV → Ex MV) : Ex MV := match x with
  | some k => f k
  | none => ofOpt none
/-- a op b op' c -/
@[simp] def chainE (f g : MV → MV → Option MV) (a b c : Ex MV) : Ex MV := bindE a fun x => bindE b fun y => onOpt (f x y) fun z => onBl z fun k => if k = true then bindE c fun w => ofOpt (g y w) else retE (.bl false)
/-- and, or of truth values, as a value -/
@[simp] def andV (a b : Ex MV) : Ex MV := bindE a fun x => onBl x fun k => if k = true then b else retE (.bl false)
@[simp] def orV (a b : Ex MV) : Ex MV := bindE a fun x => onBl x fun k => if k = true then retE (.bl true) else b
@[simp] def notV (a : Ex MV) : Ex MV := bindE a fun x => ofOpt (match x with | .bl k => some (.bl (!k)) | _ => none)
/-- a part of a slice -/
@[simp] def partE (a : Ex MV) : Ex (Option Int) := bindE a fun x => ofOpt (match x with | .int i => some (some i) | _ => none)
@[simp] def noPart : Ex (Option Int) := retE none
def cutI (n d : Nat) : Option Int → Nat
  | none => d
  | some i => if i < 0 then (i + (n : Int)).toNat else min i.toNat n
def cutM {α : Type} (xs : List α) (lo hi : Option Int) : List α := (xs.drop (cutI xs.length 0 lo)).take (cutI xs.length xs.length hi - cutI xs.length 0 lo)
@[simp] def slM (x : MV) (lo hi : Option Int) : Option MV := match x with
  | .str s => if s.length ≤ 16777216 then some (.str (cutM s lo hi)) else none
  | .lst xs => some (.lst (cutM xs lo hi))
  | .scr xs => some (.lst (cutM xs lo hi))
  | _ => none
@[simp] def sliceE (a : Ex MV) (l u : Ex (Option Int)) : Ex MV := bindE a fun x => bindE l fun lo => bindE u fun hi => ofOpt (slM x lo hi)
/-- an item -/
@[simp] def ixM (M : MH) (x y : MV) : Option MV := match x, y with
  | .str s, .int i => if s.length ≤ 16777216 then (atM s i).map fun c => .str [c] else none
  | .tup xs, .int i => atM xs i
  | .lst xs, .int i => atM xs i
  | .scr xs, .int i => atM xs i
  | .ref n, .int i => match M[n]? with
    | some (.lst xs) => atM xs i
    | _ => none
  | _, _ => none
@[simp] def ixE (a b : Ex MV) : Ex MV := op2H ixM a b
/-- a method of a built-in type; ty: which type is asked for -/
@[simp] def isStr : MV → Bool | .str _ => true | _ => false
@[simp] def methV (ty : MV → Bool) (f : MV → List MV → Option MV) (o : Ex MV) (a : Ex (List MV)) : Ex MV := bindE o fun x => if ty x = true then bindE a fun xs => ofOpt (f x xs) else ofOpt none

/-! ### targets -/
abbrev Tg := MV → Sg → Option Sg
abbrev Tgs := List MV → Sg → Option Sg
@[simp] def nameG (i : Nat) : Tg := fun v S => some (S.set i (.val v))
@[simp] def nilG : Tgs := fun vs S => match vs with | [] => some S | _ => none
@[simp] def consG (t : Tg) (u : Tgs) : Tgs := fun vs S => match vs with
  | v :: r => match t v S with
    | some S' => u r S'
    | none => none
  | [] => none
@[simp] def tupG (t : Tgs) : Tg := fun v S => match v with
  | .tup xs => t xs S
  | _ => none

/-! ### statements -/
@[simp] def skipC : Cm := fun S M => .nx S M
@[simp] def seqC (x y : Cm) : Cm := fun S M => match x S M with
  | .nx S' M' => y S' M'
  | o => o
/-- what comes of an expression goes on -/
@[simp] def bindC {α : Type} (x : Ex α) (y : α → Cm) : Cm := fun S M => match x S M with
  | .ok a M' => y a S M'
  | .exc c fs M' => .exc c fs S M'
  | .bad => .bad
@[simp] def dropC (x : Ex MV) : Cm := bindC x fun _ => skipC
@[simp] def retC (x : Ex MV) : Cm := bindC x fun v => fun _ M => .rt v M
@[simp] def retN : Cm := fun _ M => .rt .non M
@[simp] def brkC : Cm := fun S M => .bk S M
@[simp] def cntC : Cm := fun S M => .ct S M
@[simp] def asgC (x : Ex MV) (g : Tg) : Cm := bindC x fun v => fun S M => match g v S with
  | some S' => .nx S' M
  | none => .bad
@[simp] def ownC (i : Nat) (x : Ex (List MV)) : Cm := bindC x fun xs => fun S M => .nx (S.set i (.own xs)) M
/-- the own list at slot i is locked -/
@[simp] def frzC (i : Nat) : Cm := fun S M => match S[i]? with
  | some (.own xs) => .nx (S.set i (.val (.lst xs))) M
  | _ => .bad
/-- .. becomes a cell of the heap -/
@[simp] def shrC (i : Nat) : Cm := fun S M => match S[i]? with
  | some (.own xs) => .nx (S.set i (.val (.ref M.length))) (M ++ [.lst xs])
  | _ => .bad
@[simp] def ifC (t : Te) (a b : Cm) : Cm := bindC t fun x => if x = true then a else b
@[simp] def onOwn (i : Nat) (f : List MV → Cm) : Cm := fun S M => match S[i]? with
  | some (.own xs) => f xs S M
  | _ => .bad
@[simp] def appOwn (i : Nat) (x : Ex MV) : Cm := onOwn i fun xs => bindC x fun v => fun S M => if xs.length < 16777216 then .nx (S.set i (.own (xs ++ [v]))) M else .bad
@[simp] def extOwn (i : Nat) (x : Ex (List MV)) : Cm := onOwn i fun xs => bindC x fun vs => fun S M => if xs.length + vs.length ≤ 16777216 then .nx (S.set i (.own (xs ++ vs))) M else .bad
@[simp] def lenOwn (i : Nat) : Ex MV := fun S M => match S[i]? with
  | some (.own xs) => .ok (.int xs.length) M
  | _ => .bad
/-- an item of an own list -/
@[simp] def ixOwn (i : Nat) (b : Ex MV) : Ex MV := fun S M => match S[i]? with
  | some (.own xs) => bindE b (fun k => ofOpt (match k with | .int z => atM xs z | _ => none)) S M
  | _ => .bad
/-- a list cell changed -/
@[simp] def lstOf (M : MH) : MV → Option (Nat × List MV)
  | .ref n => match M[n]? with
    | some (.lst xs) => some (n, xs)
    | _ => none
  | _ => none
@[simp] def onLst {α : Type} (bad : α) (a : MV) (k : Sg → MH → α) : Sg → MH → α := fun S M => match lstOf M a with
  | some _ => k S M
  | none => bad
@[simp] def appRef (o x : Ex MV) : Cm := bindC o fun a => onLst .bad a (bindC x fun v => fun S M => match lstOf M a with
  | some (n, xs) => if xs.length < 16777216 then .nx S (M.set n (.lst (xs ++ [v]))) else .bad
  | none => .bad)
/-- o[i] = x : x first, then o, then i -/
@[simp] def setRef (o i x : Ex MV) : Cm := bindC x fun v => bindC o fun a => bindC i fun k => fun S M => match lstOf M a, k with
  | some (n, xs), .int z => match ixN xs.length z with
    | some j => .nx S (M.set n (.lst (xs.set j v)))
    | none => .bad
  | _, _ => .bad
/-- o.pop(i), an expression -/
@[simp] def popRef (o : Ex MV) (i : Ex MV) : Ex MV := bindE o fun a => onLst .bad a (bindE i fun k => fun _ M => match lstOf M a, k with
  | some (n, xs), .int z => if z.natAbs < 1000000 then (match ixN xs.length z with
    | some j => match xs[j]? with
      | some v => .ok v (M.set n (.lst (xs.eraseIdx j)))
      | none => .bad
    | none => .bad) else .bad
  | _, _ => .bad)
/-- o.f = x : x first, then o -/
def setFld (C k : Nat) (o x : Ex MV) : Cm := bindC x fun v => bindC o fun a => fun S M => match a, insOf M C a with
  | .ref n, some fs => if k < fs.length then .nx S (M.set n (.ins C (fs.set k v))) else if k = fs.length then .nx S (M.set n (.ins C (fs ++ [v]))) else .bad
  | _, _ => .bad
@[simp] def augC (i : Nat) (f : MV → MV → Option MV) (x : Ex MV) : Cm := fun S M => match S[i]? with
  | some (.val u) => bindC x (fun v => fun S M => match f u v with
    | some w => .nx (S.set i (.val w)) M
    | none => .bad) S M
  | _ => .bad
@[simp] def raiseC (c n : Nat) (a : Ex (List MV)) : Cm := bindC a fun fs => fun S M => if fs.length = n then .exc c fs S M else .bad
/-- what is walked: a list, a tuple, a text -/
@[simp] def itM : MV → Option (List MV)
  | .lst xs => some xs
  | .scr xs => some xs
  | .tup xs => some xs
  | .str s => some (s.map fun c => .str [c])
  | _ => none
@[simp] def itE (a : Ex MV) : Ex (List MV) := bindE a fun x => ofOpt (itM x)
/-- range(n), range(a, b) -/
def rngM (lo : Int) (n : Nat) : List MV := (List.range n).map fun (i : Nat) => MV.int (lo + (i : Int))
@[simp] noncomputable def rng1E (a : Ex MV) : Ex (List MV) := bindE a fun x => ofOpt (match x with
  | .int j => @ite _ (-4611686018427387904 ≤ j ∧ j < 4611686018427387904) (Classical.propDecidable _) (some (rngM 0 j.toNat)) none
  | _ => none)
@[simp] noncomputable def rng2E (a b : Ex MV) : Ex (List MV) := bindE a fun x => bindE b fun y => ofOpt (match x, y with
  | .int i, .int j => @ite _ (-4611686018427387904 ≤ i ∧ i < 4611686018427387904 ∧ -4611686018427387904 ≤ j ∧ j < 4611686018427387904) (Classical.propDecidable _) (some (rngM i (j - i).toNat)) none
  | _, _ => none)
/-- a loop over values -/
def forL (g : Tg) (b : Cm) : List MV → Cm
  | [] => skipC
  | v :: r => fun S M => match g v S with
    | none => .bad
    | some S1 => match b S1 M with
      | .nx S' M' => forL g b r S' M'
      | .ct S' M' => forL g b r S' M'
      | .bk S' M' => .nx S' M'
      | o => o
@[simp] def forC (it : Ex (List MV)) (g : Tg) (b : Cm) : Cm := bindC it fun vs => forL g b vs
def whileN (c : Te) (b : Cm) : Nat → Cm
  | 0 => fun _ _ => .bad
  | n + 1 => bindC c fun x => if x = true then (fun S M => match b S M with
      | .nx S' M' => whileN c b n S' M'
      | .ct S' M' => whileN c b n S' M'
      | .bk S' M' => .nx S' M'
      | o => o) else skipC
open Classical in
noncomputable def whileC (c : Te) (b : Cm) : Cm := fun S M => if h : ∃ n, whileN c b n S M ≠ .bad then whileN c b h.choose S M else .bad
/-- a list comprehension's block: vs its own slots, g its target -/
def wipeS (S : Sg) : List Nat → Sg
  | [] => S
  | v :: vs => (wipeS S vs).set v .non
def lcL (g : Tg) (t : Te) (e : Ex MV) (vs : List Nat) (S : Sg) : List MV → List MV → MH → Out (List MV)
  | [], acc, M => .ok acc M
  | v :: r, acc, M => match g v (wipeS S vs) with
    | none => .bad
    | some S1 => match t S1 M with
      | .ok true M1 => match e S1 M1 with
        | .ok y M2 => if acc.length < 16777216 then lcL g t e vs S r (acc ++ [y]) M2 else .bad
        | _ => .bad
      | .ok false M1 => lcL g t e vs S r acc M1
      | _ => .bad
@[simp] def lcE (it : Ex (List MV)) (g : Tg) (t : Te) (e : Ex MV) (vs : List Nat) : Ex (List MV) := bindE it fun xs => fun S M => lcL g t e vs S xs [] M
@[simp] def yesT : Te := retE true
def clrS : Slot → Slot
  | .xc _ _ => .non
  | s => s
/-- try: b except X as n (slot i): s; hd: which classes the clause names -/
def tryC (b : Cm) (hd : Nat → Option Bool) (i : Nat) (s : Cm) : Cm := fun S M => match b S M with
  | .exc c fs S' M' => match hd c with
    | some true => match s ((S'.map clrS).set i (.xc c fs)) M' with
      | .nx S2 M2 => .nx (S2.set i .non) M2
      | .bk S2 M2 => .bk (S2.set i .non) M2
      | .ct S2 M2 => .ct (S2.set i .non) M2
      | .rt v M2 => .rt v M2
      | _ => .bad
    | some false => .exc c fs S' M'
    | none => .bad
  | o => o
def xfldE (i c k : Nat) : Ex MV := fun S M => match S[i]? with
  | some (.xc c' fs) => if c' = c then (match fs[k]? with
    | some v => .ok v M
    | none => .bad) else .bad
  | _ => .bad
/-- isinstance(err, X) of the caught error at slot i -/
def xisE (i : Nat) (f : Nat → Option Bool) : Ex MV := fun S M => match S[i]? with
  | some (.xc c _) => match f c with
    | some b => .ok (.bl b) M
    | none => .bad
  | _ => .bad

/-! ### a def -/
@[simp] def endF : Fl → Out MV
  | .nx _ M' => .ok .non M'
  | .rt v M' => .ok v M'
  | .exc c fs _ M' => .exc c fs M'
  | _ => .bad
/-- n slots, np parameters -/
@[simp] def finC (n np : Nat) (b : Cm) (args : List MV) (M : MH) : Out MV := if args.length = np then endF (b (args.map Slot.val ++ List.replicate (n - np) Slot.non) M) else .bad

/-! ### operators -/
@[simp] def addM : MV → MV → Option MV
  | .int a, .int b => some (.int (a + b))
  | .str a, .str b => if a.length + b.length ≤ 16777216 then some (.str (a ++ b)) else none
  | .lst a, .lst b => if a.length + b.length ≤ 16777216 then some (.lst (a ++ b)) else none
  | _, _ => none
@[simp] def iaddM : MV → MV → Option MV
  | .int a, .int b => some (.int (a + b))
  | _, _ => none
@[simp] def subM : MV → MV → Option MV
  | .int a, .int b => some (.int (a - b))
  | _, _ => none
noncomputable def smallI (a : Int) : Bool := @decide (-18446744073709551616 < a ∧ a < 18446744073709551616) (Classical.propDecidable _)
/-- a text, a list so often -/
def repM {α : Type} (n : Nat) (s : List α) : List α := (List.replicate n s).flatten
@[simp] noncomputable def mulM : MV → MV → Option MV
  | .int a, .int b => if smallI a || smallI b then some (.int (a * b)) else none
  | .str a, .int b => @ite _ (b ≤ 16777216 ∧ -16777216 ≤ b ∧ a.length * b.toNat ≤ 16777216) (Classical.propDecidable _) (some (.str (repM b.toNat a))) none
  | _, _ => none
@[simp] def fdivM : MV → MV → Option MV
  | .int a, .int b => if b ≠ 0 ∧ b.natAbs < 1073741824 then some (.int (a.fdiv b)) else none
  | _, _ => none
@[simp] def modM : MV → MV → Option MV
  | .int a, .int b => if b ≠ 0 then some (.int (a.fmod b)) else none
  | _, _ => none
@[simp] def negM : MV → Option MV
  | .int a => some (.int (-a))
  | _ => none
def eqM (a b : MV) : Option MV := match a, b with
  | .int x, .int y => some (.bl (x == y))
  | .str x, .str y => some (.bl (x == y))
  | .bl x, .bl y => some (.bl (x == y))
  | x, y => if x.plain && y.plain && decide (x.dep ≤ 64) && decide (y.dep ≤ 64) then some (.bl (decide (x = y))) else none
@[simp] def neM (a b : MV) : Option MV := match eqM a b with
  | some (.bl k) => some (.bl (!k))
  | _ => none
@[simp] def cmpM (f : Int → Int → Bool) (a b : MV) : Option MV := match a, b with
  | .int x, .int y => some (.bl (f x y))
  | _, _ => none
@[simp] noncomputable def ltM := cmpM fun x y => @decide (x < y) (Classical.propDecidable _)
@[simp] noncomputable def leM := cmpM fun x y => @decide (x ≤ y) (Classical.propDecidable _)
@[simp] noncomputable def gtM := cmpM fun x y => @decide (y < x) (Classical.propDecidable _)
@[simp] noncomputable def geM := cmpM fun x y => @decide (y ≤ x) (Classical.propDecidable _)
def flatM : MV → Bool
  | .non => true
  | .int _ => true
  | .str _ => true
  | _ => false
/-- x in a text (one sign), in a list or tuple of flat things -/
def inM (x y : MV) : Option MV := match x, y with
  | .str [c], .str z => some (.bl (decide (c ∈ z)))
  | x, .tup ys => if flatM x && ys.all flatM then some (.bl (decide (x ∈ ys))) else none
  | x, .lst ys => if flatM x && ys.all flatM then some (.bl (decide (x ∈ ys))) else none
  | _, _ => none
@[simp] def ninM (x y : MV) : Option MV := match inM x y with
  | some (.bl k) => some (.bl (!k))
  | _ => none

/-! ### built-ins -/
@[simp] def lenM (M : MH) : List MV → Option MV
  | [.str s] => if s.length ≤ 16777216 then some (.int s.length) else none
  | [.tup xs] => some (.int xs.length)
  | [.lst xs] => some (.int xs.length)
  | [.scr xs] => some (.int xs.length)
  | [.ref n] => match M[n]? with
    | some (.lst xs) => some (.int xs.length)
    | _ => none
  | _ => none
def digs (n : Nat) : List Nat := (Nat.toDigits 10 n).map Char.toNat
@[simp] noncomputable def strM (_ : MH) : List MV → Option MV
  | [.int i] => @ite _ (0 ≤ i ∧ i < 1000000000000) (Classical.propDecidable _) (some (.str (digs i.toNat))) none
  | [.str s] => some (.str s)
  | _ => none
def digsVal (cs : List Nat) : Nat := cs.foldl (fun acc c => acc * 10 + (c - 48)) 0
@[simp] def intM (_ : MH) : List MV → Option MV
  | [.int i] => some (.int i)
  | [.bl b] => some (.int (if b then 1 else 0))
  | [.str s] => if s ≠ [] ∧ s.all (fun c => decide (48 ≤ c ∧ c ≤ 57)) = true ∧ s.length ≤ 640 then some (.int (digsVal s)) else none
  | _ => none
@[simp] def absM (_ : MH) : List MV → Option MV
  | [.int i] => some (.int (if i < 0 then -i else i))
  | _ => none
def blsM : List MV → Option (List Bool)
  | [] => some []
  | .bl b :: r => (blsM r).map (b :: ·)
  | _ => none
def anyM (_ : MH) : List MV → Option MV
  | [.lst xs] => (blsM xs).map fun bs => .bl (bs.any id)
  | _ => none
def allM (_ : MH) : List MV → Option MV
  | [.lst xs] => (blsM xs).map fun bs => .bl (bs.all id)
  | _ => none
/-- isinstance(x, T), T a built-in type -/
def isT (f : MV → Bool) (_ : MH) : List MV → Option MV
  | [x] => some (.bl (f x))
  | _ => none
def strsM : List MV → Option (List (List Nat))
  | [] => some []
  | .str s :: r => (strsM r).map (s :: ·)
  | _ => none
def joinM (sep : List Nat) : List (List Nat) → List Nat
  | [] => []
  | [p] => p
  | p :: q :: r => p ++ (sep ++ joinM sep (q :: r))
def joinV : MV → List MV → Option MV
  | .str s, [.lst xs] => match strsM xs with
    | some ys => if (ys.map List.length).sum + ys.length * s.length ≤ 16777216 then some (.str (joinM s ys)) else none
    | none => none
  | _, _ => none
/-- a text cut at a sign -/
def splitC (c : Nat) : List Nat → List Nat → List (List Nat)
  | acc, [] => [acc]
  | acc, x :: r => if x = c then acc :: splitC c [] r else splitC c (acc ++ [x]) r
def splitV : MV → List MV → Option MV
  | .str s, [.str [c]] => if s.length ≤ 16777214 ∧ c < 256 then some (.lst ((splitC c [] s).map MV.str)) else none
  | _, _ => none

/-- the name of a value's built-in type -/
@[simp] def tyN (M : MH) : MV → Option String
  | .non => some "NoneType"
  | .bl _ => some "bool"
  | .int _ => some "int"
  | .str _ => some "str"
  | .tup _ => some "tuple"
  | .lst _ => some "list"
  | .ref n => match M[n]? with
    | some (.lst _) => some "list"
    | _ => none
  | _ => none
/-- isinstance(x, T) -/
@[simp] def isaM (T : String) (M : MH) (x : MV) : Option MV := (tyN M x).map fun t => .bl (t == T || (t == "bool" && T == "int"))
@[simp] def isaE (T : String) (a : Ex MV) : Ex MV := op1H (isaM T) a
/-! how much a value weighs; whether its numbers are short -/
mutual
def MV.wt : MV → Nat
  | .int _ => 64
  | .str s => s.length
  | .tup xs => MV.wts xs
  | .lst xs => MV.wts xs
  | _ => 0
def MV.wts : List MV → Nat
  | [] => 0
  | x :: xs => MV.wt x + 1 + MV.wts xs
end
mutual
noncomputable def MV.shrt : MV → Bool
  | .int i => @decide (-1000000000000 < i ∧ i < 1000000000000) (Classical.propDecidable _)
  | .tup xs => MV.shrts xs
  | .lst xs => MV.shrts xs
  | _ => true
noncomputable def MV.shrts : List MV → Bool
  | [] => true
  | x :: xs => MV.shrt x && MV.shrts xs
end
/-- repr; rho: what is written -/
noncomputable def reprM (rho : MV → List Nat) (x : MV) : Option MV := if x.plain && x.shrt && decide (x.dep ≤ 60) && decide (x.wt ≤ 1048576) then some (.str (rho x)) else none
noncomputable def reprE (rho : MV → List Nat) (a : Ex MV) : Ex MV := op1E (reprM rho) a

/-! ### while: unfolding -/
theorem whileN_succ (c : Te) (b : Cm) (n : Nat) (S : Sg) (M : MH) : whileN c b (n + 1) S M = match c S M with
    | .ok true M1 => (match b S M1 with
      | .nx S' M' => whileN c b n S' M'
      | .ct S' M' => whileN c b n S' M'
      | .bk S' M' => .nx S' M'
      | o => o)
    | .ok false M1 => .nx S M1
    | .exc x fs M1 => .exc x fs S M1
    | .bad => .bad := by
  show bindC c _ S M = _
  unfold bindC
  cases c S M with
  | bad => rfl
  | exc x fs M' => rfl
  | ok x M' => cases x <;> rfl
theorem whileN_more {c : Te} {b : Cm} : ∀ {n : Nat} {S : Sg} {M : MH}, whileN c b n S M ≠ .bad → ∀ k, whileN c b (n + k) S M = whileN c b n S M
  | 0, _, _, h, _ => absurd rfl h
  | n + 1, S, M, h, k => by
    have e : n + 1 + k = (n + k) + 1 := by omega
    rw [e]
    rw [whileN_succ] at h ⊢
    rw [whileN_succ]
    cases hc : c S M with
    | bad => rfl
    | exc x fs M' => rfl
    | ok x M' =>
      rw [hc] at h
      cases x with
      | false => rfl
      | true =>
        dsimp only at h ⊢
        cases hb : b S M' with
        | nx S1 M1 => rw [hb] at h; exact whileN_more h k
        | ct S1 M1 => rw [hb] at h; exact whileN_more h k
        | bk S1 M1 => rfl
        | rt v M1 => rfl
        | exc a b c d => rfl
        | bad => rfl
theorem whileC_of {c : Te} {b : Cm} {n : Nat} {S : Sg} {M : MH} {o : Fl} (h : whileN c b n S M = o) (hb : o ≠ .bad) : whileC c b S M = o := by
  have ex : ∃ n, whileN c b n S M ≠ .bad := ⟨n, by rw [h]; exact hb⟩
  unfold whileC
  rw [dif_pos ex]
  have h1 := whileN_more ex.choose_spec n
  have h2 := whileN_more (n := n) (by rw [h]; exact hb) ex.choose
  rw [Nat.add_comm] at h2
  rw [← h1, h2, h]
theorem whileC_is {c : Te} {b : Cm} {S : Sg} {M : MH} (h : whileC c b S M ≠ .bad) : ∃ n, whileN c b n S M = whileC c b S M := by
  unfold whileC at h ⊢
  by_cases ex : ∃ n, whileN c b n S M ≠ .bad
  · rw [dif_pos ex]
    exact ⟨ex.choose, rfl⟩
  · rw [dif_neg ex] at h
    exact absurd rfl h
/-- one turn -/
theorem whileC_eq (c : Te) (b : Cm) (S : Sg) (M : MH) : whileC c b S M = match c S M with
    | .ok true M1 => (match b S M1 with
      | .nx S' M' => whileC c b S' M'
      | .ct S' M' => whileC c b S' M'
      | .bk S' M' => .nx S' M'
      | o => o)
    | .ok false M1 => .nx S M1
    | .exc x fs M1 => .exc x fs S M1
    | .bad => .bad := by
  have step := fun n => whileN_succ c b n S M
  cases hc : c S M with
  | bad =>
    unfold whileC
    rw [dif_neg]
    rintro ⟨n, hn⟩
    cases n with
    | zero => exact hn rfl
    | succ n => rw [step n, hc] at hn; exact hn rfl
  | exc x fs M1 => exact whileC_of (n := 1) (by rw [step 0, hc]) (by simp)
  | ok x M1 =>
    cases x with
    | false => exact whileC_of (n := 1) (by rw [step 0, hc]) (by simp)
    | true =>
      have go : ∀ S' M', (∀ n, whileN c b (n + 1) S M = whileN c b n S' M') → whileC c b S M = whileC c b S' M' := fun S' M' e => by
        by_cases hb : whileC c b S' M' = .bad
        · rw [hb]
          by_cases hb2 : whileC c b S M = .bad
          · exact hb2
          · obtain ⟨n, hn⟩ := whileC_is hb2
            have n0 : n ≠ 0 := fun z => by subst z; exact hb2 hn.symm
            obtain ⟨k, rfl⟩ := Nat.exists_eq_succ_of_ne_zero n0
            rw [e k] at hn
            have := whileC_of hn hb2
            rw [hb] at this
            exact this.symm
        · obtain ⟨n, hn⟩ := whileC_is hb
          exact whileC_of (n := n + 1) (by rw [e n, hn]) hb
      dsimp only
      cases hb : b S M1 with
      | nx S' M' => exact go S' M' fun n => by rw [step n, hc]; dsimp only; rw [hb]
      | ct S' M' => exact go S' M' fun n => by rw [step n, hc]; dsimp only; rw [hb]
      | bk S' M' => exact whileC_of (n := 1) (by rw [step 0, hc]; dsimp only; rw [hb]) (by simp)
      | rt v M' => exact whileC_of (n := 1) (by rw [step 0, hc]; dsimp only; rw [hb]) (by simp)
      | exc p q r t => exact whileC_of (n := 1) (by rw [step 0, hc]; dsimp only; rw [hb]) (by simp)
      | bad =>
        unfold whileC
        rw [dif_neg]
        rintro ⟨n, hn⟩
        cases n with
        | zero => exact hn rfl
        | succ n => rw [step n, hc] at hn; dsimp only at hn; rw [hb] at hn; exact hn rfl
end Mv

set_option Elab.async false
set_option linter.all false
set_option maxRecDepth 100000
set_option autoImplicit false
/-! MvA: how the trees lie in the heap; readings of combinator terms. -/
namespace Mv
open PySem PySem.Spec PyProof.Rows L2

/-- the class's addresses and the names of its fields in their order -/
structure Gs where
  cA : Nat → Addr
  cN : Nat → List Str

/-- what is known of the heap: F what is locked, m where the cells lie -/
structure Rm where
  F : Addr → Prop
  m : List Addr
  H : Hp
open Classical in
noncomputable def Rm.L (r : Rm) : Hp := fun b => if r.F b then r.H b else none
theorem Rm.L_some {r : Rm} {a : Addr} {o : HO} : r.L a = some o ↔ r.F a ∧ r.H a = some o := by
  unfold Rm.L
  by_cases h : r.F a
  · rw [if_pos h]; exact ⟨fun e => ⟨h, e⟩, fun e => e.2⟩
  · rw [if_neg h]; exact ⟨fun e => (nomatch e), fun e => absurd e.1 h⟩
theorem Rm.L_H (r : Rm) : Same r.L r.H := fun _ _ e => (Rm.L_some.mp e).2

mutual
inductive VR (K : PySem.W.Frag) (L : Hp) (m : List Addr) : MV → V → Prop
  | non : VR K L m .non .non
  | bl (b : Bool) : VR K L m (.bl b) (.bl b)
  | int (i : Int) : VR K L m (.int i) (.int i)
  | str (s : List Nat) : VR K L m (.str s) (.str ⟨s.toArray⟩)
  | tup {xs : List MV} {a : Addr} {vs : List V} : SqT K L a vs → VRs K L m xs vs → VR K L m (.tup xs) (.ref a)
  | lst {xs : List MV} {a : Addr} {vs : List V} : Rd L a (.lst vs) → VRs K L m xs vs → VR K L m (.lst xs) (.ref a)
  | ref {n : Nat} {a : Addr} : m[n]? = some a → VR K L m (.ref n) (.ref a)
  | scr {xs : List MV} {a : Addr} {vs : List V} : SqL K L a vs → VRs K L m xs vs → VR K L m (.scr xs) (.ref a)
inductive VRs (K : PySem.W.Frag) (L : Hp) (m : List Addr) : List MV → List V → Prop
  | nil : VRs K L m [] []
  | cons {x : MV} {v : V} {xs : List MV} {vs : List V} : VR K L m x v → VRs K L m xs vs → VRs K L m (x :: xs) (v :: vs)
end
theorem same_rd {H H' : Hp} {a : Addr} {u : HO} (e : Same H H') (h : Rd H a u) : Rd H' a u := by
  rcases h with h | ⟨o, h⟩
  · exact .inl (e _ _ h)
  · exact .inr ⟨o, e _ _ h⟩
theorem same_t {K : PySem.W.Frag} {H H' : Hp} {a : Addr} {vs : List V} (e : Same H H') (h : SqT K H a vs) : SqT K H' a vs := by
  rcases h with h | h
  · exact .inl (same_rd e h)
  · exact .inr h
section
variable {K : PySem.W.Frag} {L L' : Hp} {m m' : List Addr}
mutual
theorem VR.mono (e : Same L L') (p : ∀ (n : Nat) (a : Addr), m[n]? = some a → m'[n]? = some a) {x : MV} {v : V} : VR K L m x v → VR K L' m' x v
  | .non => .non
  | .bl b => .bl b
  | .int i => .int i
  | .str s => .str s
  | .tup h t => .tup (same_t e h) (VRs.mono e p t)
  | .lst h t => .lst (same_rd e h) (VRs.mono e p t)
  | .ref h => .ref (p _ _ h)
  | .scr h t => .scr (e.seq h) (VRs.mono e p t)
theorem VRs.mono (e : Same L L') (p : ∀ (n : Nat) (a : Addr), m[n]? = some a → m'[n]? = some a) {x : List MV} {v : List V} : VRs K L m x v → VRs K L' m' x v
  | .nil => .nil
  | .cons a b => .cons (a.mono e p) (VRs.mono e p b)
end
theorem VRs.length : ∀ {xs : List MV} {vs : List V}, VRs K L m xs vs → xs.length = vs.length
  | _, _, .nil => rfl
  | _, _, .cons _ t => congrArg (· + 1) t.length
theorem VRs.append : ∀ {xs ys : List MV} {vs ws : List V}, VRs K L m xs vs → VRs K L m ys ws → VRs K L m (xs ++ ys) (vs ++ ws)
  | _, _, _, _, .nil, s => s
  | _, _, _, _, .cons a t, s => .cons a (t.append s)
theorem VRs.get : ∀ {xs : List MV} {vs : List V} {i : Nat} {x : MV}, VRs K L m xs vs → xs[i]? = some x → ∃ v, vs[i]? = some v ∧ VR K L m x v
  | _, _, i, _, .nil, e => by simp at e
  | _, _, 0, _, .cons a _, e => by simp at e; subst e; exact ⟨_, rfl, a⟩
  | _, _, i + 1, x, .cons _ t, e => by
    obtain ⟨v, h1, h2⟩ := VRs.get (i := i) (x := x) t (by simpa using e)
    exact ⟨v, by simpa using h1, h2⟩
theorem VRs.getV : ∀ {xs : List MV} {vs : List V} {i : Nat} {v : V}, VRs K L m xs vs → vs[i]? = some v → ∃ x, xs[i]? = some x ∧ VR K L m x v
  | _, _, i, _, .nil, e => by simp at e
  | _, _, 0, _, .cons a _, e => by simp at e; subst e; exact ⟨_, rfl, a⟩
  | _, _, i + 1, x, .cons _ t, e => by
    obtain ⟨v, h1, h2⟩ := VRs.getV (i := i) (v := x) t (by simpa using e)
    exact ⟨v, by simpa using h1, h2⟩
theorem VRs.set {x : MV} {v : V} (a : VR K L m x v) : ∀ {xs : List MV} {vs : List V} (i : Nat), VRs K L m xs vs → VRs K L m (xs.set i x) (vs.set i v)
  | _, _, _, .nil => .nil
  | _, _, 0, .cons _ t => .cons a t
  | _, _, i + 1, .cons b t => .cons b (VRs.set a i t)
theorem VRs.take : ∀ {xs : List MV} {vs : List V} (n : Nat), VRs K L m xs vs → VRs K L m (xs.take n) (vs.take n)
  | _, _, 0, _ => .nil
  | _, _, _ + 1, .nil => .nil
  | _, _, n + 1, .cons a t => .cons a (VRs.take n t)
theorem VRs.drop : ∀ {xs : List MV} {vs : List V} (n : Nat), VRs K L m xs vs → VRs K L m (xs.drop n) (vs.drop n)
  | _, _, 0, r => r
  | _, _, _ + 1, .nil => .nil
  | _, _, n + 1, .cons _ t => VRs.drop n t
theorem VRs.eraseIdx : ∀ {xs : List MV} {vs : List V} (n : Nat), VRs K L m xs vs → VRs K L m (xs.eraseIdx n) (vs.eraseIdx n)
  | _, _, _, .nil => .nil
  | _, _, 0, .cons _ t => t
  | _, _, n + 1, .cons a t => .cons a (VRs.eraseIdx n t)
theorem VRs.ints : ∀ ns : List Int, VRs K L m (ns.map MV.int) (ns.map V.int)
  | [] => .nil
  | i :: r => .cons (.int i) (VRs.ints r)
end

/-! ### the realm grows -/
/-- what is locked stays; the cells stay where they are -/
structure Lk (r r' : Rm) : Prop where
  sub : ∀ a, r.F a → r'.F a
  agr : ∀ a, r.F a → r'.H a = r.H a
  pre : ∀ (n : Nat) (a : Addr), r.m[n]? = some a → r'.m[n]? = some a
/-- .. and what was tracked but no cell is as it was, and neither locked nor made a cell -/
structure Fw (r r' : Rm) : Prop extends Lk r r' where
  there : ∀ a o, r.H a = some o → ∃ o', r'.H a = some o'
  noF : ∀ a o, r.H a = some o → r'.F a → r.F a
  noM : ∀ a o, r.H a = some o → a ∈ r'.m → a ∈ r.m
  old : ∀ a o, r.H a = some o → a ∉ r.m → r'.H a = some o
theorem Lk.refl (r : Rm) : Lk r r := ⟨fun _ h => h, fun _ _ => rfl, fun _ _ h => h⟩
theorem Lk.trans {a b c : Rm} (x : Lk a b) (y : Lk b c) : Lk a c :=
  ⟨fun p h => y.sub p (x.sub p h), fun p h => (y.agr p (x.sub p h)).trans (x.agr p h), fun n p h => y.pre n p (x.pre n p h)⟩
theorem Fw.refl (r : Rm) : Fw r r := ⟨.refl r, fun _ o h => ⟨o, h⟩, fun _ _ _ h => h, fun _ _ _ h => h, fun _ _ h _ => h⟩
theorem Fw.trans {a b c : Rm} (x : Fw a b) (y : Fw b c) : Fw a c :=
  ⟨x.toLk.trans y.toLk, fun p o h => let ⟨o', h'⟩ := x.there p o h; y.there p o' h',
    fun p o h f => let ⟨o', h'⟩ := x.there p o h; x.noF p o h (y.noF p o' h' f),
    fun p o h f => let ⟨o', h'⟩ := x.there p o h; x.noM p o h (y.noM p o' h' f),
    fun p o h f => y.old p o (x.old p o h f) fun z => f (x.noM p o h z)⟩
theorem Fw.fresh {r r' : Rm} (x : Fw r r') {p : Addr} (h : r'.H p = none) : r.H p = none := by
  cases e : r.H p with
  | none => rfl
  | some o =>
    obtain ⟨o', e'⟩ := x.there p o e
    rw [h] at e'
    cases e'
theorem Lk.same {r r' : Rm} (x : Lk r r') : Same r.L r'.L := fun a o e => by
  obtain ⟨h1, h2⟩ := Rm.L_some.mp e
  exact Rm.L_some.mpr ⟨x.sub a h1, (x.agr a h1).trans h2⟩
theorem Lk.vr {K : PySem.W.Frag} {r r' : Rm} (x : Lk r r') {y : MV} {v : V} (h : VR K r.L r.m y v) : VR K r'.L r'.m y v := h.mono x.same x.pre
theorem Lk.vrs {K : PySem.W.Frag} {r r' : Rm} (x : Lk r r') {y : List MV} {v : List V} (h : VRs K r.L r.m y v) : VRs K r'.L r'.m y v := h.mono x.same x.pre

/-! ### the heap's cells, the slots, an error's fields -/
def OR (K : PySem.W.Frag) (G : Gs) (r : Rm) (a : Addr) : HObj → Prop
  | .lst xs => ∃ vs, r.H a = some (.lst vs) ∧ VRs K r.L r.m xs vs
  | .dct _ _ => False
  | .ins c fs => ∃ dx vs, r.H a = some (.ins (G.cA c) dx ((G.cN c).zip vs)) ∧ VRs K r.L r.m fs vs ∧ fs.length ≤ (G.cN c).length
structure HR (K : PySem.W.Frag) (G : Gs) (r : Rm) (M : MH) : Prop where
  nd : r.m.Nodup
  there : ∀ a, r.F a → ∃ o, r.H a = some o
  dj : ∀ a, a ∈ r.m → ¬ r.F a
  len : r.m.length = M.length
  at_ : ∀ (n : Nat) (a : Addr) (ob : HObj), r.m[n]? = some a → M[n]? = some ob → OR K G r a ob
def XR (K : PySem.W.Frag) (G : Gs) (r : Rm) (c : Nat) (fs : List MV) (d : Option Addr) : Prop :=
  ∃ dd vs xs, d = some dd ∧ r.L dd = some (.xd xs) ∧ VRs K r.L r.m fs vs ∧ fs.length = (G.cN c).length ∧ ∀ (i : Nat) (f : Str), (G.cN c)[i]? = some f → xs.lookup f = vs[i]?
abbrev Ea := Option (Addr × Value × Option Addr)
structure SR (K : PySem.W.Frag) (G : Gs) (ea : Ea) (r : Rm) (S : Sg) (σ : L2.St) : Prop where
  len : S.length = σ.length
  val : ∀ (i : Nat) (v : MV), S[i]? = some (.val v) → ∃ w, σ[i]? = some (some w) ∧ VR K r.L r.m v w
  own : ∀ (i : Nat) (xs : List MV), S[i]? = some (.own xs) → ∃ a vs, σ[i]? = some (some (.ref a)) ∧ r.H a = some (.lst vs) ∧ VRs K r.L r.m xs vs ∧ ¬ r.F a ∧ a ∉ r.m
  dis : ∀ (i j : Nat) (xs ys : List MV) (a : Addr), S[i]? = some (.own xs) → S[j]? = some (.own ys) → σ[i]? = some (some (.ref a)) → σ[j]? = some (some (.ref a)) → i = j
  xc : ∀ (i c : Nat) (fs : List MV) (p : Addr × Value × Option Addr), S[i]? = some (.xc c fs) → ea = some p → σ[i]? = some (some (.ref p.1)) ∧ p.2.1 = .ref (G.cA c) ∧ XR K G r c fs p.2.2
section
variable {K : PySem.W.Frag} {G : Gs} {ea : Ea} {r r' : Rm} {S : Sg} {σ : L2.St} {M : MH}
theorem XR.mono {c : Nat} {fs : List MV} {d : Option Addr} (h : XR K G r c fs d) (x : Lk r r') : XR K G r' c fs d := by
  obtain ⟨dd, vs, xs, e, h1, h2, h3⟩ := h
  exact ⟨dd, vs, xs, e, x.same _ _ h1, x.vrs h2, h3⟩
theorem SR.mono (h : SR K G ea r S σ) (x : Fw r r') : SR K G ea r' S σ where
  len := h.len
  val := fun i v e => let ⟨w, e1, e2⟩ := h.val i v e; ⟨w, e1, x.vr e2⟩
  own := fun i xs e => let ⟨a, vs, e1, e2, e3, e4, e5⟩ := h.own i xs e
    ⟨a, vs, e1, x.old a _ e2 e5, x.vrs e3, fun z => e4 (x.noF a _ e2 z), fun z => e5 (x.noM a _ e2 z)⟩
  dis := h.dis
  xc := fun i c fs p e e' => let ⟨h1, h2, h3⟩ := h.xc i c fs p e e'; ⟨h1, h2, h3.mono x.toLk⟩

/-! ### readings of expressions -/
variable {α β γ δ : Type}
/-- how an answer of the model (b) stands to one of ours (a), ahead and behind -/
abbrev Rel (α β : Type) := Rm → Rm → α → β → Prop
def Good (K : PySem.W.Frag) (G : Gs) (R : Rel α β) (W : WX) (σ : L2.St) (r : Rm) (Q : β → Hp → Prop) : Out α → Prop
  | .ok a M' => ∀ r' b, Fw r r' → HR K G r' M' → R r r' a b → Q b r'.H
  | .exc c fs M' => ∀ r' d, Fw r r' → HR K G r' M' → XR K G r' c fs d → W (.ref (G.cA c)) d σ r'.H
  | .bad => False
/-- .. at r, seen from r0 -/
def rdAt (K : PySem.W.Frag) (G : Gs) (ea : Ea) (R : Rel α β) (W : WX) (x : Ex α) (σ : L2.St) (r0 r : Rm) (Q : β → Hp → Prop) : Prop :=
  Fw r0 r ∧ ∃ S M, SR K G ea r S σ ∧ HR K G r M ∧ Good K G R W σ r0 Q (x S M)
def rd (K : PySem.W.Frag) (G : Gs) (ea : Ea) (R : Rel α β) (W : WX) (x : Ex α) : L2.St → Hp → (β → Hp → Prop) → Prop := fun σ H Q =>
  ∃ r : Rm, r.H = H ∧ rdAt K G ea R W x σ r r Q
theorem rdAt_bind {R : Rel α β} {R' : Rel γ δ} {W : WX} {x : Ex α} {y : α → Ex γ} {Q : δ → Hp → Prop} {r0 : Rm} (h : rdAt K G ea R' W (bindE x y) σ r0 r Q) :
    rd K G ea R W x σ r.H (fun b H1 => ∃ a r1, r1.H = H1 ∧ Fw r r1 ∧ R r r1 a b ∧ rdAt K G ea R' W (y a) σ r0 r1 Q) := by
  obtain ⟨f0, S, M, sr, hr, g⟩ := h
  refine ⟨r, rfl, .refl r, S, M, sr, hr, ?_⟩
  unfold bindE at g
  cases hx : x S M with
  | bad => rw [hx] at g; exact g
  | exc c fs M' =>
    rw [hx] at g
    exact fun r2 d f2 h2 q => g r2 d (f0.trans f2) h2 q
  | ok a M' =>
    rw [hx] at g
    exact fun r1 b f h1 hab => ⟨a, r1, rfl, f, hab, f0.trans f, S, M', sr.mono f, h1, g⟩
theorem rd_bind {R : Rel α β} {R' : Rel γ δ} {W : WX} {x : Ex α} {y : α → Ex γ} {Q : δ → Hp → Prop} {H : Hp} (h : rd K G ea R' W (bindE x y) σ H Q) :
    rd K G ea R W x σ H (fun b H1 => ∃ r a r1, r1.H = H1 ∧ Fw r r1 ∧ R r r1 a b ∧ rdAt K G ea R' W (y a) σ r r1 Q) := by
  obtain ⟨r, e, h⟩ := h
  subst e
  obtain ⟨r', e', f', S, M, sr, hr, g⟩ := rdAt_bind (R := R) h
  refine ⟨r', e', f', S, M, sr, hr, ?_⟩
  cases hx : x S M with
  | bad => rw [hx] at g; exact g
  | exc c fs M' => rw [hx] at g; exact g
  | ok a M' =>
    rw [hx] at g
    exact fun r1 b f h1 hab => let ⟨a, r2, e2, z⟩ := g r1 b f h1 hab; ⟨r, a, r2, e2, z⟩

/-! the relations -/
def rV (K : PySem.W.Frag) : Rel MV V := fun _ r' a b => VR K r'.L r'.m a b
def rVs (K : PySem.W.Frag) : Rel (List MV) (List V) := fun _ r' a b => VRs K r'.L r'.m a b
def rB : Rel Bool Bool := fun _ _ a b => a = b
def rO : Rel (Option Int) (Option Int) := fun _ _ a b => a = b
/-- a new list that nobody knows -/
def rL (K : PySem.W.Frag) : Rel (List MV) V := fun r r' a b => ∃ p vs, b = .ref p ∧ r.H p = none ∧ r'.H p = some (.lst vs) ∧ VRs K r'.L r'.m a vs ∧ ¬ r'.F p ∧ p ∉ r'.m
end
end Mv

set_option Elab.async false
set_option linter.all false
set_option maxRecDepth 100000
set_option autoImplicit false
set_option maxHeartbeats 1000000
/-! MvB: the rules for expressions. -/
namespace Mv
open PySem PySem.Spec PyProof.Rows L2

/-! ### weaken -/
section
variable {X : Cx}
theorem pe_imp {e : Expr} {t t' : TE} (h : PE X e t) (k : ∀ σ H Q, t' σ H Q → t σ H Q) : PE X e t' := ⟨fun pins s σ H Q I q => h.run pins s σ H Q I (k σ H Q q)⟩
theorem pt_imp {e : Expr} {t t' : TT} (h : PT X e t) (k : ∀ σ H Q, t' σ H Q → t σ H Q) : PT X e t' := ⟨fun pins s σ H Q I q => h.run pins s σ H Q I (k σ H Q q)⟩
theorem pw_imp {e : Expr} {t t' : TT} (h : PW X e t) (k : ∀ σ H Q, t' σ H Q → t σ H Q) : PW X e t' := ⟨fun wh pins s σ H Q I q => h.run wh pins s σ H Q I (k σ H Q q)⟩
theorem pa_imp {e : List Expr} {t t' : TA} (h : PA X e t) (k : ∀ σ H Q, t' σ H Q → t σ H Q) : PA X e t' := ⟨fun pos pins s σ H Q I q => h.run pos pins s σ H Q I (k σ H Q q)⟩
theorem po_imp {e : Option Expr} {t t' : TO} (h : PO X e t) (k : ∀ σ H Q, t' σ H Q → t σ H Q) : PO X e t' := ⟨fun pins s σ H Q I q => h.run pins s σ H Q I (k σ H Q q)⟩
theorem ps_imp {e : Stmt} {t t' : TS} (h : PS X e t) (k : ∀ D σ H, t' D σ H → t D σ H) : PS X e t' := ⟨fun pins s σ H D I q => h.run pins s σ H D I (k D σ H q)⟩
theorem pss_imp {e : List Stmt} {t t' : TS} (h : PSs X e t) (k : ∀ D σ H, t' D σ H → t D σ H) : PSs X e t' := ⟨fun pins s σ H D I q => h.run pins s σ H D I (k D σ H q)⟩
theorem pi_imp {tg e : Expr} {t t' : TI} (h : PI X tg e t) (k : ∀ σ H Q, t' σ H Q → t σ H Q) : PI X tg e t' := ⟨fun pins s σ H Q I q => h.run pins s σ H Q I (k σ H Q q)⟩
end

section
variable {K : PySem.W.Frag} {G : Gs} {ea : Ea} {W : WX} {r r' : Rm} {S : Sg} {σ : L2.St} {M : MH} {H : Hp} {α β γ δ : Type}
theorem rd_mono {R : Rel α β} {x : Ex α} {Q Q' : β → Hp → Prop} (h : rd K G ea R W x σ H Q) (k : ∀ b H, Q b H → Q' b H) : rd K G ea R W x σ H Q' := by
  obtain ⟨r, e, f, S, M, sr, hr, g⟩ := h
  refine ⟨r, e, f, S, M, sr, hr, ?_⟩
  cases hx : x S M with
  | bad => rw [hx] at g; exact g
  | exc c fs M' => rw [hx] at g; exact g
  | ok a M' =>
    rw [hx] at g
    exact fun r1 b f h1 hab => k _ _ (g r1 b f h1 hab)
/-! ### the realm's steps -/
theorem HR.free_F (h : HR K G r M) {p : Addr} (e : r.H p = none) : ¬ r.F p := fun f => by
  obtain ⟨o, q⟩ := h.there p f
  rw [e] at q; cases q
theorem OR.some {a : Addr} {ob : HObj} (h : OR K G r a ob) : ∃ o, r.H a = some o := by
  cases ob with
  | lst xs => obtain ⟨vs, e, _⟩ := h; exact ⟨_, e⟩
  | dct _ _ => exact h.elim
  | ins c fs => obtain ⟨dx, vs, e, _⟩ := h; exact ⟨_, e⟩
theorem HR.cell (h : HR K G r M) {a : Addr} (ha : a ∈ r.m) : ∃ (n : Nat) (ob : HObj), r.m[n]? = some a ∧ M[n]? = some ob ∧ OR K G r a ob := by
  obtain ⟨n, hn, e⟩ := List.getElem_of_mem ha
  have e1 : r.m[n]? = some a := by rw [List.getElem?_eq_getElem hn, e]
  have hn2 : n < M.length := by rw [← h.len]; exact hn
  have e2 : M[n]? = some M[n] := List.getElem?_eq_getElem hn2
  exact ⟨n, _, e1, e2, h.at_ n a _ e1 e2⟩
theorem HR.free_m (h : HR K G r M) {p : Addr} (e : r.H p = none) : p ∉ r.m := fun hp => by
  obtain ⟨n, ob, _, _, q⟩ := h.cell hp
  obtain ⟨o, q⟩ := q.some
  rw [e] at q; cases q
/-- an object's description stands in a realm where it is as it was -/
theorem OR.keep {a : Addr} {ob : HObj} (h : OR K G r a ob) (x : Lk r r') (e : r'.H a = r.H a) : OR K G r' a ob := by
  cases ob with
  | lst xs => obtain ⟨vs, q, t⟩ := h; exact ⟨vs, e.trans q, x.vrs t⟩
  | dct _ _ => exact h.elim
  | ins c fs => obtain ⟨dx, vs, q, t, l⟩ := h; exact ⟨dx, vs, e.trans q, x.vrs t, l⟩
/-- a new locked object -/
def Rm.lay (r : Rm) (p : Addr) (o : HO) : Rm := ⟨fun a => r.F a ∨ a = p, r.m, upd r.H p o⟩
theorem HR.lay_fw (h : HR K G r M) {p : Addr} {o : HO} (e : r.H p = none) : Fw r (r.lay p o) := by
  refine ⟨⟨fun _ q => .inl q, fun a f => ?_, fun _ _ q => q⟩, fun a u q => ?_, fun a u q f => ?_, fun _ _ _ q => q, fun a u q _ => ?_⟩
  · exact upd_ne fun z => h.free_F e (z ▸ f)
  · by_cases z : a = p
    · exact ⟨o, by subst z; exact upd_same⟩
    · exact ⟨u, (upd_ne z).trans q⟩
  · rcases f with f | f
    · exact f
    · subst f; rw [e] at q; cases q
  · exact (upd_ne (ne_of_none q e)).trans q
theorem HR.lay (h : HR K G r M) {p : Addr} {o : HO} (e : r.H p = none) : HR K G (r.lay p o) M := by
  have f := h.lay_fw (o := o) e
  refine ⟨h.nd, fun a q => ?_, fun a ha q => ?_, h.len, fun n a ob e1 e2 => ?_⟩
  · rcases q with q | q
    · obtain ⟨u, q⟩ := h.there a q
      exact f.there a u q
    · subst q; exact ⟨o, upd_same⟩
  · rcases q with q | q
    · exact h.dj a ha q
    · subst q; exact h.free_m e ha
  · refine (h.at_ n a ob e1 e2).keep f.toLk (upd_ne fun z => ?_)
    subst z
    exact h.free_m e (List.mem_of_getElem? e1)
theorem Rm.lay_L {p : Addr} {o : HO} : (r.lay p o).L p = some o := Rm.L_some.mpr ⟨.inr rfl, upd_same⟩
/-- an object changes that is neither locked nor a cell -/
def Rm.put (r : Rm) (p : Addr) (o : HO) : Rm := ⟨r.F, r.m, upd r.H p o⟩
theorem Rm.put_lk {p : Addr} {o : HO} (hF : ¬ r.F p) : Lk r (r.put p o) := ⟨fun _ q => q, fun a f => upd_ne fun z => hF (z ▸ f), fun _ _ q => q⟩
theorem HR.put (h : HR K G r M) {p : Addr} {o : HO} (hF : ¬ r.F p) (hm : p ∉ r.m) : HR K G (r.put p o) M := by
  refine ⟨h.nd, fun a q => ?_, h.dj, h.len, fun n a ob e1 e2 => ?_⟩
  · obtain ⟨u, q⟩ := h.there a q
    by_cases z : a = p
    · exact ⟨o, by subst z; exact upd_same⟩
    · exact ⟨u, (upd_ne z).trans q⟩
  · exact (h.at_ n a ob e1 e2).keep (Rm.put_lk hF) (upd_ne fun z => hm (z ▸ List.mem_of_getElem? e1))
/-- .. seen from where it was not yet -/
theorem Fw.put (f : Fw r r') {p : Addr} {o : HO} (e : r.H p = none) (hF : ¬ r'.F p) : Fw r (r'.put p o) := by
  refine ⟨f.toLk.trans (Rm.put_lk hF), fun a u q => ?_, fun a u q z => f.noF a u q z, fun a u q z => f.noM a u q z, fun a u q z => (upd_ne (ne_of_none q e)).trans (f.old a u q z)⟩
  obtain ⟨u', q'⟩ := f.there a u q
  exact ⟨u', (upd_ne (ne_of_none q e)).trans q'⟩
/-- an object is locked -/
def Rm.lock (r : Rm) (p : Addr) : Rm := ⟨fun a => r.F a ∨ a = p, r.m, r.H⟩
theorem Rm.lock_lk {p : Addr} : Lk r (r.lock p) := ⟨fun _ q => .inl q, fun _ _ => rfl, fun _ _ q => q⟩
theorem HR.lock (h : HR K G r M) {p : Addr} {o : HO} (e : r.H p = some o) (hm : p ∉ r.m) : HR K G (r.lock p) M := by
  refine ⟨h.nd, fun a q => ?_, fun a ha q => ?_, h.len, fun n a ob e1 e2 => (h.at_ n a ob e1 e2).keep Rm.lock_lk rfl⟩
  · rcases q with q | q
    · exact h.there a q
    · subst q; exact ⟨o, e⟩
  · rcases q with q | q
    · exact h.dj a ha q
    · subst q; exact hm ha
theorem Fw.lock (f : Fw r r') {p : Addr} (e : r.H p = none) : Fw r (r'.lock p) :=
  ⟨f.toLk.trans Rm.lock_lk, f.there, fun a u q z => z.elim (f.noF a u q) (fun z => by subst z; rw [e] at q; cases q), f.noM, f.old⟩
theorem Rm.lock_L {p : Addr} {o : HO} (e : r.H p = some o) : (r.lock p).L p = some o := Rm.L_some.mpr ⟨.inr rfl, e⟩
/-- an object becomes a cell -/
def Rm.cel (r : Rm) (p : Addr) : Rm := ⟨r.F, r.m ++ [p], r.H⟩
theorem get_snoc {α : Type} {l : List α} {x y : α} {n : Nat} (h : l[n]? = some y) : (l ++ [x])[n]? = some y := by
  have hn : n < l.length := (List.getElem?_eq_some_iff.mp h).1
  rw [List.getElem?_append_left hn]; exact h
theorem get_last {α : Type} {l : List α} {x : α} : (l ++ [x])[l.length]? = some x := by simp
theorem Rm.cel_lk {p : Addr} : Lk r (r.cel p) := ⟨fun _ q => q, fun _ _ => rfl, fun _ _ q => get_snoc q⟩
theorem HR.cel (h : HR K G r M) {p : Addr} {ob : HObj} (q : OR K G (r.cel p) p ob) (hF : ¬ r.F p) (hm : p ∉ r.m) : HR K G (r.cel p) (M ++ [ob]) := by
  refine ⟨?_, h.there, fun a ha f => ?_, ?_, fun n a o2 e1 e2 => ?_⟩
  · show (r.m ++ [p]).Nodup
    rw [List.nodup_append]
    refine ⟨h.nd, by simp, fun a ha b hb => ?_⟩
    rw [List.mem_singleton] at hb
    subst hb
    exact fun z => hm (z ▸ ha)
  · rcases List.mem_append.mp ha with z | z
    · exact h.dj a z f
    · rw [List.mem_singleton] at z; subst z; exact hF f
  · show (r.m ++ [p]).length = _
    rw [List.length_append, List.length_append, h.len]; rfl
  · have e1 : (r.m ++ [p])[n]? = some a := e1
    by_cases hn : n < r.m.length
    · rw [List.getElem?_append_left hn] at e1
      rw [List.getElem?_append_left (by rw [← h.len]; exact hn)] at e2
      exact (h.at_ n a o2 e1 e2).keep Rm.cel_lk rfl
    · have hn2 : n = r.m.length := by
        have := (List.getElem?_eq_some_iff.mp e1).1
        rw [List.length_append] at this
        simp at this
        omega
      subst hn2
      rw [get_last] at e1
      rw [h.len, get_last] at e2
      cases e1; cases e2
      exact q
theorem Fw.cel (f : Fw r r') {p : Addr} (e : r.H p = none) : Fw r (r'.cel p) :=
  ⟨f.toLk.trans Rm.cel_lk, f.there, f.noF, fun a u q z => (List.mem_append.mp z).elim (f.noM a u q) (fun z => by rw [List.mem_singleton] at z; subst z; rw [e] at q; cases q), f.old⟩
/-- a cell changes -/
theorem HR.set (h : HR K G r M) {n : Nat} {p : Addr} {o : HO} {ob : HObj} (e : r.m[n]? = some p) (q : OR K G (r.put p o) p ob) : HR K G (r.put p o) (M.set n ob) := by
  have hp : p ∈ r.m := List.mem_of_getElem? e
  refine ⟨h.nd, fun a f => ?_, h.dj, by rw [List.length_set]; exact h.len, fun k a o2 e1 e2 => ?_⟩
  · obtain ⟨u, z⟩ := h.there a f
    exact ⟨u, (upd_ne (fun (y : a = p) => h.dj p hp (y ▸ f))).trans z⟩
  · have e1 : r.m[k]? = some a := e1
    by_cases hk : n = k
    · subst hk
      rw [e] at e1; cases e1
      have hl : n < M.length := by rw [← h.len]; exact (List.getElem?_eq_some_iff.mp e).1
      rw [List.getElem?_set_self hl] at e2
      cases e2
      exact q
    · rw [List.getElem?_set_ne hk] at e2
      refine (h.at_ k a o2 e1 e2).keep (Rm.put_lk (h.dj p hp)) (upd_ne fun z => hk ?_)
      subst z
      obtain ⟨h1, g1⟩ := List.getElem?_eq_some_iff.mp e
      obtain ⟨h2, g2⟩ := List.getElem?_eq_some_iff.mp e1
      exact (List.getElem_inj h.nd).mp (g1.trans g2.symm)
theorem HR.set_fw (h : HR K G r M) {n : Nat} {p : Addr} {o : HO} (e : r.m[n]? = some p) : Fw r (r.put p o) := by
  have hp : p ∈ r.m := List.mem_of_getElem? e
  refine ⟨Rm.put_lk (h.dj p hp), fun a u q => ?_, fun _ _ _ z => z, fun _ _ _ z => z, fun a u q z => (upd_ne (fun (y : a = p) => z (y ▸ hp))).trans q⟩
  by_cases z : a = p
  · exact ⟨o, by subst z; exact upd_same⟩
  · exact ⟨u, (upd_ne z).trans q⟩
end
end Mv

set_option Elab.async false
set_option linter.all false
set_option maxRecDepth 100000
set_option autoImplicit false
set_option maxHeartbeats 1000000
/-! MvC: the rules for expressions. -/
namespace Mv
open PySem PySem.Spec PyProof.Rows L2

structure PV (G : Gs) (ea : Ea) (X : Cx) (W : WX) (e : Expr) (x : Ex MV) : Prop where
  pe : PE X e (rd X.K G ea (rV X.K) W x)
structure PVL (G : Gs) (ea : Ea) (X : Cx) (W : WX) (e : Expr) (x : Ex (List MV)) : Prop where
  pe : PE X e (rd X.K G ea (rL X.K) W x)
structure PVt (G : Gs) (ea : Ea) (X : Cx) (W : WX) (e : Expr) (x : Te) : Prop where
  pt : PT X e (rd X.K G ea rB W x)
structure PVw (G : Gs) (ea : Ea) (X : Cx) (W : WX) (e : Expr) (x : Te) : Prop where
  pw : PW X e (rd X.K G ea rB W x)
structure PVa (G : Gs) (ea : Ea) (X : Cx) (W : WX) (e : List Expr) (x : Ex (List MV)) : Prop where
  pa : PA X e (rd X.K G ea (rVs X.K) W x)
structure PVo (G : Gs) (ea : Ea) (X : Cx) (W : WX) (e : Option Expr) (x : Ex (Option Int)) : Prop where
  po : PO X e (rd X.K G ea rO W x)

section
variable {K : PySem.W.Frag} {G : Gs} {ea : Ea} {W : WX} {r r' : Rm} {S : Sg} {σ : L2.St} {M : MH} {H : Hp} {α β γ δ : Type}
/-- the answer is at hand -/
theorem rdAt_opt {R : Rel α β} {o : Option α} {Q : β → Hp → Prop} (h : rdAt K G ea R W (ofOpt o) σ r r' Q) : Fw r r' ∧ ∃ M a, HR K G r' M ∧ o = some a ∧ ∀ r2 b, Fw r r2 → HR K G r2 M → R r r2 a b → Q b r2.H := by
  obtain ⟨f, S, M, sr, hr, g⟩ := h
  cases o with
  | none => exact g.elim
  | some a => exact ⟨f, M, a, hr, rfl, g⟩
theorem rdAt_optH {R : Rel α β} {F : MH → Option α} {Q : β → Hp → Prop} (h : rdAt K G ea R W (fun S M => ofOpt (F M) S M) σ r r' Q) : Fw r r' ∧ ∃ M a, HR K G r' M ∧ F M = some a ∧ ∀ r2 b, Fw r r2 → HR K G r2 M → R r r2 a b → Q b r2.H := by
  obtain ⟨f, S, M, sr, hr, g⟩ := h
  cases e : F M with
  | none => rw [show (fun S M => ofOpt (F M) S M) S M = ofOpt (F M) S M from rfl, e] at g; exact g.elim
  | some a => rw [show (fun S M => ofOpt (F M) S M) S M = ofOpt (F M) S M from rfl, e] at g; exact ⟨f, M, a, hr, e, g⟩
theorem rdAt_ret {R : Rel α β} {a : α} {Q : β → Hp → Prop} (h : rdAt K G ea R W (retE a) σ r r' Q) : Fw r r' ∧ ∃ M, HR K G r' M ∧ ∀ r2 b, Fw r r2 → HR K G r2 M → R r r2 a b → Q b r2.H := by
  obtain ⟨f, S, M, sr, hr, g⟩ := h
  exact ⟨f, M, hr, g⟩

/-- a value of ours, and all that it may be in the model -/
theorem VR.int_inv {L : Hp} {m : List Addr} {i : Int} {v : V} (h : VR K L m (.int i) v) : v = .int i := by cases h; rfl
theorem VR.bl_inv {L : Hp} {m : List Addr} {b : Bool} {v : V} (h : VR K L m (.bl b) v) : v = .bl b := by cases h; rfl
theorem VR.non_inv {L : Hp} {m : List Addr} {v : V} (h : VR K L m .non v) : v = .non := by cases h; rfl
theorem VR.str_inv {L : Hp} {m : List Addr} {s : List Nat} {v : V} (h : VR K L m (.str s) v) : v = .str ⟨s.toArray⟩ := by cases h; rfl
theorem VR.tup_inv {L : Hp} {m : List Addr} {xs : List MV} {v : V} (h : VR K L m (.tup xs) v) : ∃ a vs, v = .ref a ∧ SqT K L a vs ∧ VRs K L m xs vs := by
  cases h with
  | tup a b => exact ⟨_, _, rfl, a, b⟩
theorem VR.lst_inv {L : Hp} {m : List Addr} {xs : List MV} {v : V} (h : VR K L m (.lst xs) v) : ∃ a vs, v = .ref a ∧ Rd L a (.lst vs) ∧ VRs K L m xs vs := by
  cases h with
  | lst a b => exact ⟨_, _, rfl, a, b⟩
theorem VR.ref_inv {L : Hp} {m : List Addr} {n : Nat} {v : V} (h : VR K L m (.ref n) v) : ∃ a, v = .ref a ∧ m[n]? = some a := by
  cases h with
  | ref a => exact ⟨_, rfl, a⟩
theorem VR.scr_inv {L : Hp} {m : List Addr} {xs : List MV} {v : V} (h : VR K L m (.scr xs) v) : ∃ a vs, v = .ref a ∧ SqL K L a vs ∧ VRs K L m xs vs := by
  cases h with
  | scr a b => exact ⟨_, _, rfl, a, b⟩
theorem VRs.nil_inv {L : Hp} {m : List Addr} {v : List V} (h : VRs K L m [] v) : v = [] := by cases h; rfl
theorem VRs.cons_inv {L : Hp} {m : List Addr} {x : MV} {xs : List MV} {v : List V} (h : VRs K L m (x :: xs) v) : ∃ y ys, v = y :: ys ∧ VR K L m x y ∧ VRs K L m xs ys := by
  cases h with
  | cons a b => exact ⟨_, _, rfl, a, b⟩
theorem VRs.one_inv {L : Hp} {m : List Addr} {x : MV} {v : List V} (h : VRs K L m [x] v) : ∃ y, v = [y] ∧ VR K L m x y := by
  obtain ⟨y, ys, e, a, b⟩ := h.cons_inv
  cases b.nil_inv
  exact ⟨y, e, a⟩
theorem VRs.two_inv {L : Hp} {m : List Addr} {x y : MV} {v : List V} (h : VRs K L m [x, y] v) : ∃ a b, v = [a, b] ∧ VR K L m x a ∧ VR K L m y b := by
  obtain ⟨a, ys, e, p, q⟩ := h.cons_inv
  obtain ⟨b, e2, q2⟩ := q.one_inv
  subst e2
  exact ⟨a, b, e, p, q2⟩

/-! ### operations of two values -/
/-- what an operation of the model does, by ours -/
def rM (K : PySem.W.Frag) (G : Gs) (f : MV → MV → Option MV) : R2 := fun v w H Q => ∃ r M x y z, r.H = H ∧ HR K G r M ∧ VR K r.L r.m x v ∧ VR K r.L r.m y w ∧ f x y = some z ∧
  ∀ r' u, Fw r r' → HR K G r' M → VR K r'.L r'.m z u → Q u r'.H
def rMH (K : PySem.W.Frag) (G : Gs) (f : MH → MV → MV → Option MV) : R2 := fun v w H Q => ∃ r M x y z, r.H = H ∧ HR K G r M ∧ VR K r.L r.m x v ∧ VR K r.L r.m y w ∧ f M x y = some z ∧
  ∀ r' u, Fw r r' → HR K G r' M → VR K r'.L r'.m z u → Q u r'.H
def rMV (K : PySem.W.Frag) (G : Gs) (f : MV → Option MV) : V → Hp → VK → Prop := fun v H Q => ∃ r M x z, r.H = H ∧ HR K G r M ∧ VR K r.L r.m x v ∧ f x = some z ∧
  ∀ r' u, Fw r r' → HR K G r' M → VR K r'.L r'.m z u → Q u r'.H
/-- .. of a list of values -/
def rMs (K : PySem.W.Frag) (G : Gs) (f : MH → List MV → Option MV) : List V → Hp → VK → Prop := fun v H Q => ∃ r M x z, r.H = H ∧ HR K G r M ∧ VRs K r.L r.m x v ∧ f M x = some z ∧
  ∀ r' u, Fw r r' → HR K G r' M → VR K r'.L r'.m z u → Q u r'.H
def rMsL (K : PySem.W.Frag) (G : Gs) (f : MH → List MV → Option (List MV)) : List V → Hp → VK → Prop := fun v H Q => ∃ r M x z, r.H = H ∧ HR K G r M ∧ VRs K r.L r.m x v ∧ f M x = some z ∧
  ∀ r' u, Fw r r' → HR K G r' M → rL K r r' z u → Q u r'.H
def rMm (K : PySem.W.Frag) (G : Gs) (f : MV → List MV → Option MV) : V → List V → Hp → VK → Prop := fun v vs H Q => ∃ r M x xs z, r.H = H ∧ HR K G r M ∧ VR K r.L r.m x v ∧ VRs K r.L r.m xs vs ∧ f x xs = some z ∧
  ∀ r' u, Fw r r' → HR K G r' M → VR K r'.L r'.m z u → Q u r'.H
theorem rd_op2 {f : MV → MV → Option MV} {xa xb : Ex MV} {Q : VK} (h : rd K G ea (rV K) W (op2E f xa xb) σ H Q) : tOp (rM K G f) (rd K G ea (rV K) W xa) (rd K G ea (rV K) W xb) σ H Q := by
  refine rd_mono (rd_bind (R := rV K) h) fun v H1 ⟨r, x, r1, e, _, vx, h1⟩ => ?_
  subst e
  refine rd_mono (rdAt_bind (R := rV K) h1) fun w H2 ⟨y, r2, e, f2, vy, h2⟩ => ?_
  subst e
  obtain ⟨f3, M, z, hr, ez, g⟩ := rdAt_opt h2
  exact ⟨r2, M, x, y, z, rfl, hr, f2.toLk.vr vx, vy, ez, fun r' u f => g r' u (f3.trans f)⟩
theorem rd_op2H {f : MH → MV → MV → Option MV} {xa xb : Ex MV} {Q : VK} (h : rd K G ea (rV K) W (op2H f xa xb) σ H Q) : tOp (rMH K G f) (rd K G ea (rV K) W xa) (rd K G ea (rV K) W xb) σ H Q := by
  refine rd_mono (rd_bind (R := rV K) h) fun v H1 ⟨r, x, r1, e, _, vx, h1⟩ => ?_
  subst e
  refine rd_mono (rdAt_bind (R := rV K) h1) fun w H2 ⟨y, r2, e, f2, vy, h2⟩ => ?_
  subst e
  obtain ⟨f3, M, z, hr, ez, g⟩ := rdAt_optH h2
  exact ⟨r2, M, x, y, z, rfl, hr, f2.toLk.vr vx, vy, ez, fun r' u f => g r' u (f3.trans f)⟩
theorem rd_op1 {f : MV → Option MV} {xa : Ex MV} {Q : VK} (h : rd K G ea (rV K) W (op1E f xa) σ H Q) : tUn (rMV K G f) (rd K G ea (rV K) W xa) σ H Q := by
  refine rd_mono (rd_bind (R := rV K) h) fun v H1 ⟨r, x, r1, e, _, vx, h1⟩ => ?_
  subst e
  obtain ⟨f3, M, z, hr, ez, g⟩ := rdAt_opt h1
  exact ⟨r1, M, x, z, rfl, hr, vx, ez, fun r' u f => g r' u (f3.trans f)⟩
end

/-! ### names, constants -/
section
variable {G : Gs} {ea : Ea} {X : Cx} {W : WX} {pos : Pos} {a b c : Expr} {xa xb xc : Ex MV}
theorem pv_var (i : Nat) {x : Str} {pos : Pos} (hN : X.N[i]? = some x := by rfl) (hv : Vis X.env.scope x := by first | exact Or.inl rfl | exact Or.inr (Or.inl rfl) | exact Or.inr (Or.inr rfl)) (hd : (x == ("__debug__" : Str)) = false := by decide)
    (hcd : (x == ("__classdict__" : Str)) = false := by decide) : PV G ea X W (.Name x pos) (varE i) := by
  refine ⟨pe_imp (pe_var hN hv hd hcd) fun σ H Q ⟨r, e, f, S, M, sr, hr, g⟩ => ?_⟩
  subst e
  unfold varE at g
  cases hs : S[i]? with
  | none => rw [hs] at g; exact g.elim
  | some s =>
    rw [hs] at g
    cases s with
    | val v =>
      obtain ⟨w, e, q⟩ := sr.val i v hs
      exact ⟨w, e, g r w f hr q⟩
    | non => exact g.elim
    | own _ => exact g.elim
    | xc _ _ => exact g.elim
/-- an expression of a value that is known -/
theorem pv_tC {e : Expr} {v : V} {x : MV} (h : PE X e (tC v)) (q : ∀ (L : Hp) (m : List Addr), VR X.K L m x v) : PV G ea X W e (retE x) := by
  refine ⟨pe_imp h fun σ H Q ⟨r, e, h⟩ => ?_⟩
  subst e
  obtain ⟨f, M, hr, g⟩ := rdAt_ret h
  exact g r v f hr (q _ _)
theorem pv_int {i : Int} {j : Nat} : PV G ea X W (.Constant (.int i) j pos) (retE (.int i)) := pv_tC pe_int fun _ _ => .int i
theorem pv_bl {i : Bool} {j : Nat} : PV G ea X W (.Constant (.bool i) j pos) (retE (.bl i)) := pv_tC pe_bl fun _ _ => .bl i
theorem pv_non {j : Nat} : PV G ea X W (.Constant .none j pos) (retE .non) := pv_tC pe_non fun _ _ => .non
theorem pv_str {x : Str} {s : List Nat} {j : Nat} (h : x = ⟨s.toArray⟩ := by decide +kernel) : PV G ea X W (.Constant (.str x) j pos) (retE (.str s)) := by
  subst h
  exact pv_tC pe_str fun _ _ => .str s
/-- a module's constant -/
structure GC (K : PySem.W.Frag) (mg : Str → Option Value) (x : Str) (v : MV) : Prop where
  ex : ∃ u w, mg x = some u ∧ RelV w u ∧ ∀ (L : Hp) (m : List Addr), VR K L m v w
theorem pv_glob {x : Str} {v : MV} (T : GC X.K X.mg x v) (hg : Gl X x := by rfl) (hd : (x == ("__debug__" : Str)) = false := by decide) : PV G ea X W (.Name x pos) (retE v) := by
  obtain ⟨u, w, h1, h2, h3⟩ := T.ex
  exact pv_tC (pe_glob hg h1 h2 hd) h3

/-! ### arguments, displays -/
theorem va_nil : PVa G ea X W [] nilA := by
  refine ⟨pa_imp pa_nil fun σ H Q ⟨r, e, h⟩ => ?_⟩
  subst e
  obtain ⟨f, M, hr, g⟩ := rdAt_ret h
  exact g r [] f hr .nil
theorem va_cons {es : List Expr} {xs : Ex (List MV)} (ha : PV G ea X W a xa) (hr : PVa G ea X W es xs) (hs : starEach (a :: es) X.env = (false, eval a X.env) :: starEach es X.env := by rfl) : PVa G ea X W (a :: es) (consA xa xs) := by
  refine ⟨pa_imp (pa_cons ha.pe hr.pa hs) fun σ H Q h => ?_⟩
  refine rd_mono (rd_bind (R := rV X.K) h) fun v H1 ⟨r, x, r1, e, _, vx, h1⟩ => ?_
  subst e
  refine rd_mono (rdAt_bind (R := rVs X.K) h1) fun w H2 ⟨y, r2, e, f2, vy, h2⟩ => ?_
  subst e
  obtain ⟨f, M, hr, g⟩ := rdAt_ret h2
  exact g r2 _ f hr (.cons (f2.toLk.vr vx) vy)
theorem sz_of {n : Nat} (h : n ≤ 16777216) : n ≤ sizeLine := by rw [sizeLine_eq]; exact h
theorem sz_lt {n : Nat} (h : n < 16777216) : n < sizeLine := by rw [sizeLine_eq]; exact h
/-- what a new locked object at p is to us -/
theorem pv_tup {es : List Expr} {xs : Ex (List MV)} {k : Nat} (h : PVa G ea X W es xs) : PV G ea X W (.Tuple es k pos) (tupE xs) := by
  refine ⟨pe_imp (pe_tup h.pa) fun σ H Q h => ?_⟩
  refine rd_mono (rd_bind (R := rVs X.K) h) fun vs H1 ⟨r, ys, r1, e, _, vx, h1⟩ => ?_
  subst e
  obtain ⟨f0, M, z, hr, ez, g⟩ := rdAt_opt h1
  split at ez
  · rename_i hl
    cases ez
    refine ⟨sz_of (by rw [← vx.length]; exact hl), fun p hp => ?_⟩
    have f := hr.lay_fw (o := .tup vs) hp
    exact g (r1.lay p (.tup vs)) _ (f0.trans f) (hr.lay hp) (.tup (.inl (.inl Rm.lay_L)) (f.toLk.vrs vx))
  · cases ez
/-- what a new list at p is to us -/
theorem new_L {K : PySem.W.Frag} {r0 r : Rm} {M : MH} {p : Addr} {vs : List V} {xs : List MV} (f0 : Fw r0 r) (hr : HR K G r M) (hp : r.H p = none) (h : VRs K r.L r.m xs vs) :
    Fw r0 (r.put p (.lst vs)) ∧ HR K G (r.put p (.lst vs)) M ∧ rL K r0 (r.put p (.lst vs)) xs (.ref p) := by
  have nF := hr.free_F hp
  have nm := hr.free_m hp
  have h0 := f0.fresh hp
  exact ⟨f0.put h0 nF, hr.put nF nm, p, vs, rfl, h0, upd_same, (Rm.put_lk nF).vrs h, nF, nm⟩
theorem vl_lst {es : List Expr} {xs : Ex (List MV)} (h : PVa G ea X W es xs) : PVL G ea X W (.List es pos) (lstL xs) := by
  refine ⟨pe_imp (pe_lst h.pa) fun σ H Q h => ?_⟩
  refine rd_mono (rd_bind (R := rVs X.K) h) fun vs H1 ⟨r, ys, r1, e, _, vx, h1⟩ => ?_
  subst e
  obtain ⟨f0, M, z, hr, ez, g⟩ := rdAt_opt h1
  split at ez
  · rename_i hl
    cases ez
    refine ⟨sz_of (by rw [← vx.length]; exact hl), fun p hp => ?_⟩
    obtain ⟨f, h2, q⟩ := new_L f0 hr hp vx
    exact g _ _ f h2 q
  · cases ez
/-- a new list, locked for ever -/
theorem pv_frz {e : Expr} {x : Ex (List MV)} (h : PVL G ea X W e x) : PV G ea X W e (frzE x) := by
  refine ⟨pe_imp h.pe fun σ H Q h => ?_⟩
  refine rd_mono (rd_bind (R := rL X.K) h) fun v H1 ⟨r, ys, r1, e, f, q, h1⟩ => ?_
  subst e
  obtain ⟨f0, M, hr, g⟩ := rdAt_ret h1
  obtain ⟨p, vs, e, n0, e1, vx, nF, nm⟩ := q
  subst e
  exact g (r1.lock p) _ (f0.lock n0) (hr.lock e1 nm) (.lst (.inl (Rm.lock_L e1)) (Rm.lock_lk.vrs vx))
/-- a new list that becomes a cell -/
theorem pv_shr {e : Expr} {x : Ex (List MV)} (h : PVL G ea X W e x) : PV G ea X W e (shrE x) := by
  refine ⟨pe_imp h.pe fun σ H Q h => ?_⟩
  refine rd_mono (rd_bind (R := rL X.K) h) fun v H1 ⟨r, ys, r1, e, f, q, h1⟩ => ?_
  subst e
  obtain ⟨f0, S, M, sr, hr, g⟩ := h1
  obtain ⟨p, vs, e, n0, e1, vx, nF, nm⟩ := q
  subst e
  have hc : HR X.K G (r1.cel p) (M ++ [.lst ys]) := hr.cel ⟨vs, e1, Rm.cel_lk.vrs vx⟩ nF nm
  exact g (r1.cel p) _ (f0.cel n0) hc (.ref (by rw [← hr.len]; exact get_last))
/-- a value out of a call of a built-in, of arguments -/
theorem rd_args {K : PySem.W.Frag} {σ : L2.St} {H : Hp} {f : MH → List MV → Option MV} {xs : Ex (List MV)} {Q : VK} (h : rd K G ea (rV K) W (bltH f xs) σ H Q) : tCB (rMs K G f) (rd K G ea (rVs K) W xs) σ H Q := by
  refine rd_mono (rd_bind (R := rVs K) h) fun vs H1 ⟨r, ys, r1, e, _, vx, h1⟩ => ?_
  subst e
  obtain ⟨f0, M, z, hr, ez, g⟩ := rdAt_optH h1
  exact ⟨r1, M, ys, z, rfl, hr, vx, ez, fun r' u f => g r' u (f0.trans f)⟩
theorem rd_argsL {K : PySem.W.Frag} {σ : L2.St} {H : Hp} {f : MH → List MV → Option (List MV)} {xs : Ex (List MV)} {Q : VK} (h : rd K G ea (rL K) W (bindE xs fun ys => fun S M => ofOpt (f M ys) S M) σ H Q) : tCB (rMsL K G f) (rd K G ea (rVs K) W xs) σ H Q := by
  refine rd_mono (rd_bind (R := rVs K) h) fun vs H1 ⟨r, ys, r1, e, _, vx, h1⟩ => ?_
  subst e
  obtain ⟨f0, M, z, hr, ez, g⟩ := rdAt_optH h1
  exact ⟨r1, M, ys, z, rfl, hr, vx, ez, fun r' u f h' ⟨p, vs, q1, q2, q3⟩ => g r' u (f0.trans f) h' ⟨p, vs, q1, f0.fresh q2, q3⟩⟩
end

/-! ### operators -/
section
variable {G : Gs} {ea : Ea} {X : Cx} {W : WX} {pos : Pos} {a b c : Expr} {xa xb xc : Ex MV}
theorem pv_bin {op : Operator} {f : MV → MV → Option MV} (ho : OpR X (binaryOp op) (rM X.K G f)) (ha : PV G ea X W a xa) (hb : PV G ea X W b xb) : PV G ea X W (.BinOp a op b pos) (op2E f xa xb) :=
  ⟨pe_imp (pe_op ho ha.pe hb.pe) fun _ _ _ h => rd_op2 h⟩
theorem pv_un {op : UnaryOp} {f : MV → Option MV} (ho : UnR X (unaryOp op) (rMV X.K G f)) (ha : PV G ea X W a xa) : PV G ea X W (.UnaryOp op a pos) (op1E f xa) :=
  ⟨pe_imp (pe_un ho ha.pe) fun _ _ _ h => rd_op1 h⟩
theorem pv_cmp {op : CmpOp} {f : MV → MV → Option MV} (ho : OpR X (compareOp op) (rM X.K G f)) (ha : PV G ea X W a xa) (hb : PV G ea X W b xb) (hm : behindInMarks op b = false := by first | exact nomark _ | rfl) :
    PV G ea X W (.Compare a [op] [b] pos) (op2E f xa xb) := ⟨pe_imp (pe_cmpR ho ha.pe hb.pe hm) fun _ _ _ h => rd_op2 h⟩
/-- a comparison as a test -/
theorem vt_cmp {op : CmpOp} {f : MV → MV → Option MV} (ho : OpR X (compareOp op) (rM X.K G f)) (ha : PV G ea X W a xa) (hb : PV G ea X W b xb) (hm : behindInMarks op b = false := by first | exact nomark _ | rfl) :
    PVt G ea X W (.Compare a [op] [b] pos) (asT (op2E f xa xb)) := by
  refine ⟨pt_imp (pt_cmpR ho ha.pe hb.pe hm) fun σ H Q h => ?_⟩
  have q := rd_bind (R := rV X.K) h
  have q2 := rd_op2 q
  refine rd_mono q2 fun v H1 q3 => rd_mono q3 fun w H2 ⟨r, M, x, y, z, e, hr, vx, vy, ez, g⟩ => ⟨r, M, x, y, z, e, hr, vx, vy, ez, fun r' u f h' vu => ?_⟩
  obtain ⟨r3, a3, r4, e4, f4, va, h4⟩ := g r' u f h' vu
  obtain ⟨f5, M5, b5, hr5, eb, g5⟩ := rdAt_opt h4
  cases a3 with
  | bl k =>
    obtain rfl := VR.bl_inv va
    cases eb
    rw [← e4]
    exact ⟨b5, rfl, g5 r4 b5 f5 hr5 rfl⟩
  | _ => cases eb
end
end Mv

set_option Elab.async false
set_option linter.all false
set_option maxRecDepth 100000
set_option autoImplicit false
set_option maxHeartbeats 1000000
/-! MvD: tests, calls, subscripts, slices. -/
namespace Mv
open PySem PySem.Spec PyProof.Rows L2
section
variable {G : Gs} {ea : Ea} {X : Cx} {W : WX} {pos : Pos} {a b c : Expr} {xa xb xc : Ex MV} {ta tb : Te} {rest : List Expr}
theorem ite_rd {K : PySem.W.Frag} {α β : Type} {R : Rel α β} {σ : L2.St} {r0 r : Rm} {Q : β → Hp → Prop} {k : Bool} {x y : Ex α} (h : rdAt K G ea R W (if k = true then x else y) σ r0 r Q) :
    (k = true → rdAt K G ea R W x σ r0 r Q) ∧ (k = false → rdAt K G ea R W y σ r0 r Q) := by
  cases k
  · exact ⟨fun z => (nomatch z), fun _ => h⟩
  · exact ⟨fun _ => h, fun z => (nomatch z)⟩
/-- seen from where it stands -/
theorem rdAt_rd {K : PySem.W.Frag} {α β : Type} {R : Rel α β} {σ : L2.St} {r0 r : Rm} {Q : β → Hp → Prop} {x : Ex α} (hR : ∀ a b c u v, R b c u v → R a c u v) (h : rdAt K G ea R W x σ r0 r Q) : rd K G ea R W x σ r.H Q := by
  obtain ⟨f0, S, M, sr, hr, g⟩ := h
  refine ⟨r, rfl, .refl r, S, M, sr, hr, ?_⟩
  cases hx : x S M with
  | bad => rw [hx] at g; exact g
  | exc c fs M' => rw [hx] at g; exact fun r' d f h' q => g r' d (f0.trans f) h' q
  | ok a M' => rw [hx] at g; exact fun r' b f h' q => g r' b (f0.trans f) h' (hR _ _ _ _ _ q)
theorem rdV {K : PySem.W.Frag} {σ : L2.St} {r0 r : Rm} {Q : VK} {x : Ex MV} (h : rdAt K G ea (rV K) W x σ r0 r Q) : rd K G ea (rV K) W x σ r.H Q := rdAt_rd (fun _ _ _ _ _ h => h) h
theorem rdB {K : PySem.W.Frag} {σ : L2.St} {r0 r : Rm} {Q : Bool → Hp → Prop} {x : Te} (h : rdAt K G ea rB W x σ r0 r Q) : rd K G ea rB W x σ r.H Q := rdAt_rd (fun _ _ _ _ _ h => h) h
theorem vt_of (h : PVw G ea X W a ta) : PVt G ea X W a ta := ⟨h.pw.pt⟩
theorem vt_not (h : PVt G ea X W a ta) : PVt G ea X W (.UnaryOp .Not a pos) (notT ta) := by
  refine ⟨pt_imp (pt_not h.pt) fun σ H Q h => ?_⟩
  refine rd_mono (rd_bind (R := rB) h) fun k H1 ⟨r, k', r1, e, _, ek, h1⟩ => ?_
  subst e
  obtain ⟨f, M, hr, g⟩ := rdAt_ret h1
  cases ek
  exact g r1 _ f hr rfl
theorem vw_and1 (h : PVt G ea X W a ta) : PVw G ea X W (.BoolOp .And [a] pos) ta := ⟨pw_and1 h.pt⟩
theorem vw_or1 (h : PVt G ea X W a ta) : PVw G ea X W (.BoolOp .Or [a] pos) ta := ⟨pw_or1 h.pt⟩
theorem vw_and (ha : PVt G ea X W a ta) (hb : PVw G ea X W (.BoolOp .And (b :: rest) pos) tb) : PVw G ea X W (.BoolOp .And (a :: b :: rest) pos) (andT ta tb) := by
  refine ⟨pw_imp (pw_and ha.pt hb.pw) fun σ H Q h => ?_⟩
  refine rd_mono (rd_bind (R := rB) h) fun k H1 ⟨r, k', r1, e, _, ek, h1⟩ => ?_
  subst e
  cases ek
  obtain ⟨g1, g2⟩ := ite_rd h1
  cases k with
  | true => exact iteT (rdB (g1 rfl))
  | false =>
    obtain ⟨f, M, hr, g⟩ := rdAt_ret (g2 rfl)
    exact iteF (g r1 _ f hr rfl)
theorem vw_or (ha : PVt G ea X W a ta) (hb : PVw G ea X W (.BoolOp .Or (b :: rest) pos) tb) : PVw G ea X W (.BoolOp .Or (a :: b :: rest) pos) (orT ta tb) := by
  refine ⟨pw_imp (pw_or ha.pt hb.pw) fun σ H Q h => ?_⟩
  refine rd_mono (rd_bind (R := rB) h) fun k H1 ⟨r, k', r1, e, _, ek, h1⟩ => ?_
  subst e
  cases ek
  obtain ⟨g1, g2⟩ := ite_rd h1
  cases k with
  | false => exact iteF (rdB (g2 rfl))
  | true =>
    obtain ⟨f, M, hr, g⟩ := rdAt_ret (g1 rfl)
    exact iteT (g r1 _ f hr rfl)
/-- any expression as a test -/
theorem vt_tru (h : PV G ea X W a xa) (he : ∀ whole, isTrue a X.env whole = (do let v ← whole; standAt a.pos; holding [v] (truthy v)) := by intro _; rfl) : PVt G ea X W a (truT xa) := by
  refine ⟨pt_imp (pt_truth h.pe he) fun σ H Q h => ?_⟩
  refine rd_mono (rd_bind (R := rV X.K) h) fun v H1 ⟨r, x, r1, e, _, vx, h1⟩ => ?_
  subst e
  obtain ⟨f, M, k, hr, ek, g⟩ := rdAt_optH h1
  refine ⟨k, ?_, g r1 k f hr rfl⟩
  have vx : VR X.K r1.L r1.m x v := vx
  cases x with
  | non => cases vx.non_inv; cases ek; rfl
  | bl _ => cases vx.bl_inv; cases ek; rfl
  | int _ => cases vx.int_inv; cases ek; rfl
  | str s =>
    cases vx.str_inv
    simp only [truV] at ek
    split at ek
    · rename_i hl
      cases ek
      refine ⟨sz_of (by simpa [Str.length] using hl), ?_⟩
      cases s with
      | nil => rfl
      | cons c s => rw [Bool.eq_iff_iff]; simp [Str.length]; omega
    · cases ek
  | tup xs =>
    obtain ⟨p, vs, e, q, t⟩ := vx.tup_inv
    subst e
    cases ek
    refine .inr (.inl ⟨vs, same_t r1.L_H q, ?_⟩)
    cases t <;> rfl
  | lst xs =>
    obtain ⟨p, vs, e, q, t⟩ := vx.lst_inv
    subst e
    cases ek
    refine .inl ⟨vs, .inl (same_rd r1.L_H q), ?_⟩
    cases t <;> rfl
  | scr xs =>
    obtain ⟨p, vs, e, q, t⟩ := vx.scr_inv
    subst e
    cases ek
    refine .inl ⟨vs, r1.L_H.seq q, ?_⟩
    cases t <;> rfl
  | dct _ _ => cases ek
  | ref n =>
    obtain ⟨p, e, q⟩ := vx.ref_inv
    subst e
    simp only [truV] at ek
    split at ek
    · rename_i xs hM
      obtain ⟨vs, e1, t⟩ := hr.at_ n p _ q hM
      cases ek
      refine .inl ⟨vs, .inl (.inl e1), ?_⟩
      cases t <;> rfl
    · cases ek
/-- a if t else b -/
theorem pv_if {t : Expr} {tt : Te} (ht : PVt G ea X W t tt) (ha : PV G ea X W a xa) (hb : PV G ea X W b xb) : PV G ea X W (.IfExp t a b pos) (iteE tt xa xb) := by
  refine ⟨pe_imp (pe_ifExp ht.pt ha.pe hb.pe) fun σ H Q h => ?_⟩
  refine rd_mono (rd_bind (R := rB) h) fun k H1 ⟨r, k', r1, e, _, ek, h1⟩ => ?_
  subst e
  cases ek
  obtain ⟨g1, g2⟩ := ite_rd h1
  cases k with
  | true => exact iteT (rdV (g1 rfl))
  | false => exact iteF (rdV (g2 rfl))
theorem vx_bl {K : PySem.W.Frag} {W : WX} {x : MV} {v : V} {r0 r : Rm} {σ : L2.St} {Q : VK} {f : Bool → Ex MV} (vx : VR K r.L r.m x v) (h : rdAt K G ea (rV K) W (onBl x f) σ r0 r Q) : ∃ k, x = .bl k ∧ v = .bl k ∧ rdAt K G ea (rV K) W (f k) σ r0 r Q := by
  cases x with
  | bl k => exact ⟨k, rfl, vx.bl_inv, h⟩
  | _ =>
    have h' : rdAt K G ea (rV K) W (ofOpt (none : Option MV)) σ r0 r Q := h
    obtain ⟨_, _, _, _, z, _⟩ := rdAt_opt h'
    cases z
/-- and, or, not as values -/
theorem pv_one {op : BoolOp} (h : PV G ea X W a xa) : PV G ea X W (.BoolOp op [a] pos) xa := ⟨pe_one h.pe⟩
theorem pv_and (ha : PV G ea X W a xa) (hb : PV G ea X W (.BoolOp .And (b :: rest) pos) xb) : PV G ea X W (.BoolOp .And (a :: b :: rest) pos) (andV xa xb) := by
  refine ⟨pe_imp (pe_and ha.pe hb.pe) fun σ H Q h => ?_⟩
  refine rd_mono (rd_bind (R := rV X.K) h) fun v H1 ⟨r, x, r1, e, _, vx, h1⟩ => ?_
  subst e
  obtain ⟨k, rfl, rfl, h1⟩ := vx_bl vx h1
  obtain ⟨g1, g2⟩ := ite_rd h1
  refine ⟨k, rfl, ?_⟩
  cases k with
  | true => exact iteT (rdV (g1 rfl))
  | false =>
    obtain ⟨f, M, hr, g⟩ := rdAt_ret (g2 rfl)
    exact iteF (g r1 _ f hr (.bl false))
theorem pv_or (ha : PV G ea X W a xa) (hb : PV G ea X W (.BoolOp .Or (b :: rest) pos) xb) : PV G ea X W (.BoolOp .Or (a :: b :: rest) pos) (orV xa xb) := by
  refine ⟨pe_imp (pe_or ha.pe hb.pe) fun σ H Q h => ?_⟩
  refine rd_mono (rd_bind (R := rV X.K) h) fun v H1 ⟨r, x, r1, e, _, vx, h1⟩ => ?_
  subst e
  obtain ⟨k, rfl, rfl, h1⟩ := vx_bl vx h1
  obtain ⟨g1, g2⟩ := ite_rd h1
  refine ⟨k, rfl, ?_⟩
  cases k with
  | false => exact iteF (rdV (g2 rfl))
  | true =>
    obtain ⟨f, M, hr, g⟩ := rdAt_ret (g1 rfl)
    exact iteT (g r1 _ f hr (.bl true))
theorem pv_not (ha : PV G ea X W a xa) : PV G ea X W (.UnaryOp .Not a pos) (notV xa) := by
  refine ⟨pe_imp (pe_not ha.pe) fun σ H Q h => ?_⟩
  refine rd_mono (rd_bind (R := rV X.K) h) fun v H1 ⟨r, x, r1, e, _, vx, h1⟩ => ?_
  subst e
  obtain ⟨f, M, k, hr, ek, g⟩ := rdAt_opt h1
  cases x with
  | bl k' => cases ek; exact ⟨k', VR.bl_inv vx, g r1 _ f hr (.bl _)⟩
  | _ => cases ek
/-- a op b op' c -/
theorem rd_chain {K : PySem.W.Frag} {σ : L2.St} {H : Hp} {f f' : MV → MV → Option MV} {Q : VK} (h : rd K G ea (rV K) W (chainE f f' xa xb xc) σ H Q) :
    tChain (rM K G f) (rM K G f') (rd K G ea (rV K) W xa) (rd K G ea (rV K) W xb) (rd K G ea (rV K) W xc) σ H Q := by
  refine rd_mono (rd_bind (R := rV K) h) fun v H1 ⟨r, x, r1, e, _, vx, h1⟩ => ?_
  subst e
  refine rd_mono (rdAt_bind (R := rV K) h1) fun w H2 ⟨y, r2, e, f2, vy, h2⟩ => ?_
  subst e
  obtain ⟨f3, S, M, sr, hr, g⟩ := h2
  cases ez : f x y with
  | none => rw [ez] at g; exact g.elim
  | some z =>
    rw [ez] at g
    refine ⟨r2, M, x, y, z, rfl, hr, f2.toLk.vr vx, vy, ez, fun r' u f4 hr' vu => ?_⟩
    have h3 : rdAt K G ea (rV K) W (onBl z fun k => if k = true then bindE xc fun w => ofOpt (f' y w) else retE (.bl false)) σ r r' Q := ⟨f3.trans f4, S, M, sr.mono f4, hr', g⟩
    obtain ⟨k, rfl, rfl, h3⟩ := vx_bl vu h3
    obtain ⟨g1, g2⟩ := ite_rd h3
    refine ⟨k, rfl, ?_⟩
    cases k with
    | false =>
      obtain ⟨f5, M5, hr5, g5⟩ := rdAt_ret (g2 rfl)
      exact iteF (g5 r' _ f5 hr5 (.bl false))
    | true =>
      refine iteT (rd_mono (rdAt_bind (R := rV K) (g1 rfl)) fun w' H4 ⟨z', r4, e4, f6, vz, h4⟩ => ?_)
      subst e4
      obtain ⟨f7, M7, z7, hr7, e7, g7⟩ := rdAt_opt h4
      exact ⟨r4, M7, y, z', z7, rfl, hr7, f6.toLk.vr (f4.toLk.vr vy), vz, e7, fun r' u f => g7 r' u (f7.trans f)⟩
theorem pv_chain {op op' : CmpOp} {f f' : MV → MV → Option MV} (ho : OpR X (compareOp op) (rM X.K G f)) (ho' : OpR X (compareOp op') (rM X.K G f')) (ha : PV G ea X W a xa) (hb : PV G ea X W b xb) (hc : PV G ea X W c xc)
    (hm : lastMarks [op, op'] [b, c] = false := by with_unfolding_all rfl) : PV G ea X W (.Compare a [op, op'] [b, c] pos) (chainE f f' xa xb xc) := ⟨pe_imp (pe_chain ho ho' ha.pe hb.pe hc.pe hm) fun _ _ _ h => rd_chain h⟩
/-- a value that is a bool, as a test: what rd says of asT -/
theorem rd_asT {K : PySem.W.Frag} {σ : L2.St} {H : Hp} {x : Ex MV} {Q : Bool → Hp → Prop} (h : rd K G ea rB W (asT x) σ H Q) : rd K G ea (rV K) W x σ H (fun v H' => ∃ k, v = .bl k ∧ Q k H') := by
  refine rd_mono (rd_bind (R := rV K) h) fun v H1 ⟨r, x, r1, e, _, vx, h1⟩ => ?_
  subst e
  obtain ⟨f, M, k, hr, ek, g⟩ := rdAt_opt h1
  cases x with
  | bl k' => cases ek; exact ⟨_, VR.bl_inv vx, g r1 _ f hr rfl⟩
  | _ => cases ek
theorem vt_chain {op op' : CmpOp} {f f' : MV → MV → Option MV} (ho : OpR X (compareOp op) (rM X.K G f)) (ho' : OpR X (compareOp op') (rM X.K G f')) (ha : PV G ea X W a xa) (hb : PV G ea X W b xb) (hc : PV G ea X W c xc)
    (hm : lastMarks [op, op'] [b, c] = false := by with_unfolding_all rfl) : PVt G ea X W (.Compare a [op, op'] [b, c] pos) (asT (chainE f f' xa xb xc)) :=
  ⟨pt_imp (pt_chain ho ho' ha.pe hb.pe hc.pe hm) fun _ _ _ h => rd_chain (rd_asT h)⟩

/-! ### calls of defs -/
def GoodF (K : PySem.W.Frag) (G : Gs) (r : Rm) (Q : VK) (E : XK) : Out MV → Prop
  | .ok v M' => ∀ r' w, Fw r r' → HR K G r' M' → VR K r'.L r'.m v w → Q w r'.H
  | .exc c fs M' => ∀ r' d, Fw r r' → HR K G r' M' → XR K G r' c fs d → E (.ref (G.cA c)) d r'.H
  | .bad => False
/-- a def's promise: it does what g does -/
def spM (K : PySem.W.Frag) (G : Gs) (g : List MV → MH → Out MV) : Sp := fun vs H Q E => ∃ r M args, r.H = H ∧ HR K G r M ∧ VRs K r.L r.m args vs ∧ GoodF K G r Q E (g args M)
theorem rd_call {K : PySem.W.Frag} {σ : L2.St} {H : Hp} {g : List MV → MH → Out MV} {xs : Ex (List MV)} {Q : VK} (h : rd K G ea (rV K) W (callE g xs) σ H Q) : tCallS (spM K G g) (WE W) (rd K G ea (rVs K) W xs) σ H Q := by
  refine rd_mono (rd_bind (R := rVs K) h) fun vs H1 ⟨r, ys, r1, e, _, vx, h1⟩ => ?_
  subst e
  obtain ⟨f0, S, M, sr, hr, q⟩ := h1
  refine ⟨r1, M, ys, rfl, hr, vx, ?_⟩
  have q : Good K G (rV K) W σ r Q (g ys M) := q
  cases hg : g ys M with
  | bad => rw [hg] at q; exact q
  | exc c fs M' => rw [hg] at q; exact fun r' d f h' z => q r' d (f0.trans f) h' z
  | ok v M' => rw [hg] at q; exact fun r' w f h' z => q r' w (f0.trans f) h' z
/-- the def that stands at the name x does what g does, with room -/
structure Cal (P : Program) (w : World) (K : PySem.W.Frag) (mg : Str → Option Value) (base : Heap) (A : Around) (G : Gs) (x : Str) (g : List MV → MH → Out MV) : Prop where
  ex : ∃ (k : Nat) (f : Addr) (fd : FuncData) (ps : List Str), FnOk P w K mg base (L2.CX P w) k f fd ps (spM K G g) ∧ Room k A ∧ mg x = some (.ref f) ∧ PySem.W.keepIn K (.ref f) = true ∧ Binds K fd ps []
theorem pv_call {x : Str} {p : Pos} {es : List Expr} {g : List MV → MH → Out MV} {xs : Ex (List MV)} (T : Cal X.prog X.w X.K X.mg X.base X.A G x g) (tk : Takes X W) (ha : PVa G ea X W (a :: es) xs) (hg : Gl X x := by rfl) (hdb : (x == ("__debug__" : Str)) = false := by decide)
    (he : starEach (a :: es) X.env = (false, eval a X.env) :: starEach es X.env := by rfl) (hpl : (backTo pos (starEach es X.env)).any (·.1) = false := by rfl) : PV G ea X W (.Call (.Name x p) (a :: es) [] pos) (callE g xs) := by
  obtain ⟨k, f, fd, ps, F, hr, hm, hk, hb⟩ := T.ex
  exact ⟨pe_imp (pe_callS F hr hg hm hk hb (fun σ => passAt tk σ) ha.pa hdb he hpl) fun _ _ _ h => rd_call h⟩
theorem pv_call0 {x : Str} {p : Pos} {g : List MV → MH → Out MV} (T : Cal X.prog X.w X.K X.mg X.base X.A G x g) (tk : Takes X W) (hg : Gl X x := by rfl) (hdb : (x == ("__debug__" : Str)) = false := by decide) : PV G ea X W (.Call (.Name x p) [] [] pos) (callE g nilA) := by
  obtain ⟨k, f, fd, ps, F, hr, hm, hk, hb⟩ := T.ex
  refine ⟨pe_imp (t := tCallS (spM X.K G g) (WE W) tNil) ⟨fun pins s σ H Q I h => ?_⟩ fun σ H Q h => ?_⟩
  · refine wpAny_Call_Name_kw (ld_glob I hg hm ?_ hdb)
    exact PySem.W.callWith_K0 I.kIn hk (run_fnS (us := []) F hr hb (passAt tk σ) I .nil h)
  · obtain ⟨r, e, f0, S, M, sr, hr, q⟩ := h
    subst e
    refine ⟨r, M, [], rfl, hr, .nil, ?_⟩
    have q : Good X.K G (rV X.K) W σ r Q (g [] M) := q
    cases hg : g [] M with
    | bad => rw [hg] at q; exact q
    | exc c fs M' => rw [hg] at q; exact q
    | ok v M' => rw [hg] at q; exact q

/-! ### built-ins by their names -/
theorem pv_blt {x : Str} {p : Pos} {id : String} {es : List Expr} {f : MH → List MV → Option MV} {xs : Ex (List MV)} (hc : CallR X (.builtin id) (rMs X.K G f)) (hm : X.mg x = none) (hv : bootBuiltins x = some (.builtin id)) (ha : PVa G ea X W (a :: es) xs)
    (hg : Gl X x := by rfl) (hn : x ≠ "__name__" := by decide) (hdb : (x == ("__debug__" : Str)) = false := by decide)
    (he : starEach (a :: es) X.env = (false, eval a X.env) :: starEach es X.env := by rfl) (hpl : (backTo pos (starEach es X.env)).any (·.1) = false := by rfl) : PV G ea X W (.Call (.Name x p) (a :: es) [] pos) (bltH f xs) :=
  ⟨pe_imp (pe_callB hc hg hm hv ha.pa hn hdb he hpl) fun _ _ _ h => rd_args h⟩
theorem pv_bty {x : Str} {p : Pos} {id : String} {es : List Expr} {f : MH → List MV → Option MV} {xs : Ex (List MV)} (hc : CallR X (.type id) (rMs X.K G f)) (hm : X.mg x = none) (hv : bootBuiltins x = some (.type id)) (ha : PVa G ea X W (a :: es) xs)
    (hg : Gl X x := by rfl) (hn : x ≠ "__name__" := by decide) (hdb : (x == ("__debug__" : Str)) = false := by decide)
    (he : starEach (a :: es) X.env = (false, eval a X.env) :: starEach es X.env := by rfl) (hpl : (backTo pos (starEach es X.env)).any (·.1) = false := by rfl) : PV G ea X W (.Call (.Name x p) (a :: es) [] pos) (bltH f xs) :=
  ⟨pe_imp (pe_callTy hc hg hm hv ha.pa hn hdb he hpl) fun _ _ _ h => rd_args h⟩
theorem vl_blt {x : Str} {p : Pos} {id : String} {es : List Expr} {f : MH → List MV → Option (List MV)} {xs : Ex (List MV)} (hc : CallR X (.builtin id) (rMsL X.K G f)) (hm : X.mg x = none) (hv : bootBuiltins x = some (.builtin id)) (ha : PVa G ea X W (a :: es) xs)
    (hg : Gl X x := by rfl) (hn : x ≠ "__name__" := by decide) (hdb : (x == ("__debug__" : Str)) = false := by decide)
    (he : starEach (a :: es) X.env = (false, eval a X.env) :: starEach es X.env := by rfl) (hpl : (backTo pos (starEach es X.env)).any (·.1) = false := by rfl) : PVL G ea X W (.Call (.Name x p) (a :: es) [] pos) (bltL f xs) :=
  ⟨pe_imp (pe_callB hc hg hm hv ha.pa hn hdb he hpl) fun _ _ _ h => rd_argsL h⟩
theorem vl_bty {x : Str} {p : Pos} {id : String} {es : List Expr} {f : MH → List MV → Option (List MV)} {xs : Ex (List MV)} (hc : CallR X (.type id) (rMsL X.K G f)) (hm : X.mg x = none) (hv : bootBuiltins x = some (.type id)) (ha : PVa G ea X W (a :: es) xs)
    (hg : Gl X x := by rfl) (hn : x ≠ "__name__" := by decide) (hdb : (x == ("__debug__" : Str)) = false := by decide)
    (he : starEach (a :: es) X.env = (false, eval a X.env) :: starEach es X.env := by rfl) (hpl : (backTo pos (starEach es X.env)).any (·.1) = false := by rfl) : PVL G ea X W (.Call (.Name x p) (a :: es) [] pos) (bltL f xs) :=
  ⟨pe_imp (pe_callTy hc hg hm hv ha.pa hn hdb he hpl) fun _ _ _ h => rd_argsL h⟩

/-! ### subscripts, slices -/
theorem pv_ix (hr : IxR X (rMH X.K G ixM)) (ha : PV G ea X W a xa) (hb : PV G ea X W b xb) (hs : PlainIx b := by exact fun _ _ => rfl) : PV G ea X W (.Subscript a b pos) (ixE xa xb) :=
  ⟨pe_imp (pe_ix hr ha.pe hb.pe hs) fun _ _ _ h => rd_op2H h⟩
theorem vo_none : PVo G ea X W none noPart := by
  refine ⟨po_imp po_none fun σ H Q ⟨r, e, h⟩ => ?_⟩
  subst e
  obtain ⟨f, M, hr, g⟩ := rdAt_ret h
  exact g r _ f hr rfl
theorem vo_some (h : PV G ea X W a xa) : PVo G ea X W (some a) (partE xa) := by
  refine ⟨po_imp (po_some h.pe) fun σ H Q h => ?_⟩
  refine rd_mono (rd_bind (R := rV X.K) h) fun v H1 ⟨r, x, r1, e, _, vx, h1⟩ => ?_
  subst e
  obtain ⟨f, M, k, hr, ek, g⟩ := rdAt_opt h1
  cases x with
  | int i => cases ek; exact ⟨i, VR.int_inv vx, g r1 _ f hr rfl⟩
  | _ => cases ek
def rMs3 (K : PySem.W.Frag) (G : Gs) (f : MV → Option Int → Option Int → Option MV) : V → Option Int → Option Int → Hp → VK → Prop := fun v lo hi H Q => ∃ r M x z, r.H = H ∧ HR K G r M ∧ VR K r.L r.m x v ∧ f x lo hi = some z ∧
  ∀ r' u, Fw r r' → HR K G r' M → VR K r'.L r'.m z u → Q u r'.H
theorem pv_slice {lo hi : Option Expr} {p2 : Pos} {xl xh : Ex (Option Int)} (hr : SlR X (rMs3 X.K G slM)) (ha : PV G ea X W a xa) (hl : PVo G ea X W lo xl) (hu : PVo G ea X W hi xh) : PV G ea X W (.Subscript a (.Slice lo hi none p2) pos) (sliceE xa xl xh) := by
  refine ⟨pe_imp (pe_slice hr ha.pe hl.po hu.po) fun σ H Q h => ?_⟩
  refine rd_mono (rd_bind (R := rV X.K) h) fun v H1 ⟨r, x, r1, e, _, vx, h1⟩ => ?_
  subst e
  refine rd_mono (rdAt_bind (R := rO) h1) fun l H2 ⟨l', r2, e, f2, el, h2⟩ => ?_
  subst e
  cases el
  refine rd_mono (rdAt_bind (R := rO) h2) fun u H2 ⟨u', r3, e, f3, eu, h3⟩ => ?_
  subst e
  cases eu
  obtain ⟨f4, M, z, hr, ez, g⟩ := rdAt_opt h3
  exact ⟨r3, M, x, z, rfl, hr, f3.toLk.vr (f2.toLk.vr vx), ez, fun r' u f => g r' u (f4.trans f)⟩
/-- a method of a text -/
theorem pv_smeth {nm : Str} {id : String} {apos : Pos} {es : List Expr} {f : MV → List MV → Option MV} {xs : Ex (List MV)} (pa : PlainAttrs "str") (slot : PySem.Slot "str" nm id) (hty : typeOf (.builtin id) = pure (.type "method_descriptor")) (hm : MtR X id (rMm X.K G f))
    (ho : PV G ea X W b xb) (ha : PVa G ea X W (a :: es) xs) (hbase : attributeBase b nm X.env (eval b X.env) = eval b X.env := by rfl)
    (hfew : ((backTo pos (starEach (a :: es) X.env)).all (fun x => !x.1) && (backToKw pos (keywordEach [] X.env)).all (fun x => x.1.isSome) && decide ((a :: es).length + ([] : List Keyword).length + (if ([] : List Keyword).isEmpty then 0 else 1) < 30)) = true := by rfl)
    (hline : (apos.endLine == pos.line) = true := by rfl) (hs : starEach (a :: es) X.env = (false, eval a X.env) :: starEach es X.env := by rfl) (hplain : (backTo pos (starEach es X.env)).any (·.1) = false := by rfl) :
    PV G ea X W (.Call (.Attribute b nm apos) (a :: es) [] pos) (methV isStr f xb xs) := by
  refine ⟨pe_imp (pe_bm pa slot hty hm ho.pe ha.pa hbase hfew hline hs hplain) fun σ H Q h => ?_⟩
  refine rd_mono (rd_bind (R := rV X.K) h) fun v H1 ⟨r, x, r1, e, _, vx, h1⟩ => ?_
  subst e
  obtain ⟨g1, g2⟩ := ite_rd h1
  cases ht : isStr x with
  | false => obtain ⟨_, _, _, _, z, _⟩ := rdAt_opt (g2 ht); cases z
  | true =>
    refine ⟨?_, rd_mono (rdAt_bind (R := rVs X.K) (g1 ht)) fun vs H2 ⟨ys, r2, e, f2, vy, h2⟩ => ?_⟩
    · cases x with
      | str s => cases VR.str_inv vx; rfl
      | _ => cases ht
    · subst e
      obtain ⟨f4, M, z, hr, ez, g⟩ := rdAt_opt h2
      exact ⟨r2, M, x, ys, z, rfl, hr, f2.toLk.vr vx, vy, ez, fun r' u f => g r' u (f4.trans f)⟩
end
end Mv

set_option Elab.async false
set_option linter.all false
set_option maxRecDepth 100000
set_option autoImplicit false
set_option maxHeartbeats 1000000
/-! MvE: statements. -/
namespace Mv
open PySem PySem.Spec PyProof.Rows L2

/-- the slots of a def that began at r0 -/
structure SRE (K : PySem.W.Frag) (G : Gs) (ea : Ea) (r0 r : Rm) (S : Sg) (σ : L2.St) : Prop where
  sr : SR K G ea r S σ
  fw : Fw r0 r
  new : ∀ (i : Nat) (xs : List MV) (a : Addr), S[i]? = some (.own xs) → σ[i]? = some (some (.ref a)) → r0.H a = none
section
variable {K : PySem.W.Frag} {G : Gs} {ea : Ea} {W : WX} {r0 r r' rb : Rm} {S : Sg} {σ : L2.St} {M : MH} {H : Hp} {α β γ δ : Type} {D : Ends}
theorem SRE.mono (h : SRE K G ea r0 r S σ) (x : Fw r r') : SRE K G ea r0 r' S σ := ⟨h.sr.mono x, h.fw.trans x, h.new⟩
def GoodS (K : PySem.W.Frag) (G : Gs) (ea : Ea) (W : WX) (r0 rb : Rm) (D : Ends) : Fl → Prop
  | .nx S' M' => ∀ r' σ', Lk rb r' → SRE K G ea r0 r' S' σ' → HR K G r' M' → D.nx σ' r'.H
  | .rt v M' => ∀ r' w, Fw r0 r' → HR K G r' M' → VR K r'.L r'.m v w → D.rt w r'.H
  | .bk S' M' => ∀ r' σ', Lk rb r' → SRE K G ea r0 r' S' σ' → HR K G r' M' → D.bk σ' r'.H
  | .ct S' M' => ∀ r' σ', Lk rb r' → SRE K G ea r0 r' S' σ' → HR K G r' M' → D.ct σ' r'.H
  | .exc c fs S' M' => ∀ r' σ' d, Lk rb r' → SRE K G ea r0 r' S' σ' → HR K G r' M' → XR K G r' c fs d → W (.ref (G.cA c)) d σ' r'.H
  | .bad => False
theorem GoodS.base {o : Fl} (h : GoodS K G ea W r0 rb D o) (x : Lk rb r) : GoodS K G ea W r0 r D o := by
  cases o with
  | nx S' M' => exact fun r' σ' l => h r' σ' (x.trans l)
  | rt v M' => exact h
  | bk S' M' => exact fun r' σ' l => h r' σ' (x.trans l)
  | ct S' M' => exact fun r' σ' l => h r' σ' (x.trans l)
  | exc c fs S' M' => exact fun r' σ' d l => h r' σ' d (x.trans l)
  | bad => exact h
def rdSAt (K : PySem.W.Frag) (G : Gs) (ea : Ea) (W : WX) (x : Cm) (r0 rb r : Rm) (D : Ends) (σ : L2.St) : Prop :=
  Lk rb r ∧ ∃ S M, SRE K G ea r0 r S σ ∧ HR K G r M ∧ GoodS K G ea W r0 rb D (x S M)
def rdS (K : PySem.W.Frag) (G : Gs) (ea : Ea) (W : WX) (x : Cm) (r0 : Rm) : TS := fun D σ H => ∃ r : Rm, r.H = H ∧ rdSAt K G ea W x r0 r r D σ
theorem rdSAt.rd {x : Cm} (h : rdSAt K G ea W x r0 rb r D σ) : rdS K G ea W x r0 D σ r.H := by
  obtain ⟨l, S, M, sr, hr, g⟩ := h
  exact ⟨r, rfl, .refl r, S, M, sr, hr, g.base l⟩
theorem rdSAt.base {x : Cm} {rc : Rm} (h : rdSAt K G ea W x r0 rb r D σ) (l : Lk rb rc) (l2 : Lk rc r) : rdSAt K G ea W x r0 rc r D σ := by
  obtain ⟨_, S, M, sr, hr, g⟩ := h
  exact ⟨l2, S, M, sr, hr, g.base l⟩
theorem rdS_bind {R : Rel α β} {x : Ex α} {y : α → Cm} (h : rdS K G ea W (bindC x y) r0 D σ H) :
    rd K G ea R W x σ H (fun b H1 => ∃ r a r1, r1.H = H1 ∧ Fw r r1 ∧ R r r1 a b ∧ rdSAt K G ea W (y a) r0 r r1 D σ) := by
  obtain ⟨r, e, l, S, M, sr, hr, g⟩ := h
  refine ⟨r, e, .refl r, S, M, sr.sr, hr, ?_⟩
  unfold bindC at g
  cases hx : x S M with
  | bad => rw [hx] at g; exact g
  | exc c fs M' =>
    rw [hx] at g
    exact fun r2 d f2 h2 q => g r2 σ d (l.trans f2.toLk) (sr.mono f2) h2 q
  | ok a M' =>
    rw [hx] at g
    exact fun r1 b f h1 hab => ⟨r, a, r1, rfl, f, hab, l.trans f.toLk, S, M', sr.mono f, h1, g⟩
theorem rdSAt_bind {R : Rel α β} {x : Ex α} {y : α → Cm} (h : rdSAt K G ea W (bindC x y) r0 rb r D σ) :
    rd K G ea R W x σ r.H (fun b H1 => ∃ a r1, r1.H = H1 ∧ Fw r r1 ∧ R r r1 a b ∧ rdSAt K G ea W (y a) r0 rb r1 D σ) := by
  obtain ⟨l, S, M, sr, hr, g⟩ := h
  refine ⟨r, rfl, .refl r, S, M, sr.sr, hr, ?_⟩
  unfold bindC at g
  cases hx : x S M with
  | bad => rw [hx] at g; exact g
  | exc c fs M' =>
    rw [hx] at g
    exact fun r2 d f2 h2 q => g r2 σ d (l.trans f2.toLk) (sr.mono f2) h2 q
  | ok a M' =>
    rw [hx] at g
    exact fun r1 b f h1 hab => ⟨a, r1, rfl, f, hab, l.trans f.toLk, S, M', sr.mono f, h1, g⟩
end

structure PVs (G : Gs) (ea : Ea) (X : Cx) (W : WX) (st : List Stmt) (x : Cm) : Prop where
  ps : ∀ r0, PSs X st (rdS X.K G ea W x r0)
structure PVst (G : Gs) (ea : Ea) (X : Cx) (W : WX) (st : Stmt) (x : Cm) : Prop where
  ps : ∀ r0, PS X st (rdS X.K G ea W x r0)

/-- what a target does to the slots -/
def TgR (K : PySem.W.Frag) (G : Gs) (ea : Ea) (g : Tg) (t : TG) (is : List Nat) : Prop := ∀ (mv : MV) (v : V) (S S' : Sg) (σ : L2.St) (r : Rm) (Q : L2.St → Hp → Prop), SR K G ea r S σ → VR K r.L r.m mv v → g mv S = some S' →
  (∀ σ', (∀ j, j ∉ is → σ'[j]? = σ[j]?) → σ'.length = σ.length → SR K G ea r S' σ' → (∀ (i : Nat) (xs : List MV), S'[i]? = some (.own xs) → S[i]? = some (.own xs) ∧ σ'[i]? = σ[i]?) → Q σ' r.H) → t v σ r.H Q
def TgsR (K : PySem.W.Frag) (G : Gs) (ea : Ea) (g : Tgs) (t : TGs) (is : List Nat) : Prop := ∀ (mv : List MV) (v : List V) (S S' : Sg) (σ : L2.St) (r : Rm) (Q : L2.St → Hp → Prop), SR K G ea r S σ → VRs K r.L r.m mv v → g mv S = some S' →
  (∀ σ', (∀ j, j ∉ is → σ'[j]? = σ[j]?) → σ'.length = σ.length → SR K G ea r S' σ' → (∀ (i : Nat) (xs : List MV), S'[i]? = some (.own xs) → S[i]? = some (.own xs) ∧ σ'[i]? = σ[i]?) → Q σ' r.H) → t v σ r.H Q
structure PVg (G : Gs) (ea : Ea) (X : Cx) (e : Expr) (g : Tg) (t : TG) (is : List Nat) : Prop where
  pg : PG X e t
  tr : TgR X.K G ea g t is
/-- .. of n parts -/
structure PVgs (G : Gs) (ea : Ea) (X : Cx) (e : List Expr) (g : Tgs) (t : TGs) (is : List Nat) (n : Nat) : Prop where
  pg : PGs X e t
  tr : TgsR X.K G ea g t is
  ln : ∀ vs S S', g vs S = some S' → vs.length = n
theorem SR.setVal {K : PySem.W.Frag} {G : Gs} {ea : Ea} {r : Rm} {S : Sg} {σ : L2.St} (h : SR K G ea r S σ) {i : Nat} {mv : MV} {v : V} (q : VR K r.L r.m mv v) : SR K G ea r (S.set i (.val mv)) (σ.set i (some v)) where
  len := by rw [List.length_set, List.length_set]; exact h.len
  val := fun j u e => by
    by_cases hj : i = j
    · subst hj
      by_cases hl : i < S.length
      · rw [List.getElem?_set_self hl] at e
        cases e
        exact ⟨v, List.getElem?_set_self (by rw [← h.len]; exact hl), q⟩
      · rw [List.getElem?_eq_none (by simpa using hl)] at e; cases e
    · rw [List.getElem?_set_ne hj] at e ⊢
      exact h.val j u e
  own := fun j xs e => by
    by_cases hj : i = j
    · subst hj
      by_cases hl : i < S.length
      · rw [List.getElem?_set_self hl] at e; cases e
      · rw [List.getElem?_eq_none (by simpa using hl)] at e; cases e
    · rw [List.getElem?_set_ne hj] at e ⊢
      exact h.own j xs e
  dis := fun j k xs ys a e1 e2 e3 e4 => by
    have ne : ∀ {j : Nat} {xs : List MV}, (S.set i (.val mv))[j]? = some (.own xs) → i ≠ j := fun {j xs} e z => by
      subst z
      by_cases hl : i < S.length
      · rw [List.getElem?_set_self hl] at e; cases e
      · rw [List.getElem?_eq_none (by simpa using hl)] at e; cases e
    have n1 := ne e1
    have n2 := ne e2
    rw [List.getElem?_set_ne n1] at e1 e3
    rw [List.getElem?_set_ne n2] at e2 e4
    exact h.dis j k xs ys a e1 e2 e3 e4
  xc := fun j c fs p e e' => by
    by_cases hj : i = j
    · subst hj
      by_cases hl : i < S.length
      · rw [List.getElem?_set_self hl] at e; cases e
      · rw [List.getElem?_eq_none (by simpa using hl)] at e; cases e
    · rw [List.getElem?_set_ne hj] at e ⊢
      exact h.xc j c fs p e e'
theorem own_set {S : Sg} {σ : L2.St} {i j : Nat} {mv : MV} {v : V} {xs : List MV} (e : (S.set i (.val mv))[j]? = some (.own xs)) : S[j]? = some (.own xs) ∧ (σ.set i (some v))[j]? = σ[j]? := by
  by_cases hj : i = j
  · subst hj
    by_cases hl : i < S.length
    · rw [List.getElem?_set_self hl] at e; cases e
    · rw [List.getElem?_eq_none (by simpa using hl)] at e; cases e
  · rw [List.getElem?_set_ne hj] at e ⊢
    exact ⟨e, rfl⟩
section
variable {G : Gs} {ea : Ea} {X : Cx} {W : WX} {pos : Pos} {a b c : Expr} {xa xb xc : Ex MV}
theorem vg_name {i : Nat} {x : Str} (hN : X.N.Nodup) (hi : X.N[i]? = some x := by rfl) (hx : Loc X.env.scope x := by first | exact Or.inl rfl | exact Or.inr rfl) (hf : X.fn x = true ∨ X.env.scope.names.lookup x = some .local := by first | exact .inl rfl | exact .inr rfl | assumption) : PVg G ea X (.Name x pos) (nameG i) (gName i) [i] := by
  refine ⟨pg_name hN hi hx hf, fun mv v S S' σ r Q sr q e k => ?_⟩
  cases e
  refine k _ (fun j hj => ?_) (List.length_set ..) (sr.setVal q) fun j xs e => own_set e
  exact List.getElem?_set_ne (by simpa [eq_comm] using hj)
theorem vgs_nil : PVgs G ea X [] nilG gNil [] 0 := by
  refine ⟨pgs_nil, fun mv v S S' σ r Q sr q e k => ?_, fun vs S S' e => ?_⟩
  · cases q with
    | nil => cases e; exact ⟨rfl, k σ (fun _ _ => rfl) rfl sr fun i xs e => ⟨e, rfl⟩⟩
    | cons _ _ => cases e
  · cases vs with
    | nil => rfl
    | cons _ _ => cases e
theorem vgs_cons {es : List Expr} {t : TG} {u : TGs} {g : Tg} {gs : Tgs} {is js : List Nat} {n : Nat} (h1 : PVg G ea X a g t is) (h2 : PVgs G ea X es gs u js n)
    (hs : (assignEach (a :: es) X.env).map (·.2) = assign a X.env :: (assignEach es X.env).map (·.2) := by rfl) : PVgs G ea X (a :: es) (consG g gs) (gCons t u) (is ++ js) (n + 1) := by
  refine ⟨pgs_cons h1.pg h2.pg hs, fun mv v S S' σ r Q sr q e k => ?_, fun vs S S' e => ?_⟩
  · cases q with
    | nil => cases e
    | cons q1 q2 =>
      rename_i mv0 v0 mvs vs
      cases hg : g mv0 S with
      | none => simp [consG, hg] at e
      | some S1 =>
        simp only [consG, hg] at e
        refine ⟨v0, vs, rfl, h1.tr mv0 v0 S S1 σ r _ sr q1 hg fun σ1 k1 k2 k3 k4 => h2.tr mvs vs S1 S' σ1 r Q k3 q2 e fun σ2 m1 m2 m3 m4 => ?_⟩
        refine k σ2 (fun j hj => ?_) (m2.trans k2) m3 fun i xs e2 => ?_
        · rw [List.mem_append, not_or] at hj
          exact (m1 j hj.2).trans (k1 j hj.1)
        · obtain ⟨p1, p2⟩ := m4 i xs e2
          obtain ⟨p3, p4⟩ := k4 i xs p1
          exact ⟨p3, p2.trans p4⟩
  · cases vs with
    | nil => cases e
    | cons v vs =>
      cases hg : g v S with
      | none => simp [consG, hg] at e
      | some S1 =>
        simp only [consG, hg] at e
        rw [List.length_cons, h2.ln _ _ _ e]
theorem vg_tup {es : List Expr} {k n : Nat} {t : TGs} {g : Tgs} {is : List Nat} (hc : X.calm = true) (h : PVgs G ea X es g t is n)
    (hn : (assignEach es X.env).length = n := by rfl) (hst : (assignEach es X.env).findIdx? (·.1) = none := by rfl) : PVg G ea X (.Tuple es k pos) (tupG g) (gTup X.K n t) is := by
  refine ⟨pg_tup hc h.pg hn hst, fun mv v S S' σ r Q sr q e k => ?_⟩
  cases mv with
  | tup xs =>
    obtain ⟨p, vs, e1, e2, e3⟩ := q.tup_inv
    exact ⟨p, vs, e1, same_t r.L_H e2, by rw [← e3.length]; exact h.ln _ _ _ e, h.tr xs vs S S' σ r Q sr e3 e k⟩
  | _ => cases e

/-! ### blocks -/
theorem vs_nil : PVs G ea X W [] skipC := ⟨fun r0 => pss_imp pss_nil fun D σ H ⟨r, e, l, S, M, sr, hr, g⟩ => by subst e; exact g r σ l sr hr⟩
theorem rdS_seq {K : PySem.W.Frag} {x y : Cm} {r0 : Rm} {D : Ends} {σ : L2.St} {H : Hp} (h : rdS K G ea W (seqC x y) r0 D σ H) : rdS K G ea W x r0 { D with nx := rdS K G ea W y r0 D } σ H := by
  obtain ⟨r, e, l, S, M, sr, hr, g⟩ := h
  refine ⟨r, e, l, S, M, sr, hr, ?_⟩
  unfold seqC at g
  cases hx : x S M with
  | nx S' M' =>
    rw [hx] at g
    exact fun r' σ' l' sr' hr' => ⟨r', rfl, .refl r', S', M', sr', hr', GoodS.base g l'⟩
  | rt v M' => rw [hx] at g; exact g
  | bk S' M' => rw [hx] at g; exact g
  | ct S' M' => rw [hx] at g; exact g
  | exc c fs S' M' => rw [hx] at g; exact g
  | bad => rw [hx] at g; exact g
theorem vs_cons {st : Stmt} {rest : List Stmt} {x y : Cm} (h1 : PVst G ea X W st x) (h2 : PVs G ea X W rest y) : PVs G ea X W (st :: rest) (seqC x y) := ⟨fun r0 => pss_imp (pss_cons (h1.ps r0) (h2.ps r0)) fun D σ H h => rdS_seq h⟩
theorem vs_one {st : Stmt} {x : Cm} (h1 : PVst G ea X W st x) : PVs G ea X W [st] x := ⟨fun r0 => pss_one (h1.ps r0)⟩

/-! ### simple statements -/
theorem vs_expr (he : PV G ea X W a xa) (hs : swapsWith a none pos.line X.env = pure false := by rfl) : PVst G ea X W (.Expr a pos) (dropC xa) := by
  refine ⟨fun r0 => ps_imp (ps_expr he.pe hs) fun D σ H h => ?_⟩
  refine rd_mono (rdS_bind (R := rV X.K) h) fun v H1 ⟨r, x, r1, e, f, vx, h1⟩ => ?_
  subst e
  obtain ⟨l, S, M, sr, hr, g⟩ := h1
  exact g r1 σ l sr hr
theorem vs_ret (he : PV G ea X W a xa) : PVst G ea X W (.Return (some a) pos) (retC xa) := by
  refine ⟨fun r0 => ps_imp (ps_ret he.pe) fun D σ H h => ?_⟩
  refine rd_mono (rdS_bind (R := rV X.K) h) fun v H1 ⟨r, x, r1, e, f, vx, h1⟩ => ?_
  subst e
  obtain ⟨l, S, M, sr, hr, g⟩ := h1
  exact g r1 v sr.fw hr vx
theorem vs_retN : PVst G ea X W (.Return none pos) retN := by
  refine ⟨fun r0 => ps_imp ps_retN fun D σ H ⟨r, e, l, S, M, sr, hr, g⟩ => ?_⟩
  subst e
  exact g r .non sr.fw hr .non
theorem vs_pass : PVst G ea X W (.Pass pos) skipC := ⟨fun r0 => ps_imp ps_pass fun D σ H ⟨r, e, l, S, M, sr, hr, g⟩ => by subst e; exact g r σ l sr hr⟩
theorem vs_brk : PVst G ea X W (.Break pos) brkC := ⟨fun r0 => ps_imp ps_break fun D σ H ⟨r, e, l, S, M, sr, hr, g⟩ => by subst e; exact g r σ l sr hr⟩
theorem vs_cnt : PVst G ea X W (.Continue pos) cntC := ⟨fun r0 => ps_imp ps_continue fun D σ H ⟨r, e, l, S, M, sr, hr, g⟩ => by subst e; exact g r σ l sr hr⟩
theorem vs_if {t : Expr} {tt : Te} {sa sb : List Stmt} {x y : Cm} (ht : PVt G ea X W t tt) (ha : PVs G ea X W sa x) (hb : PVs G ea X W sb y) : PVst G ea X W (.If t sa sb pos) (ifC tt x y) := by
  refine ⟨fun r0 => ps_imp (ps_if ht.pt (ha.ps r0) (hb.ps r0)) fun D σ H h => ?_⟩
  refine rd_mono (rdS_bind (R := rB) h) fun k H1 ⟨r, k', r1, e, f, ek, h1⟩ => ?_
  subst e
  cases ek
  cases k with
  | true => exact iteT (rdSAt.rd h1)
  | false => exact iteF (rdSAt.rd h1)
/-- the slots behind a target's store -/
theorem SRE.tg {K : PySem.W.Frag} {r0 r : Rm} {S S' : Sg} {σ σ' : L2.St} (h : SRE K G ea r0 r S σ) (s : SR K G ea r S' σ') (k : ∀ (i : Nat) (xs : List MV), S'[i]? = some (.own xs) → S[i]? = some (.own xs) ∧ σ'[i]? = σ[i]?) : SRE K G ea r0 r S' σ' :=
  ⟨s, h.fw, fun i xs a e1 e2 => let ⟨p1, p2⟩ := k i xs e1; h.new i xs a p1 (p2 ▸ e2)⟩
theorem vs_asg {tg : Expr} {g : Tg} {t : TG} {is : List Nat} (he : PV G ea X W a xa) (hg : PVg G ea X tg g t is) (hs : swapsWithSole [tg] a pos.line X.env = pure false := by rfl) (hw : swappedStores [tg] a X.env = pure none := by rfl)
    (h1 : (assignEach [tg] X.env).map (·.2) = [assign tg X.env] := by rfl) : PVst G ea X W (.Assign [tg] a pos) (asgC xa g) := by
  refine ⟨fun r0 => ps_imp (ps_asg he.pe hg.pg hs hw h1) fun D σ H h => ?_⟩
  refine rd_mono (rdS_bind (R := rV X.K) h) fun v H1 ⟨r, x, r1, e, f, vx, h1⟩ => ?_
  subst e
  obtain ⟨l, S, M, sr, hr, q⟩ := h1
  cases hgx : g x S with
  | none => simp only [hgx] at q; exact q.elim
  | some S' =>
    simp only [hgx] at q
    exact hg.tr x v S S' σ r1 D.nx sr.sr vx hgx fun σ' k1 k2 k3 k4 => q r1 σ' l (sr.tg k3 k4) hr
/-- x op= e -/
def rMip (K : PySem.W.Frag) (G : Gs) (f : MV → MV → Option MV) : TIp := rM K G f
theorem vs_aug {i : Nat} {x : Str} {op : Operator} {f : MV → MV → Option MV} {pos' : Pos} (hN : X.N.Nodup) (ho : OpR X (inplaceOp op) (rM X.K G f)) (he : PV G ea X W a xa) (hi : X.N[i]? = some x := by rfl) (hx : Loc X.env.scope x := by first | exact Or.inl rfl | exact Or.inr rfl)
    (hf : X.fn x = true ∨ X.env.scope.names.lookup x = some .local := by first | exact .inl rfl | exact .inr rfl | assumption) : PVst G ea X W (.AugAssign (.Name x pos') op a pos) (augC i f xa) := by
  refine ⟨fun r0 => ps_imp (ps_aug hN hi hx he.pe (ti := rM X.K G f) ho hf) fun D σ H ⟨r, e, l, S, M, sr, hr, g⟩ => ?_⟩
  subst e
  unfold augC at g
  cases hS : S[i]? with
  | none => rw [hS] at g; exact g.elim
  | some sl =>
    rw [hS] at g
    cases sl with
    | val u =>
      obtain ⟨w, ew, vw⟩ := sr.sr.val i u hS
      refine ⟨w, ew, ?_⟩
      dsimp only at g
      have q := rdS_bind (R := rV X.K) (⟨r, rfl, l, S, M, sr, hr, g⟩ : rdS X.K G ea W (bindC xa _) r0 D σ r.H)
      refine ⟨r, rfl, .refl r, S, M, sr.sr, hr, ?_⟩
      unfold bindC at g
      cases hxa : xa S M with
      | bad => rw [hxa] at g; exact g
      | exc c fs M' => rw [hxa] at g; exact fun r2 d f2 h2 q => g r2 σ d (l.trans f2.toLk) (sr.mono f2) h2 q
      | ok v M' =>
        rw [hxa] at g
        intro r1 b f1 h1 vb
        dsimp only at g
        cases hz : f u v with
        | none => rw [hz] at g; exact g.elim
        | some z =>
          rw [hz] at g
          refine ⟨r1, M', u, v, z, rfl, h1, f1.toLk.vr vw, vb, hz, fun r2 zv f2 h2 vz => ?_⟩
          have sr2 := (sr.mono f1).mono f2
          exact g r2 _ (l.trans (f1.trans f2).toLk) (sr2.tg (sr2.sr.setVal vz) fun j xs e => own_set e) h2
    | non => exact g.elim
    | own _ => exact g.elim
    | xc _ _ => exact g.elim
end
end Mv

set_option Elab.async false
set_option linter.all false
set_option maxRecDepth 100000
set_option autoImplicit false
set_option maxHeartbeats 1000000
/-! MvF: own lists, cells, loops, comprehensions. -/
namespace Mv
open PySem PySem.Spec PyProof.Rows L2
section
variable {K : PySem.W.Frag} {G : Gs} {ea : Ea} {r0 r r' : Rm} {S : Sg} {σ : L2.St} {M : MH}
theorem set_own {S : Sg} {i j : Nat} {s : Slot} {xs : List MV} (hs : ∀ ys, s ≠ .own ys) (e : (S.set i s)[j]? = some (.own xs)) : i ≠ j ∧ S[j]? = some (.own xs) := by
  by_cases hj : i = j
  · subst hj
    by_cases hl : i < S.length
    · rw [List.getElem?_set_self hl] at e; exact absurd (Option.some.inj e) (hs xs)
    · rw [List.getElem?_eq_none (by simpa using hl)] at e; cases e
  · rw [List.getElem?_set_ne hj] at e; exact ⟨hj, e⟩
theorem len_of {S : Sg} {i : Nat} {s : Slot} (e : S[i]? = some s) : i < S.length := (List.getElem?_eq_some_iff.mp e).1
/-- a slot comes to hold an own list at p that the realm neither locks nor counts among its cells -/
theorem SRE.setOwn (h : SRE K G ea r0 r S σ) {i : Nat} {p : Addr} {vs : List V} {xs : List MV} (e0 : r0.H p = none) (e : r.H p = some (.lst vs)) (q : VRs K r.L r.m xs vs) (hF : ¬ r.F p) (hm : p ∉ r.m)
    (nw : ∀ (j : Nat) (ys : List MV), S[j]? = some (.own ys) → σ[j]? = some (some (.ref p)) → j = i) : SRE K G ea r0 r (S.set i (.own xs)) (σ.set i (some (.ref p))) := by
  have low : ∀ {j : Nat} {ys : List MV}, (S.set i (.own xs))[j]? = some (.own ys) → (i = j ∧ ys = xs ∧ i < S.length) ∨ (i ≠ j ∧ S[j]? = some (.own ys)) := fun {j ys} e => by
    by_cases hj : i = j
    · subst hj
      by_cases hl : i < S.length
      · rw [List.getElem?_set_self hl] at e; cases e; exact .inl ⟨rfl, rfl, hl⟩
      · rw [List.getElem?_eq_none (by simpa using hl)] at e; cases e
    · rw [List.getElem?_set_ne hj] at e; exact .inr ⟨hj, e⟩
  have hset : i < S.length → (σ.set i (some (V.ref p)))[i]? = some (some (V.ref p)) := fun hl => List.getElem?_set_self (by rw [← h.sr.len]; exact hl)
  refine ⟨⟨by rw [List.length_set, List.length_set]; exact h.sr.len, fun j v e1 => ?_, fun j ys e1 => ?_, fun j k xs1 xs2 a e1 e2 e3 e4 => ?_, fun j c fs z e1 e2 => ?_⟩, h.fw, fun j ys a e1 e2 => ?_⟩
  · by_cases hj : i = j
    · subst hj
      by_cases hl : i < S.length
      · rw [List.getElem?_set_self hl] at e1; cases e1
      · rw [List.getElem?_eq_none (by simpa using hl)] at e1; cases e1
    · rw [List.getElem?_set_ne hj] at e1 ⊢
      exact h.sr.val j v e1
  · rcases low e1 with ⟨rfl, rfl, hl⟩ | ⟨hj, e1⟩
    · exact ⟨p, vs, hset hl, e, q, hF, hm⟩
    · rw [List.getElem?_set_ne hj]
      exact h.sr.own j ys e1
  · rcases low e1 with ⟨rfl, _, hl⟩ | ⟨hj, e1⟩
    · rw [hset hl] at e3
      cases e3
      rcases low e2 with ⟨rfl, _, _⟩ | ⟨hk, e2⟩
      · rfl
      · rw [List.getElem?_set_ne hk] at e4
        exact (nw k xs2 e2 e4).symm
    · rw [List.getElem?_set_ne hj] at e3
      rcases low e2 with ⟨rfl, _, hl⟩ | ⟨hk, e2⟩
      · rw [hset hl] at e4
        cases e4
        exact nw j xs1 e1 e3
      · rw [List.getElem?_set_ne hk] at e4
        exact h.sr.dis j k xs1 xs2 a e1 e2 e3 e4
  · by_cases hj : i = j
    · subst hj
      by_cases hl : i < S.length
      · rw [List.getElem?_set_self hl] at e1; cases e1
      · rw [List.getElem?_eq_none (by simpa using hl)] at e1; cases e1
    · rw [List.getElem?_set_ne hj] at e1 ⊢
      exact h.sr.xc j c fs z e1 e2
  · rcases low e1 with ⟨rfl, _, hl⟩ | ⟨hj, e1⟩
    · rw [hset hl] at e2
      cases e2
      exact e0
    · rw [List.getElem?_set_ne hj] at e2
      exact h.new j ys a e1 e2
/-- the own list's object changes -/
theorem SRE.putOwn (h : SRE K G ea r0 r S σ) {i : Nat} {p : Addr} {vs : List V} {xs ys : List MV} (eS : S[i]? = some (.own ys)) (eσ : σ[i]? = some (some (.ref p))) (q : VRs K r.L r.m xs vs) : SRE K G ea r0 (r.put p (.lst vs)) (S.set i (.own xs)) σ := by
  obtain ⟨p', vs', e1, e2, _, hF, hm⟩ := h.sr.own i ys eS
  rw [eσ] at e1
  cases e1
  have e0 := h.new i ys p eS eσ
  have lk : Lk r (r.put p (.lst vs)) := Rm.put_lk hF
  -- all other slots stand
  have h1 : SRE K G ea r0 (r.put p (.lst vs)) (S.set i .non) σ := by
    have low : ∀ {j : Nat} {s : Slot}, s ≠ .non → (S.set i Slot.non)[j]? = some s → i ≠ j ∧ S[j]? = some s := fun {j s} hs e => by
      by_cases hj : i = j
      · subst hj
        by_cases hl : i < S.length
        · rw [List.getElem?_set_self hl] at e; exact absurd (Option.some.inj e).symm hs
        · rw [List.getElem?_eq_none (by simpa using hl)] at e; cases e
      · rw [List.getElem?_set_ne hj] at e; exact ⟨hj, e⟩
    refine ⟨⟨by rw [List.length_set]; exact h.sr.len, fun j v e1 => ?_, fun j zs e1 => ?_, fun j k xs1 xs2 a e1 e2 e3 e4 => ?_, fun j c fs z e1 e2 => ?_⟩, h.fw.put e0 hF, fun j zs a e1 e2 => ?_⟩
    · obtain ⟨w, w1, w2⟩ := h.sr.val j v (low (by simp) e1).2
      exact ⟨w, w1, lk.vr w2⟩
    · obtain ⟨hj, e1⟩ := low (by simp) e1
      obtain ⟨a, us, a1, a2, a3, a4, a5⟩ := h.sr.own j zs e1
      refine ⟨a, us, a1, (upd_ne fun z => hj ?_).trans a2, lk.vrs a3, a4, a5⟩
      subst z
      exact h.sr.dis i j ys zs a eS e1 eσ a1
    · exact h.sr.dis j k xs1 xs2 a (low (by simp) e1).2 (low (by simp) e2).2 e3 e4
    · obtain ⟨a1, a2, a3⟩ := h.sr.xc j c fs z (low (by simp) e1).2 e2
      exact ⟨a1, a2, a3.mono lk⟩
    · exact h.new j zs a (low (by simp) e1).2 e2
  have h2 := h1.setOwn (i := i) (p := p) (vs := vs) (xs := xs) e0 upd_same (lk.vrs q) hF hm fun j zs e1 e2 => by
    obtain ⟨hj, e1⟩ := set_own (by simp) e1
    exact (h.sr.dis i j ys zs p eS e1 eσ e2).symm
  have eset : (S.set i Slot.non).set i (.own xs) = S.set i (.own xs) := List.set_set ..
  have esig : σ.set i (some (.ref p)) = σ := by
    apply List.ext_getElem?
    intro j
    by_cases hj : i = j
    · subst hj
      rw [List.getElem?_set_self (List.getElem?_eq_some_iff.mp eσ).1]
      exact eσ.symm
    · rw [List.getElem?_set_ne hj]
  rw [eset, esig] at h2
  exact h2
/-- an own list is locked, is made a cell: its slot comes to hold a value -/
theorem SRE.ownVal (h : SRE K G ea r0 r S σ) {i : Nat} {p : Addr} {ys : List MV} {mv : MV} (eS : S[i]? = some (.own ys)) (eσ : σ[i]? = some (some (.ref p))) (lk : Lk r r') (eH : r'.H = r.H) (fw : Fw r0 r')
    (hF : ∀ a, r'.F a → r.F a ∨ a = p) (hm : ∀ a, a ∈ r'.m → a ∈ r.m ∨ a = p) (q : VR K r'.L r'.m mv (.ref p)) : SRE K G ea r0 r' (S.set i (.val mv)) σ := by
  refine ⟨⟨by rw [List.length_set]; exact h.sr.len, fun j v e1 => ?_, fun j zs e1 => ?_, fun j k xs1 xs2 a e1 e2 e3 e4 => ?_, fun j c fs z e1 e2 => ?_⟩, fw, fun j zs a e1 e2 => ?_⟩
  · by_cases hj : i = j
    · subst hj
      rw [List.getElem?_set_self (len_of eS)] at e1
      cases e1
      exact ⟨_, eσ, q⟩
    · rw [List.getElem?_set_ne hj] at e1
      obtain ⟨w, w1, w2⟩ := h.sr.val j v e1
      exact ⟨w, w1, lk.vr w2⟩
  · obtain ⟨hj, e1⟩ := set_own (by simp) e1
    obtain ⟨a, us, a1, a2, a3, a4, a5⟩ := h.sr.own j zs e1
    have ne : a ≠ p := fun z => hj (h.sr.dis i j ys zs a eS e1 (z ▸ eσ) a1)
    exact ⟨a, us, a1, by rw [eH]; exact a2, lk.vrs a3, fun z => (hF a z).elim a4 ne, fun z => (hm a z).elim a5 ne⟩
  · exact h.sr.dis j k xs1 xs2 a (set_own (by simp) e1).2 (set_own (by simp) e2).2 e3 e4
  · by_cases hj : i = j
    · subst hj
      rw [List.getElem?_set_self (len_of eS)] at e1
      cases e1
    · rw [List.getElem?_set_ne hj] at e1
      obtain ⟨a1, a2, a3⟩ := h.sr.xc j c fs z e1 e2
      exact ⟨a1, a2, a3.mono lk⟩
  · exact h.new j zs a (set_own (by simp) e1).2 e2
end

section
variable {G : Gs} {ea : Ea} {X : Cx} {W : WX} {pos : Pos} {a b c : Expr} {xa xb xc : Ex MV}
/-- the own list at slot i is locked, ahead of a block -/
theorem vs_frz {i : Nat} {st : List Stmt} {y : Cm} (h : PVs G ea X W st y) : PVs G ea X W st (seqC (frzC i) y) := by
  refine ⟨fun r0 => pss_imp (h.ps r0) fun D σ H ⟨r, e, l, S, M, sr, hr, g⟩ => ?_⟩
  subst e
  unfold seqC frzC at g
  cases hS : S[i]? with
  | none => rw [hS] at g; exact g.elim
  | some s =>
    rw [hS] at g
    cases s with
    | own xs =>
      obtain ⟨p, vs, e1, e2, q, hF, hm⟩ := sr.sr.own i xs hS
      have e0 := sr.new i xs p hS e1
      exact ⟨r.lock p, rfl, .refl _, _, M, sr.ownVal hS e1 Rm.lock_lk rfl (sr.fw.lock e0) (fun a z => z) (fun a z => .inl z) (.lst (.inl (Rm.lock_L e2)) (Rm.lock_lk.vrs q)), hr.lock e2 hm, GoodS.base g Rm.lock_lk⟩
    | non => exact g.elim
    | val _ => exact g.elim
    | xc _ _ => exact g.elim
theorem vs_shr {i : Nat} {st : List Stmt} {y : Cm} (h : PVs G ea X W st y) : PVs G ea X W st (seqC (shrC i) y) := by
  refine ⟨fun r0 => pss_imp (h.ps r0) fun D σ H ⟨r, e, l, S, M, sr, hr, g⟩ => ?_⟩
  subst e
  unfold seqC shrC at g
  cases hS : S[i]? with
  | none => rw [hS] at g; exact g.elim
  | some s =>
    rw [hS] at g
    cases s with
    | own xs =>
      obtain ⟨p, vs, e1, e2, q, hF, hm⟩ := sr.sr.own i xs hS
      have e0 := sr.new i xs p hS e1
      refine ⟨r.cel p, rfl, .refl _, _, _, sr.ownVal hS e1 Rm.cel_lk rfl (sr.fw.cel e0) (fun a z => .inl z) (fun a z => ?_) (.ref (by rw [← hr.len]; exact get_last)), hr.cel (ob := .lst xs) ⟨vs, e2, Rm.cel_lk.vrs q⟩ hF hm, GoodS.base g Rm.cel_lk⟩
      rcases List.mem_append.mp z with z | z
      · exact .inl z
      · exact .inr (List.mem_singleton.mp z)
    | non => exact g.elim
    | val _ => exact g.elim
    | xc _ _ => exact g.elim
/-- x = [..]: a list of one's own -/
theorem vs_own {i : Nat} {x : Str} {pos' : Pos} {xl : Ex (List MV)} (hN : X.N.Nodup) (he : PVL G ea X W a xl) (hi : X.N[i]? = some x := by rfl) (hx : Loc X.env.scope x := by first | exact Or.inl rfl | exact Or.inr rfl) (hs : swapsWith a (some (.Name x pos')) pos.line X.env = pure false := by rfl)
    (hf : X.fn x = true ∨ X.env.scope.names.lookup x = some .local := by first | exact .inl rfl | exact .inr rfl | assumption) : PVst G ea X W (.Assign [.Name x pos'] a pos) (ownC i xl) := by
  refine ⟨fun r0 => ps_imp (ps_set hN hi hx he.pe hs hf) fun D σ H ⟨r, e, l, S, M, sr, hr, g⟩ => ?_⟩
  subst e
  refine ⟨r, rfl, .refl r, S, M, sr.sr, hr, ?_⟩
  unfold ownC bindC at g
  cases hx : xl S M with
  | bad => rw [hx] at g; exact g
  | exc c fs M' => rw [hx] at g; exact fun r2 d f2 h2 q => g r2 σ d (l.trans f2.toLk) (sr.mono f2) h2 q
  | ok ys M' =>
    rw [hx] at g
    intro r1 v f h1 q
    obtain ⟨p, vs, e, n0, e1, vx, nF, nm⟩ := q
    subst e
    refine g r1 _ f.toLk ((sr.mono f).setOwn (sr.fw.fresh n0) e1 vx nF nm fun j zs e2 e3 => ?_) h1
    obtain ⟨p', us, a1, a2, _⟩ := sr.sr.own j zs e2
    rw [e3] at a1
    cases a1
    rw [n0] at a2
    cases a2
/-- x.append(e), x an own list -/
theorem vs_appOwn {i : Nat} {x : Str} {px apos pos2 : Pos} (ha : PV G ea X W a xa) (hN : X.N[i]? = some x := by rfl) (hv : Vis X.env.scope x := by first | exact Or.inl rfl | exact Or.inr (Or.inl rfl)) (hd : (x == ("__debug__" : Str)) = false := by decide)
    (hcd : (x == ("__classdict__" : Str)) = false := by decide) (hbase : attributeBase (.Name x px) "append" X.env (eval (.Name x px) X.env) = eval (.Name x px) X.env := by rfl)
    (hfew : ((backTo pos (starEach [a] X.env)).all (fun x => !x.1) && (backToKw pos (keywordEach [] X.env)).all (fun x => x.1.isSome) && decide (([a] : List Expr).length + ([] : List Keyword).length + (if ([] : List Keyword).isEmpty then 0 else 1) < 30)) = true := by rfl)
    (hline : (apos.endLine == pos.line) = true := by rfl) (hs : starEach [a] X.env = (false, eval a X.env) :: starEach [] X.env := by rfl) (hplain : (backTo pos (starEach [] X.env)).any (·.1) = false := by rfl)
    (hsw : swapsWith (.Call (.Attribute (.Name x px) "append" apos) [a] [] pos) none pos2.line X.env = pure false := by rfl) :
    PVst G ea X W (.Expr (.Call (.Attribute (.Name x px) "append" apos) [a] [] pos) pos2) (appOwn i xa) := by
  refine ⟨fun r0 => ps_imp (ps_expr (pe_bm PySem.F.plainAttrs_list PySem.F.slot_list_append PySem.F.type_list_append mt_append (pe_var hN hv hd hcd) (pa_cons ha.pe pa_nil hs) hbase hfew hline hs hplain) hsw) fun D σ H ⟨r, e, l, S, M, sr, hr, g⟩ => ?_⟩
  subst e
  unfold appOwn onOwn at g
  cases hS : S[i]? with
  | none => rw [hS] at g; exact g.elim
  | some sl =>
    rw [hS] at g
    cases sl with
    | own xs =>
      obtain ⟨p, vs, e1, e2, vx, nF, nm⟩ := sr.sr.own i xs hS
      refine ⟨.ref p, e1, .inl ⟨rfl, vs, .inl (.inl e2)⟩, ?_⟩
      dsimp only at g
      have h1 := rdSAt_bind (R := rV X.K) (⟨l, S, M, sr, hr, g⟩ : rdSAt X.K G ea W (bindC xa _) r0 r r D σ)
      refine ⟨r, rfl, .refl r, S, M, sr.sr, hr, ?_⟩
      unfold bindC at g
      cases hx : xa S M with
      | bad => rw [hx] at g; exact g.elim
      | exc c fs M' => rw [hx] at g; exact fun r2 d f2 h2 q => g r2 σ d (l.trans f2.toLk) (sr.mono f2) h2 q
      | ok v M' =>
        rw [hx] at g
        intro r1 w f h1 q
        dsimp only at g
        split at g
        · rename_i hl
          have e2' := f.old p _ e2 nm
          have s1 := sr.mono f
          have lx := f.toLk.vrs vx
          have nF1 : ¬ r1.F p := fun z => nF (f.noF p _ e2 z)
          have nm1 : p ∉ r1.m := fun z => nm (f.noM p _ e2 z)
          refine ⟨p, vs, w, rfl, rfl, e2', sz_lt (by rw [← vx.length]; exact hl), ?_⟩
          exact g (r1.put p (.lst (vs ++ [w]))) σ (f.toLk.trans (Rm.put_lk nF1)) (s1.putOwn hS e1 (lx.append (.cons q .nil))) (h1.put nF1 nm1)
        · exact g.elim
    | non => exact g.elim
    | val _ => exact g.elim
    | xc _ _ => exact g.elim
/-- x.extend(e), x an own list, e a new list -/
theorem vs_extOwn {i : Nat} {x : Str} {px apos pos2 : Pos} {xl : Ex (List MV)} (ha : PVL G ea X W a xl) (hN : X.N[i]? = some x := by rfl) (hv : Vis X.env.scope x := by first | exact Or.inl rfl | exact Or.inr (Or.inl rfl)) (hd : (x == ("__debug__" : Str)) = false := by decide)
    (hcd : (x == ("__classdict__" : Str)) = false := by decide) (hbase : attributeBase (.Name x px) "extend" X.env (eval (.Name x px) X.env) = eval (.Name x px) X.env := by rfl)
    (hfew : ((backTo pos (starEach [a] X.env)).all (fun x => !x.1) && (backToKw pos (keywordEach [] X.env)).all (fun x => x.1.isSome) && decide (([a] : List Expr).length + ([] : List Keyword).length + (if ([] : List Keyword).isEmpty then 0 else 1) < 30)) = true := by rfl)
    (hline : (apos.endLine == pos.line) = true := by rfl) (hs : starEach [a] X.env = (false, eval a X.env) :: starEach [] X.env := by rfl) (hplain : (backTo pos (starEach [] X.env)).any (·.1) = false := by rfl)
    (hsw : swapsWith (.Call (.Attribute (.Name x px) "extend" apos) [a] [] pos) none pos2.line X.env = pure false := by rfl) :
    PVst G ea X W (.Expr (.Call (.Attribute (.Name x px) "extend" apos) [a] [] pos) pos2) (extOwn i xl) := by
  refine ⟨fun r0 => ps_imp (ps_expr (pe_bm PySem.F.plainAttrs_list PySem.F.slot_list_extend PySem.F.type_list_extend mt_extend (pe_var hN hv hd hcd) (pa_cons ha.pe pa_nil hs) hbase hfew hline hs hplain) hsw) fun D σ H ⟨r, e, l, S, M, sr, hr, g⟩ => ?_⟩
  subst e
  unfold extOwn onOwn at g
  cases hS : S[i]? with
  | none => rw [hS] at g; exact g.elim
  | some sl =>
    rw [hS] at g
    cases sl with
    | own xs =>
      obtain ⟨p, vs, e1, e2, vx, nF, nm⟩ := sr.sr.own i xs hS
      refine ⟨.ref p, e1, .inl ⟨rfl, vs, .inl (.inl e2)⟩, ?_⟩
      dsimp only at g
      refine ⟨r, rfl, .refl r, S, M, sr.sr, hr, ?_⟩
      unfold bindC at g
      cases hx : xl S M with
      | bad => rw [hx] at g; exact g.elim
      | exc c fs M' => rw [hx] at g; exact fun r2 d f2 h2 q => g r2 σ d (l.trans f2.toLk) (sr.mono f2) h2 q
      | ok v M' =>
        rw [hx] at g
        intro r1 w f h1 q
        dsimp only at g
        split at g
        · rename_i hl
          obtain ⟨b, zs, e, n0, eb, vz, _, _⟩ := q
          subst e
          have e2' := f.old p _ e2 nm
          have s1 := sr.mono f
          have lx := f.toLk.vrs vx
          have nF1 : ¬ r1.F p := fun z => nF (f.noF p _ e2 z)
          have nm1 : p ∉ r1.m := fun z => nm (f.noM p _ e2 z)
          refine ⟨p, b, vs, zs, rfl, rfl, e2', eb, sz_of (by rw [← vx.length, ← vz.length]; exact hl), ?_⟩
          exact g (r1.put p (.lst (vs ++ zs))) σ (f.toLk.trans (Rm.put_lk nF1)) (s1.putOwn hS e1 (lx.append vz)) (h1.put nF1 nm1)
        · exact g.elim
    | non => exact g.elim
    | val _ => exact g.elim
    | xc _ _ => exact g.elim
/-- len(x), x an own list -/
theorem pv_lenOwn {i : Nat} {x : Str} {p px : Pos} (hm : X.mg "len" = none) (hg : Gl X "len" := by rfl) (hN : X.N[i]? = some x := by rfl) (hv : Vis X.env.scope x := by first | exact Or.inl rfl | exact Or.inr (Or.inl rfl)) (hd : (x == ("__debug__" : Str)) = false := by decide)
    (hcd : (x == ("__classdict__" : Str)) = false := by decide) (hs : starEach [(.Name x px : Expr)] X.env = (false, eval (.Name x px) X.env) :: starEach [] X.env := by rfl) (hpl : (backTo pos (starEach [] X.env)).any (·.1) = false := by rfl) :
    PV G ea X W (.Call (.Name "len" p) [.Name x px] [] pos) (lenOwn i) := by
  refine ⟨pe_imp (pe_callB call_len hg hm PySem.boot_len (pa_cons (pe_var hN hv hd hcd) pa_nil hs) (by decide) (by decide) hs hpl) fun σ H Q ⟨r, e, f, S, M, sr, hr, g⟩ => ?_⟩
  subst e
  unfold lenOwn at g
  cases hS : S[i]? with
  | none => rw [hS] at g; exact g.elim
  | some sl =>
    rw [hS] at g
    cases sl with
    | own xs =>
      obtain ⟨p, vs, e1, e2, vx, nF, nm⟩ := sr.own i xs hS
      exact ⟨.ref p, e1, .ref p, vs.length, rfl, .inl ⟨vs, .inl (.inl e2), rfl⟩, by rw [← vx.length]; exact g r _ f hr (.int _)⟩
    | non => exact g.elim
    | val _ => exact g.elim
    | xc _ _ => exact g.elim

/-! ### list cells -/
theorem lstOf_some {K : PySem.W.Frag} {r : Rm} {M : MH} {a : MV} {v : V} {n : Nat} {xs : List MV} (hr : HR K G r M) (va : VR K r.L r.m a v) (e : lstOf M a = some (n, xs)) : ∃ p vs, v = .ref p ∧ r.m[n]? = some p ∧ M[n]? = some (.lst xs) ∧ r.H p = some (.lst vs) ∧ VRs K r.L r.m xs vs := by
  cases a with
  | ref k =>
    obtain ⟨p, e1, e2⟩ := va.ref_inv
    simp only [lstOf] at e
    split at e
    · rename_i ys hM
      cases e
      obtain ⟨vs, h1, h2⟩ := hr.at_ n p _ e2 hM
      exact ⟨p, vs, e1, e2, hM, h1, h2⟩
    · cases e
  | _ => cases e
theorem ixN_eq (n : Nat) (i : Int) : L2.ixN n i = Mv.ixN n i := rfl
theorem atM_rel {K : PySem.W.Frag} {L : Hp} {m : List Addr} {xs : List MV} {vs : List V} {i : Int} {x : MV} (h : VRs K L m xs vs) (e : atM xs i = some x) : ∃ v, atI vs i = some v ∧ VR K L m x v := by
  unfold atM at e
  unfold atI
  rw [← h.length, ixN_eq]
  cases hi : Mv.ixN xs.length i with
  | none => rw [hi] at e; cases e
  | some j =>
    rw [hi] at e
    exact h.get e
end
end Mv

set_option Elab.async false
set_option linter.all false
set_option maxRecDepth 100000
set_option autoImplicit false
set_option maxHeartbeats 1000000
/-! MvG: list cells; loops; comprehensions. -/
namespace Mv
open PySem PySem.Spec PyProof.Rows L2
section
variable {G : Gs} {ea : Ea} {X : Cx} {W : WX} {pos : Pos} {a b c : Expr} {xa xb xc : Ex MV}
/-- o.append(e), o a cell -/
theorem vs_appRef {apos pos2 : Pos} (hb : PV G ea X W b xb) (ha : PV G ea X W a xa) (hbase : attributeBase b "append" X.env (eval b X.env) = eval b X.env := by rfl)
    (hfew : ((backTo pos (starEach [a] X.env)).all (fun x => !x.1) && (backToKw pos (keywordEach [] X.env)).all (fun x => x.1.isSome) && decide (([a] : List Expr).length + ([] : List Keyword).length + (if ([] : List Keyword).isEmpty then 0 else 1) < 30)) = true := by rfl)
    (hline : (apos.endLine == pos.line) = true := by rfl) (hs : starEach [a] X.env = (false, eval a X.env) :: starEach [] X.env := by rfl) (hplain : (backTo pos (starEach [] X.env)).any (·.1) = false := by rfl)
    (hsw : swapsWith (.Call (.Attribute b "append" apos) [a] [] pos) none pos2.line X.env = pure false := by rfl) :
    PVst G ea X W (.Expr (.Call (.Attribute b "append" apos) [a] [] pos) pos2) (appRef xb xa) := by
  refine ⟨fun r0 => ps_imp (ps_expr (pe_bm PySem.F.plainAttrs_list PySem.F.slot_list_append PySem.F.type_list_append mt_append hb.pe (pa_cons ha.pe pa_nil hs) hbase hfew hline hs hplain) hsw) fun D σ H h => ?_⟩
  refine rd_mono (rdS_bind (R := rV X.K) h) fun v H1 ⟨r, x, r1, e, f, vx, h1⟩ => ?_
  subst e
  obtain ⟨l, S, M, sr, hr, g⟩ := h1
  unfold onLst at g
  cases hl : lstOf M x with
  | none => rw [hl] at g; exact g.elim
  | some nx =>
    rw [hl] at g
    obtain ⟨n, xs⟩ := nx
    obtain ⟨p, vs, ev, em, eM, eH, vxs⟩ := lstOf_some hr vx hl
    subst ev
    refine ⟨.inl ⟨rfl, vs, .inl (.inl eH)⟩, ?_⟩
    refine rd_mono (rdSAt_bind (R := rV X.K) (⟨l, S, M, sr, hr, g⟩ : rdSAt X.K G ea W (bindC xa _) r0 r r1 D σ)) fun w H2 ⟨y, r2, e, f2, vy, h2⟩ => ?_
    subst e
    obtain ⟨l2, S2, M2, sr2, hr2, g2⟩ := h2
    dsimp only at g2
    cases hl2 : lstOf M2 x with
    | none => rw [hl2] at g2; exact g2.elim
    | some nx2 =>
      rw [hl2] at g2
      obtain ⟨n2, ys⟩ := nx2
      obtain ⟨p2, us, ev2, em2, eM2, eH2, vys⟩ := lstOf_some hr2 (f2.toLk.vr vx) hl2
      cases ev2
      dsimp only at g2
      split at g2
      · rename_i hlen
        refine ⟨p, us, w, rfl, rfl, eH2, sz_lt (by rw [← vys.length]; exact hlen), ?_⟩
        have fw := hr2.set_fw (o := .lst (us ++ [w])) em2
        have hset := hr2.set (o := .lst (us ++ [w])) (ob := .lst (ys ++ [y])) em2 ⟨us ++ [w], upd_same, fw.toLk.vrs (vys.append (.cons vy .nil))⟩
        exact g2 (r2.put p _) σ (l2.trans fw.toLk) (sr2.mono fw) hset
      · exact g2.elim
/-- o[i] = e, o a cell -/
theorem vs_setRef {tpos : Pos} (he : PV G ea X W a xa) (ho : PV G ea X W b xb) (hi : PV G ea X W c xc) (ha : ∀ v, assign (.Subscript b c tpos) X.env v = (do
      let ov ← holding [v] (eval b X.env)
      let iv ← holding [v, ov] (eval c X.env)
      standAt tpos
      holding [v, ov, iv] (setItem ov iv v)
      release [v, ov, iv] []) := by intro _; rfl) (hs : swapsWithSole [(.Subscript b c tpos : Expr)] a pos.line X.env = pure false := by rfl) (hw : swappedStores [(.Subscript b c tpos : Expr)] a X.env = pure none := by rfl)
    (h1 : (assignEach [(.Subscript b c tpos : Expr)] X.env).map (·.2) = [assign (.Subscript b c tpos) X.env] := by rfl) : PVst G ea X W (.Assign [.Subscript b c tpos] a pos) (setRef xb xc xa) := by
  refine ⟨fun r0 => ps_imp (ps_asg he.pe (pg_sub ho.pe hi.pe set_list ha) hs hw h1) fun D σ H h => ?_⟩
  refine rd_mono (rdS_bind (R := rV X.K) h) fun v H1 ⟨r, x, r1, e, f, vx, h1⟩ => ?_
  subst e
  refine rd_mono (rdSAt_bind (R := rV X.K) h1) fun o H2 ⟨y, r2, e, f2, vy, h2⟩ => ?_
  subst e
  refine rd_mono (rdSAt_bind (R := rV X.K) h2) fun i H3 ⟨z, r3, e, f3, vz, h3⟩ => ?_
  subst e
  obtain ⟨l, S, M, sr, hr, g⟩ := h3
  dsimp only at g
  cases hl : lstOf M y with
  | none => rw [hl] at g; exact g.elim
  | some nx =>
    rw [hl] at g
    obtain ⟨n, xs⟩ := nx
    obtain ⟨p, vs, ev, em, eM, eH, vxs⟩ := lstOf_some hr (f3.toLk.vr vy) hl
    cases z with
    | int k =>
      obtain rfl := VR.int_inv vz
      dsimp only at g
      cases hk : Mv.ixN xs.length k with
      | none => rw [hk] at g; exact g.elim
      | some j =>
        rw [hk] at g
        have vx3 := f3.toLk.vr (f2.toLk.vr vx)
        refine ⟨p, vs, k, j, ev, rfl, eH, by rw [← vxs.length, ixN_eq]; exact hk, ?_⟩
        have fw := hr.set_fw (o := .lst (vs.set j v)) em
        have hset := hr.set (o := .lst (vs.set j v)) (ob := .lst (xs.set j x)) em ⟨_, upd_same, fw.toLk.vrs (VRs.set vx3 j vxs)⟩
        exact g (r3.put p _) σ (l.trans fw.toLk) (sr.mono fw) hset
    | _ => exact g.elim
/-- o.pop(i), o a cell -/
theorem pv_popRef {apos : Pos} (hb : PV G ea X W b xb) (ha : PV G ea X W a xa) (hbase : attributeBase b "pop" X.env (eval b X.env) = eval b X.env := by rfl)
    (hfew : ((backTo pos (starEach [a] X.env)).all (fun x => !x.1) && (backToKw pos (keywordEach [] X.env)).all (fun x => x.1.isSome) && decide (([a] : List Expr).length + ([] : List Keyword).length + (if ([] : List Keyword).isEmpty then 0 else 1) < 30)) = true := by rfl)
    (hline : (apos.endLine == pos.line) = true := by rfl) (hs : starEach [a] X.env = (false, eval a X.env) :: starEach [] X.env := by rfl) (hplain : (backTo pos (starEach [] X.env)).any (·.1) = false := by rfl) :
    PV G ea X W (.Call (.Attribute b "pop" apos) [a] [] pos) (popRef xb xa) := by
  refine ⟨pe_imp (pe_bm PySem.F.plainAttrs_list PySem.F.slot_list_pop PySem.F.type_list_pop mt_popAt hb.pe (pa_cons ha.pe pa_nil hs) hbase hfew hline hs hplain) fun σ H Q h => ?_⟩
  refine rd_mono (rd_bind (R := rV X.K) h) fun v H1 ⟨r, x, r1, e, f, vx, h1⟩ => ?_
  subst e
  obtain ⟨f0, S, M, sr, hr, g⟩ := h1
  unfold onLst at g
  cases hl : lstOf M x with
  | none => rw [hl] at g; exact g.elim
  | some nx =>
    rw [hl] at g
    obtain ⟨n, xs⟩ := nx
    obtain ⟨p, vs, ev, em, eM, eH, vxs⟩ := lstOf_some hr vx hl
    subst ev
    refine ⟨.inl ⟨rfl, vs, .inl (.inl eH)⟩, ?_⟩
    refine rd_mono (rdAt_bind (R := rV X.K) (⟨f0, S, M, sr, hr, g⟩ : rdAt X.K G ea (rV X.K) W (bindE xa _) σ r r1 Q)) fun w H2 ⟨y, r2, e, f2, vy, h2⟩ => ?_
    subst e
    obtain ⟨f3, S2, M2, sr2, hr2, g2⟩ := h2
    dsimp only at g2
    cases hl2 : lstOf M2 x with
    | none => rw [hl2] at g2; exact g2.elim
    | some nx2 =>
      rw [hl2] at g2
      obtain ⟨n2, ys⟩ := nx2
      obtain ⟨p2, us, ev2, em2, eM2, eH2, vys⟩ := lstOf_some hr2 (f2.toLk.vr vx) hl2
      cases ev2
      cases y with
      | int z =>
        obtain rfl := VR.int_inv vy
        dsimp only at g2
        split at g2
        · rename_i hz
          cases hk : Mv.ixN ys.length z with
          | none => rw [hk] at g2; exact g2.elim
          | some j =>
            rw [hk] at g2
            dsimp only at g2
            cases hj : ys[j]? with
            | none => rw [hj] at g2; exact g2.elim
            | some u =>
              rw [hj] at g2
              obtain ⟨uv, hu, vu⟩ := vys.get hj
              obtain ⟨q1, _, _, _⟩ := ixN_seq (by rw [ixN_eq]; exact hk)
              refine ⟨p, us, z, j, uv, rfl, rfl, eH2, by omega, by omega, by rw [← vys.length]; exact q1, hu, ?_⟩
              have fw := hr2.set_fw (o := .lst (us.eraseIdx j)) em2
              have hset := hr2.set (o := .lst (us.eraseIdx j)) (ob := .lst (ys.eraseIdx j)) em2 ⟨_, upd_same, fw.toLk.vrs (vys.eraseIdx j)⟩
              exact g2 (r2.put p _) uv (f3.trans fw) hset (fw.toLk.vr vu)
        · exact g2.elim
      | _ => exact g2.elim
end

/-! ### what is walked -/
/-- J yields these items, wherever what is locked now still stands -/
def rI (K : PySem.W.Frag) (G : Gs) : Rel (List MV) It := fun _ r items J => ∀ r2, Lk r r2 → ∀ i : Nat,
  (∀ v, items[i]? = some v → J.go i r2.H ∧ ∀ x H', J.yld i r2.H x H' → ∃ r3, r3.H = H' ∧ Fw r2 r3 ∧ (∀ M, HR K G r2 M → HR K G r3 M) ∧ VR K r3.L r3.m v x) ∧ (items.length ≤ i → J.stop i r2.H)
structure PVi (G : Gs) (ea : Ea) (X : Cx) (W : WX) (tg iter : Expr) (x : Ex (List MV)) : Prop where
  pi : PI X tg iter (rd X.K G ea (rI X.K G) W x)
section
variable {G : Gs} {ea : Ea} {X : Cx} {W : WX} {pos : Pos} {tg a b c : Expr} {xa xb xc : Ex MV}
theorem rI_list {K : PySem.W.Frag} {r r1 : Rm} {p : Addr} {vs : List V} {xs : List MV} (h : SqL K r1.L p vs) (q : VRs K r1.L r1.m xs vs) : rI K G r r1 xs (Itl K p) := by
  intro r2 lk i
  have hS : SqL K r2.H p vs := r2.L_H.seq (lk.same.seq h)
  have q2 := lk.vrs q
  refine ⟨fun v e => ?_, fun hl => ⟨vs, hS, by rw [← q.length]; exact hl⟩⟩
  obtain ⟨w, e2, vw⟩ := q2.get e
  refine ⟨⟨vs, w, hS, e2⟩, fun x H' ⟨e3, e4⟩ => ⟨r2, e3.symm, .refl r2, fun _ z => z, ?_⟩⟩
  have e5 := e4 vs hS
  rw [e2] at e5
  cases e5
  exact vw
theorem rI_tup {K : PySem.W.Frag} {r r1 : Rm} {p : Addr} {vs : List V} {xs : List MV} (h : SqT K r1.L p vs) (q : VRs K r1.L r1.m xs vs) : rI K G r r1 xs (Itt K p) := by
  intro r2 lk i
  have hS : SqT K r2.H p vs := same_t r2.L_H (same_t lk.same h)
  have q2 := lk.vrs q
  refine ⟨fun v e => ?_, fun hl => ⟨vs, hS, by rw [← q.length]; exact hl⟩⟩
  obtain ⟨w, e2, vw⟩ := q2.get e
  refine ⟨⟨vs, w, hS, e2⟩, fun x H' ⟨e3, e4⟩ => ⟨r2, e3.symm, .refl r2, fun _ z => z, ?_⟩⟩
  have e5 := e4 vs hS
  rw [e2] at e5
  cases e5
  exact vw
theorem rI_str {K : PySem.W.Frag} {r r1 : Rm} {s : List Nat} : rI K G r r1 (s.map fun c => .str [c]) (Its ⟨s.toArray⟩) := by
  intro r2 lk i
  refine ⟨fun v e => ?_, fun hl => by show s.toArray.size ≤ i; simpa using hl⟩
  rw [List.getElem?_map] at e
  cases e2 : s[i]? with
  | none => rw [e2] at e; cases e
  | some c =>
    rw [e2] at e
    cases e
    refine ⟨by show i < s.toArray.size; simpa using (List.getElem?_eq_some_iff.mp e2).1, fun x H' ⟨e3, d, e4, e5⟩ => ⟨r2, e3.symm, .refl r2, fun _ z => z, ?_⟩⟩
    have e4 : s.toArray[i]? = some d := e4
    rw [List.getElem?_toArray, e2] at e4
    cases e4
    subst e5
    exact .str [c]
theorem rI_rng {K : PySem.W.Frag} {r r1 : Rm} {lo : Int} {n : Nat} : rI K G r r1 (rngM lo n) (Itr lo n) := by
  intro r2 lk i
  refine ⟨fun v e => ?_, fun hl => by show n ≤ i; simpa [rngM] using hl⟩
  unfold rngM at e
  rw [List.getElem?_map] at e
  cases e2 : (List.range n)[i]? with
  | none => rw [e2] at e; cases e
  | some c =>
    obtain ⟨h1, h2⟩ := List.getElem?_eq_some_iff.mp e2
    rw [List.getElem_range] at h2
    subst h2
    rw [e2] at e
    cases e
    exact ⟨by show i < n; simpa using h1, fun x H' ⟨e3, e4⟩ => ⟨r2, e3.symm, .refl r2, fun _ z => z, by rw [e4]; exact .int _⟩⟩
/-- a list, a tuple, a text at hand -/
theorem vi_val (ha : PV G ea X W a xa) : PVi G ea X W tg a (itE xa) := by
  refine ⟨⟨fun pins s σ H R I h => ?_⟩⟩
  refine thn (ha.pe.run pins s σ H _ I (rd_bind (R := rV X.K) h)) fun u s1 ⟨v, H1, I1, ru, r, x, r1, e, _, vx, h1⟩ => ?_
  subst e
  obtain ⟨f, M, items, hr, ei, g⟩ := rdAt_opt h1
  have vx : VR X.K r1.L r1.m x v := vx
  cases x with
  | lst xs =>
    cases ei
    obtain ⟨p, vs, e, q1, q2⟩ := vx.lst_inv
    subst e
    cases ru
    obtain ⟨its, rv, pl, hz⟩ := I1.list (.inl (same_rd r1.L_H q1))
    exact wpAny_pyIter_list pl.isList (pi_one (tk := s1.toks) I1 _ (turn_list p _) ⟨_, Heap.get?_push_size _ rfl, rfl, rfl⟩ (g r1 _ f hr (rI_list (.inl q1) q2)))
  | scr xs =>
    cases ei
    obtain ⟨p, vs, e, q1, q2⟩ := vx.scr_inv
    subst e
    cases ru
    obtain ⟨its, rv, pl, hz⟩ := I1.list (r1.L_H.seq q1)
    exact wpAny_pyIter_list pl.isList (pi_one (tk := s1.toks) I1 _ (turn_list p _) ⟨_, Heap.get?_push_size _ rfl, rfl, rfl⟩ (g r1 _ f hr (rI_list q1 q2)))
  | tup xs =>
    cases ei
    obtain ⟨p, vs, e, q1, q2⟩ := vx.tup_inv
    subst e
    cases ru
    obtain ⟨its, rv, pl, hz⟩ := I1.tuple (same_t r1.L_H q1)
    exact wpAny_pyIter_tuple (show s1.heap.IsTuple p its.toArray from pl) (pi_one (tk := s1.toks) I1 _ (turn_tuple p _) ⟨_, Heap.get?_push_size _ rfl, rfl, rfl⟩ (g r1 _ f hr (rI_tup q1 q2)))
  | str z =>
    cases ei
    obtain rfl := vx.str_inv
    obtain ⟨t, rfl⟩ := ru
    have q := g r1 _ f hr (rI_str (K := X.K) (r := r))
    cases ha : (⟨z.toArray⟩ : Str).cps.all (· < 128)
    · exact wpAny_pyIter_wide ha (pi_one (tk := s1.toks) I1 _ (turn_str _ _ t "str_iterator" (.inr rfl)) ⟨_, Heap.get?_push_size _ rfl, rfl, rfl⟩ q)
    · exact wpAny_pyIter_ascii ha (pi_one (tk := s1.toks) I1 _ (turn_str _ _ t "str_ascii_iterator" (.inl rfl)) ⟨_, Heap.get?_push_size _ rfl, rfl, rfl⟩ q)
  | _ => cases ei
theorem vi_rng1 {p : Pos} (hm : X.mg "range" = none) (ha : PV G ea X W a xa) (hg : Gl X "range" := by rfl) (hs : starEach [a] X.env = [(false, eval a X.env)] := by rfl) : PVi G ea X W tg (.Call (.Name "range" p) [a] [] pos) (rng1E xa) := by
  refine ⟨pi_imp (pi_range1 hg hm (pa_cons ha.pe pa_nil hs) hs) fun σ H R h => ?_⟩
  refine rd_mono (rd_bind (R := rV X.K) h) fun v H1 ⟨r, x, r1, e, _, vx, h1⟩ => ?_
  subst e
  obtain ⟨f, M, items, hr, ei, g⟩ := rdAt_opt h1
  cases x with
  | int j =>
    obtain rfl := VR.int_inv vx
    dsimp only at ei
    split at ei
    · rename_i hj
      cases ei
      exact ⟨j, rfl, by omega, by omega, g r1 _ f hr rI_rng⟩
    · cases ei
  | _ => cases ei
theorem vi_rng2 {p : Pos} (hm : X.mg "range" = none) (ha : PV G ea X W a xa) (hb : PV G ea X W b xb) (hg : Gl X "range" := by rfl) (hs : starEach [a, b] X.env = [(false, eval a X.env), (false, eval b X.env)] := by rfl) (hs2 : starEach [b] X.env = [(false, eval b X.env)] := by rfl) :
    PVi G ea X W tg (.Call (.Name "range" p) [a, b] [] pos) (rng2E xa xb) := by
  refine ⟨pi_imp (pi_range2 hg hm (pa_cons ha.pe (pa_cons hb.pe pa_nil hs2) (by rw [hs, hs2])) hs hs2) fun σ H R h => ?_⟩
  refine rd_mono (rd_bind (R := rV X.K) h) fun v H1 ⟨r, x, r1, e, _, vx, h1⟩ => ?_
  subst e
  refine rd_mono (rdAt_bind (R := rV X.K) h1) fun w H2 ⟨y, r2, e, f2, vy, h2⟩ => ?_
  subst e
  obtain ⟨f, M, items, hr, ei, g⟩ := rdAt_opt h2
  cases x with
  | int i =>
    obtain rfl := VR.int_inv vx
    cases y with
    | int j =>
      obtain rfl := VR.int_inv vy
      dsimp only at ei
      split at ei
      · rename_i hj
        cases ei
        exact ⟨i, j, rfl, by omega, g r2 _ f hr rI_rng⟩
      · cases ei
    | _ => cases ei
  | _ => cases ei

/-! ### for, while -/
theorem vs_for {iter : Expr} {body : List Stmt} {it : Ex (List MV)} {g : Tg} {t : TG} {is : List Nat} {bd : Cm} (hp : PassesOwn (model X.prog X.w) X.A X.env X.xe) (hc : X.calm = true) (hi : PVi G ea X W tg iter it) (hg : PVg G ea X tg g t is) (hb : PVs G ea X W body bd)
    (hs : ∀ x, foldedSetIterable iter X.env x = pure x := by intro _; rfl) : PVst G ea X W (.For tg iter body [] pos) (forC it g bd) := by
  refine ⟨fun r0 => ps_imp (ps_for hp hc hi.pi hg.pg (hb.ps r0) hs) fun D σ H h => ?_⟩
  refine rd_mono (rdS_bind (R := rI X.K G) h) fun J H1 ⟨r, items, r1, e, f, hJ, h1⟩ => ?_
  subst e
  have base : Lk r r1 := f.toLk
  refine ⟨fun i m σ H => m = items.length - i ∧ i ≤ items.length ∧ ∃ r2, r2.H = H ∧ Lk r1 r2 ∧ rdSAt X.K G ea W (forL g bd (items.drop i)) r0 r1 r2 D σ, ⟨items.length, by simp, Nat.zero_le _, r1, rfl, .refl r1, ?_⟩, ?_⟩
  · exact h1.base base (.refl r1)
  rintro i m σ H ⟨rfl, hi, r2, rfl, lk, l, S, M, sr, hr, q⟩
  obtain ⟨j1, j2⟩ := hJ r2 lk i
  by_cases hlt : i < items.length
  · have hv : items[i]? = some items[i] := List.getElem?_eq_getElem hlt
    obtain ⟨go, yl⟩ := j1 _ hv
    rw [List.drop_eq_getElem_cons hlt] at q
    refine .inr ⟨go, fun σ' H' => ∃ r3, r3.H = H' ∧ Lk r1 r3 ∧ rdSAt X.K G ea W (forL g bd (items.drop (i + 1))) r0 r1 r3 D σ', fun σ' H' n => ⟨items.length - (i + 1), by omega, rfl, hlt, n⟩, fun x H' hy => ?_⟩
    obtain ⟨r3, e3, f3, hm3, vx⟩ := yl x H' hy
    subst e3
    have sr3 := sr.mono f3
    unfold forL at q
    cases hgx : g items[i] S with
    | none => rw [hgx] at q; exact q.elim
    | some S1 =>
      rw [hgx] at q
      dsimp only at q
      refine hg.tr _ x S S1 σ r3 _ sr3.sr vx hgx fun σ1 k1 k2 k3 k4 => ?_
      refine ⟨r3, rfl, .refl r3, S1, M, sr3.tg k3 k4, hm3 M hr, ?_⟩
      have l13 : Lk r1 r3 := lk.trans f3.toLk
      cases hbd : bd S1 M with
      | nx S' M' => rw [hbd] at q; exact fun r' σ' l' sr' hr' => ⟨r', rfl, l13.trans l', l13.trans l', S', M', sr', hr', q⟩
      | ct S' M' => rw [hbd] at q; exact fun r' σ' l' sr' hr' => ⟨r', rfl, l13.trans l', l13.trans l', S', M', sr', hr', q⟩
      | bk S' M' => rw [hbd] at q; exact fun r' σ' l' sr' hr' => q r' σ' (l13.trans l') sr' hr'
      | rt v M' => rw [hbd] at q; exact q
      | exc c fs S' M' => rw [hbd] at q; exact fun r' σ' d l' => q r' σ' d (l13.trans l')
      | bad => rw [hbd] at q; exact q
  · have ei : i = items.length := by omega
    subst ei
    rw [List.drop_length] at q
    exact .inl ⟨j2 (Nat.le_refl _), q r2 σ lk sr hr⟩
theorem vs_while {t : Expr} {tt : Te} {body : List Stmt} {bd : Cm} (hp : PassesOwn (model X.prog X.w) X.A X.env X.xe) (ht : PVt G ea X W t tt) (hb : PVs G ea X W body bd) : PVst G ea X W (.While t body [] pos) (whileC tt bd) := by
  refine ⟨fun r0 => ps_imp (ps_while hp ht.pt (hb.ps r0)) fun D σ H ⟨r, e, l, S, M, sr, hr, g⟩ => ?_⟩
  subst e
  have nb : whileC tt bd S M ≠ .bad := fun z => by rw [z] at g; exact g
  obtain ⟨n, hn⟩ := whileC_is nb
  rw [← hn] at g
  refine ⟨fun m σ H => ∃ r2, r2.H = H ∧ rdSAt X.K G ea W (whileN tt bd m) r0 r r2 D σ, ⟨n, r, rfl, l, S, M, sr, hr, g⟩, ?_⟩
  rintro m σ H ⟨r2, rfl, h2⟩
  cases m with
  | zero => obtain ⟨_, _, _, _, _, z⟩ := h2; exact z.elim
  | succ m =>
    refine rd_mono (rdSAt_bind (R := rB) h2) fun k H1 ⟨k', r3, e, f3, ek, h3⟩ => ?_
    subst e
    cases ek
    cases k with
    | false =>
      obtain ⟨l3, S3, M3, sr3, hr3, g3⟩ := h3
      exact iteF (g3 r3 σ l3 sr3 hr3)
    | true =>
      obtain ⟨l3, S3, M3, sr3, hr3, g3⟩ := h3
      refine iteT ⟨fun σ' H' => ∃ r2, r2.H = H' ∧ rdSAt X.K G ea W (whileN tt bd m) r0 r r2 D σ', fun σ' H' n => ⟨m, Nat.lt_succ_self m, n⟩, r3, rfl, .refl r3, S3, M3, sr3, hr3, ?_⟩
      rw [if_pos rfl] at g3
      cases hbd : bd S3 M3 with
      | nx S' M' => rw [hbd] at g3; exact fun r' σ' l' sr' hr' => ⟨r', rfl, l3.trans l', S', M', sr', hr', g3⟩
      | ct S' M' => rw [hbd] at g3; exact fun r' σ' l' sr' hr' => ⟨r', rfl, l3.trans l', S', M', sr', hr', g3⟩
      | bk S' M' => rw [hbd] at g3; exact fun r' σ' l' sr' hr' => g3 r' σ' (l3.trans l') sr' hr'
      | rt v M' => rw [hbd] at g3; exact g3
      | exc c fs S' M' => rw [hbd] at g3; exact fun r' σ' d l' => g3 r' σ' d (l3.trans l')
      | bad => rw [hbd] at g3; exact g3
end
end Mv

set_option Elab.async false
set_option linter.all false
set_option maxRecDepth 100000
set_option autoImplicit false
set_option maxHeartbeats 1000000
/-! MvH: list comprehensions. -/
namespace Mv
open PySem PySem.Spec PyProof.Rows L2
abbrev W0 : WX := fun _ _ _ _ => False
theorem wipe_get {σ : L2.St} {j : Nat} : ∀ {vs : List Nat}, j ∉ vs → (wipe σ vs)[j]? = σ[j]?
  | [], _ => rfl
  | v :: vs, h => by
    rw [List.mem_cons, not_or] at h
    unfold wipe
    rw [List.getElem?_set_ne (Ne.symm h.1)]
    exact wipe_get h.2
theorem wipe_in {σ : L2.St} {j : Nat} : ∀ {vs : List Nat}, j ∈ vs → j < σ.length → (wipe σ vs)[j]? = some none
  | v :: vs, h, hl => by
    unfold wipe
    by_cases e : v = j
    · subst e
      rw [List.getElem?_set_self (by rw [wipe_length]; exact hl)]
    · rw [List.getElem?_set_ne e]
      rcases List.mem_cons.mp h with z | z
      · exact absurd z.symm e
      · exact wipe_in z hl
theorem wipe_eq {a b : L2.St} {vs : List Nat} (h : ∀ j, j ∉ vs → a[j]? = b[j]?) (hl : a.length = b.length) : wipe a vs = wipe b vs := by
  apply List.ext_getElem?
  intro j
  by_cases hj : j ∈ vs
  · by_cases hb : j < b.length
    · rw [wipe_in hj hb, wipe_in hj (by omega)]
    · rw [List.getElem?_eq_none (by rw [wipe_length]; omega), List.getElem?_eq_none (by rw [wipe_length]; omega)]
  · rw [wipe_get hj, wipe_get hj]; exact h j hj
theorem wipeS_len (S : Sg) : ∀ vs : List Nat, (wipeS S vs).length = S.length
  | [] => rfl
  | v :: vs => by unfold wipeS; rw [List.length_set]; exact wipeS_len S vs
theorem wipeS_get {S : Sg} {j : Nat} {s : Slot} : ∀ {vs : List Nat}, s ≠ .non → (wipeS S vs)[j]? = some s → j ∉ vs ∧ S[j]? = some s
  | [], _, e => ⟨by simp, e⟩
  | v :: vs, hs, e => by
    unfold wipeS at e
    by_cases hv : v = j
    · subst hv
      by_cases hl : v < (wipeS S vs).length
      · rw [List.getElem?_set_self hl] at e; exact absurd (Option.some.inj e).symm hs
      · rw [List.getElem?_eq_none (by simpa using hl)] at e; cases e
    · rw [List.getElem?_set_ne hv] at e
      obtain ⟨h1, h2⟩ := wipeS_get hs e
      exact ⟨by rw [List.mem_cons, not_or]; exact ⟨Ne.symm hv, h1⟩, h2⟩
theorem SR.wipe {K : PySem.W.Frag} {G : Gs} {ea : Ea} {r : Rm} {S : Sg} {σ : L2.St} (h : SR K G ea r S σ) (vs : List Nat) : SR K G ea r (wipeS S vs) (L2.wipe σ vs) where
  len := by rw [wipeS_len, wipe_length]; exact h.len
  val := fun i v e => by
    obtain ⟨h1, h2⟩ := wipeS_get (by simp) e
    rw [wipe_get h1]
    exact h.val i v h2
  own := fun i v e => by
    obtain ⟨h1, h2⟩ := wipeS_get (by simp) e
    rw [wipe_get h1]
    exact h.own i v h2
  dis := fun i j xs ys a e1 e2 e3 e4 => by
    obtain ⟨h1, h2⟩ := wipeS_get (by simp) e1
    obtain ⟨h3, h4⟩ := wipeS_get (by simp) e2
    rw [wipe_get h1] at e3
    rw [wipe_get h3] at e4
    exact h.dis i j xs ys a h2 h4 e3 e4
  xc := fun i c fs p e e' => by
    obtain ⟨h1, h2⟩ := wipeS_get (by simp) e
    rw [wipe_get h1]
    exact h.xc i c fs p h2 e'
structure PVts (G : Gs) (ea : Ea) (X : Cx) (W : WX) (ifs : List Expr) (x : Te) : Prop where
  pts : PTs X ifs (rd X.K G ea rB W x)
section
variable {G : Gs} {ea : Ea} {X : Cx} {W : WX} {pos : Pos} {tg iter elt a b c : Expr} {xa xb xc : Ex MV}
theorem vts_nil : PVts G ea X W [] yesT := by
  refine ⟨⟨fun pins s σ H Q I h => pts_nil.run pins s σ H Q I ?_⟩⟩
  obtain ⟨r, e, h⟩ := h
  subst e
  obtain ⟨f, M, hr, g⟩ := rdAt_ret h
  exact g r true f hr rfl
theorem vts_one {tt : Te} (h : PVt G ea X W a tt) : PVts G ea X W [a] tt := ⟨pts_one h.pt⟩
theorem rd_lc {K : PySem.W.Frag} {it : Ex (List MV)} {g : Tg} {t : TG} {is vs : List Nat} {tt : Te} {te : Ex MV} {σ : L2.St} {H : Hp} {Q : VK} (hg : TgR K G ea g t is) (hsub : ∀ j ∈ is, j ∈ vs) (h : rd K G ea (rL K) W (lcE it g tt te vs) σ H Q) :
    tLc (rd K G ea (rI K G) W it) t (rd K G ea rB W0 tt) (rd K G ea (rV K) W0 te) vs σ H Q := by
  refine rd_mono (rd_bind (R := rI K G) h) fun J H1 ⟨r, items, r1, e, f, hJ, h1⟩ => ?_
  subst e
  obtain ⟨f0, S, M, sr, hr, q⟩ := h1
  intro D hD
  refine ⟨fun i m H => m = items.length - i ∧ i ≤ items.length ∧ ∃ r2 acc M2 us, r2.H = H ∧ Fw r1 r2 ∧ HR K G r2 M2 ∧ H D = some (.lst us) ∧ VRs K r2.L r2.m acc us ∧ ¬ r2.F D ∧ D ∉ r2.m ∧
    Good K G (rL K) W σ r Q (lcL g tt te vs S (items.drop i) acc M2), ⟨items.length, by simp, Nat.zero_le _, r1.put D (.lst []), [], M, [], rfl, ?_, ?_, upd_same, .nil, hr.free_F hD, hr.free_m hD, q⟩, ?_⟩
  · exact (Fw.refl r1).put hD (hr.free_F hD)
  · exact hr.put (hr.free_F hD) (hr.free_m hD)
  rintro i m H ⟨rfl, hi, r2, acc, M2, us, rfl, f2, hr2, hDl, vacc, nF, nm, q⟩
  obtain ⟨j1, j2⟩ := hJ r2 f2.toLk i
  by_cases hlt : i < items.length
  · have hv : items[i]? = some items[i] := List.getElem?_eq_getElem hlt
    obtain ⟨go, yl⟩ := j1 _ hv
    rw [List.drop_eq_getElem_cons hlt] at q
    refine .inr ⟨go, fun H' => ∃ r3 acc M2 us, r3.H = H' ∧ Fw r1 r3 ∧ HR K G r3 M2 ∧ H' D = some (.lst us) ∧ VRs K r3.L r3.m acc us ∧ ¬ r3.F D ∧ D ∉ r3.m ∧ Good K G (rL K) W σ r Q (lcL g tt te vs S (items.drop (i + 1)) acc M2),
      fun H' n => ⟨items.length - (i + 1), by omega, rfl, hlt, n⟩, fun x H' hy => ?_⟩
    obtain ⟨r3, e3, f3, hm3, vx⟩ := yl x H' hy
    subst e3
    have sr3 := (sr.mono (f2.trans f3)).wipe vs
    unfold lcL at q
    cases hgx : g items[i] (wipeS S vs) with
    | none => rw [hgx] at q; exact q.elim
    | some S1 =>
      rw [hgx] at q
      dsimp only at q
      refine hg _ x _ S1 _ r3 _ sr3 vx hgx fun σ1 k1 k2 k3 k4 => ⟨?_, ?_⟩
      · have e1 : L2.wipe σ1 vs = L2.wipe (L2.wipe σ vs) vs := wipe_eq (fun j hj => k1 j fun z => hj (hsub j z)) k2
        rw [e1]
        exact wipe_eq (fun j hj => wipe_get hj) (wipe_length σ vs)
      have hr3 := hm3 M2 hr2
      have f13 := f2.trans f3
      have hD3 := f3.old D _ hDl nm
      have nF3 : ¬ r3.F D := fun z => nF (f3.noF D _ hDl z)
      have nm3 : D ∉ r3.m := fun z => nm (f3.noM D _ hDl z)
      refine ⟨r3, rfl, .refl r3, S1, M2, k3, hr3, ?_⟩
      cases htt : tt S1 M2 with
      | bad => rw [htt] at q; exact q
      | exc c fs M' => rw [htt] at q; exact q.elim
      | ok k M4 =>
        rw [htt] at q
        intro r4 k' f4 hr4 ek
        cases ek
        have hD4 := f4.old D _ hD3 nm3
        have nF4 : ¬ r4.F D := fun z => nF3 (f4.noF D _ hD3 z)
        have nm4 : D ∉ r4.m := fun z => nm3 (f4.noM D _ hD3 z)
        cases k with
        | false =>
          exact iteF ⟨r4, acc, M4, us, rfl, f13.trans f4, hr4, hD4, (f3.trans f4).toLk.vrs vacc, nF4, nm4, q⟩
        | true =>
          refine iteT ⟨r4, rfl, .refl r4, S1, M4, k3.mono f4, hr4, ?_⟩
          dsimp only at q
          cases hte : te S1 M4 with
          | bad => rw [hte] at q; exact q
          | exc c fs M' => rw [hte] at q; exact q.elim
          | ok y M5 =>
            rw [hte] at q
            intro r5 w f5 hr5 vy
            dsimp only at q
            split at q
            · rename_i hlen
              have hD5 := f5.old D _ hD4 nm4
              have nF5 : ¬ r5.F D := fun z => nF4 (f5.noF D _ hD4 z)
              have nm5 : D ∉ r5.m := fun z => nm4 (f5.noM D _ hD4 z)
              have f35 := (f3.trans f4).trans f5
              refine ⟨us, hD5, sz_lt (by rw [← vacc.length]; exact hlen), r5.put D (.lst (us ++ [w])), acc ++ [y], M5, us ++ [w], rfl, (f2.trans f35).put hD nF5, hr5.put nF5 nm5, upd_same, ?_, nF5, nm5, q⟩
              exact (Rm.put_lk nF5).vrs ((f35.toLk.vrs vacc).append (.cons vy .nil))
            · exact q.elim
  · have ei : i = items.length := by omega
    subst ei
    rw [List.drop_length] at q
    exact .inl ⟨j2 (Nat.le_refl _), q r2 _ (f0.trans f2) hr2 ⟨D, us, rfl, f0.fresh hD, hDl, vacc, nF, nm⟩⟩
theorem vl_lc {ifs : List Expr} {scope : Scope} {own : List (Str × Nat)} {it : Ex (List MV)} {g : Tg} {t : TG} {is : List Nat} {tt : Te} {te : Ex MV} (hc : X.calm = true) (hN : X.N.Nodup) (hi : PVi G ea X W tg iter it) (ok : BlkOk X.N X.env.scope scope own)
    (hg : ∀ (s : Shared) (H : Hp) (C : Addr) (cl : List (Str × Addr)) (fp : List Addr), PVg G ea (X.blk s H scope (compEnvC scope cl C X.env) fp) tg g t is)
    (ht : ∀ (s : Shared) (H : Hp) (C : Addr) (cl : List (Str × Addr)) (fp : List Addr), PVts G ea (X.blk s H scope (compEnvC scope cl C X.env) fp) W0 ifs tt)
    (he : ∀ (s : Shared) (H : Hp) (C : Addr) (cl : List (Str × Addr)) (fp : List Addr), PV G ea (X.blk s H scope (compEnvC scope cl C X.env) fp) W0 elt te) (hsub : ∀ j ∈ is, j ∈ own.map (·.2) := by decide) (hs : ∀ x, foldedSetIterable iter X.env x = pure x := by intro _; rfl) :
    PVL G ea X W (.ListComp elt [⟨tg, iter, ifs, 0⟩] scope pos) (lcE it g tt te (own.map (·.2))) :=
  ⟨pe_imp (pe_lc hc hN hi.pi ok (fun s H C cl fp => (hg s H C cl fp).pg) (fun s H C cl fp => (ht s H C cl fp).pts) (fun s H C cl fp => (he s H C cl fp).pe) hs) fun σ H Q h => rd_lc (hg ⟨X.base, #[], X.s_0.drawn, 0, X.s_0.os⟩ X.H_0 0 [] []).tr hsub h⟩
end
end Mv

set_option Elab.async false
set_option linter.all false
set_option maxRecDepth 100000
set_option autoImplicit false
set_option maxHeartbeats 1000000
/-! MvI: instances, methods, errors. -/
namespace Mv
open PySem PySem.Spec PyProof.Rows L2

/-! ### names and values side by side -/
theorem zip_lookup : ∀ {ns : List Str} {vs : List V} {k : Nat} {f : Str} {v : V}, ns.Nodup → ns[k]? = some f → vs[k]? = some v → (ns.zip vs).lookup f = some v
  | [], _, _, _, _, _, e, _ => by simp at e
  | _ :: _, [], _, _, _, _, _, e => by simp at e
  | n :: ns, v :: vs, 0, f, w, _, e1, e2 => by
    simp at e1 e2
    subst e1 e2
    simp [List.zip, List.lookup]
  | n :: ns, v :: vs, k + 1, f, w, nd, e1, e2 => by
    obtain ⟨h1, h2⟩ := List.nodup_cons.mp nd
    have e1' : ns[k]? = some f := by simpa using e1
    have e2' : vs[k]? = some w := by simpa using e2
    have ne : (f == n) = false := by
      have : f ≠ n := fun z => h1 (z ▸ List.mem_of_getElem? e1')
      simpa using this
    show List.lookup f ((n, v) :: ns.zip vs) = some w
    simp only [List.lookup, ne]
    exact zip_lookup h2 e1' e2'
theorem zip_lookup_none : ∀ {ns : List Str} {vs : List V} {f : Str}, f ∉ ns → (ns.zip vs).lookup f = none
  | [], _, _, _ => rfl
  | _ :: _, [], _, _ => rfl
  | n :: ns, v :: vs, f, h => by
    rw [List.mem_cons, not_or] at h
    have ne : (f == n) = false := by simpa using h.1
    show List.lookup f ((n, v) :: ns.zip vs) = none
    simp only [List.lookup, ne]
    exact zip_lookup_none h.2
theorem zip_put : ∀ {ns : List Str} {vs : List V} {k : Nat} {f : Str} {v : V}, ns.Nodup → ns[k]? = some f → k < vs.length → putF f v (ns.zip vs) = ns.zip (vs.set k v)
  | [], _, _, _, _, _, e, _ => by simp at e
  | _ :: _, [], _, _, _, _, _, e => by simp at e
  | n :: ns, v :: vs, 0, f, w, _, e1, _ => by
    simp at e1
    subst e1
    exact if_pos rfl
  | n :: ns, v :: vs, k + 1, f, w, nd, e1, e2 => by
    obtain ⟨h1, h2⟩ := List.nodup_cons.mp nd
    have e1' : ns[k]? = some f := by simpa using e1
    have ne : ¬ n = f := fun z => h1 (z ▸ List.mem_of_getElem? e1')
    show (if n = f then _ else _) = _
    rw [if_neg ne]
    exact congrArg _ (zip_put h2 e1' (by simpa using e2))
theorem zip_add : ∀ {ns : List Str} {vs : List V} {f : Str} {v : V}, ns.Nodup → ns[vs.length]? = some f → putF f v (ns.zip vs) = ns.zip (vs ++ [v])
  | [], _, _, _, _, e => by simp at e
  | n :: ns, [], f, w, _, e1 => by
    simp at e1
    subst e1
    simp [putF]
  | n :: ns, v :: vs, f, w, nd, e1 => by
    obtain ⟨h1, h2⟩ := List.nodup_cons.mp nd
    have e1' : ns[vs.length]? = some f := by simpa using e1
    have ne : ¬ n = f := fun z => h1 (z ▸ List.mem_of_getElem? e1')
    show (if n = f then _ else _) = _
    rw [if_neg ne]
    exact congrArg _ (zip_add h2 e1')

/-- what the written part says of a class of the program -/
structure Kls (K : PySem.W.Frag) (G : Gs) (c : Nat) : Prop where
  cl : Cls K (G.cA c)
  nd : (G.cN c).Nodup
  na : ∀ f ∈ G.cN c, NoAttr K (G.cA c) f
  few : (G.cN c).length < 900
theorem insOf_some {K : PySem.W.Frag} {G : Gs} {r : Rm} {M : MH} {a : MV} {v : V} {C : Nat} {fs : List MV} (hr : HR K G r M) (va : VR K r.L r.m a v) (e : insOf M C a = some fs) :
    ∃ n p dx vs, a = .ref n ∧ v = .ref p ∧ r.m[n]? = some p ∧ r.H p = some (.ins (G.cA C) dx ((G.cN C).zip vs)) ∧ VRs K r.L r.m fs vs ∧ fs.length ≤ (G.cN C).length := by
  cases a with
  | ref k =>
    obtain ⟨p, e1, e2⟩ := va.ref_inv
    simp only [insOf] at e
    split at e
    · rename_i c' fs' hM
      split at e
      · rename_i hc
        cases e
        subst hc
        obtain ⟨dx, vs, h1, h2, h3⟩ := hr.at_ k p _ e2 hM
        exact ⟨k, p, dx, vs, rfl, e1, e2, h1, h2, h3⟩
      · cases e
    · cases e
  | _ => cases e
section
variable {G : Gs} {ea : Ea} {X : Cx} {W : WX} {pos : Pos} {a b c : Expr} {xa xb xc : Ex MV}
theorem pv_fld {C k : Nat} {f : Str} (T : Kls X.K G C) (ha : PV G ea X W a xa) (hf : (G.cN C)[k]? = some f := by rfl) (hb : attributeBase a f X.env (eval a X.env) = eval a X.env := by rfl) : PV G ea X W (.Attribute a f pos) (fldE C k xa) := by
  refine ⟨pe_imp (pe_fld ha.pe hb) fun σ H Q h => ?_⟩
  refine rd_mono (rd_bind (R := rV X.K) h) fun v H1 ⟨r, x, r1, e, _, vx, h1⟩ => ?_
  subst e
  obtain ⟨f0, M, z, hr, ez, g⟩ := rdAt_optH (F := fun M => (insOf M C x).bind fun fs => fs[k]?) h1
  cases hi : insOf M C x with
  | none => rw [hi] at ez; cases ez
  | some fs =>
    rw [hi] at ez
    have ez : fs[k]? = some z := ez
    obtain ⟨n, p, dx, vs, _, e1, e2, e3, e4, e5⟩ := insOf_some hr vx hi
    obtain ⟨w, e6, vw⟩ := e4.get ez
    exact ⟨p, _, dx, _, w, e1, e3, T.cl, T.na f (List.mem_of_getElem? hf), zip_lookup T.nd hf e6, g r1 w f0 hr vw⟩
theorem vs_setFld {C k : Nat} {f : Str} {pos' : Pos} (T : Kls X.K G C) (hb : PV G ea X W b xb) (ha : PV G ea X W a xa) (hf : (G.cN C)[k]? = some f := by rfl) (hs : swapsWith a (some (.Attribute b f pos')) pos.line X.env = pure false := by rfl) :
    PVst G ea X W (.Assign [.Attribute b f pos'] a pos) (setFld C k xb xa) := by
  refine ⟨fun r0 => ps_imp (ps_fld hb.pe ha.pe hs) fun D σ H h => ?_⟩
  refine rd_mono (rdS_bind (R := rV X.K) h) fun v H1 ⟨r, x, r1, e, f1, vx, h1⟩ => ?_
  subst e
  refine rd_mono (rdSAt_bind (R := rV X.K) h1) fun o H2 ⟨y, r2, e, f2, vy, h2⟩ => ?_
  subst e
  obtain ⟨l, S, M, sr, hr, g⟩ := h2
  dsimp only at g
  cases hi : insOf M C y with
  | none => rw [hi] at g; cases y <;> exact g.elim
  | some fs =>
    rw [hi] at g
    obtain ⟨n, p, dx, vs, ey, e1, e2, e3, e4, e5⟩ := insOf_some hr vy hi
    subst ey
    have hk : k < (G.cN C).length := (List.getElem?_eq_some_iff.mp hf).1
    have vx2 := f2.toLk.vr vx
    have hz : ((G.cN C).zip vs).length < 1000 := by rw [List.length_zip]; have := T.few; omega
    refine ⟨p, _, dx, _, e1, e3, T.cl, T.na f (List.mem_of_getElem? hf), hz, ?_⟩
    dsimp only at g
    split at g
    · rename_i hlt
      rw [zip_put T.nd hf (by rw [← e4.length]; exact hlt)]
      have fw := hr.set_fw (o := .ins (G.cA C) dx ((G.cN C).zip (vs.set k v))) e2
      have hset := hr.set (o := .ins (G.cA C) dx ((G.cN C).zip (vs.set k v))) (ob := .ins C (fs.set k x)) e2 ⟨dx, vs.set k v, upd_same, fw.toLk.vrs (VRs.set vx2 k e4), by rw [List.length_set]; exact e5⟩
      exact g (r2.put p _) σ (l.trans fw.toLk) (sr.mono fw) hset
    · split at g
      · rename_i hne heq
        have hl : vs.length = k := by rw [← e4.length]; exact heq.symm
        rw [zip_add T.nd (by rw [hl]; exact hf)]
        have fw := hr.set_fw (o := .ins (G.cA C) dx ((G.cN C).zip (vs ++ [v]))) e2
        have hset := hr.set (o := .ins (G.cA C) dx ((G.cN C).zip (vs ++ [v]))) (ob := .ins C (fs ++ [x])) e2 ⟨dx, vs ++ [v], upd_same, fw.toLk.vrs (e4.append (.cons vx2 .nil)), by rw [List.length_append]; simp; omega⟩
        exact g (r2.put p _) σ (l.trans fw.toLk) (sr.mono fw) hset
      · exact g.elim

/-! ### methods, new instances -/
structure CalM (P : Program) (w : World) (K : PySem.W.Frag) (mg : Str → Option Value) (base : Heap) (A : Around) (G : Gs) (C : Nat) (m : Str) (g : List MV → MH → Out MV) : Prop where
  ex : ∃ (k : Nat) (f : Addr) (fd : FuncData) (ps : List Str), FnOk P w K mg base (L2.CX P w) k f fd ps (spM K G g) ∧ Room k A ∧ Meth K (G.cA C) m f ∧ Binds K fd ps []
/-- o.m(..), what it raises wished for at the slots as they stand -/
def tMethW (C : Addr) (m : Str) (sp : Sp) (E : L2.St → XK) (ta : TE) (t : TA) : TE := fun σ H Q => ta σ H fun x H1 => ∃ a dx fs, x = .ref a ∧ H1 a = some (.ins C dx fs) ∧ fs.lookup m = none ∧ t σ H1 fun vs H2 => sp (x :: vs) H2 Q (E σ)
theorem pe_methW {CX : CXT} {k : Nat} {f C : Addr} {fd : FuncData} {ps : List Str} {sp : Sp} {E : L2.St → XK} {m : Str} {apos : Pos} {o : Expr} {es : List Expr} {ta : TE} {t : TA} {pl : Sem Bool} (he : PE X o ta) (c : Cls X.K C) (hm : Meth X.K C m f)
    (F : FnOk X.prog X.w X.K X.mg X.base CX k f fd ps sp) (hr : Room k X.A) (hb : Binds X.K fd ps []) (hx : ∀ σ, PassesAt CX X σ (E σ)) (ha : PA X (a :: es) t)
    (hst : starEach (a :: es) X.env = (false, eval a X.env) :: starEach es X.env := by rfl) (hpl : (backTo pos (starEach es X.env)).any (·.1) = false := by rfl)
    (ht : eval (.Call (.Attribute o m apos) (a :: es) [] pos) X.env = (do
      let ov ← eval o X.env
      standAt apos.atName
      let (f, first) ← holding [ov] (getMethod ov m pl)
      callWith pos f first (backTo pos (starEach (a :: es) X.env)) (backToKw pos (keywordEach [] X.env))) := by rfl) :
    PE X (.Call (.Attribute o m apos) (a :: es) [] pos) (tMethW C m sp E ta t) := by
  refine ⟨fun pins s σ H Q I h => PySem.W.methodCall_KW (pl := pl) (thn (he.run pins s σ H _ I h) fun u s1 hh => ?_) ht⟩
  obtain ⟨x, H1, I1, rx, p, dx, fs, ex, ea, l, q⟩ := hh
  subst ex
  cases rx
  refine getmeth_ok I1 ea c hm l (PySem.W.callWith_K (first := [.ref p]) (h₀ := X.base) I.ok.mod.kin hm.kp (thn (ha.run pos pins s1 σ H1 _ I1 q) fun us s2 hh2 => ?_) hst hpl)
  obtain ⟨vs, H2, I2, r2, q2⟩ := hh2
  exact ⟨I2.kIn, run_fnS (us := .ref p :: us) (vs := .ref p :: vs) F hr hb (hx σ) I2 (.cons rfl r2) q2⟩
theorem pe_methW0 {CX : CXT} {k : Nat} {f C : Addr} {fd : FuncData} {ps : List Str} {sp : Sp} {E : L2.St → XK} {m : Str} {apos : Pos} {o : Expr} {ta : TE} {pl : Sem Bool} (he : PE X o ta) (c : Cls X.K C) (hm : Meth X.K C m f)
    (F : FnOk X.prog X.w X.K X.mg X.base CX k f fd ps sp) (hr : Room k X.A) (hb : Binds X.K fd ps []) (hx : ∀ σ, PassesAt CX X σ (E σ))
    (ht : eval (.Call (.Attribute o m apos) [] [] pos) X.env = (do
      let ov ← eval o X.env
      standAt apos.atName
      let (f, first) ← holding [ov] (getMethod ov m pl)
      callWith pos f first (backTo pos (starEach [] X.env)) (backToKw pos (keywordEach [] X.env))) := by rfl) :
    PE X (.Call (.Attribute o m apos) [] [] pos) (tMethW C m sp E ta tNil) := by
  refine ⟨fun pins s σ H Q I h => PySem.W.methodCall_KW (pl := pl) (thn (he.run pins s σ H _ I h) fun u s1 hh => ?_) ht⟩
  obtain ⟨x, H1, I1, rx, p, dx, fs, ex, ea, l, q⟩ := hh
  subst ex
  cases rx
  exact getmeth_ok I1 ea c hm l (PySem.W.callWith_K0 (first := [.ref p]) I1.kIn hm.kp (run_fnS (us := [.ref p]) (vs := [.ref p]) F hr hb (hx σ) I1 (.cons rfl .nil) q))
theorem rd_meth {K : PySem.W.Frag} {σ : L2.St} {H : Hp} {C : Nat} {m : Str} {g : List MV → MH → Out MV} {xs : Ex (List MV)} {Q : VK} (hm : m ∉ G.cN C) (h : rd K G ea (rV K) W (methE C g xa xs) σ H Q) :
    tMethW (G.cA C) m (spM K G g) (WE W) (rd K G ea (rV K) W xa) (rd K G ea (rVs K) W xs) σ H Q := by
  refine rd_mono (rd_bind (R := rV K) h) fun v H1 ⟨r, x, r1, e, _, vx, h1⟩ => ?_
  subst e
  obtain ⟨f0, S, M, sr, hr, q⟩ := h1
  cases hi : insOf M C x with
  | none => simp only [hi] at q; exact q.elim
  | some fs =>
    simp only [hi] at q
    obtain ⟨n, p, dx, vs, ex, e1, e2, e3, e4, e5⟩ := insOf_some hr vx hi
    refine ⟨p, dx, _, e1, e3, zip_lookup_none hm, ?_⟩
    refine rd_mono (rdAt_bind (R := rVs K) (⟨f0, S, M, sr, hr, q⟩ : rdAt K G ea (rV K) W (bindE xs fun ys => fun _ M' => g (x :: ys) M') σ r r1 Q)) fun us H2 ⟨ys, r2, e, f2, vy, h2⟩ => ?_
    subst e
    obtain ⟨f3, S3, M3, sr3, hr3, q3⟩ := h2
    refine ⟨r2, M3, x :: ys, rfl, hr3, .cons (f2.toLk.vr vx) vy, ?_⟩
    have q3 : Good K G (rV K) W σ r Q (g (x :: ys) M3) := q3
    cases hg : g (x :: ys) M3 with
    | bad => rw [hg] at q3; exact q3
    | exc c fs M' => rw [hg] at q3; exact fun r' d f h' z => q3 r' d (f3.trans f) h' z
    | ok v M' => rw [hg] at q3; exact fun r' w f h' z => q3 r' w (f3.trans f) h' z
theorem pv_meth {C : Nat} {m : Str} {apos : Pos} {es : List Expr} {g : List MV → MH → Out MV} {xs : Ex (List MV)} {pl : Sem Bool} (T : CalM X.prog X.w X.K X.mg X.base X.A G C m g) (TK : Kls X.K G C) (tk : Takes X W) (hb : PV G ea X W b xb) (ha : PVa G ea X W (a :: es) xs)
    (hm : m ∉ G.cN C := by decide +kernel) (hst : starEach (a :: es) X.env = (false, eval a X.env) :: starEach es X.env := by rfl) (hpl : (backTo pos (starEach es X.env)).any (·.1) = false := by rfl)
    (ht : eval (.Call (.Attribute b m apos) (a :: es) [] pos) X.env = (do
      let ov ← eval b X.env
      standAt apos.atName
      let (f, first) ← holding [ov] (getMethod ov m pl)
      callWith pos f first (backTo pos (starEach (a :: es) X.env)) (backToKw pos (keywordEach [] X.env))) := by rfl) :
    PV G ea X W (.Call (.Attribute b m apos) (a :: es) [] pos) (methE C g xb xs) := by
  obtain ⟨k, f, fd, ps, F, hr, hmt, hbn⟩ := T.ex
  exact ⟨pe_imp (pe_methW hb.pe TK.cl hmt F hr hbn (fun σ => passAt tk σ) ha.pa hst hpl ht) fun _ _ _ h => rd_meth hm h⟩
theorem pv_meth0 {C : Nat} {m : Str} {apos : Pos} {g : List MV → MH → Out MV} {pl : Sem Bool} (T : CalM X.prog X.w X.K X.mg X.base X.A G C m g) (TK : Kls X.K G C) (tk : Takes X W) (hb : PV G ea X W b xb) (hm : m ∉ G.cN C := by decide +kernel)
    (ht : eval (.Call (.Attribute b m apos) [] [] pos) X.env = (do
      let ov ← eval b X.env
      standAt apos.atName
      let (f, first) ← holding [ov] (getMethod ov m pl)
      callWith pos f first (backTo pos (starEach [] X.env)) (backToKw pos (keywordEach [] X.env))) := by rfl) :
    PV G ea X W (.Call (.Attribute b m apos) [] [] pos) (methE C g xb nilA) := by
  obtain ⟨k, f, fd, ps, F, hr, hmt, hbn⟩ := T.ex
  refine ⟨pe_imp (pe_methW0 hb.pe TK.cl hmt F hr hbn (fun σ => passAt tk σ) ht) fun σ H Q h => ?_⟩
  refine rd_mono (rd_meth (m := m) hm h) fun x H1 ⟨p, dx, fs, e1, e2, e3, q⟩ => ⟨p, dx, fs, e1, e2, e3, ?_⟩
  obtain ⟨r, e, q⟩ := q
  subst e
  obtain ⟨f, M, hr, g⟩ := rdAt_ret (a := ([] : List MV)) (R := rVs X.K) q
  exact g r [] f hr .nil
end
end Mv

set_option Elab.async false
set_option linter.all false
set_option maxRecDepth 100000
set_option autoImplicit false
set_option maxHeartbeats 1000000
/-! MvJ: errors raised and caught; what a def's body gives. -/
namespace Mv
open PySem PySem.Spec PyProof.Rows L2

/-! ### a def -/
section
variable {P : Program} {w : World} {K : PySem.W.Frag} {mg : Str → Option Value} {base : Heap} {G : Gs}
/-- a def of the text whose body does b keeps the promise of finC -/
theorem fn_ok {x qual : Str} {st : Stmt} {f : Addr} {fd : FuncData} {N ps : List Str} {k np : Nat} {b : Cm} (F : Fun K x qual st f fd) (Sc : FnScope N ps (defScope st)) (hnp : ps.length = np) (hN : np ≤ N.length)
    (body : ∀ (cdv : Value) (A : Around) (outer : List Env) (s : Shared) (H : Hp) (E : XK), Room k (A.deeper (envOfC qual (defScope st) s.heap.objs.size f cdv)) →
      PVs G none (cxOf (L2.CX P w) P w K mg base N qual (defScope st) f cdv A outer s H E) (fun cls d _ H => E cls d H) (defBody st) b) :
    FnOk P w K mg base (L2.CX P w) (k + 1) f fd ps (spM K G (finC N.length np b)) := by
  refine F.okX Sc (fun vs H Q E ⟨r, M, args, e, hr, va, g⟩ => ?_) (fun cdv A outer s H vs Q E hroom ⟨r, M, args, e, hr, va, g⟩ => ?_)
  · unfold finC at g
    split at g
    · rename_i hl
      rw [← va.length, hl, hnp]
    · exact g.elim
  · subst e
    unfold finC at g
    split at g
    · rename_i hl
      refine ⟨_, (body cdv A outer s r.H E hroom).ps r, r, rfl, .refl r, args.map Mv.Slot.val ++ List.replicate (N.length - np) Mv.Slot.non, M, ?_, hr, ?_⟩
      · have hlen : (args.map Mv.Slot.val).length = vs.length := by rw [List.length_map]; exact va.length
        have hvl : vs.length = np := by rw [← va.length]; exact hl
        have nonown : ∀ (i : Nat) (s : Mv.Slot), (args.map Mv.Slot.val ++ List.replicate (N.length - np) Mv.Slot.non)[i]? = some s → s = .non ∨ ∃ v, s = .val v ∧ args[i]? = some v := fun i s e => by
          by_cases hi : i < (args.map Mv.Slot.val).length
          · rw [List.getElem?_append_left hi, List.getElem?_map] at e
            cases ha : args[i]? with
            | none => rw [ha] at e; cases e
            | some v => rw [ha] at e; cases e; exact .inr ⟨v, rfl, rfl⟩
          · rw [List.getElem?_append_right (by omega)] at e
            exact .inl (List.eq_of_mem_replicate (List.mem_of_getElem? e))
        refine ⟨⟨?_, fun i v e => ?_, fun i xs e => ?_, fun i j xs ys a e _ _ _ => ?_, fun i c fs p e _ => ?_⟩, .refl r, fun i xs a e _ => ?_⟩
        · unfold L2.start
          rw [List.length_append, List.length_append, List.length_replicate, List.length_replicate, List.length_map, List.length_map, hvl, hl]
        · rcases nonown i _ e with z | ⟨u, z, hu⟩
          · cases z
          · cases z
            obtain ⟨w', hw, vw⟩ := va.get hu
            refine ⟨w', ?_, vw⟩
            unfold L2.start
            rw [List.getElem?_append_left (by rw [List.length_map]; exact (List.getElem?_eq_some_iff.mp hw).1), List.getElem?_map, hw]
            rfl
        · rcases nonown i _ e with z | ⟨u, z, hu⟩ <;> cases z
        · rcases nonown i _ e with z | ⟨u, z, hu⟩ <;> cases z
        · rcases nonown i _ e with z | ⟨u, z, hu⟩ <;> cases z
        · rcases nonown i _ e with z | ⟨u, z, hu⟩ <;> cases z
      · cases hb : b (args.map Mv.Slot.val ++ List.replicate (N.length - np) Mv.Slot.non) M with
        | nx S' M' => rw [hb] at g; exact fun r' σ' l sr hr' => g r' .non sr.fw hr' .non
        | rt v M' => rw [hb] at g; exact fun r' w' f' hr' vw => g r' w' f' hr' vw
        | bk S' M' => rw [hb] at g; exact g.elim
        | ct S' M' => rw [hb] at g; exact g.elim
        | exc c fs S' M' => rw [hb] at g; exact fun r' σ' d _ sr hr' xr => g r' d sr.fw hr' xr
        | bad => rw [hb] at g; exact g.elim
    · exact g.elim
end

/-! ### raise X(..) -/
/-- the promise of an error's __init__ of n fields fs: a new dict with them -/
def spErr (C : Addr) (ns : List Str) : Sp := fun vs H Q _ => ∃ (a : Addr) (us : List V), vs = .ref a :: us ∧ us.length = ns.length ∧ H a = some (exo a C none) ∧
  ∀ (dx : Addr) (fs : List (Str × V)) (H' : Hp), H dx = none → dx ≠ a → H' a = some (exo a C (some dx)) → H' dx = some (exd dx fs) → (∀ (i : Nat) (f : Str), ns[i]? = some f → fs.lookup f = us[i]?) → (∀ b, b ≠ a → b ≠ dx → H' b = H b) → Q .non H'
structure Rse (P : Program) (w : World) (K : PySem.W.Frag) (mg : Str → Option Value) (base : Heap) (A : Around) (G : Gs) (x : Str) (c : Nat) : Prop where
  ox : OexC K (G.cA c)
  mgC : mg x = some (.ref (G.cA c))
  ex : ∃ (k : Nat) (fI : Addr) (fd : FuncData) (ps : List Str), PySem.W.findIn K (.ref (G.cA c)) "__init__" = some (some (.ref fI)) ∧ PySem.W.typeIn K (.ref fI) = some (.type "function") ∧
    FnOk P w K mg base CX0 k fI fd ps (spErr (G.cA c) (G.cN c)) ∧ Room (k + 1) A ∧ Binds K fd ps []
section
variable {G : Gs} {X : Cx} {W : WX} {pos : Pos} {a b c : Expr} {xa xb xc : Ex MV}
theorem vs_raise' {ea : Ea} {x : Str} {p pos2 : Pos} {es : List Expr} {ci : Nat} {xs : Ex (List MV)} (T : Rse X.prog X.w X.K X.mg X.base X.A G x ci) (tk : Takes X W) (hc : X.calm = true) (ha : PVa G ea X W (a :: es) xs) (hlen : (G.cN ci).length ≤ 1000) (hg : Gl X x := by rfl)
    (hdb : (x == ("__debug__" : Str)) = false := by decide) (he : starEach (a :: es) X.env = (false, eval a X.env) :: starEach es X.env := by rfl) (hpl : (backTo pos (starEach es X.env)).any (·.1) = false := by rfl) :
    PVst G ea X W (.Raise (some (.Call (.Name x p) (a :: es) [] pos)) none pos2) (raiseC ci (G.cN ci).length xs) := by
  obtain ⟨k, fI, fd, ps, iC, tI, F1, hr, hb⟩ := T.ex
  refine ⟨fun r0 => ps_imp (ps_raise hc tk (pmk_oex T.ox iC tI F1 hr hb .nil pass0 hg T.mgC ha.pa hdb he hpl)) fun D σ H h => ?_⟩
  refine rd_mono (rdS_bind (R := rVs X.K) h) fun vs H1 ⟨r, ys, r1, e, f, vx, h1⟩ => ?_
  subst e
  obtain ⟨l, S, M, sr, hr1, g⟩ := h1
  dsimp only at g
  split at g
  · rename_i hl
    have hvl : vs.length = (G.cN ci).length := by rw [← vx.length]; exact hl
    refine ⟨by omega, fun p hp => ⟨p, vs, by rw [List.append_nil], hvl, upd_same, fun dx fs H' n1 n2 e1 e2 hl2 keep => ⟨rfl, dx, fs, e1, e2, ?_, ?_⟩⟩⟩
    · rw [upd_ne n2] at n1; exact n1
    · have n1' : r1.H dx = none := by rw [upd_ne n2] at n1; exact n1
      have eH : upd (del H' p) dx (.xd fs) = upd r1.H dx (.xd fs) := by
        funext b
        by_cases hb : b = dx
        · subst hb; rw [upd_same, upd_same]
        · rw [upd_ne hb, upd_ne hb]
          by_cases hbp : b = p
          · subst hbp; rw [del_same]; exact hp.symm
          · rw [del_ne hbp, keep b hbp hb, upd_ne hbp]
      rw [eH]
      have fw := hr1.lay_fw (o := .xd fs) n1'
      exact g (r1.lay dx (.xd fs)) σ (some dx) (l.trans fw.toLk) (sr.mono fw) (hr1.lay n1') ⟨dx, vs, fs, rfl, Rm.lay_L, fw.toLk.vrs vx, hl, hl2⟩
  · exact g.elim
theorem vs_raise {ea : Ea} {x : Str} {p pos2 : Pos} {es : List Expr} {ci n : Nat} {xs : Ex (List MV)} (T : Rse X.prog X.w X.K X.mg X.base X.A G x ci) (tk : Takes X W) (hc : X.calm = true) (ha : PVa G ea X W (a :: es) xs) (hn : (G.cN ci).length = n) (hlen : n ≤ 1000 := by decide) (hg : Gl X x := by rfl)
    (hdb : (x == ("__debug__" : Str)) = false := by decide) (he : starEach (a :: es) X.env = (false, eval a X.env) :: starEach es X.env := by rfl) (hpl : (backTo pos (starEach es X.env)).any (·.1) = false := by rfl) :
    PVst G ea X W (.Raise (some (.Call (.Name x p) (a :: es) [] pos)) none pos2) (raiseC ci n xs) := by
  subst hn
  exact vs_raise' T tk hc ha hlen hg hdb he hpl
end
end Mv

set_option Elab.async false
set_option linter.all false
set_option maxRecDepth 100000
set_option autoImplicit false
set_option maxHeartbeats 1000000
/-! MvK: operators and built-ins by our functions of values. -/
namespace Mv
open PySem PySem.Spec PyProof.Rows L2
section
variable {G : Gs} {X : Cx}
/-- an operation that gives a value without a place -/
theorem opr_of {f : Value → Value → Sem Value} {F : MV → MV → Option MV} (h : ∀ (pins : List (Addr × Obj)) (s : Shared) (σ : L2.St) (H : Hp) (v u : Value) (Q : VK) (r : Rm) (M : MH) (x y z : MV) (vx vy : V), Inv X pins σ H s → RelV vx v → RelV vy u → r.H = H → HR X.K G r M →
    VR X.K r.L r.m x vx → VR X.K r.L r.m y vy → F x y = some z → (∀ r' w, Fw r r' → HR X.K G r' M → VR X.K r'.L r'.m z w → Q w r'.H) → wpAny (model X.prog X.w) X.A (f v u) (EP X pins σ Q) X.xe s) : OpR X f (rM X.K G F) :=
  fun pins s σ H x y v u Q I rx ry ⟨r, M, a, b, z, e, hr, va, vb, ez, g⟩ => h pins s σ H v u Q r M a b z x y I rx ry e hr va vb ez g
theorem q_int {K : PySem.W.Frag} {r : Rm} {M : MH} {i : Int} {Q : VK} (hr : HR K G r M) (g : ∀ r' w, Fw r r' → HR K G r' M → VR K r'.L r'.m (.int i) w → Q w r'.H) : Q (.int i) r.H := g r _ (.refl r) hr (.int i)
theorem q_bl {K : PySem.W.Frag} {r : Rm} {M : MH} {i : Bool} {Q : VK} (hr : HR K G r M) (g : ∀ r' w, Fw r r' → HR K G r' M → VR K r'.L r'.m (.bl i) w → Q w r'.H) : Q (.bl i) r.H := g r _ (.refl r) hr (.bl i)
theorem q_str {K : PySem.W.Frag} {r : Rm} {M : MH} {i : List Nat} {Q : VK} (hr : HR K G r M) (g : ∀ r' w, Fw r r' → HR K G r' M → VR K r'.L r'.m (.str i) w → Q w r'.H) : Q (.str ⟨i.toArray⟩) r.H := g r _ (.refl r) hr (.str i)
/-- a new list, locked -/
theorem q_lst {K : PySem.W.Frag} {r : Rm} {M : MH} {xs : List MV} {vs : List V} {Q : VK} (hr : HR K G r M) (h : VRs K r.L r.m xs vs) (g : ∀ r' w, Fw r r' → HR K G r' M → VR K r'.L r'.m (.lst xs) w → Q w r'.H) (p : Addr) (hp : r.H p = none) : Q (.ref p) (upd r.H p (.lst vs)) := by
  have f := hr.lay_fw (o := .lst vs) hp
  exact g (r.lay p (.lst vs)) _ f (hr.lay hp) (.lst (.inl Rm.lay_L) (f.toLk.vrs h))
theorem lst_dir {K : PySem.W.Frag} {r : Rm} {M : MH} {p : Addr} {vs : List V} (h : Rd r.L p (.lst vs)) : Rd r.H p (.lst vs) := same_rd r.L_H h
theorem str_len (s : List Nat) : (⟨s.toArray⟩ : Str).length = s.length := by simp [Str.length]
theorem str_app (a b : List Nat) : (⟨a.toArray⟩ : Str) ++ ⟨b.toArray⟩ = ⟨(a ++ b).toArray⟩ := by
  apply TL.ext_tl
  rw [TL.tl_append]
/-- what list concatenation asks of a list that is read -/
theorem rd_obj {H : Hp} {h : Heap} {P : Program} {w : World} {p : Addr} {vs : List V} (ok : HOk P w H h) (q : Rd H p (.lst vs)) : ∃ (its : List Value) (n : Nat), Vals vs its ∧ h.get? p = some { cls := .type "list", data := .seq its.toArray n } ∧ vs.length ≤ sizeLine := by
  obtain ⟨z, its, n, r, e⟩ := q.ok ok
  exact ⟨its, n, r, e, z⟩
theorem o_add : OpR X (binaryOp .Add) (rM X.K G addM) := opr_of fun pins s σ H v u Q r M x y z vx vy I rx ry e hr va vb ez g => by
  subst e
  cases x with
  | int i =>
    obtain rfl := va.int_inv
    cases y with
    | int j =>
      obtain rfl := vb.int_inv
      cases ez
      exact op_add pins s σ r.H _ _ v u Q I rx ry ⟨i, j, rfl, rfl, q_int hr g⟩
    | _ => cases ez
  | str i =>
    obtain rfl := va.str_inv
    cases y with
    | str j =>
      obtain rfl := vb.str_inv
      simp only [addM] at ez
      split at ez
      · rename_i hl
        cases ez
        refine op_add_str pins s σ r.H _ _ v u Q I rx ry ⟨_, _, rfl, rfl, sz_of (by rw [str_len, str_len]; exact hl), ?_⟩
        rw [str_app]
        exact q_str hr g
      · cases ez
    | _ => cases ez
  | lst xs =>
    cases y with
    | lst ys =>
      simp only [addM] at ez
      split at ez
      · rename_i hl
        cases ez
        obtain ⟨p, ps, ep, hp, vp⟩ := va.lst_inv
        obtain ⟨q, qs, eq, hq, vq⟩ := vb.lst_inv
        subst ep eq
        cases rx
        cases ry
        obtain ⟨its, n, rv, eo, z1⟩ := rd_obj I.hok (lst_dir (K := X.K) (M := M) hp)
        obtain ⟨its2, n2, rv2, eo2, z2⟩ := rd_obj I.hok (lst_dir (K := X.K) (M := M) hq)
        have l1 : its.length = ps.length := rv.length.symm
        have l2 : its2.length = qs.length := rv2.length.symm
        refine PySem.P.add_list eo eo2 ?_ (by rw [List.size_toArray, List.size_toArray, l1, l2, ← vp.length, ← vq.length]; exact sz_of hl)
        have ea : its.toArray ++ its2.toArray = (its ++ its2).toArray := by simp
        rw [ea]
        exact ⟨.ref _, _, I.lnew (t' := s.toks) (rv.append rv2) (by rw [List.length_append, ← vp.length, ← vq.length]; exact sz_of hl), rfl, q_lst hr (vp.append vq) g _ I.fresh⟩
      · cases ez
    | _ => cases ez
  | _ => cases ez
theorem o_sub : OpR X (binaryOp .Sub) (rM X.K G subM) := opr_of fun pins s σ H v u Q r M x y z vx vy I rx ry e hr va vb ez g => by
  subst e
  cases x with
  | int i =>
    obtain rfl := va.int_inv
    cases y with
    | int j =>
      obtain rfl := vb.int_inv
      cases ez
      exact op_sub pins s σ r.H _ _ v u Q I rx ry ⟨i, j, rfl, rfl, q_int hr g⟩
    | _ => cases ez
  | _ => cases ez
theorem o_mod : OpR X (binaryOp .Mod) (rM X.K G modM) := opr_of fun pins s σ H v u Q r M x y z vx vy I rx ry e hr va vb ez g => by
  subst e
  cases x with
  | int i =>
    obtain rfl := va.int_inv
    cases y with
    | int j =>
      obtain rfl := vb.int_inv
      simp only [modM] at ez
      split at ez
      · rename_i hj
        cases ez
        exact op_modN pins s σ r.H _ _ v u Q I rx ry ⟨i, j, rfl, rfl, hj, q_int hr g⟩
      · cases ez
    | _ => cases ez
  | _ => cases ez
theorem o_fdiv : OpR X (binaryOp .FloorDiv) (rM X.K G fdivM) := opr_of fun pins s σ H v u Q r M x y z vx vy I rx ry e hr va vb ez g => by
  subst e
  cases x with
  | int i =>
    obtain rfl := va.int_inv
    cases y with
    | int j =>
      obtain rfl := vb.int_inv
      simp only [fdivM] at ez
      split at ez
      · rename_i hj
        cases ez
        exact op_fdivN pins s σ r.H _ _ v u Q I rx ry ⟨i, j, rfl, rfl, hj, q_int hr g⟩
      · cases ez
    | _ => cases ez
  | _ => cases ez
theorem cmp_of {op : CmpOp} {f : Int → Int → Bool} (h : OpR X (compareOp op) (rI0 fun i j => .bl (f i j))) : OpR X (compareOp op) (rM X.K G (cmpM f)) := opr_of fun pins s σ H v u Q r M x y z vx vy I rx ry e hr va vb ez g => by
  subst e
  cases x with
  | int i =>
    obtain rfl := va.int_inv
    cases y with
    | int j =>
      obtain rfl := vb.int_inv
      cases ez
      exact h pins s σ r.H _ _ v u Q I rx ry ⟨i, j, rfl, rfl, q_bl hr g⟩
    | _ => cases ez
  | _ => cases ez
theorem o_lt : OpR X (compareOp .Lt) (rM X.K G ltM) := (show ltM = cmpM (fun x y => decide (x < y)) from by unfold ltM; congr; funext x y; congr) ▸ cmp_of op_lt
theorem o_le : OpR X (compareOp .LtE) (rM X.K G leM) := (show leM = cmpM (fun x y => decide (x ≤ y)) from by unfold leM; congr; funext x y; congr) ▸ cmp_of op_le
theorem o_gt : OpR X (compareOp .Gt) (rM X.K G gtM) := (show gtM = cmpM (fun x y => decide (y < x)) from by unfold gtM; congr; funext x y; congr) ▸ cmp_of op_gt
theorem o_ge : OpR X (compareOp .GtE) (rM X.K G geM) := (show geM = cmpM (fun x y => decide (y ≤ x)) from by unfold geM; congr; funext x y; congr) ▸ cmp_of op_ge
end
end Mv

set_option Elab.async false
set_option linter.all false
set_option maxRecDepth 100000
set_option autoImplicit false
set_option maxHeartbeats 1000000
/-! MvL: equality, membership, products, items, slices. -/
namespace Mv
open PySem PySem.Spec PyProof.Rows L2
/-! ### data -/
mutual
def toD : MV → PyData
  | .int i => .int i
  | .str s => .str ⟨s.toArray⟩
  | .bl b => .bool b
  | .tup xs => .tuple (toDs xs)
  | .lst xs => .list (toDs xs)
  | _ => .none
def toDs : List MV → List PyData
  | [] => []
  | x :: xs => toD x :: toDs xs
end
mutual
theorem VR.dp {K : PySem.W.Frag} {L H : Hp} {m : List Addr} (sm : Same L H) : ∀ {x : MV} {v : V}, x.plain = true → VR K L m x v → Dp K H v (toD x)
  | .non, _, _, h => by cases h.non_inv; exact .non
  | .int i, _, _, h => by cases h.int_inv; exact .int i
  | .str s, _, _, h => by cases h.str_inv; exact .str _
  | .bl _, _, p, _ => by simp [MV.plain] at p
  | .dct _ _, _, p, _ => by simp [MV.plain] at p
  | .ref _, _, p, _ => by simp [MV.plain] at p
  | .scr _, _, p, _ => by simp [MV.plain] at p
  | .tup xs, _, p, h => by
    obtain ⟨a, vs, e, q, t⟩ := h.tup_inv
    subst e
    exact .tup (same_t sm q) (VRs.dp sm (by simpa [MV.plain] using p) t)
  | .lst xs, _, p, h => by
    obtain ⟨a, vs, e, q, t⟩ := h.lst_inv
    subst e
    exact .lst (.inl (same_rd sm q)) (VRs.dp sm (by simpa [MV.plain] using p) t)
theorem VRs.dp {K : PySem.W.Frag} {L H : Hp} {m : List Addr} (sm : Same L H) : ∀ {x : List MV} {v : List V}, MV.plains x = true → VRs K L m x v → DpAll K H v (toDs x)
  | [], _, _, h => by cases h.nil_inv; exact .nil
  | x :: xs, _, p, h => by
    obtain ⟨y, ys, e, h1, h2⟩ := h.cons_inv
    subst e
    simp only [MV.plains, Bool.and_eq_true] at p
    exact .cons (VR.dp sm p.1 h1) (VRs.dp sm p.2 h2)
end
mutual
theorem toD_lay : ∀ {x : MV}, x.plain = true → (toD x).canLay0 = true
  | .non, _ => by simp [toD, PyData.canLay0]
  | .int i, _ => by simp [toD, PyData.canLay0]
  | .str s, p => by
    simp only [MV.plain, List.all_eq_true, decide_eq_true_eq] at p
    simp only [toD, PyData.canLay0, PyData.strOk]
    rw [Array.all_eq_true_iff_forall_mem]
    intro c hc
    exact decide_eq_true (p c (by simpa using hc))
  | .bl _, p => by simp [MV.plain] at p
  | .dct _ _, p => by simp [MV.plain] at p
  | .ref _, p => by simp [MV.plain] at p
  | .scr _, p => by simp [MV.plain] at p
  | .tup xs, p => by simp only [toD, PyData.canLay0]; exact toDs_lay (by simpa [MV.plain] using p)
  | .lst xs, p => by simp only [toD, PyData.canLay0]; exact toDs_lay (by simpa [MV.plain] using p)
theorem toDs_lay : ∀ {x : List MV}, MV.plains x = true → PyData.canLayAll0 (toDs x) = true
  | [], _ => by simp [toDs, PyData.canLayAll0]
  | x :: xs, p => by
    simp only [MV.plains, Bool.and_eq_true] at p
    simp only [toDs, PyData.canLayAll0, Bool.and_eq_true]
    exact ⟨toD_lay p.1, toDs_lay p.2⟩
end
mutual
theorem toD_dep : ∀ x : MV, (toD x).depth = x.dep
  | .non => by simp [toD, PyData.depth, MV.dep]
  | .int i => by simp [toD, PyData.depth, MV.dep]
  | .str s => by simp [toD, PyData.depth, MV.dep]
  | .bl _ => by simp [toD, PyData.depth, MV.dep]
  | .dct _ _ => by simp [toD, PyData.depth, MV.dep]
  | .ref _ => by simp [toD, PyData.depth, MV.dep]
  | .scr _ => by simp [toD, PyData.depth, MV.dep]
  | .tup xs => by simp only [toD, PyData.depth, MV.dep]; rw [toDs_dep xs]
  | .lst xs => by simp only [toD, PyData.depth, MV.dep]; rw [toDs_dep xs]
theorem toDs_dep : ∀ x : List MV, PyData.depthAll (toDs x) = MV.deps x
  | [] => by simp [toDs, PyData.depthAll, MV.deps]
  | x :: xs => by simp only [toDs, PyData.depthAll, MV.deps]; rw [toD_dep x, toDs_dep xs]
end
theorem str_eq (a b : List Nat) : ((⟨a.toArray⟩ : Str) == ⟨b.toArray⟩) = (a == b) := by
  rw [Bool.eq_iff_iff, beq_iff_eq, beq_iff_eq]
  exact ⟨fun e => by simpa using e, fun e => by rw [e]⟩
mutual
theorem toD_eqv : ∀ x y : MV, x.plain = true → y.plain = true → PyData.eqv (toD x) (toD y) = MV.beq x y
  | .non, y, _, q => by cases y <;> simp [toD, PyData.eqv, MV.beq, MV.plain] at q ⊢
  | .int i, y, _, q => by cases y <;> simp [toD, PyData.eqv, MV.beq, MV.plain] at q ⊢
  | .str s, y, _, q => by cases y <;> simp [toD, PyData.eqv, MV.beq, MV.plain, str_eq] at q ⊢
  | .bl _, y, p, _ => by simp [MV.plain] at p
  | .dct _ _, y, p, _ => by simp [MV.plain] at p
  | .ref _, y, p, _ => by simp [MV.plain] at p
  | .scr _, y, p, _ => by simp [MV.plain] at p
  | .tup xs, y, p, q => by
    cases y with
    | tup ys => simp only [toD, PyData.eqv, MV.beq]; exact toDs_eqv xs ys (by simpa [MV.plain] using p) (by simpa [MV.plain] using q)
    | _ => simp [toD, PyData.eqv, MV.beq, MV.plain] at q ⊢
  | .lst xs, y, p, q => by
    cases y with
    | lst ys => simp only [toD, PyData.eqv, MV.beq]; exact toDs_eqv xs ys (by simpa [MV.plain] using p) (by simpa [MV.plain] using q)
    | _ => simp [toD, PyData.eqv, MV.beq, MV.plain] at q ⊢
theorem toDs_eqv : ∀ x y : List MV, MV.plains x = true → MV.plains y = true → PyData.eqvAll (toDs x) (toDs y) = MV.beqs x y
  | [], y, _, _ => by cases y <;> simp [toDs, PyData.eqvAll, MV.beqs]
  | x :: xs, y, p, q => by
    cases y with
    | nil => simp [toDs, PyData.eqvAll, MV.beqs]
    | cons y ys =>
      simp only [MV.plains, Bool.and_eq_true] at p q
      simp only [toDs, PyData.eqvAll, MV.beqs]
      rw [toD_eqv x y p.1 q.1, toDs_eqv xs ys p.2 q.2]
end
theorem shaped_of {x : MV} (h : x.plain = true) (d : x.dep ≤ 64) : SeqAt.shaped (toD x) = true := by
  unfold SeqAt.shaped
  rw [toD_lay h, toD_dep]
  simp [d]
theorem beq_dec (x y : MV) : MV.beq x y = decide (x = y) := by
  by_cases h : x = y
  · rw [decide_eq_true h]; exact (MV.beq_iff x y).mpr h
  · rw [decide_eq_false h]
    cases e : MV.beq x y with
    | false => rfl
    | true => exact absurd ((MV.beq_iff x y).mp e) h
section
variable {G : Gs} {X : Cx}
theorem eqM_cases {x y z : MV} (h : eqM x y = some z) : (∃ i j, x = .int i ∧ y = .int j ∧ z = .bl (i == j)) ∨ (∃ i j, x = .str i ∧ y = .str j ∧ z = .bl (i == j)) ∨ (∃ i j, x = .bl i ∧ y = .bl j ∧ z = .bl (i == j)) ∨
    (x.plain = true ∧ y.plain = true ∧ x.dep ≤ 64 ∧ y.dep ≤ 64 ∧ z = .bl (decide (x = y))) := by
  unfold eqM at h
  split at h
  · cases h; exact .inl ⟨_, _, rfl, rfl, rfl⟩
  · cases h; exact .inr (.inl ⟨_, _, rfl, rfl, rfl⟩)
  · cases h; exact .inr (.inr (.inl ⟨_, _, rfl, rfl, rfl⟩))
  · split at h
    · rename_i hc
      cases h
      simp only [Bool.and_eq_true, decide_eq_true_eq] at hc
      exact .inr (.inr (.inr ⟨hc.1.1.1, hc.1.1.2, hc.1.2, hc.2, rfl⟩))
    · cases h
theorem o_eq (hu : X.A.units + 64 < cLine) : OpR X (compareOp .Eq) (rM X.K G eqM) := opr_of fun pins s σ H v u Q r M x y z vx vy I rx ry e hr va vb ez g => by
  subst e
  rcases eqM_cases ez with ⟨i, j, rfl, rfl, rfl⟩ | ⟨i, j, rfl, rfl, rfl⟩ | ⟨i, j, rfl, rfl, rfl⟩ | ⟨p1, p2, d1, d2, rfl⟩
  · obtain rfl := va.int_inv
    obtain rfl := vb.int_inv
    refine op_eq pins s σ r.H _ _ v u Q I rx ry ⟨rfl, ?_⟩
    have : decide (V.int i = V.int j) = (i == j) := by rw [Bool.eq_iff_iff]; simp
    rw [this]
    exact q_bl hr g
  · obtain rfl := va.str_inv
    obtain rfl := vb.str_inv
    refine op_eq pins s σ r.H _ _ v u Q I rx ry ⟨rfl, ?_⟩
    have : decide (V.str ⟨i.toArray⟩ = V.str ⟨j.toArray⟩) = (i == j) := by rw [Bool.eq_iff_iff]; simp
    rw [this]
    exact q_bl hr g
  · obtain rfl := va.bl_inv
    obtain rfl := vb.bl_inv
    refine op_eq pins s σ r.H _ _ v u Q I rx ry ⟨rfl, ?_⟩
    have : decide (V.bl i = V.bl j) = (i == j) := by rw [Bool.eq_iff_iff]; simp
    rw [this]
    exact q_bl hr g
  · refine op_eqD hu pins s σ r.H _ _ v u Q I rx ry ⟨toD x, toD y, va.dp r.L_H p1, vb.dp r.L_H p2, shaped_of p1 d1, shaped_of p2 d2, ?_⟩
    rw [toD_eqv x y p1 p2, beq_dec]
    exact q_bl hr g
theorem o_ne (hu : X.A.units + 64 < cLine) : OpR X (compareOp .NotEq) (rM X.K G neM) := opr_of fun pins s σ H v u Q r M x y z vx vy I rx ry e hr va vb ez g => by
  subst e
  unfold neM at ez
  cases hq : eqM x y with
  | none => rw [hq] at ez; cases ez
  | some w =>
    rw [hq] at ez
    rcases eqM_cases hq with ⟨i, j, rfl, rfl, rfl⟩ | ⟨i, j, rfl, rfl, rfl⟩ | ⟨i, j, rfl, rfl, rfl⟩ | ⟨p1, p2, d1, d2, rfl⟩
    · cases ez
      obtain rfl := va.int_inv
      obtain rfl := vb.int_inv
      refine op_ne pins s σ r.H _ _ v u Q I rx ry ⟨rfl, ?_⟩
      have : decide (V.int i = V.int j) = (i == j) := by rw [Bool.eq_iff_iff]; simp
      rw [this]
      exact q_bl hr g
    · cases ez
      obtain rfl := va.str_inv
      obtain rfl := vb.str_inv
      refine op_ne pins s σ r.H _ _ v u Q I rx ry ⟨rfl, ?_⟩
      have : decide (V.str ⟨i.toArray⟩ = V.str ⟨j.toArray⟩) = (i == j) := by rw [Bool.eq_iff_iff]; simp
      rw [this]
      exact q_bl hr g
    · cases ez
      obtain rfl := va.bl_inv
      obtain rfl := vb.bl_inv
      refine op_ne pins s σ r.H _ _ v u Q I rx ry ⟨rfl, ?_⟩
      have : decide (V.bl i = V.bl j) = (i == j) := by rw [Bool.eq_iff_iff]; simp
      rw [this]
      exact q_bl hr g
    · cases ez
      refine op_neD hu pins s σ r.H _ _ v u Q I rx ry ⟨toD x, toD y, va.dp r.L_H p1, vb.dp r.L_H p2, shaped_of p1 d1, shaped_of p2 d2, ?_⟩
      rw [toD_eqv x y p1 p2, beq_dec]
      exact q_bl hr g
/-! ### in -/
theorem flat_rel {K : PySem.W.Frag} {L : Hp} {m : List Addr} {x : MV} {v : V} (f : flatM x = true) (h : VR K L m x v) : flatV v = true := by
  cases x with
  | non => cases h.non_inv; rfl
  | int i => cases h.int_inv; rfl
  | str s => cases h.str_inv; rfl
  | _ => cases f
theorem flat_eq {K : PySem.W.Frag} {L : Hp} {m : List Addr} {x y : MV} {v w : V} (f : flatM x = true) (k : flatM y = true) (h : VR K L m x v) (q : VR K L m y w) : eqV w v = decide (x = y) := by
  cases x with
  | non =>
    cases h.non_inv
    cases y with
    | non => cases q.non_inv; rfl
    | int i => cases q.int_inv; rfl
    | str s => cases q.str_inv; rfl
    | _ => cases k
  | int i =>
    cases h.int_inv
    cases y with
    | non => cases q.non_inv; rfl
    | int j =>
      cases q.int_inv
      show (j == i) = _
      by_cases e : i = j
      · subst e; simp
      · rw [decide_eq_false (fun z => e (MV.int.inj z))]; exact beq_eq_false_iff_ne.mpr (Ne.symm e)
    | str s => cases q.str_inv; rfl
    | _ => cases k
  | str i =>
    cases h.str_inv
    cases y with
    | non => cases q.non_inv; rfl
    | int j => cases q.int_inv; rfl
    | str s =>
      cases q.str_inv
      show ((⟨s.toArray⟩ : Str) == ⟨i.toArray⟩) = _
      rw [str_eq]
      by_cases e : i = s
      · subst e; simp
      · rw [decide_eq_false (fun z => e (MV.str.inj z))]; exact beq_eq_false_iff_ne.mpr (Ne.symm e)
    | _ => cases k
  | _ => cases f
theorem flat_in {K : PySem.W.Frag} {L : Hp} {m : List Addr} {x : MV} {v : V} (f : flatM x = true) (h : VR K L m x v) : ∀ {ys : List MV} {ws : List V}, ys.all flatM = true → VRs K L m ys ws → ws.all flatV = true ∧ inV v ws = decide (x ∈ ys)
  | [], _, _, q => by cases q.nil_inv; exact ⟨rfl, rfl⟩
  | y :: ys, _, k, q => by
    obtain ⟨w, ws, e, q1, q2⟩ := q.cons_inv
    subst e
    simp only [List.all_cons, Bool.and_eq_true] at k
    obtain ⟨h1, h2⟩ := flat_in f h k.2 q2
    refine ⟨by simp only [List.all_cons, Bool.and_eq_true]; exact ⟨flat_rel k.1 q1, h1⟩, ?_⟩
    unfold inV at h2 ⊢
    rw [List.any_cons, h2, flat_eq f k.1 h q1]
    simp [Bool.eq_iff_iff]
theorem inM_cases {x y z : MV} (h : inM x y = some z) : (∃ c s, x = .str [c] ∧ y = .str s ∧ z = .bl (decide (c ∈ s))) ∨ (∃ ys, (y = .tup ys ∨ y = .lst ys) ∧ flatM x = true ∧ ys.all flatM = true ∧ z = .bl (decide (x ∈ ys))) := by
  unfold inM at h
  split at h
  · cases h; exact .inl ⟨_, _, rfl, rfl, rfl⟩
  · split at h
    · rename_i hc
      cases h
      simp only [Bool.and_eq_true] at hc
      exact .inr ⟨_, .inl rfl, hc.1, hc.2, rfl⟩
    · cases h
  · split at h
    · rename_i hc
      cases h
      simp only [Bool.and_eq_true] at hc
      exact .inr ⟨_, .inr rfl, hc.1, hc.2, rfl⟩
    · cases h
  · cases h
theorem seq_of {K : PySem.W.Frag} {r : Rm} {y : MV} {ys : List MV} {w : V} (h : y = .tup ys ∨ y = .lst ys) (q : VR K r.L r.m y w) : ∃ p ws, w = .ref p ∧ (SqL K r.H p ws ∨ SqT K r.H p ws) ∧ VRs K r.L r.m ys ws := by
  rcases h with rfl | rfl
  · obtain ⟨p, ws, e, a, b⟩ := q.tup_inv
    exact ⟨p, ws, e, .inr (same_t r.L_H a), b⟩
  · obtain ⟨p, ws, e, a, b⟩ := q.lst_inv
    exact ⟨p, ws, e, .inl (.inl (same_rd r.L_H a)), b⟩
theorem o_in : OpR X (compareOp .In) (rM X.K G inM) := opr_of fun pins s σ H v u Q r M x y z vx vy I rx ry e hr va vb ez g => by
  subst e
  rcases inM_cases ez with ⟨c, t, rfl, rfl, rfl⟩ | ⟨ys, hy, f1, f2, rfl⟩
  · obtain rfl := va.str_inv
    obtain rfl := vb.str_inv
    exact op_in_sign pins s σ r.H _ _ v u Q I rx ry ⟨c, _, rfl, rfl, q_bl hr g⟩
  · obtain ⟨p, ws, ew, hs, hv⟩ := seq_of hy vb
    obtain ⟨k1, k2⟩ := flat_in f1 va f2 hv
    refine op_in_seq pins s σ r.H _ _ v u Q I rx ry ⟨p, ws, ew, hs, flat_rel f1 va, k1, ?_⟩
    show Q (.bl (if false = true then _ else _)) _
    rw [if_neg Bool.false_ne_true, k2]
    exact q_bl hr g
theorem o_nin : OpR X (compareOp .NotIn) (rM X.K G ninM) := opr_of fun pins s σ H v u Q r M x y z vx vy I rx ry e hr va vb ez g => by
  subst e
  unfold ninM at ez
  cases hq : inM x y with
  | none => rw [hq] at ez; cases ez
  | some w =>
    rw [hq] at ez
    rcases inM_cases hq with ⟨c, t, rfl, rfl, rfl⟩ | ⟨ys, hy, f1, f2, rfl⟩
    · cases ez
      obtain rfl := va.str_inv
      obtain rfl := vb.str_inv
      exact op_notIn_sign pins s σ r.H _ _ v u Q I rx ry ⟨c, _, rfl, rfl, q_bl hr g⟩
    · cases ez
      obtain ⟨p, ws, ew, hs, hv⟩ := seq_of hy vb
      obtain ⟨k1, k2⟩ := flat_in f1 va f2 hv
      refine op_notIn_seq pins s σ r.H _ _ v u Q I rx ry ⟨p, ws, ew, hs, flat_rel f1 va, k1, ?_⟩
      show Q (.bl (if true = true then _ else _)) _
      rw [if_pos rfl, k2]
      exact q_bl hr g
end
end Mv

set_option Elab.async false
set_option linter.all false
set_option maxRecDepth 100000
set_option autoImplicit false
set_option maxHeartbeats 1000000
/-! MvM: products, items, slices, built-ins, methods of texts. -/
namespace Mv
open PySem PySem.Spec PyProof.Rows L2
section
variable {G : Gs} {X : Cx}
theorem small_pow {a : Int} (h : smallI a = true) : -(2 ^ 64) < a ∧ a < 2 ^ 64 := by
  unfold smallI at h
  simp only [smallI, decide_eq_true_eq] at h
  omega
theorem o_mulI {a b : Int} (h : (smallI a || smallI b) = true) : CMul a b := by
  rcases Bool.or_eq_true_iff.mp h with h | h
  · exact .inl (small_pow h)
  · exact .inr (small_pow h)
theorem o_mul : OpR X (binaryOp .Mult) (rM X.K G mulM) := opr_of fun pins s σ H v u Q r M x y z vx vy I rx ry e hr va vb ez g => by
  subst e
  cases x with
  | int i =>
    obtain rfl := va.int_inv
    cases y with
    | int j =>
      obtain rfl := vb.int_inv
      simp only [mulM] at ez
      split at ez
      · rename_i hj
        cases ez
        exact op_mul pins s σ r.H _ _ v u Q I rx ry ⟨i, j, rfl, rfl, o_mulI hj, q_int hr g⟩
      · cases ez
    | _ => cases ez
  | str t =>
    obtain rfl := va.str_inv
    cases y with
    | int j =>
      obtain rfl := vb.int_inv
      simp only [mulM] at ez
      split at ez
      · rename_i hj
        cases ez
        obtain ⟨h1, h2, h3⟩ := hj
        obtain ⟨t1, rfl⟩ := rx
        obtain ⟨t2, rfl⟩ := ry
        have fold : ∀ (n : Nat) (acc : List Nat), (List.replicate n t.toArray).foldl (· ++ ·) acc.toArray = (acc ++ repM n t).toArray := by
          intro n
          induction n with
          | zero => intro acc; show acc.toArray = (acc ++ []).toArray; rw [List.append_nil]
          | succ n ih =>
            intro acc
            have e1 : repM (n + 1) t = t ++ repM n t := rfl
            have e2 : acc.toArray ++ t.toArray = (acc ++ t).toArray := List.append_toArray ..
            rw [List.replicate_succ, List.foldl_cons, e2, ih, e1, List.append_assoc]
        refine PySem.P.mul_str (by rw [decide_eq_false (by omega), decide_eq_false (by omega)]; rfl) (fun a1 a2 => ?_) (fun a1 a2 => ?_) ?_
        · rw [str_len]
          have h4 : 0 < j := by omega
          have h5 : (t.length : Int) * j ≤ 16777216 := by
            have : ((t.length * j.toNat : Nat) : Int) ≤ 16777216 := Int.ofNat_le.mpr h3
            rw [Int.natCast_mul, Int.toNat_of_nonneg (by omega)] at this
            exact this
          rw [Int.not_lt]
          exact (Int.le_ediv_iff_mul_le h4).mpr (by omega)
        · rw [str_len]
          exact decide_eq_false (by have := sz_of h3; omega)
        · split
          · rename_i hn
            have e : repM j.toNat t = [] := by rw [show j.toNat = 0 by omega]; rfl
            rw [e] at g
            exact ⟨by decide, ⟨.str Str.empty, r.H, I.tok _, ⟨_, rfl⟩, q_str hr g⟩⟩
          · split
            · rename_i hn hk
              have e : repM j.toNat t = t := by
                rcases Bool.or_eq_true_iff.mp hk with z | z
                · have : j.toNat = 1 := by have := beq_iff_eq.mp z; omega
                  rw [this]; simp [repM]
                · rw [str_len] at z
                  have : t = [] := List.eq_nil_of_length_eq_zero (beq_iff_eq.mp z)
                  subst this
                  simp [repM]
              rw [e] at g
              exact ⟨.str _, r.H, I, ⟨_, rfl⟩, q_str hr g⟩
            · have e := fold j.toNat []
              rw [List.nil_append] at e
              rw [show (#[] : Array Nat) = ([] : List Nat).toArray from rfl, e]
              refine ⟨?_, ⟨.str _, r.H, I.tok _, ⟨_, rfl⟩, q_str hr g⟩⟩
              rw [str_len]
              refine sz_of ?_
              have : (repM j.toNat t).length = j.toNat * t.length := by simp [repM, List.length_flatten]
              rw [this, Nat.mul_comm]
              exact h3
      · cases ez
    | _ => cases ez
  | _ => cases ez
/-- one item -/
theorem o_ix : IxR X (rMH X.K G ixM) := by
  intro value slice pins s σ H vx vy v u Q I rx ry ⟨r, M, x, y, z, e, hr, va, vb, ez, g⟩ hs
  subst e
  refine ix_seq value slice pins s σ r.H vx vy v u Q I rx ry ?_ hs
  cases y with
  | int i =>
    obtain rfl := vb.int_inv
    cases x with
    | str t =>
      obtain rfl := va.str_inv
      simp only [ixM] at ez
      split at ez
      · rename_i hl
        cases hc : atM t i with
        | none => rw [hc] at ez; cases ez
        | some c =>
          rw [hc] at ez
          cases ez
          exact .inr (.inr ⟨_, i, c, rfl, rfl, sz_of (by rw [str_len]; exact hl), hc, q_str hr g⟩)
      · cases ez
    | tup xs =>
      obtain ⟨p, vs, e, q1, q2⟩ := va.tup_inv
      obtain ⟨w, e1, vw⟩ := atM_rel q2 ez
      exact .inr (.inl ⟨p, vs, i, w, e, rfl, same_t r.L_H q1, e1, g r w (.refl r) hr vw⟩)
    | lst xs =>
      obtain ⟨p, vs, e, q1, q2⟩ := va.lst_inv
      obtain ⟨w, e1, vw⟩ := atM_rel q2 ez
      exact .inl ⟨p, vs, i, w, e, rfl, .inl (same_rd r.L_H q1), e1, g r w (.refl r) hr vw⟩
    | scr xs =>
      obtain ⟨p, vs, e, q1, q2⟩ := va.scr_inv
      obtain ⟨w, e1, vw⟩ := atM_rel q2 ez
      exact .inl ⟨p, vs, i, w, e, rfl, r.L_H.seq q1, e1, g r w (.refl r) hr vw⟩
    | ref n =>
      simp only [ixM] at ez
      split at ez
      · rename_i xs hM
        obtain ⟨p, e, q⟩ := va.ref_inv
        obtain ⟨vs, e1, q2⟩ := hr.at_ n p _ q hM
        obtain ⟨w, e2, vw⟩ := atM_rel q2 ez
        exact .inl ⟨p, vs, i, w, e, rfl, .inl (.inl e1), e2, g r w (.refl r) hr vw⟩
      · cases ez
    | _ => cases ez
  | _ => cases x <;> cases ez
theorem cutI_eq (n d : Nat) (o : Option Int) : HT.sIx n d o = cutI n d o := by cases o <;> rfl
theorem cutV_rel {K : PySem.W.Frag} {L : Hp} {m : List Addr} {xs : List MV} {vs : List V} {lo hi : Option Int} (h : VRs K L m xs vs) : VRs K L m (cutM xs lo hi) (cutV vs lo hi) := by
  unfold cutM cutV
  rw [← h.length, cutI_eq, cutI_eq]
  exact VRs.take _ (VRs.drop _ h)
theorem o_sl : SlR X (rMs3 X.K G slM) := by
  have h := (sl_str (X := X)).or sl_list
  intro pins s σ H vx v vl vu lo hi sl Q I rx hs pl pu ⟨r, M, x, z, e, hr, va, ez, g⟩
  subst e
  refine h pins s σ r.H vx v vl vu lo hi sl Q I rx hs pl pu ?_
  cases x with
  | str t =>
    obtain rfl := va.str_inv
    simp only [slM] at ez
    split at ez
    · rename_i hl
      cases ez
      refine .inl ⟨_, rfl, sz_of (by rw [str_len]; exact hl), ?_⟩
      have e : cutS ⟨t.toArray⟩ lo hi = ⟨(cutM t lo hi).toArray⟩ := by
        unfold cutS cutM
        rw [str_len, cutI_eq, cutI_eq]
      rw [e]
      exact q_str hr g
    · cases ez
  | lst xs =>
    cases ez
    obtain ⟨p, vs, e, q1, q2⟩ := va.lst_inv
    exact .inr ⟨p, vs, e, .inl (same_rd r.L_H q1), fun p hp => q_lst hr (cutV_rel q2) g p hp⟩
  | scr xs =>
    cases ez
    obtain ⟨p, vs, e, q1, q2⟩ := va.scr_inv
    exact .inr ⟨p, vs, e, r.L_H.seq q1, fun p hp => q_lst hr (cutV_rel q2) g p hp⟩
  | _ => cases ez
theorem o_neg : UnR X (unaryOp .USub) (rMV X.K G negM) := by
  intro pins s σ H vx v Q I rx ⟨r, M, x, z, e, hr, va, ez, g⟩
  subst e
  cases x with
  | int i =>
    obtain rfl := va.int_inv
    cases ez
    exact un_neg pins s σ r.H _ v Q I rx ⟨i, rfl, q_int hr g⟩
  | _ => cases ez
theorem o_iadd : OpR X (inplaceOp .Add) (rM X.K G iaddM) := opr_of fun pins s σ H v u Q r M x y z vx vy I rx ry e hr va vb ez g => by
  subst e
  cases x with
  | int i =>
    obtain rfl := va.int_inv
    cases y with
    | int j =>
      obtain rfl := vb.int_inv
      cases ez
      exact iop_add pins s σ r.H _ _ v u Q I rx ry ⟨i, j, rfl, rfl, q_int hr g⟩
    | _ => cases ez
  | _ => cases ez
/-! ### built-ins -/
theorem cal_of {f : Value} {F : MH → List MV → Option MV} (h : ∀ (pins : List (Addr × Obj)) (s : Shared) (σ : L2.St) (us : List Value) (Q : VK) (r : Rm) (M : MH) (xs : List MV) (z : MV) (vs : List V), Inv X pins σ r.H s → Vals vs us → HR X.K G r M → VRs X.K r.L r.m xs vs → F M xs = some z →
    (∀ r' w, Fw r r' → HR X.K G r' M → VR X.K r'.L r'.m z w → Q w r'.H) → wpAny (model X.prog X.w) X.A (call f us) (EP X pins σ Q) X.xe s) : CallR X f (rMs X.K G F) := by
  intro pins s σ H vs us Q I rv ⟨r, M, xs, z, e, hr, va, ez, g⟩
  subst e
  exact h pins s σ us Q r M xs z vs I rv hr va ez g
theorem one_arg {K : PySem.W.Frag} {L : Hp} {m : List Addr} {x : MV} {vs : List V} (h : VRs K L m [x] vs) : ∃ v, vs = [v] ∧ VR K L m x v := h.one_inv
theorem c_len : CallR X (.builtin "len") (rMs X.K G lenM) := cal_of fun pins s σ us Q r M xs z vs I rv hr va ez g => by
  unfold lenM at ez
  split at ez
  · rename_i t
    obtain ⟨v, rfl, vx⟩ := va.one_inv
    obtain rfl := vx.str_inv
    split at ez
    · rename_i hl
      cases ez
      refine call_len pins s σ r.H _ us Q I rv ⟨_, t.length, rfl, ⟨sz_of (by rw [str_len]; exact hl), (str_len t).symm⟩, q_int hr g⟩
    · cases ez
  · rename_i ys
    obtain ⟨v, rfl, vx⟩ := va.one_inv
    obtain ⟨p, ws, rfl, q1, q2⟩ := vx.tup_inv
    cases ez
    exact call_len pins s σ r.H _ us Q I rv ⟨_, ys.length, rfl, .inr ⟨ws, same_t r.L_H q1, q2.length⟩, q_int hr g⟩
  · rename_i ys
    obtain ⟨v, rfl, vx⟩ := va.one_inv
    obtain ⟨p, ws, rfl, q1, q2⟩ := vx.lst_inv
    cases ez
    exact call_len pins s σ r.H _ us Q I rv ⟨_, ys.length, rfl, .inl ⟨ws, .inl (same_rd r.L_H q1), q2.length⟩, q_int hr g⟩
  · rename_i ys
    obtain ⟨v, rfl, vx⟩ := va.one_inv
    obtain ⟨p, ws, rfl, q1, q2⟩ := vx.scr_inv
    cases ez
    exact call_len pins s σ r.H _ us Q I rv ⟨_, ys.length, rfl, .inl ⟨ws, r.L_H.seq q1, q2.length⟩, q_int hr g⟩
  · rename_i n
    obtain ⟨v, rfl, vx⟩ := va.one_inv
    split at ez
    · rename_i ys hM
      obtain ⟨p, rfl, q⟩ := vx.ref_inv
      obtain ⟨ws, e1, q2⟩ := hr.at_ n p _ q hM
      cases ez
      exact call_len pins s σ r.H _ us Q I rv ⟨_, ys.length, rfl, .inl ⟨ws, .inl (.inl e1), q2.length⟩, q_int hr g⟩
    · cases ez
  · cases ez
theorem c_abs : CallR X (.builtin "abs") (rMs X.K G absM) := cal_of fun pins s σ us Q r M xs z vs I rv hr va ez g => by
  unfold absM at ez
  split at ez
  · rename_i i
    obtain ⟨v, rfl, vx⟩ := va.one_inv
    obtain rfl := vx.int_inv
    cases ez
    exact call_abs pins s σ r.H _ us Q I rv ⟨i, rfl, q_int hr g⟩
  · cases ez
theorem digs_eq (n : Nat) : digs n = TL.numL n := rfl
theorem c_str : CallR X (.type "str") (rMs X.K G strM) := cal_of fun pins s σ us Q r M xs z vs I rv hr va ez g => by
  unfold strM at ez
  split at ez
  · rename_i i
    obtain ⟨v, rfl, vx⟩ := va.one_inv
    obtain rfl := vx.int_inv
    split at ez
    · rename_i hi
      cases ez
      obtain ⟨n, rfl⟩ : ∃ n : Nat, i = (n : Int) := ⟨i.toNat, by omega⟩
      have hz : ((n : Int)).natAbs.log2 < 1920 := by
        by_cases h0 : ((n : Int)).natAbs = 0
        · rw [h0]; decide
        · exact Nat.lt_trans ((Nat.log2_lt h0).mpr (show ((n : Int)).natAbs < 2 ^ 40 by omega)) (by decide)
      refine call_str_int pins s σ r.H _ us Q I rv ⟨_, rfl, hz, ?_⟩
      have e : (Str.ofString (toString (n : Int)) : Str) = ⟨(digs ((n : Int)).toNat).toArray⟩ := by
        apply TL.ext_tl
        rw [TL.tl_num]
        rfl
      rw [e]
      exact q_str hr g
    · cases ez
  · rename_i t
    obtain ⟨v, rfl, vx⟩ := va.one_inv
    obtain rfl := vx.str_inv
    cases ez
    exact SkE.call_str_str pins s σ r.H _ us Q I rv ⟨_, rfl, q_str hr g⟩
  · cases ez
theorem digsVal_eq (s : List Nat) : digsVal s = NumText.digitsVal s := rfl
theorem c_int : CallR X (.type "int") (rMs X.K G intM) := cal_of fun pins s σ us Q r M xs z vs I rv hr va ez g => by
  unfold intM at ez
  split at ez
  · rename_i i
    obtain ⟨v, rfl, vx⟩ := va.one_inv
    obtain rfl := vx.int_inv
    cases ez
    exact call_int1 pins s σ r.H _ us Q I rv (.inl ⟨i, rfl, q_int hr g⟩)
  · rename_i i
    obtain ⟨v, rfl, vx⟩ := va.one_inv
    obtain rfl := vx.bl_inv
    cases ez
    exact call_int1 pins s σ r.H _ us Q I rv (.inr ⟨i, rfl, q_int hr g⟩)
  · rename_i t
    obtain ⟨v, rfl, vx⟩ := va.one_inv
    obtain rfl := vx.str_inv
    split at ez
    · rename_i hi
      cases ez
      obtain ⟨h1, h2, h3⟩ := hi
      have hd : NumText.AllDigits t := fun c hc => by
        have := List.all_eq_true.mp h2 c hc
        exact of_decide_eq_true this
      have e := intText_digits (x := ⟨t.toArray⟩) (by simpa using hd) (by simpa using h1) (by rw [str_len]; omega)
      refine call_int_str pins s σ r.H _ us Q I rv ⟨_, _, rfl, e, by rw [str_len]; exact h3, ?_⟩
      exact q_int hr g
    · cases ez
  · cases ez
theorem blsM_rel {K : PySem.W.Frag} {L : Hp} {m : List Addr} : ∀ {xs : List MV} {bs : List Bool} {vs : List V}, blsM xs = some bs → VRs K L m xs vs → vs = bs.map V.bl
  | [], bs, _, e, h => by cases e; cases h.nil_inv; rfl
  | x :: xs, bs, _, e, h => by
    obtain ⟨y, ys, rfl, h1, h2⟩ := h.cons_inv
    cases x with
    | bl b =>
      simp only [blsM] at e
      cases hb : blsM xs with
      | none => rw [hb] at e; cases e
      | some cs =>
        rw [hb] at e
        cases e
        rw [blsM_rel hb h2, h1.bl_inv]
        rfl
    | _ => cases e
theorem c_any (hc : X.calm = true) : CallR X (.builtin "any") (rMs X.K G anyM) := cal_of fun pins s σ us Q r M xs z vs I rv hr va ez g => by
  unfold anyM at ez
  split at ez
  · rename_i ys
    obtain ⟨v, rfl, vx⟩ := va.one_inv
    obtain ⟨p, ws, rfl, q1, q2⟩ := vx.lst_inv
    cases hb : blsM ys with
    | none => rw [hb] at ez; cases ez
    | some bs =>
      rw [hb] at ez
      cases ez
      cases blsM_rel hb q2
      exact cr_any hc pins s σ r.H _ us Q I rv ⟨p, bs, rfl, .inl (same_rd r.L_H q1), q_bl hr g⟩
  · cases ez
theorem c_all (hc : X.calm = true) : CallR X (.builtin "all") (rMs X.K G allM) := cal_of fun pins s σ us Q r M xs z vs I rv hr va ez g => by
  unfold allM at ez
  split at ez
  · rename_i ys
    obtain ⟨v, rfl, vx⟩ := va.one_inv
    obtain ⟨p, ws, rfl, q1, q2⟩ := vx.lst_inv
    cases hb : blsM ys with
    | none => rw [hb] at ez; cases ez
    | some bs =>
      rw [hb] at ez
      cases ez
      cases blsM_rel hb q2
      exact cr_all hc pins s σ r.H _ us Q I rv ⟨p, bs, rfl, .inl (same_rd r.L_H q1), q_bl hr g⟩
  · cases ez
end
end Mv

set_option Elab.async false
set_option linter.all false
set_option maxRecDepth 100000
set_option autoImplicit false
set_option maxHeartbeats 1000000
/-! MvN: methods of texts, isinstance, repr, constants of the module. -/
namespace Mv
open PySem PySem.Spec PyProof.Rows L2
section
variable {G : Gs} {X : Cx}
theorem strsM_rel {K : PySem.W.Frag} {L : Hp} {m : List Addr} : ∀ {xs : List MV} {ys : List (List Nat)} {vs : List V}, strsM xs = some ys → VRs K L m xs vs → vs = (ys.map fun y => (⟨y.toArray⟩ : Str)).map V.str
  | [], _, _, e, h => by cases e; cases h.nil_inv; rfl
  | x :: xs, _, _, e, h => by
    obtain ⟨y, ys, rfl, h1, h2⟩ := h.cons_inv
    cases x with
    | str b =>
      simp only [strsM] at e
      cases hb : strsM xs with
      | none => rw [hb] at e; cases e
      | some cs =>
        rw [hb] at e
        cases e
        rw [strsM_rel hb h2, h1.str_inv]
        rfl
    | _ => cases e
theorem joinM_eq (s : List Nat) : ∀ ys : List (List Nat), TL.joinL s ys = joinM s ys
  | [] => rfl
  | [_] => rfl
  | p :: q :: r => by
    show p ++ (s ++ TL.joinL s (q :: r)) = p ++ (s ++ joinM s (q :: r))
    rw [joinM_eq s (q :: r)]
theorem m_join : MtR X "str.join" (rMm X.K G joinV) := by
  intro pins s σ H vx vs v us Q I rx rv ⟨r, M, x, xs, z, e, hr, va, vvs, ez, g⟩
  subst e
  unfold joinV at ez
  split at ez
  · rename_i t ys
    obtain rfl := va.str_inv
    obtain ⟨w, rfl, vw⟩ := vvs.one_inv
    obtain ⟨p, ws, rfl, q1, q2⟩ := vw.lst_inv
    split at ez
    · rename_i zs hz
      split at ez
      · rename_i hl
        cases ez
        cases strsM_rel hz q2
        refine mt_join pins s σ r.H _ _ v us Q I rx rv ⟨_, p, _, rfl, rfl, .inl (.inl (same_rd r.L_H q1)), ?_, ?_⟩
        · rw [List.map_map, List.length_map, str_len]
          have e : (zs.map ((fun y : Str => y.length) ∘ fun y => (⟨y.toArray⟩ : Str))) = zs.map List.length := List.map_congr_left fun y _ => str_len y
          rw [e]
          exact hl
        · have e : Txt.join ⟨t.toArray⟩ (zs.map fun y => (⟨y.toArray⟩ : Str)) = ⟨(joinM t zs).toArray⟩ := by
            apply TL.ext_tl
            rw [TL.join_eq, TL.tl_join, List.map_map]
            have e2 : (zs.map (TL.tl ∘ fun y => (⟨y.toArray⟩ : Str))) = zs := by
              have : (TL.tl ∘ fun y : List Nat => (⟨y.toArray⟩ : Str)) = id := by funext y; rfl
              rw [this, List.map_id]
            rw [e2, joinM_eq]
          rw [e]
          exact q_str hr g
      · cases ez
    · cases ez
  · cases ez
theorem spl_one (c : Nat) : ∀ (l acc : List Nat), TL.spl [c] 0 acc l = splitC c acc l
  | [], acc => rfl
  | x :: l, acc => by
    unfold splitC
    by_cases h : x = c
    · rw [if_pos h, TL.spl_hit (by subst h; simp [TL.pre])]
      show acc :: TL.spl [c] 0 [] l = _
      rw [spl_one c l []]
    · rw [if_neg h, TL.spl_miss (by simp [TL.pre, h])]
      exact spl_one c l _
theorem strs_rel {K : PySem.W.Frag} {L : Hp} {m : List Addr} : ∀ ys : List Str, VRs K L m (ys.map fun y => MV.str (TL.tl y)) (ys.map V.str)
  | [] => .nil
  | y :: ys => .cons (by have := VR.str (K := K) (L := L) (m := m) (TL.tl y); rw [TL.mk_tl] at this; exact this) (strs_rel ys)
theorem m_split : MtR X "str.split" (rMm X.K G splitV) := by
  intro pins s σ H vx vs v us Q I rx rv ⟨r, M, x, xs, z, e, hr, va, vvs, ez, g⟩
  subst e
  unfold splitV at ez
  split at ez
  · rename_i t c
    obtain rfl := va.str_inv
    obtain ⟨w, rfl, vw⟩ := vvs.one_inv
    obtain rfl := vw.str_inv
    split at ez
    · rename_i hl
      cases ez
      refine mt_split pins s σ r.H _ _ v us Q I rx rv ⟨_, _, rfl, rfl, rfl, ?_, fun p hp => ?_⟩
      · rw [str_len, sizeLine_eq]; omega
      · have e : (Txt.split ⟨t.toArray⟩ ⟨#[c]⟩).map TL.tl = splitC c [] t := by
          rw [TL.split_spl _ _ (by simp [TL.tl]) (TL.kind_ok (by simp [hl.2]))]
          exact spl_one c t []
        have e2 : (splitC c [] t).map MV.str = (Txt.split ⟨t.toArray⟩ ⟨#[c]⟩).map fun y => MV.str (TL.tl y) := by
          rw [← e, List.map_map]; rfl
        refine q_lst (xs := (splitC c [] t).map MV.str) hr ?_ g p hp
        rw [e2]
        exact strs_rel _
    · cases ez
  · cases ez
end
section
variable {G : Gs} {ea : Ea} {X : Cx} {W : WX} {pos : Pos} {a b c : Expr} {xa xb xc : Ex MV}
theorem tyN_rel {K : PySem.W.Frag} {r : Rm} {M : MH} {x : MV} {v : V} {t : String} (hr : HR K G r M) (h : VR K r.L r.m x v) (e : tyN M x = some t) : TyX K r.H v (.type t) := by
  cases x with
  | non => cases h.non_inv; cases e; exact .base .non
  | bl b => cases h.bl_inv; cases e; exact .base (.bl b)
  | int b => cases h.int_inv; cases e; exact .base (.int b)
  | str b => cases h.str_inv; cases e; exact .base (.str _)
  | tup xs =>
    cases e
    obtain ⟨p, vs, rfl, q1, q2⟩ := h.tup_inv
    rcases same_t r.L_H q1 with (q | ⟨o, q⟩) | ⟨o, its, n, h1, h2, _⟩
    · exact .base (.tup q)
    · exact .fTuple q
    · exact .kTuple h1 h2
  | lst xs =>
    cases e
    obtain ⟨p, vs, rfl, q1, q2⟩ := h.lst_inv
    rcases same_rd r.L_H q1 with q | ⟨o, q⟩
    · exact .base (.lst q)
    · exact .base (.frz q)
  | dct _ _ => cases e
  | scr _ => cases e
  | ref n =>
    obtain ⟨p, rfl, q⟩ := h.ref_inv
    simp only [tyN] at e
    split at e
    · rename_i ys hM
      cases e
      obtain ⟨vs, e1, _⟩ := hr.at_ n p _ q hM
      exact .base (.lst e1)
    · cases e
/-- isinstance(x, T) -/
theorem pv_isa {T : String} {x : Str} {p p2 : Pos} (ha : PV G ea X W a xa) (hm : X.mg "isinstance" = none) (hmT : X.mg x = none) (hvT : bootBuiltins x = some (.type T)) (hT : (["NoneType", "bool", "int", "str", "tuple", "list"].all fun t => kitB t T == some (t == T || (t == "bool" && T == "int"))) = true := by decide +kernel)
    (hg : Gl X "isinstance" := by rfl) (hgT : Gl X x := by rfl) (hn : x ≠ "__name__" := by decide) (hdb : (x == ("__debug__" : Str)) = false := by decide)
    (hs1 : starEach [a, .Name x p2] X.env = (false, eval a X.env) :: starEach [.Name x p2] X.env := by rfl) (hs2 : starEach [(.Name x p2 : Expr)] X.env = (false, eval (.Name x p2) X.env) :: starEach [] X.env := by rfl)
    (hpl : (backTo pos (starEach [(.Name x p2 : Expr)] X.env)).any (·.1) = false := by rfl) : PV G ea X W (.Call (.Name "isinstance" p) [a, .Name x p2] [] pos) (isaE T xa) := by
  have hty : PE X (.Name x p2) (tC (.ty T)) := pe_bltn hgT hmT hvT rfl hn hdb
  refine ⟨pe_imp (pe_callB call_isi hg hm (by decide +kernel) (pa_cons ha.pe (pa_cons hty pa_nil hs2) hs1) (by decide) (by decide) hs1 hpl) fun σ H Q h => ?_⟩
  refine rd_mono (rd_bind (R := rV X.K) h) fun v H1 ⟨r, x, r1, e, _, vx, h1⟩ => ?_
  subst e
  obtain ⟨f, M, z, hr, ez, g⟩ := rdAt_optH h1
  unfold isaM at ez
  cases ht : tyN M x with
  | none => rw [ht] at ez; cases ez
  | some t =>
    rw [ht] at ez
    cases ez
    refine ⟨v, .ty T, .type t, .type T, _, rfl, .ty T, tyN_rel hr vx ht, kit_ty ?_, g r1 _ f hr (.bl _)⟩
    have mem : t ∈ ["NoneType", "bool", "int", "str", "tuple", "list"] := by
      cases x <;> simp only [tyN] at ht <;> first | (cases ht; done) | (cases ht; decide) | (split at ht <;> first | (cases ht; done) | (cases ht; decide))
    exact beq_iff_eq.mp (List.all_eq_true.mp hT t mem)
end

/-! ### repr -/
mutual
theorem toD_wt : ∀ x : MV, x.plain = true → x.shrt = true → (toD x).weight ≤ x.wt
  | .non, _, _ => by simp [toD, PyData.weight, MV.wt]
  | .int i, _, s => by
    simp only [MV.shrt, decide_eq_true_eq] at s
    simp only [toD, PyData.weight, MV.wt]
    split
    · omega
    · rename_i h
      have h0 : i.natAbs ≠ 0 := fun z => h (by simpa using z)
      have := (Nat.log2_lt h0).mpr (show i.natAbs < 2 ^ 41 by omega)
      omega
  | .str s, _, _ => by simp [toD, PyData.weight, MV.wt]
  | .bl _, p, _ => by simp [MV.plain] at p
  | .dct _ _, p, _ => by simp [MV.plain] at p
  | .ref _, p, _ => by simp [MV.plain] at p
  | .scr _, p, _ => by simp [MV.plain] at p
  | .tup xs, p, s => by simp only [toD, PyData.weight, MV.wt]; exact toDs_wt xs (by simpa [MV.plain] using p) (by simpa [MV.shrt] using s)
  | .lst xs, p, s => by simp only [toD, PyData.weight, MV.wt]; exact toDs_wt xs (by simpa [MV.plain] using p) (by simpa [MV.shrt] using s)
theorem toDs_wt : ∀ x : List MV, MV.plains x = true → MV.shrts x = true → PyData.weightAll (toDs x) ≤ MV.wts x
  | [], _, _ => by simp [toDs, PyData.weightAll, MV.wts]
  | x :: xs, p, s => by
    simp only [MV.plains, Bool.and_eq_true] at p
    simp only [MV.shrts, Bool.and_eq_true] at s
    simp only [toDs, PyData.weightAll, MV.wts]
    have h1 := toD_wt x p.1 s.1
    have h2 := toDs_wt xs p.2 s.2
    omega
end
mutual
theorem toD_short : ∀ x : MV, x.plain = true → x.shrt = true → (toD x).intsShort 13 = true ∧ (toD x).showable = true
  | .non, _, _ => by simp [toD, PyData.intsShort, PyData.showable]
  | .int i, _, s => by
    simp only [MV.shrt, decide_eq_true_eq] at s
    simp only [toD, PyData.intsShort, PyData.showable, decide_eq_true_eq]
    refine ⟨PyData.shown_int_le (by omega), ?_⟩
    by_cases h0 : i.natAbs = 0
    · rw [h0]; decide
    · exact Nat.lt_trans ((Nat.log2_lt h0).mpr (show i.natAbs < 2 ^ 41 by omega)) (by decide)
  | .str s, _, _ => by simp [toD, PyData.intsShort, PyData.showable]
  | .bl _, p, _ => by simp [MV.plain] at p
  | .dct _ _, p, _ => by simp [MV.plain] at p
  | .ref _, p, _ => by simp [MV.plain] at p
  | .scr _, p, _ => by simp [MV.plain] at p
  | .tup xs, p, s => by simp only [toD, PyData.intsShort, PyData.showable]; exact toDs_short xs (by simpa [MV.plain] using p) (by simpa [MV.shrt] using s)
  | .lst xs, p, s => by simp only [toD, PyData.intsShort, PyData.showable]; exact toDs_short xs (by simpa [MV.plain] using p) (by simpa [MV.shrt] using s)
theorem toDs_short : ∀ x : List MV, MV.plains x = true → MV.shrts x = true → PyData.intsShortAll 13 (toDs x) = true ∧ PyData.showableAll (toDs x) = true
  | [], _, _ => by simp [toDs, PyData.intsShortAll, PyData.showableAll]
  | x :: xs, p, s => by
    simp only [MV.plains, Bool.and_eq_true] at p
    simp only [MV.shrts, Bool.and_eq_true] at s
    simp only [toDs, PyData.intsShortAll, PyData.showableAll, Bool.and_eq_true]
    have h1 := toD_short x p.1 s.1
    have h2 := toDs_short xs p.2 s.2
    exact ⟨⟨h1.1, h2.1⟩, h1.2, h2.2⟩
end
/-- what repr writes -/
def rho (x : MV) : List Nat := TL.tl (toD x).shown
section
variable {G : Gs} {ea : Ea} {X : Cx} {W : WX} {pos : Pos} {a b c : Expr} {xa xb xc : Ex MV}
theorem pv_repr {p : Pos} (ha : PV G ea X W a xa) (hm : X.mg "repr" = none) (hgd : X.A.guards = some []) (hu : X.A.units + 64 < cLine) (hg : Gl X "repr" := by rfl) (hs1 : starEach [a] X.env = (false, eval a X.env) :: starEach [] X.env := by rfl)
    (hpl : (backTo pos (starEach [] X.env)).any (·.1) = false := by rfl) : PV G ea X W (.Call (.Name "repr" p) [a] [] pos) (reprE rho xa) := by
  have hc : CallR X (.builtin "repr") (rMs X.K G (fun _ xs => match xs with | [x] => reprM rho x | _ => none)) := by
    intro pins s σ H vs us Q I rv ⟨r, M, xs, z, e, hr, va, ez, g⟩
    subst e
    dsimp only at ez
    split at ez
    · rename_i x
      obtain ⟨v, rfl, vx⟩ := va.one_inv
      unfold reprM at ez
      split at ez
      · rename_i hc
        cases ez
        simp only [Bool.and_eq_true, decide_eq_true_eq] at hc
        obtain ⟨⟨⟨p1, p2⟩, p3⟩, p4⟩ := hc
        obtain ⟨u, rfl, ru⟩ := vals1 rv
        obtain ⟨as, rds⟩ := Dp.reads I (toD x) v u (vx.dp r.L_H p1) ru
        have lay : PyData.layable0 (toD x) = true := by
          unfold PyData.layable0
          have := toD_wt x p1 p2
          rw [toD_lay p1, toD_dep]
          simp only [Bool.true_and, Bool.and_eq_true, decide_eq_true_eq]
          omega
        obtain ⟨s1, s2⟩ := toD_short x p1 p2
        have fits := PyData.shown_fits_of_layable0 (by decide) (by decide) lay s1
        have nd : (toD x).hasDict = true → sysModules ∉ as := PyData.noDict_hsm (PyData.hasDict_of_canLay _ (toD_lay p1))
        have hk : ∀ b o, s.heap.get? b = some o → s.heap.get? b = some o := fun _ _ z => z
        have fin : ∀ (h' : Heap) (t : Tok) (tk : Nat), (∀ b o, s.heap.get? b = some o → h'.get? b = some o) → EP X pins σ Q (.str (toD x).shown t) { s with heap := h', toks := tk } := fun h' t tk k =>
          ⟨.str (toD x).shown, r.H, I.kept k, ⟨t, rfl⟩, by have := g r (.str ⟨(rho x).toArray⟩) (.refl r) hr (.str _); unfold rho at this; rw [TL.mk_tl] at this; exact this⟩
        have hd : X.A.units + ((toD x).depth + 1) < cLine := by rw [toD_dep]; omega
        cases x with
        | non => cases vx.non_inv; cases ru; exact PySem.P.repr_of_none (fin s.heap _ _ hk)
        | int i =>
          cases vx.int_inv
          obtain ⟨t, rfl⟩ := ru
          exact PySem.P.repr_of_int (by simpa [toD, PyData.showable] using s2) (fin s.heap _ _ hk)
        | str z =>
          cases vx.str_inv
          obtain ⟨t, rfl⟩ := ru
          exact PySem.P.repr_of_str (fin s.heap _ _ hk) (by simpa [toD, PyData.shown] using fits)
        | tup xs =>
          obtain ⟨p, ws, rfl, _, _⟩ := vx.tup_inv
          cases ru
          exact PySem.repr_of_reads' rds s2 nd hgd hd hk (fun h' t tk k => fin h' t tk k) fits
        | lst xs =>
          obtain ⟨p, ws, rfl, _, _⟩ := vx.lst_inv
          cases ru
          exact PySem.repr_of_reads' rds s2 nd hgd hd hk (fun h' t tk k => fin h' t tk k) fits
        | _ => simp [MV.plain] at p1
      · cases ez
    · cases ez
  refine ⟨pe_imp (pe_callB hc hg hm (by decide +kernel) (pa_cons ha.pe pa_nil hs1) (by decide) (by decide) hs1 hpl) fun σ H Q h => ?_⟩
  refine rd_mono (rd_bind (R := rV X.K) h) fun v H1 ⟨r, x, r1, e, _, vx, h1⟩ => ?_
  subst e
  obtain ⟨f, M, z, hr, ez, g⟩ := rdAt_opt h1
  exact ⟨r1, M, [x], z, rfl, hr, .cons vx .nil, ez, fun r' u f2 => g r' u (f.trans f2)⟩
end
end Mv

set_option Elab.async false
set_option linter.all false
set_option maxRecDepth 100000
set_option autoImplicit false
set_option maxHeartbeats 1000000
/-! MvO: an error's __init__; the law's own call; the end. -/
namespace Mv
open PySem PySem.Spec PyProof.Rows L2
section
variable {X : Cx} {e : Expr} {es : List Expr} {ta : TA} {x : Str} {p1 p2 pos : Pos} {CL : Addr}
/-- B.__init__(self, ..), B an own error class without an __init__ of its own -/
theorem pe_binit {pl : Sem Bool} (hg : Gl X x) (hm : X.mg x = some (.ref CL)) (hs : PySem.W.specialIn X.K (.ref CL) "__getattribute__" = some (some (.builtin "type.__getattribute__"))) (hr : PySem.W.readsIn X.K CL (.type "type") = true)
    (hf : PySem.W.findCls X.K (.ref CL) (.type "type") "__init__" = some (.val (.builtin "ValueError.__init__"))) (ha : PA X (e :: es) ta) (hdb : (x == ("__debug__" : Str)) = false := by decide)
    (hc : eval (.Call (.Attribute (.Name x p1) "__init__" p2) (e :: es) [] pos) X.env = (do
      let ov ← eval (.Name x p1) X.env
      standAt p2.atName
      let (f, first) ← holding [ov] (getMethod ov "__init__" pl)
      callWith pos f first (backTo pos (starEach (e :: es) X.env)) (backToKw pos (keywordEach [] X.env))) := by rfl)
    (he : starEach (e :: es) X.env = (false, eval e X.env) :: starEach es X.env := by rfl) (hpl : (backTo pos (starEach es X.env)).any (·.1) = false := by rfl) :
    PE X (.Call (.Attribute (.Name x p1) "__init__" p2) (e :: es) [] pos) (tVeI X.K ta) := by
  refine ⟨fun pins s σ H Q I h => PySem.W.methodCall_KW (ld_glob I hg hm ?_ hdb) hc⟩
  refine PySem.W.method_cls I.kIn hs (PySem.W.cls_value I.kIn hr hf (by decide +kernel) ?_)
  show wpAny _ _ (callWith pos (Value.builtin "ValueError.__init__") [] (backTo pos (starEach (e :: es) X.env)) []) _ _ _
  refine PyProof.Rows.callWith_method1 (thn (ha.run pos pins _ σ H _ (I.tok _) h) fun us s1 hh => ?_) he hpl
  obtain ⟨vs, H1, I1, r1, a, C, ws, ev, hl, T, ea, q⟩ := hh
  subst ev
  cases r1 with
  | @cons _ u0 _ ur r0 rr =>
    cases r0
    refine oinit_ok T I1 ea ?_ fun s' J => ⟨.non, H1, J, rfl, q⟩
    rw [← Paired.length rr]
    exact sz_of (by omega)
end
section
variable {P : Program} {w : World} {K : PySem.W.Frag} {mg : Str → Option Value} {base : Heap}
/-- what the top says of the base class B (at CL) and of an error C over it with fields ns -/
structure ErrTxt (K : PySem.W.Frag) (mg : Str → Option Value) (x : Str) (CL : Addr) : Prop where
  gl : mg x = some (.ref CL)
  sp : PySem.W.specialIn K (.ref CL) "__getattribute__" = some (some (.builtin "type.__getattribute__"))
  rd : PySem.W.readsIn K CL (.type "type") = true
  fc : PySem.W.findCls K (.ref CL) (.type "type") "__init__" = some (.val (.builtin "ValueError.__init__"))
/-- __init__(self, f): B.__init__(self, '..'); self.f = f -/
theorem err_len {C : Addr} {ns : List Str} {vs : List V} {H : Hp} {Q : VK} {E : XK} {n : Nat} (h : spErr C ns vs H Q E) (hn : ns.length + 1 = n) : vs.length = n := by
  obtain ⟨a, us, e, hl, _⟩ := h
  rw [e, List.length_cons, hl, hn]
theorem err_one {f y m : Str} {C : Addr} {vs : List V} {H : Hp} {Q : VK} {E : XK} (O : OexC K C) (nf : PySem.W.findIn K (.ref C) f = some none) (hsp : spErr C [f] vs H Q E) :
    tSeq (tDrop (tVeI K (tCons (tVar 0) (tCons (tC (.str m)) tNil)))) (tOst K f (tVar 0) (tVar 1)) { nx := fun _ H' => Q .non H', rt := Q } (L2.start ["self", y] vs) H := by
  obtain ⟨a, us, e, hl, ea, k⟩ := hsp
  obtain ⟨v, rfl⟩ : ∃ v, us = [v] := by
    cases us with
    | nil => cases hl
    | cons v r => cases r with
      | nil => exact ⟨v, rfl⟩
      | cons _ _ => cases hl
  subst e
  refine ⟨_, rfl, a, C, _, rfl, (by show 1 ≤ 1000; decide), O, ea, ?_⟩
  refine ⟨_, rfl, _, rfl, a, C, rfl, O, nf, .inl ⟨ea, fun dx n1 n2 => ?_⟩⟩
  refine k dx [(f, v)] _ n1 n2 upd_same ((upd_ne n2).trans upd_same) (fun i g hi => ?_) fun b hb1 hb2 => (upd_ne hb1).trans (upd_ne hb2)
  cases i with
  | zero =>
    simp at hi
    subst hi
    simp [List.lookup]
  | succ i => simp at hi

/-- the law's own call, from the caller itself -/
def LawOk (P : Program) (w : World) (K : PySem.W.Frag) (mg : Str → Option Value) (base : Heap) (G : Gs) (fa : Addr) (fd : FuncData) (x : Str) (g : List MV → MH → Out MV) : Prop :=
  ∀ (s : Shared) (H : Hp) (u : Value) (v : V) (Q : VK) (E : XK), Env0 P w K mg base callerA [] s H → BindsTo s fd ⟨[u], []⟩ [(x, u)] → RelV v u → spM K G g [v] H Q E → codeAny (model P w) callerA (.call (.ref fa) ⟨[u], []⟩) (CR (L2.CX P w) [] P w H s Q E) s
theorem law_ok {x qual : Str} {st : Stmt} {f : Addr} {fd : FuncData} {N : List Str} {y : Str} {k : Nat} {G : Gs} {b : Cm} (F : Fun K x qual st f fd) (Sc : FnScope N [y] (defScope st)) (hN : 1 ≤ N.length) (hroom : Room (k + 1) callerA)
    (body : ∀ (cdv : Value) (s : Shared) (H : Hp) (E : XK), Room k (callerA.deeper (envOfC qual (defScope st) s.heap.objs.size f cdv)) →
      PVs G none (cxOf (L2.CX P w) P w K mg base N qual (defScope st) f cdv callerA [] s H E) (fun cls d _ H => E cls d H) (defBody st) b) : LawOk P w K mg base G f fd y (finC N.length 1 b) := by
  intro s H u v Q E e0 hbind rv ⟨r, M, args, e, hr, va, g⟩
  subst e
  unfold finC at g
  split at g
  case isFalse => exact g.elim
  rename_i hl
  obtain ⟨oc, od, kV, doc, pm, an, cdv, ct, osl, rfl, lk, hcd⟩ := F.ex
  have KX : K.In s.heap := e0.mod.kin.keeps fun b o q => (e0.bs b o q).1
  have lim : s.heap.NoLimit := e0.mod.nolimit.keeps fun b o q => (e0.bs b o q).1
  refine codeAny_call_function hroom.depth (KX _ _ lk) rfl Sc.co Sc.gen rfl (PySem.W.codeRec_of KX hcd) (hbind _ _ _ _ ?_)
  refine wpAny_newFunctionEnv_cells Sc.kind (fun z hz => ?_) fun env he s1 xx => ?_
  · obtain rfl := List.mem_singleton.mp hz
    rcases Sc.par y (by simp) with q | q
    · exact .inl q
    · exact .inr ⟨q, PySem.W.cellsFrom_some _ _ _ (.inl q)⟩
  subst he
  refine ⟨lim.keeps xx.toInCall.keep, codeAny_func ?_⟩
  have I := inv_start (E := E) (mg := mg) (CX := L2.CX P w) (N := N) (ps := [y]) (us := [u]) (vs := [v]) Sc hroom.hd e0 rfl (.cons rv .nil) xx
  have bd := (body cdv s r.H E (hroom.deeper _)).ps r
  obtain ⟨a1, rfl⟩ : ∃ a1, args = [a1] := by
    cases args with
    | nil => cases hl
    | cons a1 rest => cases rest with
      | nil => exact ⟨a1, rfl⟩
      | cons _ _ => cases hl
  obtain ⟨w1, hw, vw⟩ := va.one_inv
  cases hw
  have hsr : SRE K G none r r (([a1].map Mv.Slot.val) ++ List.replicate (N.length - 1) Mv.Slot.non) (L2.start N [v]) := by
    have nonown : ∀ (i : Nat) (sl : Mv.Slot), (([a1].map Mv.Slot.val) ++ List.replicate (N.length - 1) Mv.Slot.non)[i]? = some sl → sl = .non ∨ (i = 0 ∧ sl = .val a1) := fun i sl q => by
      cases i with
      | zero => simp at q; exact .inr ⟨rfl, q.symm⟩
      | succ i =>
        simp only [List.map_cons, List.map_nil, List.cons_append, List.nil_append, List.getElem?_cons_succ] at q
        exact .inl (List.eq_of_mem_replicate (List.mem_of_getElem? q))
    refine ⟨⟨?_, fun i z q => ?_, fun i xs q => ?_, fun i j xs ys a q _ _ _ => ?_, fun i c fs p q _ => ?_⟩, .refl r, fun i xs a q _ => ?_⟩
    · unfold L2.start; simp
    · rcases nonown i _ q with z2 | ⟨rfl, z2⟩
      · cases z2
      · cases z2; exact ⟨v, rfl, vw⟩
    · rcases nonown i _ q with z2 | ⟨_, z2⟩ <;> cases z2
    · rcases nonown i _ q with z2 | ⟨_, z2⟩ <;> cases z2
    · rcases nonown i _ q with z2 | ⟨_, z2⟩ <;> cases z2
    · rcases nonown i _ q with z2 | ⟨_, z2⟩ <;> cases z2
  have hrd : rdS K G none (fun cls d _ H => E cls d H) b r { nx := fun _ H' => Q .non H', rt := Q } (L2.start N [v]) r.H := by
    refine ⟨r, rfl, .refl r, _, M, hsr, hr, ?_⟩
    cases hb : b (([a1].map Mv.Slot.val) ++ List.replicate (N.length - 1) Mv.Slot.non) M with
    | nx S' M' => rw [hb] at g; exact fun r' σ' l sr hr' => g r' .non sr.fw hr' .non
    | rt v M' => rw [hb] at g; exact fun r' w' f' hr' vw => g r' w' f' hr' vw
    | bk S' M' => rw [hb] at g; exact g.elim
    | ct S' M' => rw [hb] at g; exact g.elim
    | exc c fs S' M' => rw [hb] at g; exact fun r' σ' d _ sr hr' xr => g r' d sr.fw hr' xr
    | bad => rw [hb] at g; exact g.elim
  refine wpAny_mono (bd.run [] s1 _ r.H _ I hrd) (fun fl s' hs => ?_) fun e s' hs => hs
  cases fl with
  | ret u =>
    obtain ⟨v, σ', H', J, rv, q⟩ := hs
    exact ⟨v, H', J.os, J.bare, J.base, J.hok, rv, q⟩
  | next =>
    obtain ⟨σ', H', J, q⟩ := hs
    exact ⟨V.non, H', J.os, J.bare, J.base, J.hok, rfl, q⟩
  | brk =>
    obtain ⟨_, _, _, q⟩ := hs
    exact q.elim
  | cont =>
    obtain ⟨_, _, _, q⟩ := hs
    exact q.elim
/-- the law gives True -/
def Gives (g : List MV → MH → Out MV) (n : Nat) : Prop := ∀ ns : List Int, ns.length ≤ n → ∃ M', g [.scr (ns.map MV.int)] [] = .ok (.bl true) M'
theorem sp_law {G : Gs} {g : List MV → MH → Out MV} {n : Nat} (hg : Gives g n) {H : Hp} {a : Addr} {ns : List Int} (hl : ns.length ≤ n) (hO : Only H) (hS : SqL K H a (ns.map V.int)) : spM K G g [.ref a] H (fun v _ => v = .bl true) fun _ _ _ => False := by
  obtain ⟨M', e⟩ := hg ns hl
  have key : ∀ F : Addr → Prop, (∀ b, F b → ∃ o, H b = some o) → SqL K (Rm.L ⟨F, [], H⟩) a (ns.map V.int) → spM K G g [.ref a] H (fun v _ => v = .bl true) fun _ _ _ => False := fun F hF hS' => by
    refine ⟨⟨F, [], H⟩, [], [.scr (ns.map MV.int)], rfl, ⟨List.nodup_nil, hF, fun _ z => (nomatch z), rfl, fun n b ob z => by simp at z⟩, .cons (.scr hS' (VRs.ints ns)) .nil, ?_⟩
    rw [e]
    exact fun r' w' _ _ vw => vw.bl_inv
  rcases hS with hS | hS
  · refine key (fun b => b = a) (fun b e => ?_) (.inl ?_)
    · subst e
      rcases hS with h | ⟨o, h⟩ <;> exact ⟨_, h⟩
    · rcases hS with h | ⟨o, h⟩
      · exact .inl (Rm.L_some.mpr ⟨rfl, h⟩)
      · exact .inr ⟨o, Rm.L_some.mpr ⟨rfl, h⟩⟩
  · exact key (fun _ => False) (fun _ z => z.elim) (.inr hS)
theorem no_cx {H : Hp} {s : Shared} {e : Value} {s' : Shared} (h : L2.CX P w [] H s (fun _ _ _ => False) e s') : False := by
  obtain ⟨_, _, _, _, _, _, _, _, _, _, _, _, z⟩ := h
  exact z
end
end Mv

set_option Elab.async false
set_option linter.all false
set_option maxRecDepth 100000
set_option autoImplicit false
set_option maxHeartbeats 1000000
/-! MvP: from the law's own call to the row. -/
namespace Mv
open PySem PySem.Spec PyProof.Rows L2
/-- from an abstract heap that tracks the script at most: what the call leaves -/
theorem law_core {P : Program} {w : World} {K : PySem.W.Frag} {mg mb : Str → Option Value} {fa a : Addr} {fd : FuncData} {x : Str} {G : Gs} {g : List MV → MH → Out MV} {s₁ : Shared} {vs : List Value} {ns : List Int} {n : Nat} {H : Hp}
    (KX : K.In s₁.heap) (hns : s₁.heap.Ns mainGlobals mg) (hb : s₁.heap.Ns builtinsNs mb) (hbb : ∀ x : Str, x ≠ "__name__" → mb x = bootBuiltins x) (hlim : s₁.heap.NoLimit) (hgens : s₁.gens = #[]) (ha : s₁.heap.get? a = some { cls := .type "list", data := .seq vs.toArray }) (hn : ns.length ≤ n)
    (F : ∀ base : Heap, K.In base → base.Ns mainGlobals mg → LawOk P w K mg base G fa fd x g) (hbind : ∀ (s : Shared) (u : Value), BindsTo s fd ⟨[u], []⟩ [(x, u)]) (hg : Gives g n)
    (hO : Only H) (hS : SqL K H a (ns.map V.int)) (hok : HOk P w H s₁.heap) (hA : ∀ b, H b ≠ none → b = a) (hK : H a ≠ none → K.lookup a = none) :
    codeAny (model P w) callerA (.call (.ref fa) ⟨[.ref a], []⟩) (fun r s' => r = .ok (.ret (.bool true)) ∧ OldK s₁.heap s'.heap ∧ s'.os = s₁.os ∧ AllBare s'.gens) s₁ := by
  have back : ∀ {b : Addr} {o : Obj}, s₁.heap.get? b = some o → H b = none → (hidT s₁.heap H).get? b = some o := fun e m => hidT_get e m
  have noDict : ∀ {b : Addr} {o : Obj} {es : Array DictEntry} {ep : Nat}, s₁.heap.get? b = some o → o.data = .dict es ep → H b = none := by
    intro b o es ep e d
    cases q : H b with
    | none => rfl
    | some u =>
      obtain rfl : b = a := hA b (by rw [q]; simp)
      rw [ha] at e
      cases e
      exact absurd (show Data.seq vs.toArray _ = Data.dict es ep from d) (by simp)
  have ns2 : ∀ {b : Addr} {m : Str → Option Value}, s₁.heap.Ns b m → (hidT s₁.heap H).Ns b m := by
    intro b m ⟨o, es, ep, e, d, r⟩
    exact ⟨o, es, ep, back e (noDict e d), d, r⟩
  have kb : K.In (hidT s₁.heap H) := by
    intro b o e
    refine back (KX b o e) ?_
    cases q : H b with
    | none => rfl
    | some u =>
      obtain rfl : b = a := hA b (by rw [q]; simp)
      rw [hK (by rw [q]; simp)] at e
      cases e
  obtain ⟨mc, lim1, lim2⟩ := id hlim
  have md : Mod K mg (hidT s₁.heap H) := ⟨kb, ns2 hns, ⟨mb, ns2 hb, hbb⟩, mc, ns2 lim1, lim2⟩
  have nofr : ∀ b ∈ frs ([] : List Env), H b = none := fun b z => absurd z (by simp [frs])
  have env0 : Env0 P w K mg (hidT s₁.heap H) callerA [] s₁ H := ⟨rfl, md, fun b o e => of_hidT e, Nat.le_of_eq (hidT_size _ _), trivial, nofr, hok, .of_eq hgens⟩
  refine codeAny_mono (F _ kb (ns2 hns) s₁ H (.ref a) (.ref a) _ _ env0 (hbind s₁ (.ref a)) rfl (sp_law hg hn hO hS)) fun r s' h => ?_
  cases r with
  | error e => exact (no_cx h).elim
  | ok fl =>
    cases fl with
    | ret u =>
      obtain ⟨v, H', os, bare, un, hok', rv, q⟩ := h
      obtain rfl : v = .bl true := q
      cases rv
      refine ⟨rfl, OldK.of_keep fun b o e => ?_, os, bare⟩
      cases q : H b with
      | none => exact un.keep b o e q (by simp [frs]) (by simp)
      | some u =>
        rcases hO b with z | ⟨ob, xs, z⟩
        · rw [q] at z; cases z
        · have e1 := (hok b _ z).1
          have e2 := (hok' b _ (un.frzs b ob _ z)).1
          rw [e] at e1
          cases e1
          exact e2
    | next => exact h.elim
    | brk => exact h.elim
    | cont => exact h.elim
theorem law_callL {P : Program} {w : World} {K : PySem.W.Frag} {mg mb : Str → Option Value} {fa a : Addr} {fd : FuncData} {x : Str} {G : Gs} {g : List MV → MH → Out MV} {s₁ : Shared} {vs : List Value} {ns : List Int} {n : Nat}
    (KX : K.In s₁.heap) (hns : s₁.heap.Ns mainGlobals mg) (hb : s₁.heap.Ns builtinsNs mb) (hbb : ∀ x : Str, x ≠ "__name__" → mb x = bootBuiltins x) (hlim : s₁.heap.NoLimit) (hgens : s₁.gens = #[]) (ha : s₁.heap.get? a = some { cls := .type "list", data := .seq vs.toArray }) (hi : IntsAre vs ns) (hn : ns.length ≤ n) (hn2 : n ≤ sizeLine)
    (F : ∀ base : Heap, K.In base → base.Ns mainGlobals mg → LawOk P w K mg base G fa fd x g) (hbind : ∀ (s : Shared) (u : Value), BindsTo s fd ⟨[u], []⟩ [(x, u)]) (hg : Gives g n) :
    codeAny (model P w) callerA (.call (.ref fa) ⟨[.ref a], []⟩) (fun r s' => r = .ok (.ret (.bool true)) ∧ OldK s₁.heap s'.heap ∧ s'.os = s₁.os ∧ AllBare s'.gens) s₁ := by
  have rv := vals_ints hi
  have lv : vs.length = ns.length := hi.length
  cases hk : K.lookup a with
  | some o =>
    have e := KX a o hk
    rw [ha] at e
    cases e
    have hS : SqL K (fun _ => none) a (ns.map V.int) := by
      refine .inr ⟨_, vs.toArray, _, hk, rfl, rfl, rfl, ?_, by simpa using rv⟩
      rw [List.size_toArray, lv]
      omega
    exact law_core KX hns hb hbb hlim hgens ha hn F hbind hg (fun _ => .inl rfl) hS (fun b u z => nomatch z) (fun b z => absurd rfl z) (fun z => absurd rfl z)
  | none =>
    have at1 : (fun b => if b = a then some (HO.frz { cls := .type "list", data := .seq vs.toArray } (.lst (ns.map V.int))) else none) a = some (HO.frz { cls := .type "list", data := .seq vs.toArray } (.lst (ns.map V.int))) := if_pos rfl
    refine law_core (H := fun b => if b = a then some (.frz { cls := .type "list", data := .seq vs.toArray } (.lst (ns.map V.int))) else none) KX hns hb hbb hlim hgens ha hn F hbind hg (fun b => ?_) (.inl (.inr ⟨_, at1⟩)) (fun b u z => ?_) (fun b z => ?_) (fun _ => hk)
    · by_cases e : b = a
      · exact .inr ⟨_, _, if_pos e⟩
      · exact .inl (if_neg e)
    · by_cases e : b = a
      · subst e
        rw [at1] at z
        cases z
        exact ⟨ha, by rw [List.length_map]; omega, vs, _, rv, ha⟩
      · have z2 := (if_neg e).symm.trans z
        cases z2
    · by_cases e : b = a
      · exact e
      · exact absurd (if_neg e) z
/-- the row, from the law's own call and what it gives -/
theorem walk_law {l : PySem.W.OpenLaw} {n : Nat} {q : Program} {loose : List Str} {XP : (Str → Option Value) → Heap → Prop} {YP : World → Heap → Prop} {d : DefRec} {K : Params → PySem.W.Frag} {g : List MV → MH → Out MV} {x : Str}
    (hn : l.most = some n) (hn2 : n ≤ sizeLine) (hdf : d.params.defaults = []) (hY : ∀ (w : World) (h : Heap), YP w h → (K w.params).In h) (hg : Gives g n)
    (F : ∀ (w : World) (mg : Str → Option Value) (fa : Addr) (h : Heap), (K w.params).In h → h.Ns mainGlobals mg → mg d.name = some (.ref fa) →
      ∃ (G : Gs) (fd : FuncData), (∀ (s : Shared) (u : Value), BindsTo s fd ⟨[u], []⟩ [(x, u)]) ∧ ∀ base : Heap, (K w.params).In base → base.Ns mainGlobals mg → LawOk l.prog w (K w.params) mg base G fa fd x g) :
    PySem.W.WalkO q loose XP YP l.row.toRowW d [] (fun f vs => PySem.call f vs) := by
  refine Att.attach_call hn hdf fun w s₀ s₁ mg mb fa o pm cd doc a vs ns R Y ho hd hcd hmg hobj hints hlen hgens => ?_
  obtain ⟨G, fd, hbind, hF⟩ := F w mg fa _ (hY w _ Y) R.T.g hmg
  exact law_callL (hY w _ Y) R.T.g R.T.b R.T.builtins R.T.nolimit hgens hobj hints hlen hn2 hF hbind hg
end Mv

set_option Elab.async false
set_option linter.all false
set_option maxRecDepth 100000
set_option autoImplicit false
set_option maxHeartbeats 1000000
/-! MvQ: x = [..] in one line. -/
namespace Mv
open PySem PySem.Spec PyProof.Rows L2
section
variable {K : PySem.W.Frag} {G : Gs} {ea : Ea} {W : WX} {r0 : Rm} {D : Ends} {σ : L2.St} {H : Hp} {i : Nat} {xl : Ex (List MV)}
theorem rdS_frz (h : rdS K G ea W (asgC (frzE xl) (nameG i)) r0 D σ H) : rd K G ea (rL K) W xl σ H (fun v H1 => D.nx (σ.set i (some v)) H1) := by
  obtain ⟨r, e, l, S, M, sr, hr, g⟩ := h
  subst e
  refine ⟨r, rfl, .refl r, S, M, sr.sr, hr, ?_⟩
  unfold asgC bindC frzE bindE at g
  cases hx : xl S M with
  | bad => simp only [hx] at g; exact g
  | exc c fs M' => simp only [hx] at g; exact fun r2 d f2 h2 q => g r2 σ d (l.trans f2.toLk) (sr.mono f2) h2 q
  | ok ys M' =>
    simp only [hx] at g
    intro r1 v f h1 q
    obtain ⟨p, vs, e, n0, e1, vx, nF, nm⟩ := q
    subst e
    have s1 := sr.mono f
    have fl := f.lock n0
    have s2 : SRE K G ea r0 (r1.lock p) S σ := by
      refine ⟨⟨s1.sr.len, fun j z e => ?_, fun j zs e => ?_, s1.sr.dis, fun j c fs z e e' => ?_⟩, s1.fw.lock (sr.fw.fresh n0), s1.new⟩
      · obtain ⟨w, w1, w2⟩ := s1.sr.val j z e
        exact ⟨w, w1, Rm.lock_lk.vr w2⟩
      · obtain ⟨a, us, a1, a2, a3, a4, a5⟩ := s1.sr.own j zs e
        refine ⟨a, us, a1, a2, Rm.lock_lk.vrs a3, fun z => z.elim a4 fun z => ?_, a5⟩
        obtain ⟨a', us', b1, b2, _⟩ := sr.sr.own j zs e
        rw [a1] at b1
        cases b1
        subst z
        rw [n0] at b2
        cases b2
      · obtain ⟨a1, a2, a3⟩ := s1.sr.xc j c fs z e e'
        exact ⟨a1, a2, a3.mono Rm.lock_lk⟩
    exact g (r1.lock p) _ (l.trans fl.toLk) (s2.tg (s2.sr.setVal (.lst (.inl (Rm.lock_L e1)) (Rm.lock_lk.vrs vx))) fun j xs e => own_set e) (h1.lock e1 nm)
theorem rdS_shr (h : rdS K G ea W (asgC (shrE xl) (nameG i)) r0 D σ H) : rd K G ea (rL K) W xl σ H (fun v H1 => D.nx (σ.set i (some v)) H1) := by
  obtain ⟨r, e, l, S, M, sr, hr, g⟩ := h
  subst e
  refine ⟨r, rfl, .refl r, S, M, sr.sr, hr, ?_⟩
  unfold asgC bindC shrE bindE at g
  cases hx : xl S M with
  | bad => simp only [hx] at g; exact g
  | exc c fs M' => simp only [hx] at g; exact fun r2 d f2 h2 q => g r2 σ d (l.trans f2.toLk) (sr.mono f2) h2 q
  | ok ys M' =>
    simp only [hx] at g
    intro r1 v f h1 q
    obtain ⟨p, vs, e, n0, e1, vx, nF, nm⟩ := q
    subst e
    have s1 := sr.mono f
    have fl := f.cel n0
    have s2 : SRE K G ea r0 (r1.cel p) S σ := by
      refine ⟨⟨s1.sr.len, fun j z e => ?_, fun j zs e => ?_, s1.sr.dis, fun j c fs z e e' => ?_⟩, s1.fw.cel (sr.fw.fresh n0), s1.new⟩
      · obtain ⟨w, w1, w2⟩ := s1.sr.val j z e
        exact ⟨w, w1, Rm.cel_lk.vr w2⟩
      · obtain ⟨a, us, a1, a2, a3, a4, a5⟩ := s1.sr.own j zs e
        refine ⟨a, us, a1, a2, Rm.cel_lk.vrs a3, a4, fun z => ?_⟩
        rcases List.mem_append.mp z with z | z
        · exact a5 z
        · rw [List.mem_singleton] at z
          obtain ⟨a', us', b1, b2, _⟩ := sr.sr.own j zs e
          rw [a1] at b1
          cases b1
          subst z
          rw [n0] at b2
          cases b2
      · obtain ⟨a1, a2, a3⟩ := s1.sr.xc j c fs z e e'
        exact ⟨a1, a2, a3.mono Rm.cel_lk⟩
    have hc : HR K G (r1.cel p) (M' ++ [.lst ys]) := h1.cel ⟨vs, e1, Rm.cel_lk.vrs vx⟩ nF nm
    exact g (r1.cel p) _ (l.trans fl.toLk) (s2.tg (s2.sr.setVal (.ref (by rw [← h1.len]; exact get_last))) fun j xs e => own_set e) hc
theorem rdS_own (h : rdS K G ea W (ownC i xl) r0 D σ H) : rd K G ea (rL K) W xl σ H (fun v H1 => D.nx (σ.set i (some v)) H1) := by
  obtain ⟨r, e, l, S, M, sr, hr, g⟩ := h
  subst e
  refine ⟨r, rfl, .refl r, S, M, sr.sr, hr, ?_⟩
  unfold ownC bindC at g
  cases hx : xl S M with
  | bad => rw [hx] at g; exact g
  | exc c fs M' => rw [hx] at g; exact fun r2 d f2 h2 q => g r2 σ d (l.trans f2.toLk) (sr.mono f2) h2 q
  | ok ys M' =>
    rw [hx] at g
    intro r1 v f h1 q
    obtain ⟨p, vs, e, n0, e1, vx, nF, nm⟩ := q
    subst e
    refine g r1 _ (l.trans f.toLk) ((sr.mono f).setOwn (sr.fw.fresh n0) e1 vx nF nm fun j zs e2 e3 => ?_) h1
    obtain ⟨p', us, a1, a2, _⟩ := sr.sr.own j zs e2
    rw [e3] at a1
    cases a1
    rw [n0] at a2
    cases a2
end
section
variable {G : Gs} {ea : Ea} {X : Cx} {W : WX} {pos spos py : Pos} {tg iter elt : Expr} {i : Nat} {y : Str} {ifs : List Expr} {scope : Scope} {own : List (Str × Nat)} {it : Ex (List MV)} {g : Tg} {t : TG} {is : List Nat} {tt : Te} {te : Ex MV}
theorem vs_lc {c : Cm} (hk : ∀ (r0 : Rm) (D : Ends) (σ : L2.St) (H : Hp), rdS X.K G ea W c r0 D σ H → rd X.K G ea (rL X.K) W (lcE it g tt te (own.map (·.2))) σ H (fun v H1 => D.nx (σ.set i (some v)) H1)) (hc : X.calm = true) (hN : X.N.Nodup) (hi : PVi G ea X W tg iter it) (ok : BlkOk X.N X.env.scope scope own)
    (hg : ∀ (s : Shared) (H : Hp) (C : Addr) (cl : List (Str × Addr)) (fp : List Addr), PVg G ea (X.blk s H scope (compEnvC scope cl C X.env) fp) tg g t is)
    (ht : ∀ (s : Shared) (H : Hp) (C : Addr) (cl : List (Str × Addr)) (fp : List Addr), PVts G ea (X.blk s H scope (compEnvC scope cl C X.env) fp) W0 ifs tt)
    (he : ∀ (s : Shared) (H : Hp) (C : Addr) (cl : List (Str × Addr)) (fp : List Addr), PV G ea (X.blk s H scope (compEnvC scope cl C X.env) fp) W0 elt te) (hsub : ∀ j ∈ is, j ∈ own.map (·.2) := by decide)
    (hy : X.N[i]? = some y := by rfl) (hyl : X.env.scope.names.lookup y = some .local := by rfl) (hsw : swapsWith (.ListComp elt [⟨tg, iter, ifs, 0⟩] scope pos) (some (.Name y py)) spos.line X.env = pure true := by exact sw_true rfl rfl rfl (by decide +kernel))
    (hs : ∀ x, foldedSetIterable iter X.env x = pure x := by intro _; rfl) : PVst G ea X W (.Assign [.Name y py] (.ListComp elt [⟨tg, iter, ifs, 0⟩] scope pos) spos) c :=
  ⟨fun r0 => ps_imp (ps_setLc hc hN hy hyl hsw hi.pi ok (fun s H C cl fp => (hg s H C cl fp).pg) (fun s H C cl fp => (ht s H C cl fp).pts) (fun s H C cl fp => (he s H C cl fp).pe) hs) fun D σ H h => rd_lc (hg ⟨X.base, #[], X.s_0.drawn, 0, X.s_0.os⟩ X.H_0 0 [] []).tr hsub (hk r0 D σ H h)⟩
end
theorem tok_s {x : Str} {t : Tok} {s : List Nat} (h : x = ⟨s.toArray⟩) : RelV (.str ⟨s.toArray⟩) (.str x t) := by
  subst h
  exact ⟨t, rfl⟩
end Mv

set_option Elab.async false
set_option linter.all false
set_option maxRecDepth 100000
set_option autoImplicit false
set_option maxHeartbeats 1000000
/-! MvR: more rules. -/
namespace Mv
open PySem PySem.Spec PyProof.Rows L2
section
variable {G : Gs} {ea : Ea} {X : Cx} {W : WX} {pos px : Pos} {b : Expr} {xb : Ex MV}
def rOwn : V → V → Hp → VK → Prop := fun v w H Q => ∃ p vs i z, v = .ref p ∧ w = .int i ∧ H p = some (.lst vs) ∧ atI vs i = some z ∧ Q z H
theorem o_ixOwn : IxR X rOwn := by
  intro value slice pins s σ H vx vy v u Q I rx ry ⟨p, vs, i, z, e, e2, e3, e4, q⟩ hs
  subst e e2
  exact ix_seq value slice pins s σ H _ _ v u Q I rx ry (.inl ⟨p, vs, i, z, rfl, rfl, .inl (.inl e3), e4, q⟩) hs
theorem pv_ixOwn {i : Nat} {x : Str} (hb : PV G ea X W b xb) (hs : PlainIx b := by exact fun _ _ => rfl) (hN : X.N[i]? = some x := by rfl) (hv : Vis X.env.scope x := by first | exact Or.inl rfl | exact Or.inr (Or.inl rfl)) (hd : (x == ("__debug__" : Str)) = false := by decide)
    (hcd : (x == ("__classdict__" : Str)) = false := by decide) : PV G ea X W (.Subscript (.Name x px) b pos) (ixOwn i xb) := by
  refine ⟨pe_imp (pe_ix o_ixOwn (pe_var hN hv hd hcd) hb.pe hs) fun σ H Q ⟨r, e, f, S, M, sr, hr, g⟩ => ?_⟩
  subst e
  unfold ixOwn at g
  cases hS : S[i]? with
  | none => rw [hS] at g; exact g.elim
  | some sl =>
    rw [hS] at g
    cases sl with
    | own xs =>
      obtain ⟨p, vs, e1, e2, vx, nF, nm⟩ := sr.own i xs hS
      refine ⟨.ref p, e1, r, rfl, .refl r, S, M, sr, hr, ?_⟩
      dsimp only at g
      unfold bindE at g
      cases hx : xb S M with
      | bad => rw [hx] at g; exact g
      | exc c fs M' => rw [hx] at g; exact g
      | ok k M' =>
        rw [hx] at g
        intro r1 w f1 h1 vb
        obtain ⟨p', vs', a1, a2, vx', _, _⟩ := (sr.mono f1).own i xs hS
        rw [e1] at a1
        cases a1
        cases k with
        | int z =>
          obtain rfl := VR.int_inv vb
          dsimp only at g
          unfold ofOpt at g
          cases ez : atM xs z with
          | none => rw [ez] at g; exact g.elim
          | some y =>
            rw [ez] at g
            obtain ⟨u, e3, vu⟩ := atM_rel vx' ez
            exact ⟨p, vs', z, u, rfl, rfl, a2, e3, g r1 u f1 h1 vu⟩
        | _ => exact g.elim
    | non => exact g.elim
    | val _ => exact g.elim
    | xc _ _ => exact g.elim
end
end Mv

set_option Elab.async false
set_option linter.all false
set_option maxRecDepth 100000
set_option autoImplicit false
set_option maxHeartbeats 1000000
/-! MvS: try, except. -/
namespace Mv
open PySem PySem.Spec PyProof.Rows L2
section
variable {K : PySem.W.Frag} {G : Gs} {r0 r : Rm} {S : Sg} {σ : L2.St}
theorem clr_get {j : Nat} {x : Slot} (h : (S.map clrS)[j]? = some x) : S[j]? = some x ∨ x = .non := by
  rw [List.getElem?_map] at h
  cases hS : S[j]? with
  | none => rw [hS] at h; cases h
  | some y =>
    rw [hS] at h
    cases h
    cases y with
    | xc c fs => exact .inr rfl
    | _ => exact .inl rfl
/-- the slots as the suite finds them -/
theorem SRE.suite {i c : Nat} {fs : List MV} {a : Addr} {cls : Value} {d : Option Addr} (h : SRE K G none r0 r S σ) (ec : cls = .ref (G.cA c)) (xr : XR K G r c fs d) : SRE K G (some (a, cls, d)) r0 r ((S.map clrS).set i (.xc c fs)) (σ.set i (some (.ref a))) := by
  have ne : ∀ {j : Nat} {x : Slot}, ((S.map clrS).set i (.xc c fs))[j]? = some x → (∀ c fs, x ≠ .xc c fs) → x ≠ .non → i ≠ j ∧ S[j]? = some x := fun {j x} hx h1 h2 => by
    by_cases hij : i = j
    · subst hij
      rw [List.getElem?_set] at hx
      simp only [if_true] at hx
      split at hx
      · cases hx; exact absurd rfl (h1 c fs)
      · cases hx
    · rw [List.getElem?_set_ne hij] at hx
      rcases clr_get hx with q | q
      · exact ⟨hij, q⟩
      · exact absurd q h2
  have se : ∀ {j : Nat}, i ≠ j → (σ.set i (some (.ref a)))[j]? = σ[j]? := fun hij => List.getElem?_set_ne hij
  refine ⟨⟨?_, ?_, ?_, ?_, ?_⟩, h.fw, ?_⟩
  · simp only [List.length_set, List.length_map]; exact h.sr.len
  · intro j v e
    obtain ⟨h1, h2⟩ := ne e (by intro c fs; simp) (by simp)
    rw [se h1]
    exact h.sr.val j v h2
  · intro j xs e
    obtain ⟨h1, h2⟩ := ne e (by intro c fs; simp) (by simp)
    rw [se h1]
    exact h.sr.own j xs h2
  · intro j k xs ys b e1 e2 e3 e4
    obtain ⟨h1, h2⟩ := ne e1 (by intro c fs; simp) (by simp)
    obtain ⟨h3, h4⟩ := ne e2 (by intro c fs; simp) (by simp)
    rw [se h1] at e3
    rw [se h3] at e4
    exact h.sr.dis j k xs ys b h2 h4 e3 e4
  · intro j c2 fs2 p e1 e2
    cases e2
    by_cases hij : i = j
    · subst hij
      rw [List.getElem?_set] at e1
      simp only [if_true] at e1
      split at e1
      · rename_i hlt
        cases e1
        rw [List.length_map, h.sr.len] at hlt
        exact ⟨by rw [List.getElem?_set, if_pos rfl, if_pos hlt], ec, xr⟩
      · cases e1
    · rw [List.getElem?_set_ne hij] at e1
      rcases clr_get e1 with q | q
      · rw [List.getElem?_map, q] at e1
        cases e1
      · cases q
  · intro j xs b e1 e2
    obtain ⟨h1, h2⟩ := ne e1 (by intro c fs; simp) (by simp)
    rw [se h1] at e2
    exact h.new j xs b h2 e2
/-- .. and as it leaves them -/
theorem SRE.unsuite {i : Nat} {ea : Ea} (h : SRE K G ea r0 r S σ) : SRE K G none r0 r (S.set i .non) (σ.set i none) := by
  have ne : ∀ {j : Nat} {x : Slot}, (S.set i .non)[j]? = some x → x ≠ .non → i ≠ j ∧ S[j]? = some x := fun {j x} hx h2 => by
    by_cases hij : i = j
    · subst hij
      rw [List.getElem?_set] at hx
      simp only [if_true] at hx
      split at hx
      · cases hx; exact absurd rfl h2
      · cases hx
    · rw [List.getElem?_set_ne hij] at hx
      exact ⟨hij, hx⟩
  have se : ∀ {j : Nat}, i ≠ j → (σ.set i none)[j]? = σ[j]? := fun hij => List.getElem?_set_ne hij
  refine ⟨⟨?_, ?_, ?_, ?_, ?_⟩, h.fw, ?_⟩
  · simp only [List.length_set]; exact h.sr.len
  · intro j v e
    obtain ⟨h1, h2⟩ := ne e (by simp)
    rw [se h1]
    exact h.sr.val j v h2
  · intro j xs e
    obtain ⟨h1, h2⟩ := ne e (by simp)
    rw [se h1]
    exact h.sr.own j xs h2
  · intro j k xs ys b e1 e2 e3 e4
    obtain ⟨h1, h2⟩ := ne e1 (by simp)
    obtain ⟨h3, h4⟩ := ne e2 (by simp)
    rw [se h1] at e3
    rw [se h3] at e4
    exact h.sr.dis j k xs ys b h2 h4 e3 e4
  · intro j c2 fs2 p e1 e2
    cases e2
  · intro j xs b e1 e2
    obtain ⟨h1, h2⟩ := ne e1 (by simp)
    rw [se h1] at e2
    exact h.new j xs b h2 e2
end
section
variable {G : Gs} {X : Cx} {W : WX} {pos pos' np : Pos} {n x : Str} {i : Nat} {body suite : List Stmt} {b₀ : Stmt} {b s : Cm} {C : Addr} {hd : Nat → Option Bool}
theorem vs_try (hs : X.stack = X.env :: X.outer) (hf : X.env.frame = some X.env.locals) (hN : X.N.Nodup) (hi : X.N[i]? = some n) (hln : X.env.kindOf n = some .local) (hc : Names X x (.ref C)) (tk : Takes X W)
    (hm : ∀ ci k, hd ci = some k → PySem.W.exmOne X.K (.ref (G.cA ci)) (.ref C) = some k)
    (hb : ∀ (W' : WX) (pn : List (Addr × Obj)) (xe : Value → Shared → Prop), Takes (X.tr pn xe) W' → PassesOwn (model X.prog X.w) X.A X.env xe → PVs G none (X.tr pn xe) W' body b)
    (hsu : ∀ (a : Addr) (oe : Obj) (cls : Value) (d : Option Addr) (pn : List (Addr × Obj)), Zc cls d oe → (∃ vs, oe.data = .fields vs) → PVs G (some (a, cls, d)) (X.suite a ((a, oe) :: pn)) W0 (b₀ :: suite) s) :
    PVst G none X W (.Try body [.ExceptHandler (some (.Name x np)) (some n) (b₀ :: suite) pos'] [] [] pos) (tryC b hd i s) := by
  refine ⟨fun r0 => ps_imp (L2.ps_try_as (tb := fun W' => rdS X.K G none W' b r0) (ts := fun a cls d => rdS X.K G (some (a, cls, d)) W0 s r0) hs hf hN hi hln hc tk (fun W' pn xe t p => (hb W' pn xe t p).ps r0) (fun a oe cls d pn hz hv => (hsu a oe cls d pn hz hv).ps r0)) fun D σ H ⟨r, e, l, S, M, sr, hr, g⟩ => ?_⟩
  subst e
  refine ⟨r, rfl, l, S, M, sr, hr, ?_⟩
  unfold tryC at g
  cases hbs : b S M with
  | nx S' M' => rw [hbs] at g; exact g
  | rt v M' => rw [hbs] at g; exact g
  | bk S' M' => rw [hbs] at g; exact g
  | ct S' M' => rw [hbs] at g; exact g
  | bad => rw [hbs] at g; exact g
  | exc c fs S' M' =>
    rw [hbs] at g
    intro r' σ' d lk sr' hr' xr
    dsimp only at g
    cases hh : hd c with
    | none => rw [hh] at g; exact g.elim
    | some k =>
      rw [hh] at g
      cases k with
      | false => exact ⟨false, hm c _ hh, fun z => (nomatch z), fun _ => g r' σ' d lk sr' hr' xr⟩
      | true =>
        refine ⟨true, hm c _ hh, fun _ a na => ?_, fun z => (nomatch z)⟩
        refine ⟨r', rfl, .refl r', _, M', sr'.suite rfl xr, hr', ?_⟩
        dsimp only at g
        cases hs2 : s ((S'.map clrS).set i (.xc c fs)) M' with
        | nx S2 M2 => rw [hs2] at g; exact fun r2 σ2 l2 sr2 hr2 => g r2 _ (lk.trans l2) sr2.unsuite hr2
        | bk S2 M2 => rw [hs2] at g; exact fun r2 σ2 l2 sr2 hr2 => g r2 _ (lk.trans l2) sr2.unsuite hr2
        | ct S2 M2 => rw [hs2] at g; exact fun r2 σ2 l2 sr2 hr2 => g r2 _ (lk.trans l2) sr2.unsuite hr2
        | rt v M2 => rw [hs2] at g; exact g
        | exc c2 f2 S2 M2 => rw [hs2] at g; exact g.elim
        | bad => rw [hs2] at g; exact g.elim
end
section
variable {G : Gs} {X : Cx} {W : WX} {pos p p1 p2 : Pos} {n x fl : Str} {i c k : Nat} {a : Addr} {oe : Obj} {cls : Value} {d : Option Addr} {pn : List (Addr × Obj)}
/-- err.f in the suite -/
theorem pv_xfld (T : XfC X.K (G.cA c)) (hno : PySem.W.findIn X.K (.ref (G.cA c)) fl = some none) (hk : (G.cN c)[k]? = some fl) (hz : Zc cls d oe) (hf : ∃ vs, oe.data = .fields vs) (hN : X.N[i]? = some n := by rfl) (hv : Vis X.env.scope n := by first | exact Or.inl rfl | exact Or.inr (Or.inl rfl)) (hd : (n == ("__debug__" : Str)) = false := by decide)
    (hcd : (n == ("__classdict__" : Str)) = false := by decide) (hb : attributeBase (.Name n p) fl X.env (eval (.Name n p) X.env) = eval (.Name n p) X.env := by rfl) : PV G (some (a, cls, d)) (X.suite a ((a, oe) :: pn)) W (.Attribute (.Name n p) fl pos) (xfldE i c k) := by
  refine ⟨pe_imp (pe_xf T hno hz hf (pe_var (i := i) hN hv hd hcd) hb) fun σ H Q ⟨r, e, fw, S, M, sr, hr, g⟩ => ?_⟩
  subst e
  unfold xfldE at g
  cases hS : S[i]? with
  | none => rw [hS] at g; exact g.elim
  | some sl =>
    rw [hS] at g
    cases sl with
    | xc c' fs =>
      dsimp only at g
      by_cases hc : c' = c
      · subst hc
        rw [if_pos rfl] at g
        obtain ⟨e1, e2, dd, vs, xs, e3, e4, e5, e6, e7⟩ := sr.xc i c' fs _ hS rfl
        cases hg : fs[k]? with
        | none => rw [hg] at g; exact g.elim
        | some mv =>
          rw [hg] at g
          obtain ⟨w, h1, h2⟩ := e5.get hg
          exact ⟨.ref a, e1, rfl, e2, dd, xs, w, e3, (r.L_H _ _ e4), by rw [e7 k fl hk, h1], g r w (.refl r) hr h2⟩
      · rw [if_neg hc] at g; exact g.elim
    | non => exact g.elim
    | val _ => exact g.elim
    | own _ => exact g.elim
def rIsX (K : PySem.W.Frag) (G : Gs) (cls : Value) (d : Option Addr) (a : Addr) (f : Nat → Option Bool) (v : V) : List V → Hp → VK → Prop := fun xs H Q => ∃ ci b dd fs, cls = .ref (G.cA ci) ∧ f ci = some b ∧ d = some dd ∧ H dd = some (.xd fs) ∧ xs = [.ref a, v] ∧ Q (.bl b) H
theorem call_isX {f : Nat → Option Bool} {v : V} {cv : Value} (hcv : ∀ u, RelV v u → u = cv) (hC : ∀ ci b, f ci = some b → ExcC X.K (G.cA ci) ∧ PySem.W.kitOne X.K (.ref (G.cA ci)) cv = some b) (hz : Zc cls d oe) (hf : ∃ vs, oe.data = .fields vs) : CallR (X.suite a ((a, oe) :: pn)) (.builtin "isinstance") (rIsX X.K G cls d a f v) := by
  intro pins s σ H xs us Q I r h
  obtain ⟨ci, b, dd, fs, e1, e2, e3, e4, e5, q⟩ := h
  subst e1 e3 e5
  obtain ⟨C, hk⟩ := hC ci b e2
  cases r with
  | cons rx rr =>
    cases rr with
    | cons rt rr =>
      cases rr
      cases rx
      have ec := hcv _ rt
      subst ec
      obtain ⟨hget, _⟩ := I.pin (a, oe) (List.mem_append.mpr (.inl List.mem_cons_self))
      obtain ⟨vs, hv⟩ := hf
      have hx : ObjOk X.prog X.w H s.heap dd (.xd fs) := I.hok dd _ e4
      obtain ⟨mA, hns, hr⟩ := hx
      obtain ⟨od, ho, hl⟩ := lookIn_ns hns
      have J : PySem.W.InstAt s.heap a oe (G.cA ci) (some od) := ⟨hget, hz.1, by unfold PySem.W.notCls; rw [hv] <;> rfl, by rw [hz.2]; exact ho⟩
      have hcl : (PySem.W.clsIn X.K (G.cA ci)).isSome = true := by
        obtain ⟨cd, hc, _⟩ := PySem.W.any_some C.hd
        rw [hc]
        rfl
      exact PySem.W.kia_one (PySem.W.kitx_exc hcl C.hg C.hk C.hs C.ha C.hn C.ht C.hm) I.kIn J hk (fun z => nomatch z) fun tk => ⟨.bl b, H, I.kept (t' := tk) fun _ _ z => z, rfl, q⟩
/-- isinstance(err, X) in the suite -/
theorem pv_xis {f : Nat → Option Bool} {v : V} {cv : Value} (hT : PE (X.suite a ((a, oe) :: pn)) (.Name x p2) (tC v)) (hcv : ∀ u, RelV v u → u = cv) (hC : ∀ ci b, f ci = some b → ExcC X.K (G.cA ci) ∧ PySem.W.kitOne X.K (.ref (G.cA ci)) cv = some b) (hm : X.mg "isinstance" = none) (hz : Zc cls d oe) (hf : ∃ vs, oe.data = .fields vs) (hN : X.N[i]? = some n := by rfl)
    (hv : Vis X.env.scope n := by first | exact Or.inl rfl | exact Or.inr (Or.inl rfl)) (hd : (n == ("__debug__" : Str)) = false := by decide) (hcd : (n == ("__classdict__" : Str)) = false := by decide) (hg : Gl X "isinstance" := by rfl)
    (hs1 : starEach [(.Name n p1 : Expr), .Name x p2] X.env = (false, eval (.Name n p1) X.env) :: starEach [.Name x p2] X.env := by rfl) (hs2 : starEach [(.Name x p2 : Expr)] X.env = (false, eval (.Name x p2) X.env) :: starEach [] X.env := by rfl)
    (hpl : (backTo pos (starEach [(.Name x p2 : Expr)] X.env)).any (·.1) = false := by rfl) : PV G (some (a, cls, d)) (X.suite a ((a, oe) :: pn)) W (.Call (.Name "isinstance" p) [.Name n p1, .Name x p2] [] pos) (xisE i f) := by
  refine ⟨pe_imp (pe_callB (call_isX hcv hC hz hf) hg hm (by decide +kernel) (pa_cons (pe_var (i := i) hN hv hd hcd) (pa_cons hT pa_nil hs2) hs1) (by decide) (by decide) hs1 hpl) fun σ H Q ⟨r, e, fw, S, M, sr, hr, g⟩ => ?_⟩
  subst e
  unfold xisE at g
  cases hS : S[i]? with
  | none => rw [hS] at g; exact g.elim
  | some sl =>
    rw [hS] at g
    cases sl with
    | xc c' fs =>
      dsimp only at g
      obtain ⟨e1, e2, dd, vs, xs, e3, e4, e5, e6, e7⟩ := sr.xc i c' fs _ hS rfl
      cases hfc : f c' with
      | none => rw [hfc] at g; exact g.elim
      | some b =>
        rw [hfc] at g
        exact ⟨.ref a, e1, c', b, dd, xs, e2, hfc, e3, (r.L_H _ _ e4), rfl, g r _ (.refl r) hr (.bl b)⟩
    | non => exact g.elim
    | val _ => exact g.elim
    | own _ => exact g.elim
end
end Mv

set_option autoImplicit false
set_option linter.all false
/-! MvZ: plain tools over the combinators. -/
namespace Mv

theorem forL_ix {g : Tg} {b : Cm} (n : Nat) (I : Nat → Sg → MH → Prop) : ∀ (vs : List MV), (∀ v ∈ vs, ∀ i S M, i < n → I i S M → ∃ S1, g v S = some S1 ∧ ∃ S' M', (b S1 M = .nx S' M' ∨ b S1 M = .bk S' M') ∧ I (i + 1) S' M') → ∀ i S M, i + vs.length ≤ n → I i S M → ∃ j S' M', j ≤ i + vs.length ∧ forL g b vs S M = .nx S' M' ∧ I j S' M'
  | [], _, i, S, M, _, h => ⟨i, S, M, by simp, rfl, h⟩
  | v :: r, hb, i, S, M, hn, h => by
    simp only [List.length_cons] at hn
    obtain ⟨S1, e1, S', M', e2, h2⟩ := hb v (by simp) i S M (by omega) h
    rcases e2 with e2 | e2
    · obtain ⟨j, S2, M2, hj, e3, h3⟩ := forL_ix n I r (fun w hw => hb w (by simp [hw])) (i + 1) S' M' (by omega) h2
      exact ⟨j, S2, M2, by simp only [List.length_cons]; omega, by simp only [forL, e1, e2, e3], h3⟩
    · exact ⟨i + 1, S', M', by simp only [List.length_cons]; omega, by simp only [forL, e1, e2], h2⟩
/-- a loop without an early end; what was walked is known -/
theorem forL_pre {g : Tg} {b : Cm} (I : List MV → Sg → MH → Prop) : ∀ (vs pre : List MV), (∀ v, v ∈ vs → ∀ p S M, I p S M → ∃ S1, g v S = some S1 ∧ ∃ S' M', b S1 M = .nx S' M' ∧ I (p ++ [v]) S' M') → ∀ S M, I pre S M → ∃ S' M', forL g b vs S M = .nx S' M' ∧ I (pre ++ vs) S' M'
  | [], pre, _, S, M, h => ⟨S, M, rfl, by simpa using h⟩
  | v :: r, pre, hb, S, M, h => by
    obtain ⟨S1, e1, S', M', e2, h2⟩ := hb v (by simp) pre S M h
    obtain ⟨S2, M2, e3, h3⟩ := forL_pre I r (pre ++ [v]) (fun w hw => hb w (by simp [hw])) S' M' h2
    exact ⟨S2, M2, by simp only [forL, e1, e2, e3], by simpa using h3⟩
/-- .. with a number counted -/
theorem forL_cnt {g : Tg} {b : Cm} (I : Nat → Sg → MH → Prop) (vs : List MV) (hb : ∀ v ∈ vs, ∀ i S M, I i S M → i < vs.length → ∃ S1, g v S = some S1 ∧ ∃ S' M', b S1 M = .nx S' M' ∧ I (i + 1) S' M') : ∀ S M, I 0 S M → ∃ S' M', forL g b vs S M = .nx S' M' ∧ I vs.length S' M' := by
  have key : ∀ (ws : List MV) (i : Nat), (∀ v ∈ ws, v ∈ vs) → i + ws.length = vs.length → ∀ S M, I i S M → ∃ S' M', forL g b ws S M = .nx S' M' ∧ I (i + ws.length) S' M' := by
    intro ws
    induction ws with
    | nil => exact fun i _ _ S M h => ⟨S, M, rfl, h⟩
    | cons v r ih =>
      intro i hm hl S M h
      simp only [List.length_cons] at hl
      obtain ⟨S1, e1, S', M', e2, h2⟩ := hb v (hm v (by simp)) i S M h (by omega)
      obtain ⟨S2, M2, e3, h3⟩ := ih (i + 1) (fun w hw => hm w (by simp [hw])) (by omega) S' M' h2
      refine ⟨S2, M2, by simp only [forL, e1, e2, e3], ?_⟩
      rw [List.length_cons, show i + (r.length + 1) = i + 1 + r.length by omega]
      exact h3
  intro S M h
  have := key vs 0 (fun _ h => h) (by omega) S M h
  rwa [Nat.zero_add] at this
/-- a comprehension that changes nothing -/
theorem lcL_map {g : Tg} {t : Te} {e : Ex MV} {is : List Nat} {S : Sg} {M : MH} (f : MV → MV) : ∀ (vs acc : List MV), (∀ v ∈ vs, ∃ S1, g v (wipeS S is) = some S1 ∧ t S1 M = .ok true M ∧ e S1 M = .ok (f v) M) → acc.length + vs.length ≤ 16777216 → lcL g t e is S vs acc M = .ok (acc ++ vs.map f) M
  | [], acc, _, _ => by simp [lcL]
  | v :: r, acc, h, hl => by
    obtain ⟨S1, e1, e2, e3⟩ := h v (by simp)
    simp only [List.length_cons] at hl
    have := lcL_map f r (acc ++ [f v]) (fun w hw => h w (by simp [hw])) (by simp; omega)
    simp only [lcL, e1, e2, e3]
    rw [if_pos (by omega), this]
    simp
theorem lcL_as {α : Type} {g : Tg} {t : Te} {e : Ex MV} {is : List Nat} {S : Sg} {M : MH} (f h : α → MV) : ∀ (as : List α) (acc : List MV), (∀ a ∈ as, ∃ S1, g (f a) (wipeS S is) = some S1 ∧ t S1 M = .ok true M ∧ e S1 M = .ok (h a) M) → acc.length + as.length ≤ 16777216 → lcL g t e is S (as.map f) acc M = .ok (acc ++ as.map h) M
  | [], acc, _, _ => by simp only [List.map_nil, lcL, List.append_nil]
  | v :: r, acc, hh, hl => by
    obtain ⟨S1, e1, e2, e3⟩ := hh v (by simp)
    simp only [List.length_cons] at hl
    have := lcL_as (g := g) (t := t) (e := e) (is := is) (S := S) (M := M) f h r (acc ++ [h v]) (fun w hw => hh w (by simp [hw])) (by simp; omega)
    simp only [List.map_cons, lcL, e1, e2, e3]
    rw [if_pos (by omega), this]
    simp
/-- a comprehension with a heap invariant -/
theorem lcL_inv {g : Tg} {t : Te} {e : Ex MV} {is : List Nat} {S : Sg} (I : MH → Prop) (P : MV → Prop) : ∀ (vs acc : List MV) (M : MH), (∀ v ∈ vs, ∀ M, I M → ∃ S1, g v (wipeS S is) = some S1 ∧ t S1 M = .ok true M ∧ ∃ y M', e S1 M = .ok y M' ∧ P y ∧ I M') → acc.length + vs.length ≤ 16777216 → I M → ∃ ys M', lcL g t e is S vs acc M = .ok (acc ++ ys) M' ∧ ys.length = vs.length ∧ (∀ y ∈ ys, P y) ∧ I M'
  | [], acc, M, _, _, h => ⟨[], M, by simp [lcL], rfl, by simp, h⟩
  | v :: r, acc, M, hb, hl, h => by
    obtain ⟨S1, e1, e2, y, M1, e3, hy, h1⟩ := hb v (by simp) M h
    simp only [List.length_cons] at hl
    obtain ⟨ys, M2, e4, h4, h5, h6⟩ := lcL_inv I P r (acc ++ [y]) M1 (fun w hw => hb w (by simp [hw])) (by simp; omega) h1
    refine ⟨y :: ys, M2, ?_, by simp [h4], by simp only [List.mem_cons]; rintro z (rfl | hz); exact hy; exact h5 z hz, h6⟩
    simp only [lcL, e1, e2, e3]
    rw [if_pos (by omega), e4]
    simp
theorem rngM_len (lo : Int) (n : Nat) : (rngM lo n).length = n := by simp [rngM]
theorem rngM_mem {lo : Int} {n : Nat} {v : MV} (h : v ∈ rngM lo n) : ∃ i : Nat, i < n ∧ v = .int (lo + i) := by
  simp only [rngM, List.mem_map, List.mem_range] at h
  obtain ⟨i, hi, e⟩ := h
  exact ⟨i, hi, e.symm⟩

/-! ### the drawn row -/
/-- the row that a law draws from: a cell; its first number counts -/
def Row (M : MH) : Prop := ∃ (p : Nat) (xs : List Int), 1 ≤ p ∧ M = [.lst (.int p :: xs.map .int)]
theorem atM_ok {α : Type} {xs : List α} {i : Nat} {a : α} (h : xs[i]? = some a) : atM xs (i : Int) = some a := by
  obtain ⟨hl, _⟩ := List.getElem?_eq_some_iff.mp h
  simp only [atM, ixN]
  rw [if_pos (by omega), if_pos (by omega)]
  simpa using h
theorem atM_zero {α : Type} {x : α} {xs : List α} : atM (x :: xs) 0 = some x := by
  have := atM_ok (xs := x :: xs) (i := 0) rfl
  simpa using this
theorem ixN_zero {n : Nat} : ixN (n + 1) 0 = some 0 := by simp [ixN]
theorem fmod_nat (a : Int) {m : Nat} (h : 0 < m) : ∃ v : Nat, v < m ∧ a.fmod m = (v : Int) := by
  have h1 := Int.fmod_nonneg_of_pos a (show (0 : Int) < m by omega)
  have h2 := Int.fmod_lt_of_pos a (show (0 : Int) < m by omega)
  exact ⟨(a.fmod m).toNat, by omega, by omega⟩

theorem fmod_int (a : Int) {m : Int} (h : 0 < m) : ∃ v : Nat, (v : Int) < m ∧ a.fmod m = (v : Int) := by
  have h1 := Int.fmod_nonneg_of_pos a h
  have h2 := Int.fmod_lt_of_pos a h
  exact ⟨(a.fmod m).toNat, by omega, by omega⟩

/-! ### digits -/
theorem digs_mem {n c : Nat} (h : c ∈ digs n) : 48 ≤ c ∧ c ≤ 57 := by
  simp only [digs, List.mem_map] at h
  obtain ⟨ch, hm, rfl⟩ := h
  have := Nat.isDigit_of_mem_toDigits (by decide) (by decide) hm
  simp only [Char.isDigit, Bool.and_eq_true, decide_eq_true_eq] at this
  obtain ⟨a, b⟩ := this
  exact ⟨a, b⟩
theorem digs_ne {n : Nat} : digs n ≠ [] := by simp [digs]
theorem digs_len {n k : Nat} (hk : 0 < k) (h : n < 10 ^ k) : (digs n).length ≤ k := by
  simp only [digs, List.length_map]
  exact (Nat.length_toDigits_le_iff (by decide) hk).mpr h
theorem digs_val {n : Nat} : digsVal (digs n) = n := by
  have h := @Nat.ofDigitChars_ten_toDigits n
  simp only [digsVal, digs, List.foldl_map]
  have key : ∀ (l : List Char) (a : Nat), l.foldl (fun acc c => acc * 10 + (c.toNat - 48)) a = Nat.ofDigitChars 10 l a := by
    intro l a
    simp only [Nat.ofDigitChars]
    congr 1
    funext acc c
    rw [Nat.mul_comm]
    rfl
  rw [key, h]
theorem digs_head {n : Nat} : ∀ {c : Nat} {r : List Nat}, digs n = c :: r → r ≠ [] → c ≠ 48 := by
  induction n using Nat.strongRecOn with
  | _ n ih =>
    intro c r e hr
    by_cases hn : n < 10
    · rw [digs, Nat.toDigits_of_lt_base hn] at e
      simp only [List.map_cons, List.map_nil] at e
      cases e
      exact absurd rfl hr
    · have e2 := Nat.toDigits_of_base_le (b := 10) (n := n) (by decide) (by omega)
      have e3 : digs n = digs (n / 10) ++ [(Nat.digitChar (n % 10)).toNat] := by
        simp only [digs]
        rw [e2]
        simp
      rw [e3] at e
      cases hd : digs (n / 10) with
      | nil => exact absurd hd digs_ne
      | cons c2 r2 =>
        rw [hd] at e
        simp only [List.cons_append, List.cons.injEq] at e
        obtain ⟨rfl, e5⟩ := e
        by_cases hr2 : r2 = []
        · subst hr2
          intro hc
          subst hc
          have hv := @digs_val (n / 10)
          rw [hd] at hv
          simp [digsVal] at hv
          omega
        · exact ih (n / 10) (by omega) hd hr2

/-! ### texts in pieces -/
theorem joinM_cons (sep p : List Nat) (ps : List (List Nat)) : joinM sep (p :: ps) = p ++ ps.flatMap (sep ++ ·) := by
  induction ps generalizing p with
  | nil => simp [joinM]
  | cons q r ih => simp only [joinM, ih, List.flatMap_cons, List.append_assoc]
theorem joinM_nil (ps : List (List Nat)) : joinM [] ps = ps.flatten := by
  cases ps with
  | nil => rfl
  | cons p r => rw [joinM_cons]; simp [List.flatMap_def]
theorem strsM_map (ps : List (List Nat)) : strsM (ps.map MV.str) = some ps := by
  induction ps with
  | nil => rfl
  | cons p r ih => simp [strsM, ih]
theorem splitC_one (c : Nat) : ∀ (p acc : List Nat), c ∉ p → splitC c acc p = [acc ++ p]
  | [], acc, _ => by simp [splitC]
  | x :: r, acc, h => by
    simp only [List.mem_cons, not_or] at h
    rw [splitC, if_neg (fun e => h.1 e.symm), splitC_one c r _ h.2]
    simp
theorem splitC_at (c : Nat) : ∀ (p acc r : List Nat), c ∉ p → splitC c acc (p ++ c :: r) = (acc ++ p) :: splitC c [] r
  | [], acc, r, _ => by simp [splitC]
  | x :: q, acc, r, h => by
    simp only [List.mem_cons, not_or] at h
    rw [List.cons_append, splitC, if_neg (fun e => h.1 e.symm), splitC_at c q _ r h.2]
    simp
theorem splitC_words (c : Nat) : ∀ (ps : List (List Nat)) (p : List Nat), c ∉ p → (∀ q ∈ ps, c ∉ q) → splitC c [] (p ++ ps.flatMap (c :: ·)) = p :: ps
  | [], p, hp, _ => by simp [splitC_one c p [] hp]
  | q :: r, p, hp, h => by
    rw [List.flatMap_cons, List.cons_append, splitC_at c p [] _ hp, splitC_words c r q (h q (by simp)) (fun z hz => h z (by simp [hz]))]
    simp
theorem splitC_lines (c : Nat) : ∀ (ps : List (List Nat)), (∀ q ∈ ps, c ∉ q) → splitC c [] (ps.flatMap (· ++ [c])) = ps ++ [[]]
  | [], _ => by simp [splitC]
  | q :: r, h => by
    rw [List.flatMap_cons, List.append_assoc, List.singleton_append, splitC_at c q [] _ (h q (by simp)), splitC_lines c r (fun z hz => h z (by simp [hz]))]
    simp
end Mv

set_option autoImplicit false
set_option linter.all false
/-! The bodies of k42, printed by gen.py from the linked text. -/
namespace Lw
open Mv
def k_MORE_WORDS : MV := .tup [.str [119, 105, 116, 104], .str [97, 110, 100], .str [111, 114], .str [110, 111, 116]]
def k_SIGNS : MV := .tup [.str [61, 61], .str [40], .str [41], .str [91], .str [93], .str [44], .str [61], .str [60], .str [58], .str [43], .str [45], .str [42], .str [94]]
def k_WORDS : MV := .tup [.str [102, 105, 101, 108, 100], .str [105, 110, 112, 117, 116], .str [102, 117, 110, 99, 116, 105, 111, 110], .str [108, 101, 116], .str [111, 117, 116, 112, 117, 116], .str [105, 102], .str [116, 104, 101, 110], .str [101, 108, 115, 101], .str [115, 117, 109], .str [112, 114, 111, 100, 117, 99, 116], .str [101, 97, 99, 104], .str [114, 101, 112, 101, 97, 116]]
inductive Fn where
  | is_word
  | run_end
  | run_token
  | sign_at
  | tokenize
  | _law_state
  | _law_draw
  | _law_good
  | _law_digits
  | _law_bad
  | _law_lines
  | _law_outcome
abbrev Rc := Fn → List MV → MH → Out MV
/-- is_word; slots: 0 text -/
noncomputable def b_is_word (r : Rc) : Cm :=
  retC (orV (op2E inM (varE 0) (retE k_WORDS)) (op2E inM (varE 0) (retE k_MORE_WORDS)))
/-- run_end; slots: 0 text, 1 at, 2 end -/
noncomputable def b_run_end (r : Rc) : Cm :=
  seqC (asgC (varE 1) (nameG 2)) (seqC (whileC (andT (asT (op2E ltM (varE 2) (bltH lenM (consA (varE 0) (nilA))))) (asT (op2E inM (ixE (varE 0) (varE 2)) (op2E addM (op2E addM (retE (.str [97, 98, 99, 100, 101, 102, 103, 104, 105, 106, 107, 108, 109, 110, 111, 112, 113, 114, 115, 116, 117, 118, 119, 120, 121, 122, 65, 66, 67, 68, 69, 70, 71, 72, 73, 74, 75, 76, 77, 78, 79, 80, 81, 82, 83, 84, 85, 86, 87, 88, 89, 90])) (retE (.str [48, 49, 50, 51, 52, 53, 54, 55, 56, 57]))) (retE (.str [95])))))) (asgC (op2E addM (varE 2) (retE (.int 1))) (nameG 2))) (retC (varE 2)))
/-- run_token; slots: 0 run, 1 line, 2 sign -/
noncomputable def b_run_token (r : Rc) : Cm :=
  seqC (ifC (asT (op2E inM (ixE (varE 0) (retE (.int 0))) (retE (.str [97, 98, 99, 100, 101, 102, 103, 104, 105, 106, 107, 108, 109, 110, 111, 112, 113, 114, 115, 116, 117, 118, 119, 120, 121, 122, 65, 66, 67, 68, 69, 70, 71, 72, 73, 74, 75, 76, 77, 78, 79, 80, 81, 82, 83, 84, 85, 86, 87, 88, 89, 90])))) (seqC (ifC (asT (op2E gtM (bltH lenM (consA (varE 0) (nilA))) (retE (.int 16)))) (raiseC 0 1 (consA (varE 1) (nilA))) (skipC)) (retC (tupE (consA (iteE (truT (callE (r .is_word) (consA (varE 0) (nilA)))) (retE (.str [119, 111, 114, 100])) (retE (.str [110, 97, 109, 101]))) (consA (varE 0) (consA (varE 1) (nilA))))))) (skipC)) (seqC (ifC (orT (asT (op2E gtM (bltH lenM (consA (varE 0) (nilA))) (retE (.int 10)))) (andT (asT (op2E gtM (bltH lenM (consA (varE 0) (nilA))) (retE (.int 1)))) (asT (op2E eqM (ixE (varE 0) (retE (.int 0))) (retE (.str [48])))))) (raiseC 0 1 (consA (varE 1) (nilA))) (skipC)) (seqC (forC (itE (varE 0)) (nameG 2) (ifC (asT (op2E ninM (varE 2) (retE (.str [48, 49, 50, 51, 52, 53, 54, 55, 56, 57])))) (raiseC 0 1 (consA (varE 1) (nilA))) (skipC))) (retC (tupE (consA (retE (.str [110, 117, 109, 98, 101, 114])) (consA (bltH intM (consA (varE 0) (nilA))) (consA (varE 1) (nilA))))))))
/-- sign_at; slots: 0 text, 1 at, 2 sign -/
noncomputable def b_sign_at (r : Rc) : Cm :=
  seqC (forC (itE (retE k_SIGNS)) (nameG 2) (ifC (asT (op2E eqM (sliceE (varE 0) (partE (varE 1)) (partE (op2E addM (varE 1) (bltH lenM (consA (varE 2) (nilA)))))) (varE 2))) (retC (varE 2)) (skipC))) (retC (retE (.str [])))
/-- tokenize; slots: 0 text, 1 found, 2 line, 3 at, 4 end, 5 sign -/
noncomputable def b_tokenize (r : Rc) : Cm :=
  seqC (ownC 1 (lstL (nilA))) (seqC (asgC (retE (.int 1)) (nameG 2)) (seqC (asgC (retE (.int 0)) (nameG 3)) (seqC (whileC (asT (op2E ltM (varE 3) (bltH lenM (consA (varE 0) (nilA))))) (ifC (asT (op2E eqM (ixE (varE 0) (varE 3)) (retE (.str [10])))) (seqC (asgC (op2E addM (varE 2) (retE (.int 1))) (nameG 2)) (asgC (op2E addM (varE 3) (retE (.int 1))) (nameG 3))) (ifC (asT (op2E eqM (ixE (varE 0) (varE 3)) (retE (.str [32])))) (asgC (op2E addM (varE 3) (retE (.int 1))) (nameG 3)) (ifC (asT (op2E eqM (ixE (varE 0) (varE 3)) (retE (.str [35])))) (whileC (andT (asT (op2E ltM (varE 3) (bltH lenM (consA (varE 0) (nilA))))) (asT (op2E neM (ixE (varE 0) (varE 3)) (retE (.str [10]))))) (asgC (op2E addM (varE 3) (retE (.int 1))) (nameG 3))) (ifC (asT (op2E gtM (callE (r .run_end) (consA (varE 0) (consA (varE 3) (nilA)))) (varE 3))) (seqC (asgC (callE (r .run_end) (consA (varE 0) (consA (varE 3) (nilA)))) (nameG 4)) (seqC (appOwn 1 (callE (r .run_token) (consA (sliceE (varE 0) (partE (varE 3)) (partE (varE 4))) (consA (varE 2) (nilA))))) (asgC (varE 4) (nameG 3)))) (seqC (asgC (callE (r .sign_at) (consA (varE 0) (consA (varE 3) (nilA)))) (nameG 5)) (seqC (ifC (asT (op2E eqM (varE 5) (retE (.str [])))) (raiseC 0 1 (consA (varE 2) (nilA))) (skipC)) (seqC (appOwn 1 (tupE (consA (retE (.str [115, 105, 103, 110])) (consA (varE 5) (consA (varE 2) (nilA)))))) (asgC (op2E addM (varE 3) (bltH lenM (consA (varE 5) (nilA)))) (nameG 3)))))))))) (seqC (appOwn 1 (tupE (consA (retE (.str [101, 110, 100])) (consA (retE (.str [])) (consA (varE 2) (nilA)))))) (seqC (frzC 1) (retC (varE 1)))))))
/-- _law_state; slots: 0 _law_script, 1 _law_seed, 2 _law_cell -/
noncomputable def b__law_state (r : Rc) : Cm :=
  seqC (asgC (retE (.int 7)) (nameG 1)) (seqC (forC (itE (varE 0)) (nameG 2) (asgC (op2E modM (bltH intM (consA (op2E addM (op2E mulM (varE 1) (retE (.int 31))) (varE 2)) (nilA))) (retE (.int 1000003))) (nameG 1))) (retC (shrE (lstL (consA (shrE (lcE (itE (varE 0)) (nameG 2) (yesT) (bltH absM (consA (varE 2) (nilA))) [2])) (consA (op2E addM (varE 1) (retE (.int 1))) (nilA)))))))
/-- _law_draw; slots: 0 _law_state_here, 1 _law_many, 2 _law_cells, 3 _law_value, 4 _law_mixed -/
noncomputable def b__law_draw (r : Rc) : Cm :=
  seqC (asgC (ixE (varE 0) (retE (.int 0))) (nameG 2)) (seqC (whileC (andT (asT (op2E gtM (bltH lenM (consA (varE 2) (nilA))) (retE (.int 0)))) (asT (op2E eqM (ixE (varE 2) (retE (.int 0))) (retE (.int 0))))) (dropC (popRef (varE 2) (retE (.int 0))))) (seqC (ifC (asT (op2E gtM (bltH lenM (consA (varE 2) (nilA))) (retE (.int 0)))) (seqC (asgC (ixE (varE 2) (retE (.int 0))) (nameG 3)) (seqC (setRef (varE 2) (retE (.int 0)) (op2E fdivM (varE 3) (varE 1))) (retC (op2E modM (bltH intM (consA (varE 3) (nilA))) (varE 1))))) (skipC)) (seqC (asgC (op2E modM (bltH intM (consA (op2E addM (op2E mulM (ixE (varE 0) (retE (.int 1))) (retE (.int 48271))) (retE (.int 12345))) (nilA))) (retE (.int 2147483647))) (nameG 4)) (seqC (setRef (varE 0) (retE (.int 1)) (varE 4)) (retC (op2E modM (bltH intM (consA (op2E fdivM (varE 4) (retE (.int 64))) (nilA))) (varE 1)))))))
/-- _law_good; slots: 0 _law_state_here, 1 _law_pieces -/
noncomputable def b__law_good (r : Rc) : Cm :=
  seqC (asgC (frzE (lstL (consA (retE (.str [97])) (consA (retE (.str [115, 117, 109])) (consA (retE (.str [120, 49, 95])) (consA (retE (.str [61])) (consA (retE (.str [55])) (consA (retE (.str [61, 61])) (consA (retE (.str [40])) (consA (retE (.str [41])) (consA (retE (.str [91])) (consA (retE (.str [60])) (consA (retE (.str [101, 97, 99, 104])) (consA (retE (.str [48])) (consA (retE (.str [57, 57, 57, 57, 57, 57, 57, 57, 57, 57])) (consA (retE (.str [35, 32, 48, 48, 55, 32, 36])) (consA (retE (.str [94])) (nilA)))))))))))))))))) (nameG 1)) (retC (ixE (varE 1) (callE (r ._law_draw) (consA (varE 0) (consA (bltH lenM (consA (varE 1) (nilA))) (nilA))))))
/-- _law_digits; slots: 0 _law_state_here, 1 _law_many, 2 _law_text -/
noncomputable def b__law_digits (r : Rc) : Cm :=
  seqC (asgC (ixE (retE (.str [49, 50, 51, 52, 53, 54, 55, 56, 57])) (callE (r ._law_draw) (consA (varE 0) (consA (retE (.int 9)) (nilA))))) (nameG 2)) (seqC (whileC (asT (op2E ltM (bltH lenM (consA (varE 2) (nilA))) (varE 1))) (asgC (op2E addM (varE 2) (ixE (retE (.str [48, 49, 50, 51, 52, 53, 54, 55, 56, 57])) (callE (r ._law_draw) (consA (varE 0) (consA (retE (.int 10)) (nilA)))))) (nameG 2))) (retC (varE 2)))
/-- _law_bad; slots: 0 _law_state_here, 1 _law_kind, 2 _law_marks -/
noncomputable def b__law_bad (r : Rc) : Cm :=
  seqC (asgC (callE (r ._law_draw) (consA (varE 0) (consA (retE (.int 6)) (nilA)))) (nameG 1)) (seqC (ifC (asT (op2E ltM (varE 1) (retE (.int 2)))) (seqC (asgC (retE (.str [95, 62, 36, 64, 63, 123, 125, 34, 39, 33, 38, 59, 124, 126, 46, 47])) (nameG 2)) (retC (ixE (varE 2) (callE (r ._law_draw) (consA (varE 0) (consA (bltH lenM (consA (varE 2) (nilA))) (nilA))))))) (skipC)) (seqC (ifC (asT (op2E eqM (varE 1) (retE (.int 2)))) (retC (op2E addM (op2E addM (ixE (retE (.str [97, 98, 99, 88, 89, 90, 109, 110])) (callE (r ._law_draw) (consA (varE 0) (consA (retE (.int 8)) (nilA))))) (op2E mulM (retE (.str [97, 49, 95, 90])) (retE (.int 4)))) (op2E mulM (retE (.str [113])) (callE (r ._law_draw) (consA (varE 0) (consA (retE (.int 4)) (nilA))))))) (skipC)) (seqC (ifC (asT (op2E eqM (varE 1) (retE (.int 3)))) (retC (op2E addM (op2E addM (retE (.str [48])) (ixE (retE (.str [48, 49, 50, 51, 52, 53, 54, 55, 56, 57])) (callE (r ._law_draw) (consA (varE 0) (consA (retE (.int 10)) (nilA)))))) (op2E mulM (retE (.str [55])) (callE (r ._law_draw) (consA (varE 0) (consA (retE (.int 3)) (nilA))))))) (skipC)) (seqC (ifC (asT (op2E eqM (varE 1) (retE (.int 4)))) (retC (op2E addM (callE (r ._law_digits) (consA (varE 0) (consA (op2E addM (retE (.int 1)) (callE (r ._law_draw) (consA (varE 0) (consA (retE (.int 9)) (nilA))))) (nilA)))) (ixE (retE (.str [97, 95, 90, 120])) (callE (r ._law_draw) (consA (varE 0) (consA (retE (.int 4)) (nilA))))))) (skipC)) (retC (callE (r ._law_digits) (consA (varE 0) (consA (op2E addM (retE (.int 11)) (callE (r ._law_draw) (consA (varE 0) (consA (retE (.int 8)) (nilA))))) (nilA)))))))))
/-- _law_lines; slots: 0 _law_state_here, 1 _law_text, 2 _law_k -/
noncomputable def b__law_lines (r : Rc) : Cm :=
  seqC (asgC (retE (.str [])) (nameG 1)) (seqC (forC (rng1E (callE (r ._law_draw) (consA (varE 0) (consA (retE (.int 13)) (nilA))))) (nameG 2) (seqC (asgC (op2E addM (op2E addM (varE 1) (callE (r ._law_good) (consA (varE 0) (nilA)))) (retE (.str [10]))) (nameG 1)) (ifC (asT (op2E eqM (callE (r ._law_draw) (consA (varE 0) (consA (retE (.int 4)) (nilA)))) (retE (.int 0)))) (asgC (op2E addM (varE 1) (retE (.str [32, 10]))) (nameG 1)) (skipC)))) (retC (op2E addM (varE 1) (op2E mulM (retE (.str [32])) (callE (r ._law_draw) (consA (varE 0) (consA (retE (.int 3)) (nilA))))))))
/-- _law_outcome; slots: 0 _law_text, 1 _law_actual, 2 e -/
noncomputable def b__law_outcome (r : Rc) : Cm :=
  seqC (tryC (asgC (callE (r .tokenize) (consA (varE 0) (nilA))) (nameG 1)) (fun c => match c with | 0 => some true | _ => none) 2 (seqC (ifC (orT (notT (truT (xisE 2 (fun c => match c with | 0 => some true | _ => none)))) (orT (notT (truT (xisE 2 (fun c => match c with | 0 => some true | _ => none)))) (truT (isaE "bool" (xfldE 2 0 0))))) (retC (tupE (consA (retE (.str [119, 114, 111, 110, 103])) (consA (retE (.int 0)) (nilA))))) (skipC)) (retC (tupE (consA (retE (.str [101, 114, 114, 111, 114])) (consA (xfldE 2 0 0) (nilA))))))) (seqC (ifC (notT (truT (isaE "list" (varE 1)))) (retC (tupE (consA (retE (.str [119, 114, 111, 110, 103])) (consA (retE (.int 0)) (nilA))))) (skipC)) (retC (tupE (consA (retE (.str [116, 111, 107, 101, 110, 115])) (consA (retE (.int 0)) (nilA))))))
/-- law; slots: 0 _law_script, 1 _law_state_here, 2 _law_before, 3 _law_bad_here, 4 _law_behind, 5 _law_line, 6 _law_char, 7 _law_near -/
noncomputable def b_law (rho : MV → List Nat) (r : Rc) : Cm :=
  seqC (asgC (callE (r ._law_state) (consA (varE 0) (nilA))) (nameG 1)) (seqC (asgC (callE (r ._law_lines) (consA (varE 1) (nilA))) (nameG 2)) (seqC (asgC (callE (r ._law_bad) (consA (varE 1) (nilA))) (nameG 3)) (seqC (asgC (ixE (frzE (lstL (consA (retE (.str [])) (consA (retE (.str [32, 120])) (consA (retE (.str [10, 61, 32, 58])) (consA (retE (.str [10, 59])) (consA (retE (.str [32, 35, 32, 120])) (nilA)))))))) (callE (r ._law_draw) (consA (varE 1) (consA (retE (.int 5)) (nilA))))) (nameG 4)) (seqC (asgC (op2E addM (retE (.int 1)) (bltH lenM (consA (frzE (lcE (itE (varE 2)) (nameG 6) (asT (op2E eqM (varE 6) (retE (.str [10])))) (varE 6) [6])) (nilA)))) (nameG 5)) (seqC (ifC (asT (op2E neM (callE (r ._law_outcome) (consA (op2E addM (op2E addM (varE 2) (varE 3)) (varE 4)) (nilA))) (tupE (consA (retE (.str [101, 114, 114, 111, 114])) (consA (varE 5) (nilA)))))) (retC (retE (.bl false))) (skipC)) (seqC (asgC (ixE (frzE (lstL (consA (op2E mulM (retE (.str [97])) (retE (.int 16))) (consA (retE (.str [57, 57, 57, 57, 57, 57, 57, 57, 57, 57])) (consA (retE (.str [48])) (consA (retE (.str [90, 95, 57])) (consA (retE (.str [110, 111, 116, 110, 111, 116])) (consA (retE (.str [102, 105, 101, 108, 100, 115])) (nilA))))))))) (callE (r ._law_draw) (consA (varE 1) (consA (retE (.int 6)) (nilA))))) (nameG 7)) (seqC (ifC (asT (op2E neM (callE (r ._law_outcome) (consA (op2E addM (op2E addM (op2E addM (op2E addM (varE 2) (retE (.str [35]))) (varE 3)) (retE (.str [10]))) (varE 7)) (nilA))) (tupE (consA (retE (.str [116, 111, 107, 101, 110, 115])) (consA (retE (.int 0)) (nilA)))))) (retC (retE (.bl false))) (skipC)) (retC (op2E eqM (callE (r ._law_outcome) (consA (op2E addM (op2E addM (varE 2) (varE 7)) (retE (.str [32, 41, 10]))) (nilA))) (tupE (consA (retE (.str [116, 111, 107, 101, 110, 115])) (consA (retE (.int 0)) (nilA)))))))))))))
noncomputable def call : Nat → Fn → List MV → MH → Out MV
  | 0, _, _, _ => .bad
  | k + 1, .is_word, args, M => finC 1 1 (b_is_word (call k)) args M
  | k + 1, .run_end, args, M => finC 3 2 (b_run_end (call k)) args M
  | k + 1, .run_token, args, M => finC 3 2 (b_run_token (call k)) args M
  | k + 1, .sign_at, args, M => finC 3 2 (b_sign_at (call k)) args M
  | k + 1, .tokenize, args, M => finC 6 1 (b_tokenize (call k)) args M
  | k + 1, ._law_state, args, M => finC 3 1 (b__law_state (call k)) args M
  | k + 1, ._law_draw, args, M => finC 5 2 (b__law_draw (call k)) args M
  | k + 1, ._law_good, args, M => finC 2 1 (b__law_good (call k)) args M
  | k + 1, ._law_digits, args, M => finC 3 2 (b__law_digits (call k)) args M
  | k + 1, ._law_bad, args, M => finC 3 1 (b__law_bad (call k)) args M
  | k + 1, ._law_lines, args, M => finC 3 1 (b__law_lines (call k)) args M
  | k + 1, ._law_outcome, args, M => finC 3 1 (b__law_outcome (call k)) args M
theorem call_is_word (k : Nat) (args : List MV) (M : MH) : call (k + 1) .is_word args M = finC 1 1 (b_is_word (call k)) args M := rfl
theorem call_run_end (k : Nat) (args : List MV) (M : MH) : call (k + 1) .run_end args M = finC 3 2 (b_run_end (call k)) args M := rfl
theorem call_run_token (k : Nat) (args : List MV) (M : MH) : call (k + 1) .run_token args M = finC 3 2 (b_run_token (call k)) args M := rfl
theorem call_sign_at (k : Nat) (args : List MV) (M : MH) : call (k + 1) .sign_at args M = finC 3 2 (b_sign_at (call k)) args M := rfl
theorem call_tokenize (k : Nat) (args : List MV) (M : MH) : call (k + 1) .tokenize args M = finC 6 1 (b_tokenize (call k)) args M := rfl
theorem call__law_state (k : Nat) (args : List MV) (M : MH) : call (k + 1) ._law_state args M = finC 3 1 (b__law_state (call k)) args M := rfl
theorem call__law_draw (k : Nat) (args : List MV) (M : MH) : call (k + 1) ._law_draw args M = finC 5 2 (b__law_draw (call k)) args M := rfl
theorem call__law_good (k : Nat) (args : List MV) (M : MH) : call (k + 1) ._law_good args M = finC 2 1 (b__law_good (call k)) args M := rfl
theorem call__law_digits (k : Nat) (args : List MV) (M : MH) : call (k + 1) ._law_digits args M = finC 3 2 (b__law_digits (call k)) args M := rfl
theorem call__law_bad (k : Nat) (args : List MV) (M : MH) : call (k + 1) ._law_bad args M = finC 3 1 (b__law_bad (call k)) args M := rfl
theorem call__law_lines (k : Nat) (args : List MV) (M : MH) : call (k + 1) ._law_lines args M = finC 3 1 (b__law_lines (call k)) args M := rfl
theorem call__law_outcome (k : Nat) (args : List MV) (M : MH) : call (k + 1) ._law_outcome args M = finC 3 1 (b__law_outcome (call k)) args M := rfl
noncomputable def lawG (rho : MV → List Nat) (k : Nat) : List MV → MH → Out MV := finC 8 1 (b_law rho (call k))
end Lw

set_option autoImplicit false
set_option linter.all false
/-! composition of combinators -/
namespace Lw
open Mv
theorem rng_ok {S : Sg} {M : MH} {n : Nat} (h : n < 100000000 := by omega) : rng1E (retE (.int n)) S M = .ok (rngM 0 n) M := by
  have hr : -4611686018427387904 ≤ (n : Int) ∧ (n : Int) < 4611686018427387904 := by omega
  simp [hr]
theorem forC_nx {it : Ex (List MV)} {g : Tg} {b : Cm} {S S' : Sg} {M M1 M' : MH} {vs : List MV} (h : it S M = .ok vs M1) (h2 : forL g b vs S M1 = .nx S' M') : forC it g b S M = .nx S' M' := by simp [h, h2]
theorem seqC_nx {x y : Cm} {S S' : Sg} {M M' : MH} (h : x S M = .nx S' M') : seqC x y S M = y S' M' := by simp [h]
theorem small_of (b : Nat) (h : b < 1000000000 := by omega) : smallI (b : Int) = true := by
  simp only [smallI, decide_eq_true_eq]
  omega
theorem seqC_skip {t : Te} {a y : Cm} {S : Sg} {M : MH} (h : t S M = .ok false M) : seqC (ifC t a skipC) y S M = y S M := by simp [h]
theorem orT_ff {a b : Te} {S : Sg} {M M1 M2 : MH} {x : Bool} (h : a S M = .ok false M1) (h2 : b S M1 = .ok x M2) : orT a b S M = .ok x M2 := by simp [h, h2]
theorem andT_t {a b : Te} {S : Sg} {M M1 M2 : MH} {x : Bool} (h : a S M = .ok true M1) (h2 : b S M1 = .ok x M2) : andT a b S M = .ok x M2 := by simp [h, h2]
theorem andT_f {a b : Te} {S : Sg} {M M1 : MH} (h : a S M = .ok false M1) : andT a b S M = .ok false M1 := by simp [h]
theorem asT_of {a : Ex MV} {S : Sg} {M M1 : MH} {b : Bool} (h : a S M = .ok (.bl b) M1) : asT a S M = .ok b M1 := by simp [h]
theorem op2_of {f : MV → MV → Option MV} {a b : Ex MV} {S : Sg} {M M1 M2 : MH} {x y z : MV} (h : a S M = .ok x M1) (h2 : b S M1 = .ok y M2) (h3 : f x y = some z) : op2E f a b S M = .ok z M2 := by simp [h, h2, h3]
theorem ix_of {a b : Ex MV} {S : Sg} {M M1 M2 : MH} {x y z : MV} (h : a S M = .ok x M1) (h2 : b S M1 = .ok y M2) (h3 : ixM M2 x y = some z) : ixE a b S M = .ok z M2 := by simp only [ixE, op2H, bindE, h, h2, h3, ofOpt]
theorem cons_of {a : Ex MV} {r : Ex (List MV)} {S : Sg} {M M1 M2 : MH} {x : MV} {xs : List MV} (h : a S M = .ok x M1) (h2 : r S M1 = .ok xs M2) : consA a r S M = .ok (x :: xs) M2 := by simp [h, h2]
theorem one_of {a : Ex MV} {S : Sg} {M M1 : MH} {x : MV} (h : a S M = .ok x M1) : consA a nilA S M = .ok [x] M1 := by simp [h]
theorem blt_of {f : MH → List MV → Option MV} {a : Ex (List MV)} {S : Sg} {M M1 : MH} {xs : List MV} {z : MV} (h : a S M = .ok xs M1) (h2 : f M1 xs = some z) : bltH f a S M = .ok z M1 := by simp [h, h2]
theorem call_of {g : List MV → MH → Out MV} {a : Ex (List MV)} {S : Sg} {M M1 M2 : MH} {xs : List MV} {z : MV} (h : a S M = .ok xs M1) (h2 : g xs M1 = .ok z M2) : callE g a S M = .ok z M2 := by simp [h, h2]
theorem frz_of {a : Ex (List MV)} {S : Sg} {M M1 : MH} {xs : List MV} (h : a S M = .ok xs M1) : frzE a S M = .ok (.lst xs) M1 := by simp [h]
theorem lst_of {a : Ex (List MV)} {S : Sg} {M M1 : MH} {xs : List MV} (h : a S M = .ok xs M1) (hl : xs.length ≤ 16777216) : lstL a S M = .ok xs M1 := by simp [h, hl]
theorem tup_of {a : Ex (List MV)} {S : Sg} {M M1 : MH} {xs : List MV} (h : a S M = .ok xs M1) (hl : xs.length ≤ 16777216) : tupE a S M = .ok (.tup xs) M1 := by simp [h, hl]
theorem lc_of {it : Ex (List MV)} {g : Tg} {t : Te} {e : Ex MV} {is : List Nat} {S : Sg} {M M1 M2 : MH} {xs ys : List MV} (h : it S M = .ok xs M1) (h2 : lcL g t e is S xs [] M1 = .ok ys M2) : lcE it g t e is S M = .ok ys M2 := by simp only [lcE, bindE, h, h2]
theorem it_of {a : Ex MV} {S : Sg} {M M1 : MH} {x : MV} {xs : List MV} (h : a S M = .ok x M1) (h2 : itM x = some xs) : itE a S M = .ok xs M1 := by simp only [itE, bindE, h, h2, ofOpt]
theorem meth_of {ty : MV → Bool} {f : MV → List MV → Option MV} {o : Ex MV} {a : Ex (List MV)} {S : Sg} {M M1 M2 : MH} {x z : MV} {xs : List MV} (h : o S M = .ok x M1) (ht : ty x = true) (h2 : a S M1 = .ok xs M2) (h3 : f x xs = some z) : methV ty f o a S M = .ok z M2 := by simp [h, ht, h2, h3]
theorem slice_of {a : Ex MV} {l u : Ex (Option Int)} {S : Sg} {M M1 M2 M3 : MH} {x z : MV} {lo hi : Option Int} (h : a S M = .ok x M1) (h1 : l S M1 = .ok lo M2) (h2 : u S M2 = .ok hi M3) (h3 : slM x lo hi = some z) : sliceE a l u S M = .ok z M3 := by simp only [sliceE, bindE, h, h1, h2, h3, ofOpt]
theorem tru_of {a : Ex MV} {S : Sg} {M M1 : MH} {x : MV} {b : Bool} (h : a S M = .ok x M1) (h2 : truV M1 x = some b) : truT a S M = .ok b M1 := by simp only [truT, bindE, h, h2, ofOpt]
theorem ret_of {a : Ex MV} {S : Sg} {M M1 : MH} {x : MV} (h : a S M = .ok x M1) : retC a S M = .rt x M1 := by simp [h]
theorem asg_of {a : Ex MV} {g : Tg} {S S1 : Sg} {M M1 : MH} {x : MV} (h : a S M = .ok x M1) (h2 : g x S = some S1) : asgC a g S M = .nx S1 M1 := by simp [h, h2]
theorem fin_of {n np : Nat} {b : Cm} {args : List MV} {M M1 : MH} {v : MV} (hl : args.length = np) (h : b (args.map Slot.val ++ List.replicate (n - np) Slot.non) M = .rt v M1) : finC n np b args M = .ok v M1 := by simp only [finC, if_pos hl, h, endF]
theorem app_of {i : Nat} {e : Ex MV} {S : Sg} {M M1 : MH} {xs : List MV} {v : MV} (h : S[i]? = some (.own xs)) (he : e S M = .ok v M1) (hl : xs.length < 16777216) : appOwn i e S M = .nx (S.set i (.own (xs ++ [v]))) M1 := by simp [h, he, hl]
theorem ext_of {i : Nat} {e : Ex (List MV)} {S : Sg} {M M1 : MH} {xs vs : List MV} (h : S[i]? = some (.own xs)) (he : e S M = .ok vs M1) (hl : xs.length + vs.length ≤ 16777216) : extOwn i e S M = .nx (S.set i (.own (xs ++ vs))) M1 := by simp [h, he, hl]
theorem own_of {i : Nat} {e : Ex (List MV)} {S : Sg} {M M1 : MH} {xs : List MV} (he : e S M = .ok xs M1) : ownC i e S M = .nx (S.set i (.own xs)) M1 := by simp [he]
theorem plains_all : ∀ {xs : List MV}, (∀ x ∈ xs, x.plain = true) → MV.plains xs = true
  | [], _ => rfl
  | x :: r, h => by simp only [MV.plains, h x (by simp), plains_all (xs := r) fun y hy => h y (by simp [hy]), Bool.and_self]
theorem shrts_all : ∀ {xs : List MV}, (∀ x ∈ xs, x.shrt = true) → MV.shrts xs = true
  | [], _ => by simp only [MV.shrts]
  | x :: r, h => by simp only [MV.shrts, h x (by simp), shrts_all (xs := r) fun y hy => h y (by simp [hy]), Bool.and_self]
theorem deps_all {n : Nat} : ∀ {xs : List MV}, (∀ x ∈ xs, x.dep ≤ n) → MV.deps xs ≤ n
  | [], _ => by simp [MV.deps]
  | x :: r, h => by
    have h1 := h x (by simp)
    have h2 := deps_all (n := n) (xs := r) fun y hy => h y (by simp [hy])
    simp only [MV.deps]
    omega
theorem wts_all {n : Nat} : ∀ {xs : List MV}, (∀ x ∈ xs, x.wt ≤ n) → MV.wts xs ≤ (n + 1) * xs.length
  | [], _ => by simp [MV.wts]
  | x :: r, h => by
    have h1 := h x (by simp)
    have h2 := wts_all (n := n) (xs := r) fun y hy => h y (by simp [hy])
    simp only [MV.wts, List.length_cons, Nat.mul_add, Nat.mul_one] at *
    omega
theorem repr_of {rho : MV → List Nat} {a : Ex MV} {S : Sg} {M M1 : MH} {x : MV} (h : a S M = .ok x M1) (p1 : x.plain = true) (p2 : x.shrt = true) (p3 : x.dep ≤ 60) (p4 : x.wt ≤ 1048576) : reprE rho a S M = .ok (.str (rho x)) M1 := by
  simp only [reprE, op1E, bindE, h, ofOpt, reprM, p1, p2, decide_eq_true p3, decide_eq_true p4, Bool.and_self, if_true]
theorem var_of {S : Sg} {i : Nat} {v : MV} {M : MH} (h : S[i]? = some (.val v)) : varE i S M = .ok v M := by simp [h]
theorem andV_of {a b : Ex MV} {S : Sg} {M M1 M2 : MH} {x : MV} (h : a S M = .ok (.bl true) M1) (h2 : b S M1 = .ok x M2) : andV a b S M = .ok x M2 := by simp [h, h2]
theorem splitV_ok {s : List Nat} (c : Nat) (h : s.length ≤ 16777214) (hc : c < 256) : splitV (.str s) [.str [c]] = some (.lst ((splitC c [] s).map MV.str)) := by
  simp only [splitV]
  rw [if_pos ⟨h, hc⟩]
theorem add_str {a b : List Nat} (h : a.length + b.length ≤ 16777216) : addM (.str a) (.str b) = some (.str (a ++ b)) := by simp [h]
theorem ltM_nat {i n : Nat} : ltM (.int i) (.int n) = some (.bl (decide (i < n))) := by
  simp only [ltM, cmpM, Int.ofNat_lt]
theorem gtM_nat {i n : Nat} : gtM (.int i) (.int n) = some (.bl (decide (n < i))) := by
  simp only [gtM, cmpM, Int.ofNat_lt]
theorem geM_nat {i n : Nat} : geM (.int i) (.int n) = some (.bl (decide (n ≤ i))) := by
  simp only [geM, cmpM, Int.ofNat_le]
theorem eqM_str {x y : List Nat} : eqM (.str x) (.str y) = some (.bl (x == y)) := rfl
theorem neM_str {x y : List Nat} : neM (.str x) (.str y) = some (.bl (!(x == y))) := rfl
theorem rngv_ok {S : Sg} {M M' : MH} {a : Ex MV} {n : Nat} (e : a S M = .ok (.int n) M') (h : n < 100000000 := by omega) : rng1E a S M = .ok (rngM 0 n) M' := by
  have hr : -4611686018427387904 ≤ (n : Int) ∧ (n : Int) < 4611686018427387904 := by omega
  simp [e, hr]
theorem pull {α : Type} {P : α → Prop} {f : α → MV} : ∀ {ys : List MV}, (∀ y ∈ ys, ∃ a, P a ∧ y = f a) → ∃ as : List α, ys = as.map f ∧ ∀ a ∈ as, P a
  | [], _ => ⟨[], rfl, by simp⟩
  | y :: r, h => by
    obtain ⟨a, ha, e⟩ := h y (by simp)
    obtain ⟨as, e2, h2⟩ := pull (ys := r) fun z hz => h z (by simp [hz])
    exact ⟨a :: as, by simp [e, e2], by simp only [List.mem_cons]; rintro b (rfl | hb); exact ha; exact h2 b hb⟩
theorem flat_len {ps : List (List Nat)} (B : Nat) (h : ∀ p ∈ ps, p.length ≤ B) : (ps.map List.length).sum ≤ B * ps.length := by
  induction ps with
  | nil => simp
  | cons p r ih =>
    have := ih fun q hq => h q (by simp [hq])
    have h2 := h p (by simp)
    simp only [List.map_cons, List.sum_cons, List.length_cons, Nat.mul_add, Nat.mul_one]
    omega
theorem sum_flat (ps : List (List Nat)) : (ps.map List.length).sum = ps.flatten.length := by rw [List.length_flatten]
theorem flatMap_bound {α β : Type} {f : α → List β} {B : Nat} : ∀ {as : List α}, (∀ a ∈ as, (f a).length ≤ B) → (as.flatMap f).length ≤ B * as.length
  | [], _ => by simp
  | a :: r, h => by
    have := flatMap_bound (as := r) (f := f) (B := B) fun b hb => h b (by simp [hb])
    have h2 := h a (by simp)
    simp only [List.flatMap_cons, List.length_append, List.length_cons, Nat.mul_add, Nat.mul_one]
    omega
theorem digs10 {n : Nat} (h : n < 2147483647) : (digs n).length ≤ 10 := digs_len (by omega) (by omega)
theorem shr_of {a : Ex (List MV)} {S : Sg} {M M1 : MH} {xs : List MV} (h : a S M = .ok xs M1) : shrE a S M = .ok (.ref M1.length) (M1 ++ [.lst xs]) := by simp [h]
theorem frz_at {i : Nat} {S : Sg} {M : MH} {xs : List MV} (h : S[i]? = some (.own xs)) : frzC i S M = .nx (S.set i (.val (.lst xs))) M := by simp [h]
end Lw

set_option autoImplicit false
set_option linter.all false
/-! the drawing state -/
namespace Lw
open Mv
def St (M : MH) : Prop := ∃ (cs : List Int) (sd : Int), M = [.lst (cs.map MV.int), .lst [.ref 0, .int sd]]
noncomputable abbrev dcond : Te := (andT (asT (op2E gtM (bltH lenM (consA (varE 2) (nilA))) (retE (.int 0)))) (asT (op2E eqM (ixE (varE 2) (retE (.int 0))) (retE (.int 0)))))
noncomputable abbrev dbody : Cm := (dropC (popRef (varE 2) (retE (.int 0))))
theorem len_ref {S : Sg} {i n : Nat} {M : MH} {xs : List MV} (h : S[i]? = some (.val (.ref n))) (hM : M[n]? = some (.lst xs)) : bltH lenM (consA (varE i) (nilA)) S M = .ok (.int xs.length) M := by simp [h, hM]
theorem ix_ref {n : Nat} {M : MH} {xs : List MV} {i : Nat} {v : MV} (hM : M[n]? = some (.lst xs)) (h : xs[i]? = some v) : ixM M (.ref n) (.int i) = some v := by
  simp only [ixM, hM]
  exact atM_ok h
theorem drop_loop (st m v x : Slot) (b : HObj) : ∀ (cs : List Int), ∃ cs2, (cs2 = [] ∨ ∃ c r, c ≠ 0 ∧ cs2 = c :: r) ∧ whileC dcond dbody [st, m, .val (.ref 0), v, x] [.lst (cs.map MV.int), b] = .nx [st, m, .val (.ref 0), v, x] [.lst (cs2.map MV.int), b]
  | [] => by
    refine ⟨[], .inl rfl, ?_⟩
    have h : dcond [st, m, .val (.ref 0), v, x] [.lst [], b] = .ok false [.lst [], b] := andT_f (asT_of (op2_of (len_ref rfl rfl) rfl (show gtM _ (.int ((0 : Nat) : Int)) = _ by rw [gtM_nat]; rfl)))
    rw [whileC_eq, List.map_nil, h]
  | c :: r => by
    by_cases hc : c = 0
    · subst hc
      obtain ⟨cs2, h2, e⟩ := drop_loop st m v x b r
      refine ⟨cs2, h2, ?_⟩
      have h : dcond [st, m, .val (.ref 0), v, x] [.lst ((0 :: r).map MV.int), b] = .ok true [.lst ((0 :: r).map MV.int), b] := andT_t (asT_of (op2_of (len_ref rfl rfl) rfl (show gtM _ (.int ((0 : Nat) : Int)) = _ by rw [gtM_nat]; simp))) (asT_of (op2_of (ix_of rfl rfl (ix_ref (i := 0) rfl rfl)) rfl rfl))
      have h3 : dbody [st, m, .val (.ref 0), v, x] [.lst ((0 :: r).map MV.int), b] = .nx [st, m, .val (.ref 0), v, x] [.lst (r.map MV.int), b] := by
        simp [ixN_zero]
      rw [whileC_eq, h]
      simp only [h3]
      exact e
    · refine ⟨c :: r, .inr ⟨c, r, hc, rfl⟩, ?_⟩
      have h : dcond [st, m, .val (.ref 0), v, x] [.lst ((c :: r).map MV.int), b] = .ok false [.lst ((c :: r).map MV.int), b] := andT_t (asT_of (op2_of (len_ref rfl rfl) rfl (show gtM _ (.int ((0 : Nat) : Int)) = _ by rw [gtM_nat]; simp))) (asT_of (op2_of (ix_of rfl rfl (ix_ref (i := 0) rfl rfl)) rfl (show eqM (.int c) (.int 0) = _ by simp [eqM, hc])))
      rw [whileC_eq, h]
theorem small48271 : smallI 48271 = true := small_of 48271
theorem small31 : smallI 31 = true := small_of 31
theorem draw_ok (k : Nat) {M : MH} (h : St M) {m : Nat} (hm : 0 < m) (hm2 : m < 1000000) : ∃ v : Nat, v < m ∧ ∃ M', St M' ∧ call (k + 1) ._law_draw [.ref 1, .int m] M = .ok (.int v) M' := by
  obtain ⟨cs, sd, rfl⟩ := h
  rw [call__law_draw]
  have hm0 : m ≠ 0 := by omega
  have hm3 : m < 1073741824 := by omega
  obtain ⟨cs2, h2, e⟩ := drop_loop (.val (.ref 1)) (.val (.int m)) .non .non (.lst [.ref 0, .int sd]) cs
  have e0 := asg_of (g := nameG 2) (S := [.val (.ref 1), .val (.int m), .non, .non, .non]) (M := [.lst (cs.map MV.int), .lst [.ref 0, .int sd]]) (ix_of (a := varE 0) (b := retE (.int ((0 : Nat) : Int))) rfl rfl (ix_ref (i := 0) (n := 1) rfl rfl)) rfl
  rcases h2 with rfl | ⟨c, r, hc, rfl⟩
  · obtain ⟨v, hv, ev⟩ := fmod_nat (((sd * 48271 + 12345).fmod 2147483647).fdiv 64) hm
    refine ⟨v, hv, [.lst [], .lst [.ref 0, .int ((sd * 48271 + 12345).fmod 2147483647)]], ⟨[], _, rfl⟩, fin_of rfl ?_⟩
    refine (seqC_nx e0).trans ((seqC_nx e).trans ?_)
    refine (seqC_skip (asT_of (op2_of (len_ref rfl rfl) rfl (show gtM _ (.int ((0 : Nat) : Int)) = some (.bl false) by rw [gtM_nat]; rfl)))).trans ?_
    have a1 : ixM [.lst [], .lst [.ref 0, .int sd]] (.ref 1) (.int 1) = some (.int sd) := ix_ref (i := 1) rfl rfl
    have a2 : ixN 2 1 = some 1 := by decide
    simp [-ixM, a1, a2, small48271, ev, hm0]
  · obtain ⟨v, hv, ev⟩ := fmod_nat c hm
    refine ⟨v, hv, [.lst ((c.fdiv m :: r).map MV.int), .lst [.ref 0, .int sd]], ⟨_, _, rfl⟩, fin_of rfl ?_⟩
    refine (seqC_nx e0).trans ((seqC_nx e).trans ?_)
    have a1 : ixM [.lst ((c :: r).map MV.int), .lst [.ref 0, .int sd]] (.ref 0) (.int 0) = some (.int c) := ix_ref (i := 0) rfl rfl
    have a3 : (asT (op2E gtM (bltH lenM (consA (varE 2) (nilA))) (retE (.int 0)))) [.val (.ref 1), .val (.int m), .val (.ref 0), .non, .non] [.lst ((c :: r).map MV.int), .lst [.ref 0, .int sd]] = .ok true [.lst ((c :: r).map MV.int), .lst [.ref 0, .int sd]] := asT_of (op2_of (len_ref rfl rfl) rfl (show gtM _ (.int ((0 : Nat) : Int)) = some (.bl true) by rw [gtM_nat]; simp))
    generalize (asT (op2E gtM (bltH lenM (consA (varE 2) (nilA))) (retE (.int 0)))) = T at a3
    simp only [List.map_cons] at a1 a3 ⊢
    simp [-ixM, a1, a3, ixN_zero, ev, hm0, hm3]
theorem state_ok (k : Nat) (ns : List Int) (hn : ns.length ≤ 63) : ∃ M, St M ∧ call (k + 1) ._law_state [.scr (ns.map MV.int)] [] = .ok (.ref 1) M := by
  rw [call__law_state]
  obtain ⟨S1, M1, e1, sd, c, rfl, rfl⟩ := forL_cnt (g := nameG 2) (b := asgC (op2E modM (bltH intM (consA (op2E addM (op2E mulM (varE 1) (retE (.int 31))) (varE 2)) (nilA))) (retE (.int 1000003))) (nameG 1)) (fun i S M => ∃ (sd : Int) (c : Slot), S = [.val (.scr (ns.map MV.int)), .val (.int sd), c] ∧ M = []) (ns.map MV.int) (fun v hv i S M hI hi => by
      obtain ⟨sd, c, rfl, rfl⟩ := hI
      obtain ⟨z, hz, rfl⟩ := List.mem_map.mp hv
      refine ⟨_, rfl, _, _, ?_, (sd * 31 + z).fmod 1000003, .val (.int z), rfl, rfl⟩
      simp [small31]) [.val (.scr (ns.map MV.int)), .val (.int 7), .non] [] ⟨7, .non, rfl, rfl⟩
  have e2 := lcL_as (g := nameG 2) (t := yesT) (e := bltH absM (consA (varE 2) (nilA))) (is := [2]) (S := [.val (.scr (ns.map MV.int)), .val (.int sd), c]) (M := []) MV.int (fun z => .int (if z < 0 then -z else z)) ns [] (fun z hz => ⟨_, rfl, rfl, by simp [wipeS]⟩) (by simp; omega)
  refine ⟨[.lst ((ns.map fun z => if z < 0 then -z else z).map MV.int), .lst [.ref 0, .int (sd + 1)]], ⟨_, _, rfl⟩, fin_of rfl ?_⟩
  refine (seqC_nx (asg_of rfl rfl)).trans ((seqC_nx (forC_nx (it_of rfl rfl) e1)).trans ?_)
  have e3 := lc_of (it := itE (varE 0)) (it_of rfl rfl) e2
  simp only [List.nil_append] at e3
  have e4 : (ns.map fun z => MV.int (if z < 0 then -z else z)) = (ns.map fun z => if z < 0 then -z else z).map MV.int := by simp
  rw [e4] at e3
  have e5 : shrE (lcE (itE (varE 0)) (nameG 2) (yesT) (bltH absM (consA (varE 2) (nilA))) [2]) [.val (.scr (ns.map MV.int)), .val (.int sd), c] [] = .ok (.ref 0) [.lst ((ns.map fun z => if z < 0 then -z else z).map MV.int)] := shr_of e3
  have e6 : op2E addM (varE 1) (retE (.int 1)) [.val (.scr (ns.map MV.int)), .val (.int sd), c] [.lst ((ns.map fun z => if z < 0 then -z else z).map MV.int)] = .ok (.int (sd + 1)) [.lst ((ns.map fun z => if z < 0 then -z else z).map MV.int)] := op2_of rfl rfl rfl
  exact ret_of (shr_of (lst_of (cons_of e5 (one_of e6)) (by simp)))
end Lw

set_option autoImplicit false
set_option linter.all false
set_option maxHeartbeats 1000000
namespace Lw
open Mv
def LET : List Nat := [97, 98, 99, 100, 101, 102, 103, 104, 105, 106, 107, 108, 109, 110, 111, 112, 113, 114, 115, 116, 117, 118, 119, 120, 121, 122, 65, 66, 67, 68, 69, 70, 71, 72, 73, 74, 75, 76, 77, 78, 79, 80, 81, 82, 83, 84, 85, 86, 87, 88, 89, 90]
def DIG : List Nat := [48, 49, 50, 51, 52, 53, 54, 55, 56, 57]
def WCH : List Nat := LET ++ DIG ++ [95]
def STX : List Nat := [61, 61, 32, 40, 32, 41, 32, 91, 32, 93, 32, 44, 32, 61, 32, 60, 32, 58, 32, 43, 32, 45, 32, 42, 32, 94]
def S13 : List (List Nat) := splitC 32 [] STX
theorem ix_str {s : List Nat} {i c : Nat} (h : s[i]? = some c) (hl : s.length ≤ 16777216) (M : MH) : ixM M (.str s) (.int i) = some (.str [c]) := by
  simp only [ixM]
  rw [if_pos hl, atM_ok h]
  rfl
theorem pick {α : Type} {l : List α} {v : Nat} (h : v < l.length) : ∃ c, l[v]? = some c ∧ c ∈ l := ⟨l[v], by simp [h], List.getElem_mem h⟩
theorem mul_sp {n : Nat} (h : n ≤ 1000) (c : Nat) : mulM (.str [c]) (.int n) = some (.str (List.replicate n c)) := by
  simp only [mulM]
  rw [if_pos ⟨by omega, by omega, by simp; omega⟩, Int.toNat_natCast]
  simp [repM]
theorem eqM_nat {i n : Nat} : eqM (.int i) (.int n) = some (.bl (decide (i = n))) := by
  show some (MV.bl ((i : Int) == (n : Int))) = _
  rw [show ((i : Int) == (n : Int)) = decide (i = n) from by rw [Bool.eq_iff_iff]; simp; omega]
theorem eqT {S : Sg} {M M1 : MH} {a : Ex MV} {i : Nat} (n : Nat) (h : a S M = .ok (.int i) M1) : asT (op2E eqM a (retE (.int n))) S M = .ok (decide (i = n)) M1 := asT_of (op2_of h rfl eqM_nat)
theorem ltT {S : Sg} {M M1 : MH} {a : Ex MV} {i : Nat} (n : Nat) (h : a S M = .ok (.int i) M1) : asT (op2E ltM a (retE (.int n))) S M = .ok (decide (i < n)) M1 := asT_of (op2_of h rfl ltM_nat)
theorem gtT {S : Sg} {M M1 : MH} {a : Ex MV} {i : Nat} (n : Nat) (h : a S M = .ok (.int i) M1) : asT (op2E gtM a (retE (.int n))) S M = .ok (decide (n < i)) M1 := asT_of (op2_of h rfl gtM_nat)
theorem if_t {t : Te} {a y : Cm} {S : Sg} {M M1 : MH} (h : t S M = .ok true M1) : ifC t a y S M = a S M1 := by simp [h]
theorem if_f {t : Te} {a y : Cm} {S : Sg} {M M1 : MH} (h : t S M = .ok false M1) : ifC t a y S M = y S M1 := by simp [h]
theorem seq_rt {x y : Cm} {S : Sg} {M M' : MH} {v : MV} (h : x S M = .rt v M') : seqC x y S M = .rt v M' := by simp [h]
theorem seq_skip {t : Te} {a y : Cm} {S : Sg} {M M1 : MH} (h : t S M = .ok false M1) : seqC (ifC t a skipC) y S M = y S M1 := by simp [h]
theorem len_str {S : Sg} {M : MH} {i : Nat} {s : List Nat} (h : S[i]? = some (.val (.str s))) (hl : s.length ≤ 16777216) : bltH lenM (consA (varE i) (nilA)) S M = .ok (.int s.length) M := by simp [h, hl]
theorem let_wch : ∀ c ∈ LET, c ∈ WCH := by decide
def SG : List Nat := [115, 105, 103, 110]
theorem digs_le10 {n : Nat} (h : n < 10000000000) : (digs n).length ≤ 10 := digs_len (by omega) h
theorem s13_len : ∀ g ∈ S13, g.length ≤ 2 ∧ g ≠ [] := by decide
theorem ix_lst {ls : List (List Nat)} {i : Nat} {l : List Nat} (h : ls[i]? = some l) (M : MH) : ixM M (.lst (ls.map MV.str)) (.int i) = some (.str l) := by
  simp only [ixM]
  exact atM_ok (by simp [h])
def cnt (s : List Nat) : Nat := (s.filter (· == 10)).length
theorem cnt_app (a b : List Nat) : cnt (a ++ b) = cnt a + cnt b := by simp [cnt]
theorem drop_pre {α : Type} (a b : List α) : (a ++ b).drop a.length = b := List.drop_left' rfl
theorem orT_t {a b : Te} {S : Sg} {M M1 : MH} (h : a S M = .ok true M1) : orT a b S M = .ok true M1 := by simp [h]
end Lw

set_option autoImplicit false
set_option linter.all false
set_option maxHeartbeats 1000000
/-! the tokenizer -/
namespace Lw
open Mv
noncomputable abbrev tcond : Te := (asT (op2E ltM (varE 3) (bltH lenM (consA (varE 0) (nilA)))))
noncomputable abbrev tbody (r : Rc) : Cm := (ifC (asT (op2E eqM (ixE (varE 0) (varE 3)) (retE (.str [10])))) (seqC (asgC (op2E addM (varE 2) (retE (.int 1))) (nameG 2)) (asgC (op2E addM (varE 3) (retE (.int 1))) (nameG 3))) (ifC (asT (op2E eqM (ixE (varE 0) (varE 3)) (retE (.str [32])))) (asgC (op2E addM (varE 3) (retE (.int 1))) (nameG 3)) (ifC (asT (op2E eqM (ixE (varE 0) (varE 3)) (retE (.str [35])))) (whileC (andT (asT (op2E ltM (varE 3) (bltH lenM (consA (varE 0) (nilA))))) (asT (op2E neM (ixE (varE 0) (varE 3)) (retE (.str [10]))))) (asgC (op2E addM (varE 3) (retE (.int 1))) (nameG 3))) (ifC (asT (op2E gtM (callE (r .run_end) (consA (varE 0) (consA (varE 3) (nilA)))) (varE 3))) (seqC (asgC (callE (r .run_end) (consA (varE 0) (consA (varE 3) (nilA)))) (nameG 4)) (seqC (appOwn 1 (callE (r .run_token) (consA (sliceE (varE 0) (partE (varE 3)) (partE (varE 4))) (consA (varE 2) (nilA))))) (asgC (varE 4) (nameG 3)))) (seqC (asgC (callE (r .sign_at) (consA (varE 0) (consA (varE 3) (nilA)))) (nameG 5)) (seqC (ifC (asT (op2E eqM (varE 5) (retE (.str [])))) (raiseC 0 1 (consA (varE 2) (nilA))) (skipC)) (seqC (appOwn 1 (tupE (consA (retE (.str [115, 105, 103, 110])) (consA (varE 5) (consA (varE 2) (nilA)))))) (asgC (op2E addM (varE 3) (bltH lenM (consA (varE 5) (nilA)))) (nameG 3)))))))))
noncomputable abbrev icond : Te := (andT (asT (op2E ltM (varE 3) (bltH lenM (consA (varE 0) (nilA))))) (asT (op2E neM (ixE (varE 0) (varE 3)) (retE (.str [10])))))
noncomputable abbrev ibody : Cm := (asgC (op2E addM (varE 3) (retE (.int 1))) (nameG 3))
noncomputable abbrev rcond : Te := (andT (asT (op2E ltM (varE 2) (bltH lenM (consA (varE 0) (nilA))))) (asT (op2E inM (ixE (varE 0) (varE 2)) (op2E addM (op2E addM (retE (.str [97, 98, 99, 100, 101, 102, 103, 104, 105, 106, 107, 108, 109, 110, 111, 112, 113, 114, 115, 116, 117, 118, 119, 120, 121, 122, 65, 66, 67, 68, 69, 70, 71, 72, 73, 74, 75, 76, 77, 78, 79, 80, 81, 82, 83, 84, 85, 86, 87, 88, 89, 90])) (retE (.str [48, 49, 50, 51, 52, 53, 54, 55, 56, 57]))) (retE (.str [95]))))))
noncomputable abbrev rbody : Cm := (asgC (op2E addM (varE 2) (retE (.int 1))) (nameG 2))
noncomputable abbrev sbody : Cm := (ifC (asT (op2E eqM (sliceE (varE 0) (partE (varE 1)) (partE (op2E addM (varE 1) (bltH lenM (consA (varE 2) (nilA)))))) (varE 2))) (retC (varE 2)) (skipC))
noncomputable abbrev dgbody : Cm := (ifC (asT (op2E ninM (varE 2) (retE (.str [48, 49, 50, 51, 52, 53, 54, 55, 56, 57])))) (raiseC 0 1 (consA (varE 1) (nilA))) (skipC))
def Stop (r : List Nat) : Prop := ∀ c q, r = c :: q → c ∉ WCH
theorem drop_get {T : List Nat} {p c : Nat} {r : List Nat} (h : T.drop p = c :: r) : T[p]? = some c ∧ T.drop (p + 1) = r ∧ p < T.length := by
  have h1 : T[p]? = some c := by
    have := List.getElem?_drop (xs := T) (i := p) (j := 0)
    rw [h] at this
    simpa using this.symm
  refine ⟨h1, ?_, ?_⟩
  · rw [← List.drop_drop, h]; rfl
  · obtain ⟨hl, _⟩ := List.getElem?_eq_some_iff.mp h1
    exact hl
theorem drop_nil {T : List Nat} {p : Nat} (h : T.drop p = []) : T.length ≤ p := by
  have := congrArg List.length h
  simp only [List.length_drop, List.length_nil] at this
  omega
theorem inS (c : Nat) (s : List Nat) : inM (.str [c]) (.str s) = some (.bl (decide (c ∈ s))) := rfl
theorem wchE (S : Sg) (M : MH) : (op2E addM (op2E addM (retE (.str [97, 98, 99, 100, 101, 102, 103, 104, 105, 106, 107, 108, 109, 110, 111, 112, 113, 114, 115, 116, 117, 118, 119, 120, 121, 122, 65, 66, 67, 68, 69, 70, 71, 72, 73, 74, 75, 76, 77, 78, 79, 80, 81, 82, 83, 84, 85, 86, 87, 88, 89, 90])) (retE (.str [48, 49, 50, 51, 52, 53, 54, 55, 56, 57]))) (retE (.str [95]))) S M = .ok (.str WCH) M := op2_of (op2_of rfl rfl (add_str (by decide))) rfl (add_str (by decide))
theorem run_loop {T : List Nat} (hT : T.length ≤ 1000000) (a : Slot) (M : MH) : ∀ (run : List Nat) (p : Nat) (r : List Nat), T.drop p = run ++ r → (∀ c ∈ run, c ∈ WCH) → Stop r → whileC rcond rbody [.val (.str T), a, .val (.int p)] M = .nx [.val (.str T), a, .val (.int ((p + run.length : Nat) : Int))] M
  | [], p, r, hd, _, hs => by
    have e : rcond [.val (.str T), a, .val (.int p)] M = .ok false M := by
      cases r with
      | nil => exact andT_f (asT_of (op2_of rfl (len_str rfl (by omega)) (by rw [ltM_nat, decide_eq_false (by have := drop_nil hd; omega)])))
      | cons c q =>
        obtain ⟨h1, _, h3⟩ := drop_get hd
        exact andT_t (asT_of (op2_of rfl (len_str rfl (by omega)) (by rw [ltM_nat, decide_eq_true h3]))) (asT_of (op2_of (ix_of rfl rfl (ix_str h1 (by omega) M)) (wchE _ M) (by rw [inS, decide_eq_false (hs c q rfl)])))
    rw [whileC_eq, e]
    simp
  | c :: q, p, r, hd, hw, hs => by
    obtain ⟨h1, h2, h3⟩ := drop_get hd
    have ih := run_loop hT a M q (p + 1) r h2 (fun b hb => hw b (by simp [hb])) hs
    have e : rcond [.val (.str T), a, .val (.int p)] M = .ok true M := andT_t (asT_of (op2_of rfl (len_str rfl (by omega)) (by rw [ltM_nat, decide_eq_true h3]))) (asT_of (op2_of (ix_of rfl rfl (ix_str h1 (by omega) M)) (wchE _ M) (by rw [inS, decide_eq_true (hw c (by simp))])))
    have e2 : rbody [.val (.str T), a, .val (.int p)] M = .nx [.val (.str T), a, .val (.int ((p + 1 : Nat) : Int))] M := asg_of (op2_of rfl rfl rfl) rfl
    rw [whileC_eq, e]
    simp only [e2, ih]
    rw [show p + 1 + q.length = p + (c :: q).length by simp only [List.length_cons]; omega]
theorem run_end_ok (k : Nat) {T : List Nat} (hT : T.length ≤ 1000000) {p : Nat} {run r : List Nat} (hd : T.drop p = run ++ r) (hw : ∀ c ∈ run, c ∈ WCH) (hs : Stop r) (M : MH) : call (k + 1) .run_end [.str T, .int p] M = .ok (.int ((p + run.length : Nat) : Int)) M := by
  rw [call_run_end]
  exact fin_of rfl ((seqC_nx (asg_of rfl rfl)).trans ((seqC_nx (run_loop hT (.val (.int p)) M run p r hd hw hs)).trans (ret_of rfl)))
theorem cm_loop {T : List Nat} (hT : T.length ≤ 1000000) (d l e s : Slot) (M : MH) : ∀ (c : List Nat) (p : Nat) (r : List Nat), T.drop p = c ++ r → 10 ∉ c → (r = [] ∨ ∃ q, r = 10 :: q) → whileC icond ibody [.val (.str T), d, l, .val (.int p), e, s] M = .nx [.val (.str T), d, l, .val (.int ((p + c.length : Nat) : Int)), e, s] M
  | [], p, r, hd, _, hs => by
    have e0 : icond [.val (.str T), d, l, .val (.int p), e, s] M = .ok false M := by
      rcases hs with rfl | ⟨q, rfl⟩
      · exact andT_f (asT_of (op2_of rfl (len_str rfl (by omega)) (by rw [ltM_nat, decide_eq_false (by have := drop_nil hd; omega)])))
      · obtain ⟨h1, _, h3⟩ := drop_get hd
        exact andT_t (asT_of (op2_of rfl (len_str rfl (by omega)) (by rw [ltM_nat, decide_eq_true h3]))) (asT_of (op2_of (ix_of rfl rfl (ix_str h1 (by omega) M)) rfl (by rw [neM_str]; rfl)))
    rw [whileC_eq, e0]
    simp
  | c :: q, p, r, hd, hw, hs => by
    obtain ⟨h1, h2, h3⟩ := drop_get hd
    simp only [List.mem_cons, not_or] at hw
    have ih := cm_loop hT d l e s M q (p + 1) r h2 hw.2 hs
    have e0 : icond [.val (.str T), d, l, .val (.int p), e, s] M = .ok true M := andT_t (asT_of (op2_of rfl (len_str rfl (by omega)) (by rw [ltM_nat, decide_eq_true h3]))) (asT_of (op2_of (ix_of rfl rfl (ix_str h1 (by omega) M)) rfl (by rw [neM_str]; simp [Ne.symm hw.1])))
    have e2 : ibody [.val (.str T), d, l, .val (.int p), e, s] M = .nx [.val (.str T), d, l, .val (.int ((p + 1 : Nat) : Int)), e, s] M := asg_of (op2_of rfl rfl rfl) rfl
    rw [whileC_eq, e0]
    simp only [e2, ih]
    rw [show p + 1 + q.length = p + (c :: q).length by simp only [List.length_cons]; omega]
theorem cut_str {T : List Nat} {p n : Nat} (hp : p ≤ T.length) : cutM T (some (p : Int)) (some ((p + n : Nat) : Int)) = (T.drop p).take n := by
  simp only [cutM, cutI]
  rw [if_neg (by omega), if_neg (by omega), Int.toNat_natCast, Int.toNat_natCast, show min p T.length = p by omega]
  by_cases h : p + n ≤ T.length
  · rw [show min (p + n) T.length - p = n by omega]
  · rw [List.take_of_length_le (by simp; omega), List.take_of_length_le (by simp; omega)]
def fst' : List (List Nat) → List Nat → Option (List Nat)
  | [], _ => none
  | s :: r, t => if t.take s.length == s then some s else fst' r t
theorem forC_any {it : Ex (List MV)} {g : Tg} {b : Cm} {S : Sg} {M M1 : MH} {vs : List MV} {o : Fl} (h : it S M = .ok vs M1) (h2 : forL g b vs S M1 = o) : forC it g b S M = o := by simp [h, h2]
theorem sign_loop {T : List Nat} (hT : T.length ≤ 1000000) {p : Nat} (hp : p ≤ T.length) (M : MH) {g : List Nat} : ∀ (gs : List (List Nat)) (x : Slot), (∀ s ∈ gs, s.length ≤ 2) → fst' gs (T.drop p) = some g → forL (nameG 2) sbody (gs.map MV.str) [.val (.str T), .val (.int p), x] M = .rt (.str g) M
  | [], x, _, h => by simp [fst'] at h
  | s :: r, x, hl, h => by
    have hs := hl s (by simp)
    have e1 : asT (op2E eqM (sliceE (varE 0) (partE (varE 1)) (partE (op2E addM (varE 1) (bltH lenM (consA (varE 2) (nilA)))))) (varE 2)) [.val (.str T), .val (.int p), .val (.str s)] M = .ok ((T.drop p).take s.length == s) M := by
      refine asT_of (op2_of (slice_of (lo := some (p : Int)) (hi := some ((p + s.length : Nat) : Int)) rfl rfl ?_ ?_) rfl eqM_str)
      · have := op2_of (f := addM) (a := varE 1) (b := bltH lenM (consA (varE 2) (nilA))) (S := [.val (.str T), .val (.int p), .val (.str s)]) (M := M) rfl (len_str (s := s) rfl (by omega)) (z := .int ((p + s.length : Nat) : Int)) (by simp)
        simp only [partE, bindE, this, ofOpt]
      · simp only [slM]
        rw [if_pos (by omega), cut_str hp]
    simp only [fst'] at h
    simp only [List.map_cons, forL, nameG, List.set_cons_succ, List.set_cons_zero]
    by_cases hb : ((T.drop p).take s.length == s) = true
    · rw [hb] at e1 h
      simp only [if_true] at h
      cases h
      have : sbody [.val (.str T), .val (.int p), .val (.str g)] M = .rt (.str g) M := (if_t e1).trans (ret_of rfl)
      rw [this]
    · have hb : ((T.drop p).take s.length == s) = false := by simpa using hb
      rw [hb] at e1 h
      have : sbody [.val (.str T), .val (.int p), .val (.str s)] M = .nx [.val (.str T), .val (.int p), .val (.str s)] M := if_f e1
      rw [this]
      exact sign_loop hT hp M r _ (fun q hq => hl q (by simp [hq])) (by simpa using h)
theorem sign_at_ok (k : Nat) {T : List Nat} (hT : T.length ≤ 1000000) {p : Nat} (hp : p ≤ T.length) {g : List Nat} (h : fst' S13 (T.drop p) = some g) (M : MH) : call (k + 1) .sign_at [.str T, .int p] M = .ok (.str g) M := by
  rw [call_sign_at]
  have := sign_loop hT hp M S13 .non (fun s hs => (s13_len s hs).1) h
  exact fin_of rfl (seq_rt (forC_any (it_of (x := k_SIGNS) (xs := S13.map MV.str) rfl rfl) this))
theorem fst_sign {g r : List Nat} (hg : g ∈ S13) (hr : g = [61] → ∀ q, r ≠ 61 :: q) : fst' S13 (g ++ r) = some g := by
  have hS : S13 = [[61, 61], [40], [41], [91], [93], [44], [61], [60], [58], [43], [45], [42], [94]] := by decide
  rw [hS] at hg ⊢
  simp only [List.mem_cons, List.not_mem_nil, or_false] at hg
  rcases hg with rfl | rfl | rfl | rfl | rfl | rfl | rfl | rfl | rfl | rfl | rfl | rfl | rfl
  all_goals first | (simp [fst']; done) | skip
  cases r with
  | nil => simp [fst']
  | cons c q =>
    have : c ≠ 61 := fun e => hr rfl q (by rw [e])
    simp [fst', this]
/-! ### a run -/
def l12 : List MV := [.str [102, 105, 101, 108, 100], .str [105, 110, 112, 117, 116], .str [102, 117, 110, 99, 116, 105, 111, 110], .str [108, 101, 116], .str [111, 117, 116, 112, 117, 116], .str [105, 102], .str [116, 104, 101, 110], .str [101, 108, 115, 101], .str [115, 117, 109], .str [112, 114, 111, 100, 117, 99, 116], .str [101, 97, 99, 104], .str [114, 101, 112, 101, 97, 116]]
def l4 : List MV := [.str [119, 105, 116, 104], .str [97, 110, 100], .str [111, 114], .str [110, 111, 116]]
def wordB (s : List Nat) : Bool := decide (MV.str s ∈ l12) || decide (MV.str s ∈ l4)
theorem in_tup (s : List Nat) (l : List MV) (h : l.all flatM = true) : inM (.str s) (.tup l) = some (.bl (decide (MV.str s ∈ l))) := by
  cases s with
  | nil => simp only [inM, flatM, h, Bool.and_self, if_true]
  | cons c r => simp only [inM, flatM, h, Bool.and_self, if_true]
theorem is_word_ok (k : Nat) (s : List Nat) (M : MH) : call (k + 1) .is_word [.str s] M = .ok (.bl (wordB s)) M := by
  rw [call_is_word]
  refine fin_of rfl (ret_of ?_)
  have e1 : op2E inM (varE 0) (retE k_WORDS) [.val (.str s)] M = .ok (.bl (decide (MV.str s ∈ l12))) M := op2_of rfl rfl (in_tup s l12 (by decide))
  have e2 : op2E inM (varE 0) (retE k_MORE_WORDS) [.val (.str s)] M = .ok (.bl (decide (MV.str s ∈ l4))) M := op2_of rfl rfl (in_tup s l4 (by decide))
  have key : ∀ (b : Bool), op2E inM (varE 0) (retE k_WORDS) [.val (.str s)] M = .ok (.bl b) M → orV (op2E inM (varE 0) (retE k_WORDS)) (op2E inM (varE 0) (retE k_MORE_WORDS)) [.val (.str s)] M = .ok (.bl (b || decide (MV.str s ∈ l4))) M := by
    intro b hb
    cases b with
    | true => simp only [orV, bindE, hb, onBl]; rfl
    | false => simp only [orV, bindE, hb, onBl]; exact e2
  exact key _ e1
theorem letter_token (k : Nat) {c : Nat} {r : List Nat} (hc : c ∈ LET) (hl : (c :: r).length ≤ 16) (l : Int) (M : MH) : call (k + 2) .run_token [.str (c :: r), .int l] M = .ok (.tup [.str (if wordB (c :: r) then [119, 111, 114, 100] else [110, 97, 109, 101]), .str (c :: r), .int l]) M := by
  rw [call_run_token]
  have t1 : asT (op2E inM (ixE (varE 0) (retE (.int 0))) (retE (.str LET))) [.val (.str (c :: r)), .val (.int l), .non] M = .ok true M := asT_of (op2_of (ix_of rfl rfl (ix_str (i := 0) rfl (by omega) M)) rfl (by rw [inS, decide_eq_true hc]))
  have t2 : asT (op2E gtM (bltH lenM (consA (varE 0) (nilA))) (retE (.int 16))) [.val (.str (c :: r)), .val (.int l), .non] M = .ok false M := asT_of (op2_of (len_str rfl (by omega)) rfl (show gtM _ (.int ((16 : Nat) : Int)) = _ by rw [gtM_nat, decide_eq_false (by omega)]))
  refine fin_of rfl (seq_rt ((if_t t1).trans ((seq_skip t2).trans (ret_of (tup_of (cons_of ?_ (cons_of rfl (one_of rfl))) (by simp))))))
  have e := is_word_ok k (c :: r) M
  have e2 : truT (callE (call (k + 1) .is_word) (consA (varE 0) (nilA))) [.val (.str (c :: r)), .val (.int l), .non] M = .ok (wordB (c :: r)) M := tru_of (call_of (one_of rfl) e) rfl
  show iteE _ _ _ [.val (.str (c :: r)), .val (.int l), .non] M = _
  simp only [iteE, bindE, e2]
  cases wordB (c :: r) <;> rfl
theorem num_token (k : Nat) {n : Nat} (hn : n < 10000000000) (l : Int) (M : MH) : call (k + 2) .run_token [.str (digs n), .int l] M = .ok (.tup [.str [110, 117, 109, 98, 101, 114], .int n, .int l]) M := by
  rw [call_run_token]
  have hd := digs_le10 hn
  have hm : ∀ c ∈ digs n, c ∈ DIG := fun c hc => by
    have := digs_mem hc
    simp only [DIG, List.mem_cons, List.not_mem_nil, or_false]
    omega
  have hdl : ∀ c ∈ DIG, c ∉ LET := by decide
  have hall : (digs n).all (fun c => decide (48 ≤ c ∧ c ≤ 57)) = true := List.all_eq_true.mpr fun c hc => decide_eq_true (digs_mem hc)
  have h0 : digs n ≠ [] := digs_ne
  have hv := @digs_val n
  have hh := @digs_head n
  generalize digs n = s at *
  obtain ⟨c, r, rfl⟩ : ∃ c r, s = c :: r := by
    cases s with
    | nil => exact absurd rfl h0
    | cons c r => exact ⟨c, r, rfl⟩
  have t1 : asT (op2E inM (ixE (varE 0) (retE (.int 0))) (retE (.str LET))) [.val (.str (c :: r)), .val (.int l), .non] M = .ok false M := asT_of (op2_of (ix_of rfl rfl (ix_str (i := 0) rfl (by omega) M)) rfl (by rw [inS, decide_eq_false (hdl c (hm c (by simp)))]))
  have t2 : asT (op2E gtM (bltH lenM (consA (varE 0) (nilA))) (retE (.int 10))) [.val (.str (c :: r)), .val (.int l), .non] M = .ok false M := asT_of (op2_of (len_str rfl (by omega)) rfl (show gtM _ (.int ((10 : Nat) : Int)) = _ by rw [gtM_nat, decide_eq_false (by omega)]))
  have t3 : andT (asT (op2E gtM (bltH lenM (consA (varE 0) (nilA))) (retE (.int 1)))) (asT (op2E eqM (ixE (varE 0) (retE (.int 0))) (retE (.str [48])))) [.val (.str (c :: r)), .val (.int l), .non] M = .ok false M := by
    by_cases hr : r = []
    · subst hr
      exact andT_f (asT_of (op2_of (len_str rfl (by omega)) rfl (show gtM _ (.int ((1 : Nat) : Int)) = _ by rw [gtM_nat]; rfl)))
    · have := List.length_pos_iff.mpr hr
      refine andT_t (asT_of (op2_of (len_str rfl (by omega)) rfl (show gtM _ (.int ((1 : Nat) : Int)) = _ by rw [gtM_nat, decide_eq_true (by simp; omega)]))) (asT_of (op2_of (ix_of rfl rfl (ix_str (i := 0) rfl (by omega) M)) rfl ?_))
      rw [eqM_str]
      simp [hh rfl hr]
  obtain ⟨S2, M2, e2, x, rfl, rfl⟩ := forL_cnt (g := nameG 2) (b := dgbody) (fun i S M' => ∃ x : Slot, S = [.val (.str (c :: r)), .val (.int l), x] ∧ M' = M) ((c :: r).map fun c => MV.str [c]) (fun v hv i S M' hI _ => by
    obtain ⟨x, rfl, rfl⟩ := hI
    obtain ⟨z, hz, rfl⟩ := List.mem_map.mp hv
    refine ⟨_, rfl, _, _, if_f (asT_of (op2_of rfl rfl (z := .bl false) ?_)), _, rfl, rfl⟩
    simp only [ninM]
    rw [inS, decide_eq_true (show z ∈ [48, 49, 50, 51, 52, 53, 54, 55, 56, 57] from hm z hz)]
    rfl) [.val (.str (c :: r)), .val (.int l), .non] M ⟨_, rfl, rfl⟩
  refine fin_of rfl ((seq_skip t1).trans ((seq_skip (orT_ff t2 t3)).trans ((seqC_nx (forC_nx (it_of rfl rfl) e2)).trans (ret_of (tup_of (cons_of rfl (cons_of (blt_of (one_of rfl) ?_) (one_of rfl))) (by simp))))))
  simp only [intM]
  rw [if_pos ⟨by simp, hall, by omega⟩, hv]
end Lw

set_option autoImplicit false
set_option linter.all false
set_option maxHeartbeats 1000000
/-! the tokenizer's steps -/
namespace Lw
open Mv
noncomputable def Wt (k : Nat) (T : List Nat) (M : MH) (d : List MV) (l p : Nat) (e s : Slot) : Fl := whileC tcond (tbody (call (k + 2))) [.val (.str T), .own d, .val (.int l), .val (.int p), e, s] M
def Rch (k : Nat) (T : List Nat) (M : MH) (d : List MV) (l p : Nat) (d2 : List MV) (l2 p2 : Nat) : Prop := ∀ e s, ∃ e2 s2, Wt k T M d l p e s = Wt k T M d2 l2 p2 e2 s2
theorem Rch.refl {k : Nat} {T : List Nat} {M : MH} {d : List MV} {l p : Nat} : Rch k T M d l p d l p := fun e s => ⟨e, s, rfl⟩
theorem Rch.trans {k : Nat} {T : List Nat} {M : MH} {d d2 d3 : List MV} {l p l2 p2 l3 p3 : Nat} (h : Rch k T M d l p d2 l2 p2) (h2 : Rch k T M d2 l2 p2 d3 l3 p3) : Rch k T M d l p d3 l3 p3 := fun e s => by
  obtain ⟨e2, s2, q⟩ := h e s
  obtain ⟨e3, s3, q2⟩ := h2 e2 s2
  exact ⟨e3, s3, q.trans q2⟩
section
variable {k : Nat} {T : List Nat} {M : MH} {d : List MV} {l p : Nat}
theorem tc_true (hT : T.length ≤ 1000000) (hp : p < T.length) (x y : Slot) (e s : Slot) : tcond [.val (.str T), x, y, .val (.int p), e, s] M = .ok true M := asT_of (op2_of rfl (len_str rfl (by omega)) (by rw [ltM_nat, decide_eq_true hp]))
theorem step {d2 : List MV} {l2 p2 : Nat} (hT : T.length ≤ 1000000) (hp : p < T.length) (h : ∀ e s, ∃ e2 s2, tbody (call (k + 2)) [.val (.str T), .own d, .val (.int l), .val (.int p), e, s] M = .nx [.val (.str T), .own d2, .val (.int l2), .val (.int p2), e2, s2] M) : Rch k T M d l p d2 l2 p2 := fun e s => by
  obtain ⟨e2, s2, q⟩ := h e s
  refine ⟨e2, s2, ?_⟩
  unfold Wt
  rw [whileC_eq, tc_true hT hp]
  simp only [q]
theorem ch_test (n : Nat) {c : Nat} (hT : T.length ≤ 1000000) (h : T[p]? = some c) (x y e s : Slot) : asT (op2E eqM (ixE (varE 0) (varE 3)) (retE (.str [n]))) [.val (.str T), x, y, .val (.int p), e, s] M = .ok (decide (c = n)) M := asT_of (op2_of (ix_of rfl rfl (ix_str h (by omega) M)) rfl (by rw [eqM_str, show ([c] == [n]) = decide (c = n) from by rw [Bool.eq_iff_iff]; simp]))
theorem ch_test_f (n : Nat) {c : Nat} (hT : T.length ≤ 1000000) (h : T[p]? = some c) (hn : c ≠ n) (x y e s : Slot) : asT (op2E eqM (ixE (varE 0) (varE 3)) (retE (.str [n]))) [.val (.str T), x, y, .val (.int p), e, s] M = .ok false M := (ch_test n hT h x y e s).trans (by rw [decide_eq_false hn])
theorem ch_test_t (n : Nat) (hT : T.length ≤ 1000000) (h : T[p]? = some n) (x y e s : Slot) : asT (op2E eqM (ixE (varE 0) (varE 3)) (retE (.str [n]))) [.val (.str T), x, y, .val (.int p), e, s] M = .ok true M := (ch_test n hT h x y e s).trans (by rw [decide_eq_true rfl])
theorem rch_nl (hT : T.length ≤ 1000000) {r : List Nat} (hd : T.drop p = 10 :: r) : Rch k T M d l p d (l + 1) (p + 1) := by
  obtain ⟨h1, h2, h3⟩ := drop_get hd
  exact step hT h3 fun e s => ⟨e, s, (if_t (ch_test_t 10 hT h1 _ _ _ _)).trans ((seqC_nx (asg_of (op2_of rfl rfl rfl) rfl)).trans (asg_of (op2_of rfl rfl rfl) rfl))⟩
theorem rch_sp (hT : T.length ≤ 1000000) {r : List Nat} (hd : T.drop p = 32 :: r) : Rch k T M d l p d l (p + 1) := by
  obtain ⟨h1, h2, h3⟩ := drop_get hd
  exact step hT h3 fun e s => ⟨e, s, (if_f (ch_test_f 10 hT h1 (by decide) _ _ _ _)).trans ((if_t (ch_test_t 32 hT h1 _ _ _ _)).trans (asg_of (op2_of rfl rfl rfl) rfl))⟩
theorem rch_cm (hT : T.length ≤ 1000000) {c r : List Nat} (hd : T.drop p = (35 :: c) ++ r) (hc : 10 ∉ c) (hr : r = [] ∨ ∃ q, r = 10 :: q) : Rch k T M d l p d l (p + (35 :: c).length) := by
  obtain ⟨h1, h2, h3⟩ := drop_get (show T.drop p = 35 :: (c ++ r) from hd)
  refine step hT h3 fun e s => ⟨e, s, (if_f (ch_test_f 10 hT h1 (by decide) _ _ _ _)).trans ((if_f (ch_test_f 32 hT h1 (by decide) _ _ _ _)).trans ((if_t (ch_test_t 35 hT h1 _ _ _ _)).trans (cm_loop hT _ _ e s M (35 :: c) p r hd ?_ hr)))⟩
  simp [hc]
theorem rch_run (hT : T.length ≤ 1000000) {run r : List Nat} {tok : MV} (hd : T.drop p = run ++ r) (h0 : run ≠ []) (hw : ∀ c ∈ run, c ∈ WCH) (hs : Stop r) (ht : call (k + 2) .run_token [.str run, .int l] M = .ok tok M) (hl : d.length ≤ 1000) : Rch k T M d l p (d ++ [tok]) l (p + run.length) := by
  obtain ⟨c, q, rfl⟩ : ∃ c q, run = c :: q := by
    cases run with
    | nil => exact absurd rfl h0
    | cons c r => exact ⟨c, r, rfl⟩
  obtain ⟨h1, h2, h3⟩ := drop_get (show T.drop p = c :: (q ++ r) from hd)
  have hn : ∀ b ∈ WCH, b ≠ 10 ∧ b ≠ 32 ∧ b ≠ 35 := by decide
  obtain ⟨n1, n2, n3⟩ := hn c (hw c (by simp))
  have e1 := run_end_ok (k + 1) hT hd hw hs M
  refine step hT h3 fun e s => ⟨.val (.int ((p + (c :: q).length : Nat) : Int)), s, (if_f (ch_test_f 10 hT h1 n1 _ _ _ _)).trans ((if_f (ch_test_f 32 hT h1 n2 _ _ _ _)).trans ((if_f (ch_test_f 35 hT h1 n3 _ _ _ _)).trans ((if_t (asT_of (op2_of (call_of (cons_of rfl (one_of rfl)) e1) rfl (by rw [gtM_nat, decide_eq_true (by simp)])))).trans ?_)))⟩
  have hsl : sliceE (varE 0) (partE (varE 3)) (partE (varE 4)) [.val (.str T), .own d, .val (.int l), .val (.int p), .val (.int ((p + (c :: q).length : Nat) : Int)), s] M = .ok (.str (c :: q)) M := by
    refine slice_of rfl rfl rfl ?_
    simp only [slM]
    rw [if_pos (by omega), cut_str (by omega), hd, List.take_left' rfl]
  exact (seqC_nx (asg_of (call_of (cons_of rfl (one_of rfl)) e1) rfl)).trans ((seqC_nx (app_of rfl (call_of (cons_of hsl (one_of rfl)) ht) (by omega))).trans (asg_of rfl rfl))
theorem s13_head : ∀ g ∈ S13, g.headD 0 ∉ WCH ∧ g.headD 0 ≠ 10 ∧ g.headD 0 ≠ 32 ∧ g.headD 0 ≠ 35 := by decide
theorem rch_sign (hT : T.length ≤ 1000000) {g r : List Nat} (hd : T.drop p = g ++ r) (hg : g ∈ S13) (hr : g = [61] → ∀ q, r ≠ 61 :: q) (hl : d.length ≤ 1000) : Rch k T M d l p (d ++ [.tup [.str SG, .str g, .int l]]) l (p + g.length) := by
  have hfs := fst_sign hg hr
  have hlen := s13_len g hg
  have hh := s13_head g hg
  have hd0 := hd
  obtain ⟨c, q, rfl⟩ : ∃ c q, g = c :: q := by
    cases g with
    | nil => exact absurd rfl hlen.2
    | cons c r => exact ⟨c, r, rfl⟩
  obtain ⟨h1, h2, h3⟩ := drop_get (show T.drop p = c :: (q ++ r) from hd)
  obtain ⟨n0, n1, n2, n3⟩ := hh
  simp only [List.headD_cons] at n0 n1 n2 n3
  rw [← hd] at hfs
  have e1 := run_end_ok (k + 1) hT (run := []) (r := T.drop p) rfl (by simp) (fun b z hz => by
    rw [hd] at hz
    cases hz
    exact n0) M
  have e2 := sign_at_ok (k + 1) hT (by omega) hfs M
  refine step hT h3 fun e s => ⟨e, .val (.str (c :: q)), (if_f (ch_test_f 10 hT h1 n1 _ _ _ _)).trans ((if_f (ch_test_f 32 hT h1 n2 _ _ _ _)).trans ((if_f (ch_test_f 35 hT h1 n3 _ _ _ _)).trans ((if_f (asT_of (op2_of (call_of (cons_of rfl (one_of rfl)) e1) rfl (by rw [gtM_nat, decide_eq_false (by simp)])))).trans ?_)))⟩
  have hll : (c :: q).length ≤ 16777216 := by omega
  refine (seqC_nx (asg_of (call_of (cons_of rfl (one_of rfl)) e2) rfl)).trans ((seq_skip (asT_of (op2_of rfl rfl eqM_str))).trans ((seqC_nx (app_of rfl (tup_of (cons_of rfl (cons_of rfl (one_of rfl))) (by simp)) (by omega))).trans (asg_of (op2_of rfl (len_str rfl hll) (z := .int ((p + (c :: q).length : Nat) : Int)) (by simp)) rfl)))
end
end Lw

set_option autoImplicit false
set_option linter.all false
set_option maxHeartbeats 1000000
/-! what raises -/
namespace Lw
open Mv
theorem call_ex {g : List MV → MH → Out MV} {a : Ex (List MV)} {S : Sg} {M M1 M2 : MH} {xs : List MV} {c : Nat} {fs : List MV} (h : a S M = .ok xs M1) (h2 : g xs M1 = .exc c fs M2) : callE g a S M = .exc c fs M2 := by simp [h, h2]
theorem seqC_ex {x y : Cm} {S S' : Sg} {M M' : MH} {c : Nat} {fs : List MV} (h : x S M = .exc c fs S' M') : seqC x y S M = .exc c fs S' M' := by simp [h]
theorem app_ex {i : Nat} {e : Ex MV} {S : Sg} {M M1 : MH} {xs : List MV} {c : Nat} {fs : List MV} (h : S[i]? = some (.own xs)) (he : e S M = .exc c fs M1) : appOwn i e S M = .exc c fs S M1 := by simp [h, he]
theorem asg_ex {a : Ex MV} {g : Tg} {S : Sg} {M M1 : MH} {c : Nat} {fs : List MV} (h : a S M = .exc c fs M1) : asgC a g S M = .exc c fs S M1 := by simp [h]
theorem raise1 {i : Nat} {S : Sg} {M : MH} {v : MV} (h : S[i]? = some (.val v)) : raiseC 0 1 (consA (varE i) nilA) S M = .exc 0 [v] S M := by simp [h]
theorem fin_ex {n np : Nat} {b : Cm} {args : List MV} {M M1 : MH} {S' : Sg} {c : Nat} {fs : List MV} (hl : args.length = np) (h : b (args.map Slot.val ++ List.replicate (n - np) Slot.non) M = .exc c fs S' M1) : finC n np b args M = .exc c fs M1 := by simp only [finC, if_pos hl, h, endF]
def Raises (run : List Nat) : Prop := ∀ (k : Nat) (l : Int) (M : MH), call (k + 2) .run_token [.str run, .int l] M = .exc 0 [.int l] M
def Reads (run : List Nat) : Prop := ∀ (k : Nat) (l : Int) (M : MH), ∃ tok, call (k + 2) .run_token [.str run, .int l] M = .ok tok M
theorem raises_long {c : Nat} {r : List Nat} (hc : c ∈ LET) (hl : 16 < (c :: r).length) (hl2 : (c :: r).length ≤ 1000) : Raises (c :: r) := fun k l M => by
  rw [call_run_token]
  have t1 : asT (op2E inM (ixE (varE 0) (retE (.int 0))) (retE (.str LET))) [.val (.str (c :: r)), .val (.int l), .non] M = .ok true M := asT_of (op2_of (ix_of rfl rfl (ix_str (i := 0) rfl (by omega) M)) rfl (by rw [inS, decide_eq_true hc]))
  have t2 : asT (op2E gtM (bltH lenM (consA (varE 0) (nilA))) (retE (.int 16))) [.val (.str (c :: r)), .val (.int l), .non] M = .ok true M := asT_of (op2_of (len_str rfl (by omega)) rfl (show gtM _ (.int ((16 : Nat) : Int)) = _ by rw [gtM_nat, decide_eq_true (by omega)]))
  exact fin_ex rfl (seqC_ex ((if_t t1).trans (seqC_ex ((if_t t2).trans (raise1 rfl)))))
theorem dg_loop (x : Slot) (l : Int) (M : MH) : ∀ (s : List Nat) (y : Slot), (∃ c ∈ s, c ∉ DIG) → ∃ S', forL (nameG 2) dgbody (s.map fun c => MV.str [c]) [x, .val (.int l), y] M = .exc 0 [.int l] S' M
  | [], y, ⟨c, h, _⟩ => by cases h
  | c :: r, y, h => by
    have e0 : nameG 2 (.str [c]) [x, .val (.int l), y] = some [x, .val (.int l), .val (.str [c])] := rfl
    by_cases hc : c ∈ DIG
    · obtain ⟨b, hb, hn⟩ := h
      have hb2 : b ∈ r := by
        rcases List.mem_cons.mp hb with rfl | hb
        · exact absurd hc hn
        · exact hb
      obtain ⟨S', e⟩ := dg_loop x l M r (.val (.str [c])) ⟨b, hb2, hn⟩
      have e1 : dgbody [x, .val (.int l), .val (.str [c])] M = .nx [x, .val (.int l), .val (.str [c])] M := if_f (asT_of (op2_of rfl rfl (z := .bl false) (by simp only [ninM]; rw [inS, decide_eq_true (show c ∈ [48, 49, 50, 51, 52, 53, 54, 55, 56, 57] from hc)]; rfl)))
      refine ⟨S', ?_⟩
      simp only [List.map_cons, forL, e0, e1]
      exact e
    · have e1 : dgbody [x, .val (.int l), .val (.str [c])] M = .exc 0 [.int l] [x, .val (.int l), .val (.str [c])] M := (if_t (asT_of (op2_of rfl rfl (z := .bl true) (by simp only [ninM]; rw [inS, decide_eq_false (show ¬ c ∈ [48, 49, 50, 51, 52, 53, 54, 55, 56, 57] from hc)]; rfl)))).trans (raise1 rfl)
      refine ⟨[x, .val (.int l), .val (.str [c])], ?_⟩
      simp only [List.map_cons, forL, e0, e1]
theorem raises_num {c : Nat} {r : List Nat} (hc : c ∉ LET) (hl2 : (c :: r).length ≤ 1000) (h : 10 < (c :: r).length ∨ (r ≠ [] ∧ c = 48) ∨ ∃ b ∈ c :: r, b ∉ DIG) : Raises (c :: r) := fun k l M => by
  rw [call_run_token]
  have t1 : asT (op2E inM (ixE (varE 0) (retE (.int 0))) (retE (.str LET))) [.val (.str (c :: r)), .val (.int l), .non] M = .ok false M := asT_of (op2_of (ix_of rfl rfl (ix_str (i := 0) rfl (by omega) M)) rfl (by rw [inS, decide_eq_false hc]))
  have t2 : asT (op2E gtM (bltH lenM (consA (varE 0) (nilA))) (retE (.int 10))) [.val (.str (c :: r)), .val (.int l), .non] M = .ok (decide (10 < (c :: r).length)) M := asT_of (op2_of (len_str rfl (by omega)) rfl (show gtM _ (.int ((10 : Nat) : Int)) = _ by rw [gtM_nat]))
  have t3 : andT (asT (op2E gtM (bltH lenM (consA (varE 0) (nilA))) (retE (.int 1)))) (asT (op2E eqM (ixE (varE 0) (retE (.int 0))) (retE (.str [48])))) [.val (.str (c :: r)), .val (.int l), .non] M = .ok (decide (r ≠ [] ∧ c = 48)) M := by
    by_cases hr : r = []
    · subst hr
      refine (andT_f (asT_of (op2_of (len_str rfl (by omega)) rfl (show gtM _ (.int ((1 : Nat) : Int)) = _ by rw [gtM_nat]; rfl)))).trans ?_
      simp
    · have := List.length_pos_iff.mpr hr
      refine (andT_t (asT_of (op2_of (len_str rfl (by omega)) rfl (show gtM _ (.int ((1 : Nat) : Int)) = _ by rw [gtM_nat, decide_eq_true (by simp; omega)]))) (asT_of (op2_of (ix_of rfl rfl (ix_str (i := 0) rfl (by omega) M)) rfl eqM_str))).trans ?_
      rw [show ([c] == [48]) = decide (r ≠ [] ∧ c = 48) from by rw [Bool.eq_iff_iff]; simp [hr]]
  by_cases h1 : 10 < (c :: r).length
  · rw [decide_eq_true h1] at t2
    exact fin_ex rfl ((seq_skip t1).trans (seqC_ex ((if_t (orT_t t2)).trans (raise1 rfl))))
  · rw [decide_eq_false h1] at t2
    by_cases h2 : r ≠ [] ∧ c = 48
    · rw [decide_eq_true h2] at t3
      exact fin_ex rfl ((seq_skip t1).trans (seqC_ex ((if_t (orT_ff t2 t3)).trans (raise1 rfl))))
    · rw [decide_eq_false h2] at t3
      have h3 : ∃ b ∈ c :: r, b ∉ DIG := by
        rcases h with h | h | h
        · exact absurd h h1
        · exact absurd h h2
        · exact h
      obtain ⟨S', e⟩ := dg_loop (.val (.str (c :: r))) l M (c :: r) .non h3
      exact fin_ex rfl ((seq_skip t1).trans ((seq_skip (orT_ff t2 t3)).trans (seqC_ex (forC_any (it_of rfl rfl) e))))
def MK : List Nat := [62, 36, 64, 63, 123, 125, 34, 39, 33, 38, 59, 124, 126, 46, 47]
def BadT (b : List Nat) : Prop := (∃ c ∈ MK, b = [c]) ∨ (b ≠ [] ∧ (∀ c ∈ b, c ∈ WCH) ∧ b.length ≤ 100 ∧ Raises b)
theorem sign_none {T : List Nat} (hT : T.length ≤ 1000000) {p : Nat} (hp : p ≤ T.length) (M : MH) : ∀ (gs : List (List Nat)) (x : Slot), (∀ s ∈ gs, s.length ≤ 2) → fst' gs (T.drop p) = none → ∃ x', forL (nameG 2) sbody (gs.map MV.str) [.val (.str T), .val (.int p), x] M = .nx [.val (.str T), .val (.int p), x'] M
  | [], x, _, h => ⟨x, by simp only [List.map_nil, forL, skipC]⟩
  | s :: r, x, hl, h => by
    have hs := hl s (by simp)
    have e1 : asT (op2E eqM (sliceE (varE 0) (partE (varE 1)) (partE (op2E addM (varE 1) (bltH lenM (consA (varE 2) (nilA)))))) (varE 2)) [.val (.str T), .val (.int p), .val (.str s)] M = .ok ((T.drop p).take s.length == s) M := by
      refine asT_of (op2_of (slice_of (lo := some (p : Int)) (hi := some ((p + s.length : Nat) : Int)) rfl rfl ?_ ?_) rfl eqM_str)
      · have := op2_of (f := addM) (a := varE 1) (b := bltH lenM (consA (varE 2) (nilA))) (S := [.val (.str T), .val (.int p), .val (.str s)]) (M := M) rfl (len_str (s := s) rfl (by omega)) (z := .int ((p + s.length : Nat) : Int)) (by simp)
        simp only [partE, bindE, this, ofOpt]
      · simp only [slM]
        rw [if_pos (by omega), cut_str hp]
    simp only [fst'] at h
    simp only [List.map_cons, forL, nameG, List.set_cons_succ, List.set_cons_zero]
    by_cases hb : ((T.drop p).take s.length == s) = true
    · rw [hb] at h
      cases h
    · have hb : ((T.drop p).take s.length == s) = false := by simpa using hb
      rw [hb] at e1 h
      have : sbody [.val (.str T), .val (.int p), .val (.str s)] M = .nx [.val (.str T), .val (.int p), .val (.str s)] M := if_f e1
      rw [this]
      exact sign_none hT hp M r _ (fun q hq => hl q (by simp [hq])) (by simpa using h)
theorem sign_at_none (k : Nat) {T : List Nat} (hT : T.length ≤ 1000000) {p : Nat} (hp : p ≤ T.length) (h : fst' S13 (T.drop p) = none) (M : MH) : call (k + 1) .sign_at [.str T, .int p] M = .ok (.str []) M := by
  rw [call_sign_at]
  obtain ⟨x', e⟩ := sign_none hT hp M S13 .non (fun s hs => (s13_len s hs).1) h
  exact fin_of rfl ((seqC_nx (forC_nx (it_of (x := k_SIGNS) (xs := S13.map MV.str) rfl rfl) e)).trans (ret_of rfl))
theorem fst_mark {c : Nat} {r : List Nat} (hc : c ∈ MK) : fst' S13 (c :: r) = none := by
  have hS : S13 = [[61, 61], [40], [41], [91], [93], [44], [61], [60], [58], [43], [45], [42], [94]] := by decide
  rw [hS]
  simp only [MK, List.mem_cons, List.not_mem_nil, or_false] at hc
  rcases hc with rfl | rfl | rfl | rfl | rfl | rfl | rfl | rfl | rfl | rfl | rfl | rfl | rfl | rfl | rfl
  all_goals simp [fst']
theorem err_body (k : Nat) {T : List Nat} {M : MH} {d : List MV} {l p : Nat} (hT : T.length ≤ 1000000) {b r : List Nat} (hb : BadT b) (hd : T.drop p = b ++ r) (hs : Stop r) (e s : Slot) : ∃ S', tbody (call (k + 2)) [.val (.str T), .own d, .val (.int l), .val (.int p), e, s] M = .exc 0 [.int l] S' M := by
  rcases hb with ⟨c, hc, rfl⟩ | ⟨h0, hw, hbl, hr⟩
  · obtain ⟨h1, h2, h3⟩ := drop_get (show T.drop p = c :: r from hd)
    have hm : ∀ c ∈ MK, c ∉ WCH ∧ c ≠ 10 ∧ c ≠ 32 ∧ c ≠ 35 := by decide
    obtain ⟨n0, n1, n2, n3⟩ := hm c hc
    have e1 := run_end_ok (k + 1) hT (run := []) (r := T.drop p) rfl (by simp) (fun b z hz => by
      rw [hd] at hz
      cases hz
      exact n0) M
    have e2 := sign_at_none (k + 1) hT (by omega) (p := p) (by rw [hd]; exact fst_mark hc) M
    refine ⟨[.val (.str T), .own d, .val (.int l), .val (.int p), e, .val (.str [])], (if_f (ch_test_f 10 hT h1 n1 _ _ _ _)).trans ((if_f (ch_test_f 32 hT h1 n2 _ _ _ _)).trans ((if_f (ch_test_f 35 hT h1 n3 _ _ _ _)).trans ((if_f (asT_of (op2_of (call_of (cons_of rfl (one_of rfl)) e1) rfl (by rw [gtM_nat, decide_eq_false (by simp)])))).trans ?_)))⟩
    exact (seqC_nx (asg_of (call_of (cons_of rfl (one_of rfl)) e2) rfl)).trans (seqC_ex ((if_t (asT_of (op2_of rfl rfl eqM_str))).trans (raise1 rfl)))
  · obtain ⟨c, q, rfl⟩ : ∃ c q, b = c :: q := by
      cases b with
      | nil => exact absurd rfl h0
      | cons c r => exact ⟨c, r, rfl⟩
    obtain ⟨h1, h2, h3⟩ := drop_get (show T.drop p = c :: (q ++ r) from hd)
    have hn : ∀ b ∈ WCH, b ≠ 10 ∧ b ≠ 32 ∧ b ≠ 35 := by decide
    obtain ⟨n1, n2, n3⟩ := hn c (hw c (by simp))
    have e1 := run_end_ok (k + 1) hT hd hw hs M
    refine ⟨[.val (.str T), .own d, .val (.int l), .val (.int p), .val (.int ((p + (c :: q).length : Nat) : Int)), s], (if_f (ch_test_f 10 hT h1 n1 _ _ _ _)).trans ((if_f (ch_test_f 32 hT h1 n2 _ _ _ _)).trans ((if_f (ch_test_f 35 hT h1 n3 _ _ _ _)).trans ((if_t (asT_of (op2_of (call_of (cons_of rfl (one_of rfl)) e1) rfl (by rw [gtM_nat, decide_eq_true (by simp)])))).trans ?_)))⟩
    have hsl : sliceE (varE 0) (partE (varE 3)) (partE (varE 4)) [.val (.str T), .own d, .val (.int l), .val (.int p), .val (.int ((p + (c :: q).length : Nat) : Int)), s] M = .ok (.str (c :: q)) M := by
      refine slice_of rfl rfl rfl ?_
      simp only [slM]
      rw [if_pos (by omega), cut_str (by omega), hd, List.take_left' rfl]
    exact (seqC_nx (asg_of (call_of (cons_of rfl (one_of rfl)) e1) rfl)).trans (seqC_ex (app_ex rfl (call_ex (cons_of hsl (one_of rfl)) (hr k l M))))
end Lw

set_option autoImplicit false
set_option linter.all false
set_option maxHeartbeats 1000000
/-! texts that are read -/
namespace Lw
open Mv
def Pre (k : Nat) (Q : List Nat → Prop) (text : List Nat) : Prop := ∀ rest, Q rest → (text ++ rest).length ≤ 1000 → ∀ M, ∃ due, due.length ≤ text.length ∧ Rch k (text ++ rest) M [] 1 0 due (1 + cnt text) text.length
def QAny : List Nat → Prop := fun _ => True
def QJ (r : List Nat) : Prop := Stop r ∧ ∀ q, r ≠ 61 :: q
def QC (r : List Nat) : Prop := r = [] ∨ ∃ q, r = 10 :: q
theorem stop_of {c : Nat} {q : List Nat} (h : c ∉ WCH) : Stop (c :: q) := fun b z hz => by cases hz; exact h
theorem stop_nil : Stop [] := fun b z hz => by cases hz
theorem pre_nil (k : Nat) : Pre k QAny [] := fun rest _ _ M => ⟨[], by simp, Rch.refl⟩
theorem pre_nl {k : Nat} {Q : List Nat → Prop} {text : List Nat} (h : Pre k Q text) (hQ : ∀ q, Q (10 :: q)) : Pre k QAny (text ++ [10]) := fun rest _ hl M => by
  rw [List.append_assoc] at hl ⊢
  obtain ⟨due, h1, h2⟩ := h ([10] ++ rest) (hQ rest) hl M
  refine ⟨due, by simp; omega, ?_⟩
  have s := rch_nl (k := k) (M := M) (d := due) (l := 1 + cnt text) (p := text.length) (show (text ++ ([10] ++ rest)).length ≤ 1000000 by omega) (drop_pre text _)
  have := h2.trans s
  rw [cnt_app, List.length_append]
  exact this
theorem pre_sp {k : Nat} {Q : List Nat → Prop} {text : List Nat} (h : Pre k Q text) (hQ : ∀ q, Q (32 :: q)) : Pre k QAny (text ++ [32]) := fun rest _ hl M => by
  rw [List.append_assoc] at hl ⊢
  obtain ⟨due, h1, h2⟩ := h ([32] ++ rest) (hQ rest) hl M
  refine ⟨due, by simp; omega, ?_⟩
  have s := rch_sp (k := k) (M := M) (d := due) (l := 1 + cnt text) (p := text.length) (show (text ++ ([32] ++ rest)).length ≤ 1000000 by omega) (drop_pre text _)
  have := h2.trans s
  rw [cnt_app, List.length_append]
  exact this
theorem cnt0 {s : List Nat} (h : 10 ∉ s) : cnt s = 0 := by
  simp only [cnt, List.length_eq_zero_iff, List.filter_eq_nil_iff, beq_iff_eq]
  rintro a ha rfl
  exact h ha
theorem pre_run {k : Nat} {text run : List Nat} (h : Pre k QAny text) (h0 : run ≠ []) (hw : ∀ c ∈ run, c ∈ WCH) (hr : Reads run) : Pre k QJ (text ++ run) := fun rest hq hl M => by
  rw [List.append_assoc] at hl ⊢
  obtain ⟨due, h1, h2⟩ := h (run ++ rest) trivial hl M
  obtain ⟨tok, ht⟩ := hr k ((1 + cnt text : Nat) : Int) M
  have hlen := List.length_pos_iff.mpr h0
  have htl : text.length ≤ 1000 := by simp at hl; omega
  have hn : ∀ b ∈ WCH, b ≠ 10 := by decide
  have s := rch_run (k := k) (M := M) (d := due) (l := 1 + cnt text) (p := text.length) (show (text ++ (run ++ rest)).length ≤ 1000000 by omega) (drop_pre text _) h0 hw hq.1 ht (by omega)
  refine ⟨due ++ [tok], by simp; omega, ?_⟩
  have := h2.trans s
  rw [cnt_app, List.length_append, cnt0 (fun z => hn 10 (hw 10 z) rfl)]
  exact this
theorem pre_sign {k : Nat} {text g : List Nat} (h : Pre k QAny text) (hg : g ∈ S13) : Pre k QJ (text ++ g) := fun rest hq hl M => by
  rw [List.append_assoc] at hl ⊢
  obtain ⟨due, h1, h2⟩ := h (g ++ rest) trivial hl M
  have hlen := List.length_pos_iff.mpr (s13_len g hg).2
  have htl : text.length ≤ 1000 := by simp at hl; omega
  have hn : ∀ g ∈ S13, 10 ∉ g := by decide
  have s := rch_sign (k := k) (M := M) (d := due) (l := 1 + cnt text) (p := text.length) (show (text ++ (g ++ rest)).length ≤ 1000000 by omega) (drop_pre text _) hg (fun _ => hq.2) (by omega)
  refine ⟨due ++ [MV.tup [MV.str SG, MV.str g, MV.int ((1 + cnt text : Nat) : Int)]], by simp; omega, ?_⟩
  have := h2.trans s
  rw [cnt_app, List.length_append, cnt0 (hn g hg)]
  exact this
theorem pre_comm {k : Nat} {text c : List Nat} (h : Pre k QAny text) (hc : 10 ∉ c) : Pre k QC (text ++ 35 :: c) := fun rest hq hl M => by
  rw [List.append_assoc] at hl ⊢
  obtain ⟨due, h1, h2⟩ := h (35 :: c ++ rest) trivial hl M
  have s := rch_cm (k := k) (M := M) (d := due) (l := 1 + cnt text) (p := text.length) (show (text ++ (35 :: c ++ rest)).length ≤ 1000000 by omega) (drop_pre text _) hc hq
  refine ⟨due, by simp; omega, ?_⟩
  have := h2.trans s
  rw [cnt_app, List.length_append, cnt0 (s := 35 :: c) (by simp [hc])]
  exact this
theorem qj10 (q : List Nat) : QJ (10 :: q) := ⟨stop_of (by decide), fun z hz => by cases hz⟩
theorem qj32 (q : List Nat) : QJ (32 :: q) := ⟨stop_of (by decide), fun z hz => by cases hz⟩
theorem qj0 : QJ [] := ⟨stop_nil, fun z hz => by cases hz⟩
theorem reads_let {c : Nat} {r : List Nat} (hc : c ∈ LET) (hl : (c :: r).length ≤ 16) : Reads (c :: r) := fun k l M => ⟨_, letter_token k hc hl l M⟩
theorem reads_num {n : Nat} (h : n < 10000000000) : Reads (digs n) := fun k l M => ⟨_, num_token k h l M⟩
def GOOD : List (List Nat) := [[97], [115, 117, 109], [120, 49, 95], [61], [55], [61, 61], [40], [41], [91], [60], [101, 97, 99, 104], [48], [57, 57, 57, 57, 57, 57, 57, 57, 57, 57], [35, 32, 48, 48, 55, 32, 36], [94]]
def NEAR : List (List Nat) := [[97, 97, 97, 97, 97, 97, 97, 97, 97, 97, 97, 97, 97, 97, 97, 97], [57, 57, 57, 57, 57, 57, 57, 57, 57, 57], [48], [90, 95, 57], [110, 111, 116, 110, 111, 116], [102, 105, 101, 108, 100, 115]]
theorem d9 : digs 9999999999 = [57, 57, 57, 57, 57, 57, 57, 57, 57, 57] := by decide +kernel
theorem d0 : digs 0 = [48] := by decide +kernel
theorem d7 : digs 7 = [55] := by decide +kernel
theorem pre_good {k : Nat} {text g : List Nat} (h : Pre k QAny text) (hg : g ∈ GOOD) : Pre k QAny (text ++ g ++ [10]) := by
  simp only [GOOD, List.mem_cons, List.not_mem_nil, or_false] at hg
  have nine := reads_num (n := 9999999999) (by omega)
  have zero := reads_num (n := 0) (by omega)
  have seven := reads_num (n := 7) (by omega)
  rw [d9] at nine
  rw [d0] at zero
  rw [d7] at seven
  rcases hg with rfl | rfl | rfl | rfl | rfl | rfl | rfl | rfl | rfl | rfl | rfl | rfl | rfl | rfl | rfl
  · exact pre_nl (pre_run h (by simp) (by decide) (reads_let (by decide) (by decide))) qj10
  · exact pre_nl (pre_run h (by simp) (by decide) (reads_let (by decide) (by decide))) qj10
  · exact pre_nl (pre_run h (by simp) (by decide) (reads_let (by decide) (by decide))) qj10
  · exact pre_nl (pre_sign h (by decide)) qj10
  · exact pre_nl (pre_run h (by simp) (by decide) seven) qj10
  · exact pre_nl (pre_sign h (by decide)) qj10
  · exact pre_nl (pre_sign h (by decide)) qj10
  · exact pre_nl (pre_sign h (by decide)) qj10
  · exact pre_nl (pre_sign h (by decide)) qj10
  · exact pre_nl (pre_sign h (by decide)) qj10
  · exact pre_nl (pre_run h (by simp) (by decide) (reads_let (by decide) (by decide))) qj10
  · exact pre_nl (pre_run h (by simp) (by decide) zero) qj10
  · exact pre_nl (pre_run h (by simp) (by decide) nine) qj10
  · exact pre_nl (pre_comm h (by decide)) (fun q => .inr ⟨q, rfl⟩)
  · exact pre_nl (pre_sign h (by decide)) qj10
theorem pre_near {k : Nat} {text g : List Nat} (h : Pre k QAny text) (hg : g ∈ NEAR) : Pre k QJ (text ++ g) := by
  simp only [NEAR, List.mem_cons, List.not_mem_nil, or_false] at hg
  have nine := reads_num (n := 9999999999) (by omega)
  have zero := reads_num (n := 0) (by omega)
  rw [d9] at nine
  rw [d0] at zero
  rcases hg with rfl | rfl | rfl | rfl | rfl | rfl
  · exact pre_run h (by simp) (by decide) (reads_let (by decide) (by decide))
  · exact pre_run h (by simp) (by decide) nine
  · exact pre_run h (by simp) (by decide) zero
  · exact pre_run h (by simp) (by decide) (reads_let (by decide) (by decide))
  · exact pre_run h (by simp) (by decide) (reads_let (by decide) (by decide))
  · exact pre_run h (by simp) (by decide) (reads_let (by decide) (by decide))
/-! outcomes -/
theorem tok_end (k : Nat) {Q : List Nat → Prop} {T : List Nat} (h : Pre k Q T) (hQ : Q []) (hl : T.length ≤ 1000) (M : MH) : ∃ xs, call (k + 3) .tokenize [.str T] M = .ok (.lst xs) M := by
  rw [call_tokenize]
  obtain ⟨due, h1, h2⟩ := h [] hQ (by simpa using hl) M
  rw [List.append_nil] at h2
  obtain ⟨e2, s2, e⟩ := h2 .non .non
  have ef : Wt k T M due (1 + cnt T) T.length e2 s2 = .nx [.val (.str T), .own due, .val (.int ((1 + cnt T : Nat) : Int)), .val (.int ((T.length : Nat) : Int)), e2, s2] M := by
    unfold Wt
    have : tcond [.val (.str T), .own due, .val (.int ((1 + cnt T : Nat) : Int)), .val (.int ((T.length : Nat) : Int)), e2, s2] M = .ok false M := asT_of (op2_of rfl (len_str rfl (by omega)) (by rw [ltM_nat, decide_eq_false (by omega)]))
    rw [whileC_eq, this]
  rw [ef] at e
  refine ⟨due ++ [.tup [.str [101, 110, 100], .str [], .int ((1 + cnt T : Nat) : Int)]], fin_of rfl ?_⟩
  refine (seqC_nx (own_of (lst_of (xs := []) rfl (by simp)))).trans ((seqC_nx (asg_of rfl rfl)).trans ((seqC_nx (asg_of rfl rfl)).trans ((seqC_nx e).trans ?_)))
  refine (seqC_nx (app_of rfl (tup_of (cons_of rfl (cons_of rfl (one_of rfl))) (by simp)) (by omega))).trans ?_
  exact (seqC_nx (frz_at rfl)).trans (ret_of rfl)
theorem tok_err (k : Nat) {T b r : List Nat} (h : Pre k QAny T) (hb : BadT b) (hs : Stop r) (hl : (T ++ (b ++ r)).length ≤ 1000) (M : MH) : call (k + 3) .tokenize [.str (T ++ (b ++ r))] M = .exc 0 [.int ((1 + cnt T : Nat) : Int)] M := by
  rw [call_tokenize]
  obtain ⟨due, h1, h2⟩ := h (b ++ r) trivial hl M
  obtain ⟨e2, s2, e⟩ := h2 .non .non
  obtain ⟨S', e3⟩ := err_body k (M := M) (d := due) (l := 1 + cnt T) (p := T.length) (show (T ++ (b ++ r)).length ≤ 1000000 by omega) hb (drop_pre T _) hs e2 s2
  have hb0 : 0 < b.length := by
    rcases hb with ⟨c, _, rfl⟩ | ⟨h0, _⟩
    · simp
    · exact List.length_pos_iff.mpr h0
  have ef : Wt k (T ++ (b ++ r)) M due (1 + cnt T) T.length e2 s2 = .exc 0 [.int ((1 + cnt T : Nat) : Int)] S' M := by
    unfold Wt
    rw [whileC_eq, tc_true (by omega) (by simp; omega)]
    simp only [e3]
  rw [ef] at e
  exact fin_ex rfl ((seqC_nx (own_of (lst_of (xs := []) rfl (by simp)))).trans ((seqC_nx (asg_of rfl rfl)).trans ((seqC_nx (asg_of rfl rfl)).trans (seqC_ex e))))
end Lw

set_option autoImplicit false
set_option linter.all false
set_option maxHeartbeats 1000000
/-! what the law draws -/
namespace Lw
open Mv
theorem good_ok (k : Nat) {M : MH} (h : St M) : ∃ g ∈ GOOD, ∃ M', St M' ∧ call (k + 2) ._law_good [.ref 1] M = .ok (.str g) M' := by
  rw [call__law_good]
  obtain ⟨u, hu, M2, h2, e3⟩ := draw_ok k h (m := 15) (by omega) (by omega)
  obtain ⟨g, hg, hm⟩ := pick (l := GOOD) (v := u) hu
  refine ⟨g, hm, M2, h2, fin_of rfl ?_⟩
  refine (seqC_nx (asg_of (x := .lst (GOOD.map MV.str)) (frz_of (lst_of (xs := GOOD.map MV.str) rfl (by decide))) rfl)).trans ?_
  exact ret_of (ix_of rfl (call_of (cons_of rfl (one_of (blt_of (z := .int 15) (one_of rfl) rfl))) e3) (ix_lst hg M2))
noncomputable abbrev gcond : Te := (asT (op2E ltM (bltH lenM (consA (varE 2) (nilA))) (varE 1)))
noncomputable abbrev gbody (r : Rc) : Cm := (asgC (op2E addM (varE 2) (ixE (retE (.str [48, 49, 50, 51, 52, 53, 54, 55, 56, 57])) (callE (r ._law_draw) (consA (varE 0) (consA (retE (.int 10)) (nilA)))))) (nameG 2))
theorem dig_loop (k : Nat) (size : Nat) (hz : size ≤ 20) : ∀ (d : Nat) (s : List Nat) (M : MH), St M → s.length + d = size → ∃ t, t.length = d ∧ (∀ c ∈ t, c ∈ DIG) ∧ ∃ M', St M' ∧ whileC gcond (gbody (call (k + 1))) [.val (.ref 1), .val (.int size), .val (.str s)] M = .nx [.val (.ref 1), .val (.int size), .val (.str (s ++ t))] M'
  | 0, s, M, h, hd => by
    refine ⟨[], rfl, by simp, M, h, ?_⟩
    have e : gcond [.val (.ref 1), .val (.int size), .val (.str s)] M = .ok false M := asT_of (op2_of (len_str rfl (by omega)) rfl (by rw [ltM_nat, decide_eq_false (by omega)]))
    rw [whileC_eq, e]
    simp
  | d + 1, s, M, h, hd => by
    obtain ⟨u, hu, M1, h1, e1⟩ := draw_ok k h (m := 10) (by omega) (by omega)
    obtain ⟨c, hc, hm⟩ := pick (l := DIG) (v := u) hu
    obtain ⟨t, ht, hw, M2, h2, e2⟩ := dig_loop k size hz d (s ++ [c]) M1 h1 (by simp; omega)
    refine ⟨c :: t, by simp [ht], by simp only [List.mem_cons]; rintro b (rfl | hb); exact hm; exact hw b hb, M2, h2, ?_⟩
    have e : gcond [.val (.ref 1), .val (.int size), .val (.str s)] M = .ok true M := asT_of (op2_of (len_str rfl (by omega)) rfl (by rw [ltM_nat, decide_eq_true (by omega)]))
    have e3 : gbody (call (k + 1)) [.val (.ref 1), .val (.int size), .val (.str s)] M = .nx [.val (.ref 1), .val (.int size), .val (.str (s ++ [c]))] M1 := asg_of (op2_of rfl (ix_of rfl (call_of (cons_of rfl (one_of rfl)) e1) (ix_str hc (by decide) M1)) (add_str (by simp; omega))) rfl
    rw [whileC_eq, e]
    simp only [e3]
    refine e2.trans ?_
    simp
theorem digits_ok (k : Nat) {M : MH} (h : St M) {n : Nat} (hn : n < 20) : ∃ c r, c ∈ DIG ∧ (∀ b ∈ r, b ∈ DIG) ∧ r.length = n ∧ ∃ M', St M' ∧ call (k + 2) ._law_digits [.ref 1, .int ((n + 1 : Nat) : Int)] M = .ok (.str (c :: r)) M' := by
  rw [call__law_digits]
  obtain ⟨u, hu, M1, h1, e1⟩ := draw_ok k h (m := 9) (by omega) (by omega)
  obtain ⟨c, hc, hm⟩ := pick (l := ([49, 50, 51, 52, 53, 54, 55, 56, 57] : List Nat)) (v := u) hu
  have hd : ∀ c ∈ ([49, 50, 51, 52, 53, 54, 55, 56, 57] : List Nat), c ∈ DIG := by decide
  obtain ⟨t, ht, hw, M2, h2, e2⟩ := dig_loop k (n + 1) (by omega) n [c] M1 h1 (by simp; omega)
  refine ⟨c, t, hd c hm, hw, ht, M2, h2, fin_of rfl ?_⟩
  exact (seqC_nx (asg_of (ix_of rfl (call_of (cons_of rfl (one_of rfl)) e1) (ix_str hc (by decide) M1)) rfl)).trans ((seqC_nx e2).trans (ret_of rfl))
theorem rep_str {s : List Nat} {n : Nat} (h : s.length * n ≤ 1000) (hn : n ≤ 1000) : mulM (.str s) (.int n) = some (.str (repM n s)) := by
  simp only [mulM]
  rw [if_pos ⟨by omega, by omega, by rw [Int.toNat_natCast]; omega⟩, Int.toNat_natCast]
theorem rep_one (n c : Nat) : repM n [c] = List.replicate n c := by simp [repM]
def MARKS : List Nat := [95, 62, 36, 64, 63, 123, 125, 34, 39, 33, 38, 59, 124, 126, 46, 47]
theorem dig_fact : ∀ c ∈ DIG, c ∉ LET ∧ c ∈ WCH := by decide
theorem bad_ok (k : Nat) {M : MH} (h : St M) : ∃ b, BadT b ∧ b.length ≤ 100 ∧ 10 ∉ b ∧ ∃ M', St M' ∧ call (k + 3) ._law_bad [.ref 1] M = .ok (.str b) M' := by
  have fin : ∀ b, BadT b → b.length ≤ 100 ∧ 10 ∉ b := fun b hb => by
    rcases hb with ⟨c, hc, rfl⟩ | ⟨_, hw, hl, _⟩
    · have : ∀ c ∈ MK, c ≠ 10 := by decide
      exact ⟨by simp, by simp only [List.mem_singleton]; exact fun z => this c hc z.symm⟩
    · have : 10 ∉ WCH := by decide
      exact ⟨hl, fun z => this (hw 10 z)⟩
  suffices hh : ∃ b, BadT b ∧ ∃ M', St M' ∧ call (k + 3) ._law_bad [.ref 1] M = .ok (.str b) M' by
    obtain ⟨b, hb, rest⟩ := hh
    exact ⟨b, hb, (fin b hb).1, (fin b hb).2, rest⟩
  rw [call__law_bad]
  obtain ⟨v, hv, M1, h1, e1⟩ := draw_ok (k + 1) h (m := 6) (by omega) (by omega)
  have a1 := asg_of (g := nameG 1) (S := [.val (.ref 1), .non, .non]) (call_of (g := call (k + 2) ._law_draw) (cons_of (a := varE 0) rfl (one_of (a := retE (.int 6)) rfl)) e1) rfl
  have drawE : ∀ {m u : Nat} {M1 M2 : MH} {y : Slot}, call (k + 2) ._law_draw [.ref 1, .int m] M1 = .ok (.int u) M2 → callE (call (k + 2) ._law_draw) (consA (varE 0) (consA (retE (.int m)) (nilA))) [.val (.ref 1), .val (.int v), y] M1 = .ok (.int u) M2 := fun e => call_of (cons_of rfl (one_of rfl)) e
  by_cases c1 : v < 2
  · obtain ⟨u, hu, M2, h2, e2⟩ := draw_ok (k + 1) h1 (m := 16) (by omega) (by omega)
    obtain ⟨c, hc, hm⟩ := pick (l := MARKS) (v := u) hu
    refine ⟨[c], ?_, M2, h2, fin_of rfl ?_⟩
    · by_cases h95 : c = 95
      · subst h95
        exact .inr ⟨by simp, by decide, by simp, raises_num (by decide) (by simp) (.inr (.inr ⟨95, by simp, by decide⟩))⟩
      · have : ∀ c ∈ MARKS, c = 95 ∨ c ∈ MK := by decide
        exact .inl ⟨c, (this c hm).resolve_left h95, rfl⟩
    refine (seqC_nx a1).trans (seq_rt ((if_t ((ltT 2 rfl).trans (by rw [decide_eq_true c1]))).trans ?_))
    exact (seqC_nx (asg_of (x := .str MARKS) rfl rfl)).trans (ret_of (ix_of rfl (call_of (cons_of rfl (one_of (blt_of (z := .int 16) (one_of rfl) rfl))) e2) (ix_str hc (by decide) M2)))
  have f1 := (ltT (S := [.val (.ref 1), .val (.int v), .non]) (M := M1) (a := varE 1) 2 rfl).trans (by rw [decide_eq_false c1])
  by_cases c2 : v = 2
  · obtain ⟨u, hu, M2, h2, e2⟩ := draw_ok (k + 1) h1 (m := 8) (by omega) (by omega)
    obtain ⟨c, hc, hm⟩ := pick (l := ([97, 98, 99, 88, 89, 90, 109, 110] : List Nat)) (v := u) hu
    have hL : ∀ c ∈ ([97, 98, 99, 88, 89, 90, 109, 110] : List Nat), c ∈ LET := by decide
    obtain ⟨w, hw, M3, h3, e3⟩ := draw_ok (k + 1) h2 (m := 4) (by omega) (by omega)
    refine ⟨([c] ++ repM 4 [97, 49, 95, 90]) ++ repM w [113], .inr ⟨by simp, ?_, ?_, ?_⟩, M3, h3, fin_of rfl ?_⟩
    · intro b hb
      rw [rep_one] at hb
      rcases List.mem_append.mp hb with hb | hb
      · rcases List.mem_append.mp hb with hb | hb
        · rw [List.mem_singleton.mp hb]; exact let_wch _ (hL c hm)
        · have : ∀ b ∈ repM 4 [97, 49, 95, 90], b ∈ WCH := by decide
          exact this b hb
      · rw [(List.mem_replicate.mp hb).2]; decide
    · rw [rep_one]; simp [repM]; omega
    · rw [rep_one]
      exact raises_long (hL c hm) (by simp [repM]) (by simp [repM]; omega)
    refine (seqC_nx a1).trans ((seq_skip f1).trans (seq_rt ((if_t ((eqT 2 rfl).trans (by rw [decide_eq_true c2]))).trans (ret_of ?_))))
    refine op2_of (op2_of (ix_of rfl (drawE e2) (ix_str hc (by decide) M2)) (op2_of rfl rfl (rep_str (n := 4) (by simp) (by omega))) (add_str (by simp [repM]))) (op2_of rfl (drawE e3) (rep_str (by simp; omega) (by omega))) (add_str ?_)
    rw [rep_one]; simp [repM]; omega
  have f2 := (eqT (S := [.val (.ref 1), .val (.int v), .non]) (M := M1) (a := varE 1) 2 rfl).trans (by rw [decide_eq_false c2])
  by_cases c3 : v = 3
  · obtain ⟨u, hu, M2, h2, e2⟩ := draw_ok (k + 1) h1 (m := 10) (by omega) (by omega)
    obtain ⟨c, hc, hm⟩ := pick (l := DIG) (v := u) hu
    obtain ⟨w, hw, M3, h3, e3⟩ := draw_ok (k + 1) h2 (m := 3) (by omega) (by omega)
    refine ⟨([48] ++ [c]) ++ repM w [55], .inr ⟨by simp, ?_, ?_, ?_⟩, M3, h3, fin_of rfl ?_⟩
    · intro b hb
      rw [rep_one] at hb
      rcases List.mem_append.mp hb with hb | hb
      · rcases List.mem_append.mp hb with hb | hb
        · rw [List.mem_singleton.mp hb]; decide
        · rw [List.mem_singleton.mp hb]; exact (dig_fact c hm).2
      · rw [(List.mem_replicate.mp hb).2]; decide
    · rw [rep_one]; simp; omega
    · rw [rep_one]
      exact raises_num (by decide) (by simp; omega) (.inr (.inl ⟨by simp, rfl⟩))
    refine (seqC_nx a1).trans ((seq_skip f1).trans ((seq_skip f2).trans (seq_rt ((if_t ((eqT 3 rfl).trans (by rw [decide_eq_true c3]))).trans (ret_of ?_)))))
    refine op2_of (op2_of rfl (ix_of rfl (drawE e2) (ix_str hc (by decide) M2)) (add_str (by simp))) (op2_of rfl (drawE e3) (rep_str (by simp; omega) (by omega))) (add_str ?_)
    rw [rep_one]; simp; omega
  have f3 := (eqT (S := [.val (.ref 1), .val (.int v), .non]) (M := M1) (a := varE 1) 3 rfl).trans (by rw [decide_eq_false c3])
  by_cases c4 : v = 4
  · obtain ⟨u, hu, M2, h2, e2⟩ := draw_ok (k + 1) h1 (m := 9) (by omega) (by omega)
    obtain ⟨c, r, hc, hr, hrl, M3, h3, e3⟩ := digits_ok k h2 (n := u) (by omega)
    obtain ⟨w, hw, M4, h4, e4⟩ := draw_ok (k + 1) h3 (m := 4) (by omega) (by omega)
    obtain ⟨x, hx, hxm⟩ := pick (l := ([97, 95, 90, 120] : List Nat)) (v := w) hw
    have hX : ∀ x ∈ ([97, 95, 90, 120] : List Nat), x ∈ WCH ∧ x ∉ DIG := by decide
    refine ⟨(c :: r) ++ [x], .inr ⟨by simp, ?_, by simp; omega, ?_⟩, M4, h4, fin_of rfl ?_⟩
    · intro b hb
      rcases List.mem_append.mp hb with hb | hb
      · rcases List.mem_cons.mp hb with rfl | hb
        · exact (dig_fact _ hc).2
        · exact (dig_fact b (hr b hb)).2
      · rw [List.mem_singleton.mp hb]; exact (hX x hxm).1
    · exact raises_num (dig_fact c hc).1 (by simp; omega) (.inr (.inr ⟨x, by simp, (hX x hxm).2⟩))
    refine (seqC_nx a1).trans ((seq_skip f1).trans ((seq_skip f2).trans ((seq_skip f3).trans (seq_rt ((if_t ((eqT 4 rfl).trans (by rw [decide_eq_true c4]))).trans (ret_of ?_))))))
    exact op2_of (call_of (cons_of rfl (one_of (op2_of rfl (drawE e2) (z := .int ((u + 1 : Nat) : Int)) (by simp; omega)))) e3) (ix_of rfl (drawE e4) (ix_str hx (by decide) M4)) (add_str (by simp; omega))
  have f4 := (eqT (S := [.val (.ref 1), .val (.int v), .non]) (M := M1) (a := varE 1) 4 rfl).trans (by rw [decide_eq_false c4])
  obtain ⟨u, hu, M2, h2, e2⟩ := draw_ok (k + 1) h1 (m := 8) (by omega) (by omega)
  obtain ⟨c, r, hc, hr, hrl, M3, h3, e3⟩ := digits_ok k h2 (n := 10 + u) (by omega)
  refine ⟨c :: r, .inr ⟨by simp, ?_, by simp; omega, raises_num (dig_fact c hc).1 (by simp; omega) (.inl (by simp; omega))⟩, M3, h3, fin_of rfl ?_⟩
  · intro b hb
    rcases List.mem_cons.mp hb with rfl | hb
    · exact (dig_fact _ hc).2
    · exact (dig_fact b (hr b hb)).2
  exact (seqC_nx a1).trans ((seq_skip f1).trans ((seq_skip f2).trans ((seq_skip f3).trans ((seq_skip f4).trans (ret_of (call_of (cons_of rfl (one_of (op2_of rfl (drawE e2) (z := .int ((10 + u + 1 : Nat) : Int)) (by simp; omega)))) e3))))))
noncomputable abbrev wbody (r : Rc) : Cm := (seqC (asgC (op2E addM (op2E addM (varE 1) (callE (r ._law_good) (consA (varE 0) (nilA)))) (retE (.str [10]))) (nameG 1)) (ifC (asT (op2E eqM (callE (r ._law_draw) (consA (varE 0) (consA (retE (.int 4)) (nilA)))) (retE (.int 0)))) (asgC (op2E addM (varE 1) (retE (.str [32, 10]))) (nameG 1)) (skipC)))
theorem good_len : ∀ g ∈ GOOD, g.length ≤ 10 := by decide
theorem lines_ok (kk k : Nat) {M : MH} (h : St M) : ∃ t, Pre kk QAny t ∧ t.length ≤ 200 ∧ ∃ M', St M' ∧ call (k + 3) ._law_lines [.ref 1] M = .ok (.str t) M' := by
  rw [call__law_lines]
  obtain ⟨v, hv, M1, h1, e1⟩ := draw_ok (k + 1) h (m := 13) (by omega) (by omega)
  obtain ⟨S2, M2, e2, t, hp, hl, x, rfl, h2⟩ := forL_cnt (g := nameG 2) (b := wbody (call (k + 2))) (fun i S M => ∃ t, Pre kk QAny t ∧ t.length ≤ 13 * i ∧ ∃ x : Slot, S = [.val (.ref 1), .val (.str t), x] ∧ St M) (rngM 0 v) (fun w hw i S M hI hi => by
    obtain ⟨t, hp, hl, x, rfl, hs⟩ := hI
    rw [rngM_len] at hi
    obtain ⟨g, hg, M', hs', e⟩ := good_ok k hs
    have hgl := good_len g hg
    have p1 := pre_good hp hg
    obtain ⟨u, hu, M3, h3, e3⟩ := draw_ok (k + 1) hs' (m := 4) (by omega) (by omega)
    have a1 : asgC (op2E addM (op2E addM (varE 1) (callE (call (k + 2) ._law_good) (consA (varE 0) (nilA)))) (retE (.str [10]))) (nameG 1) [.val (.ref 1), .val (.str t), .val w] M = .nx [.val (.ref 1), .val (.str (t ++ g ++ [10])), .val w] M' := asg_of (op2_of (op2_of rfl (call_of (one_of rfl) e) (add_str (by omega))) rfl (add_str (by simp; omega))) rfl
    have dE := eqT 0 (S := [.val (.ref 1), .val (.str (t ++ g ++ [10])), .val w]) (call_of (a := consA (varE 0) (consA (retE (.int 4)) (nilA))) (cons_of rfl (one_of rfl)) e3)
    by_cases hu0 : u = 0
    · refine ⟨_, rfl, _, M3, (seqC_nx a1).trans ((if_t (dE.trans (by rw [decide_eq_true hu0]))).trans (asg_of (op2_of rfl rfl (add_str (by simp; omega))) rfl)), t ++ g ++ [10] ++ [32] ++ [10], pre_nl (pre_sp p1 (fun _ => trivial)) (fun _ => trivial), by simp; omega, .val w, by simp, h3⟩
    · exact ⟨_, rfl, _, M3, (seqC_nx a1).trans ((if_f (dE.trans (by rw [decide_eq_false hu0]))).trans rfl), t ++ g ++ [10], p1, by simp; omega, .val w, rfl, h3⟩) [.val (.ref 1), .val (.str []), .non] M1 ⟨[], pre_nil kk, by simp, _, rfl, h1⟩
  rw [rngM_len] at hl
  obtain ⟨w, hw, M3, h3, e3⟩ := draw_ok (k + 1) h2 (m := 3) (by omega) (by omega)
  have hp2 : Pre kk QAny (t ++ repM w [32]) := by
    rw [rep_one]
    rcases (by omega : w = 0 ∨ w = 1 ∨ w = 2) with rfl | rfl | rfl
    · simpa using hp
    · exact pre_sp hp (fun _ => trivial)
    · have := pre_sp (pre_sp hp (fun _ => trivial)) (fun _ => trivial)
      simpa using this
  refine ⟨t ++ repM w [32], hp2, by rw [rep_one]; simp; omega, M3, h3, fin_of rfl ?_⟩
  exact (seqC_nx (asg_of rfl rfl)).trans ((seqC_nx (forC_nx (rngv_ok (call_of (cons_of rfl (one_of rfl)) e1) (by omega)) e2)).trans (ret_of (op2_of rfl (op2_of rfl (call_of (cons_of rfl (one_of rfl)) e3) (rep_str (by simp; omega) (by omega))) (add_str (by rw [rep_one]; simp; omega)))))
end Lw

set_option autoImplicit false
set_option linter.all false
set_option maxHeartbeats 1000000
/-! the law of k42 in plain Lean -/
namespace Lw
open Mv
theorem try_nx {b s : Cm} {hd : Nat → Option Bool} {i : Nat} {S S' : Sg} {M M' : MH} (h : b S M = .nx S' M') : tryC b hd i s S M = .nx S' M' := by simp only [tryC, h]
theorem try_rt {b s : Cm} {hd : Nat → Option Bool} {i c : Nat} {fs : List MV} {S S' : Sg} {M M' M2 : MH} {v : MV} (h : b S M = .exc c fs S' M') (h1 : hd c = some true) (h2 : s ((S'.map clrS).set i (.xc c fs)) M' = .rt v M2) : tryC b hd i s S M = .rt v M2 := by simp only [tryC, h, h1, h2]
def tokV : MV := .tup [.str [116, 111, 107, 101, 110, 115], .int 0]
def errV (l : Int) : MV := .tup [.str [101, 114, 114, 111, 114], .int l]
theorem out_ok (k : Nat) {T : List Nat} {xs : List MV} {M : MH} (h : call (k + 1) .tokenize [.str T] M = .ok (.lst xs) M) : call (k + 2) ._law_outcome [.str T] M = .ok tokV M := by
  rw [call__law_outcome]
  refine fin_of rfl ?_
  refine (seqC_nx (try_nx (asg_of (call_of (one_of rfl) h) rfl))).trans ?_
  have t1 : notT (truT (isaE "list" (varE 1))) [.val (.str T), .val (.lst xs), .non] M = .ok false M := rfl
  exact (seq_skip t1).trans (ret_of (tup_of (cons_of rfl (one_of rfl)) (by simp)))
theorem out_err (k : Nat) {T : List Nat} {l : Int} {M : MH} (h : call (k + 1) .tokenize [.str T] M = .exc 0 [.int l] M) : call (k + 2) ._law_outcome [.str T] M = .ok (errV l) M := by
  rw [call__law_outcome]
  refine fin_of rfl (seq_rt (try_rt (asg_ex (call_ex (one_of rfl) h)) rfl ?_))
  have t1 : orT (notT (truT (xisE 2 (fun c => match c with | 0 => some true | _ => none)))) (orT (notT (truT (xisE 2 (fun c => match c with | 0 => some true | _ => none)))) (truT (isaE "bool" (xfldE 2 0 0)))) [.val (.str T), .non, .xc 0 [.int l]] M = .ok false M := rfl
  exact (seq_skip t1).trans (ret_of (tup_of (cons_of rfl (one_of rfl)) (by simp)))
theorem nl_lc (i : Nat) {S : Sg} (hi : i < S.length) (M : MH) : ∀ (s : List Nat) (acc : List MV), acc.length + s.length ≤ 16777216 → lcL (nameG i) (asT (op2E eqM (varE i) (retE (.str [10])))) (varE i) [i] S (s.map fun c => MV.str [c]) acc M = .ok (acc ++ (s.filter (· == 10)).map fun c => MV.str [c]) M
  | [], acc, _ => by simp only [List.map_nil, lcL, List.filter_nil, List.append_nil]
  | c :: r, acc, hl => by
    simp only [List.length_cons] at hl
    have e0 : nameG i (.str [c]) (wipeS S [i]) = some ((wipeS S [i]).set i (.val (.str [c]))) := rfl
    have e2 : varE i ((wipeS S [i]).set i (.val (.str [c]))) M = .ok (.str [c]) M := var_of (by simp [wipeS, hi])
    have e1 : asT (op2E eqM (varE i) (retE (.str [10]))) ((wipeS S [i]).set i (.val (.str [c]))) M = .ok ([c] == [10]) M := asT_of (op2_of e2 rfl eqM_str)
    by_cases hc : c = 10
    · subst hc
      have := nl_lc i hi M r (acc ++ [.str [10]]) (by simp; omega)
      simp only [List.map_cons, lcL, e0, e1, e2, beq_self_eq_true]
      rw [if_pos (by omega), this]
      simp
    · have hb : ([c] == [10]) = false := by simp [hc]
      have := nl_lc i hi M r acc (by omega)
      simp only [List.map_cons, lcL, e0, e1, hb, this]
      simp [hc]
theorem neM_tup {xs : List MV} (h1 : (MV.tup xs).plain = true) (h2 : (MV.tup xs).dep ≤ 64) : neM (.tup xs) (.tup xs) = some (.bl false) := by
  simp only [neM, eqM, h1, decide_eq_true h2, Bool.and_self, if_true, decide_true, Bool.not_true]
theorem eqM_tup {xs : List MV} (h1 : (MV.tup xs).plain = true) (h2 : (MV.tup xs).dep ≤ 64) : eqM (.tup xs) (.tup xs) = some (.bl true) := by
  simp only [eqM, h1, decide_eq_true h2, Bool.and_self, if_true, decide_true]
def BH : List (List Nat) := [[], [32, 120], [10, 61, 32, 58], [10, 59], [32, 35, 32, 120]]
theorem bh_stop {r : List Nat} (h : r ∈ BH) : Stop r ∧ r.length ≤ 4 := by
  simp only [BH, List.mem_cons, List.not_mem_nil, or_false] at h
  rcases h with rfl | rfl | rfl | rfl | rfl
  · exact ⟨stop_nil, by simp⟩
  · exact ⟨stop_of (by decide), by simp⟩
  · exact ⟨stop_of (by decide), by simp⟩
  · exact ⟨stop_of (by decide), by simp⟩
  · exact ⟨stop_of (by decide), by simp⟩
theorem near_len : ∀ g ∈ NEAR, g.length ≤ 16 := by decide
theorem law_true (rho : MV → List Nat) {ns : List Int} (hn : ns.length ≤ 63) : ∃ M', lawG rho 40 [.scr (ns.map MV.int)] [] = .ok (.bl true) M' := by
  obtain ⟨M0, hs0, e0⟩ := state_ok 39 ns hn
  obtain ⟨t, hp, htl, M1, hs1, e1⟩ := lines_ok 36 37 hs0
  obtain ⟨b, hb, hbl, hb10, M2, hs2, e2⟩ := bad_ok 37 hs1
  obtain ⟨u, hu, M3, hs3, e3⟩ := draw_ok 39 hs2 (m := 5) (by omega) (by omega)
  obtain ⟨bh, hbh, hbm⟩ := pick (l := BH) (v := u) hu
  obtain ⟨hst, hbhl⟩ := bh_stop hbm
  obtain ⟨w, hw, M4, hs4, e4⟩ := draw_ok 39 hs3 (m := 6) (by omega) (by omega)
  obtain ⟨nr, hnr, hnm⟩ := pick (l := NEAR) (v := w) hw
  have hnl := near_len nr hnm
  have o1 := out_err 38 (tok_err 36 hp hb hst (r := bh) (by simp; omega) M3)
  have p2 := pre_near (pre_nl (pre_comm hp hb10) (fun q => .inr ⟨q, rfl⟩)) hnm
  obtain ⟨x2, q2⟩ := tok_end 36 p2 qj0 (by simp; omega) M4
  have o2 := out_ok 38 q2
  have p3 := pre_nl (pre_sign (pre_sp (pre_near hp hnm) qj32) (g := [41]) (by decide)) qj10
  obtain ⟨x3, q3⟩ := tok_end 36 p3 trivial (by simp; omega) M4
  have o3 := out_ok 38 q3
  have s1 : t ++ (b ++ bh) = (t ++ b) ++ bh := by simp
  have s2 : (t ++ 35 :: b) ++ [10] ++ nr = t ++ [35] ++ b ++ [10] ++ nr := by simp
  have s3 : t ++ nr ++ [32] ++ [41] ++ [10] = t ++ nr ++ [32, 41, 10] := by simp
  rw [s1] at o1
  rw [s2] at o2
  rw [s3] at o3
  have hcnt : cnt t ≤ t.length := List.length_filter_le _ _
  refine ⟨M4, fin_of rfl ?_⟩
  refine (seqC_nx (asg_of (call_of (one_of rfl) e0) rfl)).trans ((seqC_nx (asg_of (call_of (one_of rfl) e1) rfl)).trans ((seqC_nx (asg_of (call_of (one_of rfl) e2) rfl)).trans ?_))
  refine (seqC_nx (asg_of (ix_of (x := .lst (BH.map MV.str)) (frz_of (lst_of (xs := BH.map MV.str) rfl (by decide))) (call_of (cons_of rfl (one_of rfl)) e3) (ix_lst hbh M3)) rfl)).trans ?_
  have elc : lcE (itE (varE 2)) (nameG 6) (asT (op2E eqM (varE 6) (retE (.str [10])))) (varE 6) [6] [.val (.scr (ns.map MV.int)), .val (.ref 1), .val (.str t), .val (.str b), .val (.str bh), .non, .non, .non] M3 = .ok ((t.filter (· == 10)).map fun c => MV.str [c]) M3 := lc_of (it_of rfl rfl) ((nl_lc 6 (by simp) M3 t [] (by simp; omega)).trans (by simp))
  refine (seqC_nx (asg_of (op2_of (z := .int ((1 + cnt t : Nat) : Int)) rfl (blt_of (z := .int ((cnt t : Nat) : Int)) (one_of (frz_of elc)) (by simp [cnt])) (by simp)) rfl)).trans ?_
  refine (seq_skip (asT_of (op2_of (call_of (one_of (op2_of (op2_of rfl rfl (add_str (by omega))) rfl (add_str (by simp; omega)))) o1) (tup_of (cons_of rfl (one_of rfl)) (by simp)) (neM_tup (by rfl) (by simp [MV.dep, MV.deps]))))).trans ?_
  have e16 : mulM (.str [97]) (.int 16) = some (.str [97, 97, 97, 97, 97, 97, 97, 97, 97, 97, 97, 97, 97, 97, 97, 97]) := rep_str (n := 16) (by simp) (by omega)
  refine (seqC_nx (asg_of (ix_of (x := .lst (NEAR.map MV.str)) (frz_of (lst_of (xs := NEAR.map MV.str) (cons_of (op2_of rfl rfl e16) rfl) (by decide))) (call_of (cons_of rfl (one_of rfl)) e4) (ix_lst hnr M4)) rfl)).trans ?_
  refine (seq_skip (asT_of (op2_of (call_of (one_of (op2_of (op2_of (op2_of (op2_of rfl rfl (add_str (by simp; omega))) rfl (add_str (by simp; omega))) rfl (add_str (by simp; omega))) rfl (add_str (by simp; omega)))) o2) (tup_of (cons_of rfl (one_of rfl)) (by simp)) (neM_tup (by rfl) (by simp [MV.dep, MV.deps]))))).trans ?_
  exact ret_of (op2_of (call_of (one_of (op2_of (op2_of rfl rfl (add_str (by omega))) rfl (add_str (by simp; omega)))) o3) (tup_of (cons_of rfl (one_of rfl)) (by simp)) (eqM_tup (by rfl) (by simp [MV.dep, MV.deps])))
theorem gives : Mv.Gives (lawG Mv.rho 40) 63 := fun ns hn => law_true Mv.rho hn
end Lw

set_option Elab.async false
set_option linter.all false
set_option maxRecDepth 100000
set_option autoImplicit false
set_option maxHeartbeats 4000000
/-! The walk of k42, printed by gen.py from the linked text. -/
namespace Lw
open PySem PySem.Spec PyProof.Rows L2 Mv
def topS (i : Nat) : Stmt := PySem.Challenge.pw_layerask_k42_errors_of_tokens.main.body.getD i (.Pass ⟨0, 0, 0, 0⟩)
abbrev s_is_word : Stmt := topS 11
theorem sc_is_word : FnScope ["text"] ["text"] (defScope s_is_word) := ⟨rfl, rfl, rfl, by decide +kernel, rfl, by decide +kernel, by decide +kernel⟩
abbrev s_run_end : Stmt := topS 12
theorem sc_run_end : FnScope ["text", "at", "end"] ["text", "at"] (defScope s_run_end) := ⟨rfl, rfl, rfl, by decide +kernel, rfl, by decide +kernel, by decide +kernel⟩
abbrev s_run_token : Stmt := topS 13
theorem sc_run_token : FnScope ["run", "line", "sign"] ["run", "line"] (defScope s_run_token) := ⟨rfl, rfl, rfl, by decide +kernel, rfl, by decide +kernel, by decide +kernel⟩
abbrev s_sign_at : Stmt := topS 14
theorem sc_sign_at : FnScope ["text", "at", "sign"] ["text", "at"] (defScope s_sign_at) := ⟨rfl, rfl, rfl, by decide +kernel, rfl, by decide +kernel, by decide +kernel⟩
abbrev s_tokenize : Stmt := topS 15
theorem sc_tokenize : FnScope ["text", "found", "line", "at", "end", "sign"] ["text"] (defScope s_tokenize) := ⟨rfl, rfl, rfl, by decide +kernel, rfl, by decide +kernel, by decide +kernel⟩
abbrev s__law_state : Stmt := topS 17
theorem sc__law_state : FnScope ["_law_script", "_law_seed", "_law_cell"] ["_law_script"] (defScope s__law_state) := ⟨rfl, rfl, rfl, by decide +kernel, rfl, by decide +kernel, by decide +kernel⟩
abbrev s__law_draw : Stmt := topS 18
theorem sc__law_draw : FnScope ["_law_state_here", "_law_many", "_law_cells", "_law_value", "_law_mixed"] ["_law_state_here", "_law_many"] (defScope s__law_draw) := ⟨rfl, rfl, rfl, by decide +kernel, rfl, by decide +kernel, by decide +kernel⟩
abbrev s__law_good : Stmt := topS 19
theorem sc__law_good : FnScope ["_law_state_here", "_law_pieces"] ["_law_state_here"] (defScope s__law_good) := ⟨rfl, rfl, rfl, by decide +kernel, rfl, by decide +kernel, by decide +kernel⟩
abbrev s__law_digits : Stmt := topS 20
theorem sc__law_digits : FnScope ["_law_state_here", "_law_many", "_law_text"] ["_law_state_here", "_law_many"] (defScope s__law_digits) := ⟨rfl, rfl, rfl, by decide +kernel, rfl, by decide +kernel, by decide +kernel⟩
abbrev s__law_bad : Stmt := topS 21
theorem sc__law_bad : FnScope ["_law_state_here", "_law_kind", "_law_marks"] ["_law_state_here"] (defScope s__law_bad) := ⟨rfl, rfl, rfl, by decide +kernel, rfl, by decide +kernel, by decide +kernel⟩
abbrev s__law_lines : Stmt := topS 22
theorem sc__law_lines : FnScope ["_law_state_here", "_law_text", "_law_k"] ["_law_state_here"] (defScope s__law_lines) := ⟨rfl, rfl, rfl, by decide +kernel, rfl, by decide +kernel, by decide +kernel⟩
abbrev s__law_outcome : Stmt := topS 23
theorem sc__law_outcome : FnScope ["_law_text", "_law_actual", "e"] ["_law_text"] (defScope s__law_outcome) := ⟨rfl, rfl, rfl, by decide +kernel, rfl, by decide +kernel, by decide +kernel⟩
abbrev s_law : Stmt := topS 24
theorem sc_law : FnScope ["_law_script", "_law_state_here", "_law_before", "_law_bad_here", "_law_behind", "_law_line", "_law_char", "_law_near"] ["_law_script"] (defScope s_law) := ⟨rfl, rfl, rfl, by decide +kernel, rfl, by decide +kernel, by decide +kernel⟩
abbrev s_TextError_init : Stmt := inClass (topS 2) 0
theorem sc_TextError_init : FnScope ["self", "line"] ["self", "line"] (defScope s_TextError_init) := ⟨rfl, rfl, rfl, by decide +kernel, rfl, by decide +kernel, by decide +kernel⟩
def nm : Fn → Str
  | .is_word => "is_word"
  | .run_end => "run_end"
  | .run_token => "run_token"
  | .sign_at => "sign_at"
  | .tokenize => "tokenize"
  | ._law_state => "_law_state"
  | ._law_draw => "_law_draw"
  | ._law_good => "_law_good"
  | ._law_digits => "_law_digits"
  | ._law_bad => "_law_bad"
  | ._law_lines => "_law_lines"
  | ._law_outcome => "_law_outcome"
inductive Er where
  | TextError
def nmE : Er → Str
  | .TextError => "TextError"
def cE : Er → Nat
  | .TextError => 0
/-- what the top has written -/
structure Txt (K : PySem.W.Frag) (mg : Str → Option Value) (G : Gs) (aF : Fn → Addr) : Prop where
  n_TextError : G.cN 0 = (["line"] : List Str)
  f_is_word : ∃ fd, Fun K "is_word" "is_word" s_is_word (aF .is_word) fd ∧ Binds K fd ["text"] []
  m_is_word : mg "is_word" = some (.ref (aF .is_word))
  f_run_end : ∃ fd, Fun K "run_end" "run_end" s_run_end (aF .run_end) fd ∧ Binds K fd ["text", "at"] []
  m_run_end : mg "run_end" = some (.ref (aF .run_end))
  f_run_token : ∃ fd, Fun K "run_token" "run_token" s_run_token (aF .run_token) fd ∧ Binds K fd ["run", "line"] []
  m_run_token : mg "run_token" = some (.ref (aF .run_token))
  f_sign_at : ∃ fd, Fun K "sign_at" "sign_at" s_sign_at (aF .sign_at) fd ∧ Binds K fd ["text", "at"] []
  m_sign_at : mg "sign_at" = some (.ref (aF .sign_at))
  f_tokenize : ∃ fd, Fun K "tokenize" "tokenize" s_tokenize (aF .tokenize) fd ∧ Binds K fd ["text"] []
  m_tokenize : mg "tokenize" = some (.ref (aF .tokenize))
  f__law_state : ∃ fd, Fun K "_law_state" "_law_state" s__law_state (aF ._law_state) fd ∧ Binds K fd ["_law_script"] []
  m__law_state : mg "_law_state" = some (.ref (aF ._law_state))
  f__law_draw : ∃ fd, Fun K "_law_draw" "_law_draw" s__law_draw (aF ._law_draw) fd ∧ Binds K fd ["_law_state_here", "_law_many"] []
  m__law_draw : mg "_law_draw" = some (.ref (aF ._law_draw))
  f__law_good : ∃ fd, Fun K "_law_good" "_law_good" s__law_good (aF ._law_good) fd ∧ Binds K fd ["_law_state_here"] []
  m__law_good : mg "_law_good" = some (.ref (aF ._law_good))
  f__law_digits : ∃ fd, Fun K "_law_digits" "_law_digits" s__law_digits (aF ._law_digits) fd ∧ Binds K fd ["_law_state_here", "_law_many"] []
  m__law_digits : mg "_law_digits" = some (.ref (aF ._law_digits))
  f__law_bad : ∃ fd, Fun K "_law_bad" "_law_bad" s__law_bad (aF ._law_bad) fd ∧ Binds K fd ["_law_state_here"] []
  m__law_bad : mg "_law_bad" = some (.ref (aF ._law_bad))
  f__law_lines : ∃ fd, Fun K "_law_lines" "_law_lines" s__law_lines (aF ._law_lines) fd ∧ Binds K fd ["_law_state_here"] []
  m__law_lines : mg "_law_lines" = some (.ref (aF ._law_lines))
  f__law_outcome : ∃ fd, Fun K "_law_outcome" "_law_outcome" s__law_outcome (aF ._law_outcome) fd ∧ Binds K fd ["_law_text"] []
  m__law_outcome : mg "_law_outcome" = some (.ref (aF ._law_outcome))
  c_DIGITS : GC K mg "DIGITS" (.str [48, 49, 50, 51, 52, 53, 54, 55, 56, 57])
  c_LETTERS : GC K mg "LETTERS" (.str [97, 98, 99, 100, 101, 102, 103, 104, 105, 106, 107, 108, 109, 110, 111, 112, 113, 114, 115, 116, 117, 118, 119, 120, 121, 122, 65, 66, 67, 68, 69, 70, 71, 72, 73, 74, 75, 76, 77, 78, 79, 80, 81, 82, 83, 84, 85, 86, 87, 88, 89, 90])
  c_LONGEST_NAME : GC K mg "LONGEST_NAME" (.int 16)
  c_LONGEST_NUMBER : GC K mg "LONGEST_NUMBER" (.int 10)
  c_MORE_WORDS : GC K mg "MORE_WORDS" k_MORE_WORDS
  c_SIGNS : GC K mg "SIGNS" k_SIGNS
  c_WORDS : GC K mg "WORDS" k_WORDS
  b_ValueError : mg "ValueError" = none
  b_abs : mg "abs" = none
  b_bool : mg "bool" = none
  b_int : mg "int" = none
  b_isinstance : mg "isinstance" = none
  b_len : mg "len" = none
  b_list : mg "list" = none
  b_range : mg "range" = none
  xf_TextError : XfC K (G.cA 0)
  is_TextError : ExcC K (G.cA 0)
  kt_TextError_LayeraskError : PySem.W.kitOne K (.ref (G.cA 0)) (.ref (G.cA 1)) = some true
  kt_TextError_ValueError : PySem.W.kitOne K (.ref (G.cA 0)) (.type "ValueError") = some true
  em_TextError_TextError : PySem.W.exmOne K (.ref (G.cA 0)) (.ref (G.cA 0)) = some true
  base : ErrTxt K mg "LayeraskError" (G.cA 1)
  o_TextError : OexC K (G.cA 0)
  g_TextError : mg "TextError" = some (.ref (G.cA 0))
  x_TextError_line : PySem.W.findIn K (.ref (G.cA 0)) "line" = some none
  i_TextError : ∃ fI fd, PySem.W.findIn K (.ref (G.cA 0)) "__init__" = some (some (.ref fI)) ∧ PySem.W.typeIn K (.ref fI) = some (.type "function") ∧ Fun K "__init__" "TextError.__init__" s_TextError_init fI fd ∧ Binds K fd ["self", "line"] []
section
variable {P : Program} {w : World} {K : PySem.W.Frag} {mg : Str → Option Value} {base : Heap} {G : Gs} {aF : Fn → Addr}
abbrev CalF (P : Program) (w : World) (K : PySem.W.Frag) (mg : Str → Option Value) (base : Heap) (A : Around) (G : Gs) (r : Rc) : Prop := ∀ f : Fn, Cal P w K mg base A G (nm f) (r f)
abbrev RseE (P : Program) (w : World) (K : PySem.W.Frag) (mg : Str → Option Value) (base : Heap) (A : Around) (G : Gs) : Prop := ∀ c : Er, Rse P w K mg base A G (nmE c) (cE c)
theorem init_TextError (T : Txt K mg G aF) {fI : Addr} {fd : FuncData} (F : Fun K "__init__" "TextError.__init__" s_TextError_init fI fd) : FnOk P w K mg base CX0 1 fI fd ["self", "line"] (spErr (G.cA 0) ["line"]) := by
  have B := T.base
  refine F.ok sc_TextError_init (fun vs H Q E h => err_len h rfl) (fun cdv A outer s H vs Q E hr h => ⟨_, pss_cons (ps_expr (pe_binit (by rfl) B.gl B.sp B.rd B.fc (pa_cons (pv 0) (pa_cons pe_str pa_nil)))) (pss_one (ps_ost (pv 0) (pv 1))), err_one T.o_TextError T.x_TextError_line h⟩)
theorem rse (T : Txt K mg G aF) {A : Around} (hr : Room 2 A) : RseE P w K mg base A G := by
  intro c
  cases c with
  | TextError =>
    obtain ⟨fI, fd, h1, h2, F, hb⟩ := T.i_TextError
    refine ⟨T.o_TextError, T.g_TextError, 1, fI, fd, _, h1, h2, ?_, hr, hb⟩
    rw [show G.cN (cE .TextError) = (["line"] : List Str) from T.n_TextError]
    exact init_TextError T F
theorem w_is_word (T : Txt K mg G aF) {k : Nat} {f : Addr} {cdv : Value} {A : Around} {outer : List Env} {s : Shared} {H : Hp} {E : XK} {r : Rc} (hr : Room k (A.deeper (envOfC "is_word" (defScope s_is_word) s.heap.objs.size f cdv))) (ih : CalF P w K mg base (A.deeper (envOfC "is_word" (defScope s_is_word) s.heap.objs.size f cdv)) G r) (ihr : RseE P w K mg base (A.deeper (envOfC "is_word" (defScope s_is_word) s.heap.objs.size f cdv)) G) :
    PVs G none (cxOf (L2.CX P w) P w K mg base ["text"] "is_word" (defScope s_is_word) f cdv A outer s H E) (fun cls d _ H => E cls d H) (defBody s_is_word) (b_is_word r) := by
  have sc := sc_is_word
  unfold b_is_word
  exact (vs_one (vs_ret (pv_or (pv_cmp o_in (pv_var 0) (pv_glob T.c_WORDS)) (pv_one (pv_cmp o_in (pv_var 0) (pv_glob T.c_MORE_WORDS))))))
theorem w_run_end (T : Txt K mg G aF) {k : Nat} {f : Addr} {cdv : Value} {A : Around} {outer : List Env} {s : Shared} {H : Hp} {E : XK} {r : Rc} (hr : Room k (A.deeper (envOfC "run_end" (defScope s_run_end) s.heap.objs.size f cdv))) (ih : CalF P w K mg base (A.deeper (envOfC "run_end" (defScope s_run_end) s.heap.objs.size f cdv)) G r) (ihr : RseE P w K mg base (A.deeper (envOfC "run_end" (defScope s_run_end) s.heap.objs.size f cdv)) G) :
    PVs G none (cxOf (L2.CX P w) P w K mg base ["text", "at", "end"] "run_end" (defScope s_run_end) f cdv A outer s H E) (fun cls d _ H => E cls d H) (defBody s_run_end) (b_run_end r) := by
  have sc := sc_run_end
  unfold b_run_end
  exact (vs_cons (vs_asg (pv_var 1) (vg_name sc.nd))
  (vs_cons (vs_while (passes_of rfl) (vt_of (vw_and (vt_cmp o_lt (pv_var 2) (pv_blt c_len T.b_len (by decide +kernel) (va_cons (pv_var 0) va_nil))) (vw_and1 (vt_cmp o_in (pv_ix o_ix (pv_var 0) (pv_var 2)) (pv_bin o_add (pv_bin o_add (pv_glob T.c_LETTERS) (pv_glob T.c_DIGITS)) pv_str))))) (vs_one (vs_asg (pv_bin o_add (pv_var 2) pv_int) (vg_name sc.nd))))
  (vs_one (vs_ret (pv_var 2)))))
theorem w_run_token (T : Txt K mg G aF) {k : Nat} {f : Addr} {cdv : Value} {A : Around} {outer : List Env} {s : Shared} {H : Hp} {E : XK} {r : Rc} (hr : Room k (A.deeper (envOfC "run_token" (defScope s_run_token) s.heap.objs.size f cdv))) (ih : CalF P w K mg base (A.deeper (envOfC "run_token" (defScope s_run_token) s.heap.objs.size f cdv)) G r) (ihr : RseE P w K mg base (A.deeper (envOfC "run_token" (defScope s_run_token) s.heap.objs.size f cdv)) G) :
    PVs G none (cxOf (L2.CX P w) P w K mg base ["run", "line", "sign"] "run_token" (defScope s_run_token) f cdv A outer s H E) (fun cls d _ H => E cls d H) (defBody s_run_token) (b_run_token r) := by
  have sc := sc_run_token
  unfold b_run_token
  exact (vs_cons (vs_if (vt_cmp o_in (pv_ix o_ix (pv_var 0) pv_int) (pv_glob T.c_LETTERS)) (vs_cons (vs_if (vt_cmp o_gt (pv_blt c_len T.b_len (by decide +kernel) (va_cons (pv_var 0) va_nil)) (pv_glob T.c_LONGEST_NAME)) (vs_one (vs_raise (ci := 0) (ihr .TextError) (takes_of rfl rfl rfl rfl) rfl (va_cons (pv_var 1) va_nil) (congrArg List.length T.n_TextError))) vs_nil)
  (vs_one (vs_ret (pv_tup (va_cons (pv_if (vt_tru (pv_call (ih .is_word) (takes_of rfl rfl rfl rfl) (va_cons (pv_var 0) va_nil))) pv_str pv_str) (va_cons (pv_var 0) (va_cons (pv_var 1) va_nil))))))) vs_nil)
  (vs_cons (vs_if (vt_of (vw_or (vt_cmp o_gt (pv_blt c_len T.b_len (by decide +kernel) (va_cons (pv_var 0) va_nil)) (pv_glob T.c_LONGEST_NUMBER)) (vw_or1 (vt_of (vw_and (vt_cmp o_gt (pv_blt c_len T.b_len (by decide +kernel) (va_cons (pv_var 0) va_nil)) pv_int) (vw_and1 (vt_cmp (o_eq hr.units) (pv_ix o_ix (pv_var 0) pv_int) pv_str))))))) (vs_one (vs_raise (ci := 0) (ihr .TextError) (takes_of rfl rfl rfl rfl) rfl (va_cons (pv_var 1) va_nil) (congrArg List.length T.n_TextError))) vs_nil)
  (vs_cons (vs_for (passes_of rfl) rfl (vi_val (pv_var 0)) (vg_name sc.nd) (vs_one (vs_if (vt_cmp o_nin (pv_var 2) (pv_glob T.c_DIGITS)) (vs_one (vs_raise (ci := 0) (ihr .TextError) (takes_of rfl rfl rfl rfl) rfl (va_cons (pv_var 1) va_nil) (congrArg List.length T.n_TextError))) vs_nil)))
  (vs_one (vs_ret (pv_tup (va_cons pv_str (va_cons (pv_bty c_int T.b_int (by decide +kernel) (va_cons (pv_var 0) va_nil)) (va_cons (pv_var 1) va_nil)))))))))
theorem w_sign_at (T : Txt K mg G aF) {k : Nat} {f : Addr} {cdv : Value} {A : Around} {outer : List Env} {s : Shared} {H : Hp} {E : XK} {r : Rc} (hr : Room k (A.deeper (envOfC "sign_at" (defScope s_sign_at) s.heap.objs.size f cdv))) (ih : CalF P w K mg base (A.deeper (envOfC "sign_at" (defScope s_sign_at) s.heap.objs.size f cdv)) G r) (ihr : RseE P w K mg base (A.deeper (envOfC "sign_at" (defScope s_sign_at) s.heap.objs.size f cdv)) G) :
    PVs G none (cxOf (L2.CX P w) P w K mg base ["text", "at", "sign"] "sign_at" (defScope s_sign_at) f cdv A outer s H E) (fun cls d _ H => E cls d H) (defBody s_sign_at) (b_sign_at r) := by
  have sc := sc_sign_at
  unfold b_sign_at
  exact (vs_cons (vs_for (passes_of rfl) rfl (vi_val (pv_glob T.c_SIGNS)) (vg_name sc.nd) (vs_one (vs_if (vt_cmp (o_eq hr.units) (pv_slice o_sl (pv_var 0) (vo_some (pv_var 1)) (vo_some (pv_bin o_add (pv_var 1) (pv_blt c_len T.b_len (by decide +kernel) (va_cons (pv_var 2) va_nil))))) (pv_var 2)) (vs_one (vs_ret (pv_var 2))) vs_nil)))
  (vs_one (vs_ret pv_str)))
theorem w_tokenize (T : Txt K mg G aF) {k : Nat} {f : Addr} {cdv : Value} {A : Around} {outer : List Env} {s : Shared} {H : Hp} {E : XK} {r : Rc} (hr : Room k (A.deeper (envOfC "tokenize" (defScope s_tokenize) s.heap.objs.size f cdv))) (ih : CalF P w K mg base (A.deeper (envOfC "tokenize" (defScope s_tokenize) s.heap.objs.size f cdv)) G r) (ihr : RseE P w K mg base (A.deeper (envOfC "tokenize" (defScope s_tokenize) s.heap.objs.size f cdv)) G) :
    PVs G none (cxOf (L2.CX P w) P w K mg base ["text", "found", "line", "at", "end", "sign"] "tokenize" (defScope s_tokenize) f cdv A outer s H E) (fun cls d _ H => E cls d H) (defBody s_tokenize) (b_tokenize r) := by
  have sc := sc_tokenize
  unfold b_tokenize
  exact (vs_cons (vs_own sc.nd (vl_lst va_nil))
  (vs_cons (vs_asg pv_int (vg_name sc.nd))
  (vs_cons (vs_asg pv_int (vg_name sc.nd))
  (vs_cons (vs_while (passes_of rfl) (vt_cmp o_lt (pv_var 3) (pv_blt c_len T.b_len (by decide +kernel) (va_cons (pv_var 0) va_nil))) (vs_one (vs_if (vt_cmp (o_eq hr.units) (pv_ix o_ix (pv_var 0) (pv_var 3)) pv_str) (vs_cons (vs_asg (pv_bin o_add (pv_var 2) pv_int) (vg_name sc.nd))
  (vs_one (vs_asg (pv_bin o_add (pv_var 3) pv_int) (vg_name sc.nd)))) (vs_one (vs_if (vt_cmp (o_eq hr.units) (pv_ix o_ix (pv_var 0) (pv_var 3)) pv_str) (vs_one (vs_asg (pv_bin o_add (pv_var 3) pv_int) (vg_name sc.nd))) (vs_one (vs_if (vt_cmp (o_eq hr.units) (pv_ix o_ix (pv_var 0) (pv_var 3)) pv_str) (vs_one (vs_while (passes_of rfl) (vt_of (vw_and (vt_cmp o_lt (pv_var 3) (pv_blt c_len T.b_len (by decide +kernel) (va_cons (pv_var 0) va_nil))) (vw_and1 (vt_cmp (o_ne hr.units) (pv_ix o_ix (pv_var 0) (pv_var 3)) pv_str)))) (vs_one (vs_asg (pv_bin o_add (pv_var 3) pv_int) (vg_name sc.nd))))) (vs_one (vs_if (vt_cmp o_gt (pv_call (ih .run_end) (takes_of rfl rfl rfl rfl) (va_cons (pv_var 0) (va_cons (pv_var 3) va_nil))) (pv_var 3)) (vs_cons (vs_asg (pv_call (ih .run_end) (takes_of rfl rfl rfl rfl) (va_cons (pv_var 0) (va_cons (pv_var 3) va_nil))) (vg_name sc.nd))
  (vs_cons (vs_appOwn (i := 1) (pv_call (ih .run_token) (takes_of rfl rfl rfl rfl) (va_cons (pv_slice o_sl (pv_var 0) (vo_some (pv_var 3)) (vo_some (pv_var 4))) (va_cons (pv_var 2) va_nil))))
  (vs_one (vs_asg (pv_var 4) (vg_name sc.nd))))) (vs_cons (vs_asg (pv_call (ih .sign_at) (takes_of rfl rfl rfl rfl) (va_cons (pv_var 0) (va_cons (pv_var 3) va_nil))) (vg_name sc.nd))
  (vs_cons (vs_if (vt_cmp (o_eq hr.units) (pv_var 5) pv_str) (vs_one (vs_raise (ci := 0) (ihr .TextError) (takes_of rfl rfl rfl rfl) rfl (va_cons (pv_var 2) va_nil) (congrArg List.length T.n_TextError))) vs_nil)
  (vs_cons (vs_appOwn (i := 1) (pv_tup (va_cons pv_str (va_cons (pv_var 5) (va_cons (pv_var 2) va_nil)))))
  (vs_one (vs_asg (pv_bin o_add (pv_var 3) (pv_blt c_len T.b_len (by decide +kernel) (va_cons (pv_var 5) va_nil))) (vg_name sc.nd)))))))))))))))
  (vs_cons (vs_appOwn (i := 1) (pv_tup (va_cons pv_str (va_cons pv_str (va_cons (pv_var 2) va_nil)))))
  (vs_frz (i := 1) (vs_one (vs_ret (pv_var 1)))))))))
theorem w__law_state (T : Txt K mg G aF) {k : Nat} {f : Addr} {cdv : Value} {A : Around} {outer : List Env} {s : Shared} {H : Hp} {E : XK} {r : Rc} (hr : Room k (A.deeper (envOfC "_law_state" (defScope s__law_state) s.heap.objs.size f cdv))) (ih : CalF P w K mg base (A.deeper (envOfC "_law_state" (defScope s__law_state) s.heap.objs.size f cdv)) G r) (ihr : RseE P w K mg base (A.deeper (envOfC "_law_state" (defScope s__law_state) s.heap.objs.size f cdv)) G) :
    PVs G none (cxOf (L2.CX P w) P w K mg base ["_law_script", "_law_seed", "_law_cell"] "_law_state" (defScope s__law_state) f cdv A outer s H E) (fun cls d _ H => E cls d H) (defBody s__law_state) (b__law_state r) := by
  have sc := sc__law_state
  unfold b__law_state
  exact (vs_cons (vs_asg pv_int (vg_name sc.nd))
  (vs_cons (vs_for (passes_of rfl) rfl (vi_val (pv_var 0)) (vg_name sc.nd) (vs_one (vs_asg (pv_bin o_mod (pv_bty c_int T.b_int (by decide +kernel) (va_cons (pv_bin o_add (pv_bin o_mul (pv_var 1) pv_int) (pv_var 2)) va_nil)) pv_int) (vg_name sc.nd))))
  (vs_one (vs_ret (pv_shr (vl_lst (va_cons (pv_shr (vl_lc rfl sc.nd (vi_val (pv_var 0)) (blkOk_by (own := [("_law_cell", 2)]) (show blkC ["_law_script", "_law_seed", "_law_cell"] (defScope s__law_state) _ _ = true by decide +kernel)) (fun _ _ _ _ _ => (vg_name sc.nd)) (fun _ _ _ _ _ => vts_nil) (fun _ _ _ _ _ => (pv_blt c_abs T.b_abs (by decide +kernel) (va_cons (pv_var 2) va_nil))))) (va_cons (pv_bin o_add (pv_var 1) pv_int) va_nil))))))))
theorem w__law_draw (T : Txt K mg G aF) {k : Nat} {f : Addr} {cdv : Value} {A : Around} {outer : List Env} {s : Shared} {H : Hp} {E : XK} {r : Rc} (hr : Room k (A.deeper (envOfC "_law_draw" (defScope s__law_draw) s.heap.objs.size f cdv))) (ih : CalF P w K mg base (A.deeper (envOfC "_law_draw" (defScope s__law_draw) s.heap.objs.size f cdv)) G r) (ihr : RseE P w K mg base (A.deeper (envOfC "_law_draw" (defScope s__law_draw) s.heap.objs.size f cdv)) G) :
    PVs G none (cxOf (L2.CX P w) P w K mg base ["_law_state_here", "_law_many", "_law_cells", "_law_value", "_law_mixed"] "_law_draw" (defScope s__law_draw) f cdv A outer s H E) (fun cls d _ H => E cls d H) (defBody s__law_draw) (b__law_draw r) := by
  have sc := sc__law_draw
  unfold b__law_draw
  exact (vs_cons (vs_asg (pv_ix o_ix (pv_var 0) pv_int) (vg_name sc.nd))
  (vs_cons (vs_while (passes_of rfl) (vt_of (vw_and (vt_cmp o_gt (pv_blt c_len T.b_len (by decide +kernel) (va_cons (pv_var 2) va_nil)) pv_int) (vw_and1 (vt_cmp (o_eq hr.units) (pv_ix o_ix (pv_var 2) pv_int) pv_int)))) (vs_one (vs_expr (pv_popRef (pv_var 2) pv_int))))
  (vs_cons (vs_if (vt_cmp o_gt (pv_blt c_len T.b_len (by decide +kernel) (va_cons (pv_var 2) va_nil)) pv_int) (vs_cons (vs_asg (pv_ix o_ix (pv_var 2) pv_int) (vg_name sc.nd))
  (vs_cons (vs_setRef (pv_bin o_fdiv (pv_var 3) (pv_var 1)) (pv_var 2) pv_int)
  (vs_one (vs_ret (pv_bin o_mod (pv_bty c_int T.b_int (by decide +kernel) (va_cons (pv_var 3) va_nil)) (pv_var 1)))))) vs_nil)
  (vs_cons (vs_asg (pv_bin o_mod (pv_bty c_int T.b_int (by decide +kernel) (va_cons (pv_bin o_add (pv_bin o_mul (pv_ix o_ix (pv_var 0) pv_int) pv_int) pv_int) va_nil)) pv_int) (vg_name sc.nd))
  (vs_cons (vs_setRef (pv_var 4) (pv_var 0) pv_int)
  (vs_one (vs_ret (pv_bin o_mod (pv_bty c_int T.b_int (by decide +kernel) (va_cons (pv_bin o_fdiv (pv_var 4) pv_int) va_nil)) (pv_var 1)))))))))
theorem w__law_good (T : Txt K mg G aF) {k : Nat} {f : Addr} {cdv : Value} {A : Around} {outer : List Env} {s : Shared} {H : Hp} {E : XK} {r : Rc} (hr : Room k (A.deeper (envOfC "_law_good" (defScope s__law_good) s.heap.objs.size f cdv))) (ih : CalF P w K mg base (A.deeper (envOfC "_law_good" (defScope s__law_good) s.heap.objs.size f cdv)) G r) (ihr : RseE P w K mg base (A.deeper (envOfC "_law_good" (defScope s__law_good) s.heap.objs.size f cdv)) G) :
    PVs G none (cxOf (L2.CX P w) P w K mg base ["_law_state_here", "_law_pieces"] "_law_good" (defScope s__law_good) f cdv A outer s H E) (fun cls d _ H => E cls d H) (defBody s__law_good) (b__law_good r) := by
  have sc := sc__law_good
  unfold b__law_good
  exact (vs_cons (vs_asg (pv_frz (vl_lst (va_cons pv_str (va_cons pv_str (va_cons pv_str (va_cons pv_str (va_cons pv_str (va_cons pv_str (va_cons pv_str (va_cons pv_str (va_cons pv_str (va_cons pv_str (va_cons pv_str (va_cons pv_str (va_cons pv_str (va_cons pv_str (va_cons pv_str va_nil))))))))))))))))) (vg_name sc.nd))
  (vs_one (vs_ret (pv_ix o_ix (pv_var 1) (pv_call (ih ._law_draw) (takes_of rfl rfl rfl rfl) (va_cons (pv_var 0) (va_cons (pv_blt c_len T.b_len (by decide +kernel) (va_cons (pv_var 1) va_nil)) va_nil)))))))
theorem w__law_digits (T : Txt K mg G aF) {k : Nat} {f : Addr} {cdv : Value} {A : Around} {outer : List Env} {s : Shared} {H : Hp} {E : XK} {r : Rc} (hr : Room k (A.deeper (envOfC "_law_digits" (defScope s__law_digits) s.heap.objs.size f cdv))) (ih : CalF P w K mg base (A.deeper (envOfC "_law_digits" (defScope s__law_digits) s.heap.objs.size f cdv)) G r) (ihr : RseE P w K mg base (A.deeper (envOfC "_law_digits" (defScope s__law_digits) s.heap.objs.size f cdv)) G) :
    PVs G none (cxOf (L2.CX P w) P w K mg base ["_law_state_here", "_law_many", "_law_text"] "_law_digits" (defScope s__law_digits) f cdv A outer s H E) (fun cls d _ H => E cls d H) (defBody s__law_digits) (b__law_digits r) := by
  have sc := sc__law_digits
  unfold b__law_digits
  exact (vs_cons (vs_asg (pv_ix o_ix pv_str (pv_call (ih ._law_draw) (takes_of rfl rfl rfl rfl) (va_cons (pv_var 0) (va_cons pv_int va_nil)))) (vg_name sc.nd))
  (vs_cons (vs_while (passes_of rfl) (vt_cmp o_lt (pv_blt c_len T.b_len (by decide +kernel) (va_cons (pv_var 2) va_nil)) (pv_var 1)) (vs_one (vs_asg (pv_bin o_add (pv_var 2) (pv_ix o_ix pv_str (pv_call (ih ._law_draw) (takes_of rfl rfl rfl rfl) (va_cons (pv_var 0) (va_cons pv_int va_nil))))) (vg_name sc.nd))))
  (vs_one (vs_ret (pv_var 2)))))
theorem w__law_bad (T : Txt K mg G aF) {k : Nat} {f : Addr} {cdv : Value} {A : Around} {outer : List Env} {s : Shared} {H : Hp} {E : XK} {r : Rc} (hr : Room k (A.deeper (envOfC "_law_bad" (defScope s__law_bad) s.heap.objs.size f cdv))) (ih : CalF P w K mg base (A.deeper (envOfC "_law_bad" (defScope s__law_bad) s.heap.objs.size f cdv)) G r) (ihr : RseE P w K mg base (A.deeper (envOfC "_law_bad" (defScope s__law_bad) s.heap.objs.size f cdv)) G) :
    PVs G none (cxOf (L2.CX P w) P w K mg base ["_law_state_here", "_law_kind", "_law_marks"] "_law_bad" (defScope s__law_bad) f cdv A outer s H E) (fun cls d _ H => E cls d H) (defBody s__law_bad) (b__law_bad r) := by
  have sc := sc__law_bad
  unfold b__law_bad
  exact (vs_cons (vs_asg (pv_call (ih ._law_draw) (takes_of rfl rfl rfl rfl) (va_cons (pv_var 0) (va_cons pv_int va_nil))) (vg_name sc.nd))
  (vs_cons (vs_if (vt_cmp o_lt (pv_var 1) pv_int) (vs_cons (vs_asg pv_str (vg_name sc.nd))
  (vs_one (vs_ret (pv_ix o_ix (pv_var 2) (pv_call (ih ._law_draw) (takes_of rfl rfl rfl rfl) (va_cons (pv_var 0) (va_cons (pv_blt c_len T.b_len (by decide +kernel) (va_cons (pv_var 2) va_nil)) va_nil))))))) vs_nil)
  (vs_cons (vs_if (vt_cmp (o_eq hr.units) (pv_var 1) pv_int) (vs_one (vs_ret (pv_bin o_add (pv_bin o_add (pv_ix o_ix pv_str (pv_call (ih ._law_draw) (takes_of rfl rfl rfl rfl) (va_cons (pv_var 0) (va_cons pv_int va_nil)))) (pv_bin o_mul pv_str pv_int)) (pv_bin o_mul pv_str (pv_call (ih ._law_draw) (takes_of rfl rfl rfl rfl) (va_cons (pv_var 0) (va_cons pv_int va_nil))))))) vs_nil)
  (vs_cons (vs_if (vt_cmp (o_eq hr.units) (pv_var 1) pv_int) (vs_one (vs_ret (pv_bin o_add (pv_bin o_add pv_str (pv_ix o_ix pv_str (pv_call (ih ._law_draw) (takes_of rfl rfl rfl rfl) (va_cons (pv_var 0) (va_cons pv_int va_nil))))) (pv_bin o_mul pv_str (pv_call (ih ._law_draw) (takes_of rfl rfl rfl rfl) (va_cons (pv_var 0) (va_cons pv_int va_nil))))))) vs_nil)
  (vs_cons (vs_if (vt_cmp (o_eq hr.units) (pv_var 1) pv_int) (vs_one (vs_ret (pv_bin o_add (pv_call (ih ._law_digits) (takes_of rfl rfl rfl rfl) (va_cons (pv_var 0) (va_cons (pv_bin o_add pv_int (pv_call (ih ._law_draw) (takes_of rfl rfl rfl rfl) (va_cons (pv_var 0) (va_cons pv_int va_nil)))) va_nil))) (pv_ix o_ix pv_str (pv_call (ih ._law_draw) (takes_of rfl rfl rfl rfl) (va_cons (pv_var 0) (va_cons pv_int va_nil))))))) vs_nil)
  (vs_one (vs_ret (pv_call (ih ._law_digits) (takes_of rfl rfl rfl rfl) (va_cons (pv_var 0) (va_cons (pv_bin o_add pv_int (pv_call (ih ._law_draw) (takes_of rfl rfl rfl rfl) (va_cons (pv_var 0) (va_cons pv_int va_nil)))) va_nil))))))))))
theorem w__law_lines (T : Txt K mg G aF) {k : Nat} {f : Addr} {cdv : Value} {A : Around} {outer : List Env} {s : Shared} {H : Hp} {E : XK} {r : Rc} (hr : Room k (A.deeper (envOfC "_law_lines" (defScope s__law_lines) s.heap.objs.size f cdv))) (ih : CalF P w K mg base (A.deeper (envOfC "_law_lines" (defScope s__law_lines) s.heap.objs.size f cdv)) G r) (ihr : RseE P w K mg base (A.deeper (envOfC "_law_lines" (defScope s__law_lines) s.heap.objs.size f cdv)) G) :
    PVs G none (cxOf (L2.CX P w) P w K mg base ["_law_state_here", "_law_text", "_law_k"] "_law_lines" (defScope s__law_lines) f cdv A outer s H E) (fun cls d _ H => E cls d H) (defBody s__law_lines) (b__law_lines r) := by
  have sc := sc__law_lines
  unfold b__law_lines
  exact (vs_cons (vs_asg pv_str (vg_name sc.nd))
  (vs_cons (vs_for (passes_of rfl) rfl (vi_rng1 T.b_range (pv_call (ih ._law_draw) (takes_of rfl rfl rfl rfl) (va_cons (pv_var 0) (va_cons pv_int va_nil)))) (vg_name sc.nd) (vs_cons (vs_asg (pv_bin o_add (pv_bin o_add (pv_var 1) (pv_call (ih ._law_good) (takes_of rfl rfl rfl rfl) (va_cons (pv_var 0) va_nil))) pv_str) (vg_name sc.nd))
  (vs_one (vs_if (vt_cmp (o_eq hr.units) (pv_call (ih ._law_draw) (takes_of rfl rfl rfl rfl) (va_cons (pv_var 0) (va_cons pv_int va_nil))) pv_int) (vs_one (vs_asg (pv_bin o_add (pv_var 1) pv_str) (vg_name sc.nd))) vs_nil))))
  (vs_one (vs_ret (pv_bin o_add (pv_var 1) (pv_bin o_mul pv_str (pv_call (ih ._law_draw) (takes_of rfl rfl rfl rfl) (va_cons (pv_var 0) (va_cons pv_int va_nil)))))))))
theorem w__law_outcome (T : Txt K mg G aF) {k : Nat} {f : Addr} {cdv : Value} {A : Around} {outer : List Env} {s : Shared} {H : Hp} {E : XK} {r : Rc} (hr : Room k (A.deeper (envOfC "_law_outcome" (defScope s__law_outcome) s.heap.objs.size f cdv))) (ih : CalF P w K mg base (A.deeper (envOfC "_law_outcome" (defScope s__law_outcome) s.heap.objs.size f cdv)) G r) (ihr : RseE P w K mg base (A.deeper (envOfC "_law_outcome" (defScope s__law_outcome) s.heap.objs.size f cdv)) G) :
    PVs G none (cxOf (L2.CX P w) P w K mg base ["_law_text", "_law_actual", "e"] "_law_outcome" (defScope s__law_outcome) f cdv A outer s H E) (fun cls d _ H => E cls d H) (defBody s__law_outcome) (b__law_outcome r) := by
  have sc := sc__law_outcome
  unfold b__law_outcome
  exact (vs_cons (vs_try (hd := (fun c => match c with | 0 => some true | _ => none)) rfl rfl sc.nd rfl rfl ⟨rfl, by decide, .inl T.g_TextError⟩ (takes_of rfl rfl rfl rfl) (by intro ci k h; match ci, h with | 0, h => (cases h; exact T.em_TextError_TextError) | n + 1, h => cases h) (fun _ _ _ tk1 pp1 => (vs_one (vs_asg (pv_call (ih .tokenize) tk1 (va_cons (pv_var 0) va_nil)) (vg_name sc.nd)))) (fun _ _ _ _ _ hz hv => (vs_cons (vs_if (vt_of (vw_or (vt_not (vt_tru (pv_xis (f := (fun c => match c with | 0 => some true | _ => none)) (v := (.ref (G.cA 1))) (cv := (.ref (G.cA 1))) (pe_glob rfl T.base.gl rfl) (fun _ h => h) (by intro ci k h; match ci, h with | 0, h => (cases h; exact ⟨T.is_TextError, T.kt_TextError_LayeraskError⟩) | n + 1, h => cases h) T.b_isinstance hz hv))) (vw_or (vt_not (vt_tru (pv_xis (f := (fun c => match c with | 0 => some true | _ => none)) (v := (.ty "ValueError")) (cv := (.type "ValueError")) (pe_bltn rfl T.b_ValueError (by decide +kernel) rfl (by decide) (by decide)) (fun _ h => h) (by intro ci k h; match ci, h with | 0, h => (cases h; exact ⟨T.is_TextError, T.kt_TextError_ValueError⟩) | n + 1, h => cases h) T.b_isinstance hz hv))) (vw_or1 (vt_tru (pv_isa (pv_xfld T.xf_TextError T.x_TextError_line (by rw [T.n_TextError]; rfl) hz hv) T.b_isinstance T.b_bool (by decide +kernel))))))) (vs_one (vs_ret (pv_tup (va_cons pv_str (va_cons pv_int va_nil))))) vs_nil)
  (vs_one (vs_ret (pv_tup (va_cons pv_str (va_cons (pv_xfld T.xf_TextError T.x_TextError_line (by rw [T.n_TextError]; rfl) hz hv) va_nil))))))))
  (vs_cons (vs_if (vt_not (vt_tru (pv_isa (pv_var 1) T.b_isinstance T.b_list (by decide +kernel)))) (vs_one (vs_ret (pv_tup (va_cons pv_str (va_cons pv_int va_nil))))) vs_nil)
  (vs_one (vs_ret (pv_tup (va_cons pv_str (va_cons pv_int va_nil)))))))
theorem w_law (T : Txt K mg G aF) {k : Nat} {f : Addr} {cdv : Value} {s : Shared} {H : Hp} {E : XK} {r : Rc} (hr : Room k (callerA.deeper (envOfC "law" (defScope s_law) s.heap.objs.size f cdv))) (hgd : (callerA.deeper (envOfC "law" (defScope s_law) s.heap.objs.size f cdv)).guards = some []) (ih : CalF P w K mg base (callerA.deeper (envOfC "law" (defScope s_law) s.heap.objs.size f cdv)) G r) (ihr : RseE P w K mg base (callerA.deeper (envOfC "law" (defScope s_law) s.heap.objs.size f cdv)) G) :
    PVs G none (cxOf (L2.CX P w) P w K mg base ["_law_script", "_law_state_here", "_law_before", "_law_bad_here", "_law_behind", "_law_line", "_law_char", "_law_near"] "law" (defScope s_law) f cdv callerA [] s H E) (fun cls d _ H => E cls d H) (defBody s_law) (b_law rho r) := by
  have sc := sc_law
  unfold b_law
  exact (vs_cons (vs_asg (pv_call (ih ._law_state) (takes_of rfl rfl rfl rfl) (va_cons (pv_var 0) va_nil)) (vg_name sc.nd))
  (vs_cons (vs_asg (pv_call (ih ._law_lines) (takes_of rfl rfl rfl rfl) (va_cons (pv_var 1) va_nil)) (vg_name sc.nd))
  (vs_cons (vs_asg (pv_call (ih ._law_bad) (takes_of rfl rfl rfl rfl) (va_cons (pv_var 1) va_nil)) (vg_name sc.nd))
  (vs_cons (vs_asg (pv_ix o_ix (pv_frz (vl_lst (va_cons pv_str (va_cons pv_str (va_cons pv_str (va_cons pv_str (va_cons pv_str va_nil))))))) (pv_call (ih ._law_draw) (takes_of rfl rfl rfl rfl) (va_cons (pv_var 1) (va_cons pv_int va_nil)))) (vg_name sc.nd))
  (vs_cons (vs_asg (pv_bin o_add pv_int (pv_blt c_len T.b_len (by decide +kernel) (va_cons (pv_frz (vl_lc rfl sc.nd (vi_val (pv_var 2)) (blkOk_by (own := [("_law_char", 6)]) (show blkC ["_law_script", "_law_state_here", "_law_before", "_law_bad_here", "_law_behind", "_law_line", "_law_char", "_law_near"] (defScope s_law) _ _ = true by decide +kernel)) (fun _ _ _ _ _ => (vg_name sc.nd)) (fun _ _ _ _ _ => (vts_one (vt_cmp (o_eq hr.units) (pv_var 6) pv_str))) (fun _ _ _ _ _ => (pv_var 6)))) va_nil))) (vg_name sc.nd))
  (vs_cons (vs_if (vt_cmp (o_ne hr.units) (pv_call (ih ._law_outcome) (takes_of rfl rfl rfl rfl) (va_cons (pv_bin o_add (pv_bin o_add (pv_var 2) (pv_var 3)) (pv_var 4)) va_nil)) (pv_tup (va_cons pv_str (va_cons (pv_var 5) va_nil)))) (vs_one (vs_ret pv_bl)) vs_nil)
  (vs_cons (vs_asg (pv_ix o_ix (pv_frz (vl_lst (va_cons (pv_bin o_mul pv_str pv_int) (va_cons pv_str (va_cons pv_str (va_cons pv_str (va_cons pv_str (va_cons pv_str va_nil)))))))) (pv_call (ih ._law_draw) (takes_of rfl rfl rfl rfl) (va_cons (pv_var 1) (va_cons pv_int va_nil)))) (vg_name sc.nd))
  (vs_cons (vs_if (vt_cmp (o_ne hr.units) (pv_call (ih ._law_outcome) (takes_of rfl rfl rfl rfl) (va_cons (pv_bin o_add (pv_bin o_add (pv_bin o_add (pv_bin o_add (pv_var 2) pv_str) (pv_var 3)) pv_str) (pv_var 7)) va_nil)) (pv_tup (va_cons pv_str (va_cons pv_int va_nil)))) (vs_one (vs_ret pv_bl)) vs_nil)
  (vs_one (vs_ret (pv_cmp (o_eq hr.units) (pv_call (ih ._law_outcome) (takes_of rfl rfl rfl rfl) (va_cons (pv_bin o_add (pv_bin o_add (pv_var 2) (pv_var 7)) pv_str) va_nil)) (pv_tup (va_cons pv_str (va_cons pv_int va_nil))))))))))))))
theorem all_ok (T : Txt K mg G aF) : ∀ (k : Nat) (f : Fn), ∃ fd ps, FnOk P w K mg base (L2.CX P w) (k + 2) (aF f) fd ps (spM K G (call k f)) ∧ mg (nm f) = some (.ref (aF f)) ∧ PySem.W.keepIn K (.ref (aF f)) = true ∧ Binds K fd ps []
  | 0, f => by
    have none : ∀ (f : Fn) (fd : FuncData) (ps : List Str), FnOk P w K mg base (L2.CX P w) 2 (aF f) fd ps (spM K G (call 0 f)) := fun f fd ps => ⟨fun vs H Q E ⟨_, _, _, _, _, _, g⟩ => g.elim, fun A outer s H args us vs Q E _ _ _ _ ⟨_, _, _, _, _, _, g⟩ => g.elim⟩
    cases f with
    | is_word => obtain ⟨fd, F, hb⟩ := T.f_is_word; exact ⟨fd, _, none _ _ _, T.m_is_word, F.kp, hb⟩
    | run_end => obtain ⟨fd, F, hb⟩ := T.f_run_end; exact ⟨fd, _, none _ _ _, T.m_run_end, F.kp, hb⟩
    | run_token => obtain ⟨fd, F, hb⟩ := T.f_run_token; exact ⟨fd, _, none _ _ _, T.m_run_token, F.kp, hb⟩
    | sign_at => obtain ⟨fd, F, hb⟩ := T.f_sign_at; exact ⟨fd, _, none _ _ _, T.m_sign_at, F.kp, hb⟩
    | tokenize => obtain ⟨fd, F, hb⟩ := T.f_tokenize; exact ⟨fd, _, none _ _ _, T.m_tokenize, F.kp, hb⟩
    | _law_state => obtain ⟨fd, F, hb⟩ := T.f__law_state; exact ⟨fd, _, none _ _ _, T.m__law_state, F.kp, hb⟩
    | _law_draw => obtain ⟨fd, F, hb⟩ := T.f__law_draw; exact ⟨fd, _, none _ _ _, T.m__law_draw, F.kp, hb⟩
    | _law_good => obtain ⟨fd, F, hb⟩ := T.f__law_good; exact ⟨fd, _, none _ _ _, T.m__law_good, F.kp, hb⟩
    | _law_digits => obtain ⟨fd, F, hb⟩ := T.f__law_digits; exact ⟨fd, _, none _ _ _, T.m__law_digits, F.kp, hb⟩
    | _law_bad => obtain ⟨fd, F, hb⟩ := T.f__law_bad; exact ⟨fd, _, none _ _ _, T.m__law_bad, F.kp, hb⟩
    | _law_lines => obtain ⟨fd, F, hb⟩ := T.f__law_lines; exact ⟨fd, _, none _ _ _, T.m__law_lines, F.kp, hb⟩
    | _law_outcome => obtain ⟨fd, F, hb⟩ := T.f__law_outcome; exact ⟨fd, _, none _ _ _, T.m__law_outcome, F.kp, hb⟩
  | k + 1, f => by
    have ih : ∀ {A : Around}, Room (k + 2) A → CalF P w K mg base A G (call k) := fun hr g => by
      obtain ⟨fd, ps, F, hm, hk, hb⟩ := all_ok T k g
      exact ⟨k + 2, _, fd, ps, F, hr, hm, hk, hb⟩
    cases f with
    | is_word =>
      obtain ⟨fd, F, hb⟩ := T.f_is_word
      exact ⟨fd, _, fn_ok (N := ["text"]) F sc_is_word rfl (by decide) (fun cdv A outer s H E hr => w_is_word T hr (ih hr) (rse T (hr.mono (by omega)))), T.m_is_word, F.kp, hb⟩
    | run_end =>
      obtain ⟨fd, F, hb⟩ := T.f_run_end
      exact ⟨fd, _, fn_ok (N := ["text", "at", "end"]) F sc_run_end rfl (by decide) (fun cdv A outer s H E hr => w_run_end T hr (ih hr) (rse T (hr.mono (by omega)))), T.m_run_end, F.kp, hb⟩
    | run_token =>
      obtain ⟨fd, F, hb⟩ := T.f_run_token
      exact ⟨fd, _, fn_ok (N := ["run", "line", "sign"]) F sc_run_token rfl (by decide) (fun cdv A outer s H E hr => w_run_token T hr (ih hr) (rse T (hr.mono (by omega)))), T.m_run_token, F.kp, hb⟩
    | sign_at =>
      obtain ⟨fd, F, hb⟩ := T.f_sign_at
      exact ⟨fd, _, fn_ok (N := ["text", "at", "sign"]) F sc_sign_at rfl (by decide) (fun cdv A outer s H E hr => w_sign_at T hr (ih hr) (rse T (hr.mono (by omega)))), T.m_sign_at, F.kp, hb⟩
    | tokenize =>
      obtain ⟨fd, F, hb⟩ := T.f_tokenize
      exact ⟨fd, _, fn_ok (N := ["text", "found", "line", "at", "end", "sign"]) F sc_tokenize rfl (by decide) (fun cdv A outer s H E hr => w_tokenize T hr (ih hr) (rse T (hr.mono (by omega)))), T.m_tokenize, F.kp, hb⟩
    | _law_state =>
      obtain ⟨fd, F, hb⟩ := T.f__law_state
      exact ⟨fd, _, fn_ok (N := ["_law_script", "_law_seed", "_law_cell"]) F sc__law_state rfl (by decide) (fun cdv A outer s H E hr => w__law_state T hr (ih hr) (rse T (hr.mono (by omega)))), T.m__law_state, F.kp, hb⟩
    | _law_draw =>
      obtain ⟨fd, F, hb⟩ := T.f__law_draw
      exact ⟨fd, _, fn_ok (N := ["_law_state_here", "_law_many", "_law_cells", "_law_value", "_law_mixed"]) F sc__law_draw rfl (by decide) (fun cdv A outer s H E hr => w__law_draw T hr (ih hr) (rse T (hr.mono (by omega)))), T.m__law_draw, F.kp, hb⟩
    | _law_good =>
      obtain ⟨fd, F, hb⟩ := T.f__law_good
      exact ⟨fd, _, fn_ok (N := ["_law_state_here", "_law_pieces"]) F sc__law_good rfl (by decide) (fun cdv A outer s H E hr => w__law_good T hr (ih hr) (rse T (hr.mono (by omega)))), T.m__law_good, F.kp, hb⟩
    | _law_digits =>
      obtain ⟨fd, F, hb⟩ := T.f__law_digits
      exact ⟨fd, _, fn_ok (N := ["_law_state_here", "_law_many", "_law_text"]) F sc__law_digits rfl (by decide) (fun cdv A outer s H E hr => w__law_digits T hr (ih hr) (rse T (hr.mono (by omega)))), T.m__law_digits, F.kp, hb⟩
    | _law_bad =>
      obtain ⟨fd, F, hb⟩ := T.f__law_bad
      exact ⟨fd, _, fn_ok (N := ["_law_state_here", "_law_kind", "_law_marks"]) F sc__law_bad rfl (by decide) (fun cdv A outer s H E hr => w__law_bad T hr (ih hr) (rse T (hr.mono (by omega)))), T.m__law_bad, F.kp, hb⟩
    | _law_lines =>
      obtain ⟨fd, F, hb⟩ := T.f__law_lines
      exact ⟨fd, _, fn_ok (N := ["_law_state_here", "_law_text", "_law_k"]) F sc__law_lines rfl (by decide) (fun cdv A outer s H E hr => w__law_lines T hr (ih hr) (rse T (hr.mono (by omega)))), T.m__law_lines, F.kp, hb⟩
    | _law_outcome =>
      obtain ⟨fd, F, hb⟩ := T.f__law_outcome
      exact ⟨fd, _, fn_ok (N := ["_law_text", "_law_actual", "e"]) F sc__law_outcome rfl (by decide) (fun cdv A outer s H E hr => w__law_outcome T hr (ih hr) (rse T (hr.mono (by omega)))), T.m__law_outcome, F.kp, hb⟩
theorem law_at (T : Txt K mg G aF) {fa : Addr} {fd : FuncData} (F : Fun K "law" "law" s_law fa fd) : LawOk P w K mg base G fa fd "_law_script" (lawG rho 40) := by
  refine law_ok (N := ["_law_script", "_law_state_here", "_law_before", "_law_bad_here", "_law_behind", "_law_line", "_law_char", "_law_near"]) (k := 42) F sc_law (by decide) ⟨rfl, by decide, by decide⟩ fun cdv s H E hr => w_law T hr rfl (fun g => ?_) (rse T (hr.mono (by decide)))
  obtain ⟨fd, ps, F, hm, hk, hb⟩ := all_ok T 40 g
  exact ⟨_, _, fd, ps, F, hr, hm, hk, hb⟩
end
theorem all_mk {P : Program} {w : World} {K : PySem.W.Frag} {h : Heap} {mg : Str → Option Value} {fa a_is_word a_run_end a_run_token a_sign_at a_tokenize a__law_state a__law_draw a__law_good a__law_digits a__law_bad a__law_lines a__law_outcome a_law a_LayeraskError a_TextError i_TextError : Addr} (X : K.In h) (Gn : h.Ns mainGlobals mg) (hfa : mg "law" = some (.ref fa))
    {od_is_word an_is_word : Option Addr} {sl_is_word : Array (Option Value)} {oc_is_word kV_is_word dc_is_word pm_is_word cd_is_word ct_is_word : Value}
    {od_run_end an_run_end : Option Addr} {sl_run_end : Array (Option Value)} {oc_run_end kV_run_end dc_run_end pm_run_end cd_run_end ct_run_end : Value}
    {od_run_token an_run_token : Option Addr} {sl_run_token : Array (Option Value)} {oc_run_token kV_run_token dc_run_token pm_run_token cd_run_token ct_run_token : Value}
    {od_sign_at an_sign_at : Option Addr} {sl_sign_at : Array (Option Value)} {oc_sign_at kV_sign_at dc_sign_at pm_sign_at cd_sign_at ct_sign_at : Value}
    {od_tokenize an_tokenize : Option Addr} {sl_tokenize : Array (Option Value)} {oc_tokenize kV_tokenize dc_tokenize pm_tokenize cd_tokenize ct_tokenize : Value}
    {od__law_state an__law_state : Option Addr} {sl__law_state : Array (Option Value)} {oc__law_state kV__law_state dc__law_state pm__law_state cd__law_state ct__law_state : Value}
    {od__law_draw an__law_draw : Option Addr} {sl__law_draw : Array (Option Value)} {oc__law_draw kV__law_draw dc__law_draw pm__law_draw cd__law_draw ct__law_draw : Value}
    {od__law_good an__law_good : Option Addr} {sl__law_good : Array (Option Value)} {oc__law_good kV__law_good dc__law_good pm__law_good cd__law_good ct__law_good : Value}
    {od__law_digits an__law_digits : Option Addr} {sl__law_digits : Array (Option Value)} {oc__law_digits kV__law_digits dc__law_digits pm__law_digits cd__law_digits ct__law_digits : Value}
    {od__law_bad an__law_bad : Option Addr} {sl__law_bad : Array (Option Value)} {oc__law_bad kV__law_bad dc__law_bad pm__law_bad cd__law_bad ct__law_bad : Value}
    {od__law_lines an__law_lines : Option Addr} {sl__law_lines : Array (Option Value)} {oc__law_lines kV__law_lines dc__law_lines pm__law_lines cd__law_lines ct__law_lines : Value}
    {od__law_outcome an__law_outcome : Option Addr} {sl__law_outcome : Array (Option Value)} {oc__law_outcome kV__law_outcome dc__law_outcome pm__law_outcome cd__law_outcome ct__law_outcome : Value}
    {od_law an_law : Option Addr} {sl_law : Array (Option Value)} {oc_law kV_law dc_law pm_law cd_law ct_law : Value}
    {t_DIGITS_0 : Tok}
    {t_LETTERS_0 : Tok}
    {t_LONGEST_NAME_0 : Tok}
    {t_LONGEST_NUMBER_0 : Tok}
    {t_MORE_WORDS_0 t_MORE_WORDS_1 t_MORE_WORDS_2 t_MORE_WORDS_3 : Tok} {q_MORE_WORDS : Addr} {od_MORE_WORDS : Option Addr} {n_MORE_WORDS : Nat} {sl_MORE_WORDS : Array (Option Value)}
    {t_SIGNS_0 t_SIGNS_1 t_SIGNS_2 t_SIGNS_3 t_SIGNS_4 t_SIGNS_5 t_SIGNS_6 t_SIGNS_7 t_SIGNS_8 t_SIGNS_9 t_SIGNS_10 t_SIGNS_11 t_SIGNS_12 : Tok} {q_SIGNS : Addr} {od_SIGNS : Option Addr} {n_SIGNS : Nat} {sl_SIGNS : Array (Option Value)}
    {t_WORDS_0 t_WORDS_1 t_WORDS_2 t_WORDS_3 t_WORDS_4 t_WORDS_5 t_WORDS_6 t_WORDS_7 t_WORDS_8 t_WORDS_9 t_WORDS_10 t_WORDS_11 : Tok} {q_WORDS : Addr} {od_WORDS : Option Addr} {n_WORDS : Nat} {sl_WORDS : Array (Option Value)}
    {nm_TextError q_TextError : Str} {N_TextError : Addr} {bs_TextError : List Value} {sn_TextError : List Str} {sub_TextError : List Value} {ab_TextError : Bool} {col_TextError : Option Bool} {dd_TextError : Option Addr} {m0_TextError m1_TextError m2_TextError m3_TextError m5_TextError : Option Value}
    {od_TextError_init an_TextError_init : Option Addr} {sl_TextError_init : Array (Option Value)} {oc_TextError_init kV_TextError_init dc_TextError_init pm_TextError_init cd_TextError_init ct_TextError_init : Value}
    (g_is_word : PySem.W.nsIn K mainGlobals "is_word" = some (some (.ref a_is_word)))
    (l_is_word : K.lookup a_is_word = some ⟨oc_is_word, od_is_word, .func (PySem.W.fnOf "is_word" "is_word" (defArgs s_is_word) (defBody s_is_word) (defScope s_is_word) .none kV_is_word dc_is_word pm_is_word an_is_word cd_is_word ct_is_word), sl_is_word⟩) (d_is_word : PySem.W.codeIn K cd_is_word "is_word" = true) (p_is_word : PySem.W.keepIn K (.ref a_is_word) = true)
    (g_run_end : PySem.W.nsIn K mainGlobals "run_end" = some (some (.ref a_run_end)))
    (l_run_end : K.lookup a_run_end = some ⟨oc_run_end, od_run_end, .func (PySem.W.fnOf "run_end" "run_end" (defArgs s_run_end) (defBody s_run_end) (defScope s_run_end) .none kV_run_end dc_run_end pm_run_end an_run_end cd_run_end ct_run_end), sl_run_end⟩) (d_run_end : PySem.W.codeIn K cd_run_end "run_end" = true) (p_run_end : PySem.W.keepIn K (.ref a_run_end) = true)
    (g_run_token : PySem.W.nsIn K mainGlobals "run_token" = some (some (.ref a_run_token)))
    (l_run_token : K.lookup a_run_token = some ⟨oc_run_token, od_run_token, .func (PySem.W.fnOf "run_token" "run_token" (defArgs s_run_token) (defBody s_run_token) (defScope s_run_token) .none kV_run_token dc_run_token pm_run_token an_run_token cd_run_token ct_run_token), sl_run_token⟩) (d_run_token : PySem.W.codeIn K cd_run_token "run_token" = true) (p_run_token : PySem.W.keepIn K (.ref a_run_token) = true)
    (g_sign_at : PySem.W.nsIn K mainGlobals "sign_at" = some (some (.ref a_sign_at)))
    (l_sign_at : K.lookup a_sign_at = some ⟨oc_sign_at, od_sign_at, .func (PySem.W.fnOf "sign_at" "sign_at" (defArgs s_sign_at) (defBody s_sign_at) (defScope s_sign_at) .none kV_sign_at dc_sign_at pm_sign_at an_sign_at cd_sign_at ct_sign_at), sl_sign_at⟩) (d_sign_at : PySem.W.codeIn K cd_sign_at "sign_at" = true) (p_sign_at : PySem.W.keepIn K (.ref a_sign_at) = true)
    (g_tokenize : PySem.W.nsIn K mainGlobals "tokenize" = some (some (.ref a_tokenize)))
    (l_tokenize : K.lookup a_tokenize = some ⟨oc_tokenize, od_tokenize, .func (PySem.W.fnOf "tokenize" "tokenize" (defArgs s_tokenize) (defBody s_tokenize) (defScope s_tokenize) .none kV_tokenize dc_tokenize pm_tokenize an_tokenize cd_tokenize ct_tokenize), sl_tokenize⟩) (d_tokenize : PySem.W.codeIn K cd_tokenize "tokenize" = true) (p_tokenize : PySem.W.keepIn K (.ref a_tokenize) = true)
    (g__law_state : PySem.W.nsIn K mainGlobals "_law_state" = some (some (.ref a__law_state)))
    (l__law_state : K.lookup a__law_state = some ⟨oc__law_state, od__law_state, .func (PySem.W.fnOf "_law_state" "_law_state" (defArgs s__law_state) (defBody s__law_state) (defScope s__law_state) .none kV__law_state dc__law_state pm__law_state an__law_state cd__law_state ct__law_state), sl__law_state⟩) (d__law_state : PySem.W.codeIn K cd__law_state "_law_state" = true) (p__law_state : PySem.W.keepIn K (.ref a__law_state) = true)
    (g__law_draw : PySem.W.nsIn K mainGlobals "_law_draw" = some (some (.ref a__law_draw)))
    (l__law_draw : K.lookup a__law_draw = some ⟨oc__law_draw, od__law_draw, .func (PySem.W.fnOf "_law_draw" "_law_draw" (defArgs s__law_draw) (defBody s__law_draw) (defScope s__law_draw) .none kV__law_draw dc__law_draw pm__law_draw an__law_draw cd__law_draw ct__law_draw), sl__law_draw⟩) (d__law_draw : PySem.W.codeIn K cd__law_draw "_law_draw" = true) (p__law_draw : PySem.W.keepIn K (.ref a__law_draw) = true)
    (g__law_good : PySem.W.nsIn K mainGlobals "_law_good" = some (some (.ref a__law_good)))
    (l__law_good : K.lookup a__law_good = some ⟨oc__law_good, od__law_good, .func (PySem.W.fnOf "_law_good" "_law_good" (defArgs s__law_good) (defBody s__law_good) (defScope s__law_good) .none kV__law_good dc__law_good pm__law_good an__law_good cd__law_good ct__law_good), sl__law_good⟩) (d__law_good : PySem.W.codeIn K cd__law_good "_law_good" = true) (p__law_good : PySem.W.keepIn K (.ref a__law_good) = true)
    (g__law_digits : PySem.W.nsIn K mainGlobals "_law_digits" = some (some (.ref a__law_digits)))
    (l__law_digits : K.lookup a__law_digits = some ⟨oc__law_digits, od__law_digits, .func (PySem.W.fnOf "_law_digits" "_law_digits" (defArgs s__law_digits) (defBody s__law_digits) (defScope s__law_digits) .none kV__law_digits dc__law_digits pm__law_digits an__law_digits cd__law_digits ct__law_digits), sl__law_digits⟩) (d__law_digits : PySem.W.codeIn K cd__law_digits "_law_digits" = true) (p__law_digits : PySem.W.keepIn K (.ref a__law_digits) = true)
    (g__law_bad : PySem.W.nsIn K mainGlobals "_law_bad" = some (some (.ref a__law_bad)))
    (l__law_bad : K.lookup a__law_bad = some ⟨oc__law_bad, od__law_bad, .func (PySem.W.fnOf "_law_bad" "_law_bad" (defArgs s__law_bad) (defBody s__law_bad) (defScope s__law_bad) .none kV__law_bad dc__law_bad pm__law_bad an__law_bad cd__law_bad ct__law_bad), sl__law_bad⟩) (d__law_bad : PySem.W.codeIn K cd__law_bad "_law_bad" = true) (p__law_bad : PySem.W.keepIn K (.ref a__law_bad) = true)
    (g__law_lines : PySem.W.nsIn K mainGlobals "_law_lines" = some (some (.ref a__law_lines)))
    (l__law_lines : K.lookup a__law_lines = some ⟨oc__law_lines, od__law_lines, .func (PySem.W.fnOf "_law_lines" "_law_lines" (defArgs s__law_lines) (defBody s__law_lines) (defScope s__law_lines) .none kV__law_lines dc__law_lines pm__law_lines an__law_lines cd__law_lines ct__law_lines), sl__law_lines⟩) (d__law_lines : PySem.W.codeIn K cd__law_lines "_law_lines" = true) (p__law_lines : PySem.W.keepIn K (.ref a__law_lines) = true)
    (g__law_outcome : PySem.W.nsIn K mainGlobals "_law_outcome" = some (some (.ref a__law_outcome)))
    (l__law_outcome : K.lookup a__law_outcome = some ⟨oc__law_outcome, od__law_outcome, .func (PySem.W.fnOf "_law_outcome" "_law_outcome" (defArgs s__law_outcome) (defBody s__law_outcome) (defScope s__law_outcome) .none kV__law_outcome dc__law_outcome pm__law_outcome an__law_outcome cd__law_outcome ct__law_outcome), sl__law_outcome⟩) (d__law_outcome : PySem.W.codeIn K cd__law_outcome "_law_outcome" = true) (p__law_outcome : PySem.W.keepIn K (.ref a__law_outcome) = true)
    (g_law : PySem.W.nsIn K mainGlobals "law" = some (some (.ref a_law)))
    (l_law : K.lookup a_law = some ⟨oc_law, od_law, .func (PySem.W.fnOf "law" "law" (defArgs s_law) (defBody s_law) (defScope s_law) .none kV_law dc_law pm_law an_law cd_law ct_law), sl_law⟩) (d_law : PySem.W.codeIn K cd_law "law" = true) (p_law : PySem.W.keepIn K (.ref a_law) = true)
    (z_DIGITS : PySem.W.nsIn K mainGlobals "DIGITS" = some (some (.str "0123456789" t_DIGITS_0)))
    (z_LETTERS : PySem.W.nsIn K mainGlobals "LETTERS" = some (some (.str "abcdefghijklmnopqrstuvwxyzABCDEFGHIJKLMNOPQRSTUVWXYZ" t_LETTERS_0)))
    (z_LONGEST_NAME : PySem.W.nsIn K mainGlobals "LONGEST_NAME" = some (some (.int 16 t_LONGEST_NAME_0)))
    (z_LONGEST_NUMBER : PySem.W.nsIn K mainGlobals "LONGEST_NUMBER" = some (some (.int 10 t_LONGEST_NUMBER_0)))
    (z_MORE_WORDS : PySem.W.nsIn K mainGlobals "MORE_WORDS" = some (some (.ref q_MORE_WORDS))) (y_MORE_WORDS : K.lookup q_MORE_WORDS = some ⟨.type "tuple", od_MORE_WORDS, .seq #[.str "with" t_MORE_WORDS_0, .str "and" t_MORE_WORDS_1, .str "or" t_MORE_WORDS_2, .str "not" t_MORE_WORDS_3] n_MORE_WORDS, sl_MORE_WORDS⟩)
    (z_SIGNS : PySem.W.nsIn K mainGlobals "SIGNS" = some (some (.ref q_SIGNS))) (y_SIGNS : K.lookup q_SIGNS = some ⟨.type "tuple", od_SIGNS, .seq #[.str "==" t_SIGNS_0, .str "(" t_SIGNS_1, .str ")" t_SIGNS_2, .str "[" t_SIGNS_3, .str "]" t_SIGNS_4, .str "," t_SIGNS_5, .str "=" t_SIGNS_6, .str "<" t_SIGNS_7, .str ":" t_SIGNS_8, .str "+" t_SIGNS_9, .str "-" t_SIGNS_10, .str "*" t_SIGNS_11, .str "^" t_SIGNS_12] n_SIGNS, sl_SIGNS⟩)
    (z_WORDS : PySem.W.nsIn K mainGlobals "WORDS" = some (some (.ref q_WORDS))) (y_WORDS : K.lookup q_WORDS = some ⟨.type "tuple", od_WORDS, .seq #[.str "field" t_WORDS_0, .str "input" t_WORDS_1, .str "function" t_WORDS_2, .str "let" t_WORDS_3, .str "output" t_WORDS_4, .str "if" t_WORDS_5, .str "then" t_WORDS_6, .str "else" t_WORDS_7, .str "sum" t_WORDS_8, .str "product" t_WORDS_9, .str "each" t_WORDS_10, .str "repeat" t_WORDS_11] n_WORDS, sl_WORDS⟩)
    (b_ValueError : PySem.W.nsIn K mainGlobals "ValueError" = some none)
    (b_abs : PySem.W.nsIn K mainGlobals "abs" = some none)
    (b_bool : PySem.W.nsIn K mainGlobals "bool" = some none)
    (b_int : PySem.W.nsIn K mainGlobals "int" = some none)
    (b_isinstance : PySem.W.nsIn K mainGlobals "isinstance" = some none)
    (b_len : PySem.W.nsIn K mainGlobals "len" = some none)
    (b_list : PySem.W.nsIn K mainGlobals "list" = some none)
    (b_range : PySem.W.nsIn K mainGlobals "range" = some none)
    (e1 : PySem.W.nsIn K mainGlobals "LayeraskError" = some (some (.ref a_LayeraskError))) (e2 : PySem.W.specialIn K (.ref a_LayeraskError) "__getattribute__" = some (some (.builtin "type.__getattribute__"))) (e3 : PySem.W.readsIn K a_LayeraskError (.type "type") = true) (e4 : PySem.W.findCls K (.ref a_LayeraskError) (.type "type") "__init__" = some (.val (.builtin "ValueError.__init__")))
    (g_TextError : PySem.W.nsIn K mainGlobals "TextError" = some (some (.ref a_TextError)))
    (L_TextError : K.lookup a_TextError = some (excClassObj nm_TextError q_TextError a_TextError N_TextError bs_TextError [.ref a_LayeraskError, .type "ValueError", .type "Exception", .type "BaseException", .type "object"] true sn_TextError sub_TextError ab_TextError col_TextError dd_TextError m0_TextError m1_TextError m2_TextError m3_TextError m5_TextError "ValueError.__new__"))
    (sa_TextError : PySem.W.findIn K (.ref a_TextError) "__setattr__" = some (some (.builtin "object.__setattr__"))) (ex_TextError : PySem.W.subIn K (.ref a_TextError) (.type "BaseException") = some true) (ty_TextError : PySem.W.typeIn K (.ref a_TextError) = some (.type "type")) (kc_TextError : PySem.W.keepIn K (.ref a_TextError) = true)
    (x_TextError_line : PySem.W.findIn K (.ref a_TextError) "line" = some none)
    (j_TextError : PySem.W.findIn K (.ref a_TextError) "__init__" = some (some (.ref i_TextError))) (jt_TextError : PySem.W.typeIn K (.ref i_TextError) = some (.type "function"))
    (l_TextError_init : K.lookup i_TextError = some ⟨oc_TextError_init, od_TextError_init, .func (PySem.W.fnOf "__init__" "TextError.__init__" (defArgs s_TextError_init) (defBody s_TextError_init) (defScope s_TextError_init) .none kV_TextError_init dc_TextError_init pm_TextError_init an_TextError_init cd_TextError_init ct_TextError_init), sl_TextError_init⟩) (d_TextError_init : PySem.W.codeIn K cd_TextError_init "TextError.__init__" = true) (p_TextError_init : PySem.W.keepIn K (.ref i_TextError) = true)
    (h1_TextError : PySem.W.findIn K (.ref a_TextError) "__getattribute__" = some (some (.builtin "BaseException.__getattribute__"))) (h2_TextError : PySem.W.findIn K (.ref a_TextError) "__getattr__" = some none) (h3_TextError : PySem.W.hasDictIn K a_TextError = true) (h4_TextError : PySem.W.findIn K (.ref a_TextError) "__class__" = some (some (.builtin "object.__class__"))) (h5_TextError : PySem.W.mroIn K a_TextError (.type "object") = some true) (h6_TextError : PySem.W.subIn K (.ref a_TextError) (.type "BaseException") = some true) (h7_TextError : PySem.W.typeIn K (.ref a_TextError) = some (.type "type"))
    (hn0 : PySem.W.specialIn K (.builtin "object.__class__") "__get__" = some (some (.builtin "getset_descriptor.__get__"))) (ht0 : PySem.W.takesIn K (.builtin "object.__class__") = some true)
    (kt_TextError_LayeraskError : PySem.W.kitOne K (.ref a_TextError) (.ref a_LayeraskError) = some true)
    (kt_TextError_ValueError : PySem.W.kitOne K (.ref a_TextError) (.type "ValueError") = some true)
    (em_TextError_TextError : PySem.W.subIn K (.ref a_TextError) (.ref a_TextError) = some true) :
    ∃ (G : Gs) (fd : FuncData), (∀ (s : Shared) (u : Value), BindsTo s fd ⟨[u], []⟩ [("_law_script", u)]) ∧ ∀ base : Heap, K.In base → base.Ns mainGlobals mg → LawOk P w K mg base G fa fd "_law_script" (lawG rho 40) := by
  have e := hfa.symm.trans (PySem.W.mg_of X Gn g_law)
  cases e
  let G : Gs := ⟨fun c => match c with | 0 => a_TextError | 1 => a_LayeraskError | _ => 0, fun c => match c with | 0 => ["line"] | _ => []⟩
  let aF : Fn → Addr := fun f => match f with | .is_word => a_is_word | .run_end => a_run_end | .run_token => a_run_token | .sign_at => a_sign_at | .tokenize => a_tokenize | ._law_state => a__law_state | ._law_draw => a__law_draw | ._law_good => a__law_good | ._law_digits => a__law_digits | ._law_bad => a__law_bad | ._law_lines => a__law_lines | ._law_outcome => a__law_outcome
  have T : Txt K mg G aF := {
    n_TextError := rfl,
    f_is_word := ⟨_, fun_mk (st := s_is_word) l_is_word d_is_word p_is_word, (fun_mk (st := s_is_word) l_is_word d_is_word p_is_word).binds (ps := ["text"]) fun _ _ _ _ _ _ us hl => match us, hl with | [_], _ => rfl⟩,
    m_is_word := PySem.W.mg_of X Gn g_is_word,
    f_run_end := ⟨_, fun_mk (st := s_run_end) l_run_end d_run_end p_run_end, (fun_mk (st := s_run_end) l_run_end d_run_end p_run_end).binds (ps := ["text", "at"]) fun _ _ _ _ _ _ us hl => match us, hl with | [_, _], _ => rfl⟩,
    m_run_end := PySem.W.mg_of X Gn g_run_end,
    f_run_token := ⟨_, fun_mk (st := s_run_token) l_run_token d_run_token p_run_token, (fun_mk (st := s_run_token) l_run_token d_run_token p_run_token).binds (ps := ["run", "line"]) fun _ _ _ _ _ _ us hl => match us, hl with | [_, _], _ => rfl⟩,
    m_run_token := PySem.W.mg_of X Gn g_run_token,
    f_sign_at := ⟨_, fun_mk (st := s_sign_at) l_sign_at d_sign_at p_sign_at, (fun_mk (st := s_sign_at) l_sign_at d_sign_at p_sign_at).binds (ps := ["text", "at"]) fun _ _ _ _ _ _ us hl => match us, hl with | [_, _], _ => rfl⟩,
    m_sign_at := PySem.W.mg_of X Gn g_sign_at,
    f_tokenize := ⟨_, fun_mk (st := s_tokenize) l_tokenize d_tokenize p_tokenize, (fun_mk (st := s_tokenize) l_tokenize d_tokenize p_tokenize).binds (ps := ["text"]) fun _ _ _ _ _ _ us hl => match us, hl with | [_], _ => rfl⟩,
    m_tokenize := PySem.W.mg_of X Gn g_tokenize,
    f__law_state := ⟨_, fun_mk (st := s__law_state) l__law_state d__law_state p__law_state, (fun_mk (st := s__law_state) l__law_state d__law_state p__law_state).binds (ps := ["_law_script"]) fun _ _ _ _ _ _ us hl => match us, hl with | [_], _ => rfl⟩,
    m__law_state := PySem.W.mg_of X Gn g__law_state,
    f__law_draw := ⟨_, fun_mk (st := s__law_draw) l__law_draw d__law_draw p__law_draw, (fun_mk (st := s__law_draw) l__law_draw d__law_draw p__law_draw).binds (ps := ["_law_state_here", "_law_many"]) fun _ _ _ _ _ _ us hl => match us, hl with | [_, _], _ => rfl⟩,
    m__law_draw := PySem.W.mg_of X Gn g__law_draw,
    f__law_good := ⟨_, fun_mk (st := s__law_good) l__law_good d__law_good p__law_good, (fun_mk (st := s__law_good) l__law_good d__law_good p__law_good).binds (ps := ["_law_state_here"]) fun _ _ _ _ _ _ us hl => match us, hl with | [_], _ => rfl⟩,
    m__law_good := PySem.W.mg_of X Gn g__law_good,
    f__law_digits := ⟨_, fun_mk (st := s__law_digits) l__law_digits d__law_digits p__law_digits, (fun_mk (st := s__law_digits) l__law_digits d__law_digits p__law_digits).binds (ps := ["_law_state_here", "_law_many"]) fun _ _ _ _ _ _ us hl => match us, hl with | [_, _], _ => rfl⟩,
    m__law_digits := PySem.W.mg_of X Gn g__law_digits,
    f__law_bad := ⟨_, fun_mk (st := s__law_bad) l__law_bad d__law_bad p__law_bad, (fun_mk (st := s__law_bad) l__law_bad d__law_bad p__law_bad).binds (ps := ["_law_state_here"]) fun _ _ _ _ _ _ us hl => match us, hl with | [_], _ => rfl⟩,
    m__law_bad := PySem.W.mg_of X Gn g__law_bad,
    f__law_lines := ⟨_, fun_mk (st := s__law_lines) l__law_lines d__law_lines p__law_lines, (fun_mk (st := s__law_lines) l__law_lines d__law_lines p__law_lines).binds (ps := ["_law_state_here"]) fun _ _ _ _ _ _ us hl => match us, hl with | [_], _ => rfl⟩,
    m__law_lines := PySem.W.mg_of X Gn g__law_lines,
    f__law_outcome := ⟨_, fun_mk (st := s__law_outcome) l__law_outcome d__law_outcome p__law_outcome, (fun_mk (st := s__law_outcome) l__law_outcome d__law_outcome p__law_outcome).binds (ps := ["_law_text"]) fun _ _ _ _ _ _ us hl => match us, hl with | [_], _ => rfl⟩,
    m__law_outcome := PySem.W.mg_of X Gn g__law_outcome,
    c_DIGITS := ⟨_, .str ⟨[48, 49, 50, 51, 52, 53, 54, 55, 56, 57].toArray⟩, PySem.W.mg_of X Gn z_DIGITS, tok_s (by decide +kernel), fun _ _ => .str _⟩,
    c_LETTERS := ⟨_, .str ⟨[97, 98, 99, 100, 101, 102, 103, 104, 105, 106, 107, 108, 109, 110, 111, 112, 113, 114, 115, 116, 117, 118, 119, 120, 121, 122, 65, 66, 67, 68, 69, 70, 71, 72, 73, 74, 75, 76, 77, 78, 79, 80, 81, 82, 83, 84, 85, 86, 87, 88, 89, 90].toArray⟩, PySem.W.mg_of X Gn z_LETTERS, tok_s (by decide +kernel), fun _ _ => .str _⟩,
    c_LONGEST_NAME := ⟨_, .int 16, PySem.W.mg_of X Gn z_LONGEST_NAME, ⟨_, rfl⟩, fun _ _ => .int _⟩,
    c_LONGEST_NUMBER := ⟨_, .int 10, PySem.W.mg_of X Gn z_LONGEST_NUMBER, ⟨_, rfl⟩, fun _ _ => .int _⟩,
    c_MORE_WORDS := ⟨_, .ref q_MORE_WORDS, PySem.W.mg_of X Gn z_MORE_WORDS, rfl, fun _ _ => .tup (vs := [.str ⟨[119, 105, 116, 104].toArray⟩, .str ⟨[97, 110, 100].toArray⟩, .str ⟨[111, 114].toArray⟩, .str ⟨[110, 111, 116].toArray⟩]) (.inr ⟨_, _, _, y_MORE_WORDS, rfl, rfl, sz_of (show 4 ≤ 16777216 by omega), .cons (tok_s (by decide +kernel)) (.cons (tok_s (by decide +kernel)) (.cons (tok_s (by decide +kernel)) (.cons (tok_s (by decide +kernel)) (.nil))))⟩) (.cons (.str _) (.cons (.str _) (.cons (.str _) (.cons (.str _) (.nil)))))⟩,
    c_SIGNS := ⟨_, .ref q_SIGNS, PySem.W.mg_of X Gn z_SIGNS, rfl, fun _ _ => .tup (vs := [.str ⟨[61, 61].toArray⟩, .str ⟨[40].toArray⟩, .str ⟨[41].toArray⟩, .str ⟨[91].toArray⟩, .str ⟨[93].toArray⟩, .str ⟨[44].toArray⟩, .str ⟨[61].toArray⟩, .str ⟨[60].toArray⟩, .str ⟨[58].toArray⟩, .str ⟨[43].toArray⟩, .str ⟨[45].toArray⟩, .str ⟨[42].toArray⟩, .str ⟨[94].toArray⟩]) (.inr ⟨_, _, _, y_SIGNS, rfl, rfl, sz_of (show 13 ≤ 16777216 by omega), .cons (tok_s (by decide +kernel)) (.cons (tok_s (by decide +kernel)) (.cons (tok_s (by decide +kernel)) (.cons (tok_s (by decide +kernel)) (.cons (tok_s (by decide +kernel)) (.cons (tok_s (by decide +kernel)) (.cons (tok_s (by decide +kernel)) (.cons (tok_s (by decide +kernel)) (.cons (tok_s (by decide +kernel)) (.cons (tok_s (by decide +kernel)) (.cons (tok_s (by decide +kernel)) (.cons (tok_s (by decide +kernel)) (.cons (tok_s (by decide +kernel)) (.nil)))))))))))))⟩) (.cons (.str _) (.cons (.str _) (.cons (.str _) (.cons (.str _) (.cons (.str _) (.cons (.str _) (.cons (.str _) (.cons (.str _) (.cons (.str _) (.cons (.str _) (.cons (.str _) (.cons (.str _) (.cons (.str _) (.nil))))))))))))))⟩,
    c_WORDS := ⟨_, .ref q_WORDS, PySem.W.mg_of X Gn z_WORDS, rfl, fun _ _ => .tup (vs := [.str ⟨[102, 105, 101, 108, 100].toArray⟩, .str ⟨[105, 110, 112, 117, 116].toArray⟩, .str ⟨[102, 117, 110, 99, 116, 105, 111, 110].toArray⟩, .str ⟨[108, 101, 116].toArray⟩, .str ⟨[111, 117, 116, 112, 117, 116].toArray⟩, .str ⟨[105, 102].toArray⟩, .str ⟨[116, 104, 101, 110].toArray⟩, .str ⟨[101, 108, 115, 101].toArray⟩, .str ⟨[115, 117, 109].toArray⟩, .str ⟨[112, 114, 111, 100, 117, 99, 116].toArray⟩, .str ⟨[101, 97, 99, 104].toArray⟩, .str ⟨[114, 101, 112, 101, 97, 116].toArray⟩]) (.inr ⟨_, _, _, y_WORDS, rfl, rfl, sz_of (show 12 ≤ 16777216 by omega), .cons (tok_s (by decide +kernel)) (.cons (tok_s (by decide +kernel)) (.cons (tok_s (by decide +kernel)) (.cons (tok_s (by decide +kernel)) (.cons (tok_s (by decide +kernel)) (.cons (tok_s (by decide +kernel)) (.cons (tok_s (by decide +kernel)) (.cons (tok_s (by decide +kernel)) (.cons (tok_s (by decide +kernel)) (.cons (tok_s (by decide +kernel)) (.cons (tok_s (by decide +kernel)) (.cons (tok_s (by decide +kernel)) (.nil))))))))))))⟩) (.cons (.str _) (.cons (.str _) (.cons (.str _) (.cons (.str _) (.cons (.str _) (.cons (.str _) (.cons (.str _) (.cons (.str _) (.cons (.str _) (.cons (.str _) (.cons (.str _) (.cons (.str _) (.nil)))))))))))))⟩,
    b_ValueError := PySem.W.mg_none_of X Gn b_ValueError,
    b_abs := PySem.W.mg_none_of X Gn b_abs,
    b_bool := PySem.W.mg_none_of X Gn b_bool,
    b_int := PySem.W.mg_none_of X Gn b_int,
    b_isinstance := PySem.W.mg_none_of X Gn b_isinstance,
    b_len := PySem.W.mg_none_of X Gn b_len,
    b_list := PySem.W.mg_none_of X Gn b_list,
    b_range := PySem.W.mg_none_of X Gn b_range,
    xf_TextError := ⟨h1_TextError, h2_TextError, h6_TextError, h3_TextError⟩,
    is_TextError := ⟨h1_TextError, h2_TextError, h6_TextError, h3_TextError, h4_TextError, hn0, ht0, h5_TextError⟩,
    kt_TextError_LayeraskError := kt_TextError_LayeraskError,
    kt_TextError_ValueError := kt_TextError_ValueError,
    em_TextError_TextError := PySem.W.exm_ref h6_TextError h3_TextError h7_TextError em_TextError_TextError,
    base := ⟨PySem.W.mg_of X Gn e1, e2, e3, e4⟩,
    o_TextError := ⟨⟨_, _, _, _, _, _, _, _, _, _, _, _, _, _, _, L_TextError, by first | rfl | decide +kernel⟩, sa_TextError, ex_TextError, ty_TextError, kc_TextError⟩,
    g_TextError := PySem.W.mg_of X Gn g_TextError,
    x_TextError_line := x_TextError_line,
    i_TextError := ⟨_, _, j_TextError, jt_TextError, fun_mk (st := s_TextError_init) l_TextError_init d_TextError_init p_TextError_init, (fun_mk (st := s_TextError_init) l_TextError_init d_TextError_init p_TextError_init).binds (ps := ["self", "line"]) fun _ _ _ _ _ _ us hl => match us, hl with | [_, _], _ => rfl⟩ }
  exact ⟨G, _, fun s u => .of_eq rfl, fun base _ _ => law_at T (fun_mk (st := s_law) l_law d_law p_law)⟩
end Lw

open PySem PySem.W PyProof.Rows
set_option maxRecDepth 100000 in
set_option maxHeartbeats 8000000 in
theorem PySem.Challenge.cw_layerask_k42_errors_of_tokens_holds : PySem.Challenge.rw_layerask_k42_errors_of_tokens.Holds := by
  w_on; o_law; k_head; (case hw => w_witness2)
  k_fill
  refine Mv.walk_law (l := PySem.Challenge.rw_layerask_k42_errors_of_tokens) (n := 63) (x := "_law_script") (g := Lw.lawG Mv.rho 40) rfl (by decide) rfl (fun w h Y => PySem.W.kIn_of Y) Lw.gives ?F
  case F =>
    intro w mg fa h KX Gn hmg
    refine' Lw.all_mk KX Gn hmg ?g_is_word ?l_is_word ?d_is_word ?p_is_word ?g_run_end ?l_run_end ?d_run_end ?p_run_end ?g_run_token ?l_run_token ?d_run_token ?p_run_token ?g_sign_at ?l_sign_at ?d_sign_at ?p_sign_at ?g_tokenize ?l_tokenize ?d_tokenize ?p_tokenize ?g__law_state ?l__law_state ?d__law_state ?p__law_state ?g__law_draw ?l__law_draw ?d__law_draw ?p__law_draw ?g__law_good ?l__law_good ?d__law_good ?p__law_good ?g__law_digits ?l__law_digits ?d__law_digits ?p__law_digits ?g__law_bad ?l__law_bad ?d__law_bad ?p__law_bad ?g__law_lines ?l__law_lines ?d__law_lines ?p__law_lines ?g__law_outcome ?l__law_outcome ?d__law_outcome ?p__law_outcome ?g_law ?l_law ?d_law ?p_law ?z_DIGITS ?z_LETTERS ?z_LONGEST_NAME ?z_LONGEST_NUMBER ?z_MORE_WORDS ?y_MORE_WORDS ?z_SIGNS ?y_SIGNS ?z_WORDS ?y_WORDS ?b_ValueError ?b_abs ?b_bool ?b_int ?b_isinstance ?b_len ?b_list ?b_range ?e1 ?e2 ?e3 ?e4 ?g_TextError ?L_TextError ?sa_TextError ?ex_TextError ?ty_TextError ?kc_TextError ?x_TextError_line ?j_TextError ?jt_TextError ?l_TextError_init ?d_TextError_init ?p_TextError_init ?h1_TextError ?h2_TextError ?h3_TextError ?h4_TextError ?h5_TextError ?h6_TextError ?h7_TextError ?hn0 ?ht0 ?kt_TextError_LayeraskError ?kt_TextError_ValueError ?em_TextError_TextError
    (case g_is_word => k_is)
    (case l_is_word => k_is)
    (case d_is_word => k_is)
    (case p_is_word => k_is)
    (case g_run_end => k_is)
    (case l_run_end => k_is)
    (case d_run_end => k_is)
    (case p_run_end => k_is)
    (case g_run_token => k_is)
    (case l_run_token => k_is)
    (case d_run_token => k_is)
    (case p_run_token => k_is)
    (case g_sign_at => k_is)
    (case l_sign_at => k_is)
    (case d_sign_at => k_is)
    (case p_sign_at => k_is)
    (case g_tokenize => k_is)
    (case l_tokenize => k_is)
    (case d_tokenize => k_is)
    (case p_tokenize => k_is)
    (case g__law_state => k_is)
    (case l__law_state => k_is)
    (case d__law_state => k_is)
    (case p__law_state => k_is)
    (case g__law_draw => k_is)
    (case l__law_draw => k_is)
    (case d__law_draw => k_is)
    (case p__law_draw => k_is)
    (case g__law_good => k_is)
    (case l__law_good => k_is)
    (case d__law_good => k_is)
    (case p__law_good => k_is)
    (case g__law_digits => k_is)
    (case l__law_digits => k_is)
    (case d__law_digits => k_is)
    (case p__law_digits => k_is)
    (case g__law_bad => k_is)
    (case l__law_bad => k_is)
    (case d__law_bad => k_is)
    (case p__law_bad => k_is)
    (case g__law_lines => k_is)
    (case l__law_lines => k_is)
    (case d__law_lines => k_is)
    (case p__law_lines => k_is)
    (case g__law_outcome => k_is)
    (case l__law_outcome => k_is)
    (case d__law_outcome => k_is)
    (case p__law_outcome => k_is)
    (case g_law => k_is)
    (case l_law => k_is)
    (case d_law => k_is)
    (case p_law => k_is)
    (case z_DIGITS => k_is)
    (case z_LETTERS => k_is)
    (case z_LONGEST_NAME => k_is)
    (case z_LONGEST_NUMBER => k_is)
    (case z_MORE_WORDS => k_is)
    (case y_MORE_WORDS => k_is)
    (case z_SIGNS => k_is)
    (case y_SIGNS => k_is)
    (case z_WORDS => k_is)
    (case y_WORDS => k_is)
    (case b_ValueError => k_is)
    (case b_abs => k_is)
    (case b_bool => k_is)
    (case b_int => k_is)
    (case b_isinstance => k_is)
    (case b_len => k_is)
    (case b_list => k_is)
    (case b_range => k_is)
    (case e1 => k_is)
    (case e2 => k_is)
    (case e3 => k_is)
    (case e4 => k_is)
    (case g_TextError => k_is)
    (case L_TextError => k_is)
    (case sa_TextError => k_is)
    (case ex_TextError => k_is)
    (case ty_TextError => k_is)
    (case kc_TextError => k_is)
    (case x_TextError_line => k_is)
    (case j_TextError => k_is)
    (case jt_TextError => k_is)
    (case l_TextError_init => k_is)
    (case d_TextError_init => k_is)
    (case p_TextError_init => k_is)
    (case h1_TextError => k_is)
    (case h2_TextError => k_is)
    (case h3_TextError => k_is)
    (case h4_TextError => k_is)
    (case h5_TextError => k_is)
    (case h6_TextError => k_is)
    (case h7_TextError => k_is)
    (case hn0 => k_is)
    (case ht0 => k_is)
    (case kt_TextError_LayeraskError => first | k_is | kit_is)
    (case kt_TextError_ValueError => first | k_is | kit_is)
    (case em_TextError_TextError => k_is)

