import PyProof.Rows.All
import Wide.All
import OpenK.AllK
import Wide.FinOn
import HandS.ForMost
import HandS.ForExc
import HandS.TryMany
import HandS.Zip
import HandS.TupAny
import HandS.TupMul
import HandS.IsInst
import HandS.More
import HandS.Small
import HandS.Ends
import PySem.Challenge.RW_knownquiet_k09_refusals_of_links
set_option Elab.async false
set_option linter.all false
/-! Mp1: values, stores, and what each construct does, in plain Lean. -/
namespace Mp
open PySem (Str)
abbrev Key := L2.Key
/-- a dict's value at a key -/
def valL {κ α : Type} [DecidableEq κ] : List (κ × α) → κ → Option α
  | [], _ => none
  | p :: r, k => if p.1 = k then some p.2 else valL r k
/-- a value: tuples are pure; a list, dict, instance stands in the store by its number; fl: the script's own list -/
inductive Val where
  | non | bl (b : Bool) | int (i : Int) | str (x : Str) | tup (vs : List Val) | ref (i : Nat) | fl (ns : List Int)
inductive Ob where
  | lst (xs : List Val)
  | dK (kvs : List (Key × Val))
  | dT (kvs : List (List Key × Val))
  | ins (c : Str) (fs : List (Str × Val))
abbrev Store := List Ob
structure Ex where
  cls : Str
  fs : List (Str × Val)
inductive R (α : Type) where
  | ok (a : α) (S : Store)
  | exn (e : Ex) (S : Store)
  | bad
/-- a result's type that names what simp is to leave alone -/
abbrev Dep {γ : Sort u} (_ : γ) (β : Type) : Type := β
def R.bind {α β : Type} (r : R α) (k : α → Store → R β) : Dep k (R β) := match r with
  | .ok a S => k a S
  | .exn e S => .exn e S
  | .bad => .bad
@[simp] theorem R.bind_ok {α β : Type} (a : α) (S : Store) (k : α → Store → R β) : (R.ok a S).bind k = k a S := rfl
@[simp] theorem R.bind_exn {α β : Type} (e : Ex) (S : Store) (k : α → Store → R β) : (R.exn e S : R α).bind k = .exn e S := rfl
@[simp] theorem R.bind_bad {α β : Type} (k : α → Store → R β) : (R.bad : R α).bind k = .bad := rfl
/-- a choice whose branches simp leaves alone -/
def bite {α : Type} (b : Bool) (x y : α) : Dep x (Dep y α) := match b with
  | true => x
  | false => y
@[simp] theorem bite_true {α : Type} (x y : α) : bite true x y = x := rfl
@[simp] theorem bite_false {α : Type} (x y : α) : bite false x y = y := rfl
theorem bite_pos {α : Type} {b : Bool} {x y : α} (h : b = true) : bite b x y = x := by rw [h]; rfl
theorem bite_neg {α : Type} {b : Bool} {x y : α} (h : b = false) : bite b x y = y := by rw [h]; rfl

def noExn {α : Type} (r : R α) : R α := match r with
  | .exn _ _ => .bad
  | r => r
@[simp] theorem noExn_ok {α : Type} (a : α) (S : Store) : noExn (R.ok a S) = .ok a S := rfl
@[simp] theorem noExn_bad {α : Type} : noExn (R.bad : R α) = .bad := rfl
abbrev Loc := List (Option Val)
abbrev ME := Loc → Store → R Val
abbrev MA := Loc → Store → R (List Val)
abbrev MT := Loc → Store → R Bool
abbrev Fn := List Val → Store → R Val
abbrev P1 := Val → Store → R Val
abbrev P2 := Val → Val → Store → R Val

/-! ### expressions -/
def getL (L : Loc) (i : Nat) (S : Store) : R Val := match L[i]? with
  | some (some v) => .ok v S
  | _ => .bad
@[simp] theorem getL_some {L : Loc} {i : Nat} {S : Store} {v : Val} (h : L[i]? = some (some v)) : getL L i S = .ok v S := by unfold getL; rw [h]
@[simp] theorem getL_zero {v : Val} {r : Loc} {S : Store} : getL (some v :: r) 0 S = .ok v S := rfl
@[simp] theorem getL_succ {o : Option Val} {r : Loc} {S : Store} {n : Nat} : getL (o :: r) (n + 1) S = getL r n S := rfl
def mC (v : Val) : ME := fun _ S => .ok v S
def mV (i : Nat) : ME := fun L S => getL L i S
def m1 (p : P1) (a : ME) : ME := fun L S => (a L S).bind fun x S1 => noExn (p x S1)
def m2 (p : P2) (a b : ME) : ME := fun L S => (a L S).bind fun x S1 => (b L S1).bind fun y S2 => noExn (p x y S2)
def aNil : MA := fun _ S => .ok [] S
def aCons (a : ME) (r : MA) : MA := fun L S => (a L S).bind fun x S1 => (r L S1).bind fun xs S2 => .ok (x :: xs) S2
/-- a call of a def; of a built-in -/
def mA (f : Fn) (a : MA) : ME := fun L S => (a L S).bind f
def mB (f : Fn) (a : MA) : ME := fun L S => (a L S).bind fun vs S1 => noExn (f vs S1)
def LIM : Nat := 16777216
def fTup : Fn := fun vs S => bite (decide (vs.length ≤ LIM)) (.ok (.tup vs) S) .bad
def fLst : Fn := fun vs S => bite (decide (vs.length ≤ LIM)) (.ok (.ref S.length) (S ++ [.lst vs])) .bad
def mTup (a : MA) : ME := mB fTup a
def mLst (a : MA) : ME := mB fLst a
def mDK : ME := fun _ S => .ok (.ref S.length) (S ++ [.dK []])
def mDT : ME := fun _ S => .ok (.ref S.length) (S ++ [.dT []])
def isT (v : Val) (S : Store) : R Bool := match v with
  | .bl b => .ok b S
  | _ => .bad
@[simp] theorem isT_bl (b : Bool) (S : Store) : isT (.bl b) S = .ok b S := rfl
/-- a test: a value that is True or False -/
def tV (e : ME) : MT := fun L S => (e L S).bind isT
def tAnd (a b : MT) : MT := fun L S => (a L S).bind fun c S1 => bite c (b L S1) (.ok false S1)
def tOr (a b : MT) : MT := fun L S => (a L S).bind fun c S1 => bite c (.ok true S1) (b L S1)
def tNot (a : MT) : MT := fun L S => (a L S).bind fun c S1 => .ok (!c) S1
def mIf (c : MT) (a b : ME) : ME := fun L S => (c L S).bind fun t S1 => bite t (a L S1) (b L S1)
/-- and, or, not as values; all but the last one True or False -/
def mAnd (a b : ME) : ME := fun L S => (a L S).bind fun x S1 => (isT x S1).bind fun c S2 => bite c (b L S2) (.ok (.bl false) S2)
def mOr (a b : ME) : ME := fun L S => (a L S).bind fun x S1 => (isT x S1).bind fun c S2 => bite c (.ok (.bl true) S2) (b L S2)
def mNot (a : ME) : ME := fun L S => (a L S).bind fun x S1 => (isT x S1).bind fun c S2 => .ok (.bl (!c)) S2
/-- a < b < c -/
def mChain (p q : P2) (a b c : ME) : ME := fun L S => (a L S).bind fun x S1 => (b L S1).bind fun y S2 => (noExn (p x y S2)).bind fun z S3 => (isT z S3).bind fun t S4 =>
  bite t ((c L S4).bind fun u S5 => noExn (q y u S5)) (.ok (.bl false) S4)

/-! ### instances -/
def insAt (v : Val) (S : Store) : Option (Str × List (Str × Val)) := match v with
  | .ref i => match S[i]? with
    | some (.ins c fs) => some (c, fs)
    | _ => none
  | _ => none
/-- o.f, o an instance of the class c -/
def getF (c f : Str) : P1 := fun v S => match insAt v S with
  | some (c', fs) => bite (decide (c' = c)) (match fs.lookup f with
    | some w => .ok w S
    | none => .bad) .bad
  | none => .bad
/-- fs with f set: in place, or behind -/
def setF (f : Str) (v : Val) : List (Str × Val) → List (Str × Val)
  | [] => [(f, v)]
  | p :: r => if p.1 = f then (f, v) :: r else p :: setF f v r
/-- o.m(..), o an instance of the class c -/
def mMeth (c : Str) (m : Str) (f : Fn) (o : ME) (a : MA) : ME := fun L S => (o L S).bind fun x S1 => match insAt x S1 with
  | some (c', fs) => bite (decide (c' = c) && (fs.lookup m).isNone) ((a L S1).bind fun vs S2 => f (x :: vs) S2) .bad
  | none => .bad
def isNon (x : Val) : Bool := match x with
  | .non => true
  | _ => false
/-- C(..): the new instance, then its __init__ -/
def fMake (c : Str) (f : Fn) : Fn := fun vs S => (f (.ref S.length :: vs) (S ++ [.ins c []])).bind fun r S2 => bite (isNon r) (.ok (.ref S.length) S2) .bad

/-! ### statements -/
inductive F where
  | nx (L : Loc) (S : Store)
  | rt (v : Val) (S : Store)
  | bk (L : Loc) (S : Store)
  | ct (L : Loc) (S : Store)
  | exn (e : Ex) (L : Loc) (S : Store)
  | bad
abbrev MS := Loc → Store → F
/-- behind an expression: at the locals L -/
def thenF {α : Type} (L : Loc) (r : R α) (k : α → Store → F) : Dep L (Dep k F) := match r with
  | .ok a S => k a S
  | .exn e S => .exn e L S
  | .bad => .bad
@[simp] theorem thenF_ok {α : Type} (L : Loc) (a : α) (S : Store) (k : α → Store → F) : thenF L (.ok a S) k = k a S := rfl
@[simp] theorem thenF_exn {α : Type} (L : Loc) (e : Ex) (S : Store) (k : α → Store → F) : thenF L (.exn e S) k = .exn e L S := rfl
@[simp] theorem thenF_bad {α : Type} (L : Loc) (k : α → Store → F) : thenF L .bad k = .bad := rfl
def F.andThen (r : F) (k : Loc → Store → F) : Dep k F := match r with
  | .nx L S => k L S
  | r => r
@[simp] theorem F.andThen_nx (L : Loc) (S : Store) (k : Loc → Store → F) : (F.nx L S).andThen k = k L S := rfl
@[simp] theorem F.andThen_rt (v : Val) (S : Store) (k : Loc → Store → F) : (F.rt v S).andThen k = .rt v S := rfl
@[simp] theorem F.andThen_bk (L : Loc) (S : Store) (k : Loc → Store → F) : (F.bk L S).andThen k = .bk L S := rfl
@[simp] theorem F.andThen_ct (L : Loc) (S : Store) (k : Loc → Store → F) : (F.ct L S).andThen k = .ct L S := rfl
@[simp] theorem F.andThen_exn (e : Ex) (L : Loc) (S : Store) (k : Loc → Store → F) : (F.exn e L S).andThen k = .exn e L S := rfl
@[simp] theorem F.andThen_bad (k : Loc → Store → F) : F.bad.andThen k = .bad := rfl
def sNx : MS := fun L S => .nx L S
def sSeq (a b : MS) : MS := fun L S => (a L S).andThen b
def sRet (e : ME) : MS := fun L S => thenF L (e L S) fun v S1 => .rt v S1
def sRetN : MS := fun _ S => .rt .non S
def sExpr (e : ME) : MS := fun L S => thenF L (e L S) fun _ S1 => .nx L S1
def sIf (c : MT) (a b : MS) : MS := fun L S => thenF L (c L S) fun t S1 => bite t (a L S1) (b L S1)
def sBrk : MS := fun L S => .bk L S
def sCnt : MS := fun L S => .ct L S
def sBad : MS := fun _ _ => .bad
/-- targets -/
abbrev MG := Val → Loc → Store → R Loc
def gN (i : Nat) : MG := fun v L S => .ok (L.set i (some v)) S
abbrev MGs := List Val → Loc → Store → R Loc
def gsNil : MGs := fun vs L S => match vs with
  | [] => .ok L S
  | _ => .bad
def gsCons (g : MG) (r : MGs) : MGs := fun vs L S => match vs with
  | v :: vs => (g v L S).bind fun L1 S1 => r vs L1 S1
  | [] => .bad
def gTup (g : MGs) : MG := fun v L S => match v with
  | .tup vs => g vs L S
  | _ => .bad
def gSub (o i : ME) (p : Val → Val → Val → Store → R Unit) : MG := fun v L S => (o L S).bind fun x S1 => (i L S1).bind fun y S2 => (noExn (p x y v S2)).bind fun _ S3 => .ok L S3
def sAsg (e : ME) (g : MG) : MS := fun L S => thenF L (e L S) fun v S1 => thenF L (noExn (g v L S1)) fun L1 S2 => .nx L1 S2
/-- x op= e, x the local i -/
def sAug (i : Nat) (e : ME) (p : P2) : MS := fun L S => thenF L (getL L i S) fun x S0 => thenF L (e L S0) fun y S1 => thenF L (noExn (p x y S1)) fun z S2 => .nx (L.set i (some z)) S2
/-- o.f = e -/
def putFld (c f : Str) (v : Val) (x : Val) (S : Store) : R Unit := match x with
  | .ref i => match S[i]? with
    | some (.ins c' fs) => bite (decide (c' = c) && decide (fs.length < 1000)) (.ok () (S.set i (.ins c (setF f v fs)))) .bad
    | _ => .bad
  | _ => .bad
def sFld (c f : Str) (o e : ME) : MS := fun L S => thenF L (e L S) fun v S1 => thenF L (o L S1) fun x S2 => thenF L (noExn (putFld c f v x S2)) fun _ S3 => .nx L S3
/-- o.f op= e -/
def sFldAug (c f : Str) (o e : ME) (p : P2) : MS := fun L S => thenF L (o L S) fun x S1 => thenF L (noExn (getF c f x S1)) fun y S2 => thenF L (e L S2) fun z S3 => thenF L (noExn (p y z S3)) fun u S4 =>
  thenF L (noExn (putFld c f u x S4)) fun _ S5 => .nx L S5
/-- o[i] op= e -/
def sSubAug (o i e : ME) (g : P2) (p : P2) (q : Val → Val → Val → Store → R Unit) : MS := fun L S => thenF L (o L S) fun x S1 => thenF L (i L S1) fun y S2 => thenF L (noExn (g x y S2)) fun z S3 => thenF L (e L S3) fun u S4 =>
  thenF L (noExn (p z u S4)) fun t S5 => thenF L (noExn (q x y t S5)) fun _ S6 => .nx L S6

/-! ### loops -/
/-- what a loop walks: the items, and what must stay meanwhile -/
structure It where
  items : List Val
  keep : Store → Prop
/-- a gate: what does not hold leads nowhere -/
noncomputable def gate (p : Prop) {α : Type} (x y : α) : Dep x (Dep y α) := open Classical in if p then x else y
theorem gate_pos {p : Prop} {α : Type} {x y : α} (h : p) : gate p x y = x := by unfold gate; rw [if_pos h]
theorem gate_neg {p : Prop} {α : Type} {x y : α} (h : ¬ p) : gate p x y = y := by unfold gate; rw [if_neg h]
@[simp] theorem gate_true {α : Type} {x y : α} : gate True x y = x := gate_pos trivial
abbrev MI := Loc → Store → R It
/-- a turn's end: on, or out -/
def turn (r : F) (on : Loc → Store → F) : Dep on F := match r with
  | .nx L S => on L S
  | .ct L S => on L S
  | .bk L S => .nx L S
  | r => r
@[simp] theorem turn_nx (L : Loc) (S : Store) (k : Loc → Store → F) : turn (.nx L S) k = k L S := rfl
@[simp] theorem turn_ct (L : Loc) (S : Store) (k : Loc → Store → F) : turn (.ct L S) k = k L S := rfl
@[simp] theorem turn_bk (L : Loc) (S : Store) (k : Loc → Store → F) : turn (.bk L S) k = .nx L S := rfl
@[simp] theorem turn_rt (v : Val) (S : Store) (k : Loc → Store → F) : turn (.rt v S) k = .rt v S := rfl
@[simp] theorem turn_exn (e : Ex) (L : Loc) (S : Store) (k : Loc → Store → F) : turn (.exn e L S) k = .exn e L S := rfl
@[simp] theorem turn_bad (k : Loc → Store → F) : turn .bad k = .bad := rfl
noncomputable def forLoop (keep : Store → Prop) (g : MG) (b : MS) : List Val → MS
  | [], L, S => gate (keep S) (.nx L S) .bad
  | x :: xs, L, S => gate (keep S) (turn (thenF L (noExn (g x L S)) fun L1 S1 => b L1 S1) (forLoop keep g b xs)) .bad
noncomputable def sFor (i : MI) (g : MG) (b : MS) : MS := fun L S => thenF L (i L S) fun J S1 => forLoop J.keep g b J.items L S1
/-- what is walked: a list as it stands, a tuple, the script, a text -/
def itOf (v : Val) (S : Store) : R It := match v with
  | .ref i => match S[i]? with
    | some (.lst xs) => .ok ⟨xs, fun S' => S'[i]? = some (.lst xs)⟩ S
    | _ => .bad
  | .tup vs => .ok ⟨vs, fun _ => True⟩ S
  | .fl ns => .ok ⟨ns.map Val.int, fun _ => True⟩ S
  | .str x => .ok ⟨x.cps.toList.map fun c => .str ⟨#[c]⟩, fun _ => True⟩ S
  | _ => .bad
def iV (e : ME) : MI := fun L S => (e L S).bind itOf
def rangeL (lo : Int) (n : Nat) : List Val := (List.range n).map fun i => .int (lo + (i : Nat))
def BIG : Int := 4611686018427387904
def rngOf1 (vs : List Val) (S : Store) : R It := match vs with
  | [.int j] => bite (decide (-BIG ≤ j ∧ j < BIG)) (.ok ⟨rangeL 0 j.toNat, fun _ => True⟩ S) .bad
  | _ => .bad
def rngOf2 (vs : List Val) (S : Store) : R It := match vs with
  | [.int i, .int j] => bite (decide (-BIG ≤ i ∧ i < BIG ∧ -BIG ≤ j ∧ j < BIG)) (.ok ⟨rangeL i (j - i).toNat, fun _ => True⟩ S) .bad
  | _ => .bad
def iRng1 (a : MA) : MI := fun L S => (a L S).bind rngOf1
def iRng2 (a : MA) : MI := fun L S => (a L S).bind rngOf2
/-- a list or a tuple: its items, and what must stay -/
def seqOf (v : Val) (S : Store) : Option (Bool × List Val × (Store → Prop)) := match v with
  | .ref i => match S[i]? with
    | some (.lst xs) => some (true, xs, fun S' => S'[i]? = some (.lst xs))
    | _ => none
  | .tup vs => some (false, vs, fun _ => True)
  | .fl ns => some (true, ns.map Val.int, fun _ => True)
  | _ => none
def enumL (xs : List Val) : List Val := (List.range xs.length).zipWith (fun i x => .tup [.int (i : Nat), x]) xs
def enumOf (vs : List Val) (S : Store) : R It := match vs with
  | [v] => match seqOf v S with
    | some (_, xs, k) => .ok ⟨enumL xs, k⟩ S
    | none => .bad
  | _ => .bad
def iEnum (a : MA) : MI := fun L S => (a L S).bind enumOf
def zipOf (vs : List Val) (S : Store) : R It := match vs with
  | [v, w] => match seqOf v S, seqOf w S with
    | some (b, xs, k), some (c, ys, l) => bite (b == c) (.ok ⟨List.zipWith (fun x y => .tup [x, y]) xs ys, fun S' => k S' ∧ l S'⟩ S) .bad
    | _, _ => .bad
  | _ => .bad
def iZip (a : MA) : MI := fun L S => (a L S).bind zipOf
def whileLoop (c : MT) (b : MS) : Nat → MS
  | 0, _, _ => .bad
  | n + 1, L, S => thenF L (c L S) fun t S1 => bite t (turn (b L S1) (whileLoop c b n)) (.nx L S1)
def MANY : Nat := 1000000000000
def sWhile (c : MT) (b : MS) : MS := fun L S => whileLoop c b MANY L S
/-- a comprehension: the items one by one, in a frame of its own (the names vs are its own) -/
def wipeL (L : Loc) : List Nat → Loc
  | [] => L
  | i :: r => (wipeL L r).set i none
noncomputable def lcLoop (keep : Store → Prop) (L : Loc) (g : MG) (c : MT) (e : ME) : List Val → List Val → Store → R (List Val)
  | [], acc, S => gate (keep S) (.ok acc S) .bad
  | x :: xs, acc, S => gate (keep S) ((noExn (g x L S)).bind fun L1 S1 => (noExn (c L1 S1)).bind fun t S2 =>
      bite t ((noExn (e L1 S2)).bind fun v S3 => bite (decide (acc.length < LIM)) (lcLoop keep L g c e xs (acc ++ [v]) S3) .bad) (lcLoop keep L g c e xs acc S2)) .bad
noncomputable def mLc (i : MI) (vs : List Nat) (g : MG) (c : MT) (e : ME) : ME := fun L S => (i L S).bind fun J S1 => (lcLoop J.keep (wipeL L vs) g c e J.items [] S1).bind fun ws S2 => .ok (.ref S2.length) (S2 ++ [.lst ws])
def tYes : MT := fun _ S => .ok true S

/-! ### defs, errors -/
def startL (n : Nat) (vs : List Val) : Loc := vs.map some ++ List.replicate (n - vs.length) none
def endF (r : F) : R Val := match r with
  | .nx _ S => .ok .non S
  | .rt v S => .ok v S
  | .exn e _ S => .exn e S
  | _ => .bad
@[simp] theorem endF_nx (L : Loc) (S : Store) : endF (.nx L S) = .ok .non S := rfl
@[simp] theorem endF_rt (v : Val) (S : Store) : endF (.rt v S) = .ok v S := rfl
@[simp] theorem endF_exn (e : Ex) (L : Loc) (S : Store) : endF (.exn e L S) = .exn e S := rfl
@[simp] theorem endF_bad : endF .bad = .bad := rfl
/-- a def of n names, np of them parameters -/
def fDef (n np : Nat) (b : MS) : Fn := fun vs S => bite (decide (vs.length = np)) (endF (b (startL n vs) S)) .bad
def sRaise (c : Str) (fs : List Str) (a : MA) : MS := fun L S => thenF L (a L S) fun vs S1 => .exn ⟨c, fs.zip vs⟩ L S1
/-- an except clause: the errors' classes that may come here, whether it names them; the suite -/
structure Hd where
  names : List (Str × Bool)
  suite : Ex → MS
def noExnF (r : F) : F := match r with
  | .exn _ _ _ => .bad
  | r => r
@[simp] theorem noExnF_nx (L : Loc) (S : Store) : noExnF (.nx L S) = .nx L S := rfl
@[simp] theorem noExnF_rt (v : Val) (S : Store) : noExnF (.rt v S) = .rt v S := rfl
@[simp] theorem noExnF_bad : noExnF .bad = .bad := rfl
def handle (D : List Hd) (e : Ex) (L : Loc) (S : Store) : F := match D with
  | [] => .exn e L S
  | h :: r => match h.names.lookup e.cls with
    | some b => bite b (noExnF (h.suite e L S)) (handle r e L S)
    | none => .bad
def sTry (b : MS) (D : List Hd) : MS := fun L S => match b L S with
  | .exn e L1 S1 => handle D e L1 S1
  | r => r
end Mp

set_option maxRecDepth 100000
set_option maxHeartbeats 2000000
/-! Mp2: how values and stores lie in the layer's heap; the judgements. -/
namespace Mp
open PySem PySem.Spec L2
abbrev Rho := Nat → Addr
/-- a list that stands still: frozen, or of the written part -/
def FzL (K : PySem.W.Frag) (H : Hp) (a : Addr) (xs : List V) : Prop := (∃ o, H a = some (.frz o (.lst xs))) ∨
  ∃ (o : Obj) (its : Array Value) (n : Nat), K.lookup a = some o ∧ o.cls = .type "list" ∧ o.dict = none ∧ o.data = .seq its n ∧ its.size ≤ sizeLine ∧ Vals xs its.toList
mutual
def VR (K : PySem.W.Frag) (ρ : Rho) (n : Nat) (H : Hp) : Val → V → Prop
  | .non, u => u = .non
  | .bl b, u => u = .bl b
  | .int i, u => u = .int i
  | .str x, u => u = .str x
  | .tup vs, u => ∃ a xs, u = .ref a ∧ SqT K H a xs ∧ VRs K ρ n H vs xs
  | .ref i, u => i < n ∧ u = .ref (ρ i)
  | .fl ns, u => ∃ a, u = .ref a ∧ FzL K H a (ns.map V.int)
def VRs (K : PySem.W.Frag) (ρ : Rho) (n : Nat) (H : Hp) : List Val → List V → Prop
  | [], us => us = []
  | v :: vs, us => ∃ u r, us = u :: r ∧ VR K ρ n H v u ∧ VRs K ρ n H vs r
end
/-- pairs with equal firsts -/
def KR {κ : Type} (K : PySem.W.Frag) (ρ : Rho) (n : Nat) (H : Hp) (l : List (κ × Val)) (m : List (κ × V)) : Prop := l.map (·.1) = m.map (·.1) ∧ VRs K ρ n H (l.map (·.2)) (m.map (·.2))
def OR (K : PySem.W.Frag) (mg : Str → Option Value) (ρ : Rho) (n : Nat) (H : Hp) (a : Addr) : Ob → Prop
  | .lst xs => ∃ us, H a = some (.lst us) ∧ VRs K ρ n H xs us
  | .dK kvs => ∃ us, H a = some (.dK us) ∧ KR K ρ n H kvs us
  | .dT kvs => ∃ us, H a = some (.dT us) ∧ KR K ρ n H kvs us
  | .ins c fs => ∃ C dx us, mg c = some (.ref C) ∧ H a = some (.ins C dx us) ∧ KR K ρ n H fs us
structure SR (K : PySem.W.Frag) (mg : Str → Option Value) (ρ : Rho) (S : Store) (H : Hp) : Prop where
  ob : ∀ i o, S[i]? = some o → OR K mg ρ S.length H (ρ i) o
  inj : ∀ i j, i < S.length → j < S.length → ρ i = ρ j → i = j
structure Ext (ρ : Rho) (S : Store) (H : Hp) (ρ' : Rho) (S' : Store) (H' : Hp) : Prop where
  rho : ∀ i, i < S.length → ρ' i = ρ i
  le : S.length ≤ S'.length
  fresh : ∀ i, S.length ≤ i → i < S'.length → H (ρ' i) = none
  frame : ∀ a o, H a = some o → (∀ i, i < S.length → ρ i ≠ a) → H' a = some o
def LR (K : PySem.W.Frag) (ρ : Rho) (n : Nat) (H : Hp) (L : Loc) (σ : St) : Prop := L.length = σ.length ∧ ∀ (i : Nat) (v : Val), L[i]? = some (some v) → ∃ u, σ[i]? = some (some u) ∧ VR K ρ n H v u
def XR (K : PySem.W.Frag) (mg : Str → Option Value) (ρ : Rho) (n : Nat) (H : Hp) (e : Ex) (cls : Value) (d : Option Addr) : Prop :=
  (∃ C, mg e.cls = some (.ref C) ∧ cls = .ref C) ∧ (e.fs ≠ [] → ∃ dd us, d = some dd ∧ H dd = some (.xd us) ∧ KR K ρ n H e.fs us)

section
variable {K : PySem.W.Frag} {mg : Str → Option Value} {ρ ρ' ρ1 ρ2 : Rho} {S S' S1 S2 : Store} {H H' H1 H2 : Hp} {n : Nat}
/-- the kinds of objects of a store -/
def obKind : HO → Bool
  | .lst _ => true | .dK _ => true | .dT _ => true | .ins _ _ _ => true | _ => false
theorem OR.kind {a : Addr} {o : Ob} (h : OR K mg ρ n H a o) : ∃ u, H a = some u ∧ obKind u = true := by
  cases o with
  | lst xs => obtain ⟨us, e, _⟩ := h; exact ⟨_, e, rfl⟩
  | dK xs => obtain ⟨us, e, _⟩ := h; exact ⟨_, e, rfl⟩
  | dT xs => obtain ⟨us, e, _⟩ := h; exact ⟨_, e, rfl⟩
  | ins c fs => obtain ⟨C, dx, us, _, e, _⟩ := h; exact ⟨_, e, rfl⟩
theorem SR.kind (s : SR K mg ρ S H) {i : Nat} (hi : i < S.length) : ∃ u, H (ρ i) = some u ∧ obKind u = true := (s.ob i S[i] (by simp [hi])).kind
theorem SR.ne (s : SR K mg ρ S H) {a : Addr} {u : HO} (e : H a = some u) (k : obKind u = false) : ∀ i, i < S.length → ρ i ≠ a := fun i hi z => by
  obtain ⟨v, q, kv⟩ := s.kind hi
  rw [z, e] at q
  cases q
  rw [k] at kv; cases kv
theorem SR.ne_none (s : SR K mg ρ S H) {a : Addr} (e : H a = none) : ∀ i, i < S.length → ρ i ≠ a := fun i hi z => by
  obtain ⟨v, q, kv⟩ := s.kind hi
  rw [z, e] at q
  cases q
theorem Ext.refl (ρ : Rho) (S : Store) (H : Hp) : Ext ρ S H ρ S H := ⟨fun _ _ => rfl, Nat.le_refl _, fun i h1 h2 => absurd h2 (Nat.not_lt.mpr h1), fun _ _ h _ => h⟩
theorem Ext.trans (s1 : SR K mg ρ1 S1 H1) (a : Ext ρ S H ρ1 S1 H1) (b : Ext ρ1 S1 H1 ρ2 S2 H2) : Ext ρ S H ρ2 S2 H2 where
  rho := fun i hi => (b.rho i (Nat.lt_of_lt_of_le hi a.le)).trans (a.rho i hi)
  le := Nat.le_trans a.le b.le
  fresh := fun i h1 h2 => by
    by_cases hi : i < S1.length
    · rw [b.rho i hi]; exact a.fresh i h1 hi
    · have z := b.fresh i (Nat.le_of_not_lt hi) h2
      cases q : H (ρ2 i) with
      | none => rfl
      | some o =>
        by_cases hw : ∀ j, j < S.length → ρ j ≠ ρ2 i
        · rw [a.frame _ _ q hw] at z; cases z
        · exfalso
          apply hw
          intro j hj e
          have hj1 := Nat.lt_of_lt_of_le hj a.le
          obtain ⟨u, qu, _⟩ := s1.kind hj1
          rw [a.rho j hj, e, z] at qu
          cases qu
  frame := fun c o h hn => b.frame c o (a.frame c o h hn) fun i hi z => by
    by_cases h0 : i < S.length
    · exact hn i h0 ((a.rho i h0).symm.trans z)
    · have := a.fresh i (Nat.le_of_not_lt h0) hi
      rw [z, h] at this; cases this
/-- a tuple is kept -/
theorem Ext.tup (s : SR K mg ρ S H) (e : Ext ρ S H ρ' S' H') {a : Addr} {xs : List V} (h : SqT K H a xs) : SqT K H' a xs := by
  rcases h with (h | ⟨o, h⟩) | h
  · exact .inl (.inl (e.frame _ _ h (s.ne h rfl)))
  · exact .inl (.inr ⟨o, e.frame _ _ h (s.ne h rfl)⟩)
  · exact .inr h
theorem Ext.fz (s : SR K mg ρ S H) (e : Ext ρ S H ρ' S' H') {a : Addr} {xs : List V} (h : FzL K H a xs) : FzL K H' a xs := by
  rcases h with ⟨o, h⟩ | h
  · exact .inl ⟨o, e.frame _ _ h (s.ne h rfl)⟩
  · exact .inr h
theorem FzL.seq {a : Addr} {xs : List V} (h : FzL K H a xs) : SqL K H a xs := by
  rcases h with ⟨o, h⟩ | h
  · exact .inl (.inr ⟨o, h⟩)
  · exact .inr h
mutual
theorem VR.ext (s : SR K mg ρ S H) (e : Ext ρ S H ρ' S' H') : ∀ (v : Val) (u : V), VR K ρ S.length H v u → VR K ρ' S'.length H' v u
  | .non, u, h => by simpa [VR] using h
  | .bl b, u, h => by simpa [VR] using h
  | .int b, u, h => by simpa [VR] using h
  | .str b, u, h => by simpa [VR] using h
  | .tup vs, u, h => by
    simp only [VR] at h ⊢
    obtain ⟨a, xs, e1, q, r⟩ := h
    exact ⟨a, xs, e1, e.tup s q, VRs.ext s e vs xs r⟩
  | .ref i, u, h => by
    simp only [VR] at h ⊢
    exact ⟨Nat.lt_of_lt_of_le h.1 e.le, by rw [e.rho i h.1]; exact h.2⟩
  | .fl ns, u, h => by
    simp only [VR] at h ⊢
    obtain ⟨a, e1, q⟩ := h
    exact ⟨a, e1, e.fz s q⟩
theorem VRs.ext (s : SR K mg ρ S H) (e : Ext ρ S H ρ' S' H') : ∀ (vs : List Val) (us : List V), VRs K ρ S.length H vs us → VRs K ρ' S'.length H' vs us
  | [], us, h => by simpa [VRs] using h
  | v :: vs, us, h => by
    simp only [VRs] at h ⊢
    obtain ⟨u, r, e1, h1, h2⟩ := h
    exact ⟨u, r, e1, VR.ext s e v u h1, VRs.ext s e vs r h2⟩
end
theorem KR.ext {κ : Type} (s : SR K mg ρ S H) (e : Ext ρ S H ρ' S' H') {l : List (κ × Val)} {m : List (κ × V)} (h : KR K ρ S.length H l m) : KR K ρ' S'.length H' l m := ⟨h.1, VRs.ext s e _ _ h.2⟩
theorem LR.ext (s : SR K mg ρ S H) (e : Ext ρ S H ρ' S' H') {L : Loc} {σ : St} (h : LR K ρ S.length H L σ) : LR K ρ' S'.length H' L σ :=
  ⟨h.1, fun i v q => by obtain ⟨u, q1, q2⟩ := h.2 i v q; exact ⟨u, q1, VR.ext s e v u q2⟩⟩
theorem VRs.length : ∀ {vs : List Val} {us : List V}, VRs K ρ n H vs us → vs.length = us.length
  | [], us, h => by simp only [VRs] at h; rw [h]; rfl
  | v :: vs, us, h => by
    simp only [VRs] at h
    obtain ⟨u, r, rfl, _, h2⟩ := h
    simp [VRs.length h2]
theorem VRs.get : ∀ {vs : List Val} {us : List V} {i : Nat} {v : Val}, VRs K ρ n H vs us → vs[i]? = some v → ∃ u, us[i]? = some u ∧ VR K ρ n H v u
  | [], us, i, v, h, e => by simp at e
  | w :: vs, us, i, v, h, e => by
    simp only [VRs] at h
    obtain ⟨u, r, rfl, h1, h2⟩ := h
    cases i with
    | zero => simp at e; subst e; exact ⟨u, by simp, h1⟩
    | succ j => 
      obtain ⟨u', q1, q2⟩ := VRs.get h2 (by simpa using e)
      exact ⟨u', by simpa using q1, q2⟩
theorem VRs.append : ∀ {vs ws : List Val} {us xs : List V}, VRs K ρ n H vs us → VRs K ρ n H ws xs → VRs K ρ n H (vs ++ ws) (us ++ xs)
  | [], ws, us, xs, h, h' => by simp only [VRs] at h; subst h; simpa using h'
  | v :: vs, ws, us, xs, h, h' => by
    simp only [VRs] at h
    obtain ⟨u, r, rfl, h1, h2⟩ := h
    show VRs K ρ n H (v :: (vs ++ ws)) (u :: (r ++ xs))
    simp only [VRs]
    exact ⟨u, _, rfl, h1, VRs.append h2 h'⟩
theorem VRs.set : ∀ {vs : List Val} {us : List V} {v : Val} {u : V} (i : Nat), VR K ρ n H v u → VRs K ρ n H vs us → VRs K ρ n H (vs.set i v) (us.set i u)
  | [], us, v, u, i, hv, h => by simp only [VRs] at h; subst h; simp [VRs]
  | w :: vs, us, v, u, i, hv, h => by
    simp only [VRs] at h
    obtain ⟨u0, r, rfl, h1, h2⟩ := h
    cases i with
    | zero => simp only [List.set_cons_zero, VRs]; exact ⟨_, _, rfl, hv, h2⟩
    | succ j => simp only [List.set_cons_succ, VRs]; exact ⟨_, _, rfl, h1, VRs.set j hv h2⟩
theorem VRs.take : ∀ {vs : List Val} {us : List V} (k : Nat), VRs K ρ n H vs us → VRs K ρ n H (vs.take k) (us.take k)
  | _, _, 0, h => by simp [VRs]
  | [], us, k + 1, h => by simp only [VRs] at h; subst h; simp [VRs]
  | v :: vs, us, k + 1, h => by
    simp only [VRs] at h
    obtain ⟨u, r, rfl, h1, h2⟩ := h
    simp only [List.take_succ_cons, VRs]
    exact ⟨_, _, rfl, h1, VRs.take k h2⟩
theorem VRs.drop : ∀ {vs : List Val} {us : List V} (k : Nat), VRs K ρ n H vs us → VRs K ρ n H (vs.drop k) (us.drop k)
  | _, _, 0, h => by simpa using h
  | [], us, k + 1, h => by simp only [VRs] at h; subst h; simp [VRs]
  | v :: vs, us, k + 1, h => by
    simp only [VRs] at h
    obtain ⟨u, r, rfl, h1, h2⟩ := h
    simpa using VRs.drop k h2
theorem VRs.eraseIdx : ∀ {vs : List Val} {us : List V} (k : Nat), VRs K ρ n H vs us → VRs K ρ n H (vs.eraseIdx k) (us.eraseIdx k)
  | [], us, k, h => by simp only [VRs] at h; subst h; simp [VRs]
  | v :: vs, us, 0, h => by
    simp only [VRs] at h
    obtain ⟨u, r, rfl, h1, h2⟩ := h
    simpa using h2
  | v :: vs, us, k + 1, h => by
    simp only [VRs] at h
    obtain ⟨u, r, rfl, h1, h2⟩ := h
    simp only [List.eraseIdx_cons_succ, VRs]
    exact ⟨_, _, rfl, h1, VRs.eraseIdx k h2⟩
theorem VRs.rep {vs : List Val} {us : List V} (h : VRs K ρ n H vs us) : ∀ k : Nat, VRs K ρ n H (List.replicate k vs).flatten (List.replicate k us).flatten
  | 0 => by simp [VRs]
  | k + 1 => by
    rw [List.replicate_succ, List.replicate_succ, List.flatten_cons, List.flatten_cons]
    exact h.append (VRs.rep h k)
theorem VRs.ints : ∀ {ns : List Int} {us : List V}, VRs K ρ n H (ns.map Val.int) us → us = ns.map V.int
  | [], us, h => by simpa [VRs] using h
  | i :: ns, us, h => by
    simp only [List.map_cons, VRs, VR] at h
    obtain ⟨u, r, rfl, rfl, h2⟩ := h
    rw [VRs.ints h2]; rfl
theorem VRs.of_ints : ∀ (ns : List Int), VRs K ρ n H (ns.map Val.int) (ns.map V.int)
  | [] => by simp [VRs]
  | i :: ns => by simp only [List.map_cons, VRs, VR]; exact ⟨_, _, rfl, rfl, VRs.of_ints ns⟩
theorem VRs.bls : ∀ {ns : List Bool} {us : List V}, VRs K ρ n H (ns.map Val.bl) us → us = ns.map V.bl
  | [], us, h => by simpa [VRs] using h
  | i :: ns, us, h => by
    simp only [List.map_cons, VRs, VR] at h
    obtain ⟨u, r, rfl, rfl, h2⟩ := h
    rw [VRs.bls h2]; rfl
theorem VRs.nil : VRs K ρ n H [] [] := by simp [VRs]
theorem VRs.cons {v : Val} {u : V} {vs : List Val} {us : List V} (h : VR K ρ n H v u) (hs : VRs K ρ n H vs us) : VRs K ρ n H (v :: vs) (u :: us) := by simp only [VRs]; exact ⟨_, _, rfl, h, hs⟩
theorem VRs.nil_of {us : List V} (h : VRs K ρ n H [] us) : us = [] := by simpa [VRs] using h
theorem VRs.cons_of {v : Val} {vs : List Val} {us : List V} (h : VRs K ρ n H (v :: vs) us) : ∃ u r, us = u :: r ∧ VR K ρ n H v u ∧ VRs K ρ n H vs r := by simpa only [VRs] using h
theorem VRs.one {v : Val} {us : List V} (h : VRs K ρ n H [v] us) : ∃ u, us = [u] ∧ VR K ρ n H v u := by
  obtain ⟨u, r, rfl, h1, h2⟩ := h.cons_of
  rw [h2.nil_of]; exact ⟨u, rfl, h1⟩
theorem VRs.two {v w : Val} {us : List V} (h : VRs K ρ n H [v, w] us) : ∃ u x, us = [u, x] ∧ VR K ρ n H v u ∧ VR K ρ n H w x := by
  obtain ⟨u, r, rfl, h1, h2⟩ := h.cons_of
  obtain ⟨x, rfl, h3⟩ := h2.one
  exact ⟨u, x, rfl, h1, h3⟩

/-- a new tuple, or another thing that no store holds -/
theorem Ext.side {p : Addr} {o : HO} (hp : H p = none) : Ext ρ S H ρ S (upd H p o) :=
  ⟨fun _ _ => rfl, Nat.le_refl _, fun i h1 h2 => absurd h2 (Nat.not_lt.mpr h1), fun a u h _ => by rw [upd_ne (ne_of_none h hp)]; exact h⟩
theorem SR.of_same (s : SR K mg ρ S H) (e : Ext ρ S H ρ S H') (h : ∀ i, i < S.length → H' (ρ i) = H (ρ i)) : SR K mg ρ S H' where
  ob := fun i o q => by
    have hi : i < S.length := (List.getElem?_eq_some_iff.mp q).1
    have z := s.ob i o q
    cases o with
    | lst xs => obtain ⟨us, a, b⟩ := z; exact ⟨us, by rw [h i hi]; exact a, VRs.ext s e _ _ b⟩
    | dK xs => obtain ⟨us, a, b⟩ := z; exact ⟨us, by rw [h i hi]; exact a, KR.ext s e b⟩
    | dT xs => obtain ⟨us, a, b⟩ := z; exact ⟨us, by rw [h i hi]; exact a, KR.ext s e b⟩
    | ins c fs => obtain ⟨C, dx, us, m, a, b⟩ := z; exact ⟨C, dx, us, m, by rw [h i hi]; exact a, KR.ext s e b⟩
  inj := s.inj
theorem SR.side (s : SR K mg ρ S H) {p : Addr} {o : HO} (hp : H p = none) : SR K mg ρ S (upd H p o) :=
  s.of_same (Ext.side hp) fun i hi => upd_ne (s.ne_none hp i hi)
/-- a new object of the store -/
def newRho (ρ : Rho) (n : Nat) (p : Addr) : Rho := fun i => if i = n then p else ρ i
theorem newRho_same {p : Addr} : newRho ρ n p n = p := by unfold newRho; rw [if_pos rfl]
theorem newRho_ne {p : Addr} {i : Nat} (h : i ≠ n) : newRho ρ n p i = ρ i := by unfold newRho; rw [if_neg h]
theorem Ext.new {p : Addr} {o : HO} {b : Ob} (hp : H p = none) : Ext ρ S H (newRho ρ S.length p) (S ++ [b]) (upd H p o) where
  rho := fun i hi => newRho_ne (Nat.ne_of_lt hi)
  le := by simp
  fresh := fun i h1 h2 => by
    have : i = S.length := by simp at h2; omega
    subst this
    rw [newRho_same]; exact hp
  frame := fun a u h _ => by rw [upd_ne (ne_of_none h hp)]; exact h
/-- the store one longer, the heap larger elsewhere too (H2 ⊇ H) -/
theorem SR.grow {p : Addr} {b : Ob} (s : SR K mg ρ S H) (hp : ∀ i, i < S.length → ρ i ≠ p) (e : Ext ρ S H (newRho ρ S.length p) (S ++ [b]) H') (h : ∀ i, i < S.length → H' (ρ i) = H (ρ i))
    (new : OR K mg (newRho ρ S.length p) (S ++ [b]).length H' p b) : SR K mg (newRho ρ S.length p) (S ++ [b]) H' where
  ob := fun i o q => by
    by_cases hi : i < S.length
    · rw [List.getElem?_append_left hi] at q
      have z := s.ob i o q
      rw [newRho_ne (Nat.ne_of_lt hi)]
      cases o with
      | lst xs => obtain ⟨us, a, c⟩ := z; exact ⟨us, by rw [h i hi]; exact a, VRs.ext s e _ _ c⟩
      | dK xs => obtain ⟨us, a, c⟩ := z; exact ⟨us, by rw [h i hi]; exact a, KR.ext s e c⟩
      | dT xs => obtain ⟨us, a, c⟩ := z; exact ⟨us, by rw [h i hi]; exact a, KR.ext s e c⟩
      | ins c0 fs => obtain ⟨C, dx, us, m, a, c⟩ := z; exact ⟨C, dx, us, m, by rw [h i hi]; exact a, KR.ext s e c⟩
    · have hl : i < (S ++ [b]).length := (List.getElem?_eq_some_iff.mp q).1
      have : i = S.length := by simp at hl; omega
      subst this
      rw [newRho_same]
      simp at q
      subst q
      exact new
  inj := fun i j hi hj z => by
    simp at hi hj
    by_cases h1 : i = S.length
    · by_cases h2 : j = S.length
      · rw [h1, h2]
      · rw [h1, newRho_same, newRho_ne h2] at z
        exact absurd z.symm (hp j (by omega))
    · by_cases h2 : j = S.length
      · rw [h2, newRho_same, newRho_ne h1] at z
        exact absurd z (hp i (by omega))
      · rw [newRho_ne h1, newRho_ne h2] at z
        exact s.inj i j (by omega) (by omega) z
theorem SR.new {p : Addr} {o : HO} {b : Ob} (s : SR K mg ρ S H) (hp : H p = none) (new : OR K mg (newRho ρ S.length p) (S ++ [b]).length (upd H p o) p b) : SR K mg (newRho ρ S.length p) (S ++ [b]) (upd H p o) :=
  s.grow (s.ne_none hp) (Ext.new hp) (fun i hi => upd_ne (s.ne_none hp i hi)) new
/-- an object of the store is another one now -/
theorem Ext.put {i : Nat} {o : HO} {b : Ob} (hi : i < S.length) : Ext ρ S H ρ (S.set i b) (upd H (ρ i) o) where
  rho := fun _ _ => rfl
  le := by simp
  fresh := fun j h1 h2 => by simp at h2; omega
  frame := fun a u h hn => by rw [upd_ne (Ne.symm (hn i hi))]; exact h
theorem SR.put {i : Nat} {o : HO} {b : Ob} (s : SR K mg ρ S H) (hi : i < S.length) (new : OR K mg ρ S.length (upd H (ρ i) o) (ρ i) b) : SR K mg ρ (S.set i b) (upd H (ρ i) o) where
  ob := fun j u q => by
    have e : Ext ρ S H ρ (S.set i b) (upd H (ρ i) o) := Ext.put hi
    have hl : (S.set i b).length = S.length := by simp
    by_cases hj : j = i
    · subst hj
      rw [hl]
      have : u = b := by
        rw [List.getElem?_set_self hi] at q
        exact (Option.some.inj q).symm
      subst this
      exact new
    · rw [List.getElem?_set_ne (Ne.symm hj)] at q
      have hjl : j < S.length := (List.getElem?_eq_some_iff.mp q).1
      have z := s.ob j u q
      have hh : upd H (ρ i) o (ρ j) = H (ρ j) := upd_ne fun z => hj (s.inj j i hjl hi z)
      cases u with
      | lst xs => obtain ⟨us, a, c⟩ := z; exact ⟨us, by rw [hh]; exact a, VRs.ext s e _ _ c⟩
      | dK xs => obtain ⟨us, a, c⟩ := z; exact ⟨us, by rw [hh]; exact a, KR.ext s e c⟩
      | dT xs => obtain ⟨us, a, c⟩ := z; exact ⟨us, by rw [hh]; exact a, KR.ext s e c⟩
      | ins c0 fs => obtain ⟨C, dx, us, m, a, c⟩ := z; exact ⟨C, dx, us, m, by rw [hh]; exact a, KR.ext s e c⟩
  inj := fun a c ha hc => by
    simp at ha hc
    exact s.inj a c ha hc
end

/-! ### what is wanted of an end -/
abbrev Rel (α β : Type) := Rho → Store → Hp → α → β → Prop
def Post {α β : Type} (K : PySem.W.Frag) (mg : Str → Option Value) (rel : Rel α β) (W : WX) (ρ : Rho) (S : Store) (H : Hp) (σ : St) (r : R α) (Q : β → Hp → Prop) : Prop := match r with
  | .ok a S' => ∀ ρ' H' u, Ext ρ S H ρ' S' H' → SR K mg ρ' S' H' → rel ρ' S' H' a u → Q u H'
  | .exn e S' => ∀ ρ' H' cls d, Ext ρ S H ρ' S' H' → SR K mg ρ' S' H' → XR K mg ρ' S'.length H' e cls d → W cls d σ H'
  | .bad => False
def relV (K : PySem.W.Frag) : Rel Val V := fun ρ S H a u => VR K ρ S.length H a u
def relVs (K : PySem.W.Frag) : Rel (List Val) (List V) := fun ρ S H a u => VRs K ρ S.length H a u
def relB : Rel Bool Bool := fun _ _ _ a b => b = a
def relL (K : PySem.W.Frag) : Rel Loc St := fun ρ S H a u => LR K ρ S.length H a u
section
variable {K : PySem.W.Frag} {mg : Str → Option Value} {ρ ρ1 : Rho} {S S1 : Store} {H H1 : Hp} {σ : St} {W : WX} {α β γ δ : Type} {rel : Rel α β} {rel1 : Rel γ δ}
theorem Post.mono {r : R α} {Q Q' : β → Hp → Prop} (h : Post K mg rel W ρ S H σ r Q) (hq : ∀ u H', Q u H' → Q' u H') : Post K mg rel W ρ S H σ r Q' := by
  cases r with
  | ok a S' => exact fun ρ' H' u e s v => hq _ _ (h ρ' H' u e s v)
  | exn e S' => exact h
  | bad => exact h
theorem Post.step {r : R α} {Q : β → Hp → Prop} (s1 : SR K mg ρ1 S1 H1) (e : Ext ρ S H ρ1 S1 H1) (h : Post K mg rel W ρ S H σ r Q) : Post K mg rel W ρ1 S1 H1 σ r Q := by
  cases r with
  | ok a S' => exact fun ρ' H' u e' s v => h ρ' H' u (Ext.trans s1 e e') s v
  | exn x S' => exact fun ρ' H' c d e' s v => h ρ' H' c d (Ext.trans s1 e e') s v
  | bad => exact h
/-- behind the first part -/
theorem Post.bind {r : R γ} {k : γ → Store → R α} {Q : β → Hp → Prop} (h : Post K mg rel W ρ S H σ (r.bind k) Q) :
    Post K mg rel1 W ρ S H σ r fun u H1 => ∃ ρ1 S1 a, r = .ok a S1 ∧ Ext ρ S H ρ1 S1 H1 ∧ SR K mg ρ1 S1 H1 ∧ rel1 ρ1 S1 H1 a u ∧ Post K mg rel W ρ1 S1 H1 σ (k a S1) Q := by
  cases r with
  | ok a S1 => exact fun ρ1 H1 u e s v => ⟨ρ1, S1, a, rfl, e, s, v, Post.step s e h⟩
  | exn x S' => exact h
  | bad => exact h
/-- no exception: the wish does not matter -/
theorem Post.noExn {r : R α} {Q : β → Hp → Prop} (h : Post K mg rel W ρ S H σ (noExn r) Q) (W' : WX) : Post K mg rel W' ρ S H σ r Q := by
  cases r with
  | ok a S' => exact h
  | exn x S' => exact False.elim h
  | bad => exact h
end
/-! ### the judgements -/
def TEm (K : PySem.W.Frag) (mg : Str → Option Value) (W : WX) (m : ME) : TE := fun σ H Q => ∃ ρ S L, SR K mg ρ S H ∧ LR K ρ S.length H L σ ∧ Post K mg (relV K) W ρ S H σ (m L S) Q
def TAm (K : PySem.W.Frag) (mg : Str → Option Value) (W : WX) (m : MA) : TA := fun σ H Q => ∃ ρ S L, SR K mg ρ S H ∧ LR K ρ S.length H L σ ∧ Post K mg (relVs K) W ρ S H σ (m L S) Q
def TTm (K : PySem.W.Frag) (mg : Str → Option Value) (W : WX) (m : MT) : TT := fun σ H Q => ∃ ρ S L, SR K mg ρ S H ∧ LR K ρ S.length H L σ ∧ Post K mg relB W ρ S H σ (m L S) Q
def W0 : WX := fun _ _ _ _ => False
/-- what a target may do to the slots -/
structure Step where
  is : L2.St → L2.St → Prop
  refl : ∀ a, is a a
  trans : ∀ a b c, is a b → is b c → is a c
def anyStep : Step := ⟨fun _ _ => True, fun _ => trivial, fun _ _ _ _ _ => trivial⟩
def wipeStep (vs : List Nat) : Step := ⟨fun a b => L2.wipe b vs = L2.wipe a vs, fun _ => rfl, fun _ _ _ h h' => h'.trans h⟩
def relLP (K : PySem.W.Frag) (P : Step) (σ : L2.St) : Rel Loc L2.St := fun ρ S H a u => LR K ρ S.length H a u ∧ P.is σ u
def TGm (K : PySem.W.Frag) (mg : Str → Option Value) (P : Step) (g : MG) : TG := fun v σ H Q => ∃ ρ S L x, SR K mg ρ S H ∧ LR K ρ S.length H L σ ∧ VR K ρ S.length H x v ∧ Post K mg (relLP K P σ) W0 ρ S H σ (g x L S) Q
def TGsm (K : PySem.W.Frag) (mg : Str → Option Value) (P : Step) (g : MGs) : TGs := fun v σ H Q => ∃ ρ S L x, SR K mg ρ S H ∧ LR K ρ S.length H L σ ∧ VRs K ρ S.length H x v ∧ Post K mg (relLP K P σ) W0 ρ S H σ (g x L S) Q
def PostF (K : PySem.W.Frag) (mg : Str → Option Value) (W : WX) (ρ : Rho) (S : Store) (H : Hp) (r : F) (D : Ends) : Prop := match r with
  | .nx L S' => ∀ ρ' H' σ', Ext ρ S H ρ' S' H' → SR K mg ρ' S' H' → LR K ρ' S'.length H' L σ' → D.nx σ' H'
  | .bk L S' => ∀ ρ' H' σ', Ext ρ S H ρ' S' H' → SR K mg ρ' S' H' → LR K ρ' S'.length H' L σ' → D.bk σ' H'
  | .ct L S' => ∀ ρ' H' σ', Ext ρ S H ρ' S' H' → SR K mg ρ' S' H' → LR K ρ' S'.length H' L σ' → D.ct σ' H'
  | .rt v S' => ∀ ρ' H' u, Ext ρ S H ρ' S' H' → SR K mg ρ' S' H' → VR K ρ' S'.length H' v u → D.rt u H'
  | .exn e L S' => ∀ ρ' H' σ' cls d, Ext ρ S H ρ' S' H' → SR K mg ρ' S' H' → LR K ρ' S'.length H' L σ' → XR K mg ρ' S'.length H' e cls d → W cls d σ' H'
  | .bad => False
def TSm (K : PySem.W.Frag) (mg : Str → Option Value) (W : WX) (m : MS) : TS := fun D σ H => ∃ ρ S L, SR K mg ρ S H ∧ LR K ρ S.length H L σ ∧ PostF K mg W ρ S H (m L S) D
abbrev PEm (X : Cx) (W : WX) (e : Expr) (m : ME) : Prop := PE X e (TEm X.K X.mg W m)
abbrev PAm (X : Cx) (W : WX) (e : List Expr) (m : MA) : Prop := PA X e (TAm X.K X.mg W m)
abbrev PTm (X : Cx) (W : WX) (e : Expr) (m : MT) : Prop := PT X e (TTm X.K X.mg W m)
abbrev PWm (X : Cx) (W : WX) (e : Expr) (m : MT) : Prop := PW X e (TTm X.K X.mg W m)
abbrev PSm (X : Cx) (W : WX) (e : Stmt) (m : MS) : Prop := PS X e (TSm X.K X.mg W m)
abbrev PSsm (X : Cx) (W : WX) (e : List Stmt) (m : MS) : Prop := PSs X e (TSm X.K X.mg W m)
abbrev PGm (X : Cx) (P : Step) (e : Expr) (m : MG) : Prop := PG X e (TGm X.K X.mg P m)
abbrev PGsm (X : Cx) (P : Step) (e : List Expr) (m : MGs) : Prop := PGs X e (TGsm X.K X.mg P m)
section
variable {X : Cx} {W : WX}
theorem PE.imp {e : Expr} {t t' : TE} (h : PE X e t) (i : ∀ σ H Q, t' σ H Q → t σ H Q) : PE X e t' := ⟨fun pins s σ H Q I q => h.run pins s σ H Q I (i σ H Q q)⟩
theorem PA.imp {e : List Expr} {t t' : TA} (h : PA X e t) (i : ∀ σ H Q, t' σ H Q → t σ H Q) : PA X e t' := ⟨fun pos pins s σ H Q I q => h.run pos pins s σ H Q I (i σ H Q q)⟩
theorem PT.imp {e : Expr} {t t' : TT} (h : PT X e t) (i : ∀ σ H Q, t' σ H Q → t σ H Q) : PT X e t' := ⟨fun pins s σ H Q I q => h.run pins s σ H Q I (i σ H Q q)⟩
theorem PW.imp {e : Expr} {t t' : TT} (h : PW X e t) (i : ∀ σ H Q, t' σ H Q → t σ H Q) : PW X e t' := ⟨fun w pins s σ H Q I q => h.run w pins s σ H Q I (i σ H Q q)⟩
theorem PS.imp {e : Stmt} {t t' : TS} (h : PS X e t) (i : ∀ D σ H, t' D σ H → t D σ H) : PS X e t' := ⟨fun pins s σ H D I q => h.run pins s σ H D I (i D σ H q)⟩
theorem PSs.imp {e : List Stmt} {t t' : TS} (h : PSs X e t) (i : ∀ D σ H, t' D σ H → t D σ H) : PSs X e t' := ⟨fun pins s σ H D I q => h.run pins s σ H D I (i D σ H q)⟩
theorem PG.imp {e : Expr} {t t' : TG} (h : PG X e t) (i : ∀ v σ H Q, t' v σ H Q → t v σ H Q) : PG X e t' := ⟨fun pins s σ H v u Q I r q => h.run pins s σ H v u Q I r (i v σ H Q q)⟩
theorem PGs.imp {e : List Expr} {t t' : TGs} (h : PGs X e t) (i : ∀ v σ H Q, t' v σ H Q → t v σ H Q) : PGs X e t' := ⟨fun pins s σ H v u Q I r q => h.run pins s σ H v u Q I r (i v σ H Q q)⟩
end
end Mp

/-! Mp3: expressions, tests, statements, targets: each combinator is right. -/
namespace Mp
open PySem PySem.Spec L2
section
variable {K : PySem.W.Frag} {mg : Str → Option Value} {W : WX}
theorem TEm.bind {γ β : Type} {rel : Rel γ β} {m : ME} {k : Val → Store → R γ} {ρ : Rho} {S : Store} {H : Hp} {L : Loc} {σ : L2.St} {Q : β → Hp → Prop} (s : SR K mg ρ S H) (l : LR K ρ S.length H L σ)
    (h : Post K mg rel W ρ S H σ ((m L S).bind k) Q) {Q' : VK} (hq : ∀ ρ1 S1 a u H1, SR K mg ρ1 S1 H1 → LR K ρ1 S1.length H1 L σ → Ext ρ S H ρ1 S1 H1 → VR K ρ1 S1.length H1 a u → Post K mg rel W ρ1 S1 H1 σ (k a S1) Q → Q' u H1) :
    TEm K mg W m σ H Q' := ⟨ρ, S, L, s, l, (Post.bind (rel1 := relV K) h).mono fun u H1 ⟨ρ1, S1, a, _, e, s1, v, q⟩ => hq ρ1 S1 a u H1 s1 (l.ext s e) e v q⟩
theorem TAm.bind {γ β : Type} {rel : Rel γ β} {m : MA} {k : List Val → Store → R γ} {ρ : Rho} {S : Store} {H : Hp} {L : Loc} {σ : L2.St} {Q : β → Hp → Prop} (s : SR K mg ρ S H) (l : LR K ρ S.length H L σ)
    (h : Post K mg rel W ρ S H σ ((m L S).bind k) Q) {Q' : List V → Hp → Prop} (hq : ∀ ρ1 S1 a u H1, SR K mg ρ1 S1 H1 → LR K ρ1 S1.length H1 L σ → Ext ρ S H ρ1 S1 H1 → VRs K ρ1 S1.length H1 a u → Post K mg rel W ρ1 S1 H1 σ (k a S1) Q → Q' u H1) :
    TAm K mg W m σ H Q' := ⟨ρ, S, L, s, l, (Post.bind (rel1 := relVs K) h).mono fun u H1 ⟨ρ1, S1, a, _, e, s1, v, q⟩ => hq ρ1 S1 a u H1 s1 (l.ext s e) e v q⟩
theorem TTm.bind {γ β : Type} {rel : Rel γ β} {m : MT} {k : Bool → Store → R γ} {ρ : Rho} {S : Store} {H : Hp} {L : Loc} {σ : L2.St} {Q : β → Hp → Prop} (s : SR K mg ρ S H) (l : LR K ρ S.length H L σ)
    (h : Post K mg rel W ρ S H σ ((m L S).bind k) Q) {Q' : Bool → Hp → Prop} (hq : ∀ ρ1 S1 a H1, SR K mg ρ1 S1 H1 → LR K ρ1 S1.length H1 L σ → Ext ρ S H ρ1 S1 H1 → Post K mg rel W ρ1 S1 H1 σ (k a S1) Q → Q' a H1) :
    TTm K mg W m σ H Q' := ⟨ρ, S, L, s, l, (Post.bind (rel1 := relB) h).mono fun u H1 ⟨ρ1, S1, a, _, e, s1, v, q⟩ => by
      have v' : u = a := v
      subst v'
      exact hq ρ1 S1 u H1 s1 (l.ext s e) e q⟩
theorem Post.here {α β : Type} {rel : Rel α β} {ρ : Rho} {S : Store} {H : Hp} {σ : L2.St} {a : α} {u : β} {Q : β → Hp → Prop} (s : SR K mg ρ S H) (h : Post K mg rel W ρ S H σ (.ok a S) Q) (r : rel ρ S H a u) : Q u H :=
  h ρ H u (Ext.refl _ _ _) s r
end
section
variable {X : Cx} {W : WX} {e a b c : Expr} {es : List Expr} {m ma mb mc : ME} {pos : Pos}
/-! ### names, constants -/
theorem e_v {i : Nat} {x : Str} (h : PE X (.Name x pos) (tVar i)) : PEm X W (.Name x pos) (mV i) := PE.imp h fun σ H Q ⟨ρ, S, L, s, l, p⟩ => by
  unfold mV getL at p
  split at p
  · rename_i v q
    obtain ⟨u, hu, r⟩ := l.2 i v q
    exact ⟨u, hu, Post.here s p r⟩
  · exact p.elim
theorem e_c {v : Val} {u : V} (h : PE X e (tC u)) (r : ∀ ρ n H, VR X.K ρ n H v u) : PEm X W e (mC v) := PE.imp h fun σ H Q ⟨ρ, S, L, s, l, p⟩ => Post.here (rel := relV X.K) s p (r _ _ _)
theorem e_int {i : Int} {j} : PEm X W (.Constant (.int i) j pos) (mC (.int i)) := e_c pe_int fun _ _ _ => by simp [VR]
theorem e_bl {i : Bool} {j} : PEm X W (.Constant (.bool i) j pos) (mC (.bl i)) := e_c pe_bl fun _ _ _ => by simp [VR]
theorem e_non {j} : PEm X W (.Constant .none j pos) (mC .non) := e_c pe_non fun _ _ _ => by simp [VR]
theorem e_str {i : Str} {j} : PEm X W (.Constant (.str i) j pos) (mC (.str i)) := e_c pe_str fun _ _ _ => by simp [VR]
/-- a constant of the module -/
theorem e_gc {x : Str} {v : Val} {u : V} {w : Value} (hg : Gl X x) (hm : X.mg x = some w) (r : RelV u w) (q : ∀ ρ n H, VR X.K ρ n H v u) (hd : (x == ("__debug__" : Str)) = false := by decide) : PEm X W (.Name x pos) (mC v) := e_c (pe_glob hg hm r hd) q
theorem e_bad : PE X e (fun _ _ _ => False) := ⟨fun _ _ _ _ _ _ h => h.elim⟩
/-! ### operators -/
def rP1 (X : Cx) (p : P1) : V → Hp → VK → Prop := fun u H Q => ∃ ρ S x, SR X.K X.mg ρ S H ∧ VR X.K ρ S.length H x u ∧ Post X.K X.mg (relV X.K) W0 ρ S H [] (p x S) Q
def rP2 (X : Cx) (p : P2) : R2 := fun u w H Q => ∃ ρ S x y, SR X.K X.mg ρ S H ∧ VR X.K ρ S.length H x u ∧ VR X.K ρ S.length H y w ∧ Post X.K X.mg (relV X.K) W0 ρ S H [] (p x y S) Q
def rF (X : Cx) (f : Fn) : List V → Hp → VK → Prop := fun us H Q => ∃ ρ S xs, SR X.K X.mg ρ S H ∧ VRs X.K ρ S.length H xs us ∧ Post X.K X.mg (relV X.K) W0 ρ S H [] (f xs S) Q
theorem Post.sig {α β : Type} {K : PySem.W.Frag} {mg : Str → Option Value} {rel : Rel α β} {ρ : Rho} {S : Store} {H : Hp} {σ σ' : L2.St} {r : R α} {Q : β → Hp → Prop} (h : Post K mg rel W0 ρ S H σ r Q) : Post K mg rel W0 ρ S H σ' r Q := by
  cases r with
  | ok a S' => exact h
  | exn x S' => exact h
  | bad => exact h
theorem m1_of {p : P1} {σ : L2.St} {H : Hp} {Q : VK} (h : TEm X.K X.mg W (m1 p m) σ H Q) : TEm X.K X.mg W m σ H fun u H1 => rP1 X p u H1 Q := by
  obtain ⟨ρ, S, L, s, l, h⟩ := h
  exact TEm.bind s l h fun ρ1 S1 x u H1 s1 l1 e v q => ⟨ρ1, S1, x, s1, v, (Post.noExn q W0).sig⟩
theorem m2_of {p : P2} {σ : L2.St} {H : Hp} {Q : VK} (h : TEm X.K X.mg W (m2 p ma mb) σ H Q) : tOp (rP2 X p) (TEm X.K X.mg W ma) (TEm X.K X.mg W mb) σ H Q := by
  obtain ⟨ρ, S, L, s, l, h⟩ := h
  exact TEm.bind s l h fun ρ1 S1 x u H1 s1 l1 e v q => TEm.bind s1 l1 q fun ρ2 S2 y w H2 s2 l2 e2 v2 q2 => ⟨ρ2, S2, x, y, s2, VR.ext s1 e2 _ _ v, v2, (Post.noExn q2 W0).sig⟩
abbrev OpS (X : Cx) (f : Value → Value → Sem Value) (p : P2) : Prop := OpR X f (rP2 X p)
theorem OpR.imp {f : Value → Value → Sem Value} {r r' : R2} (h : OpR X f r) (i : ∀ u w H Q, r' u w H Q → r u w H Q) : OpR X f r' := fun pins s σ H x y v u Q I rx ry q => h pins s σ H x y v u Q I rx ry (i _ _ _ _ q)
theorem CallR.imp {f : Value} {r r' : List V → Hp → VK → Prop} (h : CallR X f r) (i : ∀ us H Q, r' us H Q → r us H Q) : CallR X f r' := fun pins s σ H xs us Q I rx q => h pins s σ H xs us Q I rx (i _ _ _ q)
theorem e_op {op : Operator} {p : P2} (ho : OpS X (binaryOp op) p) (ha : PEm X W a ma) (hb : PEm X W b mb) : PEm X W (.BinOp a op b pos) (m2 p ma mb) := PE.imp (pe_op ho ha hb) fun _ _ _ => m2_of
theorem e_cmp {op : CmpOp} {p : P2} (ho : OpS X (compareOp op) p) (ha : PEm X W a ma) (hb : PEm X W b mb) (hm : behindInMarks op b = false) : PEm X W (.Compare a [op] [b] pos) (m2 p ma mb) := PE.imp (pe_cmpR ho ha hb hm) fun _ _ _ => m2_of
theorem e_un {op : UnaryOp} {p : P1} (ho : UnR X (unaryOp op) (rP1 X p)) (ha : PEm X W a ma) : PEm X W (.UnaryOp op a pos) (m1 p ma) := PE.imp (pe_un ho ha) fun _ _ _ => m1_of
theorem isT_of {K : PySem.W.Frag} {mg : Str → Option Value} {α β : Type} {rel : Rel α β} {ρ : Rho} {S : Store} {H : Hp} {σ : L2.St} {x : Val} {u : V} {k : Bool → Store → R α} {Q : β → Hp → Prop} (v : VR K ρ S.length H x u) (h : Post K mg rel W ρ S H σ ((isT x S).bind k) Q) :
    ∃ b, u = .bl b ∧ Post K mg rel W ρ S H σ (k b S) Q := by
  cases x with
  | bl b => exact ⟨b, by simpa [VR] using v, h⟩
  | _ => exact h.elim
theorem e_chain {op op' : CmpOp} {p q : P2} (ho : OpS X (compareOp op) p) (ho' : OpS X (compareOp op') q) (ha : PEm X W a ma) (hb : PEm X W b mb) (hc : PEm X W c mc)
    (hm : lastMarks [op, op'] [b, c] = false := by with_unfolding_all rfl) : PEm X W (.Compare a [op, op'] [b, c] pos) (mChain p q ma mb mc) := PE.imp (pe_chain ho ho' ha hb hc hm) fun σ H Q h => by
  obtain ⟨ρ, S, L, s, l, h⟩ := h
  refine TEm.bind s l h fun ρ1 S1 x u H1 s1 l1 e v h => TEm.bind s1 l1 h fun ρ2 S2 y w H2 s2 l2 e2 v2 h => ?_
  have h := (Post.bind (rel1 := relV X.K) h)
  refine ⟨ρ2, S2, x, y, s2, VR.ext s1 e2 _ _ v, v2, (Post.noExn h W0).sig.mono ?_⟩
  rintro z H3 ⟨ρ3, S3, zz, hzz, e3, s3, v3, h⟩
  obtain ⟨t, ez, h⟩ := isT_of v3 h
  refine ⟨t, ez, ?_⟩
  have l3 := l2.ext s2 e3
  cases t with
  | true =>
    refine iteT (TEm.bind s3 l3 h fun ρ4 S4 zc w4 H4 s4 l4 e4 v4 h => ?_)
    exact ⟨ρ4, S4, y, zc, s4, VR.ext s3 e4 _ _ (VR.ext s2 e3 _ _ v2), v4, (Post.noExn h W0).sig⟩
  | false => exact iteF (Post.here (rel := relV X.K) s3 h (by simp [relV, VR]))
/-! ### arguments, displays -/
theorem a_nil : PAm X W [] aNil := PA.imp pa_nil fun σ H Q ⟨ρ, S, L, s, l, h⟩ => Post.here (rel := relVs X.K) s h VRs.nil
theorem a_cons {ma : MA} (he : PEm X W e m) (ha : PAm X W es ma) (hs : starEach (e :: es) X.env = (false, eval e X.env) :: starEach es X.env := by rfl) : PAm X W (e :: es) (aCons m ma) := PA.imp (pa_cons he ha hs) fun σ H Q h => by
  obtain ⟨ρ, S, L, s, l, h⟩ := h
  refine TEm.bind s l h fun ρ1 S1 x u H1 s1 l1 e v h => TAm.bind s1 l1 h fun ρ2 S2 y w H2 s2 l2 e2 v2 h => ?_
  exact Post.here (rel := relVs X.K) s2 h (VRs.cons (VR.ext s1 e2 _ _ v) v2)
theorem mB_of {f : Fn} {ma : MA} {σ : L2.St} {H : Hp} {Q : VK} (h : TEm X.K X.mg W (mB f ma) σ H Q) : tCB (rF X f) (TAm X.K X.mg W ma) σ H Q := by
  obtain ⟨ρ, S, L, s, l, h⟩ := h
  exact TAm.bind s l h fun ρ1 S1 x u H1 s1 l1 e v q => ⟨ρ1, S1, x, s1, v, (Post.noExn q W0).sig⟩
theorem lim_eq : LIM = sizeLine := by rw [sizeLine_eq]; rfl
theorem fTup_of {us : List V} {H : Hp} {Q : VK} (h : rF X fTup us H Q) : us.length ≤ sizeLine ∧ ∀ p, H p = none → Q (.ref p) (upd H p (.tup us)) := by
  obtain ⟨ρ, S, xs, s, v, h⟩ := h
  unfold fTup at h
  by_cases hz : xs.length ≤ LIM
  · rw [bite_pos (decide_eq_true hz)] at h
    refine ⟨by rw [← v.length, ← lim_eq]; exact hz, fun p hp => h ρ _ _ (Ext.side hp) (s.side hp) ?_⟩
    simp only [relV, VR]
    exact ⟨p, us, rfl, .inl (.inl upd_same), VRs.ext s (Ext.side hp) _ _ v⟩
  · rw [bite_neg (decide_eq_false hz)] at h
    exact h.elim
theorem fLst_of {us : List V} {H : Hp} {Q : VK} (h : rF X fLst us H Q) : us.length ≤ sizeLine ∧ ∀ p, H p = none → Q (.ref p) (upd H p (.lst us)) := by
  obtain ⟨ρ, S, xs, s, v, h⟩ := h
  unfold fLst at h
  by_cases hz : xs.length ≤ LIM
  · rw [bite_pos (decide_eq_true hz)] at h
    refine ⟨by rw [← v.length, ← lim_eq]; exact hz, fun p hp => h _ _ _ (Ext.new hp) (s.new hp ⟨us, upd_same, VRs.ext s (Ext.new hp) _ _ v⟩) ?_⟩
    simp only [relV, VR, newRho_same]
    exact ⟨by simp, trivial⟩
  · rw [bite_neg (decide_eq_false hz)] at h
    exact h.elim
theorem e_tup {ma : MA} {x1} (h : PAm X W es ma) : PEm X W (.Tuple es x1 pos) (mTup ma) := PE.imp (pe_tup h) fun σ H Q q => by
  obtain ⟨ρ, S, L, s, l, p⟩ := mB_of q
  exact ⟨ρ, S, L, s, l, p.mono fun us H1 r => fTup_of r⟩
theorem e_lst {ma : MA} (h : PAm X W es ma) : PEm X W (.List es pos) (mLst ma) := PE.imp (pe_lst h) fun σ H Q q => by
  obtain ⟨ρ, S, L, s, l, p⟩ := mB_of q
  exact ⟨ρ, S, L, s, l, p.mono fun us H1 r => fLst_of r⟩
theorem new_of {o : HO} {b : Ob} {H : Hp} {ρ : Rho} {S : Store} {σ : L2.St} {Q : VK} (s : SR X.K X.mg ρ S H) (h : Post X.K X.mg (relV X.K) W ρ S H σ (.ok (.ref S.length) (S ++ [b])) Q)
    (hb : ∀ p, H p = none → OR X.K X.mg (newRho ρ S.length p) (S ++ [b]).length (upd H p o) p b) : ∀ p, H p = none → Q (.ref p) (upd H p o) := fun p hp => by
  refine h _ _ _ (Ext.new hp) (s.new hp (hb p hp)) ?_
  simp only [relV, VR, newRho_same]
  exact ⟨by simp, trivial⟩
theorem e_dk : PEm X W (.Dict [] [] pos) mDK := PE.imp pe_dnewK fun σ H Q ⟨ρ, S, L, s, l, h⟩ => new_of s h fun p hp => ⟨[], upd_same, rfl, by simp [VRs]⟩
theorem e_dt : PEm X W (.Dict [] [] pos) mDT := PE.imp pe_dnewT fun σ H Q ⟨ρ, S, L, s, l, h⟩ => new_of s h fun p hp => ⟨[], upd_same, rfl, by simp [VRs]⟩
/-! ### tests -/
theorem t_v (he : PEm X W e m) (hp : ∀ whole, isTrue e X.env whole = (do let v ← whole; standAt e.pos; holding [v] (truthy v)) := by intro _; rfl) : PTm X W e (tV m) := PT.imp (pt_val he hp) fun σ H Q h => by
  obtain ⟨ρ, S, L, s, l, h⟩ := h
  refine TEm.bind s l h fun ρ1 S1 x u H1 s1 l1 e v h => ?_
  cases x with
  | bl b => exact ⟨b, by simpa [VR] using v, Post.here (rel := relB) s1 h rfl⟩
  | _ => exact h.elim
theorem t_cmp {op : CmpOp} {p : P2} (ho : OpS X (compareOp op) p) (ha : PEm X W a ma) (hb : PEm X W b mb) (hm : behindInMarks op b = false) : PTm X W (.Compare a [op] [b] pos) (tV (m2 p ma mb)) := PT.imp (pt_cmpR ho ha hb hm) fun σ H Q h => by
  obtain ⟨ρ, S, L, s, l, h⟩ := h
  refine m2_of ⟨ρ, S, L, s, l, (Post.bind (rel1 := relV X.K) h).mono ?_⟩
  rintro u H1 ⟨ρ1, S1, x, _, e1, s1, v, h⟩
  cases x with
  | bl b => exact ⟨b, by simpa [VR, relV] using v, Post.here (rel := relB) s1 h rfl⟩
  | _ => exact h.elim
theorem t_chain {op op' : CmpOp} {p q : P2} (ho : OpS X (compareOp op) p) (ho' : OpS X (compareOp op') q) (ha : PEm X W a ma) (hb : PEm X W b mb) (hc : PEm X W c mc)
    (hm : lastMarks [op, op'] [b, c] = false := by with_unfolding_all rfl) : PTm X W (.Compare a [op, op'] [b, c] pos) (tV (mChain p q ma mb mc)) := PT.imp (pt_chain ho ho' ha hb hc hm) fun σ H Q h => by
  obtain ⟨ρ, S, L, s, l, h⟩ := h
  have h := (Post.bind (rel1 := relV X.K) h)
  refine TEm.bind s l h fun ρ1 S1 x u H1 s1 l1 e v h => TEm.bind s1 l1 h fun ρ2 S2 y w H2 s2 l2 e2 v2 h => ?_
  have h := (Post.bind (rel1 := relV X.K) h)
  refine ⟨ρ2, S2, x, y, s2, VR.ext s1 e2 _ _ v, v2, (Post.noExn h W0).sig.mono ?_⟩
  rintro z H3 ⟨ρ3, S3, zz, hzz, e3, s3, v3, h⟩
  obtain ⟨t, ez, h⟩ := isT_of v3 h
  refine ⟨t, ez, ?_⟩
  have l3 := l2.ext s2 e3
  cases t with
  | true =>
    refine iteT (TEm.bind s3 l3 h fun ρ4 S4 zc w4 H4 s4 l4 e4 v4 h => ?_)
    refine ⟨ρ4, S4, y, zc, s4, VR.ext s3 e4 _ _ (VR.ext s2 e3 _ _ v2), v4, (Post.noExn h W0).sig.mono ?_⟩
    rintro u H1 ⟨ρ1, S1, x, _, e1, s1, v, h⟩
    cases x with
    | bl b => exact ⟨b, by simpa [VR, relV] using v, Post.here (rel := relB) s1 h rfl⟩
    | _ => exact h.elim
  | false =>
    have q := Post.here (rel := relV X.K) (u := .bl false) s3 h (by simp [relV, VR])
    obtain ⟨ρ5, S5, a5, e5, _, s5, v5, h5⟩ := q
    refine iteF ⟨false, rfl, ?_⟩
    cases a5 with
    | bl b =>
      have : V.bl false = V.bl b := by simpa [VR, relV] using v5
      cases this
      exact Post.here (rel := relB) s5 h5 rfl
    | _ => exact h5.elim
theorem t_and1 {ma : MT} (ha : PTm X W a ma) : PWm X W (.BoolOp .And [a] pos) ma := pw_and1 ha
theorem t_or1 {ma : MT} (ha : PTm X W a ma) : PWm X W (.BoolOp .Or [a] pos) ma := pw_or1 ha
theorem t_and {ma mb : MT} (ha : PTm X W a ma) (hb : PWm X W (.BoolOp .And (b :: es) pos) mb) : PWm X W (.BoolOp .And (a :: b :: es) pos) (Mp.tAnd ma mb) := PW.imp (pw_and ha hb) fun σ H Q h => by
  obtain ⟨ρ, S, L, s, l, h⟩ := h
  refine TTm.bind s l h fun ρ1 S1 c H1 s1 l1 e h => ?_
  cases c with
  | true => exact iteT ⟨ρ1, S1, L, s1, l1, h⟩
  | false => exact iteF (Post.here (rel := relB) s1 h rfl)
theorem t_or {ma mb : MT} (ha : PTm X W a ma) (hb : PWm X W (.BoolOp .Or (b :: es) pos) mb) : PWm X W (.BoolOp .Or (a :: b :: es) pos) (Mp.tOr ma mb) := PW.imp (pw_or ha hb) fun σ H Q h => by
  obtain ⟨ρ, S, L, s, l, h⟩ := h
  refine TTm.bind s l h fun ρ1 S1 c H1 s1 l1 e h => ?_
  cases c with
  | true => exact iteT (Post.here (rel := relB) s1 h rfl)
  | false => exact iteF ⟨ρ1, S1, L, s1, l1, h⟩
theorem t_not {ma : MT} (ha : PTm X W a ma) : PTm X W (.UnaryOp .Not a pos) (Mp.tNot ma) := PT.imp (pt_not ha) fun σ H Q h => by
  obtain ⟨ρ, S, L, s, l, h⟩ := h
  exact TTm.bind s l h fun ρ1 S1 c H1 s1 l1 e h => Post.here (rel := relB) s1 h rfl
theorem e_if {mc : MT} (hc : PTm X W c mc) (ha : PEm X W a ma) (hb : PEm X W b mb) : PEm X W (.IfExp c a b pos) (mIf mc ma mb) := PE.imp (pe_ifExp hc ha hb) fun σ H Q h => by
  obtain ⟨ρ, S, L, s, l, h⟩ := h
  refine TTm.bind s l h fun ρ1 S1 c H1 s1 l1 e h => ?_
  cases c with
  | true => exact iteT ⟨ρ1, S1, L, s1, l1, h⟩
  | false => exact iteF ⟨ρ1, S1, L, s1, l1, h⟩
theorem e_one {op} (h : PEm X W a ma) : PEm X W (.BoolOp op [a] pos) ma := pe_one h
theorem e_and (ha : PEm X W a ma) (hb : PEm X W (.BoolOp .And (b :: es) pos) mb) : PEm X W (.BoolOp .And (a :: b :: es) pos) (mAnd ma mb) := PE.imp (pe_and ha hb) fun σ H Q h => by
  obtain ⟨ρ, S, L, s, l, h⟩ := h
  refine TEm.bind s l h fun ρ1 S1 x u H1 s1 l1 e v h => ?_
  obtain ⟨t, ez, h⟩ := isT_of v h
  refine ⟨t, ez, ?_⟩
  cases t with
  | true => exact iteT ⟨ρ1, S1, L, s1, l1, h⟩
  | false => exact iteF (Post.here (rel := relV X.K) s1 h (by simp [relV, VR]))
theorem e_or (ha : PEm X W a ma) (hb : PEm X W (.BoolOp .Or (b :: es) pos) mb) : PEm X W (.BoolOp .Or (a :: b :: es) pos) (mOr ma mb) := PE.imp (pe_or ha hb) fun σ H Q h => by
  obtain ⟨ρ, S, L, s, l, h⟩ := h
  refine TEm.bind s l h fun ρ1 S1 x u H1 s1 l1 e v h => ?_
  obtain ⟨t, ez, h⟩ := isT_of v h
  refine ⟨t, ez, ?_⟩
  cases t with
  | true => exact iteT (Post.here (rel := relV X.K) s1 h (by simp [relV, VR]))
  | false => exact iteF ⟨ρ1, S1, L, s1, l1, h⟩
theorem e_not (ha : PEm X W a ma) : PEm X W (.UnaryOp .Not a pos) (mNot ma) := PE.imp (pe_not ha) fun σ H Q h => by
  obtain ⟨ρ, S, L, s, l, h⟩ := h
  refine TEm.bind s l h fun ρ1 S1 x u H1 s1 l1 e v h => ?_
  obtain ⟨t, ez, h⟩ := isT_of v h
  exact ⟨t, ez, Post.here (rel := relV X.K) s1 h (by simp [relV, VR])⟩
end

/-! ### statements -/
section
variable {K : PySem.W.Frag} {mg : Str → Option Value} {W : WX}
theorem PostF.mono {ρ : Rho} {S : Store} {H : Hp} {r : F} {D D' : Ends} (h : PostF K mg W ρ S H r D) (h1 : ∀ σ H, D.nx σ H → D'.nx σ H) (h2 : ∀ u H, D.rt u H → D'.rt u H) (h3 : ∀ σ H, D.bk σ H → D'.bk σ H) (h4 : ∀ σ H, D.ct σ H → D'.ct σ H) : PostF K mg W ρ S H r D' := by
  cases r with
  | nx L S' => exact fun ρ' H' σ' e s l => h1 _ _ (h ρ' H' σ' e s l)
  | bk L S' => exact fun ρ' H' σ' e s l => h3 _ _ (h ρ' H' σ' e s l)
  | ct L S' => exact fun ρ' H' σ' e s l => h4 _ _ (h ρ' H' σ' e s l)
  | rt v S' => exact fun ρ' H' σ' e s l => h2 _ _ (h ρ' H' σ' e s l)
  | exn e L S' => exact h
  | bad => exact h
theorem PostF.step {ρ ρ1 : Rho} {S S1 : Store} {H H1 : Hp} {r : F} {D : Ends} (s1 : SR K mg ρ1 S1 H1) (e : Ext ρ S H ρ1 S1 H1) (h : PostF K mg W ρ S H r D) : PostF K mg W ρ1 S1 H1 r D := by
  cases r with
  | nx L S' => exact fun ρ' H' σ' e' s l => h ρ' H' σ' (Ext.trans s1 e e') s l
  | bk L S' => exact fun ρ' H' σ' e' s l => h ρ' H' σ' (Ext.trans s1 e e') s l
  | ct L S' => exact fun ρ' H' σ' e' s l => h ρ' H' σ' (Ext.trans s1 e e') s l
  | rt v S' => exact fun ρ' H' σ' e' s l => h ρ' H' σ' (Ext.trans s1 e e') s l
  | exn x L S' => exact fun ρ' H' σ' c d e' s l => h ρ' H' σ' c d (Ext.trans s1 e e') s l
  | bad => exact h
/-- behind an expression -/
theorem PostF.then {α β : Type} {rel : Rel α β} {ρ : Rho} {S : Store} {H : Hp} {L : Loc} {σ : L2.St} {r : R α} {k : α → Store → F} {D : Ends} (s : SR K mg ρ S H) (l : LR K ρ S.length H L σ) (h : PostF K mg W ρ S H (thenF L r k) D) :
    Post K mg rel W ρ S H σ r fun u H1 => ∃ ρ1 S1 a, r = .ok a S1 ∧ Ext ρ S H ρ1 S1 H1 ∧ SR K mg ρ1 S1 H1 ∧ rel ρ1 S1 H1 a u ∧ PostF K mg W ρ1 S1 H1 (k a S1) D := by
  cases r with
  | ok a S1 => exact fun ρ1 H1 u e s v => ⟨ρ1, S1, a, rfl, e, s, v, PostF.step s e h⟩
  | exn x S' => exact fun ρ' H' cls d e s' q => h ρ' H' σ cls d e s' (l.ext s e) q
  | bad => exact h
theorem TEm.then {m : ME} {k : Val → Store → F} {ρ : Rho} {S : Store} {H : Hp} {L : Loc} {σ : L2.St} {D : Ends} (s : SR K mg ρ S H) (l : LR K ρ S.length H L σ) (h : PostF K mg W ρ S H (thenF L (m L S) k) D)
    {Q' : VK} (hq : ∀ ρ1 S1 a u H1, SR K mg ρ1 S1 H1 → LR K ρ1 S1.length H1 L σ → Ext ρ S H ρ1 S1 H1 → VR K ρ1 S1.length H1 a u → PostF K mg W ρ1 S1 H1 (k a S1) D → Q' u H1) : TEm K mg W m σ H Q' :=
  ⟨ρ, S, L, s, l, (PostF.then (rel := relV K) s l h).mono fun u H1 ⟨ρ1, S1, a, _, e, s1, v, q⟩ => hq ρ1 S1 a u H1 s1 (l.ext s e) e v q⟩
theorem TTm.then {m : MT} {k : Bool → Store → F} {ρ : Rho} {S : Store} {H : Hp} {L : Loc} {σ : L2.St} {D : Ends} (s : SR K mg ρ S H) (l : LR K ρ S.length H L σ) (h : PostF K mg W ρ S H (thenF L (m L S) k) D)
    {Q' : Bool → Hp → Prop} (hq : ∀ ρ1 S1 a H1, SR K mg ρ1 S1 H1 → LR K ρ1 S1.length H1 L σ → Ext ρ S H ρ1 S1 H1 → PostF K mg W ρ1 S1 H1 (k a S1) D → Q' a H1) : TTm K mg W m σ H Q' :=
  ⟨ρ, S, L, s, l, (PostF.then (rel := relB) s l h).mono fun u H1 ⟨ρ1, S1, a, _, e, s1, v, q⟩ => by
    have v' : u = a := v
    subst v'
    exact hq ρ1 S1 u H1 s1 (l.ext s e) e q⟩
theorem PostF.nxHere {ρ : Rho} {S : Store} {H : Hp} {L : Loc} {σ : L2.St} {D : Ends} (s : SR K mg ρ S H) (l : LR K ρ S.length H L σ) (h : PostF K mg W ρ S H (.nx L S) D) : D.nx σ H := h ρ H σ (Ext.refl _ _ _) s l
end
section
variable {X : Cx} {W : WX} {e a b c : Expr} {es : List Expr} {m ma mb mc : ME} {pos : Pos} {st : Stmt} {sts rest : List Stmt} {k k1 k2 : MS}
theorem s_nil : PSsm X W [] sNx := PSs.imp pss_nil fun D σ H ⟨ρ, S, L, s, l, h⟩ => PostF.nxHere s l h
theorem s_cons (h1 : PSm X W st k1) (h2 : PSsm X W rest k2) : PSsm X W (st :: rest) (sSeq k1 k2) := PSs.imp (pss_cons h1 h2) fun D σ H h => by
  obtain ⟨ρ, S, L, s, l, h⟩ := h
  refine ⟨ρ, S, L, s, l, ?_⟩
  unfold sSeq at h
  cases q : k1 L S with
  | nx L1 S1 => rw [q] at h; exact fun ρ' H' σ' e s' l' => ⟨ρ', S1, L1, s', l', PostF.step s' e h⟩
  | bk L1 S1 => rw [q] at h; exact h
  | ct L1 S1 => rw [q] at h; exact h
  | rt L1 S1 => rw [q] at h; exact h
  | exn x L1 S1 => rw [q] at h; exact h
  | bad => rw [q] at h; exact h
theorem s_one (h1 : PSm X W st k1) : PSsm X W [st] k1 := pss_one h1
theorem s_pass : PSm X W (.Pass pos) sNx := PS.imp ps_pass fun D σ H ⟨ρ, S, L, s, l, h⟩ => PostF.nxHere s l h
theorem s_brk : PSm X W (.Break pos) sBrk := PS.imp ps_break fun D σ H ⟨ρ, S, L, s, l, h⟩ => h ρ H σ (Ext.refl _ _ _) s l
theorem s_cnt : PSm X W (.Continue pos) sCnt := PS.imp ps_continue fun D σ H ⟨ρ, S, L, s, l, h⟩ => h ρ H σ (Ext.refl _ _ _) s l
theorem s_bad : PSm X W st sBad := PS.imp ps_never fun D σ H ⟨ρ, S, L, s, l, h⟩ => h
theorem s_expr (he : PEm X W e m) (hs : swapsWith e none pos.line X.env = pure false := by rfl) : PSm X W (.Expr e pos) (sExpr m) := PS.imp (ps_expr he hs) fun D σ H ⟨ρ, S, L, s, l, h⟩ =>
  TEm.then s l h fun ρ1 S1 x u H1 s1 l1 e v h => PostF.nxHere s1 l1 h
theorem s_ret (he : PEm X W e m) : PSm X W (.Return (some e) pos) (sRet m) := PS.imp (ps_ret he) fun D σ H ⟨ρ, S, L, s, l, h⟩ =>
  TEm.then s l h fun ρ1 S1 x u H1 s1 l1 e v h => h ρ1 H1 u (Ext.refl _ _ _) s1 v
theorem s_retN : PSm X W (.Return none pos) sRetN := PS.imp ps_retN fun D σ H ⟨ρ, S, L, s, l, h⟩ => h ρ H .non (Ext.refl _ _ _) s (by simp [VR])
theorem s_if {mc : MT} (hc : PTm X W c mc) (h1 : PSsm X W sts k1) (h2 : PSsm X W rest k2) : PSm X W (.If c sts rest pos) (sIf mc k1 k2) := PS.imp (ps_if hc h1 h2) fun D σ H ⟨ρ, S, L, s, l, h⟩ =>
  TTm.then s l h fun ρ1 S1 b H1 s1 l1 e h => by
    cases b with
    | true => exact iteT ⟨ρ1, S1, L, s1, l1, h⟩
    | false => exact iteF ⟨ρ1, S1, L, s1, l1, h⟩
/-! ### targets, stores -/
theorem LR.set {K : PySem.W.Frag} {ρ : Rho} {n : Nat} {H : Hp} {L : Loc} {σ : L2.St} {v : Val} {u : V} {i : Nat} (l : LR K ρ n H L σ) (r : VR K ρ n H v u) : LR K ρ n H (L.set i (some v)) (σ.set i (some u)) := by
  refine ⟨by simp [l.1], fun j w q => ?_⟩
  by_cases hj : j = i
  · subst hj
    have hl : j < L.length := by
      have := (List.getElem?_eq_some_iff.mp q).1
      simpa using this
    rw [List.getElem?_set_self hl] at q
    cases q
    exact ⟨u, List.getElem?_set_self (by rw [← l.1]; exact hl), r⟩
  · rw [List.getElem?_set_ne (Ne.symm hj)] at q
    obtain ⟨u', h1, h2⟩ := l.2 j w q
    exact ⟨u', by rw [List.getElem?_set_ne (Ne.symm hj)]; exact h1, h2⟩
theorem LR.wipe {K : PySem.W.Frag} {ρ : Rho} {n : Nat} {H : Hp} {L : Loc} {σ : L2.St} (l : LR K ρ n H L σ) : ∀ vs : List Nat, LR K ρ n H (wipeL L vs) (wipe σ vs)
  | [] => l
  | i :: r => by
    have ih := LR.wipe l r
    have e1 : L2.wipe σ (i :: r) = (L2.wipe σ r).set i none := rfl
    rw [e1]
    refine ⟨by simp only [wipeL]; simpa using ih.1, fun j w q => ?_⟩
    simp only [wipeL] at q
    by_cases hj : j = i
    · subst hj
      have hl : j < (wipeL L r).length := by
        have := (List.getElem?_eq_some_iff.mp q).1
        simpa using this
      rw [List.getElem?_set_self hl] at q
      cases q
    · rw [List.getElem?_set_ne (Ne.symm hj)] at q
      obtain ⟨u', h1, h2⟩ := ih.2 j w q
      exact ⟨u', by rw [List.getElem?_set_ne (Ne.symm hj)]; exact h1, h2⟩
theorem wipe_set {i : Nat} {u : Option V} : ∀ {vs : List Nat} {σ : L2.St}, i ∈ vs → L2.wipe (σ.set i u) vs = L2.wipe σ vs
  | [], _, h => absurd h (by simp)
  | j :: r, σ, h => by
    show (L2.wipe (σ.set i u) r).set j none = (L2.wipe σ r).set j none
    by_cases hr : i ∈ r
    · rw [wipe_set hr]
    · have hj : i = j := by
        rcases List.mem_cons.mp h with h | h
        · exact h
        · exact absurd h hr
      subst hj
      have : ∀ (r : List Nat) (σ : L2.St), i ∉ r → L2.wipe (σ.set i u) r = (L2.wipe σ r).set i u := by
        intro r
        induction r with
        | nil => intro σ _; rfl
        | cons a r ih =>
          intro σ hn
          have h1 : i ≠ a := fun e => hn (by simp [e])
          have h2 : i ∉ r := fun e => hn (by simp [e])
          show (L2.wipe (σ.set i u) r).set a none = ((L2.wipe σ r).set a none).set i u
          rw [ih σ h2, List.set_comm _ _ h1]
      rw [this r σ hr, List.set_set]
variable {P : Step}
theorem g_name {i : Nat} {x : Str} (h : PG X (.Name x pos) (gName i)) (hP : ∀ σ u, P.is σ (σ.set i u)) : PGm X P (.Name x pos) (gN i) := PG.imp h fun v σ H Q ⟨ρ, S, L, x, s, l, r, h⟩ => Post.here (rel := relLP X.K P σ) s h ⟨l.set r, hP _ _⟩
theorem hp_any {i : Nat} : ∀ σ u, anyStep.is σ (σ.set i u) := fun _ _ => trivial
theorem hp_wipe {i : Nat} {vs : List Nat} (h : i ∈ vs) : ∀ σ u, (wipeStep vs).is σ (σ.set i u) := fun _ _ => wipe_set h
theorem gs_nil : PGsm X P [] gsNil := PGs.imp pgs_nil fun v σ H Q ⟨ρ, S, L, x, s, l, r, h⟩ => by
  cases x with
  | nil => exact ⟨r.nil_of, Post.here (rel := relLP X.K P σ) s h ⟨l, P.refl _⟩⟩
  | cons y ys => exact h.elim
theorem TGm.bind {K : PySem.W.Frag} {mg : Str → Option Value} {γ β : Type} {rel : Rel γ β} {g : MG} {k : Loc → Store → R γ} {ρ : Rho} {S : Store} {H : Hp} {L : Loc} {σ : L2.St} {x : Val} {v : V} {Q : β → Hp → Prop} (s : SR K mg ρ S H) (l : LR K ρ S.length H L σ) (r : VR K ρ S.length H x v)
    (h : Post K mg rel W0 ρ S H σ ((g x L S).bind k) Q) {Q' : L2.St → Hp → Prop} (hq : ∀ ρ1 S1 L1 σ1 H1, SR K mg ρ1 S1 H1 → LR K ρ1 S1.length H1 L1 σ1 → P.is σ σ1 → Ext ρ S H ρ1 S1 H1 → Post K mg rel W0 ρ1 S1 H1 σ (k L1 S1) Q → Q' σ1 H1) :
    TGm K mg P g v σ H Q' := ⟨ρ, S, L, x, s, l, r, (Post.bind (rel1 := relLP K P σ) h).mono fun u H1 ⟨ρ1, S1, a, _, e, s1, v, q⟩ => hq ρ1 S1 a u H1 s1 v.1 v.2 e q⟩
theorem Post.rel {α β : Type} {K : PySem.W.Frag} {mg : Str → Option Value} {rel rel' : Rel α β} {W : WX} {ρ : Rho} {S : Store} {H : Hp} {σ : L2.St} {r : R α} {Q : β → Hp → Prop} (h : Post K mg rel W ρ S H σ r Q) (hr : ∀ ρ S H a u, rel' ρ S H a u → rel ρ S H a u) : Post K mg rel' W ρ S H σ r Q := by
  cases r with
  | ok a S' => exact fun ρ' H' u e s v => h ρ' H' u e s (hr _ _ _ _ _ v)
  | exn x S' => exact h
  | bad => exact h
theorem gs_cons {g : MG} {r : MGs} (h1 : PGm X P e g) (h2 : PGsm X P es r) (hs : (assignEach (e :: es) X.env).map (·.2) = assign e X.env :: (assignEach es X.env).map (·.2) := by rfl) : PGsm X P (e :: es) (gsCons g r) := PGs.imp (pgs_cons h1 h2 hs) fun v σ H Q ⟨ρ, S, L, x, s, l, r, h⟩ => by
  cases x with
  | nil => exact h.elim
  | cons y ys =>
    obtain ⟨u, us, e1, r1, r2⟩ := r.cons_of
    refine ⟨u, us, e1, TGm.bind s l r1 h fun ρ1 S1 L1 σ1 H1 s1 l1 p1 e h => ?_⟩
    exact ⟨ρ1, S1, L1, ys, s1, l1, VRs.ext s e _ _ r2, h.sig.rel fun _ _ _ _ _ q => ⟨q.1, P.trans _ _ _ p1 q.2⟩⟩
/-- a, b = a tuple: what is unpacked has just that length -/
theorem g_tup {r : MGs} {kk : Nat} {n : Nat} (hc : X.calm = true) (h : PGsm X P es r) (hl : ∀ vs L S, vs.length ≠ n → r vs L S = .bad) (hn : (assignEach es X.env).length = n := by rfl) (hst : (assignEach es X.env).findIdx? (·.1) = none := by rfl) :
    PGm X P (.Tuple es kk pos) (Mp.gTup r) := PG.imp (pg_tup hc h hn hst) fun v σ H Q ⟨ρ, S, L, x, s, l, rr, h⟩ => by
  cases x with
  | tup vs =>
    simp only [VR] at rr
    obtain ⟨a, xs, e1, q, r2⟩ := rr
    have hlen : vs.length = n := by
      by_cases z : vs.length = n
      · exact z
      · have h' : Post X.K X.mg (relLP X.K P σ) W0 ρ S H σ (r vs L S) Q := h
        rw [hl vs L S z] at h'
        exact h'.elim
    exact ⟨a, xs, e1, q, by rw [← r2.length]; exact hlen, ρ, S, L, vs, s, l, r2, h⟩
  | _ => exact h.elim
theorem gsl_nil : ∀ vs L S, vs.length ≠ 0 → gsNil vs L S = .bad := fun vs L S h => by cases vs with
  | nil => exact absurd rfl h
  | cons => rfl
theorem gsl_cons {g : MG} {r : MGs} {n : Nat} (hr : ∀ vs L S, vs.length ≠ n → r vs L S = .bad) (hg : ∀ v L S e S', g v L S ≠ .exn e S') : ∀ vs L S, vs.length ≠ n + 1 → gsCons g r vs L S = .bad := fun vs L S h => by
  cases vs with
  | nil => rfl
  | cons v vs =>
    show (g v L S).bind _ = _
    cases q : g v L S with
    | ok a S1 => exact hr vs a S1 (by simp at h; exact h)
    | exn e S1 => exact absurd q (hg v L S e S1)
    | bad => rfl
theorem gN_ne {i : Nat} : ∀ v L S e S', gN i v L S ≠ .exn e S' := fun _ _ _ _ _ h => by cases h
theorem gTup_ne {r : MGs} (h : ∀ vs L S e S', r vs L S ≠ .exn e S') : ∀ v L S e S', Mp.gTup r v L S ≠ .exn e S' := fun v L S e S' q => by
  cases v with
  | tup vs => exact h vs L S e S' q
  | _ => cases q
/-- a store at o[i]: by values -/
def rSet (X : Cx) (p : Val → Val → Val → Store → R Unit) : TSet := fun o i v H Q => ∃ ρ S x y z, SR X.K X.mg ρ S H ∧ VR X.K ρ S.length H x o ∧ VR X.K ρ S.length H y i ∧ VR X.K ρ S.length H z v ∧ Post X.K X.mg (fun _ _ _ (_ : Unit) (_ : Unit) => True) W0 ρ S H [] (p x y z S) fun _ H' => Q H'
theorem g_sub {o i : Expr} {mo mi : ME} {p : Val → Val → Val → Store → R Unit} (ho : PEm X W0 o mo) (hi : PEm X W0 i mi) (hs : PSet X (rSet X p))
    (ha : ∀ v, assign (.Subscript o i pos) X.env v = (do
      let ov ← holding [v] (eval o X.env)
      let iv ← holding [v, ov] (eval i X.env)
      standAt pos
      holding [v, ov, iv] (setItem ov iv v)
      release [v, ov, iv] []) := by intro _; rfl) : PGm X P (.Subscript o i pos) (Mp.gSub mo mi p) := PG.imp (pg_sub ho hi hs ha) fun v σ H Q ⟨ρ, S, L, x, s, l, r, h⟩ => by
  refine TEm.bind s l h fun ρ1 S1 x1 u1 H1 s1 l1 e1 v1 h => TEm.bind s1 l1 h fun ρ2 S2 x2 u2 H2 s2 l2 e2 v2 h => ?_
  refine ⟨ρ2, S2, x1, x2, x, s2, VR.ext s1 e2 _ _ v1, v2, VR.ext s1 e2 _ _ (VR.ext s e1 _ _ r), ?_⟩
  have h := Post.bind (rel1 := fun _ _ _ (_ : Unit) (_ : Unit) => True) h
  refine (Post.noExn h W0).sig.mono ?_
  rintro u H3 ⟨ρ3, S3, a3, _, e3, s3, _, h⟩
  exact Post.here (rel := relLP X.K P σ) s3 h ⟨l2.ext s2 e3, P.refl _⟩
theorem PostF.thenN {α : Type} {K : PySem.W.Frag} {mg : Str → Option Value} {ρ : Rho} {S : Store} {H : Hp} {L : Loc} {r : R α} {k : α → Store → F} {D : Ends} (h : PostF K mg W ρ S H (thenF L (noExn r) k) D) : PostF K mg W ρ S H (thenF L (noExn r) k) D ∧ ∀ e S', r ≠ .exn e S' := by
  refine ⟨h, fun e S' q => ?_⟩
  rw [q] at h
  exact h.elim
/-- behind a part that raises nothing -/
theorem PostF.quiet {α β : Type} {K : PySem.W.Frag} {mg : Str → Option Value} {rel : Rel α β} {ρ : Rho} {S : Store} {H : Hp} {L : Loc} {σ : L2.St} {r : R α} {k : α → Store → F} {D : Ends} (h : PostF K mg W ρ S H (thenF L (noExn r) k) D) :
    Post K mg rel W0 ρ S H σ r fun u H1 => ∃ ρ1 S1 a, r = .ok a S1 ∧ Ext ρ S H ρ1 S1 H1 ∧ SR K mg ρ1 S1 H1 ∧ rel ρ1 S1 H1 a u ∧ PostF K mg W ρ1 S1 H1 (k a S1) D := by
  cases r with
  | ok a S1 => exact fun ρ1 H1 u e s v => ⟨ρ1, S1, a, rfl, e, s, v, PostF.step s e h⟩
  | exn x S' => exact h.elim
  | bad => exact h
theorem asg_of {g : MG} {D : Ends} {σ : L2.St} {H : Hp} (h : TSm X.K X.mg W (sAsg m g) D σ H) : tAsg (TEm X.K X.mg W m) (TGm X.K X.mg anyStep g) D σ H := by
  obtain ⟨ρ, S, L, s, l, h⟩ := h
  refine TEm.then s l h fun ρ1 S1 x u H1 s1 l1 e1 v h => ⟨ρ1, S1, L, x, s1, l1, v, ?_⟩
  refine (PostF.quiet (rel := relLP X.K anyStep σ) h).mono ?_
  rintro σ2 H2 ⟨ρ2, S2, L2, _, e2, s2, l2, h⟩
  exact PostF.nxHere s2 l2.1 h
theorem s_asg {tg : Expr} {g : MG} (he : PEm X W e m) (hg : PGm X anyStep tg g) (hs : swapsWithSole [tg] e pos.line X.env = pure false := by rfl) (hw : swappedStores [tg] e X.env = pure none := by rfl)
    (h1 : (assignEach [tg] X.env).map (·.2) = [assign tg X.env] := by rfl) : PSm X W (.Assign [tg] e pos) (sAsg m g) := PS.imp (ps_asg he hg hs hw h1) fun _ _ _ => asg_of
/-- x = e -/
theorem s_set {i : Nat} {x : Str} {pos' : Pos} (hN : X.N.Nodup) (hi : X.N[i]? = some x) (hx : L2.Loc X.env.scope x) (he : PEm X W e m) (hs : swapsWith e (some (.Name x pos')) pos.line X.env = pure false := by rfl) (hf : X.fn x = true ∨ X.env.scope.names.lookup x = some .local := by first | exact .inl rfl | exact .inr rfl | assumption) :
    PSm X W (.Assign [.Name x pos'] e pos) (sAsg m (gN i)) := PS.imp (ps_set hN hi hx he hs hf) fun D σ H ⟨ρ, S, L, s, l, h⟩ =>
  TEm.then s l h fun ρ1 S1 x u H1 s1 l1 e1 v h => PostF.nxHere s1 (l1.set v) h
def rIp (X : Cx) (p : P2) : TIp := rP2 X p
/-- x op= e -/
theorem s_aug {i : Nat} {x : Str} {op : Operator} {p : P2} {pos' : Pos} (hN : X.N.Nodup) (hi : X.N[i]? = some x) (hx : L2.Loc X.env.scope x) (he : PEm X W e m) (ho : OpS X (inplaceOp op) p) (hf : X.fn x = true ∨ X.env.scope.names.lookup x = some .local := by first | exact .inl rfl | exact .inr rfl | assumption) :
    PSm X W (.AugAssign (.Name x pos') op e pos) (sAug i m p) := PS.imp (ps_aug (ti := rP2 X p) hN hi hx he ho hf) fun D σ H ⟨ρ, S, L, s, l, h⟩ => by
  have h' : PostF X.K X.mg W ρ S H (thenF L (getL L i S) fun x S0 => thenF L (m L S0) fun y S1 => thenF L (noExn (p x y S1)) fun z S2 => .nx (L.set i (some z)) S2) D := h
  unfold getL at h'
  split at h'
  · rename_i v q
    obtain ⟨u, hu, r⟩ := l.2 i v q
    refine ⟨u, hu, TEm.then s l h' fun ρ1 S1 y w H1 s1 l1 e1 v1 h => ⟨ρ1, S1, v, y, s1, VR.ext s e1 _ _ r, v1, ?_⟩⟩
    refine (PostF.quiet (rel := relV X.K) h).mono ?_
    rintro z H2 ⟨ρ2, S2, z2, _, e2, s2, v2, h⟩
    exact PostF.nxHere s2 ((l1.ext s1 e2).set v2) h
  · exact h'.elim
end
end Mp

/-! Mp4: instances, calls, loops, comprehensions, raise, try, defs. -/
namespace Mp
open PySem PySem.Spec L2
section
variable {K : PySem.W.Frag} {mg : Str → Option Value} {ρ : Rho} {S : Store} {H : Hp} {n : Nat}
theorem KR.lookup {f : Str} : ∀ {l : List (Str × Val)} {m : List (Str × V)}, KR K ρ n H l m → match l.lookup f, m.lookup f with
    | some v, some u => VR K ρ n H v u
    | none, none => True
    | _, _ => False
  | [], m, h => by
    have : m = [] := by have := h.1; simpa using this.symm
    subst this
    simp [List.lookup]
  | (g, v) :: l, m, h => by
    obtain ⟨h1, h2⟩ := h
    cases m with
    | nil => simp at h1
    | cons p m =>
      obtain ⟨g', u⟩ := p
      simp only [List.map_cons, List.cons.injEq] at h1
      obtain ⟨rfl, h1⟩ := h1
      simp only [List.map_cons] at h2
      obtain ⟨u0, r, e, h2, h3⟩ := h2.cons_of
      cases e
      have ih := KR.lookup (f := f) (l := l) (m := m) ⟨h1, h3⟩
      by_cases q : f = g
      · subst q
        simp only [List.lookup, beq_self_eq_true]
        exact h2
      · have : (f == g) = false := by simpa using q
        simp only [List.lookup, this]
        exact ih
theorem KR.set {f : Str} {v : Val} {u : V} (hv : VR K ρ n H v u) : ∀ {l : List (Str × Val)} {m : List (Str × V)}, KR K ρ n H l m → KR K ρ n H (setF f v l) (putF f u m)
  | [], m, h => by
    have : m = [] := by have := h.1; simpa using this.symm
    subst this
    exact ⟨rfl, by show VRs K ρ n H [v] [u]; exact VRs.cons hv VRs.nil⟩
  | (g, w) :: l, m, h => by
    obtain ⟨h1, h2⟩ := h
    cases m with
    | nil => simp at h1
    | cons p m =>
      obtain ⟨g', x⟩ := p
      simp only [List.map_cons, List.cons.injEq] at h1
      obtain ⟨rfl, h1⟩ := h1
      simp only [List.map_cons] at h2
      obtain ⟨u0, r, e, h2, h3⟩ := h2.cons_of
      cases e
      have ih := KR.set (f := f) hv (l := l) (m := m) ⟨h1, h3⟩
      by_cases q : g = f
      · have e1 : setF f v ((g, w) :: l) = (f, v) :: l := by simp [setF, q]
        have e2 : putF f u ((g, x) :: m) = (f, u) :: m := by simp [putF, q]
        rw [e1, e2]
        exact ⟨by simp [h1], by simp only [List.map_cons]; exact VRs.cons hv h3⟩
      · have e1 : setF f v ((g, w) :: l) = (g, w) :: setF f v l := by simp [setF, q]
        have e2 : putF f u ((g, x) :: m) = (g, x) :: putF f u m := by simp [putF, q]
        rw [e1, e2]
        exact ⟨by simp [ih.1], by simp only [List.map_cons]; exact VRs.cons h2 ih.2⟩
theorem KR.len {κ : Type} {l : List (κ × Val)} {m : List (κ × V)} (h : KR K ρ n H l m) : l.length = m.length := by
  have := congrArg List.length h.1
  simpa using this
/-- an instance's place -/
theorem insAt_of (s : SR K mg ρ S H) {x : Val} {u : V} {c : Str} {fs : List (Str × Val)} (r : VR K ρ S.length H x u) (h : insAt x S = some (c, fs)) :
    ∃ i C dx us, x = .ref i ∧ i < S.length ∧ S[i]? = some (.ins c fs) ∧ u = .ref (ρ i) ∧ mg c = some (.ref C) ∧ H (ρ i) = some (.ins C dx us) ∧ KR K ρ S.length H fs us := by
  cases x with
  | ref i =>
    simp only [VR] at r
    simp only [insAt] at h
    split at h
    · rename_i c' fs' q
      cases h
      obtain ⟨C, dx, us, h1, h2, h3⟩ := s.ob i _ q
      exact ⟨i, C, dx, us, rfl, r.1, q, r.2, h1, h2, h3⟩
    · cases h
  | _ => cases h
end
section
variable {X : Cx} {W : WX} {e a b c : Expr} {es : List Expr} {m ma mb mc : ME} {pos : Pos} {cn f : Str} {C : Addr}
/-- e.f -/
theorem e_fld (hm : X.mg cn = some (.ref C)) (hc : Cls X.K C) (hn : NoAttr X.K C f) (he : PEm X W e m) (hb : attributeBase e f X.env (eval e X.env) = eval e X.env := by rfl) : PEm X W (.Attribute e f pos) (m1 (getF cn f) m) := PE.imp (pe_fld he hb) fun σ H Q h => by
  obtain ⟨ρ, S, L, s, l, p⟩ := m1_of h
  refine ⟨ρ, S, L, s, l, p.mono fun u H1 ⟨ρ1, S1, x, s1, v, q⟩ => ?_⟩
  unfold getF at q
  split at q
  · rename_i c' fs qi
    obtain ⟨i, C', dx, us, rfl, hi, hs, rfl, g1, g2, g3⟩ := insAt_of s1 v qi
    by_cases hcn : c' = cn
    · subst hcn
      rw [bite_pos (by simp)] at q
      rw [hm] at g1
      cases g1
      have lk := g3.lookup (f := f)
      split at lk
      · rename_i v' u' e1 e2
        rw [e1] at q
        exact ⟨_, C, dx, us, u', rfl, g2, hc, hn, e2, Post.here (rel := relV X.K) s1 q lk⟩
      · rename_i e1 e2
        rw [e1] at q
        exact q.elim
      · exact lk.elim
    · rw [bite_neg (by simpa using hcn)] at q
      exact q.elim
  · exact q.elim
/-- o.f = e -/
theorem put_of {σ : L2.St} {ρ : Rho} {S : Store} {H : Hp} {x : Val} {u : V} {y : Val} {w : V} {L : Loc} {D : Ends} (hm : X.mg cn = some (.ref C)) (s : SR X.K X.mg ρ S H) (l : LR X.K ρ S.length H L σ) (r : VR X.K ρ S.length H x u) (ry : VR X.K ρ S.length H y w)
    (h : PostF X.K X.mg W ρ S H (thenF L (noExn (putFld cn f y x S)) fun _ S3 => .nx L S3) D) : ∃ a dx us, u = .ref a ∧ H a = some (.ins C dx us) ∧ us.length < 1000 ∧ D.nx σ (upd H a (.ins C dx (putF f w us))) := by
  cases x with
  | ref i =>
    simp only [putFld] at h
    split at h
    · rename_i c' fs q
      obtain ⟨C', dx, us, g1, g2, g3⟩ := s.ob i _ q
      have hi : i < S.length := (List.getElem?_eq_some_iff.mp q).1
      by_cases hcn : c' = cn
      · subst hcn
        rw [hm] at g1
        cases g1
        by_cases hl : fs.length < 1000
        · rw [bite_pos (by simp [hl])] at h
          simp only [VR] at r
          refine ⟨ρ i, dx, us, r.2, g2, by rw [← g3.len]; exact hl, ?_⟩
          have e : Ext ρ S H ρ (S.set i (.ins c' (setF f y fs))) (upd H (ρ i) (.ins C dx (putF f w us))) := Ext.put hi
          have s' : SR X.K X.mg ρ (S.set i (.ins c' (setF f y fs))) (upd H (ρ i) (.ins C dx (putF f w us))) := s.put hi ⟨C, dx, _, hm, upd_same, by
            have := KR.ext s e (g3.set (f := f) ry)
            simpa using this⟩
          exact h ρ _ σ e s' (l.ext s e)
        · rw [bite_neg (by simp [hl])] at h
          exact h.elim
      · rw [bite_neg (by simp [hcn])] at h
        exact h.elim
    · exact h.elim
  | _ => exact h.elim
theorem s_fld {o value : Expr} {mo mv : ME} {pos' : Pos} (hm : X.mg cn = some (.ref C)) (hc : Cls X.K C) (hn : NoAttr X.K C f) (ho : PEm X W o mo) (hv : PEm X W value mv) (hs : swapsWith value (some (.Attribute o f pos')) pos.line X.env = pure false := by rfl) :
    PSm X W (.Assign [.Attribute o f pos'] value pos) (Mp.sFld cn f mo mv) := PS.imp (ps_fld ho hv hs) fun D σ H ⟨ρ, S, L, s, l, h⟩ =>
  TEm.then s l h fun ρ1 S1 y w H1 s1 l1 e1 v1 h => TEm.then s1 l1 h fun ρ2 S2 x u H2 s2 l2 e2 v2 h => by
    obtain ⟨a, dx, us, rfl, g2, g3, g4⟩ := put_of hm s2 l2 v2 (VR.ext s1 e2 _ _ v1) h
    exact ⟨a, C, dx, us, rfl, g2, hc, hn, g3, g4⟩
theorem s_fldAug {o value : Expr} {mo mv : ME} {tpos : Pos} {op : Operator} {p : P2} (hm : X.mg cn = some (.ref C)) (hc : Cls X.K C) (hn : NoAttr X.K C f) (ho : PEm X W o mo) (hv : PEm X W value mv) (hop : OpS X (inplaceOp op) p) :
    PSm X W (.AugAssign (.Attribute o f tpos) op value pos) (Mp.sFldAug cn f mo mv p) := PS.imp (ps_fldaug ho hv (show InOp X op (rP2 X p) from fun pins s σ H x y u v Q I rx ry q => hop pins s σ H x y u v Q I rx ry q)) fun D σ H ⟨ρ, S, L, s, l, h⟩ =>
  TEm.then s l h fun ρ1 S1 x u H1 s1 l1 e1 v1 h => by
    have h := PostF.quiet (rel := relV X.K) (σ := σ) h
    unfold getF at h
    split at h
    · rename_i c' fs qi
      obtain ⟨i, C', dx, us, rfl, hi, hs, rfl, g1, g2, g3⟩ := insAt_of s1 v1 qi
      by_cases hcn : c' = cn
      · subst hcn
        rw [bite_pos (by simp)] at h
        rw [hm] at g1
        cases g1
        have lk := g3.lookup (f := f)
        split at lk
        · rename_i v' u' q1 q2
          rw [q1] at h
          obtain ⟨ρ2, S2, y2, e2, e2', s2, v2, h⟩ := Post.here (rel := relV X.K) s1 h lk
          cases e2
          have l2 := l1.ext s1 e2'
          refine ⟨_, C, dx, us, u', rfl, g2, hc, hn, q2, TEm.then s2 l2 h fun ρ3 S3 z w H3 s3 l3 e3 v3 h => ?_⟩
          refine ⟨ρ3, S3, v', z, s3, VR.ext s2 e3 _ _ v2, v3, (PostF.quiet (rel := relV X.K) h).mono ?_⟩
          rintro t H4 ⟨ρ4, S4, t4, _, e4, s4, v4, h⟩
          have r4 := VR.ext s3 e4 _ _ (VR.ext s2 e3 _ _ (VR.ext s1 e2' _ _ v1))
          obtain ⟨a, dx', us', ea, g2', g3', g4'⟩ := put_of (σ := σ) hm s4 (l3.ext s3 e4) r4 v4 h
          cases ea
          exact ⟨dx', us', g2', g3', g4'⟩
        · rename_i q1 q2
          rw [q1] at h
          exact h.elim
        · exact lk.elim
      · rw [bite_neg (by simpa using hcn)] at h
        exact h.elim
    · exact h.elim
/-! ### defs and their calls -/
/-- the promise of a def that does what f says -/
def spM (K : PySem.W.Frag) (mg : Str → Option Value) (np : Nat) (f : Fn) : Sp := fun us H Q E => ∃ ρ S vs, vs.length = np ∧ SR K mg ρ S H ∧ VRs K ρ S.length H vs us ∧ Post K mg (relV K) (fun cls d _ H' => E cls d H') ρ S H [] (f vs S) Q
theorem Post.wish {α β : Type} {K : PySem.W.Frag} {mg : Str → Option Value} {rel : Rel α β} {ρ : Rho} {S : Store} {H : Hp} {σ σ' : L2.St} {W W' : WX} {r : R α} {Q : β → Hp → Prop} (h : Post K mg rel W ρ S H σ r Q) (w : ∀ cls d H', W cls d σ H' → W' cls d σ' H') : Post K mg rel W' ρ S H σ' r Q := by
  cases r with
  | ok a S' => exact h
  | exn x S' => exact fun ρ' H' c d e s q => w _ _ _ (h ρ' H' c d e s q)
  | bad => exact h
/-- what is known of a def at a name of the module -/
structure DefAt (P : Program) (w : World) (K : PySem.W.Frag) (mg : Str → Option Value) (base : Heap) (k : Nat) (x : Str) (np : Nat) (f : Fn) : Prop where
  ex : ∃ fa fd ps, ps.length = np ∧ mg x = some (.ref fa) ∧ PySem.W.keepIn K (.ref fa) = true ∧ Binds K fd ps [] ∧ FnOk P w K mg base (L2.CX P w) k fa fd ps (spM K mg np f)
theorem fn_len {f : Fn} {np : Nat} (hf : ∀ vs S, vs.length ≠ np → f vs S = .bad) {K : PySem.W.Frag} {mg : Str → Option Value} {ρ : Rho} {S : Store} {H : Hp} {σ : L2.St} {W : WX} {vs : List Val} {Q : VK} (h : Post K mg (relV K) W ρ S H σ (f vs S) Q) : vs.length = np := by
  by_cases z : vs.length = np
  · exact z
  · rw [hf vs S z] at h
    exact h.elim
theorem fDef_len {n np : Nat} {b : MS} : ∀ vs S, vs.length ≠ np → fDef n np b vs S = .bad := fun vs S h => by
  unfold fDef
  rw [bite_neg (by simpa using h)]
theorem call_of {σ : L2.St} {H : Hp} {Q : VK} {a : MA} {g : Fn} {np : Nat} (hg : ∀ vs S, vs.length ≠ np → g vs S = .bad) (h : TEm X.K X.mg W (mA g a) σ H Q) : tCallS (spM X.K X.mg np g) (WE W) (TAm X.K X.mg W a) σ H Q := by
  obtain ⟨ρ, S, L, s, l, h⟩ := h
  exact TAm.bind s l h fun ρ1 S1 vs us H1 s1 l1 e v q => ⟨ρ1, S1, vs, fn_len hg q, s1, v, q.wish fun _ _ _ z => z⟩
theorem e_call {x : Str} {k np : Nat} {g : Fn} {a : MA} {p : Pos} (D : DefAt X.prog X.w X.K X.mg X.base k x np g) (hl : ∀ vs S, vs.length ≠ np → g vs S = .bad) (tk : Takes X W) (hr : Room k X.A) (hg : Gl X x) (ha : PAm X W (e :: es) a) (hdb : (x == ("__debug__" : Str)) = false := by decide)
    (he : starEach (e :: es) X.env = (false, eval e X.env) :: starEach es X.env := by rfl) (hpl : (backTo pos (starEach es X.env)).any (·.1) = false := by rfl) : PEm X W (.Call (.Name x p) (e :: es) [] pos) (mA g a) := by
  obtain ⟨fa, fd, ps, hp, hm, kp, hb, G⟩ := D.ex
  exact PE.imp (pe_callS G hr hg hm kp hb (fun σ => passAt tk σ) ha hdb he hpl) fun σ H Q h => call_of hl h
theorem e_call0 {x : Str} {k : Nat} {g : Fn} {p : Pos} (D : DefAt X.prog X.w X.K X.mg X.base k x 0 g) (tk : Takes X W) (hr : Room k X.A) (hg : Gl X x) (hdb : (x == ("__debug__" : Str)) = false := by decide) : PEm X W (.Call (.Name x p) [] [] pos) (mA g aNil) := by
  obtain ⟨fa, fd, ps, hp, hm, kp, hb, G⟩ := D.ex
  refine ⟨fun pins s σ H Q I h => ?_⟩
  obtain ⟨ρ, S, L, sr, l, h⟩ := h
  refine wpAny_Call_Name_kw (ld_glob I hg hm ?_ hdb)
  exact PySem.W.callWith_K0 I.kIn kp (run_fnS (us := []) (vs := []) (E := fun σ => WE W σ) G hr hb (passAt tk σ) I .nil ⟨ρ, S, [], rfl, sr, VRs.nil, h.wish fun _ _ _ z => z⟩)
/-- what is known of a method -/
structure MethAt (P : Program) (w : World) (K : PySem.W.Frag) (mg : Str → Option Value) (base : Heap) (k : Nat) (cn m : Str) (np : Nat) (f : Fn) : Prop where
  ex : ∃ C fa fd ps, ps.length = np ∧ mg cn = some (.ref C) ∧ Cls K C ∧ Meth K C m fa ∧ Binds K fd ps [] ∧ FnOk P w K mg base (L2.CX P w) k fa fd ps (spM K mg np f)
theorem meth_of {σ : L2.St} {ρ : Rho} {S : Store} {H : Hp} {x : Val} {u : V} {mn : Str} {C : Addr} {a : MA} {L : Loc} {Q : VK} {g : Fn} (hm : X.mg cn = some (.ref C)) (s : SR X.K X.mg ρ S H) (l : LR X.K ρ S.length H L σ) (r : VR X.K ρ S.length H x u)
    (h : Post X.K X.mg (relV X.K) W ρ S H σ (match insAt x S with
      | some (c', fs) => bite (decide (c' = cn) && (fs.lookup mn).isNone) ((a L S).bind fun vs S2 => g (x :: vs) S2) .bad
      | none => .bad) Q) : ∃ i dx us, x = .ref i ∧ u = .ref (ρ i) ∧ H (ρ i) = some (.ins C dx us) ∧ us.lookup mn = none ∧ Post X.K X.mg (relV X.K) W ρ S H σ ((a L S).bind fun vs S2 => g (x :: vs) S2) Q := by
  split at h
  · rename_i c' fs qi
    obtain ⟨i, C', dx, us, rfl, hi, hs, rfl, g1, g2, g3⟩ := insAt_of s r qi
    by_cases hcn : c' = cn
    · subst hcn
      rw [hm] at g1
      cases g1
      have lk := g3.lookup (f := mn)
      split at lk
      · rename_i v' u' q1 q2
        rw [bite_neg (by simp [q1])] at h
        exact h.elim
      · rename_i q1 q2
        rw [bite_pos (by simp [q1])] at h
        exact ⟨i, dx, us, rfl, rfl, g2, q2, h⟩
      · exact lk.elim
    · rw [bite_neg (by simp [hcn])] at h
      exact h.elim
  · exact h.elim
theorem e_meth {o : Expr} {mo : ME} {mn : Str} {k np : Nat} {g : Fn} {a : MA} {apos : Pos} {pl : Sem Bool} (D : MethAt X.prog X.w X.K X.mg X.base k cn mn np g) (hl : ∀ vs S, vs.length ≠ np → g vs S = .bad) (tk : Takes X W) (hr : Room k X.A) (ho : PEm X W o mo) (ha : PAm X W (e :: es) a)
    (hst : starEach (e :: es) X.env = (false, eval e X.env) :: starEach es X.env := by rfl) (hpl : (backTo pos (starEach es X.env)).any (·.1) = false := by rfl)
    (ht : eval (.Call (.Attribute o mn apos) (e :: es) [] pos) X.env = (do
      let ov ← eval o X.env
      standAt apos.atName
      let (f, first) ← holding [ov] (getMethod ov mn pl)
      callWith pos f first (backTo pos (starEach (e :: es) X.env)) (backToKw pos (keywordEach [] X.env))) := by rfl) : PEm X W (.Call (.Attribute o mn apos) (e :: es) [] pos) (mMeth cn mn g mo a) := by
  obtain ⟨C, fa, fd, ps, hp, hm, hc, hme, hb, G⟩ := D.ex
  refine ⟨fun pins s σ H Q I h => ?_⟩
  obtain ⟨ρ, S, L, sr, l, h⟩ := h
  have h := Post.bind (rel1 := relV X.K) h
  refine PySem.W.methodCall_KW (pl := pl) (thn (ho.run pins s σ H _ I ⟨ρ, S, L, sr, l, h⟩) fun u s1 hh => ?_) ht
  obtain ⟨x, H1, I1, rx, ρ1, S1, xv, _, e1, s1r, v1, h⟩ := hh
  have l1 := l.ext sr e1
  obtain ⟨i, dx, us, rfl, rfl, g2, g3, h⟩ := meth_of (W := W) hm s1r l1 v1 h
  obtain rfl : u = Value.ref (ρ1 i) := rx
  refine getmeth_ok I1 g2 hc hme g3 ?_
  have h := Post.bind (rel1 := relVs X.K) h
  refine PySem.W.callWith_K (first := [.ref (ρ1 i)]) (h₀ := X.base) I.ok.mod.kin hme.kp (thn (ha.run pos pins s1 σ H1 _ I1 ⟨ρ1, S1, L, s1r, l1, h⟩) fun us2 s2 hh => ?_) hst hpl
  obtain ⟨vs, H2, I2, r, ρ2, S2, xs, _, e2, s2r, v2, h⟩ := hh
  refine ⟨I2.kIn, ?_⟩
  have hx := VR.ext s1r e2 _ _ v1
  exact run_fnS (us := .ref (ρ1 i) :: us2) (vs := .ref (ρ1 i) :: vs) (E := fun σ => WE W σ) G hr hb (passAt tk σ) I2 (.cons rfl r) ⟨ρ2, S2, _, fn_len hl h, s2r, VRs.cons hx v2, h.wish fun _ _ _ z => z⟩
theorem e_meth0 {o : Expr} {mo : ME} {mn : Str} {k : Nat} {g : Fn} {apos : Pos} {pl : Sem Bool} (D : MethAt X.prog X.w X.K X.mg X.base k cn mn 1 g) (hl : ∀ vs S, vs.length ≠ 1 → g vs S = .bad) (tk : Takes X W) (hr : Room k X.A) (ho : PEm X W o mo)
    (ht : eval (.Call (.Attribute o mn apos) [] [] pos) X.env = (do
      let ov ← eval o X.env
      standAt apos.atName
      let (f, first) ← holding [ov] (getMethod ov mn pl)
      callWith pos f first (backTo pos (starEach [] X.env)) (backToKw pos (keywordEach [] X.env))) := by rfl) : PEm X W (.Call (.Attribute o mn apos) [] [] pos) (mMeth cn mn g mo aNil) := by
  obtain ⟨C, fa, fd, ps, hp, hm, hc, hme, hb, G⟩ := D.ex
  refine ⟨fun pins s σ H Q I h => ?_⟩
  obtain ⟨ρ, S, L, sr, l, h⟩ := h
  have h := Post.bind (rel1 := relV X.K) h
  refine PySem.W.methodCall_KW (pl := pl) (thn (ho.run pins s σ H _ I ⟨ρ, S, L, sr, l, h⟩) fun u s1 hh => ?_) ht
  obtain ⟨x, H1, I1, rx, ρ1, S1, xv, _, e1, s1r, v1, h⟩ := hh
  have l1 := l.ext sr e1
  obtain ⟨i, dx, us, rfl, rfl, g2, g3, h⟩ := meth_of (W := W) hm s1r l1 v1 h
  obtain rfl : u = Value.ref (ρ1 i) := rx
  refine getmeth_ok I1 g2 hc hme g3 ?_
  exact PySem.W.callWith_K0 (first := [.ref (ρ1 i)]) I1.kIn hme.kp (run_fnS (us := [.ref (ρ1 i)]) (vs := [.ref (ρ1 i)]) (E := fun σ => WE W σ) G hr hb (passAt tk σ) I1 (.cons rfl .nil) ⟨ρ1, S1, _, rfl, s1r, VRs.cons v1 VRs.nil, h.wish fun _ _ _ z => z⟩)
/-- what is known of a class with an __init__ -/
structure MakeAt (P : Program) (w : World) (K : PySem.W.Frag) (mg : Str → Option Value) (base : Heap) (k : Nat) (cn : Str) (np : Nat) (f : Fn) : Prop where
  ex : ∃ C fa fd ps, ps.length = np + 1 ∧ mg cn = some (.ref C) ∧ Mk K C fa ∧ Binds K fd ps [] ∧ FnOk P w K mg base (L2.CX P w) k fa fd ps (spM K mg (np + 1) f)
/-- like run_make, what is raised wished for at the slots -/
theorem run_makeS {CX : CXT} {k : Nat} {f : Addr} {fd : FuncData} {ps : List Str} {sp : Sp} {E : L2.St → XK} {pins : List (Addr × Obj)} {σ : L2.St} {H : Hp} {s : Shared} {Q : VK} {us : List Value} {vs : List V} (M : Mk X.K C f) (F : FnOk X.prog X.w X.K X.mg X.base CX k f fd ps sp) (hr : Room (k + 1) X.A) (hb : Binds X.K fd ps [])
    (hx : PassesAt CX X σ (E σ)) (I : Inv X pins σ H s) (r : Vals vs us)
    (h : ∀ x dx, H x = none → H dx = none → dx ≠ x → sp (.ref x :: vs) (upd (upd H dx (.own x)) x (.ins C dx [])) (fun v H2 => v = .non ∧ Q (.ref x) H2) (E σ)) :
    wpAny (model X.prog X.w) X.A (call (.ref C) us) (EP X pins σ Q) X.xe s := by
  have hq := h (s.heap.objs.size + 1) s.heap.objs.size (I.hok.fresh (Nat.le_succ _)) (I.hok.fresh (Nat.le_refl _)) (Nat.ne_of_lt (Nat.lt_succ_self _))
  have I2 := Inv.made (C := C) I
  have r2 : Vals (V.ref (s.heap.objs.size + 1) :: vs) (Value.ref (s.heap.objs.size + 1) :: us) := .cons rfl r
  have hl : (Value.ref (s.heap.objs.size + 1) :: us ++ []).length = ps.length := by
    have e := r2.length
    rw [F.len _ _ _ _ hq] at e
    rw [List.append_nil]
    exact e.symm
  have hb' := hb _ (Value.ref (s.heap.objs.size + 1) :: us) I2.kIn hl
  rw [List.append_nil] at hb'
  refine wpAny_call (make_map (f := f) I.kIn M.makes M.init (beq_iff_eq.mp M.fn) (codeAny_mono (F.run _ X.stack _ _ ⟨Value.ref (s.heap.objs.size + 1) :: us, []⟩ (Value.ref (s.heap.objs.size + 1) :: us) _ _ (E σ) (hr.make C us [])
    (I2.env0.make C us []) hb' r2 hq) fun r s' hq' => ?_))
  cases r with
  | error e => exact hx pins _ _ e s' I2 hq'
  | ok fl =>
    cases fl with
    | ret u =>
      obtain ⟨v, H', I3, rv, ev, q3⟩ := I2.after hq'
      subst ev
      exact ⟨rv, ⟨V.ref (s.heap.objs.size + 1), H', I3, rfl, q3⟩⟩
    | next => exact False.elim hq'
    | brk => exact False.elim hq'
    | cont => exact False.elim hq'
theorem make_of {σ : L2.St} {ρ : Rho} {S : Store} {H : Hp} {vs : List Val} {us : List V} {Q : VK} {g : Fn} {np : Nat} (hm : X.mg cn = some (.ref C)) (hl : ∀ vs S, vs.length ≠ np + 1 → g vs S = .bad) (s : SR X.K X.mg ρ S H) (v : VRs X.K ρ S.length H vs us)
    (h : Post X.K X.mg (relV X.K) W ρ S H σ (fMake cn g vs S) Q) : ∀ x dx, H x = none → H dx = none → dx ≠ x → spM X.K X.mg (np + 1) g (.ref x :: us) (upd (upd H dx (.own x)) x (.ins C dx [])) (fun v H2 => v = .non ∧ Q (.ref x) H2) (fun cls d H' => W cls d σ H') := by
  intro x dx hx hdx hne
  have sd : SR X.K X.mg ρ S (upd H dx (.own x)) := s.side hdx
  have ed : Ext ρ S H ρ S (upd H dx (.own x)) := Ext.side hdx
  have hx' : upd H dx (.own x) x = none := by rw [upd_ne (Ne.symm hne)]; exact hx
  have s1 : SR X.K X.mg (newRho ρ S.length x) (S ++ [.ins cn []]) (upd (upd H dx (.own x)) x (.ins C dx [])) := sd.new hx' ⟨C, dx, [], hm, upd_same, rfl, by simp [VRs]⟩
  have e1 : Ext ρ S (upd H dx (.own x)) (newRho ρ S.length x) (S ++ [.ins cn []]) (upd (upd H dx (.own x)) x (.ins C dx [])) := Ext.new hx'
  have e2 := Ext.trans sd ed e1
  have hn : (S ++ [Ob.ins cn []]).length = S.length + 1 := by simp
  have h2 : Post X.K X.mg (relV X.K) W (newRho ρ S.length x) (S ++ [.ins cn []]) (upd (upd H dx (.own x)) x (.ins C dx [])) σ (fMake cn g vs S) Q := h.step s1 e2
  unfold fMake at h2
  have h3 := Post.bind (rel1 := relV X.K) h2
  have v0 : VR X.K (newRho ρ S.length x) (S ++ [Ob.ins cn []]).length (upd (upd H dx (.own x)) x (.ins C dx [])) (.ref S.length) (.ref x) := by
    simp only [VR, newRho_same]; exact ⟨by simp, trivial⟩
  refine ⟨_, _, _, fn_len hl h3, s1, VRs.cons v0 (VRs.ext s e2 _ _ v), (h3.wish fun _ _ _ z => z).mono ?_⟩
  rintro w H2 ⟨ρ2, S2, a, _, e3, s2, v2, h4⟩
  cases a with
  | non =>
    refine ⟨by simpa [relV, VR] using v2, ?_⟩
    refine Post.here (rel := relV X.K) s2 h4 ?_
    exact VR.ext s1 e3 _ _ v0
  | _ => exact h4.elim
theorem e_make {k np : Nat} {g : Fn} {a : MA} {p : Pos} (D : MakeAt X.prog X.w X.K X.mg X.base k cn np g) (hl : ∀ vs S, vs.length ≠ np + 1 → g vs S = .bad) (tk : Takes X W) (hr : Room (k + 1) X.A) (hg : Gl X cn) (ha : PAm X W (e :: es) a) (hdb : (cn == ("__debug__" : Str)) = false := by decide)
    (he : starEach (e :: es) X.env = (false, eval e X.env) :: starEach es X.env := by rfl) (hpl : (backTo pos (starEach es X.env)).any (·.1) = false := by rfl) : PEm X W (.Call (.Name cn p) (e :: es) [] pos) (mA (fMake cn g) a) := by
  obtain ⟨C, fa, fd, ps, hp, hm, M, hb, G⟩ := D.ex
  refine ⟨fun pins s σ H Q I h => ?_⟩
  obtain ⟨ρ, S, L, sr, l, h⟩ := h
  refine wpAny_Call_Name_kw (ld_glob I hg hm ?_ hdb)
  have h := Post.bind (rel1 := relVs X.K) h
  refine PySem.W.callWith_K (h₀ := X.base) I.ok.mod.kin M.kp (thn (ha.run pos pins s σ H _ I ⟨ρ, S, L, sr, l, h⟩) fun us s1 hh => ?_) he hpl
  obtain ⟨vs, H1, I1, r, ρ1, S1, xs, _, e1, s1r, v1, h⟩ := hh
  exact ⟨I1.kIn, run_makeS (E := fun σ => WE W σ) M G hr hb (passAt tk σ) I1 r (make_of hm hl s1r v1 h)⟩
theorem e_make0 {k : Nat} {g : Fn} {p : Pos} (D : MakeAt X.prog X.w X.K X.mg X.base k cn 0 g) (hl : ∀ vs S, vs.length ≠ 1 → g vs S = .bad) (tk : Takes X W) (hr : Room (k + 1) X.A) (hg : Gl X cn) (hdb : (cn == ("__debug__" : Str)) = false := by decide) : PEm X W (.Call (.Name cn p) [] [] pos) (mA (fMake cn g) aNil) := by
  obtain ⟨C, fa, fd, ps, hp, hm, M, hb, G⟩ := D.ex
  refine ⟨fun pins s σ H Q I h => ?_⟩
  obtain ⟨ρ, S, L, sr, l, h⟩ := h
  refine wpAny_Call_Name_kw (ld_glob I hg hm ?_ hdb)
  exact PySem.W.callWith_K0 I.kIn M.kp (run_makeS (E := fun σ => WE W σ) (us := []) (vs := []) M G hr hb (passAt tk σ) I .nil (make_of (vs := []) hm hl sr VRs.nil h))
/-- a built-in by its name; a built-in class -/
theorem e_blt {x : Str} {id : String} {g : Fn} {a : MA} {p : Pos} (hc : CallR X (.builtin id) (rF X g)) (hg : Gl X x) (hm : X.mg x = none) (hv : bootBuiltins x = some (.builtin id)) (ha : PAm X W (e :: es) a) (hn : x ≠ "__name__" := by decide) (hdb : (x == ("__debug__" : Str)) = false := by decide)
    (he : starEach (e :: es) X.env = (false, eval e X.env) :: starEach es X.env := by rfl) (hpl : (backTo pos (starEach es X.env)).any (·.1) = false := by rfl) : PEm X W (.Call (.Name x p) (e :: es) [] pos) (mB g a) := PE.imp (pe_callB hc hg hm hv ha hn hdb he hpl) fun _ _ _ => mB_of
theorem e_ty {x : Str} {T : String} {g : Fn} {a : MA} {p : Pos} (hc : CallR X (.type T) (rF X g)) (hg : Gl X x) (hm : X.mg x = none) (hv : bootBuiltins x = some (.type T)) (ha : PAm X W (e :: es) a) (hn : x ≠ "__name__" := by decide) (hdb : (x == ("__debug__" : Str)) = false := by decide)
    (he : starEach (e :: es) X.env = (false, eval e X.env) :: starEach es X.env := by rfl) (hpl : (backTo pos (starEach es X.env)).any (·.1) = false := by rfl) : PEm X W (.Call (.Name x p) (e :: es) [] pos) (mB g a) := PE.imp (pe_callTy hc hg hm hv ha hn hdb he hpl) fun _ _ _ => mB_of
end
end Mp

/-! Mp5: loops, comprehensions, raise, try, defs. -/
namespace Mp
open PySem PySem.Spec L2
/-- what is walked: the layer's turns are the items, one by one, as long as what is to be kept is kept -/
def ItR (K : PySem.W.Frag) (mg : Str → Option Value) : Rel It L2.It := fun ρ0 S0 H0 it J => ∀ ρ S H, Ext ρ0 S0 H0 ρ S H → SR K mg ρ S H → it.keep S → ∀ i : Nat,
  (∀ x, it.items[i]? = some x → J.go i H ∧ ∀ u H', J.yld i H u H' → Ext ρ S H ρ S H' ∧ SR K mg ρ S H' ∧ VR K ρ S.length H' x u) ∧ (it.items[i]? = none → J.stop i H)
def TIm (K : PySem.W.Frag) (mg : Str → Option Value) (W : WX) (mi : MI) : TI := fun σ H R => ∃ ρ S L, SR K mg ρ S H ∧ LR K ρ S.length H L σ ∧ Post K mg (ItR K mg) W ρ S H σ (mi L S) R
abbrev PIm (X : Cx) (W : WX) (tg e : Expr) (mi : MI) : Prop := PI X tg e (TIm X.K X.mg W mi)
theorem PI.imp {X : Cx} {tg e : Expr} {t t' : TI} (h : PI X tg e t) (i : ∀ σ H R, t' σ H R → t σ H R) : PI X tg e t' := ⟨fun pins s σ H R I q => h.run pins s σ H R I (i σ H R q)⟩
section
variable {X : Cx} {W : WX} {e a b c : Expr} {es : List Expr} {m ma mb mc : ME} {pos : Pos} {st : Stmt} {sts rest : List Stmt} {k k1 k2 : MS}
theorem Ext.keepEq {ρ ρ' : Rho} {S S' : Store} {H H' : Hp} (e : Ext ρ S H ρ' S' H') {i : Nat} (hi : i < S.length) : ρ' i = ρ i := e.rho i hi
theorem SR.lst {K : PySem.W.Frag} {mg : Str → Option Value} {ρ : Rho} {S : Store} {H : Hp} (s : SR K mg ρ S H) {i : Nat} {xs : List Val} (q : S[i]? = some (.lst xs)) : ∃ us, H (ρ i) = some (.lst us) ∧ VRs K ρ S.length H xs us := s.ob i _ q
theorem SqL.inj_of {K : PySem.W.Frag} {X : Cx} {pins : List (Addr × Obj)} {σ : L2.St} {H : Hp} {s : Shared} : True := trivial
/-- the walk by values: iter(v) -/
theorem i_val {tg : Expr} (hl : PEm X W e m) : PIm X W tg e (iV m) := by
  refine ⟨fun pins s σ H R I h => ?_⟩
  obtain ⟨ρ, S, L, sr, l, h⟩ := h
  refine thn (hl.run pins s σ H _ I ⟨ρ, S, L, sr, l, Post.bind (rel1 := relV X.K) h⟩) fun v s1 hh => ?_
  obtain ⟨x, H1, I1, r1, ρ1, S1, xv, _, e1, s1r, v1, h⟩ := hh
  have one : ∀ {fp : Addr}, fp = s1.heap.objs.size → FpOk X pins H1 fp := fun {fp} z => by
    subst z
    exact I1.fpOk (Nat.le_refl _) (I1.hok.fresh (Nat.le_refl _))
  have onlist : ∀ {ad : Addr} {us : List V} {xs : List Val} {kp : Store → Prop}, SqL X.K H1 ad us → r1 = r1 → x = .ref ad → 
      (∀ ρ S H, Ext ρ1 S1 H1 ρ S H → SR X.K X.mg ρ S H → kp S → ∃ us, SqL X.K H ad us ∧ VRs X.K ρ S.length H xs us) → Post X.K X.mg (ItR X.K X.mg) W ρ1 S1 H1 σ (.ok ⟨xs, kp⟩ S1) R → wpAny (model X.prog X.w) X.A (pyIter v) (PIE X pins σ tg R) X.xe s1 := by
    intro ad us xs kp hq _ ex hk hp
    subst ex
    cases r1
    obtain ⟨its, rv, p, hz⟩ := I1.list hq
    refine wpAny_pyIter_list p.isList ?_
    have q := Post.here (u := Itl X.K ad) s1r hp (fun ρ S H e s kpS i => by
      obtain ⟨us', hs', vs'⟩ := hk ρ S H e s kpS
      refine ⟨fun x hx => ?_, fun hx => ⟨us', hs', ?_⟩⟩
      · obtain ⟨u, hu, ru⟩ := vs'.get hx
        refine ⟨⟨us', u, hs', hu⟩, fun u2 H2 y => ?_⟩
        obtain ⟨eH, y⟩ := y
        subst eH
        have := y us' hs'
        rw [hu] at this
        cases this
        exact ⟨Ext.refl _ _ _, s, ru⟩
      · have := List.getElem?_eq_none_iff.mp hx
        rw [← vs'.length]
        exact this)
    refine ⟨s1.heap.objs.size, [s1.heap.objs.size], _, _, H1, rfl, I1.kept (t' := s1.toks) fun b o e => Heap.get?_push_of_some _ e, turn_list ad _, ⟨_, Heap.get?_push_size _ rfl, rfl, rfl⟩, fun b hb => one (by simpa using hb), q⟩
  cases xv with
  | ref i =>
    simp only [itOf] at h
    split at h
    · rename_i xs q
      obtain ⟨us, g1, g2⟩ := s1r.lst q
      have hi : i < S1.length := (List.getElem?_eq_some_iff.mp q).1
      have v1' : i < S1.length ∧ x = .ref (ρ1 i) := by simpa [relV, VR] using v1
      refine onlist (SqL.of g1) rfl v1'.2 (fun ρ S H e s kpS => ?_) h
      obtain ⟨us', g1', g2'⟩ := s.lst kpS
      rw [e.rho i hi] at g1'
      exact ⟨us', SqL.of g1', g2'⟩
    · exact h.elim
  | fl ns =>
    have v1' : ∃ a, x = .ref a ∧ FzL X.K H1 a (ns.map V.int) := by simpa [relV, VR] using v1
    obtain ⟨ad, ex, hf⟩ := v1'
    exact onlist hf.seq rfl ex (fun ρ S H e s _ => ⟨_, (e.fz s1r hf).seq, VRs.of_ints ns⟩) h
  | tup vs =>
    have v1' : ∃ a us, x = .ref a ∧ SqT X.K H1 a us ∧ VRs X.K ρ1 S1.length H1 vs us := by simpa [relV, VR] using v1
    obtain ⟨ad, us, ex, hq, hvs⟩ := v1'
    subst ex
    cases r1
    obtain ⟨its, rv, p, hz⟩ := I1.tuple hq
    refine wpAny_pyIter_tuple (show s1.heap.IsTuple ad its.toArray from p) ?_
    have q := Post.here (u := Itt X.K ad) s1r h (fun ρ S H e s _ i => by
      have hs' := e.tup s1r hq
      have vs' := VRs.ext s1r e _ _ hvs
      refine ⟨fun x hx => ?_, fun hx => ⟨us, hs', ?_⟩⟩
      · obtain ⟨u, hu, ru⟩ := vs'.get hx
        refine ⟨⟨us, u, hs', hu⟩, fun u2 H2 y => ?_⟩
        obtain ⟨eH, y⟩ := y
        subst eH
        have := y us hs'
        rw [hu] at this
        cases this
        exact ⟨Ext.refl _ _ _, s, ru⟩
      · have := List.getElem?_eq_none_iff.mp hx
        rw [← vs'.length]
        exact this)
    exact ⟨s1.heap.objs.size, [s1.heap.objs.size], _, _, H1, rfl, I1.kept (t' := s1.toks) fun b o e => Heap.get?_push_of_some _ e, turn_tuple ad _, ⟨_, Heap.get?_push_size _ rfl, rfl, rfl⟩, fun b hb => one (by simpa using hb), q⟩
  | str z =>
    have v1' : x = .str z := by simpa [relV, VR] using v1
    subst v1'
    obtain ⟨t, rfl⟩ := r1
    have q := Post.here (u := Its z) s1r h (fun ρ S H e s _ i => by
      refine ⟨fun x hx => ?_, fun hx => ?_⟩
      · rw [List.getElem?_map] at hx
        cases hc : z.cps.toList[i]? with
        | none => rw [hc] at hx; cases hx
        | some cc =>
          rw [hc] at hx
          cases hx
          have hlt := (List.getElem?_eq_some_iff.mp hc).1
          refine ⟨(by show i < z.cps.size; simpa using hlt), fun u2 H2 y => ?_⟩
          obtain ⟨eH, c', hc', eu⟩ := y
          subst eH
          have e3 : z.cps[i]? = some cc := by rw [← Array.getElem?_toList]; exact hc
          rw [e3] at hc'
          cases hc'
          subst eu
          exact ⟨Ext.refl _ _ _, s, by simp [VR]⟩
      · have := List.getElem?_eq_none_iff.mp hx
        show z.cps.size ≤ i
        simpa using this)
    cases ha : z.cps.all (· < 128)
    · exact wpAny_pyIter_wide ha (pi_one (tk := s1.toks) I1 _ (turn_str _ z t "str_iterator" (.inr rfl)) ⟨_, Heap.get?_push_size _ rfl, rfl, rfl⟩ q)
    · exact wpAny_pyIter_ascii ha (pi_one (tk := s1.toks) I1 _ (turn_str _ z t "str_ascii_iterator" (.inl rfl)) ⟨_, Heap.get?_push_size _ rfl, rfl, rfl⟩ q)
  | _ => exact h.elim
/-! ### for, while -/
theorem for_of {mi : MI} {g : MG} {D : Ends} {σ : L2.St} {H : Hp} (h : TSm X.K X.mg W (Mp.sFor mi g k) D σ H) : tFor (TIm X.K X.mg W mi) (TGm X.K X.mg anyStep g) (TSm X.K X.mg W k) D σ H := by
  obtain ⟨ρ, S, L, s, l, h⟩ := h
  refine ⟨ρ, S, L, s, l, (PostF.then (rel := ItR X.K X.mg) s l h).mono ?_⟩
  rintro J H1 ⟨ρ1, S1, it, _, e1, s1, hJ, h⟩
  have l1 := l.ext s e1
  refine ⟨fun i n σ' H' => i + n = it.items.length ∧ ∃ ρ2 S2 L2, Ext ρ1 S1 H1 ρ2 S2 H' ∧ SR X.K X.mg ρ2 S2 H' ∧ LR X.K ρ2 S2.length H' L2 σ' ∧ PostF X.K X.mg W ρ2 S2 H' (forLoop it.keep g k (it.items.drop i) L2 S2) D,
    ⟨it.items.length, by simp, ρ1, S1, L, Ext.refl _ _ _, s1, l1, by simpa using h⟩, ?_⟩
  rintro i n σ2 H2 ⟨hn, ρ2, S2, L2, e2, s2, l2, h⟩
  cases hd : it.items.drop i with
  | nil =>
    rw [hd] at h
    unfold forLoop at h
    by_cases kp : it.keep S2
    · rw [gate_pos kp] at h
      have hx : it.items[i]? = none := by
        have := congrArg List.length hd
        simp at this
        simp
        omega
      exact .inl ⟨(hJ ρ2 S2 H2 e2 s2 kp i).2 hx, PostF.nxHere s2 l2 h⟩
    · rw [gate_neg kp] at h
      exact h.elim
  | cons x xs =>
    rw [hd] at h
    unfold forLoop at h
    have hx : it.items[i]? = some x := by
      have : (it.items.drop i)[0]? = some x := by rw [hd]; rfl
      simpa using this
    have hlt := (List.getElem?_eq_some_iff.mp hx).1
    have hxs : it.items.drop (i + 1) = xs := by
      have : (it.items.drop i).drop 1 = xs := by rw [hd]; rfl
      rw [List.drop_drop] at this
      exact this
    by_cases kp : it.keep S2
    · rw [gate_pos kp] at h
      obtain ⟨go, yl⟩ := (hJ ρ2 S2 H2 e2 s2 kp i).1 x hx
      refine .inr ⟨go, fun σ' H' => i + 1 + (n - 1) = it.items.length ∧ ∃ ρ3 S3 L3, Ext ρ1 S1 H1 ρ3 S3 H' ∧ SR X.K X.mg ρ3 S3 H' ∧ LR X.K ρ3 S3.length H' L3 σ' ∧ PostF X.K X.mg W ρ3 S3 H' (forLoop it.keep g k (it.items.drop (i + 1)) L3 S3) D,
        fun σ' H' q => ⟨n - 1, by omega, q⟩, fun u H' y => ?_⟩
      obtain ⟨ey, sy, vy⟩ := yl u H' y
      have ly := l2.ext s2 ey
      have e2y := Ext.trans s2 e2 ey
      refine ⟨ρ2, S2, L2, x, sy, ly, vy, ?_⟩
      cases hg : g x L2 S2 with
      | ok L3 S3 =>
        rw [hg] at h
        intro ρ3 H3 σ3 e3 s3 ⟨l3, _⟩
        refine ⟨ρ3, S3, L3, s3, l3, ?_⟩
        have h' : PostF X.K X.mg W ρ2 S2 H2 (turn (k L3 S3) (forLoop it.keep g k xs)) D := h
        cases hk : k L3 S3 with
        | nx L4 S4 =>
          rw [hk] at h'
          exact fun ρ4 H4 σ4 e4 s4 l4 => ⟨by omega, ρ4, S4, L4, Ext.trans s3 (Ext.trans sy e2y e3) e4, s4, l4, by rw [hxs]; exact PostF.step s4 (Ext.trans s3 (Ext.trans sy ey e3) e4) h'⟩
        | ct L4 S4 =>
          rw [hk] at h'
          exact fun ρ4 H4 σ4 e4 s4 l4 => ⟨by omega, ρ4, S4, L4, Ext.trans s3 (Ext.trans sy e2y e3) e4, s4, l4, by rw [hxs]; exact PostF.step s4 (Ext.trans s3 (Ext.trans sy ey e3) e4) h'⟩
        | bk L4 S4 =>
          rw [hk] at h'
          exact fun ρ4 H4 σ4 e4 s4 l4 => h' ρ4 H4 σ4 (Ext.trans s3 (Ext.trans sy ey e3) e4) s4 l4
        | rt v S4 =>
          rw [hk] at h'
          exact fun ρ4 H4 σ4 e4 s4 l4 => h' ρ4 H4 σ4 (Ext.trans s3 (Ext.trans sy ey e3) e4) s4 l4
        | exn x4 L4 S4 =>
          rw [hk] at h'
          exact fun ρ4 H4 σ4 c d e4 s4 l4 q4 => h' ρ4 H4 σ4 c d (Ext.trans s3 (Ext.trans sy ey e3) e4) s4 l4 q4
        | bad =>
          rw [hk] at h'
          exact h'.elim
      | exn x4 S3 =>
        rw [hg] at h
        exact h.elim
      | bad =>
        rw [hg] at h
        exact h.elim
    · rw [gate_neg kp] at h
      exact h.elim
theorem s_for {tg iter : Expr} {mi : MI} {g : MG} (hp : PassesOwn (model X.prog X.w) X.A X.env X.xe) (hc : X.calm = true) (hi : PIm X W tg iter mi) (hg : PGm X anyStep tg g) (hb : PSsm X W sts k)
    (hs : ∀ x, foldedSetIterable iter X.env x = pure x := by intro _; rfl) : PSm X W (.For tg iter sts [] pos) (Mp.sFor mi g k) := PS.imp (ps_for hp hc hi hg hb hs) fun _ _ _ => for_of
theorem while_of {mc : MT} {D : Ends} {σ : L2.St} {H : Hp} (h : TSm X.K X.mg W (Mp.sWhile mc k) D σ H) : tWhile (TTm X.K X.mg W mc) (TSm X.K X.mg W k) D σ H := by
  obtain ⟨ρ, S, L, s, l, h⟩ := h
  refine ⟨fun n σ' H' => ∃ ρ2 S2 L2, SR X.K X.mg ρ2 S2 H' ∧ LR X.K ρ2 S2.length H' L2 σ' ∧ PostF X.K X.mg W ρ2 S2 H' (whileLoop mc k n L2 S2) D, ⟨MANY, ρ, S, L, s, l, h⟩, ?_⟩
  rintro n σ2 H2 ⟨ρ2, S2, L2, s2, l2, h⟩
  cases n with
  | zero => exact h.elim
  | succ n =>
    refine TTm.then s2 l2 h fun ρ3 S3 b H3 s3 l3 e3 h => ?_
    cases b with
    | false => exact iteF (PostF.nxHere s3 l3 h)
    | true =>
      refine iteT ⟨fun σ' H' => ∃ ρ2 S2 L2, SR X.K X.mg ρ2 S2 H' ∧ LR X.K ρ2 S2.length H' L2 σ' ∧ PostF X.K X.mg W ρ2 S2 H' (whileLoop mc k n L2 S2) D, fun σ' H' q => ⟨n, Nat.lt_succ_self n, q⟩, ρ3, S3, L2, s3, l3, ?_⟩
      have h' : PostF X.K X.mg W ρ3 S3 H3 (turn (k L2 S3) (whileLoop mc k n)) D := h
      cases hk : k L2 S3 with
      | nx L4 S4 => rw [hk] at h'; exact fun ρ4 H4 σ4 e4 s4 l4 => ⟨ρ4, S4, L4, s4, l4, PostF.step s4 e4 h'⟩
      | ct L4 S4 => rw [hk] at h'; exact fun ρ4 H4 σ4 e4 s4 l4 => ⟨ρ4, S4, L4, s4, l4, PostF.step s4 e4 h'⟩
      | bk L4 S4 => rw [hk] at h'; exact h'
      | rt v S4 => rw [hk] at h'; exact h'
      | exn x L4 S4 => rw [hk] at h'; exact h'
      | bad => rw [hk] at h'; exact h'.elim
theorem s_while {mc : MT} (hp : PassesOwn (model X.prog X.w) X.A X.env X.xe) (hc : PTm X W c mc) (hb : PSsm X W sts k) : PSm X W (.While c sts [] pos) (Mp.sWhile mc k) := PS.imp (ps_while hp hc hb) fun _ _ _ => while_of
/-! ### comprehensions -/
theorem Post.bind0 {γ β : Type} {rel : Rel γ β} {α δ : Type} {rel1 : Rel α δ} {K : PySem.W.Frag} {mg : Str → Option Value} {ρ : Rho} {S : Store} {H : Hp} {σ σ' : L2.St} {r : R α} {k : α → Store → R γ} {Q : β → Hp → Prop} (h : Post K mg rel W ρ S H σ ((Mp.noExn r).bind k) Q) :
    Post K mg rel1 W0 ρ S H σ' r fun u H1 => ∃ ρ1 S1 a, r = .ok a S1 ∧ Ext ρ S H ρ1 S1 H1 ∧ SR K mg ρ1 S1 H1 ∧ rel1 ρ1 S1 H1 a u ∧ Post K mg rel W ρ1 S1 H1 σ (k a S1) Q := by
  cases r with
  | ok a S1 => exact fun ρ1 H1 u e s v => ⟨ρ1, S1, a, rfl, e, s, v, Post.step s e h⟩
  | exn x S' => exact h.elim
  | bad => exact h
/-- an object beside the store: it stays where it is -/
theorem Ext.stay {ρ ρ' : Rho} {S S' : Store} {H H' : Hp} (e : Ext ρ S H ρ' S' H') {D : Addr} {o : HO} (h : H D = some o) (hn : ∀ i, i < S.length → ρ i ≠ D) : H' D = some o ∧ ∀ i, i < S'.length → ρ' i ≠ D := by
  refine ⟨e.frame _ _ h hn, fun i hi z => ?_⟩
  by_cases q : i < S.length
  · exact hn i q ((e.rho i q).symm.trans z)
  · have := e.fresh i (Nat.le_of_not_lt q) hi
    rw [z, h] at this
    cases this
/-- the object beside the store is changed: values do not lean on it -/
theorem SqT.beside {K : PySem.W.Frag} {H : Hp} {D : Addr} {us us' : List V} (h : H D = some (.lst us)) {a : Addr} {xs : List V} (q : SqT K H a xs) : SqT K (upd H D (.lst us')) a xs := by
  rcases q with (q | ⟨o, q⟩) | q
  · exact .inl (.inl (by rw [upd_ne (ne_of q h (by intro z; cases z))]; exact q))
  · exact .inl (.inr ⟨o, by rw [upd_ne (ne_of q h (by intro z; cases z))]; exact q⟩)
  · exact .inr q
theorem FzL.beside {K : PySem.W.Frag} {H : Hp} {D : Addr} {us us' : List V} (h : H D = some (.lst us)) {a : Addr} {xs : List V} (q : FzL K H a xs) : FzL K (upd H D (.lst us')) a xs := by
  rcases q with ⟨o, q⟩ | q
  · exact .inl ⟨o, by rw [upd_ne (ne_of q h (by intro z; cases z))]; exact q⟩
  · exact .inr q
mutual
theorem VR.beside {K : PySem.W.Frag} {ρ : Rho} {n : Nat} {H : Hp} {D : Addr} {us us' : List V} (h : H D = some (.lst us)) : ∀ (v : Val) (u : V), VR K ρ n H v u → VR K ρ n (upd H D (.lst us')) v u
  | .non, u, q => by simpa [VR] using q
  | .bl b, u, q => by simpa [VR] using q
  | .int b, u, q => by simpa [VR] using q
  | .str b, u, q => by simpa [VR] using q
  | .ref b, u, q => by simpa [VR] using q
  | .tup vs, u, q => by
    simp only [VR] at q ⊢
    obtain ⟨a, xs, e1, q, r⟩ := q
    exact ⟨a, xs, e1, SqT.beside h q, VRs.beside h vs xs r⟩
  | .fl ns, u, q => by
    simp only [VR] at q ⊢
    obtain ⟨a, e1, q⟩ := q
    exact ⟨a, e1, FzL.beside h q⟩
theorem VRs.beside {K : PySem.W.Frag} {ρ : Rho} {n : Nat} {H : Hp} {D : Addr} {us us' : List V} (h : H D = some (.lst us)) : ∀ (v : List Val) (u : List V), VRs K ρ n H v u → VRs K ρ n (upd H D (.lst us')) v u
  | [], u, q => by simpa [VRs] using q
  | v :: vs, u, q => by
    simp only [VRs] at q ⊢
    obtain ⟨x, r, e1, h1, h2⟩ := q
    exact ⟨x, r, e1, VR.beside h v x h1, VRs.beside h vs r h2⟩
end
theorem SR.beside {K : PySem.W.Frag} {mg : Str → Option Value} {ρ : Rho} {S : Store} {H : Hp} {D : Addr} {us us' : List V} (s : SR K mg ρ S H) (h : H D = some (.lst us)) (hn : ∀ i, i < S.length → ρ i ≠ D) : SR K mg ρ S (upd H D (.lst us')) := by
  refine ⟨fun i o q => ?_, s.inj⟩
  have hi : i < S.length := (List.getElem?_eq_some_iff.mp q).1
  have hh : upd H D (.lst us') (ρ i) = H (ρ i) := upd_ne (hn i hi)
  have z := s.ob i o q
  cases o with
  | lst xs => obtain ⟨us, a, c⟩ := z; exact ⟨us, by rw [hh]; exact a, VRs.beside h _ _ c⟩
  | dK xs => obtain ⟨us, a, c⟩ := z; exact ⟨us, by rw [hh]; exact a, c.1, VRs.beside h _ _ c.2⟩
  | dT xs => obtain ⟨us, a, c⟩ := z; exact ⟨us, by rw [hh]; exact a, c.1, VRs.beside h _ _ c.2⟩
  | ins c0 fs => obtain ⟨C, dx, us, m, a, c⟩ := z; exact ⟨C, dx, us, m, by rw [hh]; exact a, c.1, VRs.beside h _ _ c.2⟩
theorem LR.beside {K : PySem.W.Frag} {ρ : Rho} {n : Nat} {H : Hp} {D : Addr} {us us' : List V} {L : Loc} {σ : L2.St} (h : H D = some (.lst us)) (l : LR K ρ n H L σ) : LR K ρ n (upd H D (.lst us')) L σ :=
  ⟨l.1, fun i v q => by obtain ⟨u, q1, q2⟩ := l.2 i v q; exact ⟨u, q1, VR.beside h v u q2⟩⟩
/-- changes beside the store, seen from the beginning (where D was not there) -/
theorem Ext.beside {ρ ρ' : Rho} {S S' : Store} {H H' : Hp} (e : Ext ρ S H ρ' S' H') {D : Addr} {o : HO} (hD : H D = none) : Ext ρ S H ρ' S' (upd H' D o) :=
  ⟨e.rho, e.le, e.fresh, fun a u h hn => by rw [upd_ne (ne_of_none h hD)]; exact e.frame a u h hn⟩
theorem lc_of {mi : MI} {g : MG} {mc : MT} {me : ME} {vs : List Nat} {σ : L2.St} {H : Hp} {Q : VK} (h : TEm X.K X.mg W (Mp.mLc mi vs g mc me) σ H Q) :
    tLc (TIm X.K X.mg W mi) (TGm X.K X.mg (wipeStep vs) g) (TTm X.K X.mg W0 mc) (TEm X.K X.mg W0 me) vs σ H Q := by
  obtain ⟨ρ, S, L, s, l, h⟩ := h
  refine ⟨ρ, S, L, s, l, (Post.bind (rel1 := ItR X.K X.mg) h).mono ?_⟩
  rintro J H1 ⟨ρ1, S1, it, _, e1, s1, hJ, h⟩ D hD
  have l1 := (l.ext s e1).wipe vs
  -- the invariant: what is made so far stands at D, beside the store
  refine ⟨fun i n H' => i + n = it.items.length ∧ ∃ ρ2 S2 acc ys, Ext ρ1 S1 H1 ρ2 S2 H' ∧ SR X.K X.mg ρ2 S2 H' ∧ (∀ j, j < S2.length → ρ2 j ≠ D) ∧ H' D = some (.lst ys) ∧ VRs X.K ρ2 S2.length H' acc ys ∧
      Post X.K X.mg (relV X.K) W ρ1 S1 H1 σ ((lcLoop it.keep (wipeL L vs) g mc me (it.items.drop i) acc S2).bind fun ws S2 => .ok (.ref S2.length) (S2 ++ [.lst ws])) Q,
    ⟨it.items.length, by simp, ρ1, S1, [], [], Ext.side hD, s1.side hD, s1.ne_none hD, upd_same, VRs.nil, by simpa using h⟩, ?_⟩
  rintro i n H2 ⟨hn, ρ2, S2, acc, ys, e2, s2, nD, gD, va, h⟩
  have l2 : LR X.K ρ2 S2.length H2 (wipeL L vs) (L2.wipe σ vs) := l1.ext s1 e2
  cases hd : it.items.drop i with
  | nil =>
    rw [hd] at h
    unfold lcLoop at h
    by_cases kp : it.keep S2
    · rw [gate_pos kp] at h
      have hx : it.items[i]? = none := by
        have := congrArg List.length hd
        simp at this
        simp
        omega
      refine .inl ⟨(hJ ρ2 S2 H2 e2 s2 kp i).2 hx, ?_⟩
      -- the list joins the store
      have hl : (S2 ++ [Ob.lst acc]).length = S2.length + 1 := by simp
      have e3 : Ext ρ2 S2 (fun b => if b = D then none else H2 b) (newRho ρ2 S2.length D) (S2 ++ [.lst acc]) H2 := by
        refine ⟨fun j hj => newRho_ne (Nat.ne_of_lt hj), by simp, fun j h1 h2 => ?_, fun a o h _ => ?_⟩
        · have : j = S2.length := by simp at h2; omega
          subst this
          rw [newRho_same]
          simp
        · by_cases q : a = D
          · simp [q] at h
          · simpa [q] using h
      have e4 : Ext ρ1 S1 H1 (newRho ρ2 S2.length D) (S2 ++ [.lst acc]) H2 := by
        refine ⟨fun j hj => (newRho_ne (Nat.ne_of_lt (Nat.lt_of_lt_of_le hj e2.le))).trans (e2.rho j hj), Nat.le_trans e2.le (by simp), fun j h1 h2 => ?_, e2.frame⟩
        by_cases q : j = S2.length
        · subst q
          rw [newRho_same]
          exact hD
        · rw [newRho_ne q]
          exact e2.fresh j h1 (by simp at h2; omega)
      have e5 : Ext ρ2 S2 H2 (newRho ρ2 S2.length D) (S2 ++ [.lst acc]) H2 ∨ True := .inr trivial
      have vmono : ∀ (v : List Val) (u : List V), VRs X.K ρ2 S2.length H2 v u → VRs X.K (newRho ρ2 S2.length D) (S2 ++ [Ob.lst acc]).length H2 v u := by
        have key : ∀ (n : Nat) (v : Val) (u : V), sizeOf v ≤ n → VR X.K ρ2 S2.length H2 v u → VR X.K (newRho ρ2 S2.length D) (S2 ++ [Ob.lst acc]).length H2 v u := by
          intro n
          induction n with
          | zero => intro v u hz; cases v <;> simp at hz
          | succ n ih =>
            intro v u hz hv
            cases v with
            | tup ws =>
              simp only [VR] at hv ⊢
              obtain ⟨a, xs, q1, q2, q3⟩ := hv
              refine ⟨a, xs, q1, q2, ?_⟩
              simp at hz
              have hz' : sizeOf ws ≤ n := by omega
              clear hz q1 q2
              induction ws generalizing xs with
              | nil => simpa [VRs] using q3
              | cons w ws ihw =>
                obtain ⟨u1, r1, rfl, h1, h2⟩ := q3.cons_of
                simp at hz'
                exact VRs.cons (ih w u1 (by omega) h1) (ihw r1 h2 (by omega))
            | ref j =>
              simp only [VR] at hv ⊢
              exact ⟨by simp; omega, by rw [newRho_ne (Nat.ne_of_lt hv.1)]; exact hv.2⟩
            | _ => simpa [VR] using hv
        intro v
        induction v with
        | nil => intro u r; simpa [VRs] using r
        | cons w ws ihw =>
          intro u r
          obtain ⟨u1, r1, rfl, h1, h2⟩ := r.cons_of
          exact VRs.cons (key _ w u1 (Nat.le_refl _) h1) (ihw r1 h2)
      have s3 : SR X.K X.mg (newRho ρ2 S2.length D) (S2 ++ [.lst acc]) H2 := by
        refine ⟨fun j o q => ?_, fun a b ha hb z => ?_⟩
        · by_cases hj : j < S2.length
          · rw [List.getElem?_append_left hj] at q
            have z := s2.ob j o q
            rw [newRho_ne (Nat.ne_of_lt hj)]
            cases o with
            | lst xs => obtain ⟨us, a, c⟩ := z; exact ⟨us, a, vmono _ _ c⟩
            | dK xs => obtain ⟨us, a, c⟩ := z; exact ⟨us, a, c.1, vmono _ _ c.2⟩
            | dT xs => obtain ⟨us, a, c⟩ := z; exact ⟨us, a, c.1, vmono _ _ c.2⟩
            | ins c0 fs => obtain ⟨C, dx, us, m, a, c⟩ := z; exact ⟨C, dx, us, m, a, c.1, vmono _ _ c.2⟩
          · have hl : j < (S2 ++ [Ob.lst acc]).length := (List.getElem?_eq_some_iff.mp q).1
            have : j = S2.length := by simp at hl; omega
            subst this
            rw [newRho_same]
            simp at q
            subst q
            exact ⟨ys, gD, vmono _ _ va⟩
        · simp at ha hb
          by_cases h1 : a = S2.length
          · by_cases h2 : b = S2.length
            · rw [h1, h2]
            · rw [h1, newRho_same, newRho_ne h2] at z
              exact absurd z.symm (nD b (by omega))
          · by_cases h2 : b = S2.length
            · rw [h2, newRho_same, newRho_ne h1] at z
              exact absurd z (nD a (by omega))
            · rw [newRho_ne h1, newRho_ne h2] at z
              exact s2.inj a b (by omega) (by omega) z
      refine h _ _ _ e4 s3 ?_
      simp only [relV, VR, newRho_same]
      exact ⟨by simp, trivial⟩
    · rw [gate_neg kp] at h
      exact h.elim
  | cons x xs =>
    rw [hd] at h
    unfold lcLoop at h
    have hx : it.items[i]? = some x := by
      have : (it.items.drop i)[0]? = some x := by rw [hd]; rfl
      simpa using this
    have hlt := (List.getElem?_eq_some_iff.mp hx).1
    have hxs : it.items.drop (i + 1) = xs := by
      have : (it.items.drop i).drop 1 = xs := by rw [hd]; rfl
      rw [List.drop_drop] at this
      exact this
    by_cases kp : it.keep S2
    · rw [gate_pos kp] at h
      obtain ⟨go, yl⟩ := (hJ ρ2 S2 H2 e2 s2 kp i).1 x hx
      refine .inr ⟨go, fun H' => i + 1 + (n - 1) = it.items.length ∧ ∃ ρ3 S3 acc' ys', Ext ρ1 S1 H1 ρ3 S3 H' ∧ SR X.K X.mg ρ3 S3 H' ∧ (∀ j, j < S3.length → ρ3 j ≠ D) ∧ H' D = some (.lst ys') ∧ VRs X.K ρ3 S3.length H' acc' ys' ∧
          Post X.K X.mg (relV X.K) W ρ1 S1 H1 σ ((lcLoop it.keep (wipeL L vs) g mc me (it.items.drop (i + 1)) acc' S3).bind fun ws S2 => .ok (.ref S2.length) (S2 ++ [.lst ws])) Q,
        fun H' q => ⟨n - 1, by omega, q⟩, fun u H' y => ?_⟩
      obtain ⟨ey, sy, vy⟩ := yl u H' y
      have ly := l2.ext s2 ey
      have e2y := Ext.trans s2 e2 ey
      obtain ⟨gDy, nDy⟩ := ey.stay gD nD
      have vay := VRs.ext s2 ey _ _ va
      refine ⟨ρ2, S2, wipeL L vs, x, sy, ly, vy, ?_⟩
      cases hg : g x (wipeL L vs) S2 with
      | ok L3 S3 =>
        rw [hg] at h
        rintro ρ3 H3 σ3 e3 s3 ⟨l3, w3⟩
        obtain ⟨gD3, nD3⟩ := e3.stay gDy nDy
        have va3 := VRs.ext sy e3 _ _ vay
        have w3' : L2.wipe σ3 vs = L2.wipe σ vs := by
          have : L2.wipe σ3 vs = L2.wipe (L2.wipe σ vs) vs := w3
          rw [this]
          have idem : ∀ (r : List Nat) (σ : L2.St), (∀ i, i ∈ r → i ∈ vs) → L2.wipe (L2.wipe σ r) vs = L2.wipe σ vs := by
            intro r
            induction r with
            | nil => intro σ _; rfl
            | cons a r ih =>
              intro σ hr
              show L2.wipe ((L2.wipe σ r).set a none) vs = _
              rw [wipe_set (hr a (by simp)), ih σ fun i hi => hr i (by simp [hi])]
          exact idem vs σ fun i hi => hi
        refine ⟨w3', ρ3, S3, L3, s3, l3, ?_⟩
        have h : Post X.K X.mg (relV X.K) W ρ1 S1 H1 σ (((Mp.noExn (mc L3 S3)).bind fun t S2 => bite t ((Mp.noExn (me L3 S2)).bind fun v S3 => bite (decide (acc.length < LIM)) (lcLoop it.keep (wipeL L vs) g mc me xs (acc ++ [v]) S3) .bad) (lcLoop it.keep (wipeL L vs) g mc me xs acc S2)).bind fun ws S2 => .ok (.ref S2.length) (S2 ++ [.lst ws])) Q := h
        cases hc : mc L3 S3 with
        | ok t S4 =>
          rw [hc] at h
          intro ρ4 H4 t' e4 s4 et
          have et' : t' = t := et
          subst et'
          obtain ⟨gD4, nD4⟩ := e4.stay gD3 nD3
          have va4 := VRs.ext s3 e4 _ _ va3
          have e14 := Ext.trans s3 (Ext.trans sy e2y e3) e4
          cases t' with
          | false => exact iteF ⟨by omega, ρ4, S4, acc, ys, e14, s4, nD4, gD4, va4, by rw [hxs]; exact h⟩
          | true =>
            refine iteT ⟨ρ4, S4, L3, s4, l3.ext s3 e4, ?_⟩
            have h : Post X.K X.mg (relV X.K) W ρ1 S1 H1 σ (((Mp.noExn (me L3 S4)).bind fun v S3 => bite (decide (acc.length < LIM)) (lcLoop it.keep (wipeL L vs) g mc me xs (acc ++ [v]) S3) .bad).bind fun ws S2 => .ok (.ref S2.length) (S2 ++ [.lst ws])) Q := h
            cases he : me L3 S4 with
            | ok v S5 =>
              rw [he] at h
              intro ρ5 H5 u5 e5 s5 v5
              obtain ⟨gD5, nD5⟩ := e5.stay gD4 nD4
              have va5 := VRs.ext s4 e5 _ _ va4
              have h : Post X.K X.mg (relV X.K) W ρ1 S1 H1 σ ((bite (decide (acc.length < LIM)) (lcLoop it.keep (wipeL L vs) g mc me xs (acc ++ [v]) S5) .bad).bind fun ws S2 => .ok (.ref S2.length) (S2 ++ [.lst ws])) Q := h
              by_cases hz : acc.length < LIM
              · rw [bite_pos (decide_eq_true hz)] at h
                refine ⟨ys, gD5, by rw [← va5.length, ← lim_eq]; exact hz, by omega, ρ5, S5, acc ++ [v], ys ++ [u5], (Ext.trans s4 e14 e5).beside hD, s5.beside gD5 nD5, nD5, upd_same, ?_, by rw [hxs]; exact h⟩
                exact VRs.append (VRs.beside gD5 _ _ va5) (VRs.cons (VR.beside gD5 _ _ v5) VRs.nil)
              · rw [bite_neg (decide_eq_false hz)] at h
                exact h.elim
            | exn e5 S5 =>
              rw [he] at h
              exact h.elim
            | bad =>
              rw [he] at h
              exact h.elim
        | exn e5 S4 =>
          rw [hc] at h
          exact h.elim
        | bad =>
          rw [hc] at h
          exact h.elim
      | exn x4 S3 =>
        rw [hg] at h
        exact h.elim
      | bad =>
        rw [hg] at h
        exact h.elim
    · rw [gate_neg kp] at h
      exact h.elim
end
end Mp

/-! Mp6: comprehensions as rules, raise, try, defs. -/
namespace Mp
open PySem PySem.Spec L2
section
variable {X : Cx} {W : WX} {e a b c : Expr} {es : List Expr} {m ma mb mc : ME} {pos : Pos} {st : Stmt} {sts rest : List Stmt} {k k1 k2 : MS}
abbrev PTsm (X : Cx) (W : WX) (es : List Expr) (m : MT) : Prop := PTs X es (TTm X.K X.mg W m)
theorem PTs.imp {es : List Expr} {t t' : TT} (h : PTs X es t) (i : ∀ σ H Q, t' σ H Q → t σ H Q) : PTs X es t' := ⟨fun pins s σ H Q I q => h.run pins s σ H Q I (i σ H Q q)⟩
theorem ts_nil : PTsm X W [] Mp.tYes := PTs.imp pts_nil fun σ H Q ⟨ρ, S, L, s, l, h⟩ => Post.here (rel := relB) s h rfl
theorem ts_one {mt : MT} (h : PTm X W c mt) : PTsm X W [c] mt := pts_one h
theorem e_lc {elt tg iter : Expr} {ifs : List Expr} {scope : Scope} {own : List (Str × Nat)} {mi : MI} {g : MG} {mc : MT} {me : ME} (hc : X.calm = true) (hN : X.N.Nodup) (hi : PIm X W tg iter mi) (ok : BlkOk X.N X.env.scope scope own)
    (hg : ∀ (s : Shared) (H : Hp) (C : Addr) (cl : List (Str × Addr)) (fp : List Addr), PGm (X.blk s H scope (compEnvC scope cl C X.env) fp) (wipeStep (own.map (·.2))) tg g)
    (ht : ∀ (s : Shared) (H : Hp) (C : Addr) (cl : List (Str × Addr)) (fp : List Addr), PTsm (X.blk s H scope (compEnvC scope cl C X.env) fp) W0 ifs mc)
    (he : ∀ (s : Shared) (H : Hp) (C : Addr) (cl : List (Str × Addr)) (fp : List Addr), PEm (X.blk s H scope (compEnvC scope cl C X.env) fp) W0 elt me) (hs : ∀ x, foldedSetIterable iter X.env x = pure x := by intro _; rfl) :
    PEm X W (.ListComp elt [⟨tg, iter, ifs, 0⟩] scope pos) (Mp.mLc mi (own.map (·.2)) g mc me) := PE.imp (pe_lc hc hN hi ok hg ht he hs) fun _ _ _ => lc_of
theorem s_setLc {i : Nat} {y : Str} {py : Pos} {elt tg iter : Expr} {ifs : List Expr} {scope : Scope} {own : List (Str × Nat)} {spos : Pos} {mi : MI} {g : MG} {mc : MT} {me : ME} (hc : X.calm = true) (hN : X.N.Nodup) (hy : X.N[i]? = some y) (hyl : X.env.scope.names.lookup y = some .local)
    (hsw : swapsWith (.ListComp elt [⟨tg, iter, ifs, 0⟩] scope pos) (some (.Name y py)) spos.line X.env = pure true) (hi : PIm X W tg iter mi) (ok : BlkOk X.N X.env.scope scope own)
    (hg : ∀ (s : Shared) (H : Hp) (C : Addr) (cl : List (Str × Addr)) (fp : List Addr), PGm (X.blk s H scope (compEnvC scope cl C X.env) fp) (wipeStep (own.map (·.2))) tg g)
    (ht : ∀ (s : Shared) (H : Hp) (C : Addr) (cl : List (Str × Addr)) (fp : List Addr), PTsm (X.blk s H scope (compEnvC scope cl C X.env) fp) W0 ifs mc)
    (he : ∀ (s : Shared) (H : Hp) (C : Addr) (cl : List (Str × Addr)) (fp : List Addr), PEm (X.blk s H scope (compEnvC scope cl C X.env) fp) W0 elt me) (hs : ∀ x, foldedSetIterable iter X.env x = pure x := by intro _; rfl) :
    PSm X W (.Assign [.Name y py] (.ListComp elt [⟨tg, iter, ifs, 0⟩] scope pos) spos) (sAsg (Mp.mLc mi (own.map (·.2)) g mc me) (gN i)) := PS.imp (ps_setLc hc hN hy hyl hsw hi ok hg ht he hs) fun D σ H h => by
  obtain ⟨ρ, S, L, s, l, h⟩ := h
  exact lc_of (TEm.then s l h fun ρ1 S1 x u H1 s1 l1 e1 v h => PostF.nxHere s1 (l1.set v) h)
/-! ### raise -/
/-- X() of an own exception class without an __init__ -/
theorem pmk0 {C : Addr} {bmB : List Value} {B newId initId : String} {x : Str} {p : Pos} (F : PySem.ExcBaseFacts B newId initId bmB) (q : PySem.W.excIn X.K C bmB newId = true) (gC : X.mg x = some (.ref C)) (kC : PySem.W.keepIn X.K (.ref C) = true) (r : Raises X (.ref C)) (hg : Gl X x)
    (hdb : (x == ("__debug__" : Str)) = false := by decide) : PMk X (.Call (.Name x p) [] [] pos) (fun _ H Q => Q (.ref C) none H) := by
  intro pins s σ H Q I h
  refine wpAny_Call_Name_kw (ld_glob I hg gC ?_ hdb)
  refine PySem.W.callWith_K0 I.kIn kC ?_
  show wpAny _ _ (call (.ref C) []) _ _ _
  obtain ⟨bm, N, nm, qn, bs, hdct, sn, sub, ab, col, dd, k0, k1, k2, k3, k5, mN, hC, hN, hni, T⟩ := exc_obj I.kIn q
  refine wpAny_call_exc_subT F T hC hN hni (fun h' e hm => ?_) (by show 0 ≤ sizeLine; exact Nat.zero_le _)
  exact mk_of I hm r h (I.hok.gone hm.new)
/-- an own error class that has no __init__ -/
structure Err0 (K : PySem.W.Frag) (mg : Str → Option Value) (x : Str) : Prop where
  ex : ∃ C, mg x = some (.ref C) ∧ PySem.W.excIn K C [.type "ValueError", .type "Exception", .type "BaseException", .type "object"] "ValueError.__new__" = true ∧ PySem.W.keepIn K (.ref C) = true ∧
    PySem.W.subIn K (.ref C) (.type "BaseException") = some true ∧ PySem.W.typeIn K (.ref C) = some (.type "type")
theorem s_raise0 {x : Str} {p : Pos} {pos2 : Pos} (hc : X.calm = true) (tk : Takes X W) (E : Err0 X.K X.mg x) (hg : Gl X x) (hdb : (x == ("__debug__" : Str)) = false := by decide) : PSm X W (.Raise (some (.Call (.Name x p) [] [] pos)) none pos2) (sRaise x [] aNil) := by
  obtain ⟨C, gC, q, kC, r1, r2⟩ := E.ex
  have r : Raises X (.ref C) := raises_own r1 r2
  refine PS.imp (ps_raise hc tk (pmk0 (PySem.F.excBase_ValueError) q gC kC r hg hdb)) fun D σ H ⟨ρ, S, L, s, l, h⟩ => ?_
  exact h ρ H σ (.ref C) none (Ext.refl _ _ _) s l ⟨⟨C, gC, rfl⟩, fun z => absurd rfl z⟩
/-! ### try -/
/-- an except clause's classes: what is known of each error class that may come -/
def HdOk (K : PySem.W.Frag) (mg : Str → Option Value) (c : Value) (U : List (Str × Bool)) : Prop := ∀ p ∈ U, ∃ C, mg p.1 = some (.ref C) ∧ PySem.W.exmOne K (.ref C) c = some p.2
theorem lookup_mem {U : List (Str × Bool)} {x : Str} {b : Bool} (h : U.lookup x = some b) : (x, b) ∈ U := by
  induction U with
  | nil => cases h
  | cons p r ih =>
    obtain ⟨y, c⟩ := p
    rw [List.lookup_cons] at h
    by_cases q : x = y
    · subst q
      simp at h
      subst h
      simp
    · have : (x == y) = false := by simpa using q
      rw [this] at h
      exact List.mem_cons_of_mem _ (ih h)
/-- the clauses, one by one -/
inductive HdsM (X : Cx) : List ExceptHandler → List (Value × (Addr → Value → Option Addr → TS)) → List Hd → Prop
  | nil : HdsM X [] [] []
  | cons {x : Str} {c : Value} {b₀ : Stmt} {suite : List Stmt} {np pos' : Pos} {hds : List ExceptHandler} {l : List (Value × (Addr → Value → Option Addr → TS))} {U : List (Str × Bool)} {ks : MS} {D : List Hd} (hc : Names X x c) (hu : HdOk X.K X.mg c U)
      (hsu : ∀ (a : Addr) (oe : Obj) (cls : Value) (d : Option Addr) (pn : List (Addr × Obj)), PSsm (X.suite a ((a, oe) :: pn)) W0 (b₀ :: suite) ks) (r : HdsM X hds l D) :
      HdsM X (.ExceptHandler (some (.Name x np)) none (b₀ :: suite) pos' :: hds) ((c, fun _ _ _ => TSm X.K X.mg W0 ks) :: l) (⟨U, fun _ => ks⟩ :: D)
theorem HdsM.ok {hds : List ExceptHandler} {l : List (Value × (Addr → Value → Option Addr → TS))} {D : List Hd} (h : HdsM X hds l D) : HdsOk X hds l := by
  induction h with
  | nil => exact .nil
  | cons hc hu hsu r ih => exact .cons hc (fun a oe cls d pn _ _ => hsu a oe cls d pn) ih
theorem PostF.noExnF {K : PySem.W.Frag} {mg : Str → Option Value} {ρ : Rho} {S : Store} {H : Hp} {r : F} {D : Ends} (h : PostF K mg W ρ S H (Mp.noExnF r) D) (W' : WX) : PostF K mg W' ρ S H r D := by
  cases r with
  | exn x L S' => exact h.elim
  | _ => exact h
theorem wMany_of {hds : List ExceptHandler} {l : List (Value × (Addr → Value → Option Addr → TS))} {D : List Hd} (hd : HdsM X hds l D) {Wout : WX} {E : Ends} {ρ : Rho} {S : Store} {H : Hp} {L : Loc} {σ : L2.St} {x : Ex} {cls : Value} {d : Option Addr}
    (s : SR X.K X.mg ρ S H) (l1 : LR X.K ρ S.length H L σ) (q : XR X.K X.mg ρ S.length H x cls d) (h : PostF X.K X.mg Wout ρ S H (handle D x L S) E) : wMany X.K Wout E l cls d σ H := by
  induction hd with
  | nil => exact h ρ H σ cls d (Ext.refl _ _ _) s l1 q
  | cons hc hu hsu r ih =>
    rename_i x' c b₀ suite np pos' hds l U ks D
    unfold handle at h
    split at h
    · rename_i b hb
      obtain ⟨C, g1, g2⟩ := hu _ (lookup_mem hb)
      obtain ⟨⟨C', g3, rfl⟩, _⟩ := q
      rw [g1] at g3
      cases g3
      refine ⟨b, g2, fun hb1 a ha => ?_, fun hb1 => ?_⟩
      · subst hb1
        exact ⟨ρ, S, L, s, l1, h.noExnF W0⟩
      · subst hb1
        exact ih h
    · exact h.elim
theorem s_try {body : List Stmt} {h₀ : ExceptHandler} {hds : List ExceptHandler} {l : List (Value × (Addr → Value → Option Addr → TS))} {D : List Hd} {kb : MS} (hs : X.stack = X.env :: X.outer) (hf : X.env.frame = some X.env.locals) (tk : Takes X W)
    (hb : ∀ (W : WX) (pn : List (Addr × Obj)) (xe : Value → Shared → Prop), Takes (X.tr pn xe) W → PassesOwn (model X.prog X.w) X.A X.env xe → PSsm (X.tr pn xe) W body kb)
    (hh : HdsM X (h₀ :: hds) l D) : PSm X W (.Try body (h₀ :: hds) [] [] pos) (sTry kb D) := PS.imp (ps_try_many hs hf tk (tb := fun W => TSm X.K X.mg W kb) hb hh.ok) fun E σ H ⟨ρ, S, L, s, l1, h⟩ => by
  refine ⟨ρ, S, L, s, l1, ?_⟩
  unfold sTry at h
  cases hk : kb L S with
  | exn x L' S' =>
    rw [hk] at h
    exact fun ρ' H' σ' cls d e s' l' q => wMany_of hh s' l' q (PostF.step s' e h)
  | nx L' S' => rw [hk] at h; exact h
  | bk L' S' => rw [hk] at h; exact h
  | ct L' S' => rw [hk] at h; exact h
  | rt L' S' => rw [hk] at h; exact h
  | bad => rw [hk] at h; exact h.elim
end
/-! ### defs -/
section
variable {P : Program} {w : World} {K : PySem.W.Frag} {mg : Str → Option Value} {base : Heap}
theorem startL_rel {ρ : Rho} {n : Nat} {H : Hp} {N : List Str} {vs : List Val} {us : List V} (h : VRs K ρ n H vs us) : LR K ρ n H (startL N.length vs) (L2.start N us) := by
  have hl := h.length
  refine ⟨by simp [startL, L2.start, hl], fun i v q => ?_⟩
  unfold startL at q
  unfold L2.start
  by_cases hi : i < vs.length
  · rw [List.getElem?_append_left (by simpa using hi)] at q
    rw [List.getElem?_append_left (by simp; omega)]
    rw [List.getElem?_map] at q ⊢
    cases hv : vs[i]? with
    | none => rw [hv] at q; cases q
    | some x =>
      rw [hv] at q
      cases q
      obtain ⟨u, h1, h2⟩ := h.get hv
      exact ⟨u, by rw [h1]; rfl, h2⟩
  · rw [List.getElem?_append_right (by simpa using hi)] at q
    rw [List.getElem?_replicate] at q
    split at q <;> cases q
theorem def_ok {x qual : Str} {st : Stmt} {f : Addr} {fd : FuncData} {N ps : List Str} {k n np : Nat} {b : MS} (F : Fun K x qual st f fd) (S : FnScope N ps (defScope st)) (hn : N.length = n) (hp : ps.length = np)
    (hb : ∀ (cdv : Value) (A : Around) (outer : List Env) (s : Shared) (H : Hp) (E : XK), Room k (A.deeper (PyProof.Rows.envOfC qual (defScope st) s.heap.objs.size f cdv)) →
      Takes (cxOf (L2.CX P w) P w K mg base N qual (defScope st) f cdv A outer s H E) (fun cls d _ H => E cls d H) →
      PassesOwn (model P w) (A.deeper (PyProof.Rows.envOfC qual (defScope st) s.heap.objs.size f cdv)) (PyProof.Rows.envOfC qual (defScope st) s.heap.objs.size f cdv) (cxOf (L2.CX P w) P w K mg base N qual (defScope st) f cdv A outer s H E).xe →
      PSsm (cxOf (L2.CX P w) P w K mg base N qual (defScope st) f cdv A outer s H E) (fun cls d _ H => E cls d H) (defBody st) b) :
    FnOk P w K mg base (L2.CX P w) (k + 1) f fd ps (spM K mg np (fDef n np b)) := by
  subst hn hp
  refine F.okX S (fun vs H Q E h => ?_) (fun cdv A outer s H vs Q E hr h => ⟨_, hb cdv A outer s H E hr (takes_of rfl rfl rfl rfl) (passes_of rfl), ?_⟩)
  · obtain ⟨ρ, S, xs, hl, _, v, _⟩ := h
    rw [← v.length]
    exact hl
  · obtain ⟨ρ, S1, xs, hl, s1, v, h⟩ := h
    refine ⟨ρ, S1, startL N.length xs, s1, startL_rel v, ?_⟩
    unfold fDef at h
    rw [bite_pos (decide_eq_true hl)] at h
    cases hk : b (startL N.length xs) S1 with
    | nx L S' => rw [hk] at h; exact fun ρ' H' σ' e s' l' => h ρ' H' .non e s' (by simp [relV, VR])
    | rt v S' => rw [hk] at h; exact h
    | exn x L S' => rw [hk] at h; exact fun ρ' H' σ' c d e s' l' q => h ρ' H' c d e s' q
    | bk L S' => rw [hk] at h; exact h.elim
    | ct L S' => rw [hk] at h; exact h.elim
    | bad => rw [hk] at h; exact h.elim
/-- a def that goes nowhere -/
theorem bad_ok {f : Addr} {fd : FuncData} {ps : List Str} {k np : Nat} (hp : ps.length = np) : FnOk P w K mg base (L2.CX P w) k f fd ps (spM K mg np fun _ _ => .bad) :=
  ⟨fun vs H Q E h => by
    obtain ⟨ρ, S, xs, hl, _, v, h⟩ := h
    exact h.elim, fun A outer s H args us vs Q E hr he hb hv hs => by
    obtain ⟨ρ, S, xs, hl, _, v, h⟩ := hs
    exact h.elim⟩
end
/-- a constant of the module that is an int, a text -/
theorem e_gi {X : Cx} {W : WX} {x : Str} {i : Int} {pos : Pos} (h : ∃ t, X.mg x = some (.int i t)) (hg : Gl X x) (hd : (x == ("__debug__" : Str)) = false := by decide) : PEm X W (.Name x pos) (mC (.int i)) := by
  obtain ⟨t, h⟩ := h
  exact e_gc (u := .int i) hg h ⟨t, rfl⟩ (fun _ _ _ => by simp [VR]) hd
theorem e_gs {X : Cx} {W : WX} {x : Str} {i : Str} {pos : Pos} (h : ∃ t, X.mg x = some (.str i t)) (hg : Gl X x) (hd : (x == ("__debug__" : Str)) = false := by decide) : PEm X W (.Name x pos) (mC (.str i)) := by
  obtain ⟨t, h⟩ := h
  exact e_gc (u := .str i) hg h ⟨t, rfl⟩ (fun _ _ _ => by simp [VR]) hd
end Mp

/-! Mp7: operators, comparisons, subscripts, built-ins, methods. -/
namespace Mp
open PySem PySem.Spec L2
/-! ### numbers -/
def iop (c : Int → Int → Bool) (g : Int → Int → Int) : P2 := fun x y S => match x, y with
  | .int i, .int j => bite (c i j) (.ok (.int (g i j)) S) .bad
  | _, _ => .bad
def cmul (i j : Int) : Bool := (decide (-(2 ^ 64) < i) && decide (i < 2 ^ 64)) || (decide (-(2 ^ 64) < j) && decide (j < 2 ^ 64))
def pSub : P2 := iop (fun _ _ => true) fun i j => i - j
def pMulI : P2 := iop cmul fun i j => i * j
def pMod : P2 := iop (fun _ j => decide (0 < j)) fun i j => i % j
def pDiv : P2 := iop (fun _ j => decide (0 < j) && decide (j < 1073741824)) fun i j => i / j
def pPow : P2 := iop (fun i j => decide (0 ≤ j) && decide (j ≤ 1000000) && decide (i.natAbs < 2 ^ 64)) fun i j => i ^ j.toNat
def pNeg : P1 := fun x S => match x with
  | .int i => .ok (.int (-i)) S
  | _ => .bad
section
variable {X : Cx}
theorem iop_of {c : Int → Int → Bool} {g : Int → Int → Int} {C : Int → Int → Prop} (hc : ∀ i j, c i j = true → C i j) {u w : V} {H : Hp} {Q : VK} (h : rP2 X (iop c g) u w H Q) : rI C (fun i j => .int (g i j)) u w H Q := by
  obtain ⟨ρ, S, x, y, s, v1, v2, h⟩ := h
  unfold iop at h
  split at h
  · rename_i i j
    cases hb : c i j with
    | true =>
      rw [hb] at h
      exact ⟨i, j, by simpa [VR] using v1, by simpa [VR] using v2, hc i j hb, Post.here (rel := relV X.K) s h (by simp [relV, VR])⟩
    | false => rw [hb] at h; exact h.elim
  · exact h.elim
theorem iop_of0 {g : Int → Int → Int} {u w : V} {H : Hp} {Q : VK} (h : rP2 X (iop (fun _ _ => true) g) u w H Q) : rI0 (fun i j => .int (g i j)) u w H Q := by
  obtain ⟨i, j, h1, h2, _, h3⟩ := iop_of (C := fun _ _ => True) (fun _ _ _ => trivial) h
  exact ⟨i, j, h1, h2, h3⟩
theorem o_sub : OpS X (binaryOp .Sub) pSub := OpR.imp op_sub fun _ _ _ _ => iop_of0
theorem io_sub : OpS X (inplaceOp .Sub) pSub := OpR.imp iop_sub fun _ _ _ _ => iop_of0
theorem cmul_of {i j : Int} (h : cmul i j = true) : CMul i j := by
  simp only [cmul, Bool.or_eq_true, Bool.and_eq_true, decide_eq_true_eq] at h
  exact h
theorem o_mulI : OpS X (binaryOp .Mult) pMulI := OpR.imp op_mul fun _ _ _ _ => iop_of fun _ _ => cmul_of
theorem io_mulI : OpS X (inplaceOp .Mult) pMulI := OpR.imp iop_mul fun _ _ _ _ => iop_of fun _ _ => cmul_of
theorem o_mod : OpS X (binaryOp .Mod) pMod := OpR.imp op_mod fun _ _ _ _ => iop_of fun _ _ h => of_decide_eq_true h
theorem o_div : OpS X (binaryOp .FloorDiv) pDiv := OpR.imp op_fdiv fun _ _ _ _ => iop_of fun _ _ h => by simpa [CDiv] using h
theorem o_pow : OpS X (binaryOp .Pow) pPow := OpR.imp op_pow fun _ _ _ _ => iop_of fun _ _ h => by
  simp only [Bool.and_eq_true, decide_eq_true_eq] at h
  exact ⟨h.1.1, h.1.2, h.2⟩
theorem u_neg : UnR X (unaryOp .USub) (rP1 X pNeg) := fun pins s σ H x v Q I rx h => by
  refine un_neg pins s σ H x v Q I rx ?_
  obtain ⟨ρ, S, x, s, v1, h⟩ := h
  unfold pNeg at h
  split at h
  · exact ⟨_, by simpa [VR] using v1, Post.here (rel := relV X.K) s h (by simp [relV, VR])⟩
  · exact h.elim
/-! ### comparisons of numbers -/
def icmp (g : Int → Int → Bool) : P2 := fun x y S => match x, y with
  | .int i, .int j => .ok (.bl (g i j)) S
  | _, _ => .bad
def pLt : P2 := icmp fun i j => decide (i < j)
def pLe : P2 := icmp fun i j => decide (i ≤ j)
def pGt : P2 := icmp fun i j => decide (j < i)
def pGe : P2 := icmp fun i j => decide (j ≤ i)
theorem icmp_of {g : Int → Int → Bool} {u w : V} {H : Hp} {Q : VK} (h : rP2 X (icmp g) u w H Q) : rI0 (fun i j => .bl (g i j)) u w H Q := by
  obtain ⟨ρ, S, x, y, s, v1, v2, h⟩ := h
  unfold icmp at h
  split at h
  · rename_i i j
    exact ⟨i, j, by simpa [VR] using v1, by simpa [VR] using v2, Post.here (rel := relV X.K) s h (by simp [relV, VR])⟩
  · exact h.elim
theorem o_lt : OpS X (compareOp .Lt) pLt := OpR.imp op_lt fun _ _ _ _ => icmp_of
theorem o_le : OpS X (compareOp .LtE) pLe := OpR.imp op_le fun _ _ _ _ => icmp_of
theorem o_gt : OpS X (compareOp .Gt) pGt := OpR.imp op_gt fun _ _ _ _ => icmp_of
theorem o_ge : OpS X (compareOp .GtE) pGe := OpR.imp op_ge fun _ _ _ _ => icmp_of
/-! ### is -/
def isC (x y : Val) : Option Bool := match y, x with
  | .non, .non => some true
  | .non, _ => some false
  | .bl b, .bl c => some (decide (c = b))
  | .bl _, _ => some false
  | _, _ => none
def pIs : P2 := fun x y S => match isC x y with
  | some b => .ok (.bl b) S
  | none => .bad
def pIsNot : P2 := fun x y S => match isC x y with
  | some b => .ok (.bl (!b)) S
  | none => .bad
theorem op_isC : OpR X (compareOp .Is) (fun x y H Q => (y = .non ∨ ∃ b, y = .bl b) ∧ Q (.bl (decide (x = y))) H) := by
  intro pins s σ H x y v u Q I rx ry h
  obtain ⟨hy, q⟩ := h
  rcases hy with rfl | ⟨b, rfl⟩
  · exact op_isN pins s σ H x _ v u Q I rx ry ⟨rfl, q⟩
  · cases ry
    have plain : plainIs v (.bool b) = true := by
      cases x <;> first
        | (cases rx; rfl)
        | (obtain ⟨t, rfl⟩ := rx; rfl)
    by_cases e : v = .bool b
    · subst e
      refine wpAny_is_self plain (fin_bl I q ?_)
      cases x with
      | bl c =>
        cases rx
        simp
      | non => cases rx
      | int i => obtain ⟨t, z⟩ := rx; cases z
      | str i => obtain ⟨t, z⟩ := rx; cases z
      | byt i => obtain ⟨t, z⟩ := rx; cases z
      | flt i => obtain ⟨t, z⟩ := rx; cases z
      | ref i => cases rx
      | ty i => cases rx
    · refine wpAny_is_other plain e (fin_bl I q ?_)
      apply decide_eq_false
      intro z
      subst z
      exact e rx
theorem op_notC : OpR X (compareOp .IsNot) (fun x y H Q => (y = .non ∨ ∃ b, y = .bl b) ∧ Q (.bl (!decide (x = y))) H) := by
  intro pins s σ H x y v u Q I rx ry h
  obtain ⟨hy, q⟩ := h
  rcases hy with rfl | ⟨b, rfl⟩
  · exact op_notN pins s σ H x _ v u Q I rx ry ⟨rfl, q⟩
  · cases ry
    have plain : plainIs v (.bool b) = true := by
      cases x <;> first
        | (cases rx; rfl)
        | (obtain ⟨t, rfl⟩ := rx; rfl)
    by_cases e : v = .bool b
    · subst e
      refine wpAny_isNot_self plain (fin_bl I q ?_)
      cases x with
      | bl c =>
        cases rx
        simp
      | non => cases rx
      | int i => obtain ⟨t, z⟩ := rx; cases z
      | str i => obtain ⟨t, z⟩ := rx; cases z
      | byt i => obtain ⟨t, z⟩ := rx; cases z
      | flt i => obtain ⟨t, z⟩ := rx; cases z
      | ref i => cases rx
      | ty i => cases rx
    · refine wpAny_isNot_other plain e (fin_bl I q ?_)
      have : decide (x = V.bl b) = false := by
        apply decide_eq_false
        intro z
        subst z
        exact e rx
      rw [this]; rfl
theorem isC_of {K : PySem.W.Frag} {ρ : Rho} {n : Nat} {H : Hp} {x y : Val} {u w : V} {b : Bool} (v1 : VR K ρ n H x u) (v2 : VR K ρ n H y w) (h : isC x y = some b) : (w = .non ∨ ∃ b, w = .bl b) ∧ decide (u = w) = b := by
  cases y with
  | non =>
    have e2 : w = .non := by simpa [VR] using v2
    subst e2
    refine ⟨.inl rfl, ?_⟩
    cases x with
    | non => simp [isC] at h; have : u = .non := by simpa [VR] using v1
             subst this; simp [← h]
    | tup vs => simp [isC] at h; simp only [VR] at v1; obtain ⟨a, xs, e, _⟩ := v1; subst e; simp [← h]
    | fl vs => simp [isC] at h; simp only [VR] at v1; obtain ⟨a, e, _⟩ := v1; subst e; simp [← h]
    | ref i => simp [isC] at h; simp only [VR] at v1; obtain ⟨a, e⟩ := v1; subst e; simp [← h]
    | bl c => simp [isC] at h; simp only [VR] at v1; subst v1; simp [← h]
    | int c => simp [isC] at h; simp only [VR] at v1; subst v1; simp [← h]
    | str c => simp [isC] at h; simp only [VR] at v1; subst v1; simp [← h]
  | bl d =>
    have e2 : w = .bl d := by simpa [VR] using v2
    subst e2
    refine ⟨.inr ⟨d, rfl⟩, ?_⟩
    cases x with
    | non => simp [isC] at h; simp only [VR] at v1; subst v1; simp [← h]
    | tup vs => simp [isC] at h; simp only [VR] at v1; obtain ⟨a, xs, e, _⟩ := v1; subst e; simp [← h]
    | fl vs => simp [isC] at h; simp only [VR] at v1; obtain ⟨a, e, _⟩ := v1; subst e; simp [← h]
    | ref i => simp [isC] at h; simp only [VR] at v1; obtain ⟨a, e⟩ := v1; subst e; simp [← h]
    | bl c => simp [isC] at h; simp only [VR] at v1; subst v1; simp [← h]
    | int c => simp [isC] at h; simp only [VR] at v1; subst v1; simp [← h]
    | str c => simp [isC] at h; simp only [VR] at v1; subst v1; simp [← h]
  | _ => simp [isC] at h
theorem o_is : OpS X (compareOp .Is) pIs := OpR.imp op_isC fun u w H Q h => by
  obtain ⟨ρ, S, x, y, s, v1, v2, h⟩ := h
  unfold pIs at h
  split at h
  · rename_i b hb
    obtain ⟨h1, h2⟩ := isC_of v1 v2 hb
    rw [h2]
    exact ⟨h1, Post.here (rel := relV X.K) s h (by simp [relV, VR])⟩
  · exact h.elim
theorem o_isNot : OpS X (compareOp .IsNot) pIsNot := OpR.imp op_notC fun u w H Q h => by
  obtain ⟨ρ, S, x, y, s, v1, v2, h⟩ := h
  unfold pIsNot at h
  split at h
  · rename_i b hb
    obtain ⟨h1, h2⟩ := isC_of v1 v2 hb
    rw [h2]
    exact ⟨h1, Post.here (rel := relV X.K) s h (by simp [relV, VR])⟩
  · exact h.elim
/-! ### ==, != -/
/-- a value as data, at most n deep -/
def toD : Nat → Store → Val → Option PyData
  | _, _, .non => some .none
  | _, _, .bl b => some (.bool b)
  | _, _, .int i => some (.int i)
  | _, _, .str x => some (.str x)
  | n + 1, S, .tup vs => (vs.mapM (toD n S)).map .tuple
  | n + 1, S, .ref i => match S[i]? with
    | some (.lst xs) => (xs.mapM (toD n S)).map .list
    | _ => none
  | _, _, _ => none
def DEEP : Nat := 70
def eqO (x y : Val) (S : Store) : Option Bool := match toD DEEP S x, toD DEEP S y with
  | some d, some e => if SeqAt.shaped d && SeqAt.shaped e then some (PyData.eqv d e) else none
  | _, _ => none
def pEq : P2 := fun x y S => match eqO x y S with
  | some b => .ok (.bl b) S
  | none => .bad
def pNe : P2 := fun x y S => match eqO x y S with
  | some b => .ok (.bl (!b)) S
  | none => .bad
theorem mapM_dp {K : PySem.W.Frag} {H : Hp} {ρ : Rho} {m : Nat} {f : Val → Option PyData} (hf : ∀ (v : Val) (u : V) (d : PyData), VR K ρ m H v u → f v = some d → Dp K H u d) :
    ∀ (vs : List Val) (us : List V) (ds : List PyData), VRs K ρ m H vs us → vs.mapM f = some ds → DpAll K H us ds
  | [], us, ds, h, e => by
    simp at e
    subst e
    rw [h.nil_of]
    exact .nil
  | v :: vs, us, ds, h, e => by
    obtain ⟨u, r, rfl, h1, h2⟩ := h.cons_of
    rw [List.mapM_cons] at e
    cases hv : f v with
    | none => rw [hv] at e; cases e
    | some d =>
      rw [hv] at e
      cases hvs : vs.mapM f with
      | none => rw [hvs] at e; cases e
      | some ds' =>
        rw [hvs] at e
        cases e
        exact .cons (hf v u d h1 hv) (mapM_dp hf vs r ds' h2 hvs)
theorem toD_of {K : PySem.W.Frag} {mg : Str → Option Value} {ρ : Rho} {S : Store} {H : Hp} (s : SR K mg ρ S H) : ∀ (n : Nat) (v : Val) (u : V) (d : PyData), VR K ρ S.length H v u → toD n S v = some d → Dp K H u d := by
  intro n
  induction n with
  | zero =>
    intro v u d h e
    cases v <;> simp [toD] at e <;> simp only [VR] at h <;> subst e
    · subst h; exact .non
    · subst h; exact .bl _
    · subst h; exact .int _
    · subst h; exact .str _
  | succ n ih =>
    intro v u d h e
    cases v with
    | non => simp [toD] at e; simp only [VR] at h; subst e h; exact .non
    | bl b => simp [toD] at e; simp only [VR] at h; subst e h; exact .bl _
    | int b => simp [toD] at e; simp only [VR] at h; subst e h; exact .int _
    | str b => simp [toD] at e; simp only [VR] at h; subst e h; exact .str _
    | fl b => simp [toD] at e
    | tup vs =>
      simp only [toD] at e
      simp only [VR] at h
      obtain ⟨a, xs, rfl, q, r⟩ := h
      cases hm : vs.mapM (toD n S) with
      | none => rw [hm] at e; cases e
      | some ds =>
        rw [hm] at e
        cases e
        exact .tup q (mapM_dp (fun v u d => ih v u d) vs xs ds r hm)
    | ref i =>
      simp only [toD] at e
      simp only [VR] at h
      obtain ⟨hi, rfl⟩ := h
      split at e
      · rename_i xs q
        obtain ⟨us, g1, g2⟩ := s.lst q
        cases hm : xs.mapM (toD n S) with
        | none => rw [hm] at e; cases e
        | some ds =>
          rw [hm] at e
          cases e
          exact .lst (SqL.of g1) (mapM_dp (fun v u d => ih v u d) xs us ds g2 hm)
      · cases e
theorem eqO_of {u w : V} {H : Hp} {x y : Val} {ρ : Rho} {S : Store} {b : Bool} (s : SR X.K X.mg ρ S H) (v1 : VR X.K ρ S.length H x u) (v2 : VR X.K ρ S.length H y w) (h : eqO x y S = some b) :
    ∃ d e, Dp X.K H u d ∧ Dp X.K H w e ∧ SeqAt.shaped d = true ∧ SeqAt.shaped e = true ∧ PyData.eqv d e = b := by
  unfold eqO at h
  split at h
  · rename_i d e hd he
    split at h
    · rename_i hs
      simp only [Bool.and_eq_true] at hs
      cases h
      exact ⟨d, e, toD_of s _ _ _ _ v1 hd, toD_of s _ _ _ _ v2 he, hs.1, hs.2, rfl⟩
    · cases h
  · cases h
theorem o_eq (hu : X.A.units + 64 < cLine) : OpS X (compareOp .Eq) pEq := OpR.imp (op_eqD hu) fun u w H Q h => by
  obtain ⟨ρ, S, x, y, s, v1, v2, h⟩ := h
  unfold pEq at h
  split at h
  · rename_i b hb
    obtain ⟨d, e, h1, h2, h3, h4, h5⟩ := eqO_of s v1 v2 hb
    exact ⟨d, e, h1, h2, h3, h4, by rw [h5]; exact Post.here (rel := relV X.K) s h (by simp [relV, VR])⟩
  · exact h.elim
theorem o_ne (hu : X.A.units + 64 < cLine) : OpS X (compareOp .NotEq) pNe := OpR.imp (op_neD hu) fun u w H Q h => by
  obtain ⟨ρ, S, x, y, s, v1, v2, h⟩ := h
  unfold pNe at h
  split at h
  · rename_i b hb
    obtain ⟨d, e, h1, h2, h3, h4, h5⟩ := eqO_of s v1 v2 hb
    exact ⟨d, e, h1, h2, h3, h4, by rw [h5]; exact Post.here (rel := relV X.K) s h (by simp [relV, VR])⟩
  · exact h.elim
/-! ### + of numbers, texts, tuples, lists; * of lists and tuples -/
def newL (xs : List Val) (S : Store) : R Val := .ok (.ref S.length) (S ++ [.lst xs])
def pAdd : P2 := fun x y S => match x, y with
  | .int i, .int j => .ok (.int (i + j)) S
  | .str a, .str b => bite (decide (a.length + b.length ≤ LIM)) (.ok (.str (a ++ b)) S) .bad
  | .tup a, .tup b => bite (decide (a.length + b.length ≤ LIM)) (.ok (.tup (a ++ b)) S) .bad
  | .ref i, .ref j => match S[i]?, S[j]? with
    | some (.lst a), some (.lst b) => bite (decide (a.length + b.length ≤ LIM)) (newL (a ++ b) S) .bad
    | _, _ => .bad
  | _, _ => .bad
theorem tup_new {K : PySem.W.Frag} {mg : Str → Option Value} {ρ : Rho} {S : Store} {H : Hp} {σ : L2.St} {vs : List Val} {us : List V} {Q : VK} (s : SR K mg ρ S H) (h : Post K mg (relV K) W0 ρ S H σ (.ok (.tup vs) S) Q) (r : VRs K ρ S.length H vs us) : ∀ p, H p = none → Q (.ref p) (upd H p (.tup us)) := fun p hp => by
  refine h ρ _ _ (Ext.side hp) (s.side hp) ?_
  simp only [relV, VR]
  exact ⟨p, us, rfl, .inl (.inl upd_same), VRs.ext s (Ext.side hp) _ _ r⟩
theorem lst_new {σ : L2.St} {ρ : Rho} {S : Store} {H : Hp} {vs : List Val} {us : List V} {Q : VK} (s : SR X.K X.mg ρ S H) (h : Post X.K X.mg (relV X.K) W0 ρ S H σ (newL vs S) Q) (r : VRs X.K ρ S.length H vs us) : ∀ p, H p = none → Q (.ref p) (upd H p (.lst us)) :=
  new_of s h fun p hp => ⟨us, upd_same, VRs.ext s (Ext.new hp) _ _ r⟩
theorem add_of {u w : V} {H : Hp} {Q : VK} (h : rP2 X pAdd u w H Q) : (rI0 fun i j => .int (i + j)) u w H Q ∨ (∃ i j, u = .str i ∧ w = .str j ∧ i.length + j.length ≤ sizeLine ∧ Q (.str (i ++ j)) H) ∨ rCatA X.K u w H Q ∨ rCat u w H Q := by
  obtain ⟨ρ, S, x, y, s, v1, v2, h⟩ := h
  unfold pAdd at h
  split at h
  · rename_i i j
    exact .inl ⟨i, j, by simpa [VR] using v1, by simpa [VR] using v2, Post.here (rel := relV X.K) s h (by simp [relV, VR])⟩
  · rename_i a b
    by_cases hz : a.length + b.length ≤ LIM
    · rw [bite_pos (decide_eq_true hz)] at h
      rw [lim_eq] at hz
      exact .inr (.inl ⟨a, b, by simpa [VR] using v1, by simpa [VR] using v2, hz, Post.here (rel := relV X.K) s h (by simp [relV, VR])⟩)
    · rw [bite_neg (decide_eq_false hz)] at h
      exact h.elim
  · rename_i a b
    by_cases hz : a.length + b.length ≤ LIM
    · rw [bite_pos (decide_eq_true hz)] at h
      rw [lim_eq] at hz
      have v1' := v1
      have v2' := v2
      simp only [VR] at v1 v2
      obtain ⟨p, xs, rfl, q1, r1⟩ := v1
      obtain ⟨p2, ys, rfl, q2, r2⟩ := v2
      refine .inr (.inr (.inl ⟨p, p2, xs, ys, rfl, rfl, q1, q2, by rw [← r1.length, ← r2.length]; exact hz, fun e => ?_, fun e1 e2 => ?_, fun _ _ => tup_new s h (r1.append r2)⟩))
      · have : a = [] := by
          have := r1.length
          rw [e] at this
          exact List.eq_nil_of_length_eq_zero this
        subst this
        exact Post.here (rel := relV X.K) s h (by simpa [relV] using v2')
      · have : b = [] := by
          have := r2.length
          rw [e2] at this
          exact List.eq_nil_of_length_eq_zero this
        subst this
        rw [List.append_nil] at h
        exact Post.here (rel := relV X.K) s h v1'
    · rw [bite_neg (decide_eq_false hz)] at h
      exact h.elim
  · rename_i i j
    split at h
    · rename_i a b qa qb
      by_cases hz : a.length + b.length ≤ LIM
      · rw [bite_pos (decide_eq_true hz)] at h
        rw [lim_eq] at hz
        obtain ⟨us, g1, g2⟩ := s.lst qa
        obtain ⟨ws, g3, g4⟩ := s.lst qb
        simp only [VR] at v1 v2
        exact .inr (.inr (.inr ⟨ρ i, ρ j, us, ws, v1.2, v2.2, g1, g3, by rw [← g2.length, ← g4.length]; exact hz, lst_new s h (g2.append g4)⟩))
      · rw [bite_neg (decide_eq_false hz)] at h
        exact h.elim
    · exact h.elim
  · exact h.elim
theorem o_add : OpS X (binaryOp .Add) pAdd := OpR.imp (op_add.or (op_add_str.or (op_catA.or op_cat))) fun _ _ _ _ h => add_of h
def pAddI : P2 := iop (fun _ _ => true) fun i j => i + j
theorem io_addI : OpS X (inplaceOp .Add) pAddI := OpR.imp iop_add fun _ _ _ _ => iop_of0
/-! ### subscripts -/
def pIx : P2 := fun x y S => match x, y with
  | .tup vs, .int i => match atI vs i with
    | some v => .ok v S
    | none => .bad
  | .fl ns, .int i => match atI ns i with
    | some v => .ok (.int v) S
    | none => .bad
  | .str z, .int i => match atI z.cps.toList i with
    | some c => bite (decide (z.length ≤ LIM)) (.ok (.str ⟨#[c]⟩) S) .bad
    | none => .bad
  | .ref a, .int i => match S[a]? with
    | some (.lst vs) => match atI vs i with
      | some v => .ok v S
      | none => .bad
    | some (.dK kvs) => match valL kvs (.inl i) with
      | some v => .ok v S
      | none => .bad
    | _ => .bad
  | .ref a, .str k => match S[a]? with
    | some (.dK kvs) => match valL kvs (.inr k) with
      | some v => .ok v S
      | none => .bad
    | _ => .bad
  | _, _ => .bad
theorem atI_rel {K : PySem.W.Frag} {ρ : Rho} {n : Nat} {H : Hp} {vs : List Val} {us : List V} {i : Int} {v : Val} (r : VRs K ρ n H vs us) (h : atI vs i = some v) : ∃ u, atI us i = some u ∧ VR K ρ n H v u := by
  unfold atI at h ⊢
  rw [← r.length]
  cases hi : ixN vs.length i with
  | none => rw [hi] at h; cases h
  | some j =>
    rw [hi] at h
    obtain ⟨u, h1, h2⟩ := r.get (show vs[j]? = some v from h)
    exact ⟨u, h1, h2⟩
theorem atI_map {α β : Type} {f : α → β} {xs : List α} {i : Int} {v : α} (h : atI xs i = some v) : atI (xs.map f) i = some (f v) := by
  unfold atI at h ⊢
  rw [List.length_map]
  cases hi : ixN xs.length i with
  | none => rw [hi] at h; cases h
  | some j =>
    rw [hi] at h
    show (xs.map f)[j]? = some (f v)
    rw [List.getElem?_map, show xs[j]? = some v from h]
    rfl
/-- a dict's value at a key, as the layer says it -/
theorem valV_lookup {κ : Type} [DecidableEq κ] {K : PySem.W.Frag} {ρ : Rho} {n : Nat} {H : Hp} {k : κ} : ∀ {l : List (κ × Val)} {m : List (κ × V)}, KR K ρ n H l m → match valL l k, valV m k with
    | some v, some u => VR K ρ n H v u
    | none, none => True
    | _, _ => False
  | [], m, h => by
    have : m = [] := by have := h.1; simpa using this.symm
    subst this
    simp [valL, valV]
  | (g, v) :: l, m, h => by
    obtain ⟨h1, h2⟩ := h
    cases m with
    | nil => simp at h1
    | cons p m =>
      obtain ⟨g', u⟩ := p
      simp only [List.map_cons, List.cons.injEq] at h1
      obtain ⟨rfl, h1⟩ := h1
      simp only [List.map_cons] at h2
      obtain ⟨u0, r, e, h2, h3⟩ := h2.cons_of
      cases e
      have ih := valV_lookup (k := k) (l := l) (m := m) ⟨h1, h3⟩
      by_cases q : k = g
      · subst q
        rw [valV_pos rfl]
        simp only [valL, if_true]
        exact h2
      · rw [valV_neg (p := (g, u)) (fun z => q z.symm)]
        simp only [valL, if_neg (fun z => q z.symm : ¬ g = k)]
        exact ih
def rIxD : R2 := fun x y H Q => ∃ a v, x = .ref a ∧ DGet H a y (some v) ∧ Q v H
theorem ix_dict (hu : X.A.units + 1 < cLine) : IxR X rIxD := by
  intro value slice pins s σ H x y v u Q I rx ry h hs
  obtain ⟨a, w, rfl, g, q⟩ := h
  obtain rfl : v = Value.ref a := rx
  have hT : s.TypeIs (.ref a) "dict" := dict_typeIs I g
  have h₂ : wpAny (model X.prog X.w) X.A (getItem (.ref a) u) (EP X pins σ Q) X.xe s := d_getItem hu I g ry fun w' s' I' r' => ⟨w, H, I', r', q⟩
  unfold PyProof.Rows.subscriptTail
  refine wpAny_bind ?_
  rw [getitemInPython_of_ne hT.not_modules]
  refine wpAny_bind (wpAny_specialOf hT PySem.F.slot_dict_getitem.lookup ?_)
  have fin : wpAny (model X.prog X.w) X.A (subscripted slice false (.ref a) u) (fun r s₃ => wpAny (model X.prog X.w) X.A (letTemporaryGo value (.ref a) r >>= fun _ => pure r) (EP X pins σ Q) X.xe s₃) X.xe s := by
    rw [hs]
    exact wpAny_operating (wpAny_mono h₂ (fun r s₃ h₃ => wpAny_bind (wpAny_letTemporaryGo (wpAny_pure h₃))) fun _ _ x => x)
  first
    | exact wpAny_pure (wpAny_bind fin)
    | exact wpAny_bind (wpAny_pure (wpAny_bind fin))
    | exact wpAny_bind fin
theorem dk_get {ρ : Rho} {S : Store} {H : Hp} {a : Nat} {kvs : List (Key × Val)} {k : Key} {v : Val} (s : SR X.K X.mg ρ S H) (q : S[a]? = some (.dK kvs)) (hk : valL kvs k = some v) : ∃ u, DGet H (ρ a) (kV k) (some u) ∧ VR X.K ρ S.length H v u := by
  obtain ⟨us, g1, g2⟩ := s.ob a _ q
  have lk := valV_lookup (k := k) g2
  rw [hk] at lk
  cases hv : valV us k with
  | none => rw [hv] at lk; exact lk.elim
  | some u =>
    rw [hv] at lk
    exact ⟨u, by rw [← hv]; exact DGet.k g1, lk⟩
theorem ix_of {u w : V} {H : Hp} {Q : VK} (h : rP2 X pIx u w H Q) : rIx X.K u w H Q ∨ rIxD u w H Q := by
  obtain ⟨ρ, S, x, y, s, v1, v2, h⟩ := h
  unfold pIx at h
  split at h
  · rename_i vs i
    split at h
    · rename_i v hv
      simp only [VR] at v1 v2
      obtain ⟨a, xs, rfl, q, r⟩ := v1
      obtain ⟨u', h1, h2⟩ := atI_rel r hv
      exact .inl (.inr (.inl ⟨a, xs, i, u', rfl, v2, q, h1, Post.here (rel := relV X.K) s h h2⟩))
    · exact h.elim
  · rename_i ns i
    split at h
    · rename_i v hv
      simp only [VR] at v1 v2
      obtain ⟨a, rfl, q⟩ := v1
      exact .inl (.inl ⟨a, _, i, .int v, rfl, v2, q.seq, atI_map hv, Post.here (rel := relV X.K) s h (by simp [relV, VR])⟩)
    · exact h.elim
  · rename_i z i
    split at h
    · rename_i c hc
      by_cases hz : z.length ≤ LIM
      · rw [bite_pos (decide_eq_true hz)] at h
        rw [lim_eq] at hz
        simp only [VR] at v1 v2
        exact .inl (.inr (.inr ⟨z, i, c, v1, v2, hz, hc, Post.here (rel := relV X.K) s h (by simp [relV, VR])⟩))
      · rw [bite_neg (decide_eq_false hz)] at h
        exact h.elim
    · exact h.elim
  · rename_i a i
    simp only [VR] at v1 v2
    obtain ⟨ha, rfl⟩ := v1
    subst v2
    split at h
    · rename_i vs q
      split at h
      · rename_i v hv
        obtain ⟨us, g1, g2⟩ := s.lst q
        obtain ⟨u', h1, h2⟩ := atI_rel g2 hv
        exact .inl (.inl ⟨_, us, i, u', rfl, rfl, SqL.of g1, h1, Post.here (rel := relV X.K) s h h2⟩)
      · exact h.elim
    · rename_i kvs q
      split at h
      · rename_i v hv
        obtain ⟨u', h1, h2⟩ := dk_get s q hv
        exact .inr ⟨_, u', rfl, h1, Post.here (rel := relV X.K) s h h2⟩
      · exact h.elim
    · exact h.elim
  · rename_i a i
    simp only [VR] at v1 v2
    obtain ⟨ha, rfl⟩ := v1
    subst v2
    split at h
    · rename_i kvs q
      split at h
      · rename_i v hv
        obtain ⟨u', h1, h2⟩ := dk_get s q hv
        exact .inr ⟨_, u', rfl, h1, Post.here (rel := relV X.K) s h h2⟩
      · exact h.elim
    · exact h.elim
  · exact h.elim
theorem e_ix {W : WX} {a b : Expr} {ma mb : ME} {pos : Pos} (hu : X.A.units + 1 < cLine) (ha : PEm X W a ma) (hb : PEm X W b mb) (hs : PlainIx b := by intro _ _; rfl) : PEm X W (.Subscript a b pos) (m2 pIx ma mb) :=
  PE.imp (pe_ix (r := rP2 X pIx) (fun value slice pins s σ H x y v u Q I rx ry h hs => (ix_seq.or (ix_dict hu)) value slice pins s σ H x y v u Q I rx ry (ix_of h) hs) ha hb hs) fun _ _ _ => m2_of
/-! ### slices -/
def cutL {α : Type} (xs : List α) (lo hi : Option Int) : List α := (xs.drop (HT.sIx xs.length 0 lo)).take (HT.sIx xs.length xs.length hi - HT.sIx xs.length 0 lo)
def partV (v : Option Val) : Option (Option Int) := match v with
  | none => some none
  | some (.int i) => some (some i)
  | _ => none
/-- x[lo:hi] -/
def pSl (x : Val) (lo hi : Option Int) (S : Store) : R Val := match x with
  | .tup vs => .ok (.tup (cutL vs lo hi)) S
  | .fl ns => newL ((cutL ns lo hi).map Val.int) S
  | .ref a => match S[a]? with
    | some (.lst vs) => newL (cutL vs lo hi) S
    | _ => .bad
  | _ => .bad
abbrev MO := Loc → Store → R (Option Int)
def oNo : MO := fun _ S => .ok none S
def oSome (e : ME) : MO := fun L S => (e L S).bind fun v S1 => match v with
  | .int i => .ok (some i) S1
  | _ => .bad
def mSl (e : ME) (lo hi : MO) : ME := fun L S => (e L S).bind fun x S1 => (lo L S1).bind fun l S2 => (hi L S2).bind fun h S3 => noExn (pSl x l h S3)
def relO : Rel (Option Int) (Option Int) := fun _ _ _ a b => b = a
def TOm (K : PySem.W.Frag) (mg : Str → Option Value) (W : WX) (m : MO) : TO := fun σ H Q => ∃ ρ S L, SR K mg ρ S H ∧ LR K ρ S.length H L σ ∧ Post K mg relO W ρ S H σ (m L S) Q
abbrev POm (X : Cx) (W : WX) (e : Option Expr) (m : MO) : Prop := PO X e (TOm X.K X.mg W m)
theorem PO.imp {e : Option Expr} {t t' : TO} (h : PO X e t) (i : ∀ σ H Q, t' σ H Q → t σ H Q) : PO X e t' := ⟨fun pins s σ H Q I q => h.run pins s σ H Q I (i σ H Q q)⟩
theorem o_no {W : WX} : POm X W none oNo := PO.imp po_none fun σ H Q ⟨ρ, S, L, s, l, h⟩ => Post.here (rel := relO) s h rfl
theorem o_some {W : WX} {e : Expr} {m : ME} (h : PEm X W e m) : POm X W (some e) (oSome m) := PO.imp (po_some h) fun σ H Q ⟨ρ, S, L, s, l, h⟩ => by
  refine TEm.bind s l h fun ρ1 S1 x u H1 s1 l1 e v h => ?_
  cases x with
  | int i => exact ⟨i, by simpa [VR] using v, Post.here (rel := relO) s1 h rfl⟩
  | _ => exact h.elim
theorem cutV_rel {K : PySem.W.Frag} {ρ : Rho} {n : Nat} {H : Hp} {vs : List Val} {us : List V} (r : VRs K ρ n H vs us) (lo hi : Option Int) : VRs K ρ n H (cutL vs lo hi) (cutV us lo hi) := by
  unfold cutL cutV
  rw [← r.length]
  exact (r.drop _).take _
theorem cutV_map {ns : List Int} {lo hi : Option Int} : cutV (ns.map V.int) lo hi = (cutL ns lo hi).map V.int := by
  unfold cutL cutV
  simp [List.map_take, List.map_drop]
def rSlM (X : Cx) : V → Option Int → Option Int → Hp → VK → Prop := fun u lo hi H Q => ∃ ρ S x, SR X.K X.mg ρ S H ∧ VR X.K ρ S.length H x u ∧ Post X.K X.mg (relV X.K) W0 ρ S H [] (pSl x lo hi S) Q
theorem sl_of {u : V} {lo hi : Option Int} {H : Hp} {Q : VK} (h : rSlM X u lo hi H Q) : rSlL X.K u lo hi H Q ∨ rSlA X.K u lo hi H Q := by
  obtain ⟨ρ, S, x, s, v1, h⟩ := h
  unfold pSl at h
  split at h
  · rename_i vs
    have v1' := v1
    simp only [VR] at v1
    obtain ⟨a, xs, rfl, q, r⟩ := v1
    refine .inr ⟨a, xs, rfl, q, fun e => ?_, fun _ => tup_new s h (cutV_rel r lo hi)⟩
    have : cutL vs lo hi = vs := by
      unfold cutL
      rw [r.length, e.1, e.2]
      simp
      rw [← r.length, List.take_length]
    rw [this] at h
    exact Post.here (rel := relV X.K) s h v1'
  · rename_i ns
    simp only [VR] at v1
    obtain ⟨a, rfl, q⟩ := v1
    refine .inl ⟨a, _, rfl, q.seq, ?_⟩
    rw [cutV_map]
    exact lst_new s h (VRs.of_ints _)
  · rename_i a
    simp only [VR] at v1
    obtain ⟨ha, rfl⟩ := v1
    split at h
    · rename_i vs q
      obtain ⟨us, g1, g2⟩ := s.lst q
      exact .inl ⟨_, us, rfl, SqL.of g1, lst_new s h (cutV_rel g2 lo hi)⟩
    · exact h.elim
  · exact h.elim
theorem TOm.bind {K : PySem.W.Frag} {mg : Str → Option Value} {W : WX} {γ β : Type} {rel : Rel γ β} {m : MO} {k : Option Int → Store → R γ} {ρ : Rho} {S : Store} {H : Hp} {L : Loc} {σ : L2.St} {Q : β → Hp → Prop} (s : SR K mg ρ S H) (l : LR K ρ S.length H L σ)
    (h : Post K mg rel W ρ S H σ ((m L S).bind k) Q) {Q' : Option Int → Hp → Prop} (hq : ∀ ρ1 S1 a H1, SR K mg ρ1 S1 H1 → LR K ρ1 S1.length H1 L σ → Ext ρ S H ρ1 S1 H1 → Post K mg rel W ρ1 S1 H1 σ (k a S1) Q → Q' a H1) :
    TOm K mg W m σ H Q' := ⟨ρ, S, L, s, l, (Post.bind (rel1 := relO) h).mono fun u H1 ⟨ρ1, S1, a, _, e, s1, v, q⟩ => by
      have v' : u = a := v
      subst v'
      exact hq ρ1 S1 u H1 s1 (l.ext s e) e q⟩
theorem e_sl {W : WX} {e : Expr} {m : ME} {lo hi : Option Expr} {ml mh : MO} {p2 pos : Pos} (he : PEm X W e m) (hl : POm X W lo ml) (hh : POm X W hi mh) : PEm X W (.Subscript e (.Slice lo hi none p2) pos) (mSl m ml mh) :=
  PE.imp (pe_slice (r := rSlM X) (fun pins s σ H x v vl vu lo hi sl Q I rx hs pl pu h => (sl_list.or sl_tupA) pins s σ H x v vl vu lo hi sl Q I rx hs pl pu (sl_of h)) he hl hh) fun σ H Q ⟨ρ, S, L, s, l, h⟩ =>
    TEm.bind s l h fun ρ1 S1 x u H1 s1 l1 e1 v h => TOm.bind s1 l1 h fun ρ2 S2 lo H2 s2 l2 e2 h => TOm.bind s2 l2 h fun ρ3 S3 hi H3 s3 l3 e3 h =>
      ⟨ρ3, S3, x, s3, VR.ext s2 e3 _ _ (VR.ext s1 e2 _ _ v), (Post.noExn h W0).sig⟩
end
end Mp

/-! Mp8: stores by place, in, len, isinstance, built-ins, methods, walks. -/
namespace Mp
open PySem PySem.Spec L2
section
variable {X : Cx}
/-! ### o[i] = v -/
def putL {κ α : Type} [DecidableEq κ] (l : List (κ × α)) (k : κ) (v : α) : List (κ × α) := if l.any fun p => decide (p.1 = k) then l.map fun p => if p.1 = k then (p.1, v) else p else l ++ [(k, v)]
def keyOf (v : Val) : Option Key := match v with
  | .int i => some (.inl i)
  | .str x => some (.inr x)
  | _ => none
def keysOf : List Val → Option (List Key)
  | [] => some []
  | v :: vs => match keyOf v, keysOf vs with
    | some k, some ks => some (k :: ks)
    | _, _ => none
def pSet (x y v : Val) (S : Store) : R Unit := match x with
  | .ref a => match S[a]? with
    | some (.lst vs) => match y with
      | .int i => match ixN vs.length i with
        | some j => .ok () (S.set a (.lst (vs.set j v)))
        | none => .bad
      | _ => .bad
    | some (.dK kvs) => match keyOf y with
      | some k => bite (decide (kvs.length < LIM)) (.ok () (S.set a (.dK (putL kvs k v)))) .bad
      | none => .bad
    | _ => .bad
  | _ => .bad
theorem KR.put {κ : Type} [DecidableEq κ] {K : PySem.W.Frag} {ρ : Rho} {n : Nat} {H : Hp} {k : κ} {v : Val} {u : V} {l : List (κ × Val)} {m : List (κ × V)} (h : KR K ρ n H l m) (hv : VR K ρ n H v u) : KR K ρ n H (putL l k v) (putK m k u) := by
  have hany : (l.any fun p => decide (p.1 = k)) = m.any fun p => decide (p.1 = k) := by
    have e : ∀ {α : Type} (l : List (κ × α)), (l.any fun p => decide (p.1 = k)) = (l.map (·.1)).any fun x => decide (x = k) := fun l => by rw [List.any_map]; rfl
    rw [e, e, h.1]
  unfold putL putK
  rw [hany]
  split
  · refine ⟨?_, ?_⟩
    · have e : ∀ {α : Type} (w : α) (l : List (κ × α)), (l.map fun p => if p.1 = k then (p.1, w) else p).map (·.1) = l.map (·.1) := fun w l => by
        rw [List.map_map]
        apply List.map_congr_left
        intro p _
        show (if p.1 = k then (p.1, w) else p).1 = p.1
        split <;> rfl
      rw [e, e, h.1]
    · rename_i hsome
      clear hany hsome
      induction l generalizing m with
      | nil =>
        have : m = [] := by have := h.1; simpa using this.symm
        subst this
        simp [VRs]
      | cons p l ih =>
        cases m with
        | nil => have := h.1; simp at this
        | cons q m =>
          obtain ⟨h1, h2⟩ := h
          simp only [List.map_cons, List.cons.injEq] at h1
          simp only [List.map_cons] at h2 ⊢
          obtain ⟨u0, r, e, h3, h4⟩ := h2.cons_of
          cases e
          refine VRs.cons ?_ (ih ⟨h1.2, h4⟩)
          rw [h1.1]
          by_cases hk : q.1 = k
          · rw [if_pos hk, if_pos hk]; exact hv
          · rw [if_neg hk, if_neg hk]; exact h3
  · exact ⟨by simp [h.1], by simp only [List.map_append, List.map_cons, List.map_nil]; exact h.2.append (VRs.cons hv VRs.nil)⟩
theorem keyOf_of {K : PySem.W.Frag} {ρ : Rho} {n : Nat} {H : Hp} {v : Val} {u : V} {k : Key} (r : VR K ρ n H v u) (h : keyOf v = some k) : u = kV k := by
  cases v with
  | int i => simp [keyOf] at h; subst h; simpa [VR, kV] using r
  | str i => simp [keyOf] at h; subst h; simpa [VR, kV] using r
  | _ => simp [keyOf] at h
theorem keysOf_of {K : PySem.W.Frag} {ρ : Rho} {n : Nat} {H : Hp} : ∀ {vs : List Val} {us : List V} {ks : List Key}, VRs K ρ n H vs us → keysOf vs = some ks → us = ks.map kV
  | [], us, ks, r, h => by simp [keysOf] at h; subst h; exact r.nil_of
  | v :: vs, us, ks, r, h => by
    obtain ⟨u, r', rfl, h1, h2⟩ := r.cons_of
    simp only [keysOf] at h
    split at h
    · rename_i k ks' hk hks
      cases h
      rw [keyOf_of h1 hk, keysOf_of h2 hks]
      rfl
    · cases h
theorem PSet.imp {t t' : TSet} (h : PSet X t) (i : ∀ o j v H Q, t' o j v H Q → t o j v H Q) : PSet X t' := fun pins s σ H o j v ov iv u Q I r1 r2 r3 q => h pins s σ H o j v ov iv u Q I r1 r2 r3 (i _ _ _ _ _ q)
theorem PSet.or {t t' : TSet} (h : PSet X t) (h' : PSet X t') : PSet X (fun o j v H Q => t o j v H Q ∨ t' o j v H Q) := fun pins s σ H o j v ov iv u Q I r1 r2 r3 q => by
  rcases q with q | q
  · exact h pins s σ H o j v ov iv u Q I r1 r2 r3 q
  · exact h' pins s σ H o j v ov iv u Q I r1 r2 r3 q
theorem set_of {o i v : V} {H : Hp} {Q : Hp → Prop} (h : rSet X pSet o i v H Q) : rSetL o i v H Q ∨ rSetD o i v H Q := by
  obtain ⟨ρ, S, x, y, z, s, v1, v2, v3, h⟩ := h
  unfold pSet at h
  split at h
  · rename_i a
    simp only [VR] at v1
    obtain ⟨ha, rfl⟩ := v1
    split at h
    · rename_i vs q
      obtain ⟨us, g1, g2⟩ := s.lst q
      split at h
      · rename_i i'
        split at h
        · rename_i j hj
          refine .inl ⟨ρ a, us, i', j, rfl, by simpa [VR] using v2, g1, by rw [← g2.length]; exact hj, ?_⟩
          have e : Ext ρ S H ρ (S.set a (.lst (vs.set j z))) (upd H (ρ a) (.lst (us.set j v))) := Ext.put ha
          refine h ρ _ () e (s.put ha ⟨_, upd_same, ?_⟩) trivial
          have := VRs.ext s e _ _ (VRs.set j v3 g2)
          simpa using this
        · exact h.elim
      · exact h.elim
    · rename_i kvs q
      split at h
      · rename_i k hk
        by_cases hz : kvs.length < LIM
        · rw [bite_pos (decide_eq_true hz)] at h
          rw [lim_eq] at hz
          obtain ⟨us, g1, g2⟩ := s.ob a _ q
          have ek := keyOf_of v2 hk
          subst ek
          refine .inr ⟨ρ a, _, rfl, DPut.k g1 (by rw [← g2.len]; exact hz), ?_⟩
          have e : Ext ρ S H ρ (S.set a (.dK (putL kvs k z))) (upd H (ρ a) (.dK (putK us k v))) := Ext.put ha
          refine h ρ _ () e (s.put ha ⟨_, upd_same, ?_⟩) trivial
          have := KR.ext s e (g2.put (k := k) v3)
          simpa using this
        · rw [bite_neg (decide_eq_false hz)] at h
          exact h.elim
      · exact h.elim
    · exact h.elim
  · exact h.elim
theorem st_set (hu : X.A.units + 1 < cLine) : PSet X (rSet X pSet) := PSet.imp (PSet.or set_list (set_dict hu)) fun _ _ _ _ _ h => set_of h
/-! ### in -/
def inO (x y : Val) (S : Store) : Option Bool := match y with
  | .ref a => match S[a]? with
    | some (.dK kvs) => match keyOf x with
      | some k => some (valL kvs k).isSome
      | none => none
    | some (.lst vs) => match toD DEEP S x, vs.mapM (toD (DEEP - 1) S) with
      | some d, some ds => if SeqAt.shaped d && SeqAt.shaped (.list ds) then some (ds.any fun z => PyData.eqv z d) else none
      | _, _ => none
    | _ => none
  | _ => none
/-! ### len -/
def lenO (x : Val) (S : Store) : Option Nat := match x with
  | .tup vs => some vs.length
  | .fl ns => some ns.length
  | .str z => if z.length ≤ LIM then some z.length else none
  | .ref a => match S[a]? with
    | some (.lst vs) => some vs.length
    | some (.dK kvs) => some kvs.length
    | _ => none
  | _ => none
def one (f : Val → Store → R Val) : Fn := fun vs S => match vs with
  | [v] => f v S
  | _ => .bad
def fLen : Fn := one fun v S => match lenO v S with
  | some n => .ok (.int n) S
  | none => .bad
theorem one_of {f : Val → Store → R Val} {us : List V} {H : Hp} {Q : VK} (h : rF X (one f) us H Q) : ∃ u, us = [u] ∧ rP1 X f u H Q := by
  obtain ⟨ρ, S, xs, s, v, h⟩ := h
  unfold one at h
  split at h
  · rename_i x
    obtain ⟨u, rfl, r⟩ := v.one
    exact ⟨u, rfl, ρ, S, x, s, r, h⟩
  · exact h.elim
theorem call_lenD : CallR X (.builtin "len") (fun xs H Q => ∃ a kvs, xs = [.ref a] ∧ H a = some (.dK kvs) ∧ Q (.int kvs.length) H) := by
  intro pins s σ H xs us Q I r h
  obtain ⟨a, kvs, rfl, e, q⟩ := h
  obtain rfl := Vals.ref1 r
  exact d_len I (.inl e) fun t s' I' => ⟨.int kvs.length, H, I', ⟨t, rfl⟩, q⟩
theorem len_of {us : List V} {H : Hp} {Q : VK} (h : rF X fLen us H Q) : (∃ x n, us = [x] ∧ LenV X.K x H n ∧ Q (.int n) H) ∨ (∃ a kvs, us = [.ref a] ∧ H a = some (.dK kvs) ∧ Q (.int kvs.length) H) := by
  replace h := one_of h
  obtain ⟨u, rfl, ρ, S, x, s, v, h⟩ := h
  dsimp only at h
  split at h
  · rename_i n hn
    have q : Q (.int n) H := Post.here (rel := relV X.K) s h (by simp [relV, VR])
    unfold lenO at hn
    split at hn
    · rename_i vs
      cases hn
      simp only [VR] at v
      obtain ⟨a, xs, rfl, h1, h2⟩ := v
      exact .inl ⟨_, _, rfl, .inr ⟨xs, h1, h2.length⟩, q⟩
    · rename_i ns
      cases hn
      simp only [VR] at v
      obtain ⟨a, rfl, h1⟩ := v
      exact .inl ⟨_, _, rfl, .inl ⟨_, h1.seq, by simp⟩, q⟩
    · rename_i z
      split at hn
      · rename_i hz
        cases hn
        rw [lim_eq] at hz
        simp only [VR] at v
        subst v
        exact .inl ⟨_, _, rfl, ⟨hz, rfl⟩, q⟩
      · cases hn
    · rename_i a
      simp only [VR] at v
      obtain ⟨ha, rfl⟩ := v
      split at hn
      · rename_i vs e
        cases hn
        obtain ⟨us, g1, g2⟩ := s.lst e
        exact .inl ⟨_, _, rfl, .inl ⟨us, SqL.of g1, g2.length⟩, q⟩
      · rename_i kvs e
        cases hn
        obtain ⟨us, g1, g2⟩ := s.ob a _ e
        rw [g2.len] at q
        exact .inr ⟨_, us, rfl, g1, q⟩
      · cases hn
    · cases hn
  · exact h.elim
theorem c_len : CallR X (.builtin "len") (rF X fLen) := CallR.imp (call_len.or call_lenD) fun _ _ _ h => len_of h
/-! ### int(n), list(xs), tuple(xs), abs, max, min of two, ord -/
def fInt : Fn := one fun v S => match v with
  | .int i => .ok (.int i) S
  | .bl b => .ok (.int (if b then 1 else 0)) S
  | _ => .bad
theorem c_int : CallR X (.type "int") (rF X fInt) := CallR.imp call_int1 fun us H Q h => by
  replace h := one_of h
  obtain ⟨u, rfl, ρ, S, x, s, v, h⟩ := h
  dsimp only at h
  split at h
  · simp only [VR] at v; subst v
    exact .inl ⟨_, rfl, Post.here (rel := relV X.K) s h (by simp [relV, VR])⟩
  · simp only [VR] at v; subst v
    exact .inr ⟨_, rfl, Post.here (rel := relV X.K) s h (by simp [relV, VR])⟩
  · exact h.elim
def fAbs : Fn := one fun v S => match v with
  | .int i => .ok (.int (if i < 0 then -i else i)) S
  | _ => .bad
theorem c_abs : CallR X (.builtin "abs") (rF X fAbs) := CallR.imp call_abs fun us H Q h => by
  replace h := one_of h
  obtain ⟨u, rfl, ρ, S, x, s, v, h⟩ := h
  dsimp only at h
  split at h
  · simp only [VR] at v; subst v
    exact ⟨_, rfl, Post.here (rel := relV X.K) s h (by simp [relV, VR])⟩
  · exact h.elim
def two (f : Int → Int → Int) : Fn := fun vs S => match vs with
  | [.int i, .int j] => .ok (.int (f i j)) S
  | _ => .bad
theorem two_of {f : Int → Int → Int} {us : List V} {H : Hp} {Q : VK} (h : rF X (two f) us H Q) : ∃ i j, us = [.int i, .int j] ∧ Q (.int (f i j)) H := by
  obtain ⟨ρ, S, xs, s, v, h⟩ := h
  unfold two at h
  split at h
  · obtain ⟨u, w, rfl, r1, r2⟩ := v.two
    simp only [VR] at r1 r2
    subst r1 r2
    exact ⟨_, _, rfl, Post.here (rel := relV X.K) s h (by simp [relV, VR])⟩
  · exact h.elim
def fMax : Fn := two fun i j => if j > i then j else i
def fMin : Fn := two fun i j => if j < i then j else i
theorem c_max (hc : X.calm = true) : CallR X (.builtin "max") (rF X fMax) := CallR.imp (call_max2 hc) fun us H Q h => two_of h
theorem c_min (hc : X.calm = true) : CallR X (.builtin "min") (rF X fMin) := CallR.imp (call_min2 hc) fun us H Q h => two_of h
def itemsO (x : Val) (S : Store) : Option (List Val) := match x with
  | .tup vs => some vs
  | .fl ns => some (ns.map Val.int)
  | .ref a => match S[a]? with
    | some (.lst vs) => some vs
    | _ => none
  | _ => none
theorem items_of {ρ : Rho} {S : Store} {H : Hp} {x : Val} {u : V} {vs : List Val} (s : SR X.K X.mg ρ S H) (v : VR X.K ρ S.length H x u) (h : itemsO x S = some vs) : ∃ a us, u = .ref a ∧ (SqL X.K H a us ∨ SqT X.K H a us) ∧ VRs X.K ρ S.length H vs us := by
  unfold itemsO at h
  split at h
  · cases h
    simp only [VR] at v
    obtain ⟨a, xs, rfl, h1, h2⟩ := v
    exact ⟨a, xs, rfl, .inr h1, h2⟩
  · cases h
    simp only [VR] at v
    obtain ⟨a, rfl, h1⟩ := v
    exact ⟨a, _, rfl, .inl h1.seq, VRs.of_ints _⟩
  · rename_i a
    simp only [VR] at v
    obtain ⟨ha, rfl⟩ := v
    split at h
    · rename_i vs' e
      cases h
      obtain ⟨us, g1, g2⟩ := s.lst e
      exact ⟨_, us, rfl, .inl (SqL.of g1), g2⟩
    · cases h
  · cases h
def fList : Fn := one fun v S => match itemsO v S with
  | some vs => newL vs S
  | none => .bad
theorem c_list : CallR X (.type "list") (rF X fList) := CallR.imp call_list_of fun us H Q h => by
  replace h := one_of h
  obtain ⟨u, rfl, ρ, S, x, s, v, h⟩ := h
  dsimp only at h
  split at h
  · rename_i vs e
    obtain ⟨a, us, rfl, h1, h2⟩ := items_of s v e
    exact ⟨a, us, rfl, h1, lst_new s h h2⟩
  · exact h.elim
def fTuple : Fn := one fun v S => match itemsO v S with
  | some vs => .ok (.tup vs) S
  | none => .bad
theorem c_tuple : CallR X (.type "tuple") (rF X fTuple) := CallR.imp call_tuple_of fun us H Q h => by
  replace h := one_of h
  obtain ⟨u, rfl, ρ, S, x, s, v, h⟩ := h
  dsimp only at h
  split at h
  · rename_i vs e
    unfold itemsO at e
    split at e
    · cases e
      have v' := v
      simp only [VR] at v
      obtain ⟨a, xs, rfl, h1, h2⟩ := v
      exact ⟨a, xs, rfl, .inr ⟨h1, Post.here (rel := relV X.K) s h v'⟩⟩
    · cases e
      simp only [VR] at v
      obtain ⟨a, rfl, h1⟩ := v
      exact ⟨a, _, rfl, .inl ⟨h1.seq, tup_new s h (VRs.of_ints _)⟩⟩
    · rename_i a
      simp only [VR] at v
      obtain ⟨ha, rfl⟩ := v
      split at e
      · rename_i vs' e'
        cases e
        obtain ⟨us, g1, g2⟩ := s.lst e'
        exact ⟨_, us, rfl, .inl ⟨SqL.of g1, tup_new s h g2⟩⟩
      · cases e
    · cases e
  · exact h.elim
/-! ### isinstance -/
/-- the name of a value's type (an instance has none here) -/
def tyName (v : Val) (S : Store) : Option String := match v with
  | .non => some "NoneType"
  | .bl _ => some "bool"
  | .int _ => some "int"
  | .str _ => some "str"
  | .tup _ => some "tuple"
  | .fl _ => some "list"
  | .ref a => match S[a]? with
    | some (.lst _) => some "list"
    | some (.dK _) => some "dict"
    | some (.dT _) => some "dict"
    | _ => none
/-- is a value of the type t one of T -/
def subTy (t T : String) : Bool := t == T || (t == "bool" && T == "int")
def pIsT (T : String) : P1 := fun v S => match tyName v S with
  | some t => .ok (.bl (subTy t T)) S
  | none => .bad
def pIsAny (Ts : List String) : P1 := fun v S => match tyName v S with
  | some t => .ok (.bl (Ts.any (subTy t))) S
  | none => .bad
theorem ty_of {ρ : Rho} {S : Store} {H : Hp} {x : Val} {u : V} {t : String} (s : SR X.K X.mg ρ S H) (v : VR X.K ρ S.length H x u) (h : tyName x S = some t) : TyX X.K H u (.type t) := by
  unfold tyName at h
  split at h
  · cases h; simp only [VR] at v; subst v; exact .base .non
  · cases h; simp only [VR] at v; subst v; exact .base (.bl _)
  · cases h; simp only [VR] at v; subst v; exact .base (.int _)
  · cases h; simp only [VR] at v; subst v; exact .base (.str _)
  · cases h
    simp only [VR] at v
    obtain ⟨a, xs, rfl, (h1 | ⟨o, h1⟩) | ⟨o, its, n, h1, h2, _⟩, _⟩ := v
    · exact .base (.tup h1)
    · exact .fTuple h1
    · exact .kTuple h1 h2
  · cases h
    simp only [VR] at v
    obtain ⟨a, rfl, ⟨o, h1⟩ | ⟨o, its, n, h1, h2, _⟩⟩ := v
    · exact .base (.frz h1)
    · exact .kList h1 h2
  · rename_i a
    simp only [VR] at v
    obtain ⟨ha, rfl⟩ := v
    split at h
    · rename_i vs e
      cases h
      obtain ⟨us, g1, g2⟩ := s.lst e
      exact .base (.lst g1)
    · rename_i vs e
      cases h
      obtain ⟨us, g1, g2⟩ := s.ob a _ e
      exact .base (.dK g1)
    · rename_i vs e
      cases h
      obtain ⟨us, g1, g2⟩ := s.ob a _ e
      exact .base (.dT g1)
    · cases h
def tyNames : List String := ["NoneType", "bool", "int", "str", "tuple", "list", "dict"]
def tyTests : List String := ["bool", "int", "str", "tuple", "list", "dict"]
theorem tyName_mem {v : Val} {S : Store} {t : String} (h : tyName v S = some t) : t ∈ tyNames := by
  unfold tyName at h
  split at h
  all_goals first
    | (cases h; decide)
    | (split at h <;> first | (cases h; decide) | cases h)
theorem kit_all : (tyNames.all fun t => tyTests.all fun T => kitB t T == some (subTy t T)) = true := by decide +kernel
theorem kit_one {K : PySem.W.Frag} {t T : String} (ht : t ∈ tyNames) (hT : T ∈ tyTests) : PySem.W.kitOne K (.type t) (.type T) = some (subTy t T) := by
  have := List.all_eq_true.mp (List.all_eq_true.mp kit_all t ht) T hT
  exact kit_ty (by simpa using this)
/-- isinstance(x, T), T a built-in class -/
theorem e_isT {W : WX} {a : Expr} {ma : ME} {p pos p2 : Pos} {T : Str} {Tn : String} (hg : Gl X "isinstance") (hm : X.mg "isinstance" = none) (ha : PEm X W a ma) (hgT : Gl X T) (hmT : X.mg T = none) (hvT : bootBuiltins T = some (.type Tn)) (hT : Tn ∈ tyTests)
    (hn : T ≠ "__name__" := by decide) (hd : (T == ("__debug__" : Str)) = false := by decide)
    (hs1 : starEach [a, .Name T p2] X.env = (false, eval a X.env) :: starEach [.Name T p2] X.env := by rfl) (hs2 : starEach [.Name T p2] X.env = (false, eval (.Name T p2) X.env) :: starEach [] X.env := by rfl) (hpl : (backTo pos (starEach [.Name T p2] X.env)).any (·.1) = false := by rfl) :
    PEm X W (.Call (.Name "isinstance" p) [a, .Name T p2] [] pos) (m1 (pIsT Tn) ma) :=
  PE.imp (pe_callB call_isi hg hm (by decide +kernel) (pa_cons ha (pa_cons (pe_bltn (v := .ty Tn) hgT hmT hvT rfl hn hd) pa_nil hs2) hs1) (by decide) (by decide) hs1 hpl) fun σ H Q h => by
    obtain ⟨ρ, S, L, s, l, h⟩ := h
    refine TEm.bind s l h fun ρ1 S1 x u H1 s1 l1 e v h => ?_
    have h := (Post.noExn h W0).sig (σ' := σ)
    unfold pIsT at h
    split at h
    · rename_i t ht
      exact ⟨u, .ty Tn, .type t, .type Tn, subTy t Tn, rfl, .ty Tn, ty_of s1 v ht, kit_one (tyName_mem ht) hT, Post.here (rel := relV X.K) s1 h (by simp [relV, VR])⟩
    · exact h.elim
end
end Mp

/-! Mp9: in, methods, sorted, walks over ranges, enumerate, zip. -/
namespace Mp
open PySem PySem.Spec L2
section
variable {X : Cx}
/-! ### in, not in -/
def flatL (v : Val) : Option V := match v with
  | .non => some .non
  | .bl b => some (.bl b)
  | .int i => some (.int i)
  | .str x => some (.str x)
  | _ => none
def inF (x y : Val) (S : Store) : Option Bool := match y with
  | .ref a => match S[a]? with
    | some (.dK kvs) => match keyOf x with
      | some k => some (valL kvs k).isSome
      | none => none
    | some (.lst vs) => match flatL x, vs.mapM flatL with
      | some u, some us => some (inV u us)
      | _, _ => none
    | _ => none
  | .tup vs => match flatL x, vs.mapM flatL with
    | some u, some us => some (inV u us)
    | _, _ => none
  | _ => none
def pIn : P2 := fun x y S => match inF x y S with
  | some b => .ok (.bl b) S
  | none => .bad
def pNotIn : P2 := fun x y S => match inF x y S with
  | some b => .ok (.bl (!b)) S
  | none => .bad
theorem flat_of {K : PySem.W.Frag} {ρ : Rho} {n : Nat} {H : Hp} {x : Val} {u w : V} (v : VR K ρ n H x u) (h : flatL x = some w) : u = w ∧ flatV w = true := by
  cases x with
  | non => simp [flatL] at h; simp only [VR] at v; subst h v; exact ⟨rfl, rfl⟩
  | bl b => simp [flatL] at h; simp only [VR] at v; subst h v; exact ⟨rfl, rfl⟩
  | int b => simp [flatL] at h; simp only [VR] at v; subst h v; exact ⟨rfl, rfl⟩
  | str b => simp [flatL] at h; simp only [VR] at v; subst h v; exact ⟨rfl, rfl⟩
  | _ => simp [flatL] at h
theorem flats_of {K : PySem.W.Frag} {ρ : Rho} {n : Nat} {H : Hp} : ∀ {xs : List Val} {us ws : List V}, VRs K ρ n H xs us → xs.mapM flatL = some ws → us = ws ∧ ws.all flatV = true
  | [], us, ws, v, h => by simp at h; subst h; exact ⟨v.nil_of, rfl⟩
  | x :: xs, us, ws, v, h => by
    obtain ⟨u, r, rfl, h1, h2⟩ := v.cons_of
    rw [List.mapM_cons] at h
    cases hx : flatL x with
    | none => rw [hx] at h; cases h
    | some d =>
      rw [hx] at h
      cases hxs : xs.mapM flatL with
      | none => rw [hxs] at h; cases h
      | some ds =>
        rw [hxs] at h
        cases h
        obtain ⟨e1, f1⟩ := flat_of h1 hx
        obtain ⟨e2, f2⟩ := flats_of h2 hxs
        subst e1 e2
        exact ⟨rfl, by simp [f1, f2]⟩
def rInK (neg : Bool) : R2 := fun x y H Q => ∃ a o, y = .ref a ∧ DGet H a x o ∧ Q (.bl (if neg then !o.isSome else o.isSome)) H
theorem op_inK (hu : X.A.units + 1 < cLine) : OpR X (compareOp .In) (rInK false) := by
  intro pins s σ H x y v u Q I rx ry h
  obtain ⟨a, o, rfl, g, q⟩ := h
  obtain rfl : u = Value.ref a := ry
  exact d_in hu I g rx fun s' I' => ⟨.bl o.isSome, H, I', rfl, q⟩
theorem op_notInK (hu : X.A.units + 1 < cLine) : OpR X (compareOp .NotIn) (rInK true) := by
  intro pins s σ H x y v u Q I rx ry h
  obtain ⟨a, o, rfl, g, q⟩ := h
  obtain rfl : u = Value.ref a := ry
  exact d_notIn hu I g rx fun s' I' => ⟨.bl (!o.isSome), H, I', rfl, q⟩
theorem inF_of {neg : Bool} {u w : V} {H : Hp} {Q : VK} {ρ : Rho} {S : Store} {x y : Val} {b : Bool} (s : SR X.K X.mg ρ S H) (v1 : VR X.K ρ S.length H x u) (v2 : VR X.K ρ S.length H y w) (hb : inF x y S = some b) (q : Q (.bl (if neg then !b else b)) H) : rIn X.K neg u w H Q ∨ rInK neg u w H Q := by
  unfold inF at hb
  split at hb
  · rename_i a
    simp only [VR] at v2
    obtain ⟨ha, rfl⟩ := v2
    split at hb
    · rename_i kvs e
      split at hb
      · rename_i k hk
        cases hb
        obtain ⟨us, g1, g2⟩ := s.ob a _ e
        have ek := keyOf_of v1 hk
        subst ek
        have lk := valV_lookup (k := k) g2
        have : (valL kvs k).isSome = (valV us k).isSome := by
          cases h1 : valL kvs k <;> cases h2 : valV us k <;> rw [h1, h2] at lk <;> first | rfl | exact lk.elim
        rw [this] at q
        exact .inr ⟨_, _, rfl, DGet.k g1, q⟩
      · cases hb
    · rename_i vs e
      split at hb
      · rename_i d ds hd hds
        cases hb
        obtain ⟨us, g1, g2⟩ := s.lst e
        obtain ⟨e1, f1⟩ := flat_of v1 hd
        obtain ⟨e2, f2⟩ := flats_of g2 hds
        subst e1 e2
        exact .inl ⟨_, _, rfl, .inl (SqL.of g1), f1, f2, q⟩
      · cases hb
    · cases hb
  · rename_i vs
    simp only [VR] at v2
    obtain ⟨a, xs, rfl, g1, g2⟩ := v2
    split at hb
    · rename_i d ds hd hds
      cases hb
      obtain ⟨e1, f1⟩ := flat_of v1 hd
      obtain ⟨e2, f2⟩ := flats_of g2 hds
      subst e1 e2
      exact .inl ⟨_, _, rfl, .inr g1, f1, f2, q⟩
    · cases hb
  · cases hb
theorem o_in (hu : X.A.units + 1 < cLine) : OpS X (compareOp .In) pIn := OpR.imp (op_in_seq.or (op_inK hu)) fun u w H Q h => by
  obtain ⟨ρ, S, x, y, s, v1, v2, h⟩ := h
  unfold pIn at h
  split at h
  · rename_i b hb
    exact inF_of (neg := false) s v1 v2 hb (Post.here (rel := relV X.K) s h (by simp [relV, VR]))
  · exact h.elim
theorem o_notIn (hu : X.A.units + 1 < cLine) : OpS X (compareOp .NotIn) pNotIn := OpR.imp (op_notIn_seq.or (op_notInK hu)) fun u w H Q h => by
  obtain ⟨ρ, S, x, y, s, v1, v2, h⟩ := h
  unfold pNotIn at h
  split at h
  · rename_i b hb
    exact inF_of (neg := true) s v1 v2 hb (Post.here (rel := relV X.K) s h (by simp [relV, VR]))
  · exact h.elim
/-! ### methods of built-in types -/
abbrev Mt := Val → List Val → Store → R Val
def isTy (T : String) (v : Val) (S : Store) : Bool := match v with
  | .ref a => match S[a]? with
    | some (.lst _) => T == "list"
    | some (.dK _) => T == "dict"
    | some (.dT _) => T == "dict"
    | _ => false
  | .fl _ => T == "list"
  | .str _ => T == "str"
  | _ => false
/-- o.m(..), o of the built-in class T -/
def mBM (T : String) (f : Mt) (o : ME) (a : MA) : ME := fun L S => (o L S).bind fun x S1 => bite (isTy T x S1) ((a L S1).bind fun vs S2 => noExn (f x vs S2)) .bad
def rM (X : Cx) (f : Mt) : V → List V → Hp → VK → Prop := fun u us H Q => ∃ ρ S x xs, SR X.K X.mg ρ S H ∧ VR X.K ρ S.length H x u ∧ VRs X.K ρ S.length H xs us ∧ Post X.K X.mg (relV X.K) W0 ρ S H [] (f x xs S) Q
theorem isTy_of {T : String} {ρ : Rho} {S : Store} {H : Hp} {x : Val} {u : V} (s : SR X.K X.mg ρ S H) (v : VR X.K ρ S.length H x u) (h : isTy T x S = true) : tyV X.K T u H := by
  unfold isTy at h
  split at h
  · rename_i a
    simp only [VR] at v
    obtain ⟨ha, rfl⟩ := v
    split at h
    · rename_i vs e
      obtain ⟨us, g1, g2⟩ := s.lst e
      exact .inl ⟨by simpa using h, us, SqL.of g1⟩
    · rename_i vs e
      obtain ⟨us, g1, g2⟩ := s.ob a _ e
      exact .inr (.inr (.inl ⟨by simpa using h, .inl ⟨us, g1⟩⟩))
    · rename_i vs e
      obtain ⟨us, g1, g2⟩ := s.ob a _ e
      exact .inr (.inr (.inl ⟨by simpa using h, .inr ⟨us, g1⟩⟩))
    · cases h
  · simp only [VR] at v
    obtain ⟨a, rfl, h1⟩ := v
    exact .inl ⟨by simpa using h, _, h1.seq⟩
  · simp only [VR] at v
    subst v
    show T = "str"
    simpa using h
  · cases h
theorem MtR.imp {id : String} {r r' : V → List V → Hp → VK → Prop} (h : MtR X id r) (i : ∀ u us H Q, r' u us H Q → r u us H Q) : MtR X id r' := fun pins s σ H x xs v us Q I rx rs q => h pins s σ H x xs v us Q I rx rs (i _ _ _ _ q)
variable {W : WX} {o e : Expr} {es : List Expr} {mo : ME} {ma : MA} {name : Str} {apos cpos pos : Pos} {T id : String} {f : Mt}
theorem bm_of {σ : L2.St} {H : Hp} {Q : VK} (h : TEm X.K X.mg W (mBM T f mo ma) σ H Q) : TEm X.K X.mg W mo σ H fun x H1 => tyV X.K T x H1 ∧ TAm X.K X.mg W ma σ H1 fun xs H2 => rM X f x xs H2 Q := by
  obtain ⟨ρ, S, L, s, l, h⟩ := h
  refine TEm.bind s l h fun ρ1 S1 x u H1 s1 l1 e v h => ?_
  cases ht : isTy T x S1 with
  | false => rw [ht] at h; exact h.elim
  | true =>
    rw [ht] at h
    exact ⟨isTy_of s1 v ht, TAm.bind s1 l1 h fun ρ2 S2 xs us H2 s2 l2 e2 v2 h => ⟨ρ2, S2, x, xs, s2, VR.ext s1 e2 _ _ v, v2, (Post.noExn h W0).sig⟩⟩
theorem e_bm (pa : PlainAttrs T) (slot : Slot T name id) (hty : typeOf (.builtin id) = pure (.type "method_descriptor")) (hm : MtR X id (rM X f)) (ho : PEm X W o mo) (ha : PAm X W (e :: es) ma)
    (hbase : attributeBase o name X.env (eval o X.env) = eval o X.env := by rfl)
    (hfew : ((backTo cpos (starEach (e :: es) X.env)).all (fun x => !x.1) && (backToKw cpos (keywordEach [] X.env)).all (fun x => x.1.isSome)
      && decide ((e :: es).length + ([] : List Keyword).length + (if ([] : List Keyword).isEmpty then 0 else 1) < 30)) = true := by rfl)
    (hline : (apos.endLine == cpos.line) = true := by rfl) (hs : starEach (e :: es) X.env = (false, eval e X.env) :: starEach es X.env := by rfl) (hplain : (backTo cpos (starEach es X.env)).any (·.1) = false := by rfl) :
    PEm X W (.Call (.Attribute o name apos) (e :: es) [] cpos) (mBM T f mo ma) := PE.imp (pe_bm pa slot hty hm ho ha hbase hfew hline hs hplain) fun _ _ _ => bm_of
theorem e_bm0 (pa : PlainAttrs T) (slot : Slot T name id) (hty : typeOf (.builtin id) = pure (.type "method_descriptor")) (hm : MtR X id (rM X f)) (ho : PEm X W o mo)
    (hbase : attributeBase o name X.env (eval o X.env) = eval o X.env := by rfl) (hline : (apos.endLine == cpos.line) = true := by rfl) : PEm X W (.Call (.Attribute o name apos) [] [] cpos) (mBM T f mo aNil) := PE.imp (pe_bm0 pa slot hty hm ho hbase hline) fun σ H Q h => by
  obtain ⟨ρ, S, L, s, l, h⟩ := bm_of h
  refine ⟨ρ, S, L, s, l, h.mono fun x H1 ⟨ty, ρ1, S1, L1, s1, l1, h1⟩ => ⟨ty, ?_⟩⟩
  exact Post.here (rel := relVs X.K) s1 h1 VRs.nil
def fAppend : Mt := fun x vs S => match x, vs with
  | .ref a, [v] => match S[a]? with
    | some (.lst xs) => bite (decide (xs.length < LIM)) (.ok .non (S.set a (.lst (xs ++ [v])))) .bad
    | _ => .bad
  | _, _ => .bad
theorem m_append : MtR X "list.append" (rM X fAppend) := MtR.imp mt_append fun u us H Q h => by
  obtain ⟨ρ, S, x, xs, s, v1, v2, h⟩ := h
  unfold fAppend at h
  split at h
  · rename_i a v
    obtain ⟨u1, rfl, r1⟩ := v2.one
    simp only [VR] at v1
    obtain ⟨ha, rfl⟩ := v1
    split at h
    · rename_i ys q
      obtain ⟨ws, g1, g2⟩ := s.lst q
      by_cases hz : ys.length < LIM
      · rw [bite_pos (decide_eq_true hz)] at h
        rw [lim_eq] at hz
        refine ⟨ρ a, ws, u1, rfl, rfl, g1, by rw [← g2.length]; exact hz, ?_⟩
        have e : Ext ρ S H ρ (S.set a (.lst (ys ++ [v]))) (upd H (ρ a) (.lst (ws ++ [u1]))) := Ext.put ha
        refine h ρ _ _ e (s.put ha ⟨_, upd_same, ?_⟩) (by simp [relV, VR])
        have := VRs.ext s e _ _ (g2.append (VRs.cons r1 VRs.nil))
        simpa using this
      · rw [bite_neg (decide_eq_false hz)] at h
        exact h.elim
    · exact h.elim
  · exact h.elim
def fExtend : Mt := fun x vs S => match x, vs with
  | .ref a, [.ref b] => match S[a]?, S[b]? with
    | some (.lst xs), some (.lst ys) => bite (decide (xs.length + ys.length ≤ LIM)) (.ok .non (S.set a (.lst (xs ++ ys)))) .bad
    | _, _ => .bad
  | _, _ => .bad
theorem m_extend : MtR X "list.extend" (rM X fExtend) := MtR.imp mt_extend fun u us H Q h => by
  obtain ⟨ρ, S, x, xs, s, v1, v2, h⟩ := h
  unfold fExtend at h
  split at h
  · rename_i a b
    obtain ⟨u1, rfl, r1⟩ := v2.one
    simp only [VR] at v1 r1
    obtain ⟨ha, rfl⟩ := v1
    obtain ⟨hb, rfl⟩ := r1
    split at h
    · rename_i ys zs q q2
      obtain ⟨ws, g1, g2⟩ := s.lst q
      obtain ⟨ws2, g3, g4⟩ := s.lst q2
      by_cases hz : ys.length + zs.length ≤ LIM
      · rw [bite_pos (decide_eq_true hz)] at h
        rw [lim_eq] at hz
        refine ⟨ρ a, ρ b, ws, ws2, rfl, rfl, g1, g3, by rw [← g2.length, ← g4.length]; exact hz, ?_⟩
        have e : Ext ρ S H ρ (S.set a (.lst (ys ++ zs))) (upd H (ρ a) (.lst (ws ++ ws2))) := Ext.put ha
        refine h ρ _ _ e (s.put ha ⟨_, upd_same, ?_⟩) (by simp [relV, VR])
        have := VRs.ext s e _ _ (g2.append g4)
        simpa using this
      · rw [bite_neg (decide_eq_false hz)] at h
        exact h.elim
    · exact h.elim
  · exact h.elim
def fPopAt : Mt := fun x vs S => match x, vs with
  | .ref a, [.int i] => match S[a]? with
    | some (.lst xs) => match ixN xs.length i with
      | some k => match xs[k]? with
        | some y => bite (decide (-(2 ^ 63) ≤ i) && decide (i < 2 ^ 63)) (.ok y (S.set a (.lst (xs.eraseIdx k)))) .bad
        | none => .bad
      | none => .bad
    | _ => .bad
  | _, _ => .bad
theorem m_popAt : MtR X "list.pop" (rM X fPopAt) := MtR.imp mt_popAt fun u us H Q h => by
  obtain ⟨ρ, S, x, xs, s, v1, v2, h⟩ := h
  unfold fPopAt at h
  split at h
  · rename_i a i
    obtain ⟨u1, rfl, r1⟩ := v2.one
    simp only [VR] at v1 r1
    obtain ⟨ha, rfl⟩ := v1
    subst r1
    split at h
    · rename_i ys q
      obtain ⟨ws, g1, g2⟩ := s.lst q
      split at h
      · rename_i k hk
        split at h
        · rename_i y hy
          cases hz : (decide (-(2 ^ 63) ≤ i) && decide (i < 2 ^ 63)) with
          | false => rw [hz] at h; exact h.elim
          | true =>
            rw [hz] at h
            simp only [Bool.and_eq_true, decide_eq_true_eq] at hz
            obtain ⟨u2, hu2, r2⟩ := g2.get hy
            refine ⟨ρ a, ws, i, k, u2, rfl, rfl, g1, hz.1, hz.2, by rw [← g2.length]; exact (ixN_seq hk).1, hu2, ?_⟩
            have e : Ext ρ S H ρ (S.set a (.lst (ys.eraseIdx k))) (upd H (ρ a) (.lst (ws.eraseIdx k))) := Ext.put ha
            refine h ρ _ _ e (s.put ha ⟨_, upd_same, ?_⟩) ?_
            · have := VRs.ext s e _ _ (g2.eraseIdx k)
              simpa using this
            · have := VR.ext s e _ _ r2
              simpa [relV] using this
        · exact h.elim
      · exact h.elim
    · exact h.elim
  · exact h.elim
/-- d.pop(k), k there -/
def dropL {κ α : Type} [DecidableEq κ] (l : List (κ × α)) (k : κ) : List (κ × α) := l.filter fun p => decide (p.1 ≠ k)
def fDPop : Mt := fun x vs S => match x, vs with
  | .ref a, [v] => match S[a]? with
    | some (.dK kvs) => match keyOf v with
      | some k => match valL kvs k with
        | some y => .ok y (S.set a (.dK (dropL kvs k)))
        | none => .bad
      | none => .bad
    | _ => .bad
  | _, _ => .bad
theorem KR.drop {κ : Type} [DecidableEq κ] {K : PySem.W.Frag} {ρ : Rho} {n : Nat} {H : Hp} {k : κ} : ∀ {l : List (κ × Val)} {m : List (κ × V)}, KR K ρ n H l m → KR K ρ n H (dropL l k) (dropK m k)
  | [], m, h => by
    have : m = [] := by have := h.1; simpa using this.symm
    subst this
    exact ⟨rfl, by simp [dropL, dropK, VRs]⟩
  | (g, v) :: l, m, h => by
    obtain ⟨h1, h2⟩ := h
    cases m with
    | nil => simp at h1
    | cons p m =>
      obtain ⟨g', u⟩ := p
      simp only [List.map_cons, List.cons.injEq] at h1
      obtain ⟨rfl, h1⟩ := h1
      simp only [List.map_cons] at h2
      obtain ⟨u0, r, e, h2, h3⟩ := h2.cons_of
      cases e
      have ih := KR.drop (k := k) (l := l) (m := m) ⟨h1, h3⟩
      by_cases q : g = k
      · have e1 : dropL ((g, v) :: l) k = dropL l k := by unfold dropL; rw [List.filter_cons_of_neg (by simp [q])]
        have e2 : dropK ((g, u) :: m) k = dropK m k := by unfold dropK; rw [List.filter_cons_of_neg (by simp [q])]
        rw [e1, e2]; exact ih
      · have e1 : dropL ((g, v) :: l) k = (g, v) :: dropL l k := by unfold dropL; rw [List.filter_cons_of_pos (by simp [q])]
        have e2 : dropK ((g, u) :: m) k = (g, u) :: dropK m k := by unfold dropK; rw [List.filter_cons_of_pos (by simp [q])]
        rw [e1, e2]
        exact ⟨by simp [ih.1], by simp only [List.map_cons]; exact VRs.cons h2 ih.2⟩
theorem e_dpop (ho : PEm X W o mo) {me : ME} (he : PEm X W e me) (m : M1 X o "pop" apos e cpos) : PEm X W (.Call (.Attribute o "pop" apos) [e] [] cpos) (mBM "dict" fDPop mo (aCons me aNil)) := PE.imp (pe_dpop1 ho he m) fun σ H Q h => by
  obtain ⟨ρ, S, L, s, l, h⟩ := h
  refine TEm.bind s l h fun ρ1 S1 x u H1 s1 l1 e1 v h => ?_
  cases ht : isTy "dict" x S1 with
  | false => rw [ht] at h; exact h.elim
  | true =>
    rw [ht] at h
    have hd := isTy_of s1 v ht
    -- the receiver is a dict
    have isd : ∃ b a, x = .ref b ∧ u = .ref a ∧ IsD H1 a := by
      cases x with
      | ref i =>
        simp only [isTy] at ht
        simp only [VR] at v
        obtain ⟨hi, rfl⟩ := v
        split at ht
        · cases ht
        · rename_i kvs q
          obtain ⟨us, g1, g2⟩ := s1.ob i _ q
          exact ⟨i, _, rfl, rfl, .inl ⟨us, .inl g1⟩⟩
        · rename_i kvs q
          obtain ⟨us, g1, g2⟩ := s1.ob i _ q
          exact ⟨i, _, rfl, rfl, .inr ⟨us, .inl g1⟩⟩
        · cases ht
      | fl ns => cases ht
      | str z => cases ht
      | _ => cases ht
    obtain ⟨b, a, rfl, rfl, hda⟩ := isd
    refine ⟨a, rfl, hda, ?_⟩
    have h : Post X.K X.mg (relV X.K) W ρ1 S1 H1 σ (((me L S1).bind fun y S2 => (R.ok [] S2).bind fun ys S3 => R.ok (y :: ys) S3).bind fun vs S2 => noExn (fDPop (.ref b) vs S2)) Q := h
    have h' : Post X.K X.mg (relV X.K) W ρ1 S1 H1 σ ((me L S1).bind fun y S2 => noExn (fDPop (.ref b) [y] S2)) Q := by
      cases hm : me L S1 <;> rw [hm] at h <;> exact h
    refine TEm.bind s1 l1 h' fun ρ2 S2 y w H2 s2 l2 e2 v2 h => ?_
    have h := (Post.noExn h W0).sig (σ' := σ)
    have v' := VR.ext s1 e2 _ _ v
    simp only [VR] at v'
    obtain ⟨hb, eb⟩ := v'
    cases eb
    have h : Post X.K X.mg (relV X.K) W0 ρ2 S2 H2 σ (match S2[b]? with
      | some (.dK kvs) => match keyOf y with
        | some k => match valL kvs k with
          | some y => .ok y (S2.set b (.dK (dropL kvs k)))
          | none => .bad
        | none => .bad
      | _ => .bad) Q := h
    split at h
    · rename_i kvs q
      split at h
      · rename_i k hk
        split at h
        · rename_i val hval
          obtain ⟨us, g1, g2⟩ := s2.ob b _ q
          have ek := keyOf_of v2 hk
          subst ek
          have lk := valV_lookup (k := k) g2
          rw [hval] at lk
          cases hv : valV us k with
          | none => rw [hv] at lk; exact lk.elim
          | some u' =>
            rw [hv] at lk
            refine ⟨us, k, u', g1, rfl, hv, ?_⟩
            have e : Ext ρ2 S2 H2 ρ2 (S2.set b (.dK (dropL kvs k))) (upd H2 (ρ2 b) (.dK (dropK us k))) := Ext.put hb
            refine h ρ2 _ _ e (s2.put hb ⟨_, upd_same, ?_⟩) ?_
            · have := KR.ext s2 e (g2.drop (k := k))
              simpa using this
            · have := VR.ext s2 e _ _ lk
              simpa [relV] using this
        · exact h.elim
      · exact h.elim
    · exact h.elim
end
/-! ### walks -/
section
variable {X : Cx} {W : WX} {e a b : Expr} {es : List Expr} {m ma' : ME} {ma : MA} {tg : Expr} {p pos tpos : Pos}
theorem big_eq : BIG = 2 ^ 62 := by decide
theorem rangeL_get {lo : Int} {n i : Nat} {x : Val} (h : (rangeL lo n)[i]? = some x) : i < n ∧ x = .int (lo + (i : Nat)) := by
  unfold rangeL at h
  rw [List.getElem?_map] at h
  cases hr : (List.range n)[i]? with
  | none => rw [hr] at h; cases h
  | some j =>
    rw [hr] at h
    have hl := (List.getElem?_eq_some_iff.mp hr)
    obtain ⟨h1, h2⟩ := hl
    simp at h1 h2
    subst h2
    cases h
    exact ⟨h1, rfl⟩
theorem rng_it {K : PySem.W.Frag} {mg : Str → Option Value} {ρ : Rho} {S : Store} {H : Hp} {lo : Int} {n : Nat} : ItR K mg ρ S H ⟨rangeL lo n, fun _ => True⟩ (Itr lo n) := fun ρ S H e s _ i => by
  refine ⟨fun x hx => ?_, fun hx => ?_⟩
  · obtain ⟨h1, rfl⟩ := rangeL_get hx
    refine ⟨h1, fun u H' y => ?_⟩
    obtain ⟨eH, eu⟩ := y
    subst eH eu
    exact ⟨Ext.refl _ _ _, s, by simp [VR]⟩
  · have := List.getElem?_eq_none_iff.mp hx
    show n ≤ i
    simpa [rangeL] using this
theorem TAm.bindI {mi : MI} {k : List Val → Store → R It} {σ : L2.St} {H : Hp} {Q : L2.It → Hp → Prop} (h : TIm X.K X.mg W (fun L S => (ma L S).bind k) σ H Q) {Q' : List V → Hp → Prop}
    (hq : ∀ ρ1 S1 vs us H1, SR X.K X.mg ρ1 S1 H1 → VRs X.K ρ1 S1.length H1 vs us → Post X.K X.mg (ItR X.K X.mg) W ρ1 S1 H1 σ (k vs S1) Q → Q' us H1) : TAm X.K X.mg W ma σ H Q' := by
  obtain ⟨ρ, S, L, s, l, h⟩ := h
  exact TAm.bind s l h fun ρ1 S1 vs us H1 s1 _ _ v q => hq ρ1 S1 vs us H1 s1 v q
theorem i_rng1 (hg : Gl X "range") (hm : X.mg "range" = none) (ha : PAm X W [a] ma) (hs : starEach [a] X.env = [(false, eval a X.env)] := by rfl) : PIm X W tg (.Call (.Name "range" p) [a] [] pos) (Mp.iRng1 ma) := PI.imp (pi_range1 hg hm ha hs) fun σ H R h =>
  TAm.bindI (mi := Mp.iRng1 ma) h fun ρ1 S1 vs us H1 s1 v h => by
    unfold rngOf1 at h
    split at h
    · rename_i j
      obtain ⟨u, rfl, r⟩ := v.one
      simp only [VR] at r
      subst r
      by_cases hz : -BIG ≤ j ∧ j < BIG
      · rw [bite_pos (decide_eq_true hz)] at h
        rw [big_eq] at hz
        exact ⟨j, rfl, hz.1, hz.2, Post.here (rel := ItR X.K X.mg) s1 h rng_it⟩
      · rw [bite_neg (decide_eq_false hz)] at h
        exact h.elim
    · exact h.elim
theorem i_rng2 (hg : Gl X "range") (hm : X.mg "range" = none) (ha : PAm X W [a, b] ma) (hs : starEach [a, b] X.env = [(false, eval a X.env), (false, eval b X.env)] := by rfl) (hs2 : starEach [b] X.env = [(false, eval b X.env)] := by rfl) : PIm X W tg (.Call (.Name "range" p) [a, b] [] pos) (Mp.iRng2 ma) := PI.imp (pi_range2 hg hm ha hs hs2) fun σ H R h =>
  TAm.bindI (mi := Mp.iRng2 ma) h fun ρ1 S1 vs us H1 s1 v h => by
    unfold rngOf2 at h
    split at h
    · rename_i i j
      obtain ⟨u, w, rfl, r1, r2⟩ := v.two
      simp only [VR] at r1 r2
      subst r1 r2
      by_cases hz : -BIG ≤ i ∧ i < BIG ∧ -BIG ≤ j ∧ j < BIG
      · rw [bite_pos (decide_eq_true hz)] at h
        rw [big_eq] at hz
        exact ⟨i, j, rfl, hz, Post.here (rel := ItR X.K X.mg) s1 h rng_it⟩
      · rw [bite_neg (decide_eq_false hz)] at h
        exact h.elim
    · exact h.elim
/-- a list or a tuple that is walked, as it stands at a turn -/
def SqB (K : PySem.W.Frag) (b : Bool) (H : Hp) (a : Addr) (us : List V) : Prop := match b with
  | true => SqL K H a us
  | false => SqT K H a us
theorem seq_of {K : PySem.W.Frag} {mg : Str → Option Value} {ρ : Rho} {S : Store} {H : Hp} {x : Val} {u : V} {bb : Bool} {xs : List Val} {kp : Store → Prop} (s : SR K mg ρ S H) (v : VR K ρ S.length H x u) (h : seqOf x S = some (bb, xs, kp)) :
    ∃ a us, u = .ref a ∧ SqB K bb H a us ∧ VRs K ρ S.length H xs us ∧ ∀ ρ' S' H', Ext ρ S H ρ' S' H' → SR K mg ρ' S' H' → kp S' → ∃ us, SqB K bb H' a us ∧ VRs K ρ' S'.length H' xs us := by
  unfold seqOf at h
  split at h
  · rename_i i
    simp only [VR] at v
    obtain ⟨hi, rfl⟩ := v
    split at h
    · rename_i xs' q
      cases h
      obtain ⟨us, g1, g2⟩ := s.lst q
      refine ⟨ρ i, us, rfl, SqL.of g1, g2, fun ρ' S' H' e s' k => ?_⟩
      obtain ⟨us', g1', g2'⟩ := s'.lst k
      rw [e.rho i hi] at g1'
      exact ⟨us', SqL.of g1', g2'⟩
    · cases h
  · cases h
    simp only [VR] at v
    obtain ⟨a, us, rfl, g1, g2⟩ := v
    exact ⟨a, us, rfl, g1, g2, fun ρ' S' H' e s' _ => ⟨us, e.tup s g1, VRs.ext s e _ _ g2⟩⟩
  · cases h
    simp only [VR] at v
    obtain ⟨a, rfl, g1⟩ := v
    exact ⟨a, _, rfl, g1.seq, VRs.of_ints _, fun ρ' S' H' e s' _ => ⟨_, (e.fz s g1).seq, VRs.of_ints _⟩⟩
  · cases h
/-- a new pair at T -/
theorem pair_new {K : PySem.W.Frag} {mg : Str → Option Value} {ρ : Rho} {S : Store} {H : Hp} {T : Addr} {x y : Val} {u w : V} (s : SR K mg ρ S H) (hT : H T = none) (r1 : VR K ρ S.length H x u) (r2 : VR K ρ S.length H y w) :
    Ext ρ S H ρ S (upd H T (.tup [u, w])) ∧ SR K mg ρ S (upd H T (.tup [u, w])) ∧ VR K ρ S.length (upd H T (.tup [u, w])) (.tup [x, y]) (.ref T) := by
  refine ⟨Ext.side hT, s.side hT, ?_⟩
  simp only [VR]
  exact ⟨T, _, rfl, .inl (.inl upd_same), VRs.ext s (Ext.side hT) _ _ (VRs.cons r1 (VRs.cons r2 VRs.nil))⟩
theorem enumL_get {xs : List Val} {i : Nat} {z : Val} (h : (enumL xs)[i]? = some z) : ∃ x, xs[i]? = some x ∧ z = .tup [.int (i : Nat), x] := by
  unfold enumL at h
  rw [List.getElem?_zipWith] at h
  cases hx : xs[i]? with
  | none => rw [hx] at h; simp at h
  | some x =>
    have hl := (List.getElem?_eq_some_iff.mp hx).1
    rw [hx, List.getElem?_range hl] at h
    cases h
    exact ⟨x, rfl, rfl⟩
theorem i_enum {elts : List Expr} {kk : Nat} (hg : Gl X "enumerate") (hm : X.mg "enumerate" = none) (ha : PAm X W [e] ma) (hs : starEach [e] X.env = [(false, eval e X.env)] := by rfl)
    (hl : ∀ σ H R, TIm X.K X.mg W (Mp.iEnum ma) σ H R → TAm X.K X.mg W ma σ H fun vs H1 => ∃ a xs, vs = [.ref a] ∧ SqL X.K H1 a xs ∧ R (Ite X.K a) H1) : PIm X W (.Tuple elts kk tpos) (.Call (.Name "enumerate" p) [e] [] pos) (Mp.iEnum ma) :=
  PI.imp (pi_enum hg hm ha hs) fun σ H R h => hl σ H R h
theorem zipT_get {xs ys : List Val} {i : Nat} {z : Val} (h : (List.zipWith (fun x y => Val.tup [x, y]) xs ys)[i]? = some z) : ∃ x y, xs[i]? = some x ∧ ys[i]? = some y ∧ z = .tup [x, y] := by
  rw [List.getElem?_zipWith] at h
  cases hx : xs[i]? with
  | none => rw [hx] at h; simp at h
  | some x =>
    cases hy : ys[i]? with
    | none => rw [hx, hy] at h; simp at h
    | some y =>
      rw [hx, hy] at h
      cases h
      exact ⟨x, y, rfl, rfl, rfl⟩
theorem i_zip {elts : List Expr} {kk : Nat} (hg : Gl X "zip") (hm : X.mg "zip" = none) (ha : PAm X W [a, b] ma)
    (hs : starEach [a, b] X.env = (false, eval a X.env) :: starEach [b] X.env := by rfl) (hpl : (backTo pos (starEach [b] X.env)).any (·.1) = false := by rfl) : PIm X W (.Tuple elts kk tpos) (.Call (.Name "zip" p) [a, b] [] pos) (Mp.iZip ma) :=
  PI.imp (RZ.pi_zipA hg hm ha hs hpl) fun σ H R h => TAm.bindI (mi := Mp.iZip ma) h fun ρ1 S1 vs us H1 s1 v h => by
    unfold zipOf at h
    split at h
    · rename_i x y
      obtain ⟨u, w, rfl, r1, r2⟩ := v.two
      split at h
      · rename_i b1 xs k1 b2 ys k2 e1 e2
        cases hb : (b1 == b2) with
        | false => rw [hb] at h; exact h.elim
        | true =>
          rw [hb] at h
          have hb' : b1 = b2 := by simpa using hb
          subst hb'
          obtain ⟨ad, ua, rfl, g1, g2, g3⟩ := seq_of s1 r1 e1
          obtain ⟨bd, ub, rfl, q1, q2, q3⟩ := seq_of s1 r2 e2
          cases b1 with
          | true =>
            refine ⟨ad, bd, ua, ub, rfl, .inl ⟨g1, q1, Post.here (rel := ItR X.K X.mg) s1 h fun ρ S H e s ks i => ?_⟩⟩
            obtain ⟨us1, c1, c2⟩ := g3 ρ S H e s ks.1
            obtain ⟨us2, d1, d2⟩ := q3 ρ S H e s ks.2
            refine ⟨fun z hz => ?_, fun hz => ?_⟩
            · obtain ⟨x', y', hx, hy, rfl⟩ := zipT_get hz
              obtain ⟨u1, hu1, ru1⟩ := c2.get hx
              obtain ⟨u2, hu2, ru2⟩ := d2.get hy
              refine ⟨⟨us1, us2, u1, u2, c1, d1, hu1, hu2⟩, fun u H' yl => ?_⟩
              obtain ⟨T, a1, a2, eu, hT, eH, y1, y2⟩ := yl
              subst eu eH
              have z1 := y1 us1 c1
              have z2 := y2 us2 d1
              rw [hu1] at z1
              rw [hu2] at z2
              cases z1
              cases z2
              exact pair_new s hT ru1 ru2
            · refine ⟨us1, us2, c1, d1, ?_⟩
              have := List.getElem?_eq_none_iff.mp hz
              simp at this
              rw [← c2.length, ← d2.length]
              omega
          | false =>
            refine ⟨ad, bd, ua, ub, rfl, .inr ⟨g1, q1, Post.here (rel := ItR X.K X.mg) s1 h fun ρ S H e s ks i => ?_⟩⟩
            obtain ⟨us1, c1, c2⟩ := g3 ρ S H e s ks.1
            obtain ⟨us2, d1, d2⟩ := q3 ρ S H e s ks.2
            refine ⟨fun z hz => ?_, fun hz => ?_⟩
            · obtain ⟨x', y', hx, hy, rfl⟩ := zipT_get hz
              obtain ⟨u1, hu1, ru1⟩ := c2.get hx
              obtain ⟨u2, hu2, ru2⟩ := d2.get hy
              refine ⟨⟨us1, us2, u1, u2, c1, d1, hu1, hu2⟩, fun u H' yl => ?_⟩
              obtain ⟨T, a1, a2, eu, hT, eH, y1, y2⟩ := yl
              subst eu eH
              have z1 := y1 us1 c1
              have z2 := y2 us2 d1
              rw [hu1] at z1
              rw [hu2] at z2
              cases z1
              cases z2
              exact pair_new s hT ru1 ru2
            · refine ⟨us1, us2, c1, d1, ?_⟩
              have := List.getElem?_eq_none_iff.mp hz
              simp at this
              rw [← c2.length, ← d2.length]
              omega
      · exact h.elim
    · exact h.elim
/-! ### sorted(d) of a dict of ints -/
def intKeys : List (Key × Val) → Option (List Int)
  | [] => some []
  | (.inl i, _) :: r => (intKeys r).map (i :: ·)
  | (.inr _, _) :: _ => none
def insI (i : Int) : List Int → List Int
  | [] => [i]
  | j :: r => if i ≤ j then i :: j :: r else j :: insI i r
def sortI : List Int → List Int
  | [] => []
  | i :: r => insI i (sortI r)
theorem insI_perm (i : Int) : ∀ l : List Int, (insI i l).Perm (i :: l)
  | [] => List.Perm.refl _
  | j :: r => by
    unfold insI
    split
    · exact List.Perm.refl _
    · exact ((insI_perm i r).cons j).trans (List.Perm.swap i j r)
theorem sortI_perm : ∀ l : List Int, (sortI l).Perm l
  | [] => List.Perm.refl _
  | i :: r => (insI_perm i _).trans ((sortI_perm r).cons i)
theorem insI_sorted (i : Int) : ∀ l : List Int, l.Pairwise (· ≤ ·) → (insI i l).Pairwise (· ≤ ·)
  | [], _ => by simp [insI]
  | j :: r, h => by
    unfold insI
    rw [List.pairwise_cons] at h
    split
    · rename_i hij
      rw [List.pairwise_cons]
      refine ⟨fun x hx => ?_, by rw [List.pairwise_cons]; exact h⟩
      rcases List.mem_cons.mp hx with rfl | hx
      · exact hij
      · exact Int.le_trans hij (h.1 x hx)
    · rename_i hij
      rw [List.pairwise_cons]
      refine ⟨fun x hx => ?_, insI_sorted i r h.2⟩
      rcases List.mem_cons.mp ((insI_perm i r).mem_iff.mp hx) with rfl | hx
      · omega
      · exact h.1 x hx
theorem sortI_sorted : ∀ l : List Int, (sortI l).Pairwise (· ≤ ·)
  | [] => by simp [sortI]
  | i :: r => insI_sorted i _ (sortI_sorted r)
theorem sorted_unique : ∀ (l m : List Int), l.Perm m → l.Pairwise (· ≤ ·) → m.Pairwise (· ≤ ·) → l = m
  | [], m, h, _, _ => (List.nil_perm.mp h).symm
  | i :: r, [], h, _, _ => absurd h.length_eq (by simp)
  | i :: r, j :: s, h, h1, h2 => by
    rw [List.pairwise_cons] at h1 h2
    have e : i = j := by
      have a1 : i ∈ j :: s := h.mem_iff.mp (by simp)
      have a2 : j ∈ i :: r := h.mem_iff.mpr (by simp)
      rcases List.mem_cons.mp a1 with a1 | a1
      · exact a1
      · rcases List.mem_cons.mp a2 with a2 | a2
        · exact a2.symm
        · exact Int.le_antisymm (h1.1 j a2) (h2.1 i a1)
    subst e
    rw [sorted_unique r s ((List.perm_cons i).mp h) h1.2 h2.2]
theorem intKeys_of : ∀ {l : List (Key × Val)} {ks : List Int}, intKeys l = some ks → l.map (·.1) = ks.map Sum.inl
  | [], ks, h => by simp [intKeys] at h; subst h; rfl
  | (.inl i, v) :: r, ks, h => by
    simp only [intKeys] at h
    cases hr : intKeys r with
    | none => rw [hr] at h; cases h
    | some ks' =>
      rw [hr] at h
      cases h
      simp [intKeys_of hr]
  | (.inr _, _) :: _, ks, h => by simp [intKeys] at h
def fSortD : Fn := one fun v S => match v with
  | .ref a => match S[a]? with
    | some (.dK kvs) => match intKeys kvs with
      | some ks => bite (decide (ks.length < 64)) (newL ((sortI ks).map Val.int) S) .bad
      | none => .bad
    | _ => .bad
  | _ => .bad
theorem c_sortD (hc : X.calm = true) : CallR X (.builtin "sorted") (rF X fSortD) := CallR.imp (call_sortedDI hc) fun us H Q h => by
  replace h := one_of h
  obtain ⟨u, rfl, ρ, S, x, s, v, h⟩ := h
  dsimp only at h
  split at h
  · rename_i a
    simp only [VR] at v
    obtain ⟨ha, rfl⟩ := v
    split at h
    · rename_i kvs q
      split at h
      · rename_i ks hks
        by_cases hz : ks.length < 64
        · rw [bite_pos (decide_eq_true hz)] at h
          obtain ⟨us, g1, g2⟩ := s.ob a _ q
          refine ⟨ρ a, us, ks, rfl, .inl g1, by rw [← g2.1]; exact intKeys_of hks, hz, fun ys p h1 h2 hp => ?_⟩
          have : ys = sortI ks := sorted_unique _ _ (h1.trans (sortI_perm ks).symm) h2 (sortI_sorted ks)
          subst this
          exact lst_new s h (VRs.of_ints _) p hp
        · rw [bite_neg (decide_eq_false hz)] at h
          exact h.elim
      · exact h.elim
    · exact h.elim
  · exact h.elim
end
end Mp

/-! Mp10: the forms that the printer names. -/
namespace Mp
open PySem PySem.Spec L2
structure FldAt (K : PySem.W.Frag) (mg : Str → Option Value) (cn f : Str) : Prop where
  ex : ∃ C, mg cn = some (.ref C) ∧ Cls K C ∧ NoAttr K C f
section
variable {X : Cx} {W : WX} {e a b o value : Expr} {m mo mv ma mb mi me : ME} {pos pos' tpos : Pos} {cn f : Str}
theorem e_fldA (h : FldAt X.K X.mg cn f) (he : PEm X W e m) (hb : attributeBase e f X.env (eval e X.env) = eval e X.env := by rfl) : PEm X W (.Attribute e f pos) (m1 (getF cn f) m) := by
  obtain ⟨C, h1, h2, h3⟩ := h.ex
  exact e_fld h1 h2 h3 he hb
theorem s_fldA (h : FldAt X.K X.mg cn f) (ho : PEm X W o mo) (hv : PEm X W value mv) (hs : swapsWith value (some (.Attribute o f pos')) pos.line X.env = pure false := by rfl) : PSm X W (.Assign [.Attribute o f pos'] value pos) (Mp.sFld cn f mo mv) := by
  obtain ⟨C, h1, h2, h3⟩ := h.ex
  exact s_fld h1 h2 h3 ho hv hs
theorem s_fldAugA {op : Operator} {p : P2} (h : FldAt X.K X.mg cn f) (ho : PEm X W o mo) (hv : PEm X W value mv) (hop : OpS X (inplaceOp op) p) : PSm X W (.AugAssign (.Attribute o f tpos) op value pos) (Mp.sFldAug cn f mo mv p) := by
  obtain ⟨C, h1, h2, h3⟩ := h.ex
  exact s_fldAug h1 h2 h3 ho hv hop
/-- isinstance(x, (T, U)) -/
theorem e_isT2 {p p2 p3 pt : Pos} {x1} {T U : Str} {Tn Un : String} (hg : Gl X "isinstance") (hm : X.mg "isinstance" = none) (ha : PEm X W a ma) (hgT : Gl X T) (hmT : X.mg T = none) (hvT : bootBuiltins T = some (.type Tn)) (hT : Tn ∈ tyTests)
    (hgU : Gl X U) (hmU : X.mg U = none) (hvU : bootBuiltins U = some (.type Un)) (hU : Un ∈ tyTests)
    (hn : T ≠ "__name__" := by decide) (hd : (T == ("__debug__" : Str)) = false := by decide) (hn' : U ≠ "__name__" := by decide) (hd' : (U == ("__debug__" : Str)) = false := by decide)
    (hs1 : starEach [a, .Tuple [.Name T p2, .Name U p3] x1 pt] X.env = (false, eval a X.env) :: starEach [.Tuple [.Name T p2, .Name U p3] x1 pt] X.env := by rfl)
    (hs2 : starEach [.Tuple [.Name T p2, .Name U p3] x1 pt] X.env = (false, eval (.Tuple [.Name T p2, .Name U p3] x1 pt) X.env) :: starEach [] X.env := by rfl)
    (hs3 : starEach [.Name T p2, .Name U p3] X.env = (false, eval (.Name T p2) X.env) :: starEach [.Name U p3] X.env := by rfl) (hs4 : starEach [.Name U p3] X.env = (false, eval (.Name U p3) X.env) :: starEach [] X.env := by rfl)
    (hpl : (backTo pos (starEach [.Tuple [.Name T p2, .Name U p3] x1 pt] X.env)).any (·.1) = false := by rfl) :
    PEm X W (.Call (.Name "isinstance" p) [a, .Tuple [.Name T p2, .Name U p3] x1 pt] [] pos) (m1 (pIsAny [Tn, Un]) ma) :=
  PE.imp (pe_callB call_isiT hg hm (by decide +kernel) (pa_cons ha (pa_cons (pe_tup (pa_cons (pe_bltn (v := .ty Tn) hgT hmT hvT rfl hn hd) (pa_cons (pe_bltn (v := .ty Un) hgU hmU hvU rfl hn' hd') pa_nil hs4) hs3)) pa_nil hs2) hs1) (by decide) (by decide) hs1 hpl) fun σ H Q h => by
    obtain ⟨ρ, S, L, s, l, h⟩ := h
    refine TEm.bind s l h fun ρ1 S1 x u H1 s1 l1 e v h => ?_
    have h := (Post.noExn h W0).sig (σ' := σ)
    unfold pIsAny at h
    split at h
    · rename_i t ht
      refine ⟨by show 2 ≤ sizeLine; decide, fun tp htp => ?_⟩
      have e2 : Ext ρ1 S1 H1 ρ1 S1 (upd H1 tp (.tup [.ty Tn, .ty Un])) := Ext.side htp
      have s2 := s1.side (o := .tup [.ty Tn, .ty Un]) htp
      have k1 := kit_one (K := X.K) (tyName_mem ht) hT
      have k2 := kit_one (K := X.K) (tyName_mem ht) hU
      have ka : PySem.W.kitAny X.K (.type t) [.type Tn, .type Un] = some (subTy t Tn || subTy t Un) := kitAny_cons k1 (fun h1 => kitAny_cons k2 (fun h2 => by rw [h1, h2]; exact kitAny_nil) (fun h2 => by rw [h2]; simp)) (fun h1 => by rw [h1]; rfl)
      have ea : ([Tn, Un].any (subTy t)) = (subTy t Tn || subTy t Un) := by simp
      rw [ea] at h
      exact ⟨u, tp, [.ty Tn, .ty Un], .type t, [.type Tn, .type Un], _, rfl, upd_same, .cons (.ty Tn) (.cons (.ty Un) .nil), ty_of s2 (VR.ext s1 e2 _ _ v) ht, ka, h ρ1 _ _ e2 s2 (by simp [relV, VR])⟩
    · exact h.elim
/-- o[i] op= e -/
def rG (X : Cx) : V → V → Hp → VK → Prop := fun u w H Q => rP2 X pIx u w H Q
end
end Mp

/-! MpS: the combinators, applied: for simp. -/
namespace Mp
open PySem (Str)
/-! the store: read, write, one more -/
def sg (S : Store) (i : Nat) : Option Ob := S[i]?
def ss (S : Store) (i : Nat) (o : Ob) : Store := S.set i o
def sp (S : Store) (o : Ob) : Store := S ++ [o]
def sl (S : Store) : Nat := S.length
section
variable {S : Store} {i j : Nat} {o u : Ob}
theorem sg_lt (h : sg S i = some u) : i < sl S := (List.getElem?_eq_some_iff.mp h).1
@[simp] theorem sg_ss_same (h : (sg S i).isSome = true) : sg (ss S i o) i = some o := by
  cases e : sg S i with
  | none => rw [e] at h; cases h
  | some u => exact List.getElem?_set_self (sg_lt e)
@[simp] theorem sg_ss_ne (h : ¬ j = i) : sg (ss S i o) j = sg S j := List.getElem?_set_ne (Ne.symm h)
theorem sg_ss_ne' (h : ¬ i = j) : sg (ss S i o) j = sg S j := List.getElem?_set_ne h
@[simp] theorem ss_ss : ss (ss S i o) i u = ss S i u := List.set_set ..
@[simp] theorem sl_ss : sl (ss S i o) = sl S := by simp [sl, ss]
@[simp] theorem sl_sp : sl (sp S o) = sl S + 1 := by simp [sl, sp]
@[simp] theorem sg_sp_new : sg (sp S o) (sl S) = some o := by simp [sg, sp, sl]
@[simp] theorem sg_sp_old (h : (sg S i).isSome = true) : sg (sp S o) i = sg S i := by
  cases e : sg S i with
  | none => rw [e] at h; cases h
  | some u =>
    have := sg_lt e
    unfold sg sp
    rw [List.getElem?_append_left this]
    exact e
@[simp] theorem sg_sp_new' (h : i = sl S) : sg (sp S o) i = some o := by rw [h]; exact sg_sp_new
theorem sg_sp_lt (h : i < sl S) : sg (sp S o) i = sg S i := by
  unfold sg sp
  rw [List.getElem?_append_left h]
end
section
variable {L : Loc} {S : Store}
@[simp] theorem mC_app (v : Val) : mC v L S = .ok v S := rfl
@[simp] theorem mV_app (i : Nat) : mV i L S = getL L i S := rfl
@[simp] theorem m1_app (p : P1) (a : ME) : m1 p a L S = (a L S).bind fun x S1 => noExn (p x S1) := rfl
@[simp] theorem m2_app (p : P2) (a b : ME) : m2 p a b L S = (a L S).bind fun x S1 => (b L S1).bind fun y S2 => noExn (p x y S2) := rfl
@[simp] theorem aNil_app : aNil L S = .ok [] S := rfl
@[simp] theorem aCons_app (a : ME) (r : MA) : aCons a r L S = (a L S).bind fun x S1 => (r L S1).bind fun xs S2 => .ok (x :: xs) S2 := rfl
@[simp] theorem mA_app (f : Fn) (a : MA) : mA f a L S = (a L S).bind f := rfl
@[simp] theorem mB_app (f : Fn) (a : MA) : mB f a L S = (a L S).bind fun vs S1 => noExn (f vs S1) := rfl
@[simp] theorem fTup_app (vs : List Val) : fTup vs S = bite (decide (vs.length ≤ LIM)) (.ok (.tup vs) S) .bad := rfl
@[simp] theorem fLst_app (vs : List Val) : fLst vs S = bite (decide (vs.length ≤ LIM)) (.ok (.ref (sl S)) (sp S (.lst vs))) .bad := rfl
@[simp] theorem mTup_app (a : MA) : mTup a L S = mB fTup a L S := rfl
@[simp] theorem mLst_app (a : MA) : mLst a L S = mB fLst a L S := rfl
@[simp] theorem mDK_app : mDK L S = .ok (.ref (sl S)) (sp S (.dK [])) := rfl
@[simp] theorem tV_app (e : ME) : tV e L S = (e L S).bind isT := rfl
@[simp] theorem tAnd_app (a b : MT) : tAnd a b L S = (a L S).bind fun c S1 => bite c (b L S1) (.ok false S1) := rfl
@[simp] theorem tOr_app (a b : MT) : tOr a b L S = (a L S).bind fun c S1 => bite c (.ok true S1) (b L S1) := rfl
@[simp] theorem tNot_app (a : MT) : tNot a L S = (a L S).bind fun c S1 => .ok (!c) S1 := rfl
@[simp] theorem mIf_app (c : MT) (a b : ME) : mIf c a b L S = (c L S).bind fun t S1 => bite t (a L S1) (b L S1) := rfl
@[simp] theorem mAnd_app (a b : ME) : mAnd a b L S = (a L S).bind fun x S1 => (isT x S1).bind fun c S2 => bite c (b L S2) (.ok (.bl false) S2) := rfl
@[simp] theorem mOr_app (a b : ME) : mOr a b L S = (a L S).bind fun x S1 => (isT x S1).bind fun c S2 => bite c (.ok (.bl true) S2) (b L S2) := rfl
@[simp] theorem mNot_app (a : ME) : mNot a L S = (a L S).bind fun x S1 => (isT x S1).bind fun c S2 => .ok (.bl (!c)) S2 := rfl
@[simp] theorem mChain_app (p q : P2) (a b c : ME) : mChain p q a b c L S = (a L S).bind fun x S1 => (b L S1).bind fun y S2 => (noExn (p x y S2)).bind fun z S3 => (isT z S3).bind fun t S4 =>
  bite t ((c L S4).bind fun u S5 => noExn (q y u S5)) (.ok (.bl false) S4) := rfl
@[simp] theorem sNx_app : sNx L S = .nx L S := rfl
@[simp] theorem sSeq_app (a b : MS) : sSeq a b L S = (a L S).andThen b := rfl
@[simp] theorem sRet_app (e : ME) : sRet e L S = thenF L (e L S) fun v S1 => .rt v S1 := rfl
@[simp] theorem sRetN_app : sRetN L S = .rt .non S := rfl
@[simp] theorem sExpr_app (e : ME) : sExpr e L S = thenF L (e L S) fun _ S1 => .nx L S1 := rfl
@[simp] theorem sIf_app (c : MT) (a b : MS) : sIf c a b L S = thenF L (c L S) fun t S1 => bite t (a L S1) (b L S1) := rfl
@[simp] theorem sBrk_app : sBrk L S = .bk L S := rfl
@[simp] theorem sCnt_app : sCnt L S = .ct L S := rfl
@[simp] theorem gN_app (i : Nat) (v : Val) : gN i v L S = .ok (L.set i (some v)) S := rfl
@[simp] theorem gsNil_app : gsNil [] L S = .ok L S := rfl
@[simp] theorem gsCons_app (g : MG) (r : MGs) (v : Val) (vs : List Val) : gsCons g r (v :: vs) L S = (g v L S).bind fun L1 S1 => r vs L1 S1 := rfl
@[simp] theorem gTup_app (g : MGs) (vs : List Val) : gTup g (.tup vs) L S = g vs L S := rfl
@[simp] theorem gSub_app (o i : ME) (p : Val → Val → Val → Store → R Unit) (v : Val) : gSub o i p v L S = (o L S).bind fun x S1 => (i L S1).bind fun y S2 => (noExn (p x y v S2)).bind fun _ S3 => .ok L S3 := rfl
@[simp] theorem sAsg_app (e : ME) (g : MG) : sAsg e g L S = thenF L (e L S) fun v S1 => thenF L (noExn (g v L S1)) fun L1 S2 => .nx L1 S2 := rfl
@[simp] theorem sAug_app (i : Nat) (e : ME) (p : P2) : sAug i e p L S = thenF L (getL L i S) fun x S0 => thenF L (e L S0) fun y S1 => thenF L (noExn (p x y S1)) fun z S2 => .nx (L.set i (some z)) S2 := rfl
@[simp] theorem sFld_app (c f : Str) (o e : ME) : sFld c f o e L S = thenF L (e L S) fun v S1 => thenF L (o L S1) fun x S2 => thenF L (noExn (putFld c f v x S2)) fun _ S3 => .nx L S3 := rfl
@[simp] theorem sFldAug_app (c f : Str) (o e : ME) (p : P2) : sFldAug c f o e p L S = thenF L (o L S) fun x S1 => thenF L (noExn (getF c f x S1)) fun y S2 => thenF L (e L S2) fun z S3 => thenF L (noExn (p y z S3)) fun u S4 =>
  thenF L (noExn (putFld c f u x S4)) fun _ S5 => .nx L S5 := rfl
@[simp] theorem sFor_app (i : MI) (g : MG) (b : MS) : sFor i g b L S = thenF L (i L S) fun J S1 => forLoop J.keep g b J.items L S1 := rfl
@[simp] theorem sWhile_app (c : MT) (b : MS) : sWhile c b L S = whileLoop c b MANY L S := rfl
@[simp] theorem iV_app (e : ME) : iV e L S = (e L S).bind itOf := rfl
@[simp] theorem iRng1_app (a : MA) : iRng1 a L S = (a L S).bind rngOf1 := rfl
@[simp] theorem iRng2_app (a : MA) : iRng2 a L S = (a L S).bind rngOf2 := rfl
@[simp] theorem iZip_app (a : MA) : iZip a L S = (a L S).bind zipOf := rfl
@[simp] theorem tYes_app : tYes L S = .ok true S := rfl
@[simp] theorem mLc_app (i : MI) (vs : List Nat) (g : MG) (c : MT) (e : ME) : mLc i vs g c e L S = (i L S).bind fun J S1 => (lcLoop J.keep (wipeL L vs) g c e J.items [] S1).bind fun ws S2 => .ok (.ref (sl S2)) (sp S2 (.lst ws)) := rfl
@[simp] theorem fDef_app (n np : Nat) (b : MS) (vs : List Val) : fDef n np b vs S = bite (decide (vs.length = np)) (endF (b (startL n vs) S)) .bad := rfl
@[simp] theorem sRaise_app (c : Str) (fs : List Str) (a : MA) : sRaise c fs a L S = thenF L (a L S) fun vs S1 => .exn ⟨c, fs.zip vs⟩ L S1 := rfl
@[simp] theorem mSl_app (e : ME) (lo hi : MO) : mSl e lo hi L S = (e L S).bind fun x S1 => (lo L S1).bind fun l S2 => (hi L S2).bind fun h S3 => noExn (pSl x l h S3) := rfl
@[simp] theorem oNo_app : oNo L S = .ok none S := rfl
@[simp] theorem oSome_app (e : ME) : oSome e L S = (e L S).bind fun v S1 => match v with
  | .int i => .ok (some i) S1
  | _ => .bad := rfl
@[simp] theorem mBM_app (T : String) (f : Mt) (o : ME) (a : MA) : mBM T f o a L S = (o L S).bind fun x S1 => bite (isTy T x S1) ((a L S1).bind fun vs S2 => noExn (f x vs S2)) .bad := rfl
/-! primitives on known values -/
@[simp] theorem pAdd_int (i j : Int) : pAdd (.int i) (.int j) S = .ok (.int (i + j)) S := rfl
@[simp] theorem pAddI_int (i j : Int) : pAddI (.int i) (.int j) S = .ok (.int (i + j)) S := rfl
@[simp] theorem pSub_int (i j : Int) : pSub (.int i) (.int j) S = .ok (.int (i - j)) S := rfl
@[simp] theorem pMulI_int (i j : Int) : pMulI (.int i) (.int j) S = bite (cmul i j) (.ok (.int (i * j)) S) .bad := rfl
@[simp] theorem pMod_int (i j : Int) : pMod (.int i) (.int j) S = bite (decide (0 < j)) (.ok (.int (i % j)) S) .bad := rfl
@[simp] theorem pDiv_int (i j : Int) : pDiv (.int i) (.int j) S = bite (decide (0 < j) && decide (j < 1073741824)) (.ok (.int (i / j)) S) .bad := rfl
@[simp] theorem pNeg_int (i : Int) : pNeg (.int i) S = .ok (.int (-i)) S := rfl
@[simp] theorem pLt_int (i j : Int) : pLt (.int i) (.int j) S = .ok (.bl (decide (i < j))) S := rfl
@[simp] theorem pLe_int (i j : Int) : pLe (.int i) (.int j) S = .ok (.bl (decide (i ≤ j))) S := rfl
@[simp] theorem pGt_int (i j : Int) : pGt (.int i) (.int j) S = .ok (.bl (decide (j < i))) S := rfl
@[simp] theorem pGe_int (i j : Int) : pGe (.int i) (.int j) S = .ok (.bl (decide (j ≤ i))) S := rfl
@[simp] theorem pPow_int (i j : Int) : pPow (.int i) (.int j) S = bite (decide (0 ≤ j) && decide (j ≤ 1000000) && decide (i.natAbs < 2 ^ 64)) (.ok (.int (i ^ j.toNat)) S) .bad := rfl
@[simp] theorem fInt_int (i : Int) : fInt [.int i] S = .ok (.int i) S := rfl
@[simp] theorem fMax_int (i j : Int) : fMax [.int i, .int j] S = .ok (.int (if j > i then j else i)) S := rfl
theorem cmul_left {i j : Int} (h1 : -(2 ^ 64) < i) (h2 : i < 2 ^ 64) : cmul i j = true := by simp [cmul]; omega
theorem cmul_right {i j : Int} (h1 : -(2 ^ 64) < j) (h2 : j < 2 ^ 64) : cmul i j = true := by simp [cmul]; omega
theorem pEq_int (i j : Int) : pEq (.int i) (.int j) S = .ok (.bl (decide (i = j))) S := by
  unfold pEq eqO
  simp [toD, PySem.SeqAt.shaped, PySem.PyData.canLay0, PySem.PyData.depth, PySem.PyData.eqv]
  rfl
def optR {α : Type} (o : Option α) (S : Store) : R α := match o with
  | some v => .ok v S
  | none => .bad
@[simp] theorem optR_some {α : Type} (v : α) : optR (some v) S = .ok v S := rfl
@[simp] theorem optR_none {α : Type} : (optR none S : R α) = .bad := rfl
/-- an object read at a place -/
def ixR (o : Option Ob) (i : Int) (S : Store) : R Val := match o with
  | some (.lst vs) => optR (L2.atI vs i) S
  | some (.dK kvs) => optR (valL kvs (.inl i)) S
  | _ => .bad
@[simp] theorem ixR_lst (vs : List Val) (i : Int) : ixR (some (.lst vs)) i S = optR (L2.atI vs i) S := rfl
@[simp] theorem ixR_dK (kvs : List (Key × Val)) (i : Int) : ixR (some (.dK kvs)) i S = optR (valL kvs (.inl i)) S := rfl
@[simp] theorem pIx_ref (a : Nat) (i : Int) : pIx (.ref a) (.int i) S = ixR (sg S a) i S := by
  show _ = ixR S[a]? i S
  simp only [pIx]
  unfold ixR optR
  cases S[a]? with
  | none => rfl
  | some o => cases o with
    | lst vs => dsimp only; cases L2.atI vs i <;> rfl
    | dK kvs => dsimp only; cases valL kvs (.inl i) <;> rfl
    | dT kvs => rfl
    | ins c fs => rfl
@[simp] theorem pIx_tup (vs : List Val) (i : Int) : pIx (.tup vs) (.int i) S = optR (L2.atI vs i) S := by
  simp only [pIx]
  cases L2.atI vs i <;> rfl
@[simp] theorem pIx_fl (ns : List Int) (i : Int) : pIx (.fl ns) (.int i) S = optR ((L2.atI ns i).map Val.int) S := by
  simp only [pIx]
  unfold optR
  cases L2.atI ns i <;> rfl
theorem atI_nat (vs : List α) (n : Nat) : L2.atI vs (n : Int) = vs[n]? := by
  unfold L2.atI L2.ixN
  simp
  by_cases h : n < vs.length
  · simp [h]
  · simp [h]
@[simp] theorem atI_lit (vs : List α) (n : Nat) : L2.atI vs (no_index (OfNat.ofNat n) : Int) = vs[(OfNat.ofNat n : Nat)]? := atI_nat vs n
@[simp] theorem atI_zero (vs : List α) : L2.atI vs (0 : Int) = vs[0]? := atI_nat vs 0
@[simp] theorem atI_one (vs : List α) : L2.atI vs (1 : Int) = vs[1]? := atI_nat vs 1
@[simp] theorem atI_cast (vs : List α) (n : Nat) : L2.atI vs (n : Int) = vs[n]? := atI_nat vs n
def putR (o : Option Ob) (a : Nat) (i : Int) (v : Val) (S : Store) : R Unit := match o with
  | some (.lst vs) => match L2.ixN vs.length i with
    | some j => .ok () (ss S a (.lst (vs.set j v)))
    | none => .bad
  | some (.dK kvs) => bite (decide (kvs.length < LIM)) (.ok () (ss S a (.dK (putL kvs (.inl i) v)))) .bad
  | _ => .bad
@[simp] theorem pSet_ref (a : Nat) (i : Int) (v : Val) : pSet (.ref a) (.int i) v S = putR (sg S a) a i v S := by
  show _ = putR S[a]? a i v S
  simp only [pSet]
  unfold putR
  cases S[a]? with
  | none => rfl
  | some o => cases o with
    | lst vs => dsimp only; cases L2.ixN vs.length i <;> rfl
    | dK kvs => rfl
    | dT kvs => rfl
    | ins c fs => rfl
theorem ixN_nat (n m : Nat) : L2.ixN n (m : Int) = if m < n then some m else none := by
  unfold L2.ixN
  simp
@[simp] theorem ixN_lit (n m : Nat) : L2.ixN n (no_index (OfNat.ofNat m) : Int) = if (OfNat.ofNat m : Nat) < n then some (OfNat.ofNat m : Nat) else none := ixN_nat n m
@[simp] theorem ixN_zero (n : Nat) : L2.ixN n (0 : Int) = if 0 < n then some 0 else none := ixN_nat n 0
@[simp] theorem ixN_one (n : Nat) : L2.ixN n (1 : Int) = if 1 < n then some 1 else none := ixN_nat n 1
@[simp] theorem putR_lst (vs : List Val) (a : Nat) (i : Int) (v : Val) : putR (some (.lst vs)) a i v S = match L2.ixN vs.length i with
    | some j => .ok () (ss S a (.lst (vs.set j v)))
    | none => .bad := rfl
@[simp] theorem putR_dK (kvs : List (Key × Val)) (a : Nat) (i : Int) (v : Val) : putR (some (.dK kvs)) a i v S = bite (decide (kvs.length < LIM)) (.ok () (ss S a (.dK (putL kvs (.inl i) v)))) .bad := rfl
def lenR (o : Option Ob) (S : Store) : R Val := match o with
  | some (.lst vs) => .ok (.int vs.length) S
  | some (.dK kvs) => .ok (.int kvs.length) S
  | _ => .bad
@[simp] theorem lenR_lst (vs : List Val) : lenR (some (.lst vs)) S = .ok (.int vs.length) S := rfl
@[simp] theorem lenR_dK (vs : List (Key × Val)) : lenR (some (.dK vs)) S = .ok (.int vs.length) S := rfl
@[simp] theorem fLen_ref (a : Nat) : fLen [.ref a] S = lenR (sg S a) S := by
  show _ = lenR S[a]? S
  unfold fLen one lenO lenR
  dsimp only
  cases S[a]? with
  | none => rfl
  | some o => cases o <;> rfl
@[simp] theorem fLen_tup (vs : List Val) : fLen [.tup vs] S = .ok (.int vs.length) S := rfl
@[simp] theorem fLen_fl (vs : List Int) : fLen [.fl vs] S = .ok (.int vs.length) S := rfl
@[simp] theorem pEq_int' (i j : Int) : pEq (.int i) (.int j) S = .ok (.bl (decide (i = j))) S := pEq_int i j
@[simp] theorem LIM_le {n : Nat} : (n ≤ LIM) = (n ≤ 16777216) := rfl
@[simp] theorem LIM_lt {n : Nat} : (n < LIM) = (n < 16777216) := rfl
/-! instances -/
def insR (o : Option Ob) : Option (Str × List (Str × Val)) := match o with
  | some (.ins c fs) => some (c, fs)
  | _ => none
@[simp] theorem insR_ins (c : Str) (fs : List (Str × Val)) : insR (some (.ins c fs)) = some (c, fs) := rfl
theorem insAt_ref (a : Nat) : insAt (.ref a) S = insR (sg S a) := by
  show insAt (.ref a) S = insR S[a]?
  simp only [insAt]
  cases S[a]? with
  | none => rfl
  | some o => cases o <;> rfl
def fldR (c f : Str) (o : Option (Str × List (Str × Val))) (S : Store) : R Val := match o with
  | some (c', fs) => bite (decide (c' = c)) (optR (fs.lookup f) S) .bad
  | none => .bad
@[simp] theorem fldR_some (c f c' : Str) (fs : List (Str × Val)) : fldR c f (some (c', fs)) S = bite (decide (c' = c)) (optR (fs.lookup f) S) .bad := rfl
@[simp] theorem getF_ref (c f : Str) (a : Nat) : getF c f (.ref a) S = fldR c f (insR (sg S a)) S := by
  unfold getF fldR
  rw [insAt_ref]
  cases insR (sg S a) with
  | none => rfl
  | some p =>
    obtain ⟨c', fs⟩ := p
    dsimp only
    unfold optR
    cases decide (c' = c) with
    | true => cases fs.lookup f <;> rfl
    | false => rfl
def putFR (c f : Str) (v : Val) (o : Option (Str × List (Str × Val))) (a : Nat) (S : Store) : R Unit := match o with
  | some (c', fs) => bite (decide (c' = c) && decide (fs.length < 1000)) (.ok () (ss S a (.ins c (setF f v fs)))) .bad
  | none => .bad
@[simp] theorem putFR_some (c f c' : Str) (v : Val) (fs : List (Str × Val)) (a : Nat) : putFR c f v (some (c', fs)) a S = bite (decide (c' = c) && decide (fs.length < 1000)) (.ok () (ss S a (.ins c (setF f v fs)))) .bad := rfl
@[simp] theorem putFld_ref (c f : Str) (v : Val) (a : Nat) : putFld c f v (.ref a) S = putFR c f v (insR (sg S a)) a S := by
  unfold putFld putFR insR
  show _ = (match (match S[a]? with
    | some (.ins c fs) => some (c, fs)
    | _ => none : Option (Str × List (Str × Val))) with
    | some (c', fs) => _
    | none => _)
  dsimp only
  cases S[a]? with
  | none => rfl
  | some o => cases o <;> rfl
def methR (c m : Str) (o : Option (Str × List (Str × Val))) (r : R Val) : Dep r (R Val) := match o with
  | some (c', fs) => bite (decide (c' = c) && (fs.lookup m).isNone) r .bad
  | none => .bad
@[simp] theorem methR_some (c m c' : Str) (fs : List (Str × Val)) (r : R Val) : methR c m (some (c', fs)) r = bite (decide (c' = c) && (fs.lookup m).isNone) r .bad := rfl
def methX (c m : Str) (f : Fn) (a : MA) (L : Loc) (x : Val) (S : Store) : R Val := match x with
  | .ref i => methR c m (insR (sg S i)) ((a L S).bind fun vs S2 => f (x :: vs) S2)
  | _ => .bad
@[simp] theorem methX_ref (c m : Str) (f : Fn) (a : MA) (i : Nat) : methX c m f a L (.ref i) S = methR c m (insR (sg S i)) ((a L S).bind fun vs S2 => f (.ref i :: vs) S2) := rfl
@[simp] theorem mMeth_app (c m : Str) (f : Fn) (o : ME) (a : MA) : mMeth c m f o a L S = (o L S).bind (methX c m f a L) := by
  unfold mMeth
  congr 1
  funext x S1
  unfold methX
  cases x with
  | ref i =>
    dsimp only
    rw [insAt_ref]
    unfold methR
    rfl
  | _ => rfl
@[simp] theorem fMake_app (c : Str) (f : Fn) (vs : List Val) : fMake c f vs S = (f (.ref (sl S) :: vs) (sp S (.ins c []))).bind fun r S2 => bite (isNon r) (.ok (.ref (sl S)) S2) .bad := rfl
@[simp] theorem isNon_non : isNon .non = true := rfl
/-! lists -/
def appR (o : Option Ob) (a : Nat) (v : Val) (S : Store) : R Val := match o with
  | some (.lst xs) => bite (decide (xs.length < LIM)) (.ok .non (ss S a (.lst (xs ++ [v])))) .bad
  | _ => .bad
@[simp] theorem appR_lst (xs : List Val) (a : Nat) (v : Val) : appR (some (.lst xs)) a v S = bite (decide (xs.length < LIM)) (.ok .non (ss S a (.lst (xs ++ [v])))) .bad := rfl
@[simp] theorem fAppend_ref (a : Nat) (v : Val) : fAppend (.ref a) [v] S = appR (sg S a) a v S := by
  show _ = appR S[a]? a v S
  simp only [fAppend]
  unfold appR
  cases S[a]? with
  | none => rfl
  | some o => cases o <;> rfl
def tyR (T : String) (o : Option Ob) : Bool := match o with
  | some (.lst _) => T == "list"
  | some (.dK _) => T == "dict"
  | some (.dT _) => T == "dict"
  | _ => false
@[simp] theorem tyR_lst (T : String) (xs : List Val) : tyR T (some (.lst xs)) = (T == "list") := rfl
@[simp] theorem tyR_dK (T : String) (xs : List (Key × Val)) : tyR T (some (.dK xs)) = (T == "dict") := rfl
@[simp] theorem isTy_ref (T : String) (a : Nat) : isTy T (.ref a) S = tyR T (sg S a) := by
  show _ = tyR T S[a]?
  simp only [isTy]
  unfold tyR
  cases S[a]? with
  | none => rfl
  | some o => cases o <;> rfl
@[simp] theorem newL_app (xs : List Val) : newL xs S = .ok (.ref (sl S)) (sp S (.lst xs)) := rfl
def slR (o : Option Ob) (lo hi : Option Int) (S : Store) : R Val := match o with
  | some (.lst vs) => newL (cutL vs lo hi) S
  | _ => .bad
@[simp] theorem slR_lst (vs : List Val) (lo hi : Option Int) : slR (some (.lst vs)) lo hi S = newL (cutL vs lo hi) S := rfl
@[simp] theorem pSl_ref (a : Nat) (lo hi : Option Int) : pSl (.ref a) lo hi S = slR (sg S a) lo hi S := by
  show _ = slR S[a]? lo hi S
  simp only [pSl]
  unfold slR
  cases S[a]? with
  | none => rfl
  | some o => cases o <;> rfl
@[simp] theorem pSl_tup (vs : List Val) (lo hi : Option Int) : pSl (.tup vs) lo hi S = .ok (.tup (cutL vs lo hi)) S := rfl
@[simp] theorem pSl_fl (vs : List Int) (lo hi : Option Int) : pSl (.fl vs) lo hi S = newL ((cutL vs lo hi).map Val.int) S := rfl
def itemsR (o : Option Ob) : Option (List Val) := match o with
  | some (.lst vs) => some vs
  | _ => none
@[simp] theorem itemsR_lst (vs : List Val) : itemsR (some (.lst vs)) = some vs := rfl
@[simp] theorem fList_ref (a : Nat) : fList [.ref a] S = (optR (itemsR (sg S a)) S).bind fun vs S => newL vs S := by
  show _ = (optR (itemsR S[a]?) S).bind _
  simp only [fList, one, itemsO]
  cases S[a]? with
  | none => rfl
  | some o => cases o <;> rfl
@[simp] theorem fList_fl (ns : List Int) : fList [.fl ns] S = newL (ns.map Val.int) S := rfl
@[simp] theorem fList_tup (vs : List Val) : fList [.tup vs] S = newL vs S := rfl
@[simp] theorem fTuple_ref (a : Nat) : fTuple [.ref a] S = (optR (itemsR (sg S a)) S).bind fun vs S => .ok (.tup vs) S := by
  show _ = (optR (itemsR S[a]?) S).bind _
  simp only [fTuple, one, itemsO]
  cases S[a]? with
  | none => rfl
  | some o => cases o <;> rfl
@[simp] theorem fTuple_tup (vs : List Val) : fTuple [.tup vs] S = .ok (.tup vs) S := rfl
def itR (o : Option Ob) (a : Nat) (S : Store) : R It := match o with
  | some (.lst xs) => .ok ⟨xs, fun S' => sg S' a = some (.lst xs)⟩ S
  | _ => .bad
@[simp] theorem itR_lst (xs : List Val) (a : Nat) : itR (some (.lst xs)) a S = .ok ⟨xs, fun S' => sg S' a = some (.lst xs)⟩ S := rfl
@[simp] theorem itOf_ref (a : Nat) : itOf (.ref a) S = itR (sg S a) a S := by
  show _ = itR S[a]? a S
  simp only [itOf]
  unfold itR
  cases S[a]? with
  | none => rfl
  | some o => cases o <;> rfl
@[simp] theorem itOf_tup (vs : List Val) : itOf (.tup vs) S = .ok ⟨vs, fun _ => True⟩ S := rfl
@[simp] theorem itOf_fl (ns : List Int) : itOf (.fl ns) S = .ok ⟨ns.map Val.int, fun _ => True⟩ S := rfl
@[simp] theorem rngOf1_int (j : Int) : rngOf1 [.int j] S = bite (decide (-BIG ≤ j ∧ j < BIG)) (.ok ⟨rangeL 0 j.toNat, fun _ => True⟩ S) .bad := rfl
@[simp] theorem rngOf2_int (i j : Int) : rngOf2 [.int i, .int j] S = bite (decide (-BIG ≤ i ∧ i < BIG ∧ -BIG ≤ j ∧ j < BIG)) (.ok ⟨rangeL i (j - i).toNat, fun _ => True⟩ S) .bad := rfl
/-! in, dicts -/
def inDR (o : Option Ob) (k : Key) : Option Bool := match o with
  | some (.dK kvs) => some (valL kvs k).isSome
  | _ => none
end
end Mp

set_option maxHeartbeats 4000000
/-! MpL: loops and other common lemmas, plain. -/
namespace Mp
open PySem (Str)
theorem ofString_inj {a b : String} : (Str.ofString a = Str.ofString b) = (a = b) := by
  apply propext
  refine ⟨fun h => ?_, fun h => by rw [h]⟩
  rw [PySem.Str.ofString_eq_toList, PySem.Str.ofString_eq_toList] at h
  have h1 : a.toList.map Char.toNat = b.toList.map Char.toNat := by
    have := congrArg PySem.Str.cps h
    simpa using this
  have h2 : a.toList = b.toList := by
    have inj : ∀ (l m : List Char), l.map Char.toNat = m.map Char.toNat → l = m := by
      intro l
      induction l with
      | nil => intro m hm; cases m with
        | nil => rfl
        | cons => simp at hm
      | cons c l ih => intro m hm; cases m with
        | nil => simp at hm
        | cons d m =>
          simp only [List.map_cons, List.cons.injEq] at hm
          rw [ih m hm.2]
          have : c = d := by
            apply Char.ext
            apply UInt32.toNat_inj.mp
            exact hm.1
          rw [this]
    exact inj _ _ h1
  exact String.toList_inj.mp h2
@[simp] theorem ofString_beq {a b : String} : (Str.ofString a == Str.ofString b) = decide (a = b) := by
  by_cases h : a = b
  · subst h; simp
  · rw [decide_eq_false h]
    apply beq_eq_false_iff_ne.mpr
    intro e
    rw [ofString_inj] at e
    exact h e
@[simp] theorem ofString_eq' {a b : String} : (Str.ofString a = Str.ofString b) = (a = b) := ofString_inj
/-- a loop none of whose turns leaves it -/
theorem forLoop_nx {keep : Store → Prop} {g : MG} {b : MS} (I : Nat → Loc → Store → Prop) {xs : List Val} {L : Loc} {S : Store} (h0 : I 0 L S) (hk : ∀ i L S, i ≤ xs.length → I i L S → keep S)
    (hs : ∀ i x L S, xs[i]? = some x → I i L S → ∃ L1 S1 L2 S2, g x L S = .ok L1 S1 ∧ (b L1 S1 = .nx L2 S2 ∨ b L1 S1 = .ct L2 S2) ∧ I (i + 1) L2 S2) : ∃ L' S', forLoop keep g b xs L S = .nx L' S' ∧ I xs.length L' S' := by
  have key : ∀ (ys : List Val) (i : Nat) (L : Loc) (S : Store), xs.drop i = ys → i ≤ xs.length → I i L S → ∃ L' S', forLoop keep g b ys L S = .nx L' S' ∧ I xs.length L' S' := by
    intro ys
    induction ys with
    | nil =>
      intro i L S hd hi hI
      have : xs.length ≤ i := by
        have := congrArg List.length hd
        simp at this
        omega
      have e : i = xs.length := by omega
      subst e
      exact ⟨L, S, by unfold forLoop; rw [gate_pos (hk _ _ _ (Nat.le_refl _) hI)], hI⟩
    | cons y ys ih =>
      intro i L S hd hi hI
      have hx : xs[i]? = some y := by
        have : (xs.drop i)[0]? = some y := by rw [hd]; rfl
        simpa using this
      have hlt := (List.getElem?_eq_some_iff.mp hx).1
      have hys : xs.drop (i + 1) = ys := by
        have : (xs.drop i).drop 1 = ys := by rw [hd]; rfl
        rw [List.drop_drop] at this
        exact this
      obtain ⟨L1, S1, L2, S2, h1, h2, h3⟩ := hs i y L S hx hI
      obtain ⟨L', S', h4, h5⟩ := ih (i + 1) L2 S2 hys hlt h3
      refine ⟨L', S', ?_, h5⟩
      unfold forLoop
      rw [gate_pos (hk _ _ _ hi hI), h1]
      rcases h2 with h2 | h2
      · simp [h2, h4]
      · simp [h2, h4]
  exact key xs 0 L S rfl (Nat.zero_le _) h0
theorem rangeL_len (lo : Int) (n : Nat) : (rangeL lo n).length = n := by simp [rangeL]
theorem rangeL_at {lo : Int} {n i : Nat} {x : Val} (h : (rangeL lo n)[i]? = some x) : i < n ∧ x = .int (lo + (i : Nat)) := rangeL_get h
/-- is a value a whole number (no flag) -/
def isInt (v : Val) : Bool := match v with
  | .int _ => true
  | _ => false
def withinB (v : Val) (a b : Int) : Bool := match v with
  | .int i => decide (a ≤ i) && decide (i ≤ b)
  | _ => false
theorem isInt_ty {v : Val} {S : Store} {t : String} (h : tyName v S = some t) : (subTy t "int" && !subTy t "bool") = isInt v := by
  cases v with
  | ref a =>
    simp only [tyName] at h
    split at h <;> first | (cases h; rfl) | cases h
  | _ => simp only [tyName] at h; cases h; rfl
@[simp] theorem tyName_non {S : Store} : tyName .non S = some "NoneType" := rfl
@[simp] theorem tyName_bl {S : Store} (b : Bool) : tyName (.bl b) S = some "bool" := rfl
@[simp] theorem tyName_int {S : Store} (b : Int) : tyName (.int b) S = some "int" := rfl
@[simp] theorem tyName_str {S : Store} (b : Str) : tyName (.str b) S = some "str" := rfl
@[simp] theorem tyName_tup {S : Store} (b : List Val) : tyName (.tup b) S = some "tuple" := rfl
@[simp] theorem tyName_fl {S : Store} (b : List Int) : tyName (.fl b) S = some "list" := rfl
def tyRN (o : Option Ob) : Option String := match o with
  | some (.lst _) => some "list"
  | some (.dK _) => some "dict"
  | some (.dT _) => some "dict"
  | _ => none
@[simp] theorem tyRN_lst (xs : List Val) : tyRN (some (.lst xs)) = some "list" := rfl
@[simp] theorem tyRN_dK (xs : List (Key × Val)) : tyRN (some (.dK xs)) = some "dict" := rfl
@[simp] theorem tyName_ref {S : Store} (a : Nat) : tyName (.ref a) S = tyRN (sg S a) := by
  show _ = tyRN S[a]?
  simp only [tyName]
  unfold tyRN
  cases S[a]? with
  | none => rfl
  | some o => cases o <;> rfl
theorem pIsT_of {T : String} {v : Val} {S : Store} {t : String} (h : tyName v S = some t) : pIsT T v S = .ok (.bl (subTy t T)) S := by unfold pIsT; rw [h]
/-- bite of a choice -/
theorem bite_ite {α : Type} (b : Bool) (x y : α) : bite b x y = if b = true then x else y := by cases b <;> rfl
theorem bite_ok_bl {b : Bool} {c : Bool} {S : Store} : bite b (R.ok (Val.bl c) S) (R.ok (Val.bl false) S) = .ok (.bl (b && c)) S := by cases b <;> rfl
theorem bite_ok_b {b : Bool} {c : Bool} {S : Store} : bite b (R.ok c S) (R.ok false S) = .ok (b && c) S := by cases b <;> rfl
/-! try, while -/
def tryF (D : List Hd) (r : F) : Dep D F := match r with
  | .exn e L S => handle D e L S
  | r => r
@[simp] theorem sTry_app (b : MS) (D : List Hd) (L : Loc) (S : Store) : sTry b D L S = tryF D (b L S) := by
  unfold sTry tryF
  rfl
@[simp] theorem tryF_nx (D : List Hd) (L : Loc) (S : Store) : tryF D (.nx L S) = .nx L S := rfl
@[simp] theorem tryF_rt (D : List Hd) (v : Val) (S : Store) : tryF D (.rt v S) = .rt v S := rfl
@[simp] theorem tryF_exn (D : List Hd) (e : Ex) (L : Loc) (S : Store) : tryF D (.exn e L S) = handle D e L S := rfl
def hdF (o : Option Bool) (x y : F) : Dep x (Dep y F) := match o with
  | some b => bite b (noExnF x) y
  | none => .bad
@[simp] theorem hdF_some (b : Bool) (x y : F) : hdF (some b) x y = bite b (noExnF x) y := rfl
@[simp] theorem handle_cons (h : Hd) (r : List Hd) (e : Ex) (L : Loc) (S : Store) : handle (h :: r) e L S = hdF (h.names.lookup e.cls) (h.suite e L S) (handle r e L S) := by
  conv => lhs; unfold handle
  unfold hdF
  cases h.names.lookup e.cls <;> rfl
@[simp] theorem handle_nil (e : Ex) (L : Loc) (S : Store) : handle [] e L S = .exn e L S := rfl
theorem whileLoop_step {c : MT} {b : MS} {n : Nat} {L : Loc} {S : Store} (h : 0 < n) : whileLoop c b n L S = thenF L (c L S) fun t S1 => bite t (turn (b L S1) (whileLoop c b (n - 1))) (.nx L S1) := by
  cases n with
  | zero => omega
  | succ n => rfl
theorem MANY_pos : 0 < MANY := by decide
theorem MANY_pos1 : 0 < MANY - 1 := by decide
theorem MANY_pos2 : 0 < MANY - 1 - 1 := by decide
/-! dicts -/
def inKR (o : Option Ob) (x : Val) (neg : Bool) (S : Store) : R Val := match o with
  | some (.dK kvs) => match keyOf x with
    | some k => .ok (.bl (if neg then !(valL kvs k).isSome else (valL kvs k).isSome)) S
    | none => .bad
  | some (.lst vs) => match flatL x, vs.mapM flatL with
    | some u, some us => .ok (.bl (if neg then !L2.inV u us else L2.inV u us)) S
    | _, _ => .bad
  | _ => .bad
@[simp] theorem inKR_dK (kvs : List (Key × Val)) (i : Int) (neg : Bool) {S : Store} : inKR (some (.dK kvs)) (.int i) neg S = .ok (.bl (if neg then !(valL kvs (.inl i)).isSome else (valL kvs (.inl i)).isSome)) S := rfl
theorem inKR_eq {S : Store} (x : Val) (a : Nat) (neg : Bool) : (match inF x (.ref a) S with
  | some b => R.ok (Val.bl (if neg then !b else b)) S
  | none => .bad) = inKR (sg S a) x neg S := by
  show _ = inKR S[a]? x neg S
  simp only [inF]
  unfold inKR
  cases S[a]? with
  | none => rfl
  | some o =>
    cases o with
    | lst vs =>
      dsimp only
      cases flatL x with
      | none => rfl
      | some u => cases vs.mapM flatL <;> rfl
    | dK kvs =>
      dsimp only
      cases keyOf x <;> rfl
    | _ => rfl
@[simp] theorem pIn_ref {S : Store} (x : Val) (a : Nat) : pIn x (.ref a) S = inKR (sg S a) x false S := by
  rw [← inKR_eq]
  unfold pIn
  rfl
@[simp] theorem pNotIn_ref {S : Store} (x : Val) (a : Nat) : pNotIn x (.ref a) S = inKR (sg S a) x true S := by
  rw [← inKR_eq]
  unfold pNotIn
  rfl
def dpopR (o : Option Ob) (a : Nat) (k : Key) (S : Store) : R Val := match o with
  | some (.dK kvs) => match valL kvs k with
    | some y => .ok y (ss S a (.dK (dropL kvs k)))
    | none => .bad
  | _ => .bad
@[simp] theorem dpopR_dK (kvs : List (Key × Val)) (a : Nat) (k : Key) {S : Store} : dpopR (some (.dK kvs)) a k S = match valL kvs k with
    | some y => .ok y (ss S a (.dK (dropL kvs k)))
    | none => .bad := rfl
@[simp] theorem fDPop_ref {S : Store} (a : Nat) (i : Int) : fDPop (.ref a) [.int i] S = dpopR (sg S a) a (.inl i) S := by
  show _ = dpopR S[a]? a (.inl i) S
  simp only [fDPop]
  unfold dpopR
  cases S[a]? with
  | none => rfl
  | some o =>
    cases o with
    | dK kvs => dsimp only [keyOf]; cases valL kvs (.inl i) <;> rfl
    | _ => rfl
def sortDR (o : Option Ob) (S : Store) : R Val := match o with
  | some (.dK kvs) => match intKeys kvs with
    | some ks => bite (decide (ks.length < 64)) (newL ((sortI ks).map Val.int) S) .bad
    | none => .bad
  | _ => .bad
@[simp] theorem sortDR_dK (kvs : List (Key × Val)) {S : Store} : sortDR (some (.dK kvs)) S = match intKeys kvs with
    | some ks => bite (decide (ks.length < 64)) (newL ((sortI ks).map Val.int) S) .bad
    | none => .bad := rfl
@[simp] theorem fSortD_ref {S : Store} (a : Nat) : fSortD [.ref a] S = sortDR (sg S a) S := by
  show _ = sortDR S[a]? S
  simp only [fSortD, one]
  unfold sortDR
  cases S[a]? with
  | none => rfl
  | some o =>
    cases o with
    | dK kvs => first
      | (dsimp only; done)
      | (cases intKeys kvs <;> rfl)
      | (dsimp only; cases intKeys kvs <;> rfl)
    | _ => rfl
/-! == -/
def listD (n : Nat) (S : Store) (o : Option Ob) : Option PySem.PyData := match o with
  | some (.lst xs) => (xs.mapM (toD n S)).map .list
  | _ => none
@[simp] theorem listD_lst (n : Nat) (S : Store) (xs : List Val) : listD n S (some (.lst xs)) = (xs.mapM (toD n S)).map .list := rfl
theorem toD_ref (n : Nat) (S : Store) (i : Nat) : toD (n + 1) S (.ref i) = listD n S (sg S i) := by
  show _ = listD n S S[i]?
  simp only [toD]
  unfold listD
  cases S[i]? with
  | none => rfl
  | some o => cases o <;> rfl
theorem toD_tup (n : Nat) (S : Store) (vs : List Val) : toD (n + 1) S (.tup vs) = (vs.mapM (toD n S)).map .tuple := by simp only [toD]
@[simp] theorem toD_int (n : Nat) (S : Store) (i : Int) : toD n S (.int i) = some (.int i) := by cases n <;> simp [toD]
@[simp] theorem toD_str (n : Nat) (S : Store) (i : Str) : toD n S (.str i) = some (.str i) := by cases n <;> simp [toD]
@[simp] theorem toD_bl (n : Nat) (S : Store) (i : Bool) : toD n S (.bl i) = some (.bool i) := by cases n <;> simp [toD]
@[simp] theorem toD_non (n : Nat) (S : Store) : toD n S .non = some .none := by cases n <;> simp [toD]
@[simp] theorem pNe_bl {S : Store} (a b : Bool) : pNe (.bl a) (.bl b) S = .ok (.bl (!(a == b))) S := by
  unfold pNe eqO
  simp [PySem.SeqAt.shaped, PySem.PyData.canLay0, PySem.PyData.depth, PySem.PyData.eqv]
@[simp] theorem pNe_int {S : Store} (a b : Int) : pNe (.int a) (.int b) S = .ok (.bl (!decide (a = b))) S := by
  unfold pNe eqO
  simp [PySem.SeqAt.shaped, PySem.PyData.canLay0, PySem.PyData.depth, PySem.PyData.eqv]
  by_cases h : a = b <;> simp [h]
theorem pEq_str {S : Store} {a b : Str} (ha : PySem.PyData.strOk a = true) (hb : PySem.PyData.strOk b = true) : pEq (.str a) (.str b) S = .ok (.bl (a == b)) S := by
  unfold pEq eqO
  simp [PySem.SeqAt.shaped, PySem.PyData.canLay0, PySem.PyData.depth, PySem.PyData.eqv, ha, hb]
@[simp] theorem pIs_non {S : Store} (v : Val) : pIs v .non S = .ok (.bl (match v with | .non => true | _ => false)) S := by
  unfold pIs isC
  cases v <;> rfl
@[simp] theorem pIs_bl {S : Store} (v : Val) (b : Bool) : pIs v (.bl b) S = .ok (.bl (match v with | .bl c => decide (c = b) | _ => false)) S := by
  unfold pIs isC
  cases v <;> rfl
/-- nothing but h (and what is new) has changed -/
def Keep (h : Nat) (S S' : Store) : Prop := sl S ≤ sl S' ∧ ∀ i, i < sl S → i ≠ h → sg S' i = sg S i
theorem Keep.refl (h : Nat) (S : Store) : Keep h S S := ⟨Nat.le_refl _, fun _ _ _ => rfl⟩
theorem Keep.trans {h : Nat} {S S1 S2 : Store} (a : Keep h S S1) (b : Keep h S1 S2) : Keep h S S2 := ⟨Nat.le_trans a.1 b.1, fun i hi hn => (b.2 i (Nat.lt_of_lt_of_le hi a.1) hn).trans (a.2 i hi hn)⟩
theorem Keep.ss (h : Nat) (S : Store) (o : Ob) : Keep h S (ss S h o) := ⟨by simp, fun i _ hn => sg_ss_ne hn⟩
theorem Keep.sp (h : Nat) (S : Store) (o : Ob) : Keep h S (sp S o) := ⟨by simp, fun i hi _ => sg_sp_lt hi⟩
end Mp

/-! Mp11: the ends: from a law's Fn to the row. -/
namespace Mp
open PySem PySem.Spec L2
/-- the law's own promise -/
def spLaw (K : PySem.W.Frag) : Sp := fun us H Q _ => ∃ (a : Addr) (ns : List Int), us = [.ref a] ∧ FzL K H a (ns.map V.int) ∧ ns.length ≤ 63 ∧ ∀ H', Q (.bl true) H'
theorem fn_law {P : Program} {w : World} {K : PySem.W.Frag} {mg : Str → Option Value} {base : Heap} {CX : CXT} {k : Nat} {fa : Addr} {fd : FuncData} {ps : List Str} {f : Fn} (F : FnOk P w K mg base CX k fa fd ps (spM K mg 1 f))
    (h : ∀ ns : List Int, ns.length ≤ 63 → ∃ S, f [.fl ns] [] = .ok (.bl true) S) : FnOk P w K mg base CX k fa fd ps (spLaw K) := F.imp fun vs H Q E ⟨a, ns, e, hz, hl, k⟩ => by
  obtain ⟨S, q⟩ := h ns hl
  subst e
  refine ⟨fun _ => 0, [], [.fl ns], rfl, ⟨fun i o h => (by simp at h), fun i j h => absurd h (by simp)⟩, ⟨_, _, rfl, ⟨a, rfl, hz⟩, rfl⟩, ?_⟩
  rw [q]
  intro ρ' H' u _ _ r
  have r' : u = .bl true := r
  rw [r']
  exact k H'
theorem walk_mp {l : PySem.W.OpenLaw} {k : Nat} {q : Program} {loose : List Str} {XP : (Str → Option Value) → Heap → Prop} {YP : World → Heap → Prop} {d : DefRec} {K : Params → PySem.W.Frag} {x : Str} (hn : l.most = some 63) (hdf : d.params.defaults = []) (hr : Room k callerA)
    (hY : ∀ (w : World) (h : Heap), YP w h → (K w.params).In h)
    (F : ∀ (w : World) (mg : Str → Option Value) (fa : Addr) (h : Heap), (K w.params).In h → h.Ns mainGlobals mg → mg d.name = some (.ref fa) →
      ∃ fd : FuncData, (∀ (s : Shared) (u : Value), BindsTo s fd ⟨[u], []⟩ [(x, u)]) ∧ ∀ base : Heap, (K w.params).In base → base.Ns mainGlobals mg → FnOk l.prog w (K w.params) mg base (L2.CX l.prog w) k fa fd [x] (spLaw (K w.params))) :
    PySem.W.WalkO q loose XP YP l.row.toRowW d [] (fun f vs => PySem.call f vs) :=
  L2.walk_of (n := 63) (k := k) (x := x) (CX := fun w => L2.CX l.prog w) (sp := fun w => spLaw (K w.params)) hn (by decide) hdf hr hY F (fun w H a ns hl hO hS => by
    refine ⟨a, ns, rfl, ?_, hl, fun _ => rfl⟩
    rcases hS with hS | hS
    · rcases hS with hS | hS
      · rcases hO a with q | ⟨o, xs, q⟩
        · rw [q] at hS; cases hS
        · rw [q] at hS; cases hS
      · exact .inl hS
    · exact .inr hS) fun _ _ _ _ _ ⟨_, _, _, _, _, _, _, _, _, _, _, _, z⟩ => z
/-- what an except clause with the class at C says of an error of class Y -/
theorem exm_of {K : PySem.W.Frag} {C Y : Addr} {b : Bool} (h1 : PySem.W.subIn K (.ref C) (.type "BaseException") = some true) (h2 : PySem.W.isClsIn K C = true) (h3 : PySem.W.typeIn K (.ref C) = some (.type "type")) (h4 : PySem.W.subIn K (.ref Y) (.ref C) = some b) :
    PySem.W.exmOne K (.ref Y) (.ref C) = some b := by
  have e1 : (PySem.W.subIn K (.ref C) (.type "BaseException") == some true) = true := by rw [h1] <;> rfl
  have e2 : ((PySem.W.clsIn K C).isSome && PySem.W.typeIn K (.ref C) == some (.type "type")) = true := by
    have h2' : (PySem.W.clsIn K C).isSome = true := h2
    rw [h2', h3] <;> rfl
  unfold PySem.W.exmOne PySem.W.kitCls
  simp only [e1, e2, if_true]
  exact h4
end Mp

/-! printed by gen.py: the defs of the text as combinators, and that they are right -/
namespace K09
open PySem PySem.Spec L2 Mp
def topS (i : Nat) : Stmt := PySem.Challenge.pw_knownquiet_k09_refusals_of_links.main.body.getD i (.Pass ⟨0, 0, 0, 0⟩)
structure Txt (K : PySem.W.Frag) (mg : Str → Option Value) : Prop where
  b_bool : mg "bool" = none
  b_int : mg "int" = none
  b_isinstance : mg "isinstance" = none
  b_len : mg "len" = none
  b_list : mg "list" = none
  b_max : mg "max" = none
  b_range : mg "range" = none
  b_sorted : mg "sorted" = none
  b_str : mg "str" = none
  b_tuple : mg "tuple" = none
  b_zip : mg "zip" = none
  c_MOST_AHEAD : ∃ t, mg "MOST_AHEAD" = some (.int 1000 t)
  c_MOST_NUMBER : ∃ t, mg "MOST_NUMBER" = some (.int 4294967296 t)
  f_Incoming_ahead : FldAt K mg "Incoming" "ahead"
  f_Incoming_many : FldAt K mg "Incoming" "many"
  f_Outgoing_gone : FldAt K mg "Outgoing" "gone"
  f_Outgoing_stored : FldAt K mg "Outgoing" "stored"
  e_NoNumber : Err0 K mg "NoNumber"
  h_NoNumber_0 : ∃ C, mg "NoNumber" = some (.ref C) ∧ HdOk K mg (.ref C) [("NoNumber", true)]
abbrev st_m_is_integer : Stmt := topS 5
abbrev N_m_is_integer : List Str := ["thing"]
theorem sc_m_is_integer : FnScope N_m_is_integer ["thing"] (defScope st_m_is_integer) := ⟨rfl, rfl, rfl, by decide +kernel, rfl, by decide +kernel, by decide +kernel⟩
noncomputable def m_is_integer : Fn := fDef 1 1
    (sRet (mAnd (m1 (pIsT "int") (mV 0)) (mNot (m1 (pIsT "bool") (mV 0)))))
abbrev st_m_is_within : Stmt := topS 6
abbrev N_m_is_within : List Str := ["thing", "least", "most"]
theorem sc_m_is_within : FnScope N_m_is_within ["thing", "least", "most"] (defScope st_m_is_within) := ⟨rfl, rfl, rfl, by decide +kernel, rfl, by decide +kernel, by decide +kernel⟩
noncomputable def m_is_within : Fn := fDef 3 3
    (sRet (mAnd (mA m_is_integer (aCons (mV 0) aNil)) (mChain pLe pLe (mV 1) (mV 0) (mV 2))))
abbrev st_m_check_within : Stmt := topS 7
abbrev N_m_check_within : List Str := ["thing", "least", "most"]
theorem sc_m_check_within : FnScope N_m_check_within ["thing", "least", "most"] (defScope st_m_check_within) := ⟨rfl, rfl, rfl, by decide +kernel, rfl, by decide +kernel, by decide +kernel⟩
noncomputable def m_check_within : Fn := fDef 3 3
    (sIf (Mp.tNot (tV (mA m_is_within (aCons (mV 0) (aCons (mV 1) (aCons (mV 2) aNil))))))
    (sRaise "NoNumber" [] aNil)
    sNx)
abbrev st_m_Outgoing___init__ : Stmt := inClass (topS 11) 0
abbrev N_m_Outgoing___init__ : List Str := ["self"]
theorem sc_m_Outgoing___init__ : FnScope N_m_Outgoing___init__ ["self"] (defScope st_m_Outgoing___init__) := ⟨rfl, rfl, rfl, by decide +kernel, rfl, by decide +kernel, by decide +kernel⟩
noncomputable def m_Outgoing___init__ : Fn := fDef 1 1
    (sSeq (Mp.sFld "Outgoing" "gone" (mV 0) (mC (.int 0)))
    (Mp.sFld "Outgoing" "stored" (mV 0) (mLst aNil)))
abbrev st_m_Outgoing_many_put : Stmt := inClass (topS 11) 4
abbrev N_m_Outgoing_many_put : List Str := ["self"]
theorem sc_m_Outgoing_many_put : FnScope N_m_Outgoing_many_put ["self"] (defScope st_m_Outgoing_many_put) := ⟨rfl, rfl, rfl, by decide +kernel, rfl, by decide +kernel, by decide +kernel⟩
noncomputable def m_Outgoing_many_put : Fn := fDef 1 1
    (sRet (m2 pAdd (m1 (getF "Outgoing" "gone") (mV 0)) (mB fLen (aCons (m1 (getF "Outgoing" "stored") (mV 0)) aNil))))
abbrev st_m_Outgoing_put : Stmt := inClass (topS 11) 1
abbrev N_m_Outgoing_put : List Str := ["self", "thing"]
theorem sc_m_Outgoing_put : FnScope N_m_Outgoing_put ["self", "thing"] (defScope st_m_Outgoing_put) := ⟨rfl, rfl, rfl, by decide +kernel, rfl, by decide +kernel, by decide +kernel⟩
noncomputable def m_Outgoing_put : Fn := fDef 2 2
    (sSeq (sExpr (mBM "list" fAppend (m1 (getF "Outgoing" "stored") (mV 0)) (aCons (mV 1) aNil)))
    (sRet (m2 pSub (mMeth "Outgoing" "many_put" m_Outgoing_many_put (mV 0) aNil) (mC (.int 1)))))
abbrev st_m_Outgoing_known : Stmt := inClass (topS 11) 2
abbrev N_m_Outgoing_known : List Str := ["self", "number", "many"]
theorem sc_m_Outgoing_known : FnScope N_m_Outgoing_known ["self", "number"] (defScope st_m_Outgoing_known) := ⟨rfl, rfl, rfl, by decide +kernel, rfl, by decide +kernel, by decide +kernel⟩
noncomputable def m_Outgoing_known : Fn := fDef 3 2
    (sSeq (sExpr (mA m_check_within (aCons (mV 1) (aCons (mC (.int 0)) (aCons (mMeth "Outgoing" "many_put" m_Outgoing_many_put (mV 0) aNil) aNil)))))
    (sSeq (sAsg (mB fMax (aCons (mC (.int 0)) (aCons (m2 pSub (mV 1) (m1 (getF "Outgoing" "gone") (mV 0))) aNil))) (gN 2))
    (sSeq (Mp.sFld "Outgoing" "stored" (mV 0) (mSl (m1 (getF "Outgoing" "stored") (mV 0)) (oSome (mV 2)) oNo))
    (sSeq (Mp.sFldAug "Outgoing" "gone" (mV 0) (mV 2) pAddI)
    (sRet (mV 2))))))
abbrev st_m_Outgoing_state : Stmt := inClass (topS 11) 5
abbrev N_m_Outgoing_state : List Str := ["self"]
theorem sc_m_Outgoing_state : FnScope N_m_Outgoing_state ["self"] (defScope st_m_Outgoing_state) := ⟨rfl, rfl, rfl, by decide +kernel, rfl, by decide +kernel, by decide +kernel⟩
noncomputable def m_Outgoing_state : Fn := fDef 1 1
    (sRet (mTup (aCons (m1 (getF "Outgoing" "gone") (mV 0)) (aCons (mB fTuple (aCons (m1 (getF "Outgoing" "stored") (mV 0)) aNil)) aNil))))
abbrev st_m_Incoming___init__ : Stmt := inClass (topS 12) 0
abbrev N_m_Incoming___init__ : List Str := ["self"]
theorem sc_m_Incoming___init__ : FnScope N_m_Incoming___init__ ["self"] (defScope st_m_Incoming___init__) := ⟨rfl, rfl, rfl, by decide +kernel, rfl, by decide +kernel, by decide +kernel⟩
noncomputable def m_Incoming___init__ : Fn := fDef 1 1
    (sSeq (Mp.sFld "Incoming" "many" (mV 0) (mC (.int 0)))
    (Mp.sFld "Incoming" "ahead" (mV 0) mDK))
abbrev st_m_Incoming_take : Stmt := inClass (topS 12) 1
abbrev N_m_Incoming_take : List Str := ["self", "number", "thing", "found"]
theorem sc_m_Incoming_take : FnScope N_m_Incoming_take ["self", "number", "thing"] (defScope st_m_Incoming_take) := ⟨rfl, rfl, rfl, by decide +kernel, rfl, by decide +kernel, by decide +kernel⟩
noncomputable def m_Incoming_take : Fn := fDef 4 3
    (sSeq (sExpr (mA m_check_within (aCons (mV 1) (aCons (mC (.int 0)) (aCons (m2 pSub (mC (.int 4294967296)) (mC (.int 1))) aNil)))))
    (sSeq (sIf (Mp.tAnd (tV (mChain pLe pLt (m1 (getF "Incoming" "many") (mV 0)) (mV 1) (m2 pAdd (m1 (getF "Incoming" "many") (mV 0)) (mC (.int 1000))))) (tV (m2 pNotIn (mV 1) (m1 (getF "Incoming" "ahead") (mV 0)))))
    (sAsg (mV 2) (gSub (m1 (getF "Incoming" "ahead") (mV 0)) (mV 1) pSet))
    sNx)
    (sSeq (sAsg (mLst aNil) (gN 3))
    (sSeq (Mp.sWhile (tV (m2 pIn (m1 (getF "Incoming" "many") (mV 0)) (m1 (getF "Incoming" "ahead") (mV 0))))
    (sSeq (sExpr (mBM "list" fAppend (mV 3) (aCons (mBM "dict" fDPop (m1 (getF "Incoming" "ahead") (mV 0)) (aCons (m1 (getF "Incoming" "many") (mV 0)) aNil)) aNil)))
    (Mp.sFldAug "Incoming" "many" (mV 0) (mC (.int 1)) pAddI)))
    (sRet (mV 3))))))
abbrev st_m_Incoming_taken : Stmt := inClass (topS 12) 2
abbrev N_m_Incoming_taken : List Str := ["self"]
theorem sc_m_Incoming_taken : FnScope N_m_Incoming_taken ["self"] (defScope st_m_Incoming_taken) := ⟨rfl, rfl, rfl, by decide +kernel, rfl, by decide +kernel, by decide +kernel⟩
noncomputable def m_Incoming_taken : Fn := fDef 1 1
    (sRet (m1 (getF "Incoming" "many") (mV 0)))
abbrev st_m_Incoming_state : Stmt := inClass (topS 12) 4
abbrev N_m_Incoming_state : List Str := ["self", "number"]
theorem sc_m_Incoming_state : FnScope N_m_Incoming_state ["self"] (defScope st_m_Incoming_state) := ⟨rfl, rfl, rfl, by decide +kernel, rfl, by decide +kernel, by decide +kernel⟩
noncomputable def m_Incoming_state : Fn := fDef 2 1
    (sRet (mTup (aCons (m1 (getF "Incoming" "many") (mV 0)) (aCons (mB fTuple (aCons (mLc (iV (mB fSortD (aCons (m1 (getF "Incoming" "ahead") (mV 0)) aNil))) [1] (gN 1) tYes (mTup (aCons (mV 1) (aCons (m2 pIx (m1 (getF "Incoming" "ahead") (mV 0)) (mV 1)) aNil)))) aNil)) aNil))))
abbrev st_m_law_hand : Stmt := topS 14
abbrev N_m_law_hand : List Str := ["_law_script"]
theorem sc_m_law_hand : FnScope N_m_law_hand ["_law_script"] (defScope st_m_law_hand) := ⟨rfl, rfl, rfl, by decide +kernel, rfl, by decide +kernel, by decide +kernel⟩
noncomputable def m_law_hand : Fn := fDef 1 1
    (sRet (mLst (aCons (mB fList (aCons (mV 0) aNil)) (aCons (mC (.int 0)) (aCons (mC (.int 0)) (aCons (mC (.int 1)) (aCons (mC (.int 0)) aNil)))))))
abbrev st_m_law_take : Stmt := topS 15
abbrev N_m_law_take : List Str := ["_law_hand_here", "_law_many", "_law_cell", "_law_found", "_law_number"]
theorem sc_m_law_take : FnScope N_m_law_take ["_law_hand_here", "_law_many"] (defScope st_m_law_take) := ⟨rfl, rfl, rfl, by decide +kernel, rfl, by decide +kernel, by decide +kernel⟩
noncomputable def m_law_take : Fn := fDef 5 2
    (sSeq (sAsg (m2 pAdd (m2 pIx (mV 0) (mC (.int 4))) (mC (.int 1))) (gSub (mV 0) (mC (.int 4)) pSet))
    (sSeq (sIf (Mp.tAnd (tV (m2 pEq (m2 pIx (mV 0) (mC (.int 2))) (mC (.int 0)))) (tV (m2 pLt (m2 pIx (mV 0) (mC (.int 1))) (mB fLen (aCons (m2 pIx (mV 0) (mC (.int 0))) aNil)))))
    (sSeq (sAsg (mB fInt (aCons (m2 pIx (m2 pIx (mV 0) (mC (.int 0))) (m2 pIx (mV 0) (mC (.int 1)))) aNil)) (gN 2))
    (sSeq (sAsg (m2 pAdd (m2 pIx (mV 0) (mC (.int 1))) (mC (.int 1))) (gSub (mV 0) (mC (.int 1)) pSet))
    (sIf (tV (m2 pGe (mV 2) (m2 pPow (mC (.int 10)) (mC (.int 18)))))
    (sAsg (mV 2) (gSub (mV 0) (mC (.int 2)) pSet))
    (sAsg (m2 pMod (mB fInt (aCons (m2 pAdd (m2 pAdd (m2 pMulI (m2 pIx (mV 0) (mC (.int 3))) (mC (.int 48271))) (m2 pMod (mB fInt (aCons (mV 2) aNil)) (mC (.int 2147483647)))) (mC (.int 1))) aNil)) (mC (.int 2147483647))) (gSub (mV 0) (mC (.int 3)) pSet)))))
    sNx)
    (sSeq (sIf (tV (m2 pGt (m2 pIx (mV 0) (mC (.int 2))) (mC (.int 0))))
    (sSeq (sAsg (m2 pMod (mB fInt (aCons (m2 pIx (mV 0) (mC (.int 2))) aNil)) (mV 1)) (gN 3))
    (sSeq (sAsg (m2 pDiv (mB fInt (aCons (m2 pIx (mV 0) (mC (.int 2))) aNil)) (mV 1)) (gSub (mV 0) (mC (.int 2)) pSet))
    (sRet (mV 3))))
    sNx)
    (sSeq (sAsg (m2 pMod (mB fInt (aCons (m2 pAdd (m2 pMulI (m2 pIx (mV 0) (mC (.int 3))) (mC (.int 69621))) (m2 pMulI (mC (.int 7919)) (m2 pIx (mV 0) (mC (.int 4))))) aNil)) (mC (.int 2147483647))) (gSub (mV 0) (mC (.int 3)) pSet))
    (sSeq (sAsg (m2 pMod (mB fInt (aCons (m2 pMulI (m2 pIx (mV 0) (mC (.int 3))) (m2 pAdd (m2 pDiv (m2 pIx (mV 0) (mC (.int 3))) (mC (.int 1009))) (mC (.int 69621)))) aNil)) (mC (.int 2147483647))) (gN 4))
    (sSeq (sAsg (m2 pMod (mB fInt (aCons (m2 pMulI (mV 4) (m2 pAdd (m2 pDiv (mV 4) (mC (.int 2003))) (mC (.int 40692)))) aNil)) (mC (.int 2147483399))) (gN 4))
    (sRet (m2 pMod (mB fInt (aCons (m2 pDiv (mV 4) (mC (.int 16))) aNil)) (mV 1)))))))))
abbrev st_m_law_pick : Stmt := topS 16
abbrev N_m_law_pick : List Str := ["_law_hand_here", "_law_things"]
theorem sc_m_law_pick : FnScope N_m_law_pick ["_law_hand_here", "_law_things"] (defScope st_m_law_pick) := ⟨rfl, rfl, rfl, by decide +kernel, rfl, by decide +kernel, by decide +kernel⟩
noncomputable def m_law_pick : Fn := fDef 2 2
    (sRet (m2 pIx (mV 1) (mA m_law_take (aCons (mV 0) (aCons (mB fLen (aCons (mV 1) aNil)) aNil)))))
abbrev st_m_law_is_integer : Stmt := topS 17
abbrev N_m_law_is_integer : List Str := ["_law_thing"]
theorem sc_m_law_is_integer : FnScope N_m_law_is_integer ["_law_thing"] (defScope st_m_law_is_integer) := ⟨rfl, rfl, rfl, by decide +kernel, rfl, by decide +kernel, by decide +kernel⟩
noncomputable def m_law_is_integer : Fn := fDef 1 1
    (sRet (mAnd (m1 (pIsT "int") (mV 0)) (mNot (m1 (pIsT "bool") (mV 0)))))
abbrev st_m_law_is_within : Stmt := topS 18
abbrev N_m_law_is_within : List Str := ["_law_thing", "_law_least", "_law_most"]
theorem sc_m_law_is_within : FnScope N_m_law_is_within ["_law_thing", "_law_least", "_law_most"] (defScope st_m_law_is_within) := ⟨rfl, rfl, rfl, by decide +kernel, rfl, by decide +kernel, by decide +kernel⟩
noncomputable def m_law_is_within : Fn := fDef 3 3
    (sRet (mAnd (mA m_law_is_integer (aCons (mV 0) aNil)) (mAnd (m2 pLe (mV 1) (mV 0)) (m2 pLe (mV 0) (mV 2)))))
abbrev st_m_law_same : Stmt := topS 19
abbrev N_m_law_same : List Str := ["_law_actual", "_law_due", "_law_one", "_law_other"]
theorem sc_m_law_same : FnScope N_m_law_same ["_law_actual", "_law_due"] (defScope st_m_law_same) := ⟨rfl, rfl, rfl, by decide +kernel, rfl, by decide +kernel, by decide +kernel⟩
noncomputable def m_law_same : Nat → Fn
  | 0 => fun _ _ => .bad
  | fu + 1 => fDef 4 2
    (sSeq (sIf (tV (m2 pIs (mV 1) (mC .non)))
    (sRet (m2 pIs (mV 0) (mC .non)))
    sNx)
    (sSeq (sIf (tV (m2 pIs (mV 1) (mC (.bl true))))
    (sRet (m2 pIs (mV 0) (mC (.bl true))))
    sNx)
    (sSeq (sIf (tV (m2 pIs (mV 1) (mC (.bl false))))
    (sRet (m2 pIs (mV 0) (mC (.bl false))))
    sNx)
    (sSeq (sIf (tV (m1 (pIsT "int") (mV 1)))
    (sRet (mAnd (mA m_law_is_integer (aCons (mV 0) aNil)) (m2 pEq (mV 0) (mV 1))))
    sNx)
    (sSeq (sIf (tV (m1 (pIsT "str") (mV 1)))
    (sRet (mAnd (m1 (pIsT "str") (mV 0)) (m2 pEq (mV 0) (mV 1))))
    sNx)
    (sSeq (sIf (Mp.tOr (tV (m2 pNe (m1 (pIsT "tuple") (mV 1)) (m1 (pIsT "tuple") (mV 0)))) (tV (m2 pNe (m1 (pIsT "list") (mV 1)) (m1 (pIsT "list") (mV 0)))))
    (sRet (mC (.bl false)))
    sNx)
    (sSeq (sIf (tV (m2 pNe (mB fLen (aCons (mV 0) aNil)) (mB fLen (aCons (mV 1) aNil))))
    (sRet (mC (.bl false)))
    sNx)
    (sSeq (Mp.sFor (iZip (aCons (mV 0) (aCons (mV 1) aNil))) (gTup (gsCons (gN 2) (gsCons (gN 3) gsNil)))
    (sIf (Mp.tNot (tV (mA (m_law_same fu) (aCons (mV 2) (aCons (mV 3) aNil)))))
    (sRet (mC (.bl false)))
    sNx))
    (sRet (mC (.bl true)))))))))))
theorem m_law_same_len : ∀ (n : Nat) (vs : List Val) (S : Store), vs.length ≠ 2 → m_law_same n vs S = .bad
  | 0, _, _, _ => rfl
  | n + 1, vs, S, h => by unfold m_law_same; exact fDef_len vs S h
abbrev st_m_law_odd : Stmt := topS 20
abbrev N_m_law_odd : List Str := ["_law_hand_here", "_law_way"]
theorem sc_m_law_odd : FnScope N_m_law_odd ["_law_hand_here"] (defScope st_m_law_odd) := ⟨rfl, rfl, rfl, by decide +kernel, rfl, by decide +kernel, by decide +kernel⟩
noncomputable def m_law_odd : Fn := fDef 2 1
    (sSeq (sAsg (mA m_law_take (aCons (mV 0) (aCons (mC (.int 18)) aNil))) (gN 1))
    (sSeq (sIf (tV (m2 pLt (mV 1) (mC (.int 6))))
    (sRet (m2 pIx (mLst (aCons (mC .non) (aCons (mC (.bl true)) (aCons (mC (.bl false)) (aCons (mC (.str "")) (aCons (mC (.str "do")) (aCons (mC (.str "0")) aNil))))))) (mV 1)))
    sNx)
    (sSeq (sIf (tV (m2 pLt (mV 1) (mC (.int 12))))
    (sRet (m2 pIx (mLst (aCons (mTup aNil) (aCons (mLst aNil) (aCons mDK (aCons (mTup (aCons (mC (.int 0)) aNil)) (aCons (mLst (aCons (mC (.int 0)) (aCons (mC (.int 0)) aNil))) (aCons (mTup (aCons (mTup aNil) aNil)) aNil))))))) (m2 pSub (mV 1) (mC (.int 6)))))
    sNx)
    (sRet (m2 pIx (mLst (aCons (m1 pNeg (mC (.int 1))) (aCons (mC (.int 13)) (aCons (m2 pSub (m2 pPow (mC (.int 10)) (mC (.int 20))) (mC (.int 1))) (aCons (mTup (aCons (mC (.int 0)) (aCons (mC (.int 13)) aNil))) (aCons (mTup (aCons (mC (.bl true)) (aCons (mC (.int 0)) aNil))) (aCons (mTup (aCons (mC (.int 0)) (aCons (mC (.int 0)) (aCons (mC (.int 0)) aNil)))) aNil))))))) (m2 pSub (mV 1) (mC (.int 12))))))))
abbrev st_m_law_known : Stmt := topS 21
abbrev N_m_law_known : List Str := ["_law_out", "_law_number"]
theorem sc_m_law_known : FnScope N_m_law_known ["_law_out", "_law_number"] (defScope st_m_law_known) := ⟨rfl, rfl, rfl, by decide +kernel, rfl, by decide +kernel, by decide +kernel⟩
noncomputable def m_law_known : Fn := fDef 2 2
    (sTry (sRet (mTup (aCons (mC (.str "told")) (aCons (mMeth "Outgoing" "known" m_Outgoing_known (mV 0) (aCons (mV 1) aNil)) aNil))))
    (⟨[("NoNumber", true)], fun _ => (sRet (mTup (aCons (mC (.str "NoNumber")) aNil)))⟩ :: []))
abbrev st_m_law_taken : Stmt := topS 22
abbrev N_m_law_taken : List Str := ["_law_end", "_law_number"]
theorem sc_m_law_taken : FnScope N_m_law_taken ["_law_end", "_law_number"] (defScope st_m_law_taken) := ⟨rfl, rfl, rfl, by decide +kernel, rfl, by decide +kernel, by decide +kernel⟩
noncomputable def m_law_taken : Fn := fDef 2 2
    (sTry (sRet (mTup (aCons (mC (.str "told")) (aCons (mMeth "Incoming" "take" m_Incoming_take (mV 0) (aCons (mV 1) (aCons (mTup (aCons (mC (.str "x")) (aCons (mV 1) aNil))) aNil))) aNil))))
    (⟨[("NoNumber", true)], fun _ => (sRet (mTup (aCons (mC (.str "NoNumber")) aNil)))⟩ :: []))
abbrev st_m_law : Stmt := topS 23
abbrev N_m_law : List Str := ["_law_script", "_law_hand_here", "_law_out", "_law_end", "_law_many", "_law_k", "_law_gone", "_law_taken_here", "_law_number", "_law_state", "_law_told"]
theorem sc_m_law : FnScope N_m_law ["_law_script"] (defScope st_m_law) := ⟨rfl, rfl, rfl, by decide +kernel, rfl, by decide +kernel, by decide +kernel⟩
noncomputable def m_law_s1 : MS := (sAsg (mA m_law_hand (aCons (mV 0) aNil)) (gN 1))
noncomputable def m_law_s2 : MS := (sAsg (mA (fMake "Outgoing" m_Outgoing___init__) aNil) (gN 2))
noncomputable def m_law_s3 : MS := (sAsg (mA (fMake "Incoming" m_Incoming___init__) aNil) (gN 3))
noncomputable def m_law_s4 : MS := (sAsg (mA m_law_take (aCons (mV 1) (aCons (mC (.int 9)) aNil))) (gN 4))
noncomputable def m_law_s6 : MS := (sExpr (mMeth "Outgoing" "put" m_Outgoing_put (mV 2) (aCons (mTup (aCons (mC (.str "thing")) (aCons (mV 5) aNil))) aNil)))
noncomputable def m_law_s5 : MS := (Mp.sFor (iRng1 (aCons (mV 4) aNil)) (gN 5)
    m_law_s6)
noncomputable def m_law_s7 : MS := (sAsg (mC (.int 0)) (gN 6))
noncomputable def m_law_s8 : MS := (sAsg (mC (.int 0)) (gN 7))
noncomputable def m_law_s10 : MS := (sAsg (mA m_law_pick (aCons (mV 1) (aCons (mLst (aCons (mA m_law_take (aCons (mV 1) (aCons (m2 pAdd (mV 4) (mC (.int 1))) aNil))) (aCons (mV 4) (aCons (m2 pAdd (mV 4) (mC (.int 1))) (aCons (m1 pNeg (mC (.int 1))) (aCons (mC (.bl true)) (aCons (mC .non) (aCons (mC (.str "0")) (aCons (mA m_law_odd (aCons (mV 1) aNil)) (aCons (m2 pPow (mC (.int 10)) (mC (.int 19))) aNil)))))))))) aNil))) (gN 8))
noncomputable def m_law_s11 : MS := (sAsg (mMeth "Outgoing" "state" m_Outgoing_state (mV 2) aNil) (gN 9))
noncomputable def m_law_s12 : MS := (sAsg (mA m_law_known (aCons (mV 2) (aCons (mV 8) aNil))) (gN 10))
noncomputable def m_law_s15 : MS := (sRet (mC (.bl false)))
noncomputable def m_law_s14 : MS := (sIf (Mp.tNot (tV (mA (m_law_same 100) (aCons (mV 10) (aCons (mTup (aCons (mC (.str "told")) (aCons (mB fMax (aCons (mC (.int 0)) (aCons (m2 pSub (mV 8) (mV 6)) aNil))) aNil))) aNil)))))
    m_law_s15
    sNx)
noncomputable def m_law_s16 : MS := (sAsg (mB fMax (aCons (mV 6) (aCons (mV 8) aNil))) (gN 6))
noncomputable def m_law_s18 : MS := (sRet (mC (.bl false)))
noncomputable def m_law_s17 : MS := (sIf (Mp.tOr (tV (m2 pNe (mV 10) (mTup (aCons (mC (.str "NoNumber")) aNil)))) (Mp.tNot (tV (mA (m_law_same 100) (aCons (mMeth "Outgoing" "state" m_Outgoing_state (mV 2) aNil) (aCons (mV 9) aNil))))))
    m_law_s18
    sNx)
noncomputable def m_law_s13 : MS := (sIf (tV (mA m_law_is_within (aCons (mV 8) (aCons (mC (.int 0)) (aCons (mV 4) aNil)))))
    (sSeq m_law_s14
    m_law_s16)
    m_law_s17)
noncomputable def m_law_s19 : MS := (sAsg (mA m_law_pick (aCons (mV 1) (aCons (mLst (aCons (mV 7) (aCons (mV 7) (aCons (mV 7) (aCons (m2 pSub (m2 pPow (mC (.int 2)) (mC (.int 32))) (mC (.int 1))) (aCons (m2 pPow (mC (.int 2)) (mC (.int 32))) (aCons (m1 pNeg (mC (.int 1))) (aCons (mC (.bl false)) (aCons (mC .non) (aCons (mTup (aCons (mC (.int 0)) aNil)) (aCons (mA m_law_odd (aCons (mV 1) aNil)) aNil))))))))))) aNil))) (gN 8))
noncomputable def m_law_s21 : MS := (sAsg (mV 7) (gN 8))
noncomputable def m_law_s20 : MS := (sIf (tV (mA m_law_is_within (aCons (mV 8) (aCons (m2 pAdd (mV 7) (mC (.int 1))) (aCons (m2 pAdd (mV 7) (mC (.int 999))) aNil)))))
    m_law_s21
    sNx)
noncomputable def m_law_s22 : MS := (sAsg (mMeth "Incoming" "state" m_Incoming_state (mV 3) aNil) (gN 9))
noncomputable def m_law_s23 : MS := (sAsg (mA m_law_taken (aCons (mV 3) (aCons (mV 8) aNil))) (gN 10))
noncomputable def m_law_s26 : MS := (sRet (mC (.bl false)))
noncomputable def m_law_s25 : MS := (sIf (Mp.tOr (tV (m2 pNe (mV 10) (mTup (aCons (mC (.str "NoNumber")) aNil)))) (Mp.tNot (tV (mA (m_law_same 100) (aCons (mMeth "Incoming" "state" m_Incoming_state (mV 3) aNil) (aCons (mV 9) aNil))))))
    m_law_s26
    sNx)
noncomputable def m_law_s29 : MS := (sRet (mC (.bl false)))
noncomputable def m_law_s28 : MS := (sIf (Mp.tNot (tV (mA (m_law_same 100) (aCons (mV 10) (aCons (mTup (aCons (mC (.str "told")) (aCons (mLst (aCons (mTup (aCons (mC (.str "x")) (aCons (mV 8) aNil))) aNil)) aNil))) aNil)))))
    m_law_s29
    sNx)
noncomputable def m_law_s30 : MS := (sAsg (m2 pAdd (mV 7) (mC (.int 1))) (gN 7))
noncomputable def m_law_s32 : MS := (sRet (mC (.bl false)))
noncomputable def m_law_s31 : MS := (sIf (tV (m2 pNe (mV 10) (mTup (aCons (mC (.str "told")) (aCons (mLst aNil) aNil)))))
    m_law_s32
    sNx)
noncomputable def m_law_s27 : MS := (sIf (tV (m2 pEq (mV 8) (mV 7)))
    (sSeq m_law_s28
    m_law_s30)
    m_law_s31)
noncomputable def m_law_s24 : MS := (sIf (Mp.tNot (tV (mA m_law_is_within (aCons (mV 8) (aCons (mC (.int 0)) (aCons (m2 pSub (m2 pPow (mC (.int 2)) (mC (.int 32))) (mC (.int 1))) aNil))))))
    m_law_s25
    m_law_s27)
noncomputable def m_law_s9 : MS := (Mp.sFor (iRng1 (aCons (mC (.int 8)) aNil)) (gN 5)
    (sSeq m_law_s10
    (sSeq m_law_s11
    (sSeq m_law_s12
    (sSeq m_law_s13
    (sSeq m_law_s19
    (sSeq m_law_s20
    (sSeq m_law_s22
    (sSeq m_law_s23
    m_law_s24)))))))))
noncomputable def m_law_s33 : MS := (sRet (mAnd (mA (m_law_same 100) (aCons (mMeth "Outgoing" "many_put" m_Outgoing_many_put (mV 2) aNil) (aCons (mV 4) aNil))) (mA (m_law_same 100) (aCons (mMeth "Incoming" "taken" m_Incoming_taken (mV 3) aNil) (aCons (mV 7) aNil)))))
noncomputable def m_law : Fn := fDef 11 1
    (sSeq m_law_s1
    (sSeq m_law_s2
    (sSeq m_law_s3
    (sSeq m_law_s4
    (sSeq m_law_s5
    (sSeq m_law_s7
    (sSeq m_law_s8
    (sSeq m_law_s9
    m_law_s33))))))))
section
variable {P : Program} {w : World} {K : PySem.W.Frag} {mg : Str → Option Value} {base : Heap}
theorem ok_m_is_integer {fa : Addr} {fd : FuncData} (F : Fun K "is_integer" "is_integer" st_m_is_integer fa fd) (T : Txt K mg)  : FnOk P w K mg base (L2.CX P w) 1 fa fd ["thing"] (spM K mg 1 m_is_integer) :=
  def_ok (k := 0) F sc_m_is_integer rfl rfl fun cdv A outer s H E hr tk hpo => by
    have hu1 := hu_of hr
    have hu64 := hr.units
    exact (s_one (s_ret (e_and (e_isT rfl T.b_isinstance (e_v (pv 0)) rfl T.b_int (by decide +kernel) (by decide)) (e_one (e_not (e_isT rfl T.b_isinstance (e_v (pv 0)) rfl T.b_bool (by decide +kernel) (by decide)))))))
theorem ok_m_is_within {fa : Addr} {fd : FuncData} (F : Fun K "is_within" "is_within" st_m_is_within fa fd) (T : Txt K mg) (D_m_is_integer : DefAt P w K mg base 1 "is_integer" 1 m_is_integer) : FnOk P w K mg base (L2.CX P w) 2 fa fd ["thing", "least", "most"] (spM K mg 3 m_is_within) :=
  def_ok (k := 1) F sc_m_is_within rfl rfl fun cdv A outer s H E hr tk hpo => by
    have hu1 := hu_of hr
    have hu64 := hr.units
    exact (s_one (s_ret (e_and (e_call D_m_is_integer fDef_len tk (hr.mono (by omega)) rfl (a_cons (e_v (pv 0)) a_nil)) (e_one (e_chain o_le o_le (e_v (pv 1)) (e_v (pv 0)) (e_v (pv 2)))))))
theorem ok_m_check_within {fa : Addr} {fd : FuncData} (F : Fun K "check_within" "check_within" st_m_check_within fa fd) (T : Txt K mg) (D_m_is_within : DefAt P w K mg base 2 "is_within" 3 m_is_within) : FnOk P w K mg base (L2.CX P w) 3 fa fd ["thing", "least", "most"] (spM K mg 3 m_check_within) :=
  def_ok (k := 2) F sc_m_check_within rfl rfl fun cdv A outer s H E hr tk hpo => by
    have hu1 := hu_of hr
    have hu64 := hr.units
    exact (s_one (s_if (t_not (t_v (e_call D_m_is_within fDef_len tk (hr.mono (by omega)) rfl (a_cons (e_v (pv 0)) (a_cons (e_v (pv 1)) (a_cons (e_v (pv 2)) a_nil))))))
      (s_one (s_raise0 rfl tk T.e_NoNumber rfl))
      s_nil))
theorem ok_m_Outgoing___init__ {fa : Addr} {fd : FuncData} (F : Fun K "__init__" "Outgoing.__init__" st_m_Outgoing___init__ fa fd) (T : Txt K mg)  : FnOk P w K mg base (L2.CX P w) 1 fa fd ["self"] (spM K mg 1 m_Outgoing___init__) :=
  def_ok (k := 0) F sc_m_Outgoing___init__ rfl rfl fun cdv A outer s H E hr tk hpo => by
    have hu1 := hu_of hr
    have hu64 := hr.units
    exact (s_cons (s_fldA T.f_Outgoing_gone (e_v (pv 0)) e_int)
      (s_one (s_fldA T.f_Outgoing_stored (e_v (pv 0)) (e_lst a_nil))))
theorem ok_m_Outgoing_many_put {fa : Addr} {fd : FuncData} (F : Fun K "many_put" "Outgoing.many_put" st_m_Outgoing_many_put fa fd) (T : Txt K mg)  : FnOk P w K mg base (L2.CX P w) 1 fa fd ["self"] (spM K mg 1 m_Outgoing_many_put) :=
  def_ok (k := 0) F sc_m_Outgoing_many_put rfl rfl fun cdv A outer s H E hr tk hpo => by
    have hu1 := hu_of hr
    have hu64 := hr.units
    exact (s_one (s_ret (e_op o_add (e_fldA T.f_Outgoing_gone (e_v (pv 0))) (e_blt c_len rfl T.b_len (by decide +kernel) (a_cons (e_fldA T.f_Outgoing_stored (e_v (pv 0))) a_nil)))))
theorem ok_m_Outgoing_put {fa : Addr} {fd : FuncData} (F : Fun K "put" "Outgoing.put" st_m_Outgoing_put fa fd) (T : Txt K mg) (D_m_Outgoing_many_put : MethAt P w K mg base 1 "Outgoing" "many_put" 1 m_Outgoing_many_put) : FnOk P w K mg base (L2.CX P w) 2 fa fd ["self", "thing"] (spM K mg 2 m_Outgoing_put) :=
  def_ok (k := 1) F sc_m_Outgoing_put rfl rfl fun cdv A outer s H E hr tk hpo => by
    have hu1 := hu_of hr
    have hu64 := hr.units
    exact (s_cons (s_expr (e_bm PySem.F.plainAttrs_list PySem.F.slot_list_append PySem.F.type_list_append m_append (e_fldA T.f_Outgoing_stored (e_v (pv 0))) (a_cons (e_v (pv 1)) a_nil)))
      (s_one (s_ret (e_op o_sub (e_meth0 D_m_Outgoing_many_put fDef_len tk (hr.mono (by omega)) (e_v (pv 0))) e_int))))
theorem ok_m_Outgoing_known {fa : Addr} {fd : FuncData} (F : Fun K "known" "Outgoing.known" st_m_Outgoing_known fa fd) (T : Txt K mg) (D_m_Outgoing_many_put : MethAt P w K mg base 1 "Outgoing" "many_put" 1 m_Outgoing_many_put) (D_m_check_within : DefAt P w K mg base 3 "check_within" 3 m_check_within) : FnOk P w K mg base (L2.CX P w) 4 fa fd ["self", "number"] (spM K mg 2 m_Outgoing_known) :=
  def_ok (k := 3) F sc_m_Outgoing_known rfl rfl fun cdv A outer s H E hr tk hpo => by
    have hu1 := hu_of hr
    have hu64 := hr.units
    exact (s_cons (s_expr (e_call D_m_check_within fDef_len tk (hr.mono (by omega)) rfl (a_cons (e_v (pv 1)) (a_cons e_int (a_cons (e_meth0 D_m_Outgoing_many_put fDef_len tk (hr.mono (by omega)) (e_v (pv 0))) a_nil)))))
      (s_cons (s_set (i := 2) sc_m_Outgoing_known.nd rfl (by first | exact Or.inl rfl | exact Or.inr rfl) (e_blt (c_max rfl) rfl T.b_max (by decide +kernel) (a_cons e_int (a_cons (e_op o_sub (e_v (pv 1)) (e_fldA T.f_Outgoing_gone (e_v (pv 0)))) a_nil))))
      (s_cons (s_fldA T.f_Outgoing_stored (e_v (pv 0)) (e_sl (e_fldA T.f_Outgoing_stored (e_v (pv 0))) (o_some (e_v (pv 2))) o_no))
      (s_cons (s_fldAugA T.f_Outgoing_gone (e_v (pv 0)) (e_v (pv 2)) io_addI)
      (s_one (s_ret (e_v (pv 2))))))))
theorem ok_m_Outgoing_state {fa : Addr} {fd : FuncData} (F : Fun K "state" "Outgoing.state" st_m_Outgoing_state fa fd) (T : Txt K mg)  : FnOk P w K mg base (L2.CX P w) 1 fa fd ["self"] (spM K mg 1 m_Outgoing_state) :=
  def_ok (k := 0) F sc_m_Outgoing_state rfl rfl fun cdv A outer s H E hr tk hpo => by
    have hu1 := hu_of hr
    have hu64 := hr.units
    exact (s_one (s_ret (e_tup (a_cons (e_fldA T.f_Outgoing_gone (e_v (pv 0))) (a_cons (e_ty c_tuple rfl T.b_tuple (by decide +kernel) (a_cons (e_fldA T.f_Outgoing_stored (e_v (pv 0))) a_nil)) a_nil)))))
theorem ok_m_Incoming___init__ {fa : Addr} {fd : FuncData} (F : Fun K "__init__" "Incoming.__init__" st_m_Incoming___init__ fa fd) (T : Txt K mg)  : FnOk P w K mg base (L2.CX P w) 1 fa fd ["self"] (spM K mg 1 m_Incoming___init__) :=
  def_ok (k := 0) F sc_m_Incoming___init__ rfl rfl fun cdv A outer s H E hr tk hpo => by
    have hu1 := hu_of hr
    have hu64 := hr.units
    exact (s_cons (s_fldA T.f_Incoming_many (e_v (pv 0)) e_int)
      (s_one (s_fldA T.f_Incoming_ahead (e_v (pv 0)) e_dk)))
theorem ok_m_Incoming_take {fa : Addr} {fd : FuncData} (F : Fun K "take" "Incoming.take" st_m_Incoming_take fa fd) (T : Txt K mg) (D_m_check_within : DefAt P w K mg base 3 "check_within" 3 m_check_within) : FnOk P w K mg base (L2.CX P w) 4 fa fd ["self", "number", "thing"] (spM K mg 3 m_Incoming_take) :=
  def_ok (k := 3) F sc_m_Incoming_take rfl rfl fun cdv A outer s H E hr tk hpo => by
    have hu1 := hu_of hr
    have hu64 := hr.units
    exact (s_cons (s_expr (e_call D_m_check_within fDef_len tk (hr.mono (by omega)) rfl (a_cons (e_v (pv 1)) (a_cons e_int (a_cons (e_op o_sub (e_gi T.c_MOST_NUMBER rfl) e_int) a_nil)))))
      (s_cons (s_if (PW.pt (t_and (t_chain o_le o_lt (e_fldA T.f_Incoming_many (e_v (pv 0))) (e_v (pv 1)) (e_op o_add (e_fldA T.f_Incoming_many (e_v (pv 0))) (e_gi T.c_MOST_AHEAD rfl))) (t_and1 (t_cmp (o_notIn hu1) (e_v (pv 1)) (e_fldA T.f_Incoming_ahead (e_v (pv 0))) rfl))))
      (s_one (s_asg (e_v (pv 2)) (g_sub (e_fldA T.f_Incoming_ahead (e_v (pv 0))) (e_v (pv 1)) (st_set hu1))))
      s_nil)
      (s_cons (s_set (i := 3) sc_m_Incoming_take.nd rfl (by first | exact Or.inl rfl | exact Or.inr rfl) (e_lst a_nil))
      (s_cons (s_while hpo (t_cmp (o_in hu1) (e_fldA T.f_Incoming_many (e_v (pv 0))) (e_fldA T.f_Incoming_ahead (e_v (pv 0))) rfl)
      (s_cons (s_expr (e_bm PySem.F.plainAttrs_list PySem.F.slot_list_append PySem.F.type_list_append m_append (e_v (pv 3)) (a_cons (e_dpop (e_fldA T.f_Incoming_ahead (e_v (pv 0))) (e_fldA T.f_Incoming_many (e_v (pv 0))) ⟨rfl, rfl, rfl, rfl⟩) a_nil)))
      (s_one (s_fldAugA T.f_Incoming_many (e_v (pv 0)) e_int io_addI))))
      (s_one (s_ret (e_v (pv 3))))))))
theorem ok_m_Incoming_taken {fa : Addr} {fd : FuncData} (F : Fun K "taken" "Incoming.taken" st_m_Incoming_taken fa fd) (T : Txt K mg)  : FnOk P w K mg base (L2.CX P w) 1 fa fd ["self"] (spM K mg 1 m_Incoming_taken) :=
  def_ok (k := 0) F sc_m_Incoming_taken rfl rfl fun cdv A outer s H E hr tk hpo => by
    have hu1 := hu_of hr
    have hu64 := hr.units
    exact (s_one (s_ret (e_fldA T.f_Incoming_many (e_v (pv 0)))))
theorem ok_m_Incoming_state {fa : Addr} {fd : FuncData} (F : Fun K "state" "Incoming.state" st_m_Incoming_state fa fd) (T : Txt K mg)  : FnOk P w K mg base (L2.CX P w) 1 fa fd ["self"] (spM K mg 1 m_Incoming_state) :=
  def_ok (k := 0) F sc_m_Incoming_state rfl rfl fun cdv A outer s H E hr tk hpo => by
    have hu1 := hu_of hr
    have hu64 := hr.units
    exact (s_one (s_ret (e_tup (a_cons (e_fldA T.f_Incoming_many (e_v (pv 0))) (a_cons (e_ty c_tuple rfl T.b_tuple (by decide +kernel) (a_cons (e_lc (own := [("number", 1)]) rfl sc_m_Incoming_state.nd (i_val (e_blt (c_sortD rfl) rfl T.b_sorted (by decide +kernel) (a_cons (e_fldA T.f_Incoming_ahead (e_v (pv 0))) a_nil))) (blkOk_by (own := [("number", 1)]) (N := N_m_Incoming_state) (sc := defScope st_m_Incoming_state) (by decide +kernel)) (fun _ _ _ _ _ => (g_name (pg_name (i := 1) sc_m_Incoming_state.nd rfl (by first | exact Or.inl rfl | exact Or.inr rfl)) (hp_wipe (by decide)))) (fun _ _ _ _ _ => ts_nil) (fun _ _ _ _ _ => (e_tup (a_cons (e_v (pv 1)) (a_cons (e_ix hu1 (e_fldA T.f_Incoming_ahead (e_v (pv 0))) (e_v (pv 1))) a_nil))))) a_nil)) a_nil)))))
theorem ok_m_law_hand {fa : Addr} {fd : FuncData} (F : Fun K "_law_hand" "_law_hand" st_m_law_hand fa fd) (T : Txt K mg)  : FnOk P w K mg base (L2.CX P w) 1 fa fd ["_law_script"] (spM K mg 1 m_law_hand) :=
  def_ok (k := 0) F sc_m_law_hand rfl rfl fun cdv A outer s H E hr tk hpo => by
    have hu1 := hu_of hr
    have hu64 := hr.units
    exact (s_one (s_ret (e_lst (a_cons (e_ty c_list rfl T.b_list (by decide +kernel) (a_cons (e_v (pv 0)) a_nil)) (a_cons e_int (a_cons e_int (a_cons e_int (a_cons e_int a_nil))))))))
theorem ok_m_law_take {fa : Addr} {fd : FuncData} (F : Fun K "_law_take" "_law_take" st_m_law_take fa fd) (T : Txt K mg)  : FnOk P w K mg base (L2.CX P w) 1 fa fd ["_law_hand_here", "_law_many"] (spM K mg 2 m_law_take) :=
  def_ok (k := 0) F sc_m_law_take rfl rfl fun cdv A outer s H E hr tk hpo => by
    have hu1 := hu_of hr
    have hu64 := hr.units
    exact (s_cons (s_asg (e_op o_add (e_ix hu1 (e_v (pv 0)) e_int) e_int) (g_sub (e_v (pv 0)) e_int (st_set hu1)))
      (s_cons (s_if (PW.pt (t_and (t_cmp (o_eq hu64) (e_ix hu1 (e_v (pv 0)) e_int) e_int (nomark _)) (t_and1 (t_cmp o_lt (e_ix hu1 (e_v (pv 0)) e_int) (e_blt c_len rfl T.b_len (by decide +kernel) (a_cons (e_ix hu1 (e_v (pv 0)) e_int) a_nil)) (nomark _)))))
      (s_cons (s_set (i := 2) sc_m_law_take.nd rfl (by first | exact Or.inl rfl | exact Or.inr rfl) (e_ty c_int rfl T.b_int (by decide +kernel) (a_cons (e_ix hu1 (e_ix hu1 (e_v (pv 0)) e_int) (e_ix hu1 (e_v (pv 0)) e_int)) a_nil)))
      (s_cons (s_asg (e_op o_add (e_ix hu1 (e_v (pv 0)) e_int) e_int) (g_sub (e_v (pv 0)) e_int (st_set hu1)))
      (s_one (s_if (t_cmp o_ge (e_v (pv 2)) (e_op o_pow e_int e_int) (nomark _))
      (s_one (s_asg (e_v (pv 2)) (g_sub (e_v (pv 0)) e_int (st_set hu1))))
      (s_one (s_asg (e_op o_mod (e_ty c_int rfl T.b_int (by decide +kernel) (a_cons (e_op o_add (e_op o_add (e_op o_mulI (e_ix hu1 (e_v (pv 0)) e_int) e_int) (e_op o_mod (e_ty c_int rfl T.b_int (by decide +kernel) (a_cons (e_v (pv 2)) a_nil)) e_int)) e_int) a_nil)) e_int) (g_sub (e_v (pv 0)) e_int (st_set hu1))))))))
      s_nil)
      (s_cons (s_if (t_cmp o_gt (e_ix hu1 (e_v (pv 0)) e_int) e_int (nomark _))
      (s_cons (s_set (i := 3) sc_m_law_take.nd rfl (by first | exact Or.inl rfl | exact Or.inr rfl) (e_op o_mod (e_ty c_int rfl T.b_int (by decide +kernel) (a_cons (e_ix hu1 (e_v (pv 0)) e_int) a_nil)) (e_v (pv 1))))
      (s_cons (s_asg (e_op o_div (e_ty c_int rfl T.b_int (by decide +kernel) (a_cons (e_ix hu1 (e_v (pv 0)) e_int) a_nil)) (e_v (pv 1))) (g_sub (e_v (pv 0)) e_int (st_set hu1)))
      (s_one (s_ret (e_v (pv 3))))))
      s_nil)
      (s_cons (s_asg (e_op o_mod (e_ty c_int rfl T.b_int (by decide +kernel) (a_cons (e_op o_add (e_op o_mulI (e_ix hu1 (e_v (pv 0)) e_int) e_int) (e_op o_mulI e_int (e_ix hu1 (e_v (pv 0)) e_int))) a_nil)) e_int) (g_sub (e_v (pv 0)) e_int (st_set hu1)))
      (s_cons (s_set (i := 4) sc_m_law_take.nd rfl (by first | exact Or.inl rfl | exact Or.inr rfl) (e_op o_mod (e_ty c_int rfl T.b_int (by decide +kernel) (a_cons (e_op o_mulI (e_ix hu1 (e_v (pv 0)) e_int) (e_op o_add (e_op o_div (e_ix hu1 (e_v (pv 0)) e_int) e_int) e_int)) a_nil)) e_int))
      (s_cons (s_set (i := 4) sc_m_law_take.nd rfl (by first | exact Or.inl rfl | exact Or.inr rfl) (e_op o_mod (e_ty c_int rfl T.b_int (by decide +kernel) (a_cons (e_op o_mulI (e_v (pv 4)) (e_op o_add (e_op o_div (e_v (pv 4)) e_int) e_int)) a_nil)) e_int))
      (s_one (s_ret (e_op o_mod (e_ty c_int rfl T.b_int (by decide +kernel) (a_cons (e_op o_div (e_v (pv 4)) e_int) a_nil)) (e_v (pv 1)))))))))))
theorem ok_m_law_pick {fa : Addr} {fd : FuncData} (F : Fun K "_law_pick" "_law_pick" st_m_law_pick fa fd) (T : Txt K mg) (D_m_law_take : DefAt P w K mg base 1 "_law_take" 2 m_law_take) : FnOk P w K mg base (L2.CX P w) 2 fa fd ["_law_hand_here", "_law_things"] (spM K mg 2 m_law_pick) :=
  def_ok (k := 1) F sc_m_law_pick rfl rfl fun cdv A outer s H E hr tk hpo => by
    have hu1 := hu_of hr
    have hu64 := hr.units
    exact (s_one (s_ret (e_ix hu1 (e_v (pv 1)) (e_call D_m_law_take fDef_len tk (hr.mono (by omega)) rfl (a_cons (e_v (pv 0)) (a_cons (e_blt c_len rfl T.b_len (by decide +kernel) (a_cons (e_v (pv 1)) a_nil)) a_nil))))))
theorem ok_m_law_is_integer {fa : Addr} {fd : FuncData} (F : Fun K "_law_is_integer" "_law_is_integer" st_m_law_is_integer fa fd) (T : Txt K mg)  : FnOk P w K mg base (L2.CX P w) 1 fa fd ["_law_thing"] (spM K mg 1 m_law_is_integer) :=
  def_ok (k := 0) F sc_m_law_is_integer rfl rfl fun cdv A outer s H E hr tk hpo => by
    have hu1 := hu_of hr
    have hu64 := hr.units
    exact (s_one (s_ret (e_and (e_isT rfl T.b_isinstance (e_v (pv 0)) rfl T.b_int (by decide +kernel) (by decide)) (e_one (e_not (e_isT rfl T.b_isinstance (e_v (pv 0)) rfl T.b_bool (by decide +kernel) (by decide)))))))
theorem ok_m_law_is_within {fa : Addr} {fd : FuncData} (F : Fun K "_law_is_within" "_law_is_within" st_m_law_is_within fa fd) (T : Txt K mg) (D_m_law_is_integer : DefAt P w K mg base 1 "_law_is_integer" 1 m_law_is_integer) : FnOk P w K mg base (L2.CX P w) 2 fa fd ["_law_thing", "_law_least", "_law_most"] (spM K mg 3 m_law_is_within) :=
  def_ok (k := 1) F sc_m_law_is_within rfl rfl fun cdv A outer s H E hr tk hpo => by
    have hu1 := hu_of hr
    have hu64 := hr.units
    exact (s_one (s_ret (e_and (e_call D_m_law_is_integer fDef_len tk (hr.mono (by omega)) rfl (a_cons (e_v (pv 0)) a_nil)) (e_and (e_cmp o_le (e_v (pv 1)) (e_v (pv 0)) (nomark _)) (e_one (e_cmp o_le (e_v (pv 0)) (e_v (pv 2)) (nomark _)))))))
theorem ok_m_law_same {fa : Addr} {fd : FuncData} (F : Fun K "_law_same" "_law_same" st_m_law_same fa fd) (T : Txt K mg) (hmf : mg "_law_same" = some (.ref fa)) (hB : Binds K fd ["_law_actual", "_law_due"] []) (D_m_law_is_integer : DefAt P w K mg base 1 "_law_is_integer" 1 m_law_is_integer) : ∀ n : Nat, FnOk P w K mg base (L2.CX P w) (1 + n) fa fd ["_law_actual", "_law_due"] (spM K mg 2 (m_law_same n)) := by
  intro n
  induction n with
  | zero => exact bad_ok rfl
  | succ fu ih =>
    have D_m_law_same : DefAt P w K mg base (1 + fu) "_law_same" 2 (m_law_same fu) := ⟨⟨fa, fd, _, rfl, hmf, F.kp, hB, ih⟩⟩
    refine def_ok (k := 1 + fu) F sc_m_law_same rfl rfl fun cdv A outer s H E hr tk hpo => ?_
    have hu1 := hu_of hr
    have hu64 := hr.units
    exact (s_cons (s_if (t_cmp o_is (e_v (pv 1)) e_non (nomark _))
      (s_one (s_ret (e_cmp o_is (e_v (pv 0)) e_non (nomark _))))
      s_nil)
      (s_cons (s_if (t_cmp o_is (e_v (pv 1)) e_bl (nomark _))
      (s_one (s_ret (e_cmp o_is (e_v (pv 0)) e_bl (nomark _))))
      s_nil)
      (s_cons (s_if (t_cmp o_is (e_v (pv 1)) e_bl (nomark _))
      (s_one (s_ret (e_cmp o_is (e_v (pv 0)) e_bl (nomark _))))
      s_nil)
      (s_cons (s_if (t_v (e_isT rfl T.b_isinstance (e_v (pv 1)) rfl T.b_int (by decide +kernel) (by decide)))
      (s_one (s_ret (e_and (e_call D_m_law_is_integer fDef_len tk (hr.mono (by omega)) rfl (a_cons (e_v (pv 0)) a_nil)) (e_one (e_cmp (o_eq hu64) (e_v (pv 0)) (e_v (pv 1)) (nomark _))))))
      s_nil)
      (s_cons (s_if (t_v (e_isT rfl T.b_isinstance (e_v (pv 1)) rfl T.b_str (by decide +kernel) (by decide)))
      (s_one (s_ret (e_and (e_isT rfl T.b_isinstance (e_v (pv 0)) rfl T.b_str (by decide +kernel) (by decide)) (e_one (e_cmp (o_eq hu64) (e_v (pv 0)) (e_v (pv 1)) (nomark _))))))
      s_nil)
      (s_cons (s_if (PW.pt (t_or (t_cmp (o_ne hu64) (e_isT rfl T.b_isinstance (e_v (pv 1)) rfl T.b_tuple (by decide +kernel) (by decide)) (e_isT rfl T.b_isinstance (e_v (pv 0)) rfl T.b_tuple (by decide +kernel) (by decide)) (nomark _)) (t_or1 (t_cmp (o_ne hu64) (e_isT rfl T.b_isinstance (e_v (pv 1)) rfl T.b_list (by decide +kernel) (by decide)) (e_isT rfl T.b_isinstance (e_v (pv 0)) rfl T.b_list (by decide +kernel) (by decide)) (nomark _)))))
      (s_one (s_ret e_bl))
      s_nil)
      (s_cons (s_if (t_cmp (o_ne hu64) (e_blt c_len rfl T.b_len (by decide +kernel) (a_cons (e_v (pv 0)) a_nil)) (e_blt c_len rfl T.b_len (by decide +kernel) (a_cons (e_v (pv 1)) a_nil)) (nomark _))
      (s_one (s_ret e_bl))
      s_nil)
      (s_cons (s_for hpo rfl (i_zip rfl T.b_zip (a_cons (e_v (pv 0)) (a_cons (e_v (pv 1)) a_nil))) (g_tup (n := 2) rfl (gs_cons (g_name (pg_name (i := 2) sc_m_law_same.nd rfl (by first | exact Or.inl rfl | exact Or.inr rfl)) hp_any) (gs_cons (g_name (pg_name (i := 3) sc_m_law_same.nd rfl (by first | exact Or.inl rfl | exact Or.inr rfl)) hp_any) gs_nil)) (gsl_cons (gsl_cons gsl_nil gN_ne) gN_ne))
      (s_one (s_if (t_not (t_v (e_call D_m_law_same (m_law_same_len _) tk (hr.mono (by omega)) rfl (a_cons (e_v (pv 2)) (a_cons (e_v (pv 3)) a_nil)))))
      (s_one (s_ret e_bl))
      s_nil)))
      (s_one (s_ret e_bl))))))))))
theorem ok_m_law_odd {fa : Addr} {fd : FuncData} (F : Fun K "_law_odd" "_law_odd" st_m_law_odd fa fd) (T : Txt K mg) (D_m_law_take : DefAt P w K mg base 1 "_law_take" 2 m_law_take) : FnOk P w K mg base (L2.CX P w) 2 fa fd ["_law_hand_here"] (spM K mg 1 m_law_odd) :=
  def_ok (k := 1) F sc_m_law_odd rfl rfl fun cdv A outer s H E hr tk hpo => by
    have hu1 := hu_of hr
    have hu64 := hr.units
    exact (s_cons (s_set (i := 1) sc_m_law_odd.nd rfl (by first | exact Or.inl rfl | exact Or.inr rfl) (e_call D_m_law_take fDef_len tk (hr.mono (by omega)) rfl (a_cons (e_v (pv 0)) (a_cons e_int a_nil))))
      (s_cons (s_if (t_cmp o_lt (e_v (pv 1)) e_int (nomark _))
      (s_one (s_ret (e_ix hu1 (e_lst (a_cons e_non (a_cons e_bl (a_cons e_bl (a_cons e_str (a_cons e_str (a_cons e_str a_nil))))))) (e_v (pv 1)))))
      s_nil)
      (s_cons (s_if (t_cmp o_lt (e_v (pv 1)) e_int (nomark _))
      (s_one (s_ret (e_ix hu1 (e_lst (a_cons (e_tup a_nil) (a_cons (e_lst a_nil) (a_cons e_dk (a_cons (e_tup (a_cons e_int a_nil)) (a_cons (e_lst (a_cons e_int (a_cons e_int a_nil))) (a_cons (e_tup (a_cons (e_tup a_nil) a_nil)) a_nil))))))) (e_op o_sub (e_v (pv 1)) e_int))))
      s_nil)
      (s_one (s_ret (e_ix hu1 (e_lst (a_cons (e_un u_neg e_int) (a_cons e_int (a_cons (e_op o_sub (e_op o_pow e_int e_int) e_int) (a_cons (e_tup (a_cons e_int (a_cons e_int a_nil))) (a_cons (e_tup (a_cons e_bl (a_cons e_int a_nil))) (a_cons (e_tup (a_cons e_int (a_cons e_int (a_cons e_int a_nil)))) a_nil))))))) (e_op o_sub (e_v (pv 1)) e_int)))))))
theorem ok_m_law_known {fa : Addr} {fd : FuncData} (F : Fun K "_law_known" "_law_known" st_m_law_known fa fd) (T : Txt K mg) (D_m_Outgoing_known : MethAt P w K mg base 4 "Outgoing" "known" 2 m_Outgoing_known) : FnOk P w K mg base (L2.CX P w) 5 fa fd ["_law_out", "_law_number"] (spM K mg 2 m_law_known) :=
  def_ok (k := 4) F sc_m_law_known rfl rfl fun cdv A outer s H E hr tk hpo => by
    have hu1 := hu_of hr
    have hu64 := hr.units
    obtain ⟨Ch0, h0a, h0b⟩ := T.h_NoNumber_0
    exact (s_one (s_try rfl rfl tk (fun W pn xe tk hpo => (s_one (s_ret (e_tup (a_cons e_str (a_cons (e_meth D_m_Outgoing_known fDef_len tk (hr.mono (by omega)) (e_v (pv 0)) (a_cons (e_v (pv 1)) a_nil)) a_nil))))))
      (.cons ⟨rfl, by decide, .inl h0a⟩ h0b (fun _ _ _ _ _ => (s_one (s_ret (e_tup (a_cons e_str a_nil))))) .nil)))
theorem ok_m_law_taken {fa : Addr} {fd : FuncData} (F : Fun K "_law_taken" "_law_taken" st_m_law_taken fa fd) (T : Txt K mg) (D_m_Incoming_take : MethAt P w K mg base 4 "Incoming" "take" 3 m_Incoming_take) : FnOk P w K mg base (L2.CX P w) 5 fa fd ["_law_end", "_law_number"] (spM K mg 2 m_law_taken) :=
  def_ok (k := 4) F sc_m_law_taken rfl rfl fun cdv A outer s H E hr tk hpo => by
    have hu1 := hu_of hr
    have hu64 := hr.units
    obtain ⟨Ch0, h0a, h0b⟩ := T.h_NoNumber_0
    exact (s_one (s_try rfl rfl tk (fun W pn xe tk hpo => (s_one (s_ret (e_tup (a_cons e_str (a_cons (e_meth D_m_Incoming_take fDef_len tk (hr.mono (by omega)) (e_v (pv 0)) (a_cons (e_v (pv 1)) (a_cons (e_tup (a_cons e_str (a_cons (e_v (pv 1)) a_nil))) a_nil))) a_nil))))))
      (.cons ⟨rfl, by decide, .inl h0a⟩ h0b (fun _ _ _ _ _ => (s_one (s_ret (e_tup (a_cons e_str a_nil))))) .nil)))
theorem ok_m_law {fa : Addr} {fd : FuncData} (F : Fun K "law" "law" st_m_law fa fd) (T : Txt K mg) (D_m_Incoming___init__ : MakeAt P w K mg base 1 "Incoming" 0 m_Incoming___init__) (D_m_Incoming_state : MethAt P w K mg base 1 "Incoming" "state" 1 m_Incoming_state) (D_m_Incoming_taken : MethAt P w K mg base 1 "Incoming" "taken" 1 m_Incoming_taken) (D_m_Outgoing___init__ : MakeAt P w K mg base 1 "Outgoing" 0 m_Outgoing___init__) (D_m_Outgoing_many_put : MethAt P w K mg base 1 "Outgoing" "many_put" 1 m_Outgoing_many_put) (D_m_Outgoing_put : MethAt P w K mg base 2 "Outgoing" "put" 2 m_Outgoing_put) (D_m_Outgoing_state : MethAt P w K mg base 1 "Outgoing" "state" 1 m_Outgoing_state) (D_m_law_hand : DefAt P w K mg base 1 "_law_hand" 1 m_law_hand) (D_m_law_is_within : DefAt P w K mg base 2 "_law_is_within" 3 m_law_is_within) (D_m_law_known : DefAt P w K mg base 5 "_law_known" 2 m_law_known) (D_m_law_odd : DefAt P w K mg base 2 "_law_odd" 1 m_law_odd) (D_m_law_pick : DefAt P w K mg base 2 "_law_pick" 2 m_law_pick) (D_m_law_same : DefAt P w K mg base 102 "_law_same" 2 (m_law_same 100)) (D_m_law_take : DefAt P w K mg base 1 "_law_take" 2 m_law_take) (D_m_law_taken : DefAt P w K mg base 5 "_law_taken" 2 m_law_taken) : FnOk P w K mg base (L2.CX P w) 103 fa fd ["_law_script"] (spM K mg 1 m_law) :=
  def_ok (k := 102) F sc_m_law rfl rfl fun cdv A outer s H E hr tk hpo => by
    have hu1 := hu_of hr
    have hu64 := hr.units
    exact (s_cons (s_set (i := 1) sc_m_law.nd rfl (by first | exact Or.inl rfl | exact Or.inr rfl) (e_call D_m_law_hand fDef_len tk (hr.mono (by omega)) rfl (a_cons (e_v (pv 0)) a_nil)))
      (s_cons (s_set (i := 2) sc_m_law.nd rfl (by first | exact Or.inl rfl | exact Or.inr rfl) (e_make0 D_m_Outgoing___init__ fDef_len tk (hr.mono (by omega)) rfl))
      (s_cons (s_set (i := 3) sc_m_law.nd rfl (by first | exact Or.inl rfl | exact Or.inr rfl) (e_make0 D_m_Incoming___init__ fDef_len tk (hr.mono (by omega)) rfl))
      (s_cons (s_set (i := 4) sc_m_law.nd rfl (by first | exact Or.inl rfl | exact Or.inr rfl) (e_call D_m_law_take fDef_len tk (hr.mono (by omega)) rfl (a_cons (e_v (pv 1)) (a_cons e_int a_nil))))
      (s_cons (s_for hpo rfl (i_rng1 rfl T.b_range (a_cons (e_v (pv 4)) a_nil)) (g_name (pg_name (i := 5) sc_m_law.nd rfl (by first | exact Or.inl rfl | exact Or.inr rfl)) hp_any)
      (s_one (s_expr (e_meth D_m_Outgoing_put fDef_len tk (hr.mono (by omega)) (e_v (pv 2)) (a_cons (e_tup (a_cons e_str (a_cons (e_v (pv 5)) a_nil))) a_nil)))))
      (s_cons (s_set (i := 6) sc_m_law.nd rfl (by first | exact Or.inl rfl | exact Or.inr rfl) e_int)
      (s_cons (s_set (i := 7) sc_m_law.nd rfl (by first | exact Or.inl rfl | exact Or.inr rfl) e_int)
      (s_cons (s_for hpo rfl (i_rng1 rfl T.b_range (a_cons e_int a_nil)) (g_name (pg_name (i := 5) sc_m_law.nd rfl (by first | exact Or.inl rfl | exact Or.inr rfl)) hp_any)
      (s_cons (s_set (i := 8) sc_m_law.nd rfl (by first | exact Or.inl rfl | exact Or.inr rfl) (e_call D_m_law_pick fDef_len tk (hr.mono (by omega)) rfl (a_cons (e_v (pv 1)) (a_cons (e_lst (a_cons (e_call D_m_law_take fDef_len tk (hr.mono (by omega)) rfl (a_cons (e_v (pv 1)) (a_cons (e_op o_add (e_v (pv 4)) e_int) a_nil))) (a_cons (e_v (pv 4)) (a_cons (e_op o_add (e_v (pv 4)) e_int) (a_cons (e_un u_neg e_int) (a_cons e_bl (a_cons e_non (a_cons e_str (a_cons (e_call D_m_law_odd fDef_len tk (hr.mono (by omega)) rfl (a_cons (e_v (pv 1)) a_nil)) (a_cons (e_op o_pow e_int e_int) a_nil)))))))))) a_nil))))
      (s_cons (s_set (i := 9) sc_m_law.nd rfl (by first | exact Or.inl rfl | exact Or.inr rfl) (e_meth0 D_m_Outgoing_state fDef_len tk (hr.mono (by omega)) (e_v (pv 2))))
      (s_cons (s_set (i := 10) sc_m_law.nd rfl (by first | exact Or.inl rfl | exact Or.inr rfl) (e_call D_m_law_known fDef_len tk (hr.mono (by omega)) rfl (a_cons (e_v (pv 2)) (a_cons (e_v (pv 8)) a_nil))))
      (s_cons (s_if (t_v (e_call D_m_law_is_within fDef_len tk (hr.mono (by omega)) rfl (a_cons (e_v (pv 8)) (a_cons e_int (a_cons (e_v (pv 4)) a_nil)))))
      (s_cons (s_if (t_not (t_v (e_call D_m_law_same (m_law_same_len _) tk (hr.mono (by omega)) rfl (a_cons (e_v (pv 10)) (a_cons (e_tup (a_cons e_str (a_cons (e_blt (c_max rfl) rfl T.b_max (by decide +kernel) (a_cons e_int (a_cons (e_op o_sub (e_v (pv 8)) (e_v (pv 6))) a_nil))) a_nil))) a_nil)))))
      (s_one (s_ret e_bl))
      s_nil)
      (s_one (s_set (i := 6) sc_m_law.nd rfl (by first | exact Or.inl rfl | exact Or.inr rfl) (e_blt (c_max rfl) rfl T.b_max (by decide +kernel) (a_cons (e_v (pv 6)) (a_cons (e_v (pv 8)) a_nil))))))
      (s_one (s_if (PW.pt (t_or (t_cmp (o_ne hu64) (e_v (pv 10)) (e_tup (a_cons e_str a_nil)) (nomark _)) (t_or1 (t_not (t_v (e_call D_m_law_same (m_law_same_len _) tk (hr.mono (by omega)) rfl (a_cons (e_meth0 D_m_Outgoing_state fDef_len tk (hr.mono (by omega)) (e_v (pv 2))) (a_cons (e_v (pv 9)) a_nil))))))))
      (s_one (s_ret e_bl))
      s_nil)))
      (s_cons (s_set (i := 8) sc_m_law.nd rfl (by first | exact Or.inl rfl | exact Or.inr rfl) (e_call D_m_law_pick fDef_len tk (hr.mono (by omega)) rfl (a_cons (e_v (pv 1)) (a_cons (e_lst (a_cons (e_v (pv 7)) (a_cons (e_v (pv 7)) (a_cons (e_v (pv 7)) (a_cons (e_op o_sub (e_op o_pow e_int e_int) e_int) (a_cons (e_op o_pow e_int e_int) (a_cons (e_un u_neg e_int) (a_cons e_bl (a_cons e_non (a_cons (e_tup (a_cons e_int a_nil)) (a_cons (e_call D_m_law_odd fDef_len tk (hr.mono (by omega)) rfl (a_cons (e_v (pv 1)) a_nil)) a_nil))))))))))) a_nil))))
      (s_cons (s_if (t_v (e_call D_m_law_is_within fDef_len tk (hr.mono (by omega)) rfl (a_cons (e_v (pv 8)) (a_cons (e_op o_add (e_v (pv 7)) e_int) (a_cons (e_op o_add (e_v (pv 7)) e_int) a_nil)))))
      (s_one (s_set (i := 8) sc_m_law.nd rfl (by first | exact Or.inl rfl | exact Or.inr rfl) (e_v (pv 7))))
      s_nil)
      (s_cons (s_set (i := 9) sc_m_law.nd rfl (by first | exact Or.inl rfl | exact Or.inr rfl) (e_meth0 D_m_Incoming_state fDef_len tk (hr.mono (by omega)) (e_v (pv 3))))
      (s_cons (s_set (i := 10) sc_m_law.nd rfl (by first | exact Or.inl rfl | exact Or.inr rfl) (e_call D_m_law_taken fDef_len tk (hr.mono (by omega)) rfl (a_cons (e_v (pv 3)) (a_cons (e_v (pv 8)) a_nil))))
      (s_one (s_if (t_not (t_v (e_call D_m_law_is_within fDef_len tk (hr.mono (by omega)) rfl (a_cons (e_v (pv 8)) (a_cons e_int (a_cons (e_op o_sub (e_op o_pow e_int e_int) e_int) a_nil))))))
      (s_one (s_if (PW.pt (t_or (t_cmp (o_ne hu64) (e_v (pv 10)) (e_tup (a_cons e_str a_nil)) (nomark _)) (t_or1 (t_not (t_v (e_call D_m_law_same (m_law_same_len _) tk (hr.mono (by omega)) rfl (a_cons (e_meth0 D_m_Incoming_state fDef_len tk (hr.mono (by omega)) (e_v (pv 3))) (a_cons (e_v (pv 9)) a_nil))))))))
      (s_one (s_ret e_bl))
      s_nil))
      (s_one (s_if (t_cmp (o_eq hu64) (e_v (pv 8)) (e_v (pv 7)) (nomark _))
      (s_cons (s_if (t_not (t_v (e_call D_m_law_same (m_law_same_len _) tk (hr.mono (by omega)) rfl (a_cons (e_v (pv 10)) (a_cons (e_tup (a_cons e_str (a_cons (e_lst (a_cons (e_tup (a_cons e_str (a_cons (e_v (pv 8)) a_nil))) a_nil)) a_nil))) a_nil)))))
      (s_one (s_ret e_bl))
      s_nil)
      (s_one (s_set (i := 7) sc_m_law.nd rfl (by first | exact Or.inl rfl | exact Or.inr rfl) (e_op o_add (e_v (pv 7)) e_int))))
      (s_one (s_if (t_cmp (o_ne hu64) (e_v (pv 10)) (e_tup (a_cons e_str (a_cons (e_lst a_nil) a_nil))) (nomark _))
      (s_one (s_ret e_bl))
      s_nil)))))))))))))))
      (s_one (s_ret (e_and (e_call D_m_law_same (m_law_same_len _) tk (hr.mono (by omega)) rfl (a_cons (e_meth0 D_m_Outgoing_many_put fDef_len tk (hr.mono (by omega)) (e_v (pv 2))) (a_cons (e_v (pv 4)) a_nil))) (e_one (e_call D_m_law_same (m_law_same_len _) tk (hr.mono (by omega)) rfl (a_cons (e_meth0 D_m_Incoming_taken fDef_len tk (hr.mono (by omega)) (e_v (pv 3))) (a_cons (e_v (pv 7)) a_nil)))))))))))))))
end
end K09

namespace K09
open Mp
open PySem (Str)
/-! the drawing hand -/
structure Hand (c h : Nat) (S : Store) : Prop where
  ex : ∃ (ns : List Int) (a : Nat) (b s k : Int), sg S h = some (.lst [.ref c, .int a, .int b, .int s, .int k]) ∧ sg S c = some (.lst (ns.map Val.int)) ∧ c ≠ h ∧ a ≤ ns.length ∧ 0 ≤ b ∧ 0 ≤ s ∧ s < 2147483647
theorem cR1 (i : Int) : cmul i 48271 = true := cmul_right (by decide) (by decide)
theorem cR2 (i : Int) : cmul i 69621 = true := cmul_right (by decide) (by decide)
theorem cR3 (i : Int) : cmul 7919 i = true := cmul_left (by decide) (by decide)
theorem cM1 (i j : Int) : cmul (i % 2147483647) j = true := cmul_left (by omega) (by omega)
theorem take_spec {c h : Nat} {S : Store} {m : Int} (H : Hand c h S) (h0 : 0 < m) (h1 : m < 1073741824) : ∃ (r : Int) (o : Ob), m_law_take [.ref h, .int m] S = .ok (.int r) (ss S h o) ∧ 0 ≤ r ∧ r < m ∧ Hand c h (ss S h o) := by
  obtain ⟨ns, a, b, s, k, e1, e2, hc, ha, hb, hs0, hs1⟩ := H.ex
  have fin : ∀ {o : Ob} {a' : Nat} {b' s' k' : Int}, o = .lst [.ref c, .int a', .int b', .int s', .int k'] → a' ≤ ns.length → 0 ≤ b' → 0 ≤ s' → s' < 2147483647 → Hand c h (ss S h o) := fun {o a' b' s' k'} e q1 q2 q3 q4 =>
    ⟨ns, a', b', s', k', by subst e; exact sg_ss_same (by rw [e1]; rfl), by rw [sg_ss_ne hc]; exact e2, hc, q1, q2, q3, q4⟩
  have mp : ∀ x : Int, 0 ≤ x % m ∧ x % m < m := fun x => ⟨Int.emod_nonneg x (by omega), Int.emod_lt_of_pos x h0⟩
  by_cases hb0 : b = 0
  · subst hb0
    by_cases hal : a < ns.length
    · by_cases hbig : (10 : Int) ^ 18 ≤ ns[a]
      · have hpos : (0 : Int) < ns[a] := Int.lt_of_lt_of_le (by decide) hbig
        have hbig' : (1000000000000000000 : Int) ≤ ns[a] := hbig
        refine ⟨ns[a] % m, .lst [.ref c, .int (a + 1 : Nat), .int (ns[a] / m), .int s, .int (k + 1)], ?_, (mp _).1, (mp _).2, fin rfl (by omega) (Int.ediv_nonneg (by omega) (by omega)) hs0 hs1⟩
        unfold m_law_take
        simp [startL, e1, e2, hc, cR1, cR2, cR3, cM1, hal, hbig', hpos, h0, h1]
      · have hbig' : ¬ (1000000000000000000 : Int) ≤ ns[a] := hbig
        obtain ⟨r, hr⟩ : ∃ r, m_law_take [.ref h, .int m] S = r := ⟨_, rfl⟩
        have hr' := hr
        unfold m_law_take at hr
        simp [startL, e1, e2, hc, cR1, cR2, cR3, cM1, hal, hbig', h0, h1] at hr
        rw [hr', ← hr]
        exact ⟨_, _, rfl, (mp _).1, (mp _).2, fin (a' := a + 1) (by push_cast; rfl) (by omega) (by omega) (by omega) (by omega)⟩
    · obtain ⟨r, hr⟩ : ∃ r, m_law_take [.ref h, .int m] S = r := ⟨_, rfl⟩
      have hr' := hr
      unfold m_law_take at hr
      simp [startL, e1, e2, hc, cR1, cR2, cR3, cM1, hal, h0, h1] at hr
      rw [hr', ← hr]
      exact ⟨_, _, rfl, (mp _).1, (mp _).2, fin rfl (by omega) (by omega) (by omega) (by omega)⟩
  · have hpos : 0 < b := by omega
    refine ⟨b % m, .lst [.ref c, .int a, .int (b / m), .int s, .int (k + 1)], ?_, (mp _).1, (mp _).2, fin rfl ha (Int.ediv_nonneg (by omega) (by omega)) hs0 hs1⟩
    unfold m_law_take
    simp [startL, e1, e2, hc, cR1, cR2, cR3, cM1, hb0, hpos, h0, h1]
end K09

namespace K09
open Mp
open PySem (Str)
theorem is_integer_eq {v : Val} {S : Store} {t : String} (h : tyName v S = some t) : m_is_integer [v] S = .ok (.bl (isInt v)) S := by
  have e := isInt_ty h
  unfold m_is_integer
  rw [← e]
  simp (maxDischargeDepth := 12) [startL, pIsT_of h]
  cases q : subTy t "int" <;> simp (maxDischargeDepth := 12) [pIsT_of h]
theorem law_is_integer_eq {v : Val} {S : Store} {t : String} (h : tyName v S = some t) : m_law_is_integer [v] S = .ok (.bl (isInt v)) S := by
  have e := isInt_ty h
  unfold m_law_is_integer
  rw [← e]
  simp (maxDischargeDepth := 12) [startL, pIsT_of h]
  cases q : subTy t "int" <;> simp (maxDischargeDepth := 12) [pIsT_of h]
theorem is_within_eq {v : Val} {S : Store} {t : String} {a b : Int} (h : tyName v S = some t) : m_is_within [v, .int a, .int b] S = .ok (.bl (withinB v a b)) S := by
  unfold m_is_within
  simp (maxDischargeDepth := 12) [startL, is_integer_eq h]
  cases v <;> simp [isInt, withinB]
  rename_i i
  by_cases q : a ≤ i <;> simp [q]
theorem law_is_within_eq {v : Val} {S : Store} {t : String} {a b : Int} (h : tyName v S = some t) : m_law_is_within [v, .int a, .int b] S = .ok (.bl (withinB v a b)) S := by
  unfold m_law_is_within
  simp (maxDischargeDepth := 12) [startL, law_is_integer_eq h]
  cases v <;> simp [isInt, withinB]
  rename_i i
  by_cases q : a ≤ i <;> simp [q]
theorem check_within_eq {v : Val} {S : Store} {t : String} {a b : Int} (h : tyName v S = some t) : m_check_within [v, .int a, .int b] S = bite (withinB v a b) (.ok .non S) (.exn ⟨"NoNumber", []⟩ S) := by
  unfold m_check_within
  simp (maxDischargeDepth := 12) [startL, is_within_eq h]
  cases withinB v a b <;> simp
/-! ends of links -/
def outO (g : Int) (l : Nat) : Ob := .ins "Outgoing" [("gone", .int g), ("stored", .ref l)]
def inO (m : Int) (d : Nat) : Ob := .ins "Incoming" [("many", .int m), ("ahead", .ref d)]
theorem many_put_eq {S : Store} {o l : Nat} {g : Int} {xs : List Val} (h : sg S o = some (outO g l)) (hl : sg S l = some (.lst xs)) : m_Outgoing_many_put [.ref o] S = .ok (.int (g + xs.length)) S := by
  unfold m_Outgoing_many_put
  simp (maxDischargeDepth := 12) [startL, h, hl, outO, List.lookup]
theorem out_state_eq {S : Store} {o l : Nat} {g : Int} {xs : List Val} (h : sg S o = some (outO g l)) (hl : sg S l = some (.lst xs)) : m_Outgoing_state [.ref o] S = .ok (.tup [.int g, .tup xs]) S := by
  unfold m_Outgoing_state
  simp (maxDischargeDepth := 12) [startL, h, hl, outO, List.lookup]
theorem put_eq {S : Store} {o l : Nat} {g : Int} {xs : List Val} {v : Val} (h : sg S o = some (outO g l)) (hl : sg S l = some (.lst xs)) (hne : o ≠ l) (hz : xs.length < 1000) :
    m_Outgoing_put [.ref o, v] S = .ok (.int (g + xs.length)) (ss S l (.lst (xs ++ [v]))) := by
  unfold m_Outgoing_put
  have h' : sg (ss S l (.lst (xs ++ [v]))) o = some (outO g l) := by rw [sg_ss_ne hne]; exact h
  have hl' : sg (ss S l (.lst (xs ++ [v]))) l = some (.lst (xs ++ [v])) := sg_ss_same (by rw [hl]; rfl)
  have hz' : xs.length < 16777216 := by omega
  simp (maxDischargeDepth := 12) [startL, h, hl, outO, List.lookup, hz', hne]
  have e := many_put_eq h' hl'
  simp (maxDischargeDepth := 12) [outO] at e
  rw [e]
  simp
  omega
theorem known_ok {S : Store} {o l : Nat} {g n : Int} {xs : List Val} (h : sg S o = some (outO g l)) (hl : sg S l = some (.lst xs)) (h0 : 0 ≤ n) (h1 : n ≤ g + xs.length) :
    m_Outgoing_known [.ref o, .int n] S = .ok (.int (if n - g > 0 then n - g else 0)) (ss (sp S (.lst (cutL xs (some (if n - g > 0 then n - g else 0)) none))) o (outO (g + (if n - g > 0 then n - g else 0)) (sl S))) := by
  unfold m_Outgoing_known
  have e := many_put_eq h hl
  have c := check_within_eq (v := .int n) (S := S) (t := "int") (a := 0) (b := g + xs.length) rfl
  simp (maxDischargeDepth := 12) [withinB, h0, h1] at c
  have ho : o ≠ sl S := Nat.ne_of_lt (sg_lt h)
  simp (maxDischargeDepth := 12) [outO] at h
  simp (maxDischargeDepth := 12) [startL, h, hl, List.lookup, e, c, setF, outO]
theorem known_no {S : Store} {o l : Nat} {g : Int} {xs : List Val} {v : Val} {t : String} (h : sg S o = some (outO g l)) (hl : sg S l = some (.lst xs)) (ht : tyName v S = some t) (hw : withinB v 0 (g + xs.length) = false) :
    m_Outgoing_known [.ref o, v] S = .exn ⟨"NoNumber", []⟩ S := by
  unfold m_Outgoing_known
  have e := many_put_eq h hl
  have c := check_within_eq (a := 0) (b := g + xs.length) ht
  rw [hw] at c
  simp at c
  simp (maxDischargeDepth := 12) [outO] at h
  simp (maxDischargeDepth := 12) [startL, h, e, c, List.lookup]
theorem law_known_ok {S : Store} {o l : Nat} {g n : Int} {xs : List Val} (h : sg S o = some (outO g l)) (hl : sg S l = some (.lst xs)) (h0 : 0 ≤ n) (h1 : n ≤ g + xs.length) :
    m_law_known [.ref o, .int n] S = .ok (.tup [.str "told", .int (if n - g > 0 then n - g else 0)]) (ss (sp S (.lst (cutL xs (some (if n - g > 0 then n - g else 0)) none))) o (outO (g + (if n - g > 0 then n - g else 0)) (sl S))) := by
  unfold m_law_known
  have e := known_ok h hl h0 h1
  simp only [outO] at h e ⊢
  simp (maxDischargeDepth := 12) [startL, h, e, List.lookup]
theorem law_known_no {S : Store} {o l : Nat} {g : Int} {xs : List Val} {v : Val} {t : String} (h : sg S o = some (outO g l)) (hl : sg S l = some (.lst xs)) (ht : tyName v S = some t) (hw : withinB v 0 (g + xs.length) = false) :
    m_law_known [.ref o, v] S = .ok (.tup [.str "NoNumber"]) S := by
  unfold m_law_known
  have e := known_no h hl ht hw
  simp only [outO] at h
  simp (maxDischargeDepth := 12) [startL, h, e, List.lookup]
theorem in_state_eq {S : Store} {o d : Nat} {m : Int} (h : sg S o = some (inO m d)) (hd : sg S d = some (.dK [])) : m_Incoming_state [.ref o] S = .ok (.tup [.int m, .tup []]) (sp (sp S (.lst [])) (.lst [])) := by
  unfold m_Incoming_state
  simp only [inO] at h
  simp (maxDischargeDepth := 12) [startL, h, hd, List.lookup, intKeys, sortI, lcLoop, wipeL, gate_pos]
theorem taken_eq {S : Store} {o d : Nat} {m : Int} (h : sg S o = some (inO m d)) : m_Incoming_taken [.ref o] S = .ok (.int m) S := by
  unfold m_Incoming_taken
  simp only [inO] at h
  simp (maxDischargeDepth := 12) [startL, h, List.lookup]
theorem take_no {S : Store} {o d : Nat} {m : Int} {v w : Val} {t : String} (h : sg S o = some (inO m d)) (ht : tyName v S = some t) (hw : withinB v 0 4294967295 = false) :
    m_Incoming_take [.ref o, v, w] S = .exn ⟨"NoNumber", []⟩ S := by
  unfold m_Incoming_take
  have c := check_within_eq (a := 0) (b := 4294967295) ht
  rw [hw] at c
  simp at c
  simp (maxDischargeDepth := 12) [startL, c]
theorem take_far {S : Store} {o d : Nat} {m n : Int} {w : Val} (h : sg S o = some (inO m d)) (hd : sg S d = some (.dK [])) (h0 : 0 ≤ n) (h1 : n ≤ 4294967295) (hf : n < m ∨ m + 1000 ≤ n) :
    m_Incoming_take [.ref o, .int n, w] S = .ok (.ref (sl S)) (sp S (.lst [])) := by
  unfold m_Incoming_take
  have c := check_within_eq (v := .int n) (S := S) (t := "int") (a := 0) (b := 4294967295) rfl
  simp (maxDischargeDepth := 12) [withinB, h0, h1] at c
  simp only [inO] at h
  have hm : (¬ m ≤ n) ∨ (m ≤ n ∧ ¬ n < m + 1000) := by omega
  rcases hm with hm | ⟨hm, hm2⟩
  · simp (maxDischargeDepth := 12) [startL, h, hd, c, List.lookup, hm]
    rw [whileLoop_step MANY_pos]
    simp (maxDischargeDepth := 12) [h, hd, List.lookup, valL]
  · simp (maxDischargeDepth := 12) [startL, h, hd, c, List.lookup, hm, hm2]
    rw [whileLoop_step MANY_pos]
    simp (maxDischargeDepth := 12) [h, hd, List.lookup, valL]
theorem take_next {S : Store} {o d : Nat} {m : Int} {w : Val} (h : sg S o = some (inO m d)) (hd : sg S d = some (.dK [])) (hne : o ≠ d) (h0 : 0 ≤ m) (h1 : m ≤ 4294967295) :
    m_Incoming_take [.ref o, .int m, w] S = .ok (.ref (sl S)) (ss (ss (ss (sp (ss S d (.dK [(.inl m, w)])) (.lst [])) d (.dK [])) (sl S) (.lst [w])) o (inO (m + 1) d)) := by
  unfold m_Incoming_take
  have c := check_within_eq (v := .int m) (S := S) (t := "int") (a := 0) (b := 4294967295) rfl
  simp (maxDischargeDepth := 12) [withinB, h0, h1] at c
  simp only [inO] at h ⊢
  have e1 : decide (m < m + 1000) = true := by simp; omega
  have hol : o ≠ sl S := Nat.ne_of_lt (sg_lt h)
  have hdl : d ≠ sl S := Nat.ne_of_lt (sg_lt hd)
  simp (maxDischargeDepth := 12) [startL, h, hd, c, List.lookup, e1, valL, hne, putL]
  rw [whileLoop_step MANY_pos]
  simp (maxDischargeDepth := 12) [h, hd, List.lookup, valL, hne, hol, hdl, Ne.symm hdl, Ne.symm hol, Ne.symm hne, dropL, setF]
  rw [whileLoop_step MANY_pos1]
  simp (maxDischargeDepth := 12) [h, hd, List.lookup, valL, hne, hol, hdl, Ne.symm hdl, Ne.symm hol, Ne.symm hne, dropL, setF]

end K09

namespace K09
open Mp
open PySem (Str)
theorem law_taken_no {S : Store} {o d : Nat} {m : Int} {v : Val} {t : String} (h : sg S o = some (inO m d)) (ht : tyName v S = some t) (hw : withinB v 0 4294967295 = false) :
    m_law_taken [.ref o, v] S = .ok (.tup [.str "NoNumber"]) S := by
  unfold m_law_taken
  have e := take_no (w := .tup [.str "x", v]) h ht hw
  simp only [inO] at h
  simp (maxDischargeDepth := 12) [startL, h, e, List.lookup]
theorem law_taken_far {S : Store} {o d : Nat} {m n : Int} (h : sg S o = some (inO m d)) (hd : sg S d = some (.dK [])) (h0 : 0 ≤ n) (h1 : n ≤ 4294967295) (hf : n < m ∨ m + 1000 ≤ n) :
    m_law_taken [.ref o, .int n] S = .ok (.tup [.str "told", .ref (sl S)]) (sp S (.lst [])) := by
  unfold m_law_taken
  have e := take_far (w := .tup [.str "x", .int n]) h hd h0 h1 hf
  simp only [inO] at h
  simp (maxDischargeDepth := 12) [startL, h, e, List.lookup]
theorem law_taken_next {S : Store} {o d : Nat} {m : Int} (h : sg S o = some (inO m d)) (hd : sg S d = some (.dK [])) (hne : o ≠ d) (h0 : 0 ≤ m) (h1 : m ≤ 4294967295) :
    m_law_taken [.ref o, .int m] S = .ok (.tup [.str "told", .ref (sl S)]) (ss (ss (ss (sp (ss S d (.dK [(.inl m, .tup [.str "x", .int m])])) (.lst [])) d (.dK [])) (sl S) (.lst [.tup [.str "x", .int m]])) o (inO (m + 1) d)) := by
  unfold m_law_taken
  have e := take_next (w := .tup [.str "x", .int m]) h hd hne h0 h1
  simp only [inO] at h e ⊢
  simp (maxDischargeDepth := 12) [startL, h, e, List.lookup]
/-! the same data -/
def Sm : Nat → Store → Val → Val → Prop
  | 0, _, _, _ => False
  | n + 1, S, u, v => (∃ i, u = .int i ∧ v = .int i) ∨ (∃ x, u = .str x ∧ v = .str x ∧ PySem.PyData.strOk x = true) ∨
    (∃ us vs, u = .tup us ∧ v = .tup vs ∧ us.length = vs.length ∧ ∀ (i : Nat) a b, us[i]? = some a → vs[i]? = some b → Sm n S a b) ∨
    (∃ i j us vs, u = .ref i ∧ v = .ref j ∧ sg S i = some (.lst us) ∧ sg S j = some (.lst vs) ∧ us.length = vs.length ∧ ∀ (i : Nat) a b, us[i]? = some a → vs[i]? = some b → Sm n S a b)
theorem same_loop {n : Nat} {S : Store} {kp : Store → Prop} {u v : Val} {us vs : List Val} (hk : kp S) (hl : us.length = vs.length) (ih : ∀ a b, Sm n S a b → m_law_same n [a, b] S = .ok (.bl true) S) (hs : ∀ (i : Nat) a b, us[i]? = some a → vs[i]? = some b → Sm n S a b) {x y : Option Val} :
    ∃ L', forLoop kp (gTup (gsCons (gN 2) (gsCons (gN 3) gsNil))) (sIf (Mp.tNot (tV (mA (m_law_same n) (aCons (mV 2) (aCons (mV 3) aNil))))) (sRet (mC (.bl false))) sNx) (List.zipWith (fun x y => Val.tup [x, y]) us vs) [some u, some v, x, y] S = .nx L' S := by
  obtain ⟨L', S', h1, h2⟩ := forLoop_nx (keep := kp) (g := gTup (gsCons (gN 2) (gsCons (gN 3) gsNil))) (b := sIf (Mp.tNot (tV (mA (m_law_same n) (aCons (mV 2) (aCons (mV 3) aNil))))) (sRet (mC (.bl false))) sNx)
    (fun _ L S' => S' = S ∧ ∃ x y, L = [some u, some v, x, y]) (xs := List.zipWith (fun x y => Val.tup [x, y]) us vs) (L := [some u, some v, x, y]) (S := S) ⟨rfl, x, y, rfl⟩ (fun i L S' _ q => by rw [q.1]; exact hk) (fun i z L S' hz q => by
      obtain ⟨rfl, x, y, rfl⟩ := q
      obtain ⟨a, b, ha, hb, rfl⟩ := zipT_get hz
      have e := ih a b (hs i a b ha hb)
      refine ⟨[some u, some v, some a, some b], S', [some u, some v, some a, some b], S', by simp, .inl ?_, rfl, _, _, rfl⟩
      simp [e])
  obtain ⟨rfl, x', y', rfl⟩ := h2
  exact ⟨_, h1⟩
theorem seqOf_ref {S : Store} {i : Nat} {us : List Val} (h : sg S i = some (.lst us)) : seqOf (.ref i) S = some (true, us, fun S' => S'[i]? = some (.lst us)) := by
  have h' : S[i]? = some (.lst us) := h
  simp [seqOf, h']
theorem same_eq : ∀ (n : Nat) {S : Store} {u v : Val}, Sm n S u v → m_law_same n [u, v] S = .ok (.bl true) S
  | 0, S, u, v, h => h.elim
  | n + 1, S, u, v, h => by
    unfold Sm at h
    rcases h with ⟨i, rfl, rfl⟩ | ⟨x, rfl, rfl, hx⟩ | ⟨us, vs, rfl, rfl, hl, hs⟩ | ⟨i, j, us, vs, rfl, rfl, hi, hj, hl, hs⟩
    · have e := law_is_integer_eq (v := .int i) (S := S) (t := "int") rfl
      unfold m_law_same
      simp (maxDischargeDepth := 12) [startL, pIsT, subTy, e, isInt]
    · unfold m_law_same
      simp (maxDischargeDepth := 12) [startL, pIsT, subTy, pEq_str hx hx]
    · obtain ⟨L', e⟩ := same_loop (n := n) (S := S) (kp := fun S' => True ∧ True) (u := .tup us) (v := .tup vs) ⟨trivial, trivial⟩ hl (fun a b => same_eq n) hs (x := none) (y := none)
      unfold m_law_same
      simp (maxDischargeDepth := 12) [startL, pIsT, subTy, hl, zipOf, seqOf]
      simp (maxDischargeDepth := 12) at e
      rw [e]
      simp
    · obtain ⟨L', e⟩ := same_loop (n := n) (S := S) (kp := fun S' => S'[i]? = some (.lst us) ∧ S'[j]? = some (.lst vs)) (u := .ref i) (v := .ref j) ⟨hi, hj⟩ hl (fun a b => same_eq n) hs (x := none) (y := none)
      unfold m_law_same
      simp (maxDischargeDepth := 12) [startL, pIsT, subTy, hl, zipOf, seqOf_ref hi, seqOf_ref hj, hi, hj]
      rw [e]
      simp
end K09

namespace K09
open Mp
open PySem (Str)
theorem Hand.lt {c h : Nat} {S : Store} (H : Hand c h S) : h < sl S := by
  obtain ⟨ns, a, b, s, k, e1, _⟩ := H.ex
  exact sg_lt e1
theorem Hand.sp {c h : Nat} {S : Store} (H : Hand c h S) (o : Ob) : Hand c h (Mp.sp S o) := by
  obtain ⟨ns, a, b, s, k, e1, e2, hc, ha, hb, hs0, hs1⟩ := H.ex
  exact ⟨ns, a, b, s, k, by rw [sg_sp_lt (sg_lt e1)]; exact e1, by rw [sg_sp_lt (sg_lt e2)]; exact e2, hc, ha, hb, hs0, hs1⟩
def Odd (c h : Nat) (S : Store) (v : Val) (S' : Store) : Prop := (∃ t, tyName v S' = some t) ∧ Hand c h S' ∧ Keep h S S'
theorem ty_keep {c h : Nat} {S S' : Store} {v : Val} {t : String} (H : Hand c h S') (K : Keep h S S') (e : tyName v S = some t) : ∃ t, tyName v S' = some t := by
  cases v with
  | ref i =>
    by_cases hi : i = h
    · subst hi
      obtain ⟨ns, a, b, s, k, e1, _⟩ := H.ex
      exact ⟨"list", by rw [tyName_ref, e1]; rfl⟩
    · rw [tyName_ref] at e
      have hl : i < sl S := by
        cases q : sg S i with
        | none => rw [q] at e; cases e
        | some o => exact sg_lt q
      exact ⟨t, by rw [tyName_ref, K.2 i hl hi]; exact e⟩
  | _ => exact ⟨t, e⟩
theorem sg4 (S : Store) (a b c d : Ob) : sg (sp (sp (sp (sp S a) b) c) d) (sl S) = some a ∧ sg (sp (sp (sp (sp S a) b) c) d) (sl S + 1) = some b ∧ sg (sp (sp (sp (sp S a) b) c) d) (sl S + 1 + 1) = some c := by
  have e2 : List.length S + 1 + 1 - List.length S = 2 := by omega
  simp [Mp.sg, Mp.sp, Mp.sl]
  rw [List.getElem_append_right (by omega)]
  simp [e2]
theorem odd_spec {c h : Nat} {S : Store} (H : Hand c h S) : ∃ v S', m_law_odd [.ref h] S = .ok v S' ∧ Odd c h S v S' := by
  obtain ⟨r, o, e, r0, r1, H1⟩ := take_spec (m := 18) H (by decide) (by decide)
  have K1 : Keep h S (ss S h o) := Keep.ss h S o
  have hl : h < sl (ss S h o) := H1.lt
  generalize hS : ss S h o = S1 at *
  obtain ⟨q, hq⟩ : ∃ q, m_law_odd [.ref h] S = q := ⟨_, rfl⟩
  have hq' := hq
  unfold m_law_odd at hq
  have hr : r = 0 ∨ r = 1 ∨ r = 2 ∨ r = 3 ∨ r = 4 ∨ r = 5 ∨ r = 6 ∨ r = 7 ∨ r = 8 ∨ r = 9 ∨ r = 10 ∨ r = 11 ∨ r = 12 ∨ r = 13 ∨ r = 14 ∨ r = 15 ∨ r = 16 ∨ r = 17 := by omega
  rcases hr with rfl | rfl | rfl | rfl | rfl | rfl | rfl | rfl | rfl | rfl | rfl | rfl | rfl | rfl | rfl | rfl | rfl | rfl
  all_goals
    simp (maxDischargeDepth := 12) [startL, e, L2.atI] at hq
    rw [hq', ← hq]
    refine ⟨_, _, rfl, ⟨?_, ?_, ?_⟩⟩
    · first
        | exact ⟨"NoneType", rfl⟩
        | exact ⟨"bool", rfl⟩
        | exact ⟨"int", rfl⟩
        | exact ⟨"str", rfl⟩
        | exact ⟨"tuple", rfl⟩
        | exact ⟨"list", by rw [tyName_ref, (sg4 _ _ _ _ _).1]; rfl⟩
        | exact ⟨"dict", by rw [tyName_ref, (sg4 _ _ _ _ _).2.1]; rfl⟩
        | exact ⟨"list", by rw [tyName_ref, (sg4 _ _ _ _ _).2.2]; rfl⟩
    · first
        | exact H1.sp _
        | exact (((H1.sp _).sp _).sp _).sp _
    · first
        | exact K1.trans (Keep.sp _ _ _)
        | exact (((K1.trans (Keep.sp _ _ _)).trans (Keep.sp _ _ _)).trans (Keep.sp _ _ _)).trans (Keep.sp _ _ _)
theorem Hand.of {c h : Nat} {S S' : Store} (H : Hand c h S) (e1 : sg S' h = sg S h) (e2 : sg S' c = sg S c) : Hand c h S' := by
  obtain ⟨ns, a, b, s, k, q1, q2, r⟩ := H.ex
  exact ⟨ns, a, b, s, k, by rw [e1]; exact q1, by rw [e2]; exact q2, r⟩
theorem Hand.ne {c h : Nat} {S : Store} (H : Hand c h S) : c ≠ h ∧ c < sl S ∧ h < sl S := by
  obtain ⟨ns, a, b, s, k, q1, q2, q3, _⟩ := H.ex
  exact ⟨q3, sg_lt q2, sg_lt q1⟩
theorem pick_spec {c h i : Nat} {xs : List Val} {S : Store} (H : Hand c h S) (hi : sg S i = some (.lst xs)) (hn : i ≠ h) (h0 : 0 < xs.length) (h1 : xs.length < 1000) :
    ∃ (r : Nat) (v : Val) (S' : Store), m_law_pick [.ref h, .ref i] S = .ok v S' ∧ xs[r]? = some v ∧ Hand c h S' ∧ Keep h S S' := by
  obtain ⟨r, o, e, r0, r1, H1⟩ := take_spec (m := (xs.length : Int)) H (by omega) (by omega)
  obtain ⟨n, rfl⟩ : ∃ n : Nat, r = n := ⟨r.toNat, by omega⟩
  have hx : n < xs.length := by omega
  refine ⟨n, xs[n], ss S h o, ?_, by simp [hx], H1, Keep.ss h S o⟩
  unfold m_law_pick
  simp (maxDischargeDepth := 12) [startL, hi, e, hn, Ne.symm hn, hx]
theorem hand_spec (ns : List Int) : ∃ S, m_law_hand [.fl ns] [] = .ok (.ref 1) S ∧ Hand 0 1 S ∧ sl S = 2 := by
  obtain ⟨q, hq⟩ : ∃ q, m_law_hand [.fl ns] [] = q := ⟨_, rfl⟩
  have hq' := hq
  unfold m_law_hand at hq
  simp (maxDischargeDepth := 12) [startL] at hq
  rw [hq', ← hq]
  exact ⟨_, rfl, ⟨ns, 0, 0, 1, 0, rfl, rfl, by decide, Nat.zero_le _, by decide, by decide, by decide⟩, rfl⟩
end K09

namespace K09
open Mp
open PySem (Str)
theorem pNe_of {x y : Val} {S : Store} {d e : PySem.PyData} (h1 : toD DEEP S x = some d) (h2 : toD DEEP S y = some e) (s1 : PySem.SeqAt.shaped d = true) (s2 : PySem.SeqAt.shaped e = true) :
    pNe x y S = .ok (.bl (!PySem.PyData.eqv d e)) S := by
  unfold pNe eqO
  rw [h1, h2]
  simp [s1, s2]
theorem ne_no {S : Store} : pNe (.tup [.str "NoNumber"]) (.tup [.str "NoNumber"]) S = .ok (.bl false) S := by
  have e : toD DEEP S (.tup [.str "NoNumber"]) = some (.tuple [.str "NoNumber"]) := by
    show toD (69 + 1) S _ = _
    rw [toD_tup]
    simp
  rw [pNe_of e e (by decide +kernel) (by decide +kernel)]
  rw [show PySem.PyData.eqv (.tuple [.str "NoNumber"]) (.tuple [.str "NoNumber"]) = true by decide +kernel]
  rfl
theorem ne_told {S : Store} {i j : Nat} (hi : sg S i = some (.lst [])) (hj : sg S j = some (.lst [])) : pNe (.tup [.str "told", .ref i]) (.tup [.str "told", .ref j]) S = .ok (.bl false) S := by
  have e : ∀ {i : Nat}, sg S i = some (.lst []) → toD DEEP S (.tup [.str "told", .ref i]) = some (.tuple [.str "told", .list []]) := fun {i} h => by
    show toD (69 + 1) S _ = _
    rw [toD_tup]
    show (List.mapM (toD (68 + 1) S) _).map _ = _
    simp [toD_ref, h, listD]
  rw [pNe_of (e hi) (e hj) (by decide +kernel) (by decide +kernel)]
  rw [show PySem.PyData.eqv (.tuple [.str "told", .list []]) (.tuple [.str "told", .list []]) = true by decide +kernel]
  rfl
def Things (xs : List Val) : Prop := ∀ x, x ∈ xs → ∃ k : Int, x = .tup [.str "thing", .int k]
theorem sm_int (n : Nat) (S : Store) (i : Int) : Sm (n + 1) S (.int i) (.int i) := .inl ⟨i, rfl, rfl⟩
theorem sm_str (n : Nat) (S : Store) {x : Str} (h : PySem.PyData.strOk x = true) : Sm (n + 1) S (.str x) (.str x) := .inr (.inl ⟨x, rfl, rfl, h⟩)
theorem sm_tup2 {n : Nat} {S : Store} {a b c d : Val} (h1 : Sm n S a c) (h2 : Sm n S b d) : Sm (n + 1) S (.tup [a, b]) (.tup [c, d]) :=
  .inr (.inr (.inl ⟨_, _, rfl, rfl, rfl, fun i x y q1 q2 => by
    match i with
    | 0 => simp at q1 q2; subst q1; subst q2; exact h1
    | 1 => simp at q1 q2; subst q1; subst q2; exact h2
    | i + 2 => simp at q1⟩))
theorem sm_tupAll {n : Nat} {S : Store} {xs : List Val} (h : ∀ x, x ∈ xs → Sm n S x x) : Sm (n + 1) S (.tup xs) (.tup xs) :=
  .inr (.inr (.inl ⟨_, _, rfl, rfl, rfl, fun i x y q1 q2 => by
    rw [q1] at q2
    cases q2
    exact h x (List.mem_of_getElem? q1)⟩))
theorem sm_things {n : Nat} {S : Store} {xs : List Val} (h : Things xs) : Sm (n + 3) S (.tup xs) (.tup xs) := sm_tupAll fun x hx => by
  obtain ⟨k, rfl⟩ := h x hx
  exact sm_tup2 (sm_str _ _ (by decide +kernel)) (sm_int _ _ _)
theorem sm_ref1 {n : Nat} {S : Store} {i j : Nat} {u v : Val} (hi : sg S i = some (.lst [u])) (hj : sg S j = some (.lst [v])) (h : Sm n S u v) : Sm (n + 1) S (.ref i) (.ref j) :=
  .inr (.inr (.inr ⟨i, j, _, _, rfl, rfl, hi, hj, rfl, fun i x y q1 q2 => by
    match i with
    | 0 => simp at q1 q2; subst q1; subst q2; exact h
    | i + 1 => simp at q1⟩))
end K09

namespace K09
open Mp
open PySem (Str)
structure St (g t m : Int) (S : Store) : Prop where
  hand : Hand 0 1 S
  q : ∃ (l : Nat) (xs : List Val), sg S 2 = some (outO g l) ∧ sg S l = some (.lst xs) ∧ Things xs ∧ g + xs.length = m ∧ l ≠ 0 ∧ l ≠ 1 ∧ l ≠ 2 ∧ l ≠ 4 ∧ l ≠ 5
  i4 : sg S 4 = some (inO t 5)
  i5 : sg S 5 = some (.dK [])
theorem St.keep {g t m : Int} {S S' : Store} (h : St g t m S) (K : Keep 1 S S') (H : Hand 0 1 S') : St g t m S' := by
  obtain ⟨l, xs, q1, q2, q3, q4, n0, n1, n2, n4, n5⟩ := h.q
  exact ⟨H, ⟨l, xs, by rw [K.2 2 (sg_lt q1) (by decide)]; exact q1, by rw [K.2 l (sg_lt q2) n1]; exact q2, q3, q4, n0, n1, n2, n4, n5⟩,
    by rw [K.2 4 (sg_lt h.i4) (by decide)]; exact h.i4, by rw [K.2 5 (sg_lt h.i5) (by decide)]; exact h.i5⟩
theorem St.len {g t m : Int} {S : Store} (h : St g t m S) : 6 ≤ sl S := sg_lt h.i5
abbrev Lc (ns : List Int) (m g t : Int) (x5 x8 x9 x10 : Option Val) : Loc := [some (.fl ns), some (.ref 1), some (.ref 2), some (.ref 4), some (.int m), x5, some (.int g), some (.int t), x8, x9, x10]
theorem s10_ok {ns : List Int} {m g t : Int} {x5 x8 x9 x10 : Option Val} {S : Store} (h : St g t m S) (m0 : 0 ≤ m) (m8 : m ≤ 8) :
    ∃ v S' t', m_law_s10 (Lc ns m g t x5 x8 x9 x10) S = .nx (Lc ns m g t x5 (some v) x9 x10) S' ∧ St g t m S' ∧ tyName v S' = some t' := by
  obtain ⟨r, o, e1, r0, r1, H1⟩ := take_spec (m := m + 1) h.hand (by omega) (by omega)
  have K1 : Keep 1 S (ss S 1 o) := Keep.ss 1 S o
  obtain ⟨v0, S2, e2, ⟨t0, y0⟩, H2, K2⟩ := odd_spec H1
  have hl : (1 : Nat) < sl S2 := H2.lt
  obtain ⟨n, v, S3, e3, hx, H3, K3⟩ := pick_spec (xs := [.int r, .int m, .int (m + 1), .int (-1), .bl true, .non, .str "0", v0, .int 10000000000000000000]) (i := sl S2) (H2.sp _) sg_sp_new (by omega) (by simp) (by simp)
  have hv : ∃ t', tyName v S3 = some t' := by
    have hv0 := ty_keep H3 ((Keep.sp 1 S2 _).trans K3) y0
    have := List.mem_of_getElem? hx
    simp only [List.mem_cons, List.not_mem_nil, or_false] at this
    rcases this with rfl | rfl | rfl | rfl | rfl | rfl | rfl | rfl | rfl <;> first | exact hv0 | exact ⟨_, rfl⟩
  obtain ⟨t', ht⟩ := hv
  refine ⟨v, S3, t', ?_, h.keep (K1.trans (K2.trans ((Keep.sp 1 S2 _).trans K3))) H3, ht⟩
  unfold m_law_s10
  simp (maxDischargeDepth := 12) [e1, e2, e3]
theorem s19_ok {ns : List Int} {m g t : Int} {x5 x8 x9 x10 : Option Val} {S : Store} (h : St g t m S) :
    ∃ v S' t', m_law_s19 (Lc ns m g t x5 x8 x9 x10) S = .nx (Lc ns m g t x5 (some v) x9 x10) S' ∧ St g t m S' ∧ tyName v S' = some t' := by
  obtain ⟨v0, S2, e2, ⟨t0, y0⟩, H2, K2⟩ := odd_spec h.hand
  have hl : (1 : Nat) < sl S2 := H2.lt
  obtain ⟨n, v, S3, e3, hx, H3, K3⟩ := pick_spec (xs := [.int t, .int t, .int t, .int 4294967295, .int 4294967296, .int (-1), .bl false, .non, .tup [.int 0], v0]) (i := sl S2) (H2.sp _) sg_sp_new (by omega) (by simp) (by simp)
  have hv : ∃ t', tyName v S3 = some t' := by
    have hv0 := ty_keep H3 ((Keep.sp 1 S2 _).trans K3) y0
    have := List.mem_of_getElem? hx
    simp only [List.mem_cons, List.not_mem_nil, or_false] at this
    rcases this with rfl | rfl | rfl | rfl | rfl | rfl | rfl | rfl | rfl | rfl <;> first | exact hv0 | exact ⟨_, rfl⟩
  obtain ⟨t', ht⟩ := hv
  refine ⟨v, S3, t', ?_, h.keep (K2.trans ((Keep.sp 1 S2 _).trans K3)) H3, ht⟩
  unfold m_law_s19
  simp (maxDischargeDepth := 12) [e2, e3]
theorem cutL_drop {xs : List Val} {d : Int} (h0 : 0 ≤ d) (h1 : d ≤ xs.length) : cutL xs (some d) none = xs.drop d.toNat := by
  unfold cutL
  have e : HT.sIx xs.length 0 (some d) = d.toNat := by
    unfold HT.sIx
    simp only []
    rw [if_neg (by omega)]
    omega
  have e2 : HT.sIx xs.length xs.length none = xs.length := rfl
  rw [e, e2, List.take_of_length_le (by simp)]
theorem s11_ok {ns : List Int} {m g t : Int} {x5 x8 x9 x10 : Option Val} {S : Store} (h : St g t m S) :
    ∃ xs, m_law_s11 (Lc ns m g t x5 x8 x9 x10) S = .nx (Lc ns m g t x5 x8 (some (.tup [.int g, .tup xs])) x10) S ∧ Things xs ∧ m_Outgoing_state [.ref 2] S = .ok (.tup [.int g, .tup xs]) S := by
  obtain ⟨l, xs, q1, q2, q3, q4, n0, n1, n2, n4, n5⟩ := h.q
  have e := out_state_eq q1 q2
  refine ⟨xs, ?_, q3, e⟩
  unfold m_law_s11
  simp only [outO] at q1
  simp (maxDischargeDepth := 12) [e, q1, List.lookup]
theorem within_true {v : Val} {a b : Int} (h : withinB v a b = true) : ∃ n, v = .int n ∧ a ≤ n ∧ n ≤ b := by
  cases v <;> simp [withinB] at h
  exact ⟨_, rfl, h.1, h.2⟩
/-- the parts 12 and 13: known, judged -/
theorem s12_ok {ns : List Int} {m g t : Int} {x5 x10 : Option Val} {S : Store} {v : Val} {ty : String} {xs : List Val} (h : St g t m S) (g0 : 0 ≤ g) (gm : g ≤ m) (m8 : m ≤ 8) (ht : tyName v S = some ty) (hs : Things xs) (e : m_Outgoing_state [.ref 2] S = .ok (.tup [.int g, .tup xs]) S) :
    ∃ (g' : Int) (x10' : Option Val) (S' : Store), sSeq m_law_s12 m_law_s13 (Lc ns m g t x5 (some v) (some (.tup [.int g, .tup xs])) x10) S = .nx (Lc ns m g' t x5 (some v) (some (.tup [.int g, .tup xs])) x10') S' ∧ St g' t m S' ∧ 0 ≤ g' ∧ g' ≤ m := by
  obtain ⟨l, ys, q1, q2, q3, q4, n0, n1, n2, n4, n5⟩ := h.q
  cases hw : withinB v 0 m with
  | true =>
    obtain ⟨n, rfl, w0, w1⟩ := within_true hw
    have hd : ∃ d : Int, (if n - g > 0 then n - g else 0) = d := ⟨_, rfl⟩
    obtain ⟨d, hd⟩ := hd
    have d0 : 0 ≤ d := by rw [← hd]; split <;> omega
    have d1 : d ≤ ys.length := by rw [← hd]; split <;> omega
    have d2 : (if n > g then n else g) = g + d := by rw [← hd]; split <;> split <;> omega
    have d3 : (if g < n then n - g else 0) = d := by rw [← hd]; split <;> split <;> omega
    have d4 : (if g < n then n else g) = g + d := by rw [← hd]; split <;> split <;> omega
    have e1 := law_known_ok q1 q2 w0 (by omega)
    rw [hd, cutL_drop d0 d1] at e1
    have e2 := law_is_within_eq (v := .int n) (S := ss (sp S (.lst (ys.drop d.toNat))) 2 (outO (g + d) (sl S))) (t := "int") (a := 0) (b := m) rfl
    rw [hw] at e2
    have e3 := same_eq 100 (sm_tup2 (n := 99) (S := ss (sp S (.lst (ys.drop d.toNat))) 2 (outO (g + d) (sl S))) (sm_str 98 _ (x := "told") (by decide +kernel)) (sm_int 98 _ d))
    have hl := h.len
    have hs2 : St (g + d) t m (ss (sp S (.lst (ys.drop d.toNat))) 2 (outO (g + d) (sl S))) := by
      refine ⟨h.hand.of ?_ ?_, ⟨sl S, ys.drop d.toNat, ?_, ?_, ?_, ?_, ?_, ?_, ?_, ?_, ?_⟩, ?_, ?_⟩
      · rw [sg_ss_ne (by decide), sg_sp_lt (by omega)]
      · rw [sg_ss_ne (by decide), sg_sp_lt (by omega)]
      · exact sg_ss_same (by rw [sg_sp_lt (by omega), q1]; rfl)
      · rw [sg_ss_ne (by omega)]; simp
      · exact fun x hx => q3 x (List.mem_of_mem_drop hx)
      · simp; omega
      · omega
      · omega
      · omega
      · omega
      · omega
      · rw [sg_ss_ne (by decide), sg_sp_lt (by omega)]; exact h.i4
      · rw [sg_ss_ne (by decide), sg_sp_lt (by omega)]; exact h.i5
    refine ⟨g + d, some (.tup [.str "told", .int d]), _, ?_, hs2, by omega, by omega⟩
    unfold m_law_s12 m_law_s13 m_law_s14 m_law_s16 m_law_s15
    simp only [outO] at q1 e1 e2 e3
    simp (maxDischargeDepth := 12) [e1, e2, outO, d3, d4, e3]
  | false =>
    have e1 := law_known_no q1 q2 ht (by rw [q4]; exact hw)
    have e2 := law_is_within_eq (a := 0) (b := m) ht
    rw [hw] at e2
    have e3 := same_eq 100 (sm_tup2 (n := 99) (S := S) (sm_int 98 _ g) (sm_things (n := 96) hs))
    refine ⟨g, some (.tup [.str "NoNumber"]), S, ?_, h, g0, gm⟩
    unfold m_law_s12 m_law_s13 m_law_s17
    simp only [outO] at q1
    simp (maxDischargeDepth := 12) [e1, e2, e3, e, ne_no, q1, List.lookup, m_law_s18]
end K09

namespace K09
open Mp
open PySem (Str)
theorem s20_ok {ns : List Int} {m g t : Int} {x5 x9 x10 : Option Val} {S : Store} {v : Val} {ty : String} (ht : tyName v S = some ty) :
    ∃ v' ty', m_law_s20 (Lc ns m g t x5 (some v) x9 x10) S = .nx (Lc ns m g t x5 (some v') x9 x10) S ∧ tyName v' S = some ty' ∧ ∀ n, v' = .int n → n ≤ t ∨ t + 1000 ≤ n := by
  have e := law_is_within_eq (a := t + 1) (b := t + 999) ht
  cases hw : withinB v (t + 1) (t + 999) with
  | true =>
    rw [hw] at e
    refine ⟨.int t, _, ?_, rfl, fun n q => by cases q; omega⟩
    unfold m_law_s20 m_law_s21
    simp (maxDischargeDepth := 12) [e]
  | false =>
    rw [hw] at e
    refine ⟨v, _, ?_, ht, fun n q => ?_⟩
    · unfold m_law_s20 m_law_s21
      simp (maxDischargeDepth := 12) [e]
    · subst q
      simp [withinB] at hw
      omega
theorem s22_ok {ns : List Int} {m g t : Int} {x5 x9 x10 : Option Val} {S : Store} {v : Val} {ty : String} (h : St g t m S) (t0 : 0 ≤ t) (t8 : t ≤ 1000) (ht : tyName v S = some ty) (hn : ∀ n, v = .int n → n ≤ t ∨ t + 1000 ≤ n) :
    ∃ (t' : Int) (x9' x10' : Option Val) (S' : Store), sSeq m_law_s22 (sSeq m_law_s23 m_law_s24) (Lc ns m g t x5 (some v) x9 x10) S = .nx (Lc ns m g t' x5 (some v) x9' x10') S' ∧ St g t' m S' ∧ t ≤ t' ∧ t' ≤ t + 1 := by
  have hl := h.len
  have e0 := in_state_eq h.i4 h.i5
  have K1 : Keep 1 S (sp (sp S (.lst [])) (.lst [])) := (Keep.sp _ _ _).trans (Keep.sp _ _ _)
  have H1 : Hand 0 1 (sp (sp S (.lst [])) (.lst [])) := (h.hand.sp _).sp _
  have h1 := h.keep K1 H1
  obtain ⟨ty1, ht1⟩ := ty_keep H1 K1 ht
  have hi4 := h.i4
  simp only [inO] at hi4
  generalize hS1 : sp (sp S (.lst [])) (.lst []) = S1 at *
  have hl1 := h1.len
  have hi41 := h1.i4
  simp only [inO] at hi41
  have w := law_is_within_eq (a := 0) (b := 4294967295) ht1
  cases hw : withinB v 0 4294967295 with
  | false =>
    rw [hw] at w
    have e1 := law_taken_no h1.i4 ht1 hw
    have e2 := in_state_eq h1.i4 h1.i5
    have e3 := same_eq 100 (sm_tup2 (n := 99) (S := sp (sp S1 (.lst [])) (.lst [])) (sm_int 98 _ t) (sm_things (n := 96) (xs := []) (fun x hx => by cases hx)))
    refine ⟨t, some (.tup [.int t, .tup []]), some (.tup [.str "NoNumber"]), sp (sp S1 (.lst [])) (.lst []), ?_, h1.keep ((Keep.sp _ _ _).trans (Keep.sp _ _ _)) ((H1.sp _).sp _), by omega, by omega⟩
    unfold m_law_s22 m_law_s23 m_law_s24 m_law_s25 m_law_s26
    simp (maxDischargeDepth := 12) [e0, e1, e2, e3, hi4, hi41, w, ne_no, List.lookup]
  | true =>
    obtain ⟨n, rfl, n0, n1⟩ := within_true hw
    rw [hw] at w
    by_cases hnt : n = t
    · subst hnt
      have e1 := law_taken_next h1.i4 h1.i5 (by decide) n0 n1
      obtain ⟨S2, hS2⟩ : ∃ S2, ss (ss (ss (sp (ss S1 5 (.dK [(.inl n, .tup [.str "x", .int n])])) (.lst [])) 5 (.dK [])) (sl S1) (.lst [.tup [.str "x", .int n]])) 4 (inO (n + 1) 5) = S2 := ⟨_, rfl⟩
      have l2 : sl S2 = sl S1 + 1 := by rw [← hS2]; simp
      have g4 : sg S2 4 = some (inO (n + 1) 5) := by
        rw [← hS2]
        exact sg_ss_same (by rw [sg_ss_ne (by omega), sg_ss_ne (by decide), sg_sp_lt (by simp; omega), sg_ss_ne (by decide), hi41]; rfl)
      have g5 : sg S2 5 = some (.dK []) := by
        rw [← hS2, sg_ss_ne (by decide), sg_ss_ne (by omega)]
        exact sg_ss_same (by rw [sg_sp_lt (by simp; omega), sg_ss_same (by rw [h1.i5]; rfl)]; rfl)
      have gn : sg S2 (sl S1) = some (.lst [.tup [.str "x", .int n]]) := by
        rw [← hS2, sg_ss_ne (by omega)]
        exact sg_ss_same (by rw [sg_ss_ne (by omega)]; simp)
      have gk : ∀ i, i < sl S1 → i ≠ 4 → i ≠ 5 → sg S2 i = sg S1 i := fun i hi a b => by
        rw [← hS2, sg_ss_ne a, sg_ss_ne (by omega), sg_ss_ne b, sg_sp_lt (by simpa using hi), sg_ss_ne b]
      rw [hS2] at e1
      have w2 := law_is_within_eq (v := .int n) (S := S2) (t := "int") (a := 0) (b := 4294967295) rfl
      rw [hw] at w2
      obtain ⟨l, xs, q1, q2, q3, q4, z0, z1, z2, z4, z5⟩ := h1.q
      have s2 : St g (n + 1) m S2 := ⟨H1.of (gk 1 (by omega) (by decide) (by decide)) (gk 0 (by omega) (by decide) (by decide)),
        ⟨l, xs, by rw [gk 2 (by omega) (by decide) (by decide)]; exact q1, by rw [gk l (sg_lt q2) z4 z5]; exact q2, q3, q4, z0, z1, z2, z4, z5⟩, g4, g5⟩
      have e3 := same_eq 100 (sm_tup2 (n := 99) (S := sp S2 (.lst [.tup [.str "x", .int n]])) (sm_str 98 _ (x := "told") (by decide +kernel))
        (sm_ref1 (n := 98) (i := sl S1) (j := sl S2) (u := .tup [.str "x", .int n]) (v := .tup [.str "x", .int n]) (by rw [sg_sp_lt (by omega)]; exact gn) sg_sp_new (sm_tup2 (sm_str 96 _ (by decide +kernel)) (sm_int 96 _ n))))
      refine ⟨n + 1, some (.tup [.int n, .tup []]), some (.tup [.str "told", .ref (sl S1)]), sp S2 (.lst [.tup [.str "x", .int n]]), ?_, s2.keep (Keep.sp _ _ _) (s2.hand.sp _), by omega, by omega⟩
      unfold m_law_s22 m_law_s23 m_law_s24 m_law_s27 m_law_s28 m_law_s29 m_law_s30
      simp (maxDischargeDepth := 12) [e0, e1, e3, hi4, hi41, w2, List.lookup]
    · have e1 := law_taken_far h1.i4 h1.i5 n0 n1 (by have := hn n rfl; omega)
      have w2 := law_is_within_eq (v := .int n) (S := sp S1 (.lst [])) (t := "int") (a := 0) (b := 4294967295) rfl
      rw [hw] at w2
      have e3 := ne_told (S := sp (sp S1 (.lst [])) (.lst [])) (i := sl S1) (j := sl S1 + 1) (by rw [sg_sp_lt (by simp)]; simp) (by simp)
      refine ⟨t, some (.tup [.int t, .tup []]), some (.tup [.str "told", .ref (sl S1)]), sp (sp S1 (.lst [])) (.lst []), ?_, h1.keep ((Keep.sp _ _ _).trans (Keep.sp _ _ _)) ((H1.sp _).sp _), by omega, by omega⟩
      unfold m_law_s22 m_law_s23 m_law_s24 m_law_s27 m_law_s31 m_law_s32
      simp (maxDischargeDepth := 12) [e0, e1, e3, hi4, hi41, w2, List.lookup, hnt]
end K09

namespace K09
open Mp
open PySem (Str)
theorem seq_nx {a b : MS} {L L1 : Loc} {S S1 : Store} {f : F} (h : a L S = .nx L1 S1) (h2 : b L1 S1 = f) : sSeq a b L S = f := by
  show (a L S).andThen b = f
  rw [h]
  exact h2
theorem seq2_nx {a b c : MS} {L L1 : Loc} {S S1 : Store} {f : F} (h : sSeq a b L S = .nx L1 S1) (h2 : c L1 S1 = f) : sSeq a (sSeq b c) L S = f := by
  show (a L S).andThen (sSeq b c) = f
  change (a L S).andThen b = _ at h
  cases q : a L S <;> rw [q] at h <;> first | (cases h; done) | skip
  rw [F.andThen_nx] at h ⊢
  exact seq_nx h h2
theorem seq3_nx {a b c d : MS} {L L1 : Loc} {S S1 : Store} {f : F} (h : sSeq a (sSeq b c) L S = .nx L1 S1) (h2 : d L1 S1 = f) : sSeq a (sSeq b (sSeq c d)) L S = f := by
  show (a L S).andThen (sSeq b (sSeq c d)) = f
  change (a L S).andThen (sSeq b c) = _ at h
  cases q : a L S <;> rw [q] at h <;> first | (cases h; done) | skip
  rw [F.andThen_nx] at h ⊢
  exact seq2_nx h h2
theorem body_ok {ns : List Int} {m g t : Int} {x5 x8 x9 x10 : Option Val} {S : Store} (m0 : 0 ≤ m) (m8 : m ≤ 8) (g0 : 0 ≤ g) (gm : g ≤ m) (t0 : 0 ≤ t) (t8 : t ≤ 1000) (h : St g t m S) :
    ∃ (g' t' : Int) (x8' x9' x10' : Option Val) (S' : Store), (sSeq m_law_s10 (sSeq m_law_s11 (sSeq m_law_s12 (sSeq m_law_s13 (sSeq m_law_s19 (sSeq m_law_s20 (sSeq m_law_s22 (sSeq m_law_s23 m_law_s24))))))))
      (Lc ns m g t x5 x8 x9 x10) S = .nx (Lc ns m g' t' x5 x8' x9' x10') S' ∧ St g' t' m S' ∧ 0 ≤ g' ∧ g' ≤ m ∧ t ≤ t' ∧ t' ≤ t + 1 := by
  obtain ⟨v, S1, ty, e10, h1, ht⟩ := s10_ok (ns := ns) (x5 := x5) (x8 := x8) (x9 := x9) (x10 := x10) h m0 m8
  obtain ⟨xs, e11, hs, e⟩ := s11_ok (ns := ns) (x5 := x5) (x8 := some v) (x9 := x9) (x10 := x10) h1
  obtain ⟨g', y10, S2, e12, h2, g0', gm'⟩ := s12_ok (ns := ns) (x5 := x5) (x10 := x10) h1 g0 gm m8 ht hs e
  obtain ⟨v2, S3, ty2, e19, h3, ht3⟩ := s19_ok (ns := ns) (x5 := x5) (x8 := some v) (x9 := some (.tup [.int g, .tup xs])) (x10 := y10) h2
  obtain ⟨v3, ty3, e20, ht4, hn⟩ := s20_ok (ns := ns) (m := m) (g := g') (t := t) (x5 := x5) (x9 := some (.tup [.int g, .tup xs])) (x10 := y10) ht3
  obtain ⟨t', z9, z10, S4, e22, h4, t1, t2⟩ := s22_ok (ns := ns) (x5 := x5) (x9 := some (.tup [.int g, .tup xs])) (x10 := y10) h3 t0 t8 ht4 hn
  exact ⟨g', t', _, _, _, _, seq_nx e10 (seq_nx e11 (seq2_nx e12 (seq_nx e19 (seq_nx e20 e22)))), h4, g0', gm', t1, t2⟩
theorem s9_ok {ns : List Int} {m : Int} {x5 : Option Val} {S : Store} (m0 : 0 ≤ m) (m8 : m ≤ 8) (h : St 0 0 m S) :
    ∃ (g t : Int) (x5' x8 x9 x10 : Option Val) (S' : Store), m_law_s9 (Lc ns m 0 0 x5 none none none) S = .nx (Lc ns m g t x5' x8 x9 x10) S' ∧ St g t m S' := by
  obtain ⟨L', S', e, g, t, x5', x8, x9, x10, rfl, h', _⟩ := forLoop_nx (keep := fun _ => True) (g := gN 5) (b := sSeq m_law_s10 (sSeq m_law_s11 (sSeq m_law_s12 (sSeq m_law_s13 (sSeq m_law_s19 (sSeq m_law_s20 (sSeq m_law_s22 (sSeq m_law_s23 m_law_s24))))))))
    (fun i L S => ∃ (g t : Int) (x5' x8 x9 x10 : Option Val), L = Lc ns m g t x5' x8 x9 x10 ∧ St g t m S ∧ 0 ≤ g ∧ g ≤ m ∧ 0 ≤ t ∧ t ≤ i) (xs := rangeL 0 8) (L := Lc ns m 0 0 x5 none none none) (S := S)
    ⟨0, 0, x5, none, none, none, rfl, h, by omega, by omega, by omega, by simp⟩ (fun _ _ _ _ _ => trivial) (fun i x L S1 hx q => by
      obtain ⟨g, t, x5', x8, x9, x10, rfl, h, g0, gm, t0, ti⟩ := q
      have hi8 : i < 8 := (rangeL_at hx).1
      obtain ⟨g', t', y8, y9, y10, S2, e, h2, g0', gm', t1, t2⟩ := body_ok (ns := ns) (x5 := some x) (x8 := x8) (x9 := x9) (x10 := x10) m0 m8 g0 gm t0 (by omega) h
      exact ⟨_, S1, _, S2, by simp, .inl e, g', t', _, y8, y9, y10, rfl, h2, g0', gm', by omega, by push_cast; omega⟩)
  refine ⟨g, t, x5', x8, x9, x10, S', ?_, h'⟩
  unfold m_law_s9
  simp (maxDischargeDepth := 12) [rngOf1, BIG]
  exact e
theorem s5_ok {ns : List Int} {m : Int} {S : Store} (m0 : 0 ≤ m) (m8 : m ≤ 8) (h : St 0 0 0 S) :
    ∃ (x5 : Option Val) (S' : Store), m_law_s5 [some (.fl ns), some (.ref 1), some (.ref 2), some (.ref 4), some (.int m), none, none, none, none, none, none] S = .nx [some (.fl ns), some (.ref 1), some (.ref 2), some (.ref 4), some (.int m), x5, none, none, none, none, none] S' ∧ St 0 0 m S' := by
  obtain ⟨n, rfl⟩ : ∃ n : Nat, m = n := ⟨m.toNat, by omega⟩
  have hz : (rangeL 0 n).length = n := rangeL_len 0 n
  obtain ⟨L', S', e, x5, rfl, h'⟩ := forLoop_nx (keep := fun _ => True) (g := gN 5) (b := m_law_s6)
    (fun i L S => ∃ (x5 : Option Val), L = [some (.fl ns), some (.ref 1), some (.ref 2), some (.ref 4), some (.int n), x5, none, none, none, none, none] ∧ St 0 0 i S) (xs := rangeL 0 n) (L := [some (.fl ns), some (.ref 1), some (.ref 2), some (.ref 4), some (.int n), none, none, none, none, none, none]) (S := S)
    ⟨none, rfl, h⟩ (fun _ _ _ _ _ => trivial) (fun i x L S1 hx q => by
      obtain ⟨x5, rfl, h⟩ := q
      obtain ⟨hi, k, rfl⟩ : i < n ∧ ∃ k : Int, x = .int k := ⟨(rangeL_at hx).1, _, (rangeL_at hx).2⟩
      obtain ⟨l, xs, q1, q2, q3, q4, n0, n1, n2, n4, n5⟩ := h.q
      have e := put_eq (v := .tup [.str "thing", .int k]) q1 q2 (Ne.symm n2) (by omega)
      refine ⟨[some (.fl ns), some (.ref 1), some (.ref 2), some (.ref 4), some (.int n), some (.int k), none, none, none, none, none], S1, [some (.fl ns), some (.ref 1), some (.ref 2), some (.ref 4), some (.int n), some (.int k), none, none, none, none, none], ss S1 l (.lst (xs ++ [.tup [.str "thing", .int k]])), by simp, .inl ?_, some (.int k), rfl, ?_⟩
      · unfold m_law_s6
        simp only [outO] at q1
        simp (maxDischargeDepth := 12) [e, q1, List.lookup]
      · refine ⟨h.hand.of (sg_ss_ne (Ne.symm n1)) (sg_ss_ne (Ne.symm n0)), ⟨l, _, by rw [sg_ss_ne (Ne.symm n2)]; exact q1, sg_ss_same (by rw [q2]; rfl), ?_, by simp; omega, n0, n1, n2, n4, n5⟩, by rw [sg_ss_ne (Ne.symm n4)]; exact h.i4, by rw [sg_ss_ne (Ne.symm n5)]; exact h.i5⟩
        intro x hx
        rcases List.mem_append.mp hx with hx | hx
        · exact q3 x hx
        · simp at hx
          exact ⟨k, hx⟩)
  rw [hz] at h'
  refine ⟨x5, S', ?_, h'⟩
  unfold m_law_s5
  have hb : (-BIG ≤ (n : Int) ∧ (n : Int) < BIG) := ⟨Int.le_trans (by unfold BIG; decide) m0, Int.lt_of_le_of_lt m8 (by unfold BIG; decide)⟩
  have e0 : rngOf1 [.int (n : Int)] S = .ok ⟨rangeL 0 n, fun _ => True⟩ S := by
    rw [rngOf1_int, decide_eq_true hb]
    rfl
  have e1 : iRng1 (aCons (mV 4) aNil) [some (.fl ns), some (.ref 1), some (.ref 2), some (.ref 4), some (.int n), none, none, none, none, none, none] S = .ok ⟨rangeL 0 n, fun _ => True⟩ S := by
    have e2 : aCons (mV 4) aNil [some (.fl ns), some (.ref 1), some (.ref 2), some (.ref 4), some (.int n), none, none, none, none, none, none] S = .ok [.int (n : Int)] S := rfl
    rw [iRng1_app, e2, R.bind_ok, e0]
  rw [sFor_app, e1, thenF_ok]
  exact e
theorem sg_ss_at {S : Store} {i : Nat} {o : Ob} (h : i < sl S) : sg (ss S i o) i = some o := sg_ss_same (by
  show (S[i]?).isSome = true
  simp
  exact h)
theorem law_ok (ns : List Int) : ∃ S, m_law [.fl ns] [] = .ok (.bl true) S := by
  obtain ⟨S0, e1, H0, l0⟩ := hand_spec ns
  obtain ⟨q, hq⟩ : ∃ q, m_law [.fl ns] [] = q := ⟨_, rfl⟩
  have hq' := hq
  unfold m_law m_law_s1 m_law_s2 m_law_s3 at hq
  simp (maxDischargeDepth := 12) [startL, e1, m_Outgoing___init__, m_Incoming___init__, l0, setF] at hq
  obtain ⟨S1, hS1⟩ : ∃ S1, (ss (sp (ss (sp (ss (sp (ss (sp S0 (.ins "Outgoing" [])) 2 (.ins "Outgoing" [("gone", .int 0)])) (.lst [])) 2 (.ins "Outgoing" [("gone", .int 0), ("stored", .ref 3)])) (.ins "Incoming" [])) 4 (.ins "Incoming" [("many", .int 0)])) (.dK [])) 4 (.ins "Incoming" [("many", .int 0), ("ahead", .ref 5)])) = S1 := ⟨_, rfl⟩
  rw [hS1] at hq
  have h1 : St 0 0 0 S1 := by
    rw [← hS1]
    refine ⟨H0.of ?_ ?_, ⟨3, [], ?_, ?_, (fun x hx => by cases hx), by simp, by decide, by decide, by decide, by decide, by decide⟩, ?_, ?_⟩
    · simp [l0, sg_sp_lt]
    · simp [l0, sg_sp_lt]
    · simp [l0, sg_sp_lt, sg_ss_at, outO]
    · simp [l0, sg_sp_lt]
    · simp [l0, sg_sp_lt, sg_ss_at, inO]
    · simp [l0, sg_sp_lt]
  clear hS1
  obtain ⟨m, o, e4, m0, m9, H2⟩ := take_spec (m := 9) h1.hand (by decide) (by decide)
  have h2 := h1.keep (Keep.ss 1 S1 o) H2
  obtain ⟨x5, S3, e5, h3⟩ := s5_ok (ns := ns) m0 (by omega) h2
  obtain ⟨g, t, y5, x8, x9, x10, S4, e9, h4⟩ := s9_ok (ns := ns) (x5 := x5) m0 (by omega) h3
  obtain ⟨l, xs, q1, q2, q3, q4, n0, n1, n2, n4, n5⟩ := h4.q
  have e10 := many_put_eq q1 q2
  have e11 := taken_eq h4.i4
  have e12 := same_eq 100 (sm_int 99 S4 m)
  have e13 := same_eq 100 (sm_int 99 S4 t)
  have i4 := h4.i4
  simp only [outO] at q1
  simp only [inO] at i4
  rw [q4] at e10
  unfold m_law_s4 m_law_s7 m_law_s8 m_law_s33 at hq
  simp (maxDischargeDepth := 12) [e4, e5, e9, e10, e11, e12, e13, q1, i4, List.lookup] at hq
  exact ⟨S4, by rw [hq', ← hq]⟩
end K09

set_option maxHeartbeats 8000000
namespace K09
open PySem PySem.Spec L2 Mp
theorem all_mk {P : Program} {w : World} {K : PySem.W.Frag} {h : Heap} {mg : Str → Option Value} {fa : Addr} (X : K.In h) (G : h.Ns mainGlobals mg) (hfa : mg "law" = some (.ref fa))
    {C_Outgoing C_Incoming E_NoNumber : Addr} {f0 f1 f2 f3 f4 f5 f6 f7 f8 f9 f10 f11 f12 f13 f14 f15 f16 f17 f18 f19 f20 f21 : Addr} {od0 an0 od1 an1 od2 an2 od3 an3 od4 an4 od5 an5 od6 an6 od7 an7 od8 an8 od9 an9 od10 an10 od11 an11 od12 an12 od13 an13 od14 an14 od15 an15 od16 an16 od17 an17 od18 an18 od19 an19 od20 an20 od21 an21 : Option Addr} {sl0 sl1 sl2 sl3 sl4 sl5 sl6 sl7 sl8 sl9 sl10 sl11 sl12 sl13 sl14 sl15 sl16 sl17 sl18 sl19 sl20 sl21 : Array (Option Value)} {oc0 kV0 dc0 pm0 cd0 ct0 oc1 kV1 dc1 pm1 cd1 ct1 oc2 kV2 dc2 pm2 cd2 ct2 oc3 kV3 dc3 pm3 cd3 ct3 oc4 kV4 dc4 pm4 cd4 ct4 oc5 kV5 dc5 pm5 cd5 ct5 oc6 kV6 dc6 pm6 cd6 ct6 oc7 kV7 dc7 pm7 cd7 ct7 oc8 kV8 dc8 pm8 cd8 ct8 oc9 kV9 dc9 pm9 cd9 ct9 oc10 kV10 dc10 pm10 cd10 ct10 oc11 kV11 dc11 pm11 cd11 ct11 oc12 kV12 dc12 pm12 cd12 ct12 oc13 kV13 dc13 pm13 cd13 ct13 oc14 kV14 dc14 pm14 cd14 ct14 oc15 kV15 dc15 pm15 cd15 ct15 oc16 kV16 dc16 pm16 cd16 ct16 oc17 kV17 dc17 pm17 cd17 ct17 oc18 kV18 dc18 pm18 cd18 ct18 oc19 kV19 dc19 pm19 cd19 ct19 oc20 kV20 dc20 pm20 cd20 ct20 oc21 kV21 dc21 pm21 cd21 ct21 : Value}
    (a_Outgoing : PySem.W.nsIn K mainGlobals "Outgoing" = some (some (.ref C_Outgoing)))
    (pg_Outgoing : PySem.W.plainGet K C_Outgoing Str.empty = true)
    (hd_Outgoing : PySem.W.hasDictIn K C_Outgoing = true)
    (po_Outgoing : PySem.W.plainOver K C_Outgoing = true)
    (sa_Outgoing : PySem.W.findIn K (.ref C_Outgoing) "__setattr__" = some (some (.builtin "object.__setattr__")))
    (mk_Outgoing : PySem.W.makesIn K C_Outgoing = true)
    (kc_Outgoing : PySem.W.keepIn K (.ref C_Outgoing) = true)
    (a_Incoming : PySem.W.nsIn K mainGlobals "Incoming" = some (some (.ref C_Incoming)))
    (pg_Incoming : PySem.W.plainGet K C_Incoming Str.empty = true)
    (hd_Incoming : PySem.W.hasDictIn K C_Incoming = true)
    (po_Incoming : PySem.W.plainOver K C_Incoming = true)
    (sa_Incoming : PySem.W.findIn K (.ref C_Incoming) "__setattr__" = some (some (.builtin "object.__setattr__")))
    (mk_Incoming : PySem.W.makesIn K C_Incoming = true)
    (kc_Incoming : PySem.W.keepIn K (.ref C_Incoming) = true)
    (n_Incoming_ahead : PySem.W.findIn K (.ref C_Incoming) "ahead" = some none)
    (n_Incoming_many : PySem.W.findIn K (.ref C_Incoming) "many" = some none)
    (n_Outgoing_gone : PySem.W.findIn K (.ref C_Outgoing) "gone" = some none)
    (n_Outgoing_stored : PySem.W.findIn K (.ref C_Outgoing) "stored" = some none)
    (a0 : PySem.W.nsIn K mainGlobals "is_integer" = some (some (.ref f0)))
    (l0 : K.lookup f0 = some ⟨oc0, od0, .func (PySem.W.fnOf "is_integer" "is_integer" (defArgs st_m_is_integer) (defBody st_m_is_integer) (defScope st_m_is_integer) .none kV0 dc0 pm0 an0 cd0 ct0), sl0⟩)
    (c0 : PySem.W.codeIn K cd0 "is_integer" = true)
    (k0 : PySem.W.keepIn K (.ref f0) = true)
    (a1 : PySem.W.nsIn K mainGlobals "is_within" = some (some (.ref f1)))
    (l1 : K.lookup f1 = some ⟨oc1, od1, .func (PySem.W.fnOf "is_within" "is_within" (defArgs st_m_is_within) (defBody st_m_is_within) (defScope st_m_is_within) .none kV1 dc1 pm1 an1 cd1 ct1), sl1⟩)
    (c1 : PySem.W.codeIn K cd1 "is_within" = true)
    (k1 : PySem.W.keepIn K (.ref f1) = true)
    (a2 : PySem.W.nsIn K mainGlobals "check_within" = some (some (.ref f2)))
    (l2 : K.lookup f2 = some ⟨oc2, od2, .func (PySem.W.fnOf "check_within" "check_within" (defArgs st_m_check_within) (defBody st_m_check_within) (defScope st_m_check_within) .none kV2 dc2 pm2 an2 cd2 ct2), sl2⟩)
    (c2 : PySem.W.codeIn K cd2 "check_within" = true)
    (k2 : PySem.W.keepIn K (.ref f2) = true)
    (a3 : PySem.W.findIn K (.ref C_Outgoing) "__init__" = some (some (.ref f3)))
    (i3 : PySem.W.isFn K (.ref f3) = true)
    (l3 : K.lookup f3 = some ⟨oc3, od3, .func (PySem.W.fnOf "__init__" "Outgoing.__init__" (defArgs st_m_Outgoing___init__) (defBody st_m_Outgoing___init__) (defScope st_m_Outgoing___init__) .none kV3 dc3 pm3 an3 cd3 ct3), sl3⟩)
    (c3 : PySem.W.codeIn K cd3 "Outgoing.__init__" = true)
    (k3 : PySem.W.keepIn K (.ref f3) = true)
    (a4 : PySem.W.findIn K (.ref C_Outgoing) "many_put" = some (some (.ref f4)))
    (i4 : PySem.W.isFn K (.ref f4) = true)
    (l4 : K.lookup f4 = some ⟨oc4, od4, .func (PySem.W.fnOf "many_put" "Outgoing.many_put" (defArgs st_m_Outgoing_many_put) (defBody st_m_Outgoing_many_put) (defScope st_m_Outgoing_many_put) .none kV4 dc4 pm4 an4 cd4 ct4), sl4⟩)
    (c4 : PySem.W.codeIn K cd4 "Outgoing.many_put" = true)
    (k4 : PySem.W.keepIn K (.ref f4) = true)
    (a5 : PySem.W.findIn K (.ref C_Outgoing) "put" = some (some (.ref f5)))
    (i5 : PySem.W.isFn K (.ref f5) = true)
    (l5 : K.lookup f5 = some ⟨oc5, od5, .func (PySem.W.fnOf "put" "Outgoing.put" (defArgs st_m_Outgoing_put) (defBody st_m_Outgoing_put) (defScope st_m_Outgoing_put) .none kV5 dc5 pm5 an5 cd5 ct5), sl5⟩)
    (c5 : PySem.W.codeIn K cd5 "Outgoing.put" = true)
    (k5 : PySem.W.keepIn K (.ref f5) = true)
    (a6 : PySem.W.findIn K (.ref C_Outgoing) "known" = some (some (.ref f6)))
    (i6 : PySem.W.isFn K (.ref f6) = true)
    (l6 : K.lookup f6 = some ⟨oc6, od6, .func (PySem.W.fnOf "known" "Outgoing.known" (defArgs st_m_Outgoing_known) (defBody st_m_Outgoing_known) (defScope st_m_Outgoing_known) .none kV6 dc6 pm6 an6 cd6 ct6), sl6⟩)
    (c6 : PySem.W.codeIn K cd6 "Outgoing.known" = true)
    (k6 : PySem.W.keepIn K (.ref f6) = true)
    (a7 : PySem.W.findIn K (.ref C_Outgoing) "state" = some (some (.ref f7)))
    (i7 : PySem.W.isFn K (.ref f7) = true)
    (l7 : K.lookup f7 = some ⟨oc7, od7, .func (PySem.W.fnOf "state" "Outgoing.state" (defArgs st_m_Outgoing_state) (defBody st_m_Outgoing_state) (defScope st_m_Outgoing_state) .none kV7 dc7 pm7 an7 cd7 ct7), sl7⟩)
    (c7 : PySem.W.codeIn K cd7 "Outgoing.state" = true)
    (k7 : PySem.W.keepIn K (.ref f7) = true)
    (a8 : PySem.W.findIn K (.ref C_Incoming) "__init__" = some (some (.ref f8)))
    (i8 : PySem.W.isFn K (.ref f8) = true)
    (l8 : K.lookup f8 = some ⟨oc8, od8, .func (PySem.W.fnOf "__init__" "Incoming.__init__" (defArgs st_m_Incoming___init__) (defBody st_m_Incoming___init__) (defScope st_m_Incoming___init__) .none kV8 dc8 pm8 an8 cd8 ct8), sl8⟩)
    (c8 : PySem.W.codeIn K cd8 "Incoming.__init__" = true)
    (k8 : PySem.W.keepIn K (.ref f8) = true)
    (a9 : PySem.W.findIn K (.ref C_Incoming) "take" = some (some (.ref f9)))
    (i9 : PySem.W.isFn K (.ref f9) = true)
    (l9 : K.lookup f9 = some ⟨oc9, od9, .func (PySem.W.fnOf "take" "Incoming.take" (defArgs st_m_Incoming_take) (defBody st_m_Incoming_take) (defScope st_m_Incoming_take) .none kV9 dc9 pm9 an9 cd9 ct9), sl9⟩)
    (c9 : PySem.W.codeIn K cd9 "Incoming.take" = true)
    (k9 : PySem.W.keepIn K (.ref f9) = true)
    (a10 : PySem.W.findIn K (.ref C_Incoming) "taken" = some (some (.ref f10)))
    (i10 : PySem.W.isFn K (.ref f10) = true)
    (l10 : K.lookup f10 = some ⟨oc10, od10, .func (PySem.W.fnOf "taken" "Incoming.taken" (defArgs st_m_Incoming_taken) (defBody st_m_Incoming_taken) (defScope st_m_Incoming_taken) .none kV10 dc10 pm10 an10 cd10 ct10), sl10⟩)
    (c10 : PySem.W.codeIn K cd10 "Incoming.taken" = true)
    (k10 : PySem.W.keepIn K (.ref f10) = true)
    (a11 : PySem.W.findIn K (.ref C_Incoming) "state" = some (some (.ref f11)))
    (i11 : PySem.W.isFn K (.ref f11) = true)
    (l11 : K.lookup f11 = some ⟨oc11, od11, .func (PySem.W.fnOf "state" "Incoming.state" (defArgs st_m_Incoming_state) (defBody st_m_Incoming_state) (defScope st_m_Incoming_state) .none kV11 dc11 pm11 an11 cd11 ct11), sl11⟩)
    (c11 : PySem.W.codeIn K cd11 "Incoming.state" = true)
    (k11 : PySem.W.keepIn K (.ref f11) = true)
    (a12 : PySem.W.nsIn K mainGlobals "_law_hand" = some (some (.ref f12)))
    (l12 : K.lookup f12 = some ⟨oc12, od12, .func (PySem.W.fnOf "_law_hand" "_law_hand" (defArgs st_m_law_hand) (defBody st_m_law_hand) (defScope st_m_law_hand) .none kV12 dc12 pm12 an12 cd12 ct12), sl12⟩)
    (c12 : PySem.W.codeIn K cd12 "_law_hand" = true)
    (k12 : PySem.W.keepIn K (.ref f12) = true)
    (a13 : PySem.W.nsIn K mainGlobals "_law_take" = some (some (.ref f13)))
    (l13 : K.lookup f13 = some ⟨oc13, od13, .func (PySem.W.fnOf "_law_take" "_law_take" (defArgs st_m_law_take) (defBody st_m_law_take) (defScope st_m_law_take) .none kV13 dc13 pm13 an13 cd13 ct13), sl13⟩)
    (c13 : PySem.W.codeIn K cd13 "_law_take" = true)
    (k13 : PySem.W.keepIn K (.ref f13) = true)
    (a14 : PySem.W.nsIn K mainGlobals "_law_pick" = some (some (.ref f14)))
    (l14 : K.lookup f14 = some ⟨oc14, od14, .func (PySem.W.fnOf "_law_pick" "_law_pick" (defArgs st_m_law_pick) (defBody st_m_law_pick) (defScope st_m_law_pick) .none kV14 dc14 pm14 an14 cd14 ct14), sl14⟩)
    (c14 : PySem.W.codeIn K cd14 "_law_pick" = true)
    (k14 : PySem.W.keepIn K (.ref f14) = true)
    (a15 : PySem.W.nsIn K mainGlobals "_law_is_integer" = some (some (.ref f15)))
    (l15 : K.lookup f15 = some ⟨oc15, od15, .func (PySem.W.fnOf "_law_is_integer" "_law_is_integer" (defArgs st_m_law_is_integer) (defBody st_m_law_is_integer) (defScope st_m_law_is_integer) .none kV15 dc15 pm15 an15 cd15 ct15), sl15⟩)
    (c15 : PySem.W.codeIn K cd15 "_law_is_integer" = true)
    (k15 : PySem.W.keepIn K (.ref f15) = true)
    (a16 : PySem.W.nsIn K mainGlobals "_law_is_within" = some (some (.ref f16)))
    (l16 : K.lookup f16 = some ⟨oc16, od16, .func (PySem.W.fnOf "_law_is_within" "_law_is_within" (defArgs st_m_law_is_within) (defBody st_m_law_is_within) (defScope st_m_law_is_within) .none kV16 dc16 pm16 an16 cd16 ct16), sl16⟩)
    (c16 : PySem.W.codeIn K cd16 "_law_is_within" = true)
    (k16 : PySem.W.keepIn K (.ref f16) = true)
    (a17 : PySem.W.nsIn K mainGlobals "_law_same" = some (some (.ref f17)))
    (l17 : K.lookup f17 = some ⟨oc17, od17, .func (PySem.W.fnOf "_law_same" "_law_same" (defArgs st_m_law_same) (defBody st_m_law_same) (defScope st_m_law_same) .none kV17 dc17 pm17 an17 cd17 ct17), sl17⟩)
    (c17 : PySem.W.codeIn K cd17 "_law_same" = true)
    (k17 : PySem.W.keepIn K (.ref f17) = true)
    (a18 : PySem.W.nsIn K mainGlobals "_law_odd" = some (some (.ref f18)))
    (l18 : K.lookup f18 = some ⟨oc18, od18, .func (PySem.W.fnOf "_law_odd" "_law_odd" (defArgs st_m_law_odd) (defBody st_m_law_odd) (defScope st_m_law_odd) .none kV18 dc18 pm18 an18 cd18 ct18), sl18⟩)
    (c18 : PySem.W.codeIn K cd18 "_law_odd" = true)
    (k18 : PySem.W.keepIn K (.ref f18) = true)
    (a19 : PySem.W.nsIn K mainGlobals "_law_known" = some (some (.ref f19)))
    (l19 : K.lookup f19 = some ⟨oc19, od19, .func (PySem.W.fnOf "_law_known" "_law_known" (defArgs st_m_law_known) (defBody st_m_law_known) (defScope st_m_law_known) .none kV19 dc19 pm19 an19 cd19 ct19), sl19⟩)
    (c19 : PySem.W.codeIn K cd19 "_law_known" = true)
    (k19 : PySem.W.keepIn K (.ref f19) = true)
    (a20 : PySem.W.nsIn K mainGlobals "_law_taken" = some (some (.ref f20)))
    (l20 : K.lookup f20 = some ⟨oc20, od20, .func (PySem.W.fnOf "_law_taken" "_law_taken" (defArgs st_m_law_taken) (defBody st_m_law_taken) (defScope st_m_law_taken) .none kV20 dc20 pm20 an20 cd20 ct20), sl20⟩)
    (c20 : PySem.W.codeIn K cd20 "_law_taken" = true)
    (k20 : PySem.W.keepIn K (.ref f20) = true)
    (a21 : PySem.W.nsIn K mainGlobals "law" = some (some (.ref f21)))
    (l21 : K.lookup f21 = some ⟨oc21, od21, .func (PySem.W.fnOf "law" "law" (defArgs st_m_law) (defBody st_m_law) (defScope st_m_law) .none kV21 dc21 pm21 an21 cd21 ct21), sl21⟩)
    (c21 : PySem.W.codeIn K cd21 "law" = true)
    (k21 : PySem.W.keepIn K (.ref f21) = true)
    (b_bool : PySem.W.nsIn K mainGlobals "bool" = some none)
    (b_int : PySem.W.nsIn K mainGlobals "int" = some none)
    (b_isinstance : PySem.W.nsIn K mainGlobals "isinstance" = some none)
    (b_len : PySem.W.nsIn K mainGlobals "len" = some none)
    (b_list : PySem.W.nsIn K mainGlobals "list" = some none)
    (b_max : PySem.W.nsIn K mainGlobals "max" = some none)
    (b_range : PySem.W.nsIn K mainGlobals "range" = some none)
    (b_sorted : PySem.W.nsIn K mainGlobals "sorted" = some none)
    (b_str : PySem.W.nsIn K mainGlobals "str" = some none)
    (b_tuple : PySem.W.nsIn K mainGlobals "tuple" = some none)
    (b_zip : PySem.W.nsIn K mainGlobals "zip" = some none)
    (v_MOST_AHEAD : PySem.W.nsIn K mainGlobals "MOST_AHEAD" = some (some (.int 1000 t_MOST_AHEAD)))
    (v_MOST_NUMBER : PySem.W.nsIn K mainGlobals "MOST_NUMBER" = some (some (.int 4294967296 t_MOST_NUMBER)))
    (a_NoNumber : PySem.W.nsIn K mainGlobals "NoNumber" = some (some (.ref E_NoNumber)))
    (x_NoNumber : PySem.W.excIn K E_NoNumber [.type "ValueError", .type "Exception", .type "BaseException", .type "object"] "ValueError.__new__" = true)
    (k_NoNumber : PySem.W.keepIn K (.ref E_NoNumber) = true)
    (s_NoNumber : PySem.W.subIn K (.ref E_NoNumber) (.type "BaseException") = some true)
    (t_NoNumber : PySem.W.typeIn K (.ref E_NoNumber) = some (.type "type"))
    (q_NoNumber : PySem.W.isClsIn K E_NoNumber = true)
    (e_NoNumber_NoNumber : PySem.W.subIn K (.ref E_NoNumber) (.ref E_NoNumber) = some true)
    : ∃ fd : FuncData, (∀ (s : Shared) (v : Value), BindsTo s fd ⟨[v], []⟩ [("_law_script", v)]) ∧ ∀ base : Heap, K.In base → base.Ns mainGlobals mg → FnOk P w K mg base (L2.CX P w) 103 fa fd ["_law_script"] (spLaw K) := by
  have e := hfa.symm.trans (PySem.W.mg_of X G a21)
  cases e
  have cls_Outgoing : Cls K C_Outgoing := ⟨pg_Outgoing, hd_Outgoing, po_Outgoing, sa_Outgoing⟩
  have cls_Incoming : Cls K C_Incoming := ⟨pg_Incoming, hd_Incoming, po_Incoming, sa_Incoming⟩
  have T : Txt K mg := {
    b_bool := PySem.W.mg_none_of X G b_bool
    b_int := PySem.W.mg_none_of X G b_int
    b_isinstance := PySem.W.mg_none_of X G b_isinstance
    b_len := PySem.W.mg_none_of X G b_len
    b_list := PySem.W.mg_none_of X G b_list
    b_max := PySem.W.mg_none_of X G b_max
    b_range := PySem.W.mg_none_of X G b_range
    b_sorted := PySem.W.mg_none_of X G b_sorted
    b_str := PySem.W.mg_none_of X G b_str
    b_tuple := PySem.W.mg_none_of X G b_tuple
    b_zip := PySem.W.mg_none_of X G b_zip
    c_MOST_AHEAD := ⟨_, PySem.W.mg_of X G v_MOST_AHEAD⟩
    c_MOST_NUMBER := ⟨_, PySem.W.mg_of X G v_MOST_NUMBER⟩
    f_Incoming_ahead := ⟨⟨C_Incoming, PySem.W.mg_of X G a_Incoming, cls_Incoming, n_Incoming_ahead⟩⟩
    f_Incoming_many := ⟨⟨C_Incoming, PySem.W.mg_of X G a_Incoming, cls_Incoming, n_Incoming_many⟩⟩
    f_Outgoing_gone := ⟨⟨C_Outgoing, PySem.W.mg_of X G a_Outgoing, cls_Outgoing, n_Outgoing_gone⟩⟩
    f_Outgoing_stored := ⟨⟨C_Outgoing, PySem.W.mg_of X G a_Outgoing, cls_Outgoing, n_Outgoing_stored⟩⟩
    e_NoNumber := ⟨⟨E_NoNumber, PySem.W.mg_of X G a_NoNumber, x_NoNumber, k_NoNumber, s_NoNumber, t_NoNumber⟩⟩
    h_NoNumber_0 := ⟨E_NoNumber, PySem.W.mg_of X G a_NoNumber, fun p hp => by
      simp only [List.mem_cons, List.not_mem_nil, or_false] at hp
      rcases hp with rfl
      · exact ⟨E_NoNumber, PySem.W.mg_of X G a_NoNumber, exm_of s_NoNumber q_NoNumber t_NoNumber e_NoNumber_NoNumber⟩⟩ }
  have F0 := fun_mk (st := st_m_is_integer) l0 c0 k0
  have B0 := F0.binds (ps := ["thing"]) fun _ _ _ _ _ _ us hl => match us, hl with | [_], _ => rfl
  have F1 := fun_mk (st := st_m_is_within) l1 c1 k1
  have B1 := F1.binds (ps := ["thing", "least", "most"]) fun _ _ _ _ _ _ us hl => match us, hl with | [_, _, _], _ => rfl
  have F2 := fun_mk (st := st_m_check_within) l2 c2 k2
  have B2 := F2.binds (ps := ["thing", "least", "most"]) fun _ _ _ _ _ _ us hl => match us, hl with | [_, _, _], _ => rfl
  have F3 := fun_mk (st := st_m_Outgoing___init__) l3 c3 k3
  have B3 := F3.binds (ps := ["self"]) fun _ _ _ _ _ _ us hl => match us, hl with | [_], _ => rfl
  have F4 := fun_mk (st := st_m_Outgoing_many_put) l4 c4 k4
  have B4 := F4.binds (ps := ["self"]) fun _ _ _ _ _ _ us hl => match us, hl with | [_], _ => rfl
  have F5 := fun_mk (st := st_m_Outgoing_put) l5 c5 k5
  have B5 := F5.binds (ps := ["self", "thing"]) fun _ _ _ _ _ _ us hl => match us, hl with | [_, _], _ => rfl
  have F6 := fun_mk (st := st_m_Outgoing_known) l6 c6 k6
  have B6 := F6.binds (ps := ["self", "number"]) fun _ _ _ _ _ _ us hl => match us, hl with | [_, _], _ => rfl
  have F7 := fun_mk (st := st_m_Outgoing_state) l7 c7 k7
  have B7 := F7.binds (ps := ["self"]) fun _ _ _ _ _ _ us hl => match us, hl with | [_], _ => rfl
  have F8 := fun_mk (st := st_m_Incoming___init__) l8 c8 k8
  have B8 := F8.binds (ps := ["self"]) fun _ _ _ _ _ _ us hl => match us, hl with | [_], _ => rfl
  have F9 := fun_mk (st := st_m_Incoming_take) l9 c9 k9
  have B9 := F9.binds (ps := ["self", "number", "thing"]) fun _ _ _ _ _ _ us hl => match us, hl with | [_, _, _], _ => rfl
  have F10 := fun_mk (st := st_m_Incoming_taken) l10 c10 k10
  have B10 := F10.binds (ps := ["self"]) fun _ _ _ _ _ _ us hl => match us, hl with | [_], _ => rfl
  have F11 := fun_mk (st := st_m_Incoming_state) l11 c11 k11
  have B11 := F11.binds (ps := ["self"]) fun _ _ _ _ _ _ us hl => match us, hl with | [_], _ => rfl
  have F12 := fun_mk (st := st_m_law_hand) l12 c12 k12
  have B12 := F12.binds (ps := ["_law_script"]) fun _ _ _ _ _ _ us hl => match us, hl with | [_], _ => rfl
  have F13 := fun_mk (st := st_m_law_take) l13 c13 k13
  have B13 := F13.binds (ps := ["_law_hand_here", "_law_many"]) fun _ _ _ _ _ _ us hl => match us, hl with | [_, _], _ => rfl
  have F14 := fun_mk (st := st_m_law_pick) l14 c14 k14
  have B14 := F14.binds (ps := ["_law_hand_here", "_law_things"]) fun _ _ _ _ _ _ us hl => match us, hl with | [_, _], _ => rfl
  have F15 := fun_mk (st := st_m_law_is_integer) l15 c15 k15
  have B15 := F15.binds (ps := ["_law_thing"]) fun _ _ _ _ _ _ us hl => match us, hl with | [_], _ => rfl
  have F16 := fun_mk (st := st_m_law_is_within) l16 c16 k16
  have B16 := F16.binds (ps := ["_law_thing", "_law_least", "_law_most"]) fun _ _ _ _ _ _ us hl => match us, hl with | [_, _, _], _ => rfl
  have F17 := fun_mk (st := st_m_law_same) l17 c17 k17
  have B17 := F17.binds (ps := ["_law_actual", "_law_due"]) fun _ _ _ _ _ _ us hl => match us, hl with | [_, _], _ => rfl
  have F18 := fun_mk (st := st_m_law_odd) l18 c18 k18
  have B18 := F18.binds (ps := ["_law_hand_here"]) fun _ _ _ _ _ _ us hl => match us, hl with | [_], _ => rfl
  have F19 := fun_mk (st := st_m_law_known) l19 c19 k19
  have B19 := F19.binds (ps := ["_law_out", "_law_number"]) fun _ _ _ _ _ _ us hl => match us, hl with | [_, _], _ => rfl
  have F20 := fun_mk (st := st_m_law_taken) l20 c20 k20
  have B20 := F20.binds (ps := ["_law_end", "_law_number"]) fun _ _ _ _ _ _ us hl => match us, hl with | [_, _], _ => rfl
  have F21 := fun_mk (st := st_m_law) l21 c21 k21
  have B21 := F21.binds (ps := ["_law_script"]) fun _ _ _ _ _ _ us hl => match us, hl with | [_], _ => rfl
  refine ⟨PySem.W.fnOf "law" "law" (defArgs st_m_law) (defBody st_m_law) (defScope st_m_law) .none kV21 dc21 pm21 an21 cd21 ct21, fun s v => .of_eq rfl, fun base _ _ => ?_⟩
  have D_m_Incoming___init__ : MakeAt P w K mg base 1 "Incoming" 0 m_Incoming___init__ := ⟨⟨_, _, _, _, rfl, PySem.W.mg_of X G a_Incoming, ⟨mk_Incoming, a8, i8, kc_Incoming⟩, B8, (ok_m_Incoming___init__ F8 T )⟩⟩
  have D_m_Incoming_state : MethAt P w K mg base 1 "Incoming" "state" 1 m_Incoming_state := ⟨⟨_, _, _, _, rfl, PySem.W.mg_of X G a_Incoming, cls_Incoming, ⟨a11, i11, k11⟩, B11, (ok_m_Incoming_state F11 T )⟩⟩
  have D_m_Incoming_taken : MethAt P w K mg base 1 "Incoming" "taken" 1 m_Incoming_taken := ⟨⟨_, _, _, _, rfl, PySem.W.mg_of X G a_Incoming, cls_Incoming, ⟨a10, i10, k10⟩, B10, (ok_m_Incoming_taken F10 T )⟩⟩
  have D_m_Outgoing___init__ : MakeAt P w K mg base 1 "Outgoing" 0 m_Outgoing___init__ := ⟨⟨_, _, _, _, rfl, PySem.W.mg_of X G a_Outgoing, ⟨mk_Outgoing, a3, i3, kc_Outgoing⟩, B3, (ok_m_Outgoing___init__ F3 T )⟩⟩
  have D_m_Outgoing_many_put : MethAt P w K mg base 1 "Outgoing" "many_put" 1 m_Outgoing_many_put := ⟨⟨_, _, _, _, rfl, PySem.W.mg_of X G a_Outgoing, cls_Outgoing, ⟨a4, i4, k4⟩, B4, (ok_m_Outgoing_many_put F4 T )⟩⟩
  have D_m_Outgoing_put : MethAt P w K mg base 2 "Outgoing" "put" 2 m_Outgoing_put := ⟨⟨_, _, _, _, rfl, PySem.W.mg_of X G a_Outgoing, cls_Outgoing, ⟨a5, i5, k5⟩, B5, (ok_m_Outgoing_put F5 T D_m_Outgoing_many_put)⟩⟩
  have D_m_Outgoing_state : MethAt P w K mg base 1 "Outgoing" "state" 1 m_Outgoing_state := ⟨⟨_, _, _, _, rfl, PySem.W.mg_of X G a_Outgoing, cls_Outgoing, ⟨a7, i7, k7⟩, B7, (ok_m_Outgoing_state F7 T )⟩⟩
  have D_m_law_hand : DefAt P w K mg base 1 "_law_hand" 1 m_law_hand := ⟨⟨_, _, _, rfl, PySem.W.mg_of X G a12, k12, B12, (ok_m_law_hand F12 T )⟩⟩
  have D_m_law_is_integer : DefAt P w K mg base 1 "_law_is_integer" 1 m_law_is_integer := ⟨⟨_, _, _, rfl, PySem.W.mg_of X G a15, k15, B15, (ok_m_law_is_integer F15 T )⟩⟩
  have D_m_law_is_within : DefAt P w K mg base 2 "_law_is_within" 3 m_law_is_within := ⟨⟨_, _, _, rfl, PySem.W.mg_of X G a16, k16, B16, (ok_m_law_is_within F16 T D_m_law_is_integer)⟩⟩
  have D_m_is_integer : DefAt P w K mg base 1 "is_integer" 1 m_is_integer := ⟨⟨_, _, _, rfl, PySem.W.mg_of X G a0, k0, B0, (ok_m_is_integer F0 T )⟩⟩
  have D_m_is_within : DefAt P w K mg base 2 "is_within" 3 m_is_within := ⟨⟨_, _, _, rfl, PySem.W.mg_of X G a1, k1, B1, (ok_m_is_within F1 T D_m_is_integer)⟩⟩
  have D_m_check_within : DefAt P w K mg base 3 "check_within" 3 m_check_within := ⟨⟨_, _, _, rfl, PySem.W.mg_of X G a2, k2, B2, (ok_m_check_within F2 T D_m_is_within)⟩⟩
  have D_m_Outgoing_known : MethAt P w K mg base 4 "Outgoing" "known" 2 m_Outgoing_known := ⟨⟨_, _, _, _, rfl, PySem.W.mg_of X G a_Outgoing, cls_Outgoing, ⟨a6, i6, k6⟩, B6, (ok_m_Outgoing_known F6 T D_m_Outgoing_many_put D_m_check_within)⟩⟩
  have D_m_law_known : DefAt P w K mg base 5 "_law_known" 2 m_law_known := ⟨⟨_, _, _, rfl, PySem.W.mg_of X G a19, k19, B19, (ok_m_law_known F19 T D_m_Outgoing_known)⟩⟩
  have D_m_law_take : DefAt P w K mg base 1 "_law_take" 2 m_law_take := ⟨⟨_, _, _, rfl, PySem.W.mg_of X G a13, k13, B13, (ok_m_law_take F13 T )⟩⟩
  have D_m_law_odd : DefAt P w K mg base 2 "_law_odd" 1 m_law_odd := ⟨⟨_, _, _, rfl, PySem.W.mg_of X G a18, k18, B18, (ok_m_law_odd F18 T D_m_law_take)⟩⟩
  have D_m_law_pick : DefAt P w K mg base 2 "_law_pick" 2 m_law_pick := ⟨⟨_, _, _, rfl, PySem.W.mg_of X G a14, k14, B14, (ok_m_law_pick F14 T D_m_law_take)⟩⟩
  have D_m_law_same : DefAt P w K mg base 102 "_law_same" 2 (m_law_same 100) := ⟨⟨_, _, _, rfl, PySem.W.mg_of X G a17, k17, B17, ((ok_m_law_same F17 T (PySem.W.mg_of X G a17) B17 D_m_law_is_integer 100).mono (by decide))⟩⟩
  have D_m_Incoming_take : MethAt P w K mg base 4 "Incoming" "take" 3 m_Incoming_take := ⟨⟨_, _, _, _, rfl, PySem.W.mg_of X G a_Incoming, cls_Incoming, ⟨a9, i9, k9⟩, B9, (ok_m_Incoming_take F9 T D_m_check_within)⟩⟩
  have D_m_law_taken : DefAt P w K mg base 5 "_law_taken" 2 m_law_taken := ⟨⟨_, _, _, rfl, PySem.W.mg_of X G a20, k20, B20, (ok_m_law_taken F20 T D_m_Incoming_take)⟩⟩
  exact fn_law (ok_m_law F21 T D_m_Incoming___init__ D_m_Incoming_state D_m_Incoming_taken D_m_Outgoing___init__ D_m_Outgoing_many_put D_m_Outgoing_put D_m_Outgoing_state D_m_law_hand D_m_law_is_within D_m_law_known D_m_law_odd D_m_law_pick D_m_law_same D_m_law_take D_m_law_taken) fun ns hl => law_ok ns
end K09
open PySem PySem.W PyProof.Rows in
set_option maxRecDepth 100000 in
set_option maxHeartbeats 0 in
theorem PySem.Challenge.cw_knownquiet_k09_refusals_of_links_holds : PySem.Challenge.rw_knownquiet_k09_refusals_of_links.Holds := by
  w_on; o_law; k_head; (case hw => w_witness2)
  k_fill
  refine Mp.walk_mp (l := PySem.Challenge.rw_knownquiet_k09_refusals_of_links) (k := 103) (x := "_law_script") rfl rfl ⟨rfl, by decide, by decide⟩ (fun w h Y => PySem.W.kIn_of Y) ?F
  case F =>
    intro w mg fa h KX G hmg
    refine' K09.all_mk KX G hmg ?a_Outgoing ?pg_Outgoing ?hd_Outgoing ?po_Outgoing ?sa_Outgoing ?mk_Outgoing ?kc_Outgoing ?a_Incoming ?pg_Incoming ?hd_Incoming ?po_Incoming ?sa_Incoming ?mk_Incoming ?kc_Incoming ?n_Incoming_ahead ?n_Incoming_many ?n_Outgoing_gone ?n_Outgoing_stored ?a0 ?l0 ?c0 ?k0 ?a1 ?l1 ?c1 ?k1 ?a2 ?l2 ?c2 ?k2 ?a3 ?i3 ?l3 ?c3 ?k3 ?a4 ?i4 ?l4 ?c4 ?k4 ?a5 ?i5 ?l5 ?c5 ?k5 ?a6 ?i6 ?l6 ?c6 ?k6 ?a7 ?i7 ?l7 ?c7 ?k7 ?a8 ?i8 ?l8 ?c8 ?k8 ?a9 ?i9 ?l9 ?c9 ?k9 ?a10 ?i10 ?l10 ?c10 ?k10 ?a11 ?i11 ?l11 ?c11 ?k11 ?a12 ?l12 ?c12 ?k12 ?a13 ?l13 ?c13 ?k13 ?a14 ?l14 ?c14 ?k14 ?a15 ?l15 ?c15 ?k15 ?a16 ?l16 ?c16 ?k16 ?a17 ?l17 ?c17 ?k17 ?a18 ?l18 ?c18 ?k18 ?a19 ?l19 ?c19 ?k19 ?a20 ?l20 ?c20 ?k20 ?a21 ?l21 ?c21 ?k21 ?b_bool ?b_int ?b_isinstance ?b_len ?b_list ?b_max ?b_range ?b_sorted ?b_str ?b_tuple ?b_zip ?v_MOST_AHEAD ?v_MOST_NUMBER ?a_NoNumber ?x_NoNumber ?k_NoNumber ?s_NoNumber ?t_NoNumber ?q_NoNumber ?e_NoNumber_NoNumber
    (case a_Outgoing => k_is)
    (case pg_Outgoing => k_is)
    (case hd_Outgoing => k_is)
    (case po_Outgoing => k_is)
    (case sa_Outgoing => k_is)
    (case mk_Outgoing => k_is)
    (case kc_Outgoing => k_is)
    (case a_Incoming => k_is)
    (case pg_Incoming => k_is)
    (case hd_Incoming => k_is)
    (case po_Incoming => k_is)
    (case sa_Incoming => k_is)
    (case mk_Incoming => k_is)
    (case kc_Incoming => k_is)
    (case n_Incoming_ahead => k_is)
    (case n_Incoming_many => k_is)
    (case n_Outgoing_gone => k_is)
    (case n_Outgoing_stored => k_is)
    (case a0 => k_is)
    (case l0 => k_is)
    (case c0 => k_is)
    (case k0 => k_is)
    (case a1 => k_is)
    (case l1 => k_is)
    (case c1 => k_is)
    (case k1 => k_is)
    (case a2 => k_is)
    (case l2 => k_is)
    (case c2 => k_is)
    (case k2 => k_is)
    (case a3 => k_is)
    (case i3 => k_is)
    (case l3 => k_is)
    (case c3 => k_is)
    (case k3 => k_is)
    (case a4 => k_is)
    (case i4 => k_is)
    (case l4 => k_is)
    (case c4 => k_is)
    (case k4 => k_is)
    (case a5 => k_is)
    (case i5 => k_is)
    (case l5 => k_is)
    (case c5 => k_is)
    (case k5 => k_is)
    (case a6 => k_is)
    (case i6 => k_is)
    (case l6 => k_is)
    (case c6 => k_is)
    (case k6 => k_is)
    (case a7 => k_is)
    (case i7 => k_is)
    (case l7 => k_is)
    (case c7 => k_is)
    (case k7 => k_is)
    (case a8 => k_is)
    (case i8 => k_is)
    (case l8 => k_is)
    (case c8 => k_is)
    (case k8 => k_is)
    (case a9 => k_is)
    (case i9 => k_is)
    (case l9 => k_is)
    (case c9 => k_is)
    (case k9 => k_is)
    (case a10 => k_is)
    (case i10 => k_is)
    (case l10 => k_is)
    (case c10 => k_is)
    (case k10 => k_is)
    (case a11 => k_is)
    (case i11 => k_is)
    (case l11 => k_is)
    (case c11 => k_is)
    (case k11 => k_is)
    (case a12 => k_is)
    (case l12 => k_is)
    (case c12 => k_is)
    (case k12 => k_is)
    (case a13 => k_is)
    (case l13 => k_is)
    (case c13 => k_is)
    (case k13 => k_is)
    (case a14 => k_is)
    (case l14 => k_is)
    (case c14 => k_is)
    (case k14 => k_is)
    (case a15 => k_is)
    (case l15 => k_is)
    (case c15 => k_is)
    (case k15 => k_is)
    (case a16 => k_is)
    (case l16 => k_is)
    (case c16 => k_is)
    (case k16 => k_is)
    (case a17 => k_is)
    (case l17 => k_is)
    (case c17 => k_is)
    (case k17 => k_is)
    (case a18 => k_is)
    (case l18 => k_is)
    (case c18 => k_is)
    (case k18 => k_is)
    (case a19 => k_is)
    (case l19 => k_is)
    (case c19 => k_is)
    (case k19 => k_is)
    (case a20 => k_is)
    (case l20 => k_is)
    (case c20 => k_is)
    (case k20 => k_is)
    (case a21 => k_is)
    (case l21 => k_is)
    (case c21 => k_is)
    (case k21 => k_is)
    (case b_bool => k_is)
    (case b_int => k_is)
    (case b_isinstance => k_is)
    (case b_len => k_is)
    (case b_list => k_is)
    (case b_max => k_is)
    (case b_range => k_is)
    (case b_sorted => k_is)
    (case b_str => k_is)
    (case b_tuple => k_is)
    (case b_zip => k_is)
    (case v_MOST_AHEAD => k_is)
    (case v_MOST_NUMBER => k_is)
    (case a_NoNumber => k_is)
    (case x_NoNumber => k_exc)
    (case k_NoNumber => k_is)
    (case s_NoNumber => k_is)
    (case t_NoNumber => k_is)
    (case q_NoNumber => k_is)
    (case e_NoNumber_NoNumber => first | rfl | k_is)
#print axioms PySem.Challenge.cw_knownquiet_k09_refusals_of_links_holds

