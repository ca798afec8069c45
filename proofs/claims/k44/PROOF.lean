import PyProof.Rows.All
import Wide.All
import OpenK.AllK
import Wide.FinOn
import HandS.ForMost
import HandS.ForExc
import HandS.TryMany
import HandS.Zip
import HandS.TupAny
import HandS.TupMul
import HandS.IsInst
import HandS.More
import HandS.Small
import HandS.Ends
import HandS.List
import HandS.Dict
import HandS.Style
import KE.GoesMore
import HandS.Text
import HandS.RaiseMore
import HandS.ExcIs
import PyProof.StrOps2
import PySem.Challenge.RW_knownquiet_k44_whole_seals_of_rows
set_option Elab.async false
set_option linter.all false
/-! Mp1: values, stores, and what each construct does, in plain Lean. -/
namespace Mp
open PySem (Str)
abbrev Key := L2.Key
/-- a dict's value at a key -/
def valL {κ α : Type} [DecidableEq κ] : List (κ × α) → κ → Option α
  | [], _ => none
  | p :: r, k => if p.1 = k then some p.2 else valL r k
/-- a value: tuples are pure; a list, dict, instance stands in the store by its number; fl: the script's own list -/
inductive Val where
  | non | bl (b : Bool) | int (i : Int) | str (x : Str) | tup (vs : List Val) | ref (i : Nat) | fl (ns : List Int)
inductive Ob where
  | lst (xs : List Val)
  | dK (kvs : List (Key × Val))
  | dT (kvs : List (List Key × Val))
  | fK (kvs : List (Key × Val))
  | fT (kvs : List (List Key × Val))
  | ins (c : Str) (fs : List (Str × Val))
abbrev Store := List Ob
structure Ex where
  cls : Str
  fs : List (Str × Val)
inductive R (α : Type) where
  | ok (a : α) (S : Store)
  | exn (e : Ex) (S : Store)
  | bad
/-- a result's type that names what simp is to leave alone -/
abbrev Dep {γ : Sort u} (_ : γ) (β : Type) : Type := β
def R.bind {α β : Type} (r : R α) (k : α → Store → R β) : Dep k (R β) := match r with
  | .ok a S => k a S
  | .exn e S => .exn e S
  | .bad => .bad
@[simp] theorem R.bind_ok {α β : Type} (a : α) (S : Store) (k : α → Store → R β) : (R.ok a S).bind k = k a S := rfl
@[simp] theorem R.bind_exn {α β : Type} (e : Ex) (S : Store) (k : α → Store → R β) : (R.exn e S : R α).bind k = .exn e S := rfl
@[simp] theorem R.bind_bad {α β : Type} (k : α → Store → R β) : (R.bad : R α).bind k = .bad := rfl
/-- a choice whose branches simp leaves alone -/
def bite {α : Type} (b : Bool) (x y : α) : Dep x (Dep y α) := match b with
  | true => x
  | false => y
@[simp] theorem bite_true {α : Type} (x y : α) : bite true x y = x := rfl
@[simp] theorem bite_false {α : Type} (x y : α) : bite false x y = y := rfl
theorem bite_pos {α : Type} {b : Bool} {x y : α} (h : b = true) : bite b x y = x := by rw [h]; rfl
theorem bite_neg {α : Type} {b : Bool} {x y : α} (h : b = false) : bite b x y = y := by rw [h]; rfl

def noExn {α : Type} (r : R α) : R α := match r with
  | .exn _ _ => .bad
  | r => r
@[simp] theorem noExn_ok {α : Type} (a : α) (S : Store) : noExn (R.ok a S) = .ok a S := rfl
@[simp] theorem noExn_bad {α : Type} : noExn (R.bad : R α) = .bad := rfl
abbrev Loc := List (Option Val)
abbrev ME := Loc → Store → R Val
abbrev MA := Loc → Store → R (List Val)
abbrev MT := Loc → Store → R Bool
abbrev Fn := List Val → Store → R Val
abbrev P1 := Val → Store → R Val
abbrev P2 := Val → Val → Store → R Val

/-! ### expressions -/
def getL (L : Loc) (i : Nat) (S : Store) : R Val := match L[i]? with
  | some (some v) => .ok v S
  | _ => .bad
@[simp] theorem getL_some {L : Loc} {i : Nat} {S : Store} {v : Val} (h : L[i]? = some (some v)) : getL L i S = .ok v S := by unfold getL; rw [h]
@[simp] theorem getL_zero {v : Val} {r : Loc} {S : Store} : getL (some v :: r) 0 S = .ok v S := rfl
@[simp] theorem getL_succ {o : Option Val} {r : Loc} {S : Store} {n : Nat} : getL (o :: r) (n + 1) S = getL r n S := rfl
def mC (v : Val) : ME := fun _ S => .ok v S
def mV (i : Nat) : ME := fun L S => getL L i S
def m1 (p : P1) (a : ME) : ME := fun L S => (a L S).bind fun x S1 => noExn (p x S1)
def m2 (p : P2) (a b : ME) : ME := fun L S => (a L S).bind fun x S1 => (b L S1).bind fun y S2 => noExn (p x y S2)
def aNil : MA := fun _ S => .ok [] S
def aCons (a : ME) (r : MA) : MA := fun L S => (a L S).bind fun x S1 => (r L S1).bind fun xs S2 => .ok (x :: xs) S2
/-- a call of a def; of a built-in -/
def mA (f : Fn) (a : MA) : ME := fun L S => (a L S).bind f
def mB (f : Fn) (a : MA) : ME := fun L S => (a L S).bind fun vs S1 => noExn (f vs S1)
def LIM : Nat := 16777216
def fTup : Fn := fun vs S => bite (decide (vs.length ≤ LIM)) (.ok (.tup vs) S) .bad
def fLst : Fn := fun vs S => bite (decide (vs.length ≤ LIM)) (.ok (.ref S.length) (S ++ [.lst vs])) .bad
def mTup (a : MA) : ME := mB fTup a
def mLst (a : MA) : ME := mB fLst a
def mDK : ME := fun _ S => .ok (.ref S.length) (S ++ [.dK []])
def mDT : ME := fun _ S => .ok (.ref S.length) (S ++ [.dT []])
def isT (v : Val) (S : Store) : R Bool := match v with
  | .bl b => .ok b S
  | _ => .bad
@[simp] theorem isT_bl (b : Bool) (S : Store) : isT (.bl b) S = .ok b S := rfl
/-- a test: a value that is True or False -/
def tV (e : ME) : MT := fun L S => (e L S).bind isT
def tAnd (a b : MT) : MT := fun L S => (a L S).bind fun c S1 => bite c (b L S1) (.ok false S1)
def tOr (a b : MT) : MT := fun L S => (a L S).bind fun c S1 => bite c (.ok true S1) (b L S1)
def tNot (a : MT) : MT := fun L S => (a L S).bind fun c S1 => .ok (!c) S1
def mIf (c : MT) (a b : ME) : ME := fun L S => (c L S).bind fun t S1 => bite t (a L S1) (b L S1)
/-- and, or, not as values; all but the last one True or False -/
def mAnd (a b : ME) : ME := fun L S => (a L S).bind fun x S1 => (isT x S1).bind fun c S2 => bite c (b L S2) (.ok (.bl false) S2)
def mOr (a b : ME) : ME := fun L S => (a L S).bind fun x S1 => (isT x S1).bind fun c S2 => bite c (.ok (.bl true) S2) (b L S2)
def mNot (a : ME) : ME := fun L S => (a L S).bind fun x S1 => (isT x S1).bind fun c S2 => .ok (.bl (!c)) S2
/-- a < b < c -/
def mChain (p q : P2) (a b c : ME) : ME := fun L S => (a L S).bind fun x S1 => (b L S1).bind fun y S2 => (noExn (p x y S2)).bind fun z S3 => (isT z S3).bind fun t S4 =>
  bite t ((c L S4).bind fun u S5 => noExn (q y u S5)) (.ok (.bl false) S4)

/-! ### instances -/
def insAt (v : Val) (S : Store) : Option (Str × List (Str × Val)) := match v with
  | .ref i => match S[i]? with
    | some (.ins c fs) => some (c, fs)
    | _ => none
  | _ => none
/-- o.f, o an instance of the class c -/
def getF (c f : Str) : P1 := fun v S => match insAt v S with
  | some (c', fs) => bite (decide (c' = c)) (match fs.lookup f with
    | some w => .ok w S
    | none => .bad) .bad
  | none => .bad
/-- fs with f set: in place, or behind -/
def setF (f : Str) (v : Val) : List (Str × Val) → List (Str × Val)
  | [] => [(f, v)]
  | p :: r => if p.1 = f then (f, v) :: r else p :: setF f v r
/-- o.m(..), o an instance of the class c -/
def mMeth (c : Str) (m : Str) (f : Fn) (o : ME) (a : MA) : ME := fun L S => (o L S).bind fun x S1 => match insAt x S1 with
  | some (c', fs) => bite (decide (c' = c) && (fs.lookup m).isNone) ((a L S1).bind fun vs S2 => f (x :: vs) S2) .bad
  | none => .bad
def isNon (x : Val) : Bool := match x with
  | .non => true
  | _ => false
/-- C(..): the new instance, then its __init__ -/
def fMake (c : Str) (f : Fn) : Fn := fun vs S => (f (.ref S.length :: vs) (S ++ [.ins c []])).bind fun r S2 => bite (isNon r) (.ok (.ref S.length) S2) .bad

/-! ### statements -/
inductive F where
  | nx (L : Loc) (S : Store)
  | rt (v : Val) (S : Store)
  | bk (L : Loc) (S : Store)
  | ct (L : Loc) (S : Store)
  | exn (e : Ex) (L : Loc) (S : Store)
  | bad
abbrev MS := Loc → Store → F
/-- behind an expression: at the locals L -/
def thenF {α : Type} (L : Loc) (r : R α) (k : α → Store → F) : Dep L (Dep k F) := match r with
  | .ok a S => k a S
  | .exn e S => .exn e L S
  | .bad => .bad
@[simp] theorem thenF_ok {α : Type} (L : Loc) (a : α) (S : Store) (k : α → Store → F) : thenF L (.ok a S) k = k a S := rfl
@[simp] theorem thenF_exn {α : Type} (L : Loc) (e : Ex) (S : Store) (k : α → Store → F) : thenF L (.exn e S) k = .exn e L S := rfl
@[simp] theorem thenF_bad {α : Type} (L : Loc) (k : α → Store → F) : thenF L .bad k = .bad := rfl
def F.andThen (r : F) (k : Loc → Store → F) : Dep k F := match r with
  | .nx L S => k L S
  | r => r
@[simp] theorem F.andThen_nx (L : Loc) (S : Store) (k : Loc → Store → F) : (F.nx L S).andThen k = k L S := rfl
@[simp] theorem F.andThen_rt (v : Val) (S : Store) (k : Loc → Store → F) : (F.rt v S).andThen k = .rt v S := rfl
@[simp] theorem F.andThen_bk (L : Loc) (S : Store) (k : Loc → Store → F) : (F.bk L S).andThen k = .bk L S := rfl
@[simp] theorem F.andThen_ct (L : Loc) (S : Store) (k : Loc → Store → F) : (F.ct L S).andThen k = .ct L S := rfl
@[simp] theorem F.andThen_exn (e : Ex) (L : Loc) (S : Store) (k : Loc → Store → F) : (F.exn e L S).andThen k = .exn e L S := rfl
@[simp] theorem F.andThen_bad (k : Loc → Store → F) : F.bad.andThen k = .bad := rfl
def sNx : MS := fun L S => .nx L S
def sSeq (a b : MS) : MS := fun L S => (a L S).andThen b
def sRet (e : ME) : MS := fun L S => thenF L (e L S) fun v S1 => .rt v S1
def sRetN : MS := fun _ S => .rt .non S
def sExpr (e : ME) : MS := fun L S => thenF L (e L S) fun _ S1 => .nx L S1
def sIf (c : MT) (a b : MS) : MS := fun L S => thenF L (c L S) fun t S1 => bite t (a L S1) (b L S1)
def sBrk : MS := fun L S => .bk L S
def sCnt : MS := fun L S => .ct L S
def sBad : MS := fun _ _ => .bad
/-- targets -/
abbrev MG := Val → Loc → Store → R Loc
def gN (i : Nat) : MG := fun v L S => .ok (L.set i (some v)) S
abbrev MGs := List Val → Loc → Store → R Loc
def gsNil : MGs := fun vs L S => match vs with
  | [] => .ok L S
  | _ => .bad
def gsCons (g : MG) (r : MGs) : MGs := fun vs L S => match vs with
  | v :: vs => (g v L S).bind fun L1 S1 => r vs L1 S1
  | [] => .bad
def gTup (g : MGs) : MG := fun v L S => match v with
  | .tup vs => g vs L S
  | _ => .bad
def gSub (o i : ME) (p : Val → Val → Val → Store → R Unit) : MG := fun v L S => (o L S).bind fun x S1 => (i L S1).bind fun y S2 => (noExn (p x y v S2)).bind fun _ S3 => .ok L S3
def sAsg (e : ME) (g : MG) : MS := fun L S => thenF L (e L S) fun v S1 => thenF L (noExn (g v L S1)) fun L1 S2 => .nx L1 S2
/-- x op= e, x the local i -/
def sAug (i : Nat) (e : ME) (p : P2) : MS := fun L S => thenF L (getL L i S) fun x S0 => thenF L (e L S0) fun y S1 => thenF L (noExn (p x y S1)) fun z S2 => .nx (L.set i (some z)) S2
/-- o.f = e -/
def putFld (c f : Str) (v : Val) (x : Val) (S : Store) : R Unit := match x with
  | .ref i => match S[i]? with
    | some (.ins c' fs) => bite (decide (c' = c) && decide (fs.length < 1000)) (.ok () (S.set i (.ins c (setF f v fs)))) .bad
    | _ => .bad
  | _ => .bad
def sFld (c f : Str) (o e : ME) : MS := fun L S => thenF L (e L S) fun v S1 => thenF L (o L S1) fun x S2 => thenF L (noExn (putFld c f v x S2)) fun _ S3 => .nx L S3
/-- o.f op= e -/
def sFldAug (c f : Str) (o e : ME) (p : P2) : MS := fun L S => thenF L (o L S) fun x S1 => thenF L (noExn (getF c f x S1)) fun y S2 => thenF L (e L S2) fun z S3 => thenF L (noExn (p y z S3)) fun u S4 =>
  thenF L (noExn (putFld c f u x S4)) fun _ S5 => .nx L S5
/-- o[i] op= e -/
def sSubAug (o i e : ME) (g : P2) (p : P2) (q : Val → Val → Val → Store → R Unit) : MS := fun L S => thenF L (o L S) fun x S1 => thenF L (i L S1) fun y S2 => thenF L (noExn (g x y S2)) fun z S3 => thenF L (e L S3) fun u S4 =>
  thenF L (noExn (p z u S4)) fun t S5 => thenF L (noExn (q x y t S5)) fun _ S6 => .nx L S6

/-! ### loops -/
/-- what a loop walks: the items, and what must stay meanwhile -/
structure It where
  items : List Val
  keep : Store → Prop
/-- a gate: what does not hold leads nowhere -/
noncomputable def gate (p : Prop) {α : Type} (x y : α) : Dep x (Dep y α) := open Classical in if p then x else y
theorem gate_pos {p : Prop} {α : Type} {x y : α} (h : p) : gate p x y = x := by unfold gate; rw [if_pos h]
theorem gate_neg {p : Prop} {α : Type} {x y : α} (h : ¬ p) : gate p x y = y := by unfold gate; rw [if_neg h]
@[simp] theorem gate_true {α : Type} {x y : α} : gate True x y = x := gate_pos trivial
abbrev MI := Loc → Store → R It
/-- a turn's end: on, or out -/
def turn (r : F) (on : Loc → Store → F) : Dep on F := match r with
  | .nx L S => on L S
  | .ct L S => on L S
  | .bk L S => .nx L S
  | r => r
@[simp] theorem turn_nx (L : Loc) (S : Store) (k : Loc → Store → F) : turn (.nx L S) k = k L S := rfl
@[simp] theorem turn_ct (L : Loc) (S : Store) (k : Loc → Store → F) : turn (.ct L S) k = k L S := rfl
@[simp] theorem turn_bk (L : Loc) (S : Store) (k : Loc → Store → F) : turn (.bk L S) k = .nx L S := rfl
@[simp] theorem turn_rt (v : Val) (S : Store) (k : Loc → Store → F) : turn (.rt v S) k = .rt v S := rfl
@[simp] theorem turn_exn (e : Ex) (L : Loc) (S : Store) (k : Loc → Store → F) : turn (.exn e L S) k = .exn e L S := rfl
@[simp] theorem turn_bad (k : Loc → Store → F) : turn .bad k = .bad := rfl
noncomputable def forLoop (keep : Store → Prop) (g : MG) (b : MS) : List Val → MS
  | [], L, S => gate (keep S) (.nx L S) .bad
  | x :: xs, L, S => gate (keep S) (turn (thenF L (noExn (g x L S)) fun L1 S1 => b L1 S1) (forLoop keep g b xs)) .bad
noncomputable def sFor (i : MI) (g : MG) (b : MS) : MS := fun L S => thenF L (i L S) fun J S1 => forLoop J.keep g b J.items L S1
/-- what is walked: a list as it stands, a tuple, the script, a text -/
def itOf (v : Val) (S : Store) : R It := match v with
  | .ref i => match S[i]? with
    | some (.lst xs) => .ok ⟨xs, fun S' => S'[i]? = some (.lst xs)⟩ S
    | _ => .bad
  | .tup vs => .ok ⟨vs, fun _ => True⟩ S
  | .fl ns => .ok ⟨ns.map Val.int, fun _ => True⟩ S
  | .str x => .ok ⟨x.cps.toList.map fun c => .str ⟨#[c]⟩, fun _ => True⟩ S
  | _ => .bad
def iV (e : ME) : MI := fun L S => (e L S).bind itOf
def rangeL (lo : Int) (n : Nat) : List Val := (List.range n).map fun i => .int (lo + (i : Nat))
def BIG : Int := 4611686018427387904
noncomputable def rngOf1 (vs : List Val) (S : Store) : R It := match vs with
  | [.int j] => gate (-BIG ≤ j ∧ j < BIG) (.ok ⟨rangeL 0 j.toNat, fun _ => True⟩ S) .bad
  | _ => .bad
noncomputable def rngOf2 (vs : List Val) (S : Store) : R It := match vs with
  | [.int i, .int j] => gate (-BIG ≤ i ∧ i < BIG ∧ -BIG ≤ j ∧ j < BIG) (.ok ⟨rangeL i (j - i).toNat, fun _ => True⟩ S) .bad
  | _ => .bad
noncomputable def iRng1 (a : MA) : MI := fun L S => (a L S).bind rngOf1
noncomputable def iRng2 (a : MA) : MI := fun L S => (a L S).bind rngOf2
/-- a list or a tuple: its items, and what must stay -/
def seqOf (v : Val) (S : Store) : Option (Bool × List Val × (Store → Prop)) := match v with
  | .ref i => match S[i]? with
    | some (.lst xs) => some (true, xs, fun S' => S'[i]? = some (.lst xs))
    | _ => none
  | .tup vs => some (false, vs, fun _ => True)
  | .fl ns => some (true, ns.map Val.int, fun _ => True)
  | _ => none
def enumL (xs : List Val) : List Val := (List.range xs.length).zipWith (fun i x => .tup [.int (i : Nat), x]) xs
def enumOf (vs : List Val) (S : Store) : R It := match vs with
  | [v] => match seqOf v S with
    | some (_, xs, k) => .ok ⟨enumL xs, k⟩ S
    | none => .bad
  | _ => .bad
def iEnum (a : MA) : MI := fun L S => (a L S).bind enumOf
def zipOf (vs : List Val) (S : Store) : R It := match vs with
  | [v, w] => match seqOf v S, seqOf w S with
    | some (b, xs, k), some (c, ys, l) => bite (b == c) (.ok ⟨List.zipWith (fun x y => .tup [x, y]) xs ys, fun S' => k S' ∧ l S'⟩ S) .bad
    | _, _ => .bad
  | _ => .bad
def iZip (a : MA) : MI := fun L S => (a L S).bind zipOf
def whileLoop (c : MT) (b : MS) : Nat → MS
  | 0, _, _ => .bad
  | n + 1, L, S => thenF L (c L S) fun t S1 => bite t (turn (b L S1) (whileLoop c b n)) (.nx L S1)
def MANY : Nat := 1000000000000
def sWhile (c : MT) (b : MS) : MS := fun L S => whileLoop c b MANY L S
/-- a comprehension: the items one by one, in a frame of its own (the names vs are its own) -/
def wipeL (L : Loc) : List Nat → Loc
  | [] => L
  | i :: r => (wipeL L r).set i none
noncomputable def lcLoop (keep : Store → Prop) (L : Loc) (g : MG) (c : MT) (e : ME) : List Val → List Val → Store → R (List Val)
  | [], acc, S => gate (keep S) (.ok acc S) .bad
  | x :: xs, acc, S => gate (keep S) ((noExn (g x L S)).bind fun L1 S1 => (noExn (c L1 S1)).bind fun t S2 =>
      bite t ((noExn (e L1 S2)).bind fun v S3 => bite (decide (acc.length < LIM)) (lcLoop keep L g c e xs (acc ++ [v]) S3) .bad) (lcLoop keep L g c e xs acc S2)) .bad
noncomputable def mLc (i : MI) (vs : List Nat) (g : MG) (c : MT) (e : ME) : ME := fun L S => (i L S).bind fun J S1 => (lcLoop J.keep (wipeL L vs) g c e J.items [] S1).bind fun ws S2 => .ok (.ref S2.length) (S2 ++ [.lst ws])
def tYes : MT := fun _ S => .ok true S

/-! ### defs, errors -/
def startL (n : Nat) (vs : List Val) : Loc := vs.map some ++ List.replicate (n - vs.length) none
def endF (r : F) : R Val := match r with
  | .nx _ S => .ok .non S
  | .rt v S => .ok v S
  | .exn e _ S => .exn e S
  | _ => .bad
@[simp] theorem endF_nx (L : Loc) (S : Store) : endF (.nx L S) = .ok .non S := rfl
@[simp] theorem endF_rt (v : Val) (S : Store) : endF (.rt v S) = .ok v S := rfl
@[simp] theorem endF_exn (e : Ex) (L : Loc) (S : Store) : endF (.exn e L S) = .exn e S := rfl
@[simp] theorem endF_bad : endF .bad = .bad := rfl
/-- a def of n names, np of them parameters -/
def fDef (n np : Nat) (b : MS) : Fn := fun vs S => bite (decide (vs.length = np)) (endF (b (startL n vs) S)) .bad
def sRaise (c : Str) (fs : List Str) (a : MA) : MS := fun L S => thenF L (a L S) fun vs S1 => .exn ⟨c, fs.zip vs⟩ L S1
/-- an except clause: the errors' classes that may come here, whether it names them; the suite -/
structure Hd where
  names : List (Str × Bool)
  suite : Ex → MS
def noExnF (r : F) : F := match r with
  | .exn _ _ _ => .bad
  | r => r
@[simp] theorem noExnF_nx (L : Loc) (S : Store) : noExnF (.nx L S) = .nx L S := rfl
@[simp] theorem noExnF_rt (v : Val) (S : Store) : noExnF (.rt v S) = .rt v S := rfl
@[simp] theorem noExnF_bad : noExnF .bad = .bad := rfl
def handle (D : List Hd) (e : Ex) (L : Loc) (S : Store) : F := match D with
  | [] => .exn e L S
  | h :: r => match h.names.lookup e.cls with
    | some b => bite b (noExnF (h.suite e L S)) (handle r e L S)
    | none => .bad
def sTry (b : MS) (D : List Hd) : MS := fun L S => match b L S with
  | .exn e L1 S1 => handle D e L1 S1
  | r => r
end Mp

/-! Mp1c: the tuples that may be the module's own (never a dict's key). -/
namespace Mp
def ownC : List Val → Bool
  | [] => true
  | [.int i] => decide (i = 0)
  | [.int i, .int j, .int k] => decide (i = 0) && decide (j = 0) && decide (k = 0)
  | [.str _, .str _, .str _] => true
  | _ => false
@[simp] theorem ownC_pair (i j : Int) : ownC [.int i, .int j] = false := by unfold ownC; rfl
end Mp

set_option maxRecDepth 100000
set_option maxHeartbeats 2000000
/-! Mp2: how values and stores lie in the layer's heap; the judgements. -/
namespace Mp
open PySem PySem.Spec L2
abbrev Rho := Nat → Addr
/-- a list that stands still: frozen, or of the written part -/
def FzL (K : PySem.W.Frag) (H : Hp) (a : Addr) (xs : List V) : Prop := (∃ o, H a = some (.frz o (.lst xs))) ∨
  ∃ (o : Obj) (its : Array Value) (n : Nat), K.lookup a = some o ∧ o.cls = .type "list" ∧ o.dict = none ∧ o.data = .seq its n ∧ its.size ≤ sizeLine ∧ Vals xs its.toList
/-- a tuple: tracked, or the module's own -/
def TupA (K : PySem.W.Frag) (H : Hp) (a : Addr) (vs : List Val) (xs : List V) : Prop := H a = some (.tup xs) ∨ (ownC vs = true ∧ SqT K H a xs)
theorem TupA.sq {K : PySem.W.Frag} {H : Hp} {a : Addr} {vs : List Val} {xs : List V} (h : TupA K H a vs xs) : SqT K H a xs := h.elim (fun h => .inl (.inl h)) (·.2)
mutual
def VR (K : PySem.W.Frag) (ρ : Rho) (n : Nat) (H : Hp) : Val → V → Prop
  | .non, u => u = .non
  | .bl b, u => u = .bl b
  | .int i, u => u = .int i
  | .str x, u => u = .str x
  | .tup vs, u => ∃ a xs, u = .ref a ∧ TupA K H a vs xs ∧ VRs K ρ n H vs xs
  | .ref i, u => i < n ∧ u = .ref (ρ i)
  | .fl ns, u => ∃ a, u = .ref a ∧ FzL K H a (ns.map V.int)
def VRs (K : PySem.W.Frag) (ρ : Rho) (n : Nat) (H : Hp) : List Val → List V → Prop
  | [], us => us = []
  | v :: vs, us => ∃ u r, us = u :: r ∧ VR K ρ n H v u ∧ VRs K ρ n H vs r
end
/-- pairs with equal firsts -/
def KR {κ : Type} (K : PySem.W.Frag) (ρ : Rho) (n : Nat) (H : Hp) (l : List (κ × Val)) (m : List (κ × V)) : Prop := l.map (·.1) = m.map (·.1) ∧ VRs K ρ n H (l.map (·.2)) (m.map (·.2))
def OR (K : PySem.W.Frag) (mg : Str → Option Value) (ρ : Rho) (n : Nat) (H : Hp) (a : Addr) : Ob → Prop
  | .lst xs => ∃ us, H a = some (.lst us) ∧ VRs K ρ n H xs us
  | .dK kvs => ∃ us, H a = some (.dK us) ∧ KR K ρ n H kvs us
  | .dT kvs => ∃ us, H a = some (.dT us) ∧ KR K ρ n H kvs us
  | .fK kvs => ∃ o us, H a = some (.frz o (.dK us)) ∧ KR K ρ n H kvs us
  | .fT kvs => ∃ o us, H a = some (.frz o (.dT us)) ∧ KR K ρ n H kvs us
  | .ins c fs => ∃ C dx us, mg c = some (.ref C) ∧ H a = some (.ins C dx us) ∧ KR K ρ n H fs us
structure SR (K : PySem.W.Frag) (mg : Str → Option Value) (ρ : Rho) (S : Store) (H : Hp) : Prop where
  ob : ∀ i o, S[i]? = some o → OR K mg ρ S.length H (ρ i) o
  inj : ∀ i j, i < S.length → j < S.length → ρ i = ρ j → i = j
structure Ext (ρ : Rho) (S : Store) (H : Hp) (ρ' : Rho) (S' : Store) (H' : Hp) : Prop where
  rho : ∀ i, i < S.length → ρ' i = ρ i
  le : S.length ≤ S'.length
  fresh : ∀ i, S.length ≤ i → i < S'.length → H (ρ' i) = none
  frame : ∀ a o, H a = some o → (∀ i, i < S.length → ρ i ≠ a) → H' a = some o
  frz : ∀ i, i < S.length → ∀ o u, H (ρ i) = some (.frz o u) → H' (ρ i) = some (.frz o u)
def LR (K : PySem.W.Frag) (ρ : Rho) (n : Nat) (H : Hp) (L : Loc) (σ : St) : Prop := L.length = σ.length ∧ ∀ (i : Nat) (v : Val), L[i]? = some (some v) → ∃ u, σ[i]? = some (some u) ∧ VR K ρ n H v u
def XR (K : PySem.W.Frag) (mg : Str → Option Value) (ρ : Rho) (n : Nat) (H : Hp) (e : Ex) (cls : Value) (d : Option Addr) : Prop :=
  (∃ C, mg e.cls = some (.ref C) ∧ cls = .ref C) ∧ (e.fs ≠ [] → ∃ dd us, d = some dd ∧ H dd = some (.xd us) ∧ KR K ρ n H e.fs us)

section
variable {K : PySem.W.Frag} {mg : Str → Option Value} {ρ ρ' ρ1 ρ2 : Rho} {S S' S1 S2 : Store} {H H' H1 H2 : Hp} {n : Nat}
/-- the kinds of objects of a store -/
def obKind : HO → Bool
  | .lst _ => true | .dK _ => true | .dT _ => true | .frz _ (.dK _) => true | .frz _ (.dT _) => true | .ins _ _ _ => true | _ => false
theorem OR.kind {a : Addr} {o : Ob} (h : OR K mg ρ n H a o) : ∃ u, H a = some u ∧ obKind u = true := by
  cases o with
  | lst xs => obtain ⟨us, e, _⟩ := h; exact ⟨_, e, rfl⟩
  | dK xs => obtain ⟨us, e, _⟩ := h; exact ⟨_, e, rfl⟩
  | dT xs => obtain ⟨us, e, _⟩ := h; exact ⟨_, e, rfl⟩
  | fK xs => obtain ⟨o, us, e, _⟩ := h; exact ⟨_, e, rfl⟩
  | fT xs => obtain ⟨o, us, e, _⟩ := h; exact ⟨_, e, rfl⟩
  | ins c fs => obtain ⟨C, dx, us, _, e, _⟩ := h; exact ⟨_, e, rfl⟩
theorem SR.kind (s : SR K mg ρ S H) {i : Nat} (hi : i < S.length) : ∃ u, H (ρ i) = some u ∧ obKind u = true := (s.ob i S[i] (by simp [hi])).kind
theorem SR.ne (s : SR K mg ρ S H) {a : Addr} {u : HO} (e : H a = some u) (k : obKind u = false) : ∀ i, i < S.length → ρ i ≠ a := fun i hi z => by
  obtain ⟨v, q, kv⟩ := s.kind hi
  rw [z, e] at q
  cases q
  rw [k] at kv; cases kv
theorem SR.ne_none (s : SR K mg ρ S H) {a : Addr} (e : H a = none) : ∀ i, i < S.length → ρ i ≠ a := fun i hi z => by
  obtain ⟨v, q, kv⟩ := s.kind hi
  rw [z, e] at q
  cases q
theorem Ext.refl (ρ : Rho) (S : Store) (H : Hp) : Ext ρ S H ρ S H := ⟨fun _ _ => rfl, Nat.le_refl _, fun i h1 h2 => absurd h2 (Nat.not_lt.mpr h1), fun _ _ h _ => h, fun _ _ _ _ h => h⟩
theorem Ext.trans (s1 : SR K mg ρ1 S1 H1) (a : Ext ρ S H ρ1 S1 H1) (b : Ext ρ1 S1 H1 ρ2 S2 H2) : Ext ρ S H ρ2 S2 H2 where
  rho := fun i hi => (b.rho i (Nat.lt_of_lt_of_le hi a.le)).trans (a.rho i hi)
  le := Nat.le_trans a.le b.le
  fresh := fun i h1 h2 => by
    by_cases hi : i < S1.length
    · rw [b.rho i hi]; exact a.fresh i h1 hi
    · have z := b.fresh i (Nat.le_of_not_lt hi) h2
      cases q : H (ρ2 i) with
      | none => rfl
      | some o =>
        by_cases hw : ∀ j, j < S.length → ρ j ≠ ρ2 i
        · rw [a.frame _ _ q hw] at z; cases z
        · exfalso
          apply hw
          intro j hj e
          have hj1 := Nat.lt_of_lt_of_le hj a.le
          obtain ⟨u, qu, _⟩ := s1.kind hj1
          rw [a.rho j hj, e, z] at qu
          cases qu
  frame := fun c o h hn => b.frame c o (a.frame c o h hn) fun i hi z => by
    by_cases h0 : i < S.length
    · exact hn i h0 ((a.rho i h0).symm.trans z)
    · have := a.fresh i (Nat.le_of_not_lt h0) hi
      rw [z, h] at this; cases this
  frz := fun i hi o u h => by
    have q := b.frz i (Nat.lt_of_lt_of_le hi a.le) o u (by rw [a.rho i hi]; exact a.frz i hi o u h)
    rw [a.rho i hi] at q
    exact q
/-- a tuple is kept -/
theorem Ext.tup (s : SR K mg ρ S H) (e : Ext ρ S H ρ' S' H') {a : Addr} {xs : List V} (h : SqT K H a xs) : SqT K H' a xs := by
  rcases h with (h | ⟨o, h⟩) | h
  · exact .inl (.inl (e.frame _ _ h (s.ne h rfl)))
  · exact .inl (.inr ⟨o, e.frame _ _ h (s.ne h rfl)⟩)
  · exact .inr h
theorem Ext.tupA (s : SR K mg ρ S H) (e : Ext ρ S H ρ' S' H') {a : Addr} {vs : List Val} {xs : List V} (h : TupA K H a vs xs) : TupA K H' a vs xs := by
  rcases h with h | ⟨c, h⟩
  · exact .inl (e.frame _ _ h (s.ne h rfl))
  · exact .inr ⟨c, e.tup s h⟩
theorem Ext.fz (s : SR K mg ρ S H) (e : Ext ρ S H ρ' S' H') {a : Addr} {xs : List V} (h : FzL K H a xs) : FzL K H' a xs := by
  rcases h with ⟨o, h⟩ | h
  · exact .inl ⟨o, e.frame _ _ h (s.ne h rfl)⟩
  · exact .inr h
theorem FzL.seq {a : Addr} {xs : List V} (h : FzL K H a xs) : SqL K H a xs := by
  rcases h with ⟨o, h⟩ | h
  · exact .inl (.inr ⟨o, h⟩)
  · exact .inr h
mutual
theorem VR.ext (s : SR K mg ρ S H) (e : Ext ρ S H ρ' S' H') : ∀ (v : Val) (u : V), VR K ρ S.length H v u → VR K ρ' S'.length H' v u
  | .non, u, h => by simpa [VR] using h
  | .bl b, u, h => by simpa [VR] using h
  | .int b, u, h => by simpa [VR] using h
  | .str b, u, h => by simpa [VR] using h
  | .tup vs, u, h => by
    simp only [VR] at h ⊢
    obtain ⟨a, xs, e1, q, r⟩ := h
    exact ⟨a, xs, e1, e.tupA s q, VRs.ext s e vs xs r⟩
  | .ref i, u, h => by
    simp only [VR] at h ⊢
    exact ⟨Nat.lt_of_lt_of_le h.1 e.le, by rw [e.rho i h.1]; exact h.2⟩
  | .fl ns, u, h => by
    simp only [VR] at h ⊢
    obtain ⟨a, e1, q⟩ := h
    exact ⟨a, e1, e.fz s q⟩
theorem VRs.ext (s : SR K mg ρ S H) (e : Ext ρ S H ρ' S' H') : ∀ (vs : List Val) (us : List V), VRs K ρ S.length H vs us → VRs K ρ' S'.length H' vs us
  | [], us, h => by simpa [VRs] using h
  | v :: vs, us, h => by
    simp only [VRs] at h ⊢
    obtain ⟨u, r, e1, h1, h2⟩ := h
    exact ⟨u, r, e1, VR.ext s e v u h1, VRs.ext s e vs r h2⟩
end
theorem KR.ext {κ : Type} (s : SR K mg ρ S H) (e : Ext ρ S H ρ' S' H') {l : List (κ × Val)} {m : List (κ × V)} (h : KR K ρ S.length H l m) : KR K ρ' S'.length H' l m := ⟨h.1, VRs.ext s e _ _ h.2⟩
theorem LR.ext (s : SR K mg ρ S H) (e : Ext ρ S H ρ' S' H') {L : Loc} {σ : St} (h : LR K ρ S.length H L σ) : LR K ρ' S'.length H' L σ :=
  ⟨h.1, fun i v q => by obtain ⟨u, q1, q2⟩ := h.2 i v q; exact ⟨u, q1, VR.ext s e v u q2⟩⟩
theorem VRs.length : ∀ {vs : List Val} {us : List V}, VRs K ρ n H vs us → vs.length = us.length
  | [], us, h => by simp only [VRs] at h; rw [h]; rfl
  | v :: vs, us, h => by
    simp only [VRs] at h
    obtain ⟨u, r, rfl, _, h2⟩ := h
    simp [VRs.length h2]
theorem VRs.get : ∀ {vs : List Val} {us : List V} {i : Nat} {v : Val}, VRs K ρ n H vs us → vs[i]? = some v → ∃ u, us[i]? = some u ∧ VR K ρ n H v u
  | [], us, i, v, h, e => by simp at e
  | w :: vs, us, i, v, h, e => by
    simp only [VRs] at h
    obtain ⟨u, r, rfl, h1, h2⟩ := h
    cases i with
    | zero => simp at e; subst e; exact ⟨u, by simp, h1⟩
    | succ j => 
      obtain ⟨u', q1, q2⟩ := VRs.get h2 (by simpa using e)
      exact ⟨u', by simpa using q1, q2⟩
theorem VRs.append : ∀ {vs ws : List Val} {us xs : List V}, VRs K ρ n H vs us → VRs K ρ n H ws xs → VRs K ρ n H (vs ++ ws) (us ++ xs)
  | [], ws, us, xs, h, h' => by simp only [VRs] at h; subst h; simpa using h'
  | v :: vs, ws, us, xs, h, h' => by
    simp only [VRs] at h
    obtain ⟨u, r, rfl, h1, h2⟩ := h
    show VRs K ρ n H (v :: (vs ++ ws)) (u :: (r ++ xs))
    simp only [VRs]
    exact ⟨u, _, rfl, h1, VRs.append h2 h'⟩
theorem VRs.set : ∀ {vs : List Val} {us : List V} {v : Val} {u : V} (i : Nat), VR K ρ n H v u → VRs K ρ n H vs us → VRs K ρ n H (vs.set i v) (us.set i u)
  | [], us, v, u, i, hv, h => by simp only [VRs] at h; subst h; simp [VRs]
  | w :: vs, us, v, u, i, hv, h => by
    simp only [VRs] at h
    obtain ⟨u0, r, rfl, h1, h2⟩ := h
    cases i with
    | zero => simp only [List.set_cons_zero, VRs]; exact ⟨_, _, rfl, hv, h2⟩
    | succ j => simp only [List.set_cons_succ, VRs]; exact ⟨_, _, rfl, h1, VRs.set j hv h2⟩
theorem VRs.take : ∀ {vs : List Val} {us : List V} (k : Nat), VRs K ρ n H vs us → VRs K ρ n H (vs.take k) (us.take k)
  | _, _, 0, h => by simp [VRs]
  | [], us, k + 1, h => by simp only [VRs] at h; subst h; simp [VRs]
  | v :: vs, us, k + 1, h => by
    simp only [VRs] at h
    obtain ⟨u, r, rfl, h1, h2⟩ := h
    simp only [List.take_succ_cons, VRs]
    exact ⟨_, _, rfl, h1, VRs.take k h2⟩
theorem VRs.drop : ∀ {vs : List Val} {us : List V} (k : Nat), VRs K ρ n H vs us → VRs K ρ n H (vs.drop k) (us.drop k)
  | _, _, 0, h => by simpa using h
  | [], us, k + 1, h => by simp only [VRs] at h; subst h; simp [VRs]
  | v :: vs, us, k + 1, h => by
    simp only [VRs] at h
    obtain ⟨u, r, rfl, h1, h2⟩ := h
    simpa using VRs.drop k h2
theorem VRs.eraseIdx : ∀ {vs : List Val} {us : List V} (k : Nat), VRs K ρ n H vs us → VRs K ρ n H (vs.eraseIdx k) (us.eraseIdx k)
  | [], us, k, h => by simp only [VRs] at h; subst h; simp [VRs]
  | v :: vs, us, 0, h => by
    simp only [VRs] at h
    obtain ⟨u, r, rfl, h1, h2⟩ := h
    simpa using h2
  | v :: vs, us, k + 1, h => by
    simp only [VRs] at h
    obtain ⟨u, r, rfl, h1, h2⟩ := h
    simp only [List.eraseIdx_cons_succ, VRs]
    exact ⟨_, _, rfl, h1, VRs.eraseIdx k h2⟩
theorem VRs.rep {vs : List Val} {us : List V} (h : VRs K ρ n H vs us) : ∀ k : Nat, VRs K ρ n H (List.replicate k vs).flatten (List.replicate k us).flatten
  | 0 => by simp [VRs]
  | k + 1 => by
    rw [List.replicate_succ, List.replicate_succ, List.flatten_cons, List.flatten_cons]
    exact h.append (VRs.rep h k)
theorem VRs.ints : ∀ {ns : List Int} {us : List V}, VRs K ρ n H (ns.map Val.int) us → us = ns.map V.int
  | [], us, h => by simpa [VRs] using h
  | i :: ns, us, h => by
    simp only [List.map_cons, VRs, VR] at h
    obtain ⟨u, r, rfl, rfl, h2⟩ := h
    rw [VRs.ints h2]; rfl
theorem VRs.of_ints : ∀ (ns : List Int), VRs K ρ n H (ns.map Val.int) (ns.map V.int)
  | [] => by simp [VRs]
  | i :: ns => by simp only [List.map_cons, VRs, VR]; exact ⟨_, _, rfl, rfl, VRs.of_ints ns⟩
theorem VRs.bls : ∀ {ns : List Bool} {us : List V}, VRs K ρ n H (ns.map Val.bl) us → us = ns.map V.bl
  | [], us, h => by simpa [VRs] using h
  | i :: ns, us, h => by
    simp only [List.map_cons, VRs, VR] at h
    obtain ⟨u, r, rfl, rfl, h2⟩ := h
    rw [VRs.bls h2]; rfl
theorem VRs.nil : VRs K ρ n H [] [] := by simp [VRs]
theorem VRs.cons {v : Val} {u : V} {vs : List Val} {us : List V} (h : VR K ρ n H v u) (hs : VRs K ρ n H vs us) : VRs K ρ n H (v :: vs) (u :: us) := by simp only [VRs]; exact ⟨_, _, rfl, h, hs⟩
theorem VRs.nil_of {us : List V} (h : VRs K ρ n H [] us) : us = [] := by simpa [VRs] using h
theorem VRs.cons_of {v : Val} {vs : List Val} {us : List V} (h : VRs K ρ n H (v :: vs) us) : ∃ u r, us = u :: r ∧ VR K ρ n H v u ∧ VRs K ρ n H vs r := by simpa only [VRs] using h
theorem VRs.one {v : Val} {us : List V} (h : VRs K ρ n H [v] us) : ∃ u, us = [u] ∧ VR K ρ n H v u := by
  obtain ⟨u, r, rfl, h1, h2⟩ := h.cons_of
  rw [h2.nil_of]; exact ⟨u, rfl, h1⟩
theorem VRs.two {v w : Val} {us : List V} (h : VRs K ρ n H [v, w] us) : ∃ u x, us = [u, x] ∧ VR K ρ n H v u ∧ VR K ρ n H w x := by
  obtain ⟨u, r, rfl, h1, h2⟩ := h.cons_of
  obtain ⟨x, rfl, h3⟩ := h2.one
  exact ⟨u, x, rfl, h1, h3⟩

/-- a new tuple, or another thing that no store holds -/
theorem Ext.side {p : Addr} {o : HO} (hp : H p = none) : Ext ρ S H ρ S (upd H p o) :=
  ⟨fun _ _ => rfl, Nat.le_refl _, fun i h1 h2 => absurd h2 (Nat.not_lt.mpr h1), fun a u h _ => by rw [upd_ne (ne_of_none h hp)]; exact h, fun i _ o u h => by rw [upd_ne (ne_of_none h hp)]; exact h⟩
theorem SR.of_same (s : SR K mg ρ S H) (e : Ext ρ S H ρ S H') (h : ∀ i, i < S.length → H' (ρ i) = H (ρ i)) : SR K mg ρ S H' where
  ob := fun i o q => by
    have hi : i < S.length := (List.getElem?_eq_some_iff.mp q).1
    have z := s.ob i o q
    cases o with
    | lst xs => obtain ⟨us, a, b⟩ := z; exact ⟨us, by rw [h i hi]; exact a, VRs.ext s e _ _ b⟩
    | dK xs => obtain ⟨us, a, b⟩ := z; exact ⟨us, by rw [h i hi]; exact a, KR.ext s e b⟩
    | dT xs => obtain ⟨us, a, b⟩ := z; exact ⟨us, by rw [h i hi]; exact a, KR.ext s e b⟩
    | fK xs => obtain ⟨o', us, a, b⟩ := z; exact ⟨o', us, by rw [h i hi]; exact a, KR.ext s e b⟩
    | fT xs => obtain ⟨o', us, a, b⟩ := z; exact ⟨o', us, by rw [h i hi]; exact a, KR.ext s e b⟩
    | ins c fs => obtain ⟨C, dx, us, m, a, b⟩ := z; exact ⟨C, dx, us, m, by rw [h i hi]; exact a, KR.ext s e b⟩
  inj := s.inj
theorem SR.side (s : SR K mg ρ S H) {p : Addr} {o : HO} (hp : H p = none) : SR K mg ρ S (upd H p o) :=
  s.of_same (Ext.side hp) fun i hi => upd_ne (s.ne_none hp i hi)
/-- a new object of the store -/
def newRho (ρ : Rho) (n : Nat) (p : Addr) : Rho := fun i => if i = n then p else ρ i
theorem newRho_same {p : Addr} : newRho ρ n p n = p := by unfold newRho; rw [if_pos rfl]
theorem newRho_ne {p : Addr} {i : Nat} (h : i ≠ n) : newRho ρ n p i = ρ i := by unfold newRho; rw [if_neg h]
theorem Ext.new {p : Addr} {o : HO} {b : Ob} (hp : H p = none) : Ext ρ S H (newRho ρ S.length p) (S ++ [b]) (upd H p o) where
  rho := fun i hi => newRho_ne (Nat.ne_of_lt hi)
  le := by simp
  fresh := fun i h1 h2 => by
    have : i = S.length := by simp at h2; omega
    subst this
    rw [newRho_same]; exact hp
  frame := fun a u h _ => by rw [upd_ne (ne_of_none h hp)]; exact h
  frz := fun i _ o u h => by rw [upd_ne (ne_of_none h hp)]; exact h
/-- the store one longer, the heap larger elsewhere too (H2 ⊇ H) -/
theorem SR.grow {p : Addr} {b : Ob} (s : SR K mg ρ S H) (hp : ∀ i, i < S.length → ρ i ≠ p) (e : Ext ρ S H (newRho ρ S.length p) (S ++ [b]) H') (h : ∀ i, i < S.length → H' (ρ i) = H (ρ i))
    (new : OR K mg (newRho ρ S.length p) (S ++ [b]).length H' p b) : SR K mg (newRho ρ S.length p) (S ++ [b]) H' where
  ob := fun i o q => by
    by_cases hi : i < S.length
    · rw [List.getElem?_append_left hi] at q
      have z := s.ob i o q
      rw [newRho_ne (Nat.ne_of_lt hi)]
      cases o with
      | lst xs => obtain ⟨us, a, c⟩ := z; exact ⟨us, by rw [h i hi]; exact a, VRs.ext s e _ _ c⟩
      | dK xs => obtain ⟨us, a, c⟩ := z; exact ⟨us, by rw [h i hi]; exact a, KR.ext s e c⟩
      | dT xs => obtain ⟨us, a, c⟩ := z; exact ⟨us, by rw [h i hi]; exact a, KR.ext s e c⟩
      | fK xs => obtain ⟨o', us, a, c⟩ := z; exact ⟨o', us, by rw [h i hi]; exact a, KR.ext s e c⟩
      | fT xs => obtain ⟨o', us, a, c⟩ := z; exact ⟨o', us, by rw [h i hi]; exact a, KR.ext s e c⟩
      | ins c0 fs => obtain ⟨C, dx, us, m, a, c⟩ := z; exact ⟨C, dx, us, m, by rw [h i hi]; exact a, KR.ext s e c⟩
    · have hl : i < (S ++ [b]).length := (List.getElem?_eq_some_iff.mp q).1
      have : i = S.length := by simp at hl; omega
      subst this
      rw [newRho_same]
      simp at q
      subst q
      exact new
  inj := fun i j hi hj z => by
    simp at hi hj
    by_cases h1 : i = S.length
    · by_cases h2 : j = S.length
      · rw [h1, h2]
      · rw [h1, newRho_same, newRho_ne h2] at z
        exact absurd z.symm (hp j (by omega))
    · by_cases h2 : j = S.length
      · rw [h2, newRho_same, newRho_ne h1] at z
        exact absurd z (hp i (by omega))
      · rw [newRho_ne h1, newRho_ne h2] at z
        exact s.inj i j (by omega) (by omega) z
theorem SR.new {p : Addr} {o : HO} {b : Ob} (s : SR K mg ρ S H) (hp : H p = none) (new : OR K mg (newRho ρ S.length p) (S ++ [b]).length (upd H p o) p b) : SR K mg (newRho ρ S.length p) (S ++ [b]) (upd H p o) :=
  s.grow (s.ne_none hp) (Ext.new hp) (fun i hi => upd_ne (s.ne_none hp i hi)) new
/-- an object of the store is another one now -/
theorem Ext.put {i : Nat} {o : HO} {b : Ob} (hi : i < S.length) (hf : ∀ o' u', H (ρ i) ≠ some (.frz o' u') := by intro _ _ z; simp_all) : Ext ρ S H ρ (S.set i b) (upd H (ρ i) o) where
  rho := fun _ _ => rfl
  le := by simp
  fresh := fun j h1 h2 => by simp at h2; omega
  frame := fun a u h hn => by rw [upd_ne (Ne.symm (hn i hi))]; exact h
  frz := fun j _ o' u h => by rw [upd_ne (fun z => by rw [z] at h; exact hf _ _ h)]; exact h
theorem SR.put {i : Nat} {o : HO} {b : Ob} (s : SR K mg ρ S H) (hi : i < S.length) (new : OR K mg ρ S.length (upd H (ρ i) o) (ρ i) b) (hf : ∀ o' u', H (ρ i) ≠ some (.frz o' u') := by intro _ _ z; simp_all) : SR K mg ρ (S.set i b) (upd H (ρ i) o) where
  ob := fun j u q => by
    have e : Ext ρ S H ρ (S.set i b) (upd H (ρ i) o) := Ext.put hi hf
    have hl : (S.set i b).length = S.length := by simp
    by_cases hj : j = i
    · subst hj
      rw [hl]
      have : u = b := by
        rw [List.getElem?_set_self hi] at q
        exact (Option.some.inj q).symm
      subst this
      exact new
    · rw [List.getElem?_set_ne (Ne.symm hj)] at q
      have hjl : j < S.length := (List.getElem?_eq_some_iff.mp q).1
      have z := s.ob j u q
      have hh : upd H (ρ i) o (ρ j) = H (ρ j) := upd_ne fun z => hj (s.inj j i hjl hi z)
      cases u with
      | lst xs => obtain ⟨us, a, c⟩ := z; exact ⟨us, by rw [hh]; exact a, VRs.ext s e _ _ c⟩
      | dK xs => obtain ⟨us, a, c⟩ := z; exact ⟨us, by rw [hh]; exact a, KR.ext s e c⟩
      | dT xs => obtain ⟨us, a, c⟩ := z; exact ⟨us, by rw [hh]; exact a, KR.ext s e c⟩
      | fK xs => obtain ⟨o', us, a, c⟩ := z; exact ⟨o', us, by rw [hh]; exact a, KR.ext s e c⟩
      | fT xs => obtain ⟨o', us, a, c⟩ := z; exact ⟨o', us, by rw [hh]; exact a, KR.ext s e c⟩
      | ins c0 fs => obtain ⟨C, dx, us, m, a, c⟩ := z; exact ⟨C, dx, us, m, by rw [hh]; exact a, KR.ext s e c⟩
  inj := fun a c ha hc => by
    simp at ha hc
    exact s.inj a c ha hc
end

/-! ### what is wanted of an end -/
abbrev Rel (α β : Type) := Rho → Store → Hp → α → β → Prop
def Post {α β : Type} (K : PySem.W.Frag) (mg : Str → Option Value) (rel : Rel α β) (W : WX) (ρ : Rho) (S : Store) (H : Hp) (σ : St) (r : R α) (Q : β → Hp → Prop) : Prop := match r with
  | .ok a S' => ∀ ρ' H' u, Ext ρ S H ρ' S' H' → SR K mg ρ' S' H' → rel ρ' S' H' a u → Q u H'
  | .exn e S' => ∀ ρ' H' cls d, Ext ρ S H ρ' S' H' → SR K mg ρ' S' H' → XR K mg ρ' S'.length H' e cls d → W cls d σ H'
  | .bad => False
def relV (K : PySem.W.Frag) : Rel Val V := fun ρ S H a u => VR K ρ S.length H a u
def relVs (K : PySem.W.Frag) : Rel (List Val) (List V) := fun ρ S H a u => VRs K ρ S.length H a u
def relB : Rel Bool Bool := fun _ _ _ a b => b = a
def relL (K : PySem.W.Frag) : Rel Loc St := fun ρ S H a u => LR K ρ S.length H a u
section
variable {K : PySem.W.Frag} {mg : Str → Option Value} {ρ ρ1 : Rho} {S S1 : Store} {H H1 : Hp} {σ : St} {W : WX} {α β γ δ : Type} {rel : Rel α β} {rel1 : Rel γ δ}
theorem Post.mono {r : R α} {Q Q' : β → Hp → Prop} (h : Post K mg rel W ρ S H σ r Q) (hq : ∀ u H', Q u H' → Q' u H') : Post K mg rel W ρ S H σ r Q' := by
  cases r with
  | ok a S' => exact fun ρ' H' u e s v => hq _ _ (h ρ' H' u e s v)
  | exn e S' => exact h
  | bad => exact h
theorem Post.step {r : R α} {Q : β → Hp → Prop} (s1 : SR K mg ρ1 S1 H1) (e : Ext ρ S H ρ1 S1 H1) (h : Post K mg rel W ρ S H σ r Q) : Post K mg rel W ρ1 S1 H1 σ r Q := by
  cases r with
  | ok a S' => exact fun ρ' H' u e' s v => h ρ' H' u (Ext.trans s1 e e') s v
  | exn x S' => exact fun ρ' H' c d e' s v => h ρ' H' c d (Ext.trans s1 e e') s v
  | bad => exact h
/-- behind the first part -/
theorem Post.bind {r : R γ} {k : γ → Store → R α} {Q : β → Hp → Prop} (h : Post K mg rel W ρ S H σ (r.bind k) Q) :
    Post K mg rel1 W ρ S H σ r fun u H1 => ∃ ρ1 S1 a, r = .ok a S1 ∧ Ext ρ S H ρ1 S1 H1 ∧ SR K mg ρ1 S1 H1 ∧ rel1 ρ1 S1 H1 a u ∧ Post K mg rel W ρ1 S1 H1 σ (k a S1) Q := by
  cases r with
  | ok a S1 => exact fun ρ1 H1 u e s v => ⟨ρ1, S1, a, rfl, e, s, v, Post.step s e h⟩
  | exn x S' => exact h
  | bad => exact h
/-- no exception: the wish does not matter -/
theorem Post.noExn {r : R α} {Q : β → Hp → Prop} (h : Post K mg rel W ρ S H σ (noExn r) Q) (W' : WX) : Post K mg rel W' ρ S H σ r Q := by
  cases r with
  | ok a S' => exact h
  | exn x S' => exact False.elim h
  | bad => exact h
end
/-! ### the judgements -/
def TEm (K : PySem.W.Frag) (mg : Str → Option Value) (W : WX) (m : ME) : TE := fun σ H Q => ∃ ρ S L, SR K mg ρ S H ∧ LR K ρ S.length H L σ ∧ Post K mg (relV K) W ρ S H σ (m L S) Q
def TAm (K : PySem.W.Frag) (mg : Str → Option Value) (W : WX) (m : MA) : TA := fun σ H Q => ∃ ρ S L, SR K mg ρ S H ∧ LR K ρ S.length H L σ ∧ Post K mg (relVs K) W ρ S H σ (m L S) Q
def TTm (K : PySem.W.Frag) (mg : Str → Option Value) (W : WX) (m : MT) : TT := fun σ H Q => ∃ ρ S L, SR K mg ρ S H ∧ LR K ρ S.length H L σ ∧ Post K mg relB W ρ S H σ (m L S) Q
def W0 : WX := fun _ _ _ _ => False
/-- what a target may do to the slots -/
structure Step where
  is : L2.St → L2.St → Prop
  refl : ∀ a, is a a
  trans : ∀ a b c, is a b → is b c → is a c
def anyStep : Step := ⟨fun _ _ => True, fun _ => trivial, fun _ _ _ _ _ => trivial⟩
def wipeStep (vs : List Nat) : Step := ⟨fun a b => L2.wipe b vs = L2.wipe a vs, fun _ => rfl, fun _ _ _ h h' => h'.trans h⟩
def relLP (K : PySem.W.Frag) (P : Step) (σ : L2.St) : Rel Loc L2.St := fun ρ S H a u => LR K ρ S.length H a u ∧ P.is σ u
def TGm (K : PySem.W.Frag) (mg : Str → Option Value) (P : Step) (g : MG) : TG := fun v σ H Q => ∃ ρ S L x, SR K mg ρ S H ∧ LR K ρ S.length H L σ ∧ VR K ρ S.length H x v ∧ Post K mg (relLP K P σ) W0 ρ S H σ (g x L S) Q
def TGsm (K : PySem.W.Frag) (mg : Str → Option Value) (P : Step) (g : MGs) : TGs := fun v σ H Q => ∃ ρ S L x, SR K mg ρ S H ∧ LR K ρ S.length H L σ ∧ VRs K ρ S.length H x v ∧ Post K mg (relLP K P σ) W0 ρ S H σ (g x L S) Q
def PostF (K : PySem.W.Frag) (mg : Str → Option Value) (W : WX) (ρ : Rho) (S : Store) (H : Hp) (r : F) (D : Ends) : Prop := match r with
  | .nx L S' => ∀ ρ' H' σ', Ext ρ S H ρ' S' H' → SR K mg ρ' S' H' → LR K ρ' S'.length H' L σ' → D.nx σ' H'
  | .bk L S' => ∀ ρ' H' σ', Ext ρ S H ρ' S' H' → SR K mg ρ' S' H' → LR K ρ' S'.length H' L σ' → D.bk σ' H'
  | .ct L S' => ∀ ρ' H' σ', Ext ρ S H ρ' S' H' → SR K mg ρ' S' H' → LR K ρ' S'.length H' L σ' → D.ct σ' H'
  | .rt v S' => ∀ ρ' H' u, Ext ρ S H ρ' S' H' → SR K mg ρ' S' H' → VR K ρ' S'.length H' v u → D.rt u H'
  | .exn e L S' => ∀ ρ' H' σ' cls d, Ext ρ S H ρ' S' H' → SR K mg ρ' S' H' → LR K ρ' S'.length H' L σ' → XR K mg ρ' S'.length H' e cls d → W cls d σ' H'
  | .bad => False
def TSm (K : PySem.W.Frag) (mg : Str → Option Value) (W : WX) (m : MS) : TS := fun D σ H => ∃ ρ S L, SR K mg ρ S H ∧ LR K ρ S.length H L σ ∧ PostF K mg W ρ S H (m L S) D
abbrev PEm (X : Cx) (W : WX) (e : Expr) (m : ME) : Prop := PE X e (TEm X.K X.mg W m)
abbrev PAm (X : Cx) (W : WX) (e : List Expr) (m : MA) : Prop := PA X e (TAm X.K X.mg W m)
abbrev PTm (X : Cx) (W : WX) (e : Expr) (m : MT) : Prop := PT X e (TTm X.K X.mg W m)
abbrev PWm (X : Cx) (W : WX) (e : Expr) (m : MT) : Prop := PW X e (TTm X.K X.mg W m)
abbrev PSm (X : Cx) (W : WX) (e : Stmt) (m : MS) : Prop := PS X e (TSm X.K X.mg W m)
abbrev PSsm (X : Cx) (W : WX) (e : List Stmt) (m : MS) : Prop := PSs X e (TSm X.K X.mg W m)
abbrev PGm (X : Cx) (P : Step) (e : Expr) (m : MG) : Prop := PG X e (TGm X.K X.mg P m)
abbrev PGsm (X : Cx) (P : Step) (e : List Expr) (m : MGs) : Prop := PGs X e (TGsm X.K X.mg P m)
section
variable {X : Cx} {W : WX}
theorem PE.imp {e : Expr} {t t' : TE} (h : PE X e t) (i : ∀ σ H Q, t' σ H Q → t σ H Q) : PE X e t' := ⟨fun pins s σ H Q I q => h.run pins s σ H Q I (i σ H Q q)⟩
theorem PA.imp {e : List Expr} {t t' : TA} (h : PA X e t) (i : ∀ σ H Q, t' σ H Q → t σ H Q) : PA X e t' := ⟨fun pos pins s σ H Q I q => h.run pos pins s σ H Q I (i σ H Q q)⟩
theorem PT.imp {e : Expr} {t t' : TT} (h : PT X e t) (i : ∀ σ H Q, t' σ H Q → t σ H Q) : PT X e t' := ⟨fun pins s σ H Q I q => h.run pins s σ H Q I (i σ H Q q)⟩
theorem PW.imp {e : Expr} {t t' : TT} (h : PW X e t) (i : ∀ σ H Q, t' σ H Q → t σ H Q) : PW X e t' := ⟨fun w pins s σ H Q I q => h.run w pins s σ H Q I (i σ H Q q)⟩
theorem PS.imp {e : Stmt} {t t' : TS} (h : PS X e t) (i : ∀ D σ H, t' D σ H → t D σ H) : PS X e t' := ⟨fun pins s σ H D I q => h.run pins s σ H D I (i D σ H q)⟩
theorem PSs.imp {e : List Stmt} {t t' : TS} (h : PSs X e t) (i : ∀ D σ H, t' D σ H → t D σ H) : PSs X e t' := ⟨fun pins s σ H D I q => h.run pins s σ H D I (i D σ H q)⟩
theorem PG.imp {e : Expr} {t t' : TG} (h : PG X e t) (i : ∀ v σ H Q, t' v σ H Q → t v σ H Q) : PG X e t' := ⟨fun pins s σ H v u Q I r q => h.run pins s σ H v u Q I r (i v σ H Q q)⟩
theorem PGs.imp {e : List Expr} {t t' : TGs} (h : PGs X e t) (i : ∀ v σ H Q, t' v σ H Q → t v σ H Q) : PGs X e t' := ⟨fun pins s σ H v u Q I r q => h.run pins s σ H v u Q I r (i v σ H Q q)⟩
end
end Mp

/-! Mp3: expressions, tests, statements, targets: each combinator is right. -/
namespace Mp
open PySem PySem.Spec L2
section
variable {K : PySem.W.Frag} {mg : Str → Option Value} {W : WX}
theorem TEm.bind {γ β : Type} {rel : Rel γ β} {m : ME} {k : Val → Store → R γ} {ρ : Rho} {S : Store} {H : Hp} {L : Loc} {σ : L2.St} {Q : β → Hp → Prop} (s : SR K mg ρ S H) (l : LR K ρ S.length H L σ)
    (h : Post K mg rel W ρ S H σ ((m L S).bind k) Q) {Q' : VK} (hq : ∀ ρ1 S1 a u H1, SR K mg ρ1 S1 H1 → LR K ρ1 S1.length H1 L σ → Ext ρ S H ρ1 S1 H1 → VR K ρ1 S1.length H1 a u → Post K mg rel W ρ1 S1 H1 σ (k a S1) Q → Q' u H1) :
    TEm K mg W m σ H Q' := ⟨ρ, S, L, s, l, (Post.bind (rel1 := relV K) h).mono fun u H1 ⟨ρ1, S1, a, _, e, s1, v, q⟩ => hq ρ1 S1 a u H1 s1 (l.ext s e) e v q⟩
theorem TAm.bind {γ β : Type} {rel : Rel γ β} {m : MA} {k : List Val → Store → R γ} {ρ : Rho} {S : Store} {H : Hp} {L : Loc} {σ : L2.St} {Q : β → Hp → Prop} (s : SR K mg ρ S H) (l : LR K ρ S.length H L σ)
    (h : Post K mg rel W ρ S H σ ((m L S).bind k) Q) {Q' : List V → Hp → Prop} (hq : ∀ ρ1 S1 a u H1, SR K mg ρ1 S1 H1 → LR K ρ1 S1.length H1 L σ → Ext ρ S H ρ1 S1 H1 → VRs K ρ1 S1.length H1 a u → Post K mg rel W ρ1 S1 H1 σ (k a S1) Q → Q' u H1) :
    TAm K mg W m σ H Q' := ⟨ρ, S, L, s, l, (Post.bind (rel1 := relVs K) h).mono fun u H1 ⟨ρ1, S1, a, _, e, s1, v, q⟩ => hq ρ1 S1 a u H1 s1 (l.ext s e) e v q⟩
theorem TTm.bind {γ β : Type} {rel : Rel γ β} {m : MT} {k : Bool → Store → R γ} {ρ : Rho} {S : Store} {H : Hp} {L : Loc} {σ : L2.St} {Q : β → Hp → Prop} (s : SR K mg ρ S H) (l : LR K ρ S.length H L σ)
    (h : Post K mg rel W ρ S H σ ((m L S).bind k) Q) {Q' : Bool → Hp → Prop} (hq : ∀ ρ1 S1 a H1, SR K mg ρ1 S1 H1 → LR K ρ1 S1.length H1 L σ → Ext ρ S H ρ1 S1 H1 → Post K mg rel W ρ1 S1 H1 σ (k a S1) Q → Q' a H1) :
    TTm K mg W m σ H Q' := ⟨ρ, S, L, s, l, (Post.bind (rel1 := relB) h).mono fun u H1 ⟨ρ1, S1, a, _, e, s1, v, q⟩ => by
      have v' : u = a := v
      subst v'
      exact hq ρ1 S1 u H1 s1 (l.ext s e) e q⟩
theorem Post.here {α β : Type} {rel : Rel α β} {ρ : Rho} {S : Store} {H : Hp} {σ : L2.St} {a : α} {u : β} {Q : β → Hp → Prop} (s : SR K mg ρ S H) (h : Post K mg rel W ρ S H σ (.ok a S) Q) (r : rel ρ S H a u) : Q u H :=
  h ρ H u (Ext.refl _ _ _) s r
end
section
variable {X : Cx} {W : WX} {e a b c : Expr} {es : List Expr} {m ma mb mc : ME} {pos : Pos}
/-! ### names, constants -/
theorem e_v {i : Nat} {x : Str} (h : PE X (.Name x pos) (tVar i)) : PEm X W (.Name x pos) (mV i) := PE.imp h fun σ H Q ⟨ρ, S, L, s, l, p⟩ => by
  unfold mV getL at p
  split at p
  · rename_i v q
    obtain ⟨u, hu, r⟩ := l.2 i v q
    exact ⟨u, hu, Post.here s p r⟩
  · exact p.elim
theorem e_c {v : Val} {u : V} (h : PE X e (tC u)) (r : ∀ ρ n H, VR X.K ρ n H v u) : PEm X W e (mC v) := PE.imp h fun σ H Q ⟨ρ, S, L, s, l, p⟩ => Post.here (rel := relV X.K) s p (r _ _ _)
theorem e_int {i : Int} {j} : PEm X W (.Constant (.int i) j pos) (mC (.int i)) := e_c pe_int fun _ _ _ => by simp [VR]
theorem e_bl {i : Bool} {j} : PEm X W (.Constant (.bool i) j pos) (mC (.bl i)) := e_c pe_bl fun _ _ _ => by simp [VR]
theorem e_non {j} : PEm X W (.Constant .none j pos) (mC .non) := e_c pe_non fun _ _ _ => by simp [VR]
theorem e_str {i : Str} {j} : PEm X W (.Constant (.str i) j pos) (mC (.str i)) := e_c pe_str fun _ _ _ => by simp [VR]
/-- a constant of the module -/
theorem e_gc {x : Str} {v : Val} {u : V} {w : Value} (hg : Gl X x) (hm : X.mg x = some w) (r : RelV u w) (q : ∀ ρ n H, VR X.K ρ n H v u) (hd : (x == ("__debug__" : Str)) = false := by decide) : PEm X W (.Name x pos) (mC v) := e_c (pe_glob hg hm r hd) q
theorem e_bad : PE X e (fun _ _ _ => False) := ⟨fun _ _ _ _ _ _ h => h.elim⟩
/-! ### operators -/
def rP1 (X : Cx) (p : P1) : V → Hp → VK → Prop := fun u H Q => ∃ ρ S x, SR X.K X.mg ρ S H ∧ VR X.K ρ S.length H x u ∧ Post X.K X.mg (relV X.K) W0 ρ S H [] (p x S) Q
def rP2 (X : Cx) (p : P2) : R2 := fun u w H Q => ∃ ρ S x y, SR X.K X.mg ρ S H ∧ VR X.K ρ S.length H x u ∧ VR X.K ρ S.length H y w ∧ Post X.K X.mg (relV X.K) W0 ρ S H [] (p x y S) Q
def rF (X : Cx) (f : Fn) : List V → Hp → VK → Prop := fun us H Q => ∃ ρ S xs, SR X.K X.mg ρ S H ∧ VRs X.K ρ S.length H xs us ∧ Post X.K X.mg (relV X.K) W0 ρ S H [] (f xs S) Q
theorem Post.sig {α β : Type} {K : PySem.W.Frag} {mg : Str → Option Value} {rel : Rel α β} {ρ : Rho} {S : Store} {H : Hp} {σ σ' : L2.St} {r : R α} {Q : β → Hp → Prop} (h : Post K mg rel W0 ρ S H σ r Q) : Post K mg rel W0 ρ S H σ' r Q := by
  cases r with
  | ok a S' => exact h
  | exn x S' => exact h
  | bad => exact h
theorem m1_of {p : P1} {σ : L2.St} {H : Hp} {Q : VK} (h : TEm X.K X.mg W (m1 p m) σ H Q) : TEm X.K X.mg W m σ H fun u H1 => rP1 X p u H1 Q := by
  obtain ⟨ρ, S, L, s, l, h⟩ := h
  exact TEm.bind s l h fun ρ1 S1 x u H1 s1 l1 e v q => ⟨ρ1, S1, x, s1, v, (Post.noExn q W0).sig⟩
theorem m2_of {p : P2} {σ : L2.St} {H : Hp} {Q : VK} (h : TEm X.K X.mg W (m2 p ma mb) σ H Q) : tOp (rP2 X p) (TEm X.K X.mg W ma) (TEm X.K X.mg W mb) σ H Q := by
  obtain ⟨ρ, S, L, s, l, h⟩ := h
  exact TEm.bind s l h fun ρ1 S1 x u H1 s1 l1 e v q => TEm.bind s1 l1 q fun ρ2 S2 y w H2 s2 l2 e2 v2 q2 => ⟨ρ2, S2, x, y, s2, VR.ext s1 e2 _ _ v, v2, (Post.noExn q2 W0).sig⟩
abbrev OpS (X : Cx) (f : Value → Value → Sem Value) (p : P2) : Prop := OpR X f (rP2 X p)
theorem OpR.imp {f : Value → Value → Sem Value} {r r' : R2} (h : OpR X f r) (i : ∀ u w H Q, r' u w H Q → r u w H Q) : OpR X f r' := fun pins s σ H x y v u Q I rx ry q => h pins s σ H x y v u Q I rx ry (i _ _ _ _ q)
theorem CallR.imp {f : Value} {r r' : List V → Hp → VK → Prop} (h : CallR X f r) (i : ∀ us H Q, r' us H Q → r us H Q) : CallR X f r' := fun pins s σ H xs us Q I rx q => h pins s σ H xs us Q I rx (i _ _ _ q)
theorem e_op {op : Operator} {p : P2} (ho : OpS X (binaryOp op) p) (ha : PEm X W a ma) (hb : PEm X W b mb) : PEm X W (.BinOp a op b pos) (m2 p ma mb) := PE.imp (pe_op ho ha hb) fun _ _ _ => m2_of
theorem e_cmp {op : CmpOp} {p : P2} (ho : OpS X (compareOp op) p) (ha : PEm X W a ma) (hb : PEm X W b mb) (hm : behindInMarks op b = false) : PEm X W (.Compare a [op] [b] pos) (m2 p ma mb) := PE.imp (pe_cmpR ho ha hb hm) fun _ _ _ => m2_of
theorem e_un {op : UnaryOp} {p : P1} (ho : UnR X (unaryOp op) (rP1 X p)) (ha : PEm X W a ma) : PEm X W (.UnaryOp op a pos) (m1 p ma) := PE.imp (pe_un ho ha) fun _ _ _ => m1_of
theorem isT_of {K : PySem.W.Frag} {mg : Str → Option Value} {α β : Type} {rel : Rel α β} {ρ : Rho} {S : Store} {H : Hp} {σ : L2.St} {x : Val} {u : V} {k : Bool → Store → R α} {Q : β → Hp → Prop} (v : VR K ρ S.length H x u) (h : Post K mg rel W ρ S H σ ((isT x S).bind k) Q) :
    ∃ b, u = .bl b ∧ Post K mg rel W ρ S H σ (k b S) Q := by
  cases x with
  | bl b => exact ⟨b, by simpa [VR] using v, h⟩
  | _ => exact h.elim
theorem e_chain {op op' : CmpOp} {p q : P2} (ho : OpS X (compareOp op) p) (ho' : OpS X (compareOp op') q) (ha : PEm X W a ma) (hb : PEm X W b mb) (hc : PEm X W c mc)
    (hm : lastMarks [op, op'] [b, c] = false := by with_unfolding_all rfl) : PEm X W (.Compare a [op, op'] [b, c] pos) (mChain p q ma mb mc) := PE.imp (pe_chain ho ho' ha hb hc hm) fun σ H Q h => by
  obtain ⟨ρ, S, L, s, l, h⟩ := h
  refine TEm.bind s l h fun ρ1 S1 x u H1 s1 l1 e v h => TEm.bind s1 l1 h fun ρ2 S2 y w H2 s2 l2 e2 v2 h => ?_
  have h := (Post.bind (rel1 := relV X.K) h)
  refine ⟨ρ2, S2, x, y, s2, VR.ext s1 e2 _ _ v, v2, (Post.noExn h W0).sig.mono ?_⟩
  rintro z H3 ⟨ρ3, S3, zz, hzz, e3, s3, v3, h⟩
  obtain ⟨t, ez, h⟩ := isT_of v3 h
  refine ⟨t, ez, ?_⟩
  have l3 := l2.ext s2 e3
  cases t with
  | true =>
    refine iteT (TEm.bind s3 l3 h fun ρ4 S4 zc w4 H4 s4 l4 e4 v4 h => ?_)
    exact ⟨ρ4, S4, y, zc, s4, VR.ext s3 e4 _ _ (VR.ext s2 e3 _ _ v2), v4, (Post.noExn h W0).sig⟩
  | false => exact iteF (Post.here (rel := relV X.K) s3 h (by simp [relV, VR]))
/-! ### arguments, displays -/
theorem a_nil : PAm X W [] aNil := PA.imp pa_nil fun σ H Q ⟨ρ, S, L, s, l, h⟩ => Post.here (rel := relVs X.K) s h VRs.nil
theorem a_cons {ma : MA} (he : PEm X W e m) (ha : PAm X W es ma) (hs : starEach (e :: es) X.env = (false, eval e X.env) :: starEach es X.env := by rfl) : PAm X W (e :: es) (aCons m ma) := PA.imp (pa_cons he ha hs) fun σ H Q h => by
  obtain ⟨ρ, S, L, s, l, h⟩ := h
  refine TEm.bind s l h fun ρ1 S1 x u H1 s1 l1 e v h => TAm.bind s1 l1 h fun ρ2 S2 y w H2 s2 l2 e2 v2 h => ?_
  exact Post.here (rel := relVs X.K) s2 h (VRs.cons (VR.ext s1 e2 _ _ v) v2)
theorem mB_of {f : Fn} {ma : MA} {σ : L2.St} {H : Hp} {Q : VK} (h : TEm X.K X.mg W (mB f ma) σ H Q) : tCB (rF X f) (TAm X.K X.mg W ma) σ H Q := by
  obtain ⟨ρ, S, L, s, l, h⟩ := h
  exact TAm.bind s l h fun ρ1 S1 x u H1 s1 l1 e v q => ⟨ρ1, S1, x, s1, v, (Post.noExn q W0).sig⟩
theorem lim_eq : LIM = sizeLine := by rw [sizeLine_eq]; rfl
theorem fTup_of {us : List V} {H : Hp} {Q : VK} (h : rF X fTup us H Q) : us.length ≤ sizeLine ∧ ∀ p, H p = none → Q (.ref p) (upd H p (.tup us)) := by
  obtain ⟨ρ, S, xs, s, v, h⟩ := h
  unfold fTup at h
  by_cases hz : xs.length ≤ LIM
  · rw [bite_pos (decide_eq_true hz)] at h
    refine ⟨by rw [← v.length, ← lim_eq]; exact hz, fun p hp => h ρ _ _ (Ext.side hp) (s.side hp) ?_⟩
    simp only [relV, VR]
    exact ⟨p, us, rfl, .inl upd_same, VRs.ext s (Ext.side hp) _ _ v⟩
  · rw [bite_neg (decide_eq_false hz)] at h
    exact h.elim
theorem fLst_of {us : List V} {H : Hp} {Q : VK} (h : rF X fLst us H Q) : us.length ≤ sizeLine ∧ ∀ p, H p = none → Q (.ref p) (upd H p (.lst us)) := by
  obtain ⟨ρ, S, xs, s, v, h⟩ := h
  unfold fLst at h
  by_cases hz : xs.length ≤ LIM
  · rw [bite_pos (decide_eq_true hz)] at h
    refine ⟨by rw [← v.length, ← lim_eq]; exact hz, fun p hp => h _ _ _ (Ext.new hp) (s.new hp ⟨us, upd_same, VRs.ext s (Ext.new hp) _ _ v⟩) ?_⟩
    simp only [relV, VR, newRho_same]
    exact ⟨by simp, trivial⟩
  · rw [bite_neg (decide_eq_false hz)] at h
    exact h.elim
theorem e_tup {ma : MA} {x1} (h : PAm X W es ma) : PEm X W (.Tuple es x1 pos) (mTup ma) := PE.imp (pe_tup h) fun σ H Q q => by
  obtain ⟨ρ, S, L, s, l, p⟩ := mB_of q
  exact ⟨ρ, S, L, s, l, p.mono fun us H1 r => fTup_of r⟩
theorem e_lst {ma : MA} (h : PAm X W es ma) : PEm X W (.List es pos) (mLst ma) := PE.imp (pe_lst h) fun σ H Q q => by
  obtain ⟨ρ, S, L, s, l, p⟩ := mB_of q
  exact ⟨ρ, S, L, s, l, p.mono fun us H1 r => fLst_of r⟩
theorem new_of {o : HO} {b : Ob} {H : Hp} {ρ : Rho} {S : Store} {σ : L2.St} {Q : VK} (s : SR X.K X.mg ρ S H) (h : Post X.K X.mg (relV X.K) W ρ S H σ (.ok (.ref S.length) (S ++ [b])) Q)
    (hb : ∀ p, H p = none → OR X.K X.mg (newRho ρ S.length p) (S ++ [b]).length (upd H p o) p b) : ∀ p, H p = none → Q (.ref p) (upd H p o) := fun p hp => by
  refine h _ _ _ (Ext.new hp) (s.new hp (hb p hp)) ?_
  simp only [relV, VR, newRho_same]
  exact ⟨by simp, trivial⟩
theorem e_dk : PEm X W (.Dict [] [] pos) mDK := PE.imp pe_dnewK fun σ H Q ⟨ρ, S, L, s, l, h⟩ => new_of s h fun p hp => ⟨[], upd_same, rfl, by simp [VRs]⟩
theorem e_dt : PEm X W (.Dict [] [] pos) mDT := PE.imp pe_dnewT fun σ H Q ⟨ρ, S, L, s, l, h⟩ => new_of s h fun p hp => ⟨[], upd_same, rfl, by simp [VRs]⟩
/-! ### tests -/
theorem t_v (he : PEm X W e m) (hp : ∀ whole, isTrue e X.env whole = (do let v ← whole; standAt e.pos; holding [v] (truthy v)) := by intro _; rfl) : PTm X W e (tV m) := PT.imp (pt_val he hp) fun σ H Q h => by
  obtain ⟨ρ, S, L, s, l, h⟩ := h
  refine TEm.bind s l h fun ρ1 S1 x u H1 s1 l1 e v h => ?_
  cases x with
  | bl b => exact ⟨b, by simpa [VR] using v, Post.here (rel := relB) s1 h rfl⟩
  | _ => exact h.elim
theorem t_cmp {op : CmpOp} {p : P2} (ho : OpS X (compareOp op) p) (ha : PEm X W a ma) (hb : PEm X W b mb) (hm : behindInMarks op b = false) : PTm X W (.Compare a [op] [b] pos) (tV (m2 p ma mb)) := PT.imp (pt_cmpR ho ha hb hm) fun σ H Q h => by
  obtain ⟨ρ, S, L, s, l, h⟩ := h
  refine m2_of ⟨ρ, S, L, s, l, (Post.bind (rel1 := relV X.K) h).mono ?_⟩
  rintro u H1 ⟨ρ1, S1, x, _, e1, s1, v, h⟩
  cases x with
  | bl b => exact ⟨b, by simpa [VR, relV] using v, Post.here (rel := relB) s1 h rfl⟩
  | _ => exact h.elim
theorem t_chain {op op' : CmpOp} {p q : P2} (ho : OpS X (compareOp op) p) (ho' : OpS X (compareOp op') q) (ha : PEm X W a ma) (hb : PEm X W b mb) (hc : PEm X W c mc)
    (hm : lastMarks [op, op'] [b, c] = false := by with_unfolding_all rfl) : PTm X W (.Compare a [op, op'] [b, c] pos) (tV (mChain p q ma mb mc)) := PT.imp (pt_chain ho ho' ha hb hc hm) fun σ H Q h => by
  obtain ⟨ρ, S, L, s, l, h⟩ := h
  have h := (Post.bind (rel1 := relV X.K) h)
  refine TEm.bind s l h fun ρ1 S1 x u H1 s1 l1 e v h => TEm.bind s1 l1 h fun ρ2 S2 y w H2 s2 l2 e2 v2 h => ?_
  have h := (Post.bind (rel1 := relV X.K) h)
  refine ⟨ρ2, S2, x, y, s2, VR.ext s1 e2 _ _ v, v2, (Post.noExn h W0).sig.mono ?_⟩
  rintro z H3 ⟨ρ3, S3, zz, hzz, e3, s3, v3, h⟩
  obtain ⟨t, ez, h⟩ := isT_of v3 h
  refine ⟨t, ez, ?_⟩
  have l3 := l2.ext s2 e3
  cases t with
  | true =>
    refine iteT (TEm.bind s3 l3 h fun ρ4 S4 zc w4 H4 s4 l4 e4 v4 h => ?_)
    refine ⟨ρ4, S4, y, zc, s4, VR.ext s3 e4 _ _ (VR.ext s2 e3 _ _ v2), v4, (Post.noExn h W0).sig.mono ?_⟩
    rintro u H1 ⟨ρ1, S1, x, _, e1, s1, v, h⟩
    cases x with
    | bl b => exact ⟨b, by simpa [VR, relV] using v, Post.here (rel := relB) s1 h rfl⟩
    | _ => exact h.elim
  | false =>
    have q := Post.here (rel := relV X.K) (u := .bl false) s3 h (by simp [relV, VR])
    obtain ⟨ρ5, S5, a5, e5, _, s5, v5, h5⟩ := q
    refine iteF ⟨false, rfl, ?_⟩
    cases a5 with
    | bl b =>
      have : V.bl false = V.bl b := by simpa [VR, relV] using v5
      cases this
      exact Post.here (rel := relB) s5 h5 rfl
    | _ => exact h5.elim
theorem t_and1 {ma : MT} (ha : PTm X W a ma) : PWm X W (.BoolOp .And [a] pos) ma := pw_and1 ha
theorem t_or1 {ma : MT} (ha : PTm X W a ma) : PWm X W (.BoolOp .Or [a] pos) ma := pw_or1 ha
theorem t_and {ma mb : MT} (ha : PTm X W a ma) (hb : PWm X W (.BoolOp .And (b :: es) pos) mb) : PWm X W (.BoolOp .And (a :: b :: es) pos) (Mp.tAnd ma mb) := PW.imp (pw_and ha hb) fun σ H Q h => by
  obtain ⟨ρ, S, L, s, l, h⟩ := h
  refine TTm.bind s l h fun ρ1 S1 c H1 s1 l1 e h => ?_
  cases c with
  | true => exact iteT ⟨ρ1, S1, L, s1, l1, h⟩
  | false => exact iteF (Post.here (rel := relB) s1 h rfl)
theorem t_or {ma mb : MT} (ha : PTm X W a ma) (hb : PWm X W (.BoolOp .Or (b :: es) pos) mb) : PWm X W (.BoolOp .Or (a :: b :: es) pos) (Mp.tOr ma mb) := PW.imp (pw_or ha hb) fun σ H Q h => by
  obtain ⟨ρ, S, L, s, l, h⟩ := h
  refine TTm.bind s l h fun ρ1 S1 c H1 s1 l1 e h => ?_
  cases c with
  | true => exact iteT (Post.here (rel := relB) s1 h rfl)
  | false => exact iteF ⟨ρ1, S1, L, s1, l1, h⟩
theorem t_not {ma : MT} (ha : PTm X W a ma) : PTm X W (.UnaryOp .Not a pos) (Mp.tNot ma) := PT.imp (pt_not ha) fun σ H Q h => by
  obtain ⟨ρ, S, L, s, l, h⟩ := h
  exact TTm.bind s l h fun ρ1 S1 c H1 s1 l1 e h => Post.here (rel := relB) s1 h rfl
theorem e_if {mc : MT} (hc : PTm X W c mc) (ha : PEm X W a ma) (hb : PEm X W b mb) : PEm X W (.IfExp c a b pos) (mIf mc ma mb) := PE.imp (pe_ifExp hc ha hb) fun σ H Q h => by
  obtain ⟨ρ, S, L, s, l, h⟩ := h
  refine TTm.bind s l h fun ρ1 S1 c H1 s1 l1 e h => ?_
  cases c with
  | true => exact iteT ⟨ρ1, S1, L, s1, l1, h⟩
  | false => exact iteF ⟨ρ1, S1, L, s1, l1, h⟩
theorem e_one {op} (h : PEm X W a ma) : PEm X W (.BoolOp op [a] pos) ma := pe_one h
theorem e_and (ha : PEm X W a ma) (hb : PEm X W (.BoolOp .And (b :: es) pos) mb) : PEm X W (.BoolOp .And (a :: b :: es) pos) (mAnd ma mb) := PE.imp (pe_and ha hb) fun σ H Q h => by
  obtain ⟨ρ, S, L, s, l, h⟩ := h
  refine TEm.bind s l h fun ρ1 S1 x u H1 s1 l1 e v h => ?_
  obtain ⟨t, ez, h⟩ := isT_of v h
  refine ⟨t, ez, ?_⟩
  cases t with
  | true => exact iteT ⟨ρ1, S1, L, s1, l1, h⟩
  | false => exact iteF (Post.here (rel := relV X.K) s1 h (by simp [relV, VR]))
theorem e_or (ha : PEm X W a ma) (hb : PEm X W (.BoolOp .Or (b :: es) pos) mb) : PEm X W (.BoolOp .Or (a :: b :: es) pos) (mOr ma mb) := PE.imp (pe_or ha hb) fun σ H Q h => by
  obtain ⟨ρ, S, L, s, l, h⟩ := h
  refine TEm.bind s l h fun ρ1 S1 x u H1 s1 l1 e v h => ?_
  obtain ⟨t, ez, h⟩ := isT_of v h
  refine ⟨t, ez, ?_⟩
  cases t with
  | true => exact iteT (Post.here (rel := relV X.K) s1 h (by simp [relV, VR]))
  | false => exact iteF ⟨ρ1, S1, L, s1, l1, h⟩
theorem e_not (ha : PEm X W a ma) : PEm X W (.UnaryOp .Not a pos) (mNot ma) := PE.imp (pe_not ha) fun σ H Q h => by
  obtain ⟨ρ, S, L, s, l, h⟩ := h
  refine TEm.bind s l h fun ρ1 S1 x u H1 s1 l1 e v h => ?_
  obtain ⟨t, ez, h⟩ := isT_of v h
  exact ⟨t, ez, Post.here (rel := relV X.K) s1 h (by simp [relV, VR])⟩
end

/-! ### statements -/
section
variable {K : PySem.W.Frag} {mg : Str → Option Value} {W : WX}
theorem PostF.mono {ρ : Rho} {S : Store} {H : Hp} {r : F} {D D' : Ends} (h : PostF K mg W ρ S H r D) (h1 : ∀ σ H, D.nx σ H → D'.nx σ H) (h2 : ∀ u H, D.rt u H → D'.rt u H) (h3 : ∀ σ H, D.bk σ H → D'.bk σ H) (h4 : ∀ σ H, D.ct σ H → D'.ct σ H) : PostF K mg W ρ S H r D' := by
  cases r with
  | nx L S' => exact fun ρ' H' σ' e s l => h1 _ _ (h ρ' H' σ' e s l)
  | bk L S' => exact fun ρ' H' σ' e s l => h3 _ _ (h ρ' H' σ' e s l)
  | ct L S' => exact fun ρ' H' σ' e s l => h4 _ _ (h ρ' H' σ' e s l)
  | rt v S' => exact fun ρ' H' σ' e s l => h2 _ _ (h ρ' H' σ' e s l)
  | exn e L S' => exact h
  | bad => exact h
theorem PostF.step {ρ ρ1 : Rho} {S S1 : Store} {H H1 : Hp} {r : F} {D : Ends} (s1 : SR K mg ρ1 S1 H1) (e : Ext ρ S H ρ1 S1 H1) (h : PostF K mg W ρ S H r D) : PostF K mg W ρ1 S1 H1 r D := by
  cases r with
  | nx L S' => exact fun ρ' H' σ' e' s l => h ρ' H' σ' (Ext.trans s1 e e') s l
  | bk L S' => exact fun ρ' H' σ' e' s l => h ρ' H' σ' (Ext.trans s1 e e') s l
  | ct L S' => exact fun ρ' H' σ' e' s l => h ρ' H' σ' (Ext.trans s1 e e') s l
  | rt v S' => exact fun ρ' H' σ' e' s l => h ρ' H' σ' (Ext.trans s1 e e') s l
  | exn x L S' => exact fun ρ' H' σ' c d e' s l => h ρ' H' σ' c d (Ext.trans s1 e e') s l
  | bad => exact h
/-- behind an expression -/
theorem PostF.then {α β : Type} {rel : Rel α β} {ρ : Rho} {S : Store} {H : Hp} {L : Loc} {σ : L2.St} {r : R α} {k : α → Store → F} {D : Ends} (s : SR K mg ρ S H) (l : LR K ρ S.length H L σ) (h : PostF K mg W ρ S H (thenF L r k) D) :
    Post K mg rel W ρ S H σ r fun u H1 => ∃ ρ1 S1 a, r = .ok a S1 ∧ Ext ρ S H ρ1 S1 H1 ∧ SR K mg ρ1 S1 H1 ∧ rel ρ1 S1 H1 a u ∧ PostF K mg W ρ1 S1 H1 (k a S1) D := by
  cases r with
  | ok a S1 => exact fun ρ1 H1 u e s v => ⟨ρ1, S1, a, rfl, e, s, v, PostF.step s e h⟩
  | exn x S' => exact fun ρ' H' cls d e s' q => h ρ' H' σ cls d e s' (l.ext s e) q
  | bad => exact h
theorem TEm.then {m : ME} {k : Val → Store → F} {ρ : Rho} {S : Store} {H : Hp} {L : Loc} {σ : L2.St} {D : Ends} (s : SR K mg ρ S H) (l : LR K ρ S.length H L σ) (h : PostF K mg W ρ S H (thenF L (m L S) k) D)
    {Q' : VK} (hq : ∀ ρ1 S1 a u H1, SR K mg ρ1 S1 H1 → LR K ρ1 S1.length H1 L σ → Ext ρ S H ρ1 S1 H1 → VR K ρ1 S1.length H1 a u → PostF K mg W ρ1 S1 H1 (k a S1) D → Q' u H1) : TEm K mg W m σ H Q' :=
  ⟨ρ, S, L, s, l, (PostF.then (rel := relV K) s l h).mono fun u H1 ⟨ρ1, S1, a, _, e, s1, v, q⟩ => hq ρ1 S1 a u H1 s1 (l.ext s e) e v q⟩
theorem TTm.then {m : MT} {k : Bool → Store → F} {ρ : Rho} {S : Store} {H : Hp} {L : Loc} {σ : L2.St} {D : Ends} (s : SR K mg ρ S H) (l : LR K ρ S.length H L σ) (h : PostF K mg W ρ S H (thenF L (m L S) k) D)
    {Q' : Bool → Hp → Prop} (hq : ∀ ρ1 S1 a H1, SR K mg ρ1 S1 H1 → LR K ρ1 S1.length H1 L σ → Ext ρ S H ρ1 S1 H1 → PostF K mg W ρ1 S1 H1 (k a S1) D → Q' a H1) : TTm K mg W m σ H Q' :=
  ⟨ρ, S, L, s, l, (PostF.then (rel := relB) s l h).mono fun u H1 ⟨ρ1, S1, a, _, e, s1, v, q⟩ => by
    have v' : u = a := v
    subst v'
    exact hq ρ1 S1 u H1 s1 (l.ext s e) e q⟩
theorem PostF.nxHere {ρ : Rho} {S : Store} {H : Hp} {L : Loc} {σ : L2.St} {D : Ends} (s : SR K mg ρ S H) (l : LR K ρ S.length H L σ) (h : PostF K mg W ρ S H (.nx L S) D) : D.nx σ H := h ρ H σ (Ext.refl _ _ _) s l
end
section
variable {X : Cx} {W : WX} {e a b c : Expr} {es : List Expr} {m ma mb mc : ME} {pos : Pos} {st : Stmt} {sts rest : List Stmt} {k k1 k2 : MS}
theorem s_nil : PSsm X W [] sNx := PSs.imp pss_nil fun D σ H ⟨ρ, S, L, s, l, h⟩ => PostF.nxHere s l h
theorem s_cons (h1 : PSm X W st k1) (h2 : PSsm X W rest k2) : PSsm X W (st :: rest) (sSeq k1 k2) := PSs.imp (pss_cons h1 h2) fun D σ H h => by
  obtain ⟨ρ, S, L, s, l, h⟩ := h
  refine ⟨ρ, S, L, s, l, ?_⟩
  unfold sSeq at h
  cases q : k1 L S with
  | nx L1 S1 => rw [q] at h; exact fun ρ' H' σ' e s' l' => ⟨ρ', S1, L1, s', l', PostF.step s' e h⟩
  | bk L1 S1 => rw [q] at h; exact h
  | ct L1 S1 => rw [q] at h; exact h
  | rt L1 S1 => rw [q] at h; exact h
  | exn x L1 S1 => rw [q] at h; exact h
  | bad => rw [q] at h; exact h
theorem s_one (h1 : PSm X W st k1) : PSsm X W [st] k1 := pss_one h1
theorem s_pass : PSm X W (.Pass pos) sNx := PS.imp ps_pass fun D σ H ⟨ρ, S, L, s, l, h⟩ => PostF.nxHere s l h
theorem s_brk : PSm X W (.Break pos) sBrk := PS.imp ps_break fun D σ H ⟨ρ, S, L, s, l, h⟩ => h ρ H σ (Ext.refl _ _ _) s l
theorem s_cnt : PSm X W (.Continue pos) sCnt := PS.imp ps_continue fun D σ H ⟨ρ, S, L, s, l, h⟩ => h ρ H σ (Ext.refl _ _ _) s l
theorem s_bad : PSm X W st sBad := PS.imp ps_never fun D σ H ⟨ρ, S, L, s, l, h⟩ => h
theorem s_expr (he : PEm X W e m) (hs : swapsWith e none pos.line X.env = pure false := by rfl) : PSm X W (.Expr e pos) (sExpr m) := PS.imp (ps_expr he hs) fun D σ H ⟨ρ, S, L, s, l, h⟩ =>
  TEm.then s l h fun ρ1 S1 x u H1 s1 l1 e v h => PostF.nxHere s1 l1 h
theorem s_ret (he : PEm X W e m) : PSm X W (.Return (some e) pos) (sRet m) := PS.imp (ps_ret he) fun D σ H ⟨ρ, S, L, s, l, h⟩ =>
  TEm.then s l h fun ρ1 S1 x u H1 s1 l1 e v h => h ρ1 H1 u (Ext.refl _ _ _) s1 v
theorem s_retN : PSm X W (.Return none pos) sRetN := PS.imp ps_retN fun D σ H ⟨ρ, S, L, s, l, h⟩ => h ρ H .non (Ext.refl _ _ _) s (by simp [VR])
theorem s_if {mc : MT} (hc : PTm X W c mc) (h1 : PSsm X W sts k1) (h2 : PSsm X W rest k2) : PSm X W (.If c sts rest pos) (sIf mc k1 k2) := PS.imp (ps_if hc h1 h2) fun D σ H ⟨ρ, S, L, s, l, h⟩ =>
  TTm.then s l h fun ρ1 S1 b H1 s1 l1 e h => by
    cases b with
    | true => exact iteT ⟨ρ1, S1, L, s1, l1, h⟩
    | false => exact iteF ⟨ρ1, S1, L, s1, l1, h⟩
/-! ### targets, stores -/
theorem LR.set {K : PySem.W.Frag} {ρ : Rho} {n : Nat} {H : Hp} {L : Loc} {σ : L2.St} {v : Val} {u : V} {i : Nat} (l : LR K ρ n H L σ) (r : VR K ρ n H v u) : LR K ρ n H (L.set i (some v)) (σ.set i (some u)) := by
  refine ⟨by simp [l.1], fun j w q => ?_⟩
  by_cases hj : j = i
  · subst hj
    have hl : j < L.length := by
      have := (List.getElem?_eq_some_iff.mp q).1
      simpa using this
    rw [List.getElem?_set_self hl] at q
    cases q
    exact ⟨u, List.getElem?_set_self (by rw [← l.1]; exact hl), r⟩
  · rw [List.getElem?_set_ne (Ne.symm hj)] at q
    obtain ⟨u', h1, h2⟩ := l.2 j w q
    exact ⟨u', by rw [List.getElem?_set_ne (Ne.symm hj)]; exact h1, h2⟩
theorem LR.wipe {K : PySem.W.Frag} {ρ : Rho} {n : Nat} {H : Hp} {L : Loc} {σ : L2.St} (l : LR K ρ n H L σ) : ∀ vs : List Nat, LR K ρ n H (wipeL L vs) (wipe σ vs)
  | [] => l
  | i :: r => by
    have ih := LR.wipe l r
    have e1 : L2.wipe σ (i :: r) = (L2.wipe σ r).set i none := rfl
    rw [e1]
    refine ⟨by simp only [wipeL]; simpa using ih.1, fun j w q => ?_⟩
    simp only [wipeL] at q
    by_cases hj : j = i
    · subst hj
      have hl : j < (wipeL L r).length := by
        have := (List.getElem?_eq_some_iff.mp q).1
        simpa using this
      rw [List.getElem?_set_self hl] at q
      cases q
    · rw [List.getElem?_set_ne (Ne.symm hj)] at q
      obtain ⟨u', h1, h2⟩ := ih.2 j w q
      exact ⟨u', by rw [List.getElem?_set_ne (Ne.symm hj)]; exact h1, h2⟩
theorem wipe_set {i : Nat} {u : Option V} : ∀ {vs : List Nat} {σ : L2.St}, i ∈ vs → L2.wipe (σ.set i u) vs = L2.wipe σ vs
  | [], _, h => absurd h (by simp)
  | j :: r, σ, h => by
    show (L2.wipe (σ.set i u) r).set j none = (L2.wipe σ r).set j none
    by_cases hr : i ∈ r
    · rw [wipe_set hr]
    · have hj : i = j := by
        rcases List.mem_cons.mp h with h | h
        · exact h
        · exact absurd h hr
      subst hj
      have : ∀ (r : List Nat) (σ : L2.St), i ∉ r → L2.wipe (σ.set i u) r = (L2.wipe σ r).set i u := by
        intro r
        induction r with
        | nil => intro σ _; rfl
        | cons a r ih =>
          intro σ hn
          have h1 : i ≠ a := fun e => hn (by simp [e])
          have h2 : i ∉ r := fun e => hn (by simp [e])
          show (L2.wipe (σ.set i u) r).set a none = ((L2.wipe σ r).set a none).set i u
          rw [ih σ h2, List.set_comm _ _ h1]
      rw [this r σ hr, List.set_set]
variable {P : Step}
theorem g_name {i : Nat} {x : Str} (h : PG X (.Name x pos) (gName i)) (hP : ∀ σ u, P.is σ (σ.set i u)) : PGm X P (.Name x pos) (gN i) := PG.imp h fun v σ H Q ⟨ρ, S, L, x, s, l, r, h⟩ => Post.here (rel := relLP X.K P σ) s h ⟨l.set r, hP _ _⟩
theorem hp_any {i : Nat} : ∀ σ u, anyStep.is σ (σ.set i u) := fun _ _ => trivial
theorem hp_wipe {i : Nat} {vs : List Nat} (h : i ∈ vs) : ∀ σ u, (wipeStep vs).is σ (σ.set i u) := fun _ _ => wipe_set h
theorem gs_nil : PGsm X P [] gsNil := PGs.imp pgs_nil fun v σ H Q ⟨ρ, S, L, x, s, l, r, h⟩ => by
  cases x with
  | nil => exact ⟨r.nil_of, Post.here (rel := relLP X.K P σ) s h ⟨l, P.refl _⟩⟩
  | cons y ys => exact h.elim
theorem TGm.bind {K : PySem.W.Frag} {mg : Str → Option Value} {γ β : Type} {rel : Rel γ β} {g : MG} {k : Loc → Store → R γ} {ρ : Rho} {S : Store} {H : Hp} {L : Loc} {σ : L2.St} {x : Val} {v : V} {Q : β → Hp → Prop} (s : SR K mg ρ S H) (l : LR K ρ S.length H L σ) (r : VR K ρ S.length H x v)
    (h : Post K mg rel W0 ρ S H σ ((g x L S).bind k) Q) {Q' : L2.St → Hp → Prop} (hq : ∀ ρ1 S1 L1 σ1 H1, SR K mg ρ1 S1 H1 → LR K ρ1 S1.length H1 L1 σ1 → P.is σ σ1 → Ext ρ S H ρ1 S1 H1 → Post K mg rel W0 ρ1 S1 H1 σ (k L1 S1) Q → Q' σ1 H1) :
    TGm K mg P g v σ H Q' := ⟨ρ, S, L, x, s, l, r, (Post.bind (rel1 := relLP K P σ) h).mono fun u H1 ⟨ρ1, S1, a, _, e, s1, v, q⟩ => hq ρ1 S1 a u H1 s1 v.1 v.2 e q⟩
theorem Post.rel {α β : Type} {K : PySem.W.Frag} {mg : Str → Option Value} {rel rel' : Rel α β} {W : WX} {ρ : Rho} {S : Store} {H : Hp} {σ : L2.St} {r : R α} {Q : β → Hp → Prop} (h : Post K mg rel W ρ S H σ r Q) (hr : ∀ ρ S H a u, rel' ρ S H a u → rel ρ S H a u) : Post K mg rel' W ρ S H σ r Q := by
  cases r with
  | ok a S' => exact fun ρ' H' u e s v => h ρ' H' u e s (hr _ _ _ _ _ v)
  | exn x S' => exact h
  | bad => exact h
theorem gs_cons {g : MG} {r : MGs} (h1 : PGm X P e g) (h2 : PGsm X P es r) (hs : (assignEach (e :: es) X.env).map (·.2) = assign e X.env :: (assignEach es X.env).map (·.2) := by rfl) : PGsm X P (e :: es) (gsCons g r) := PGs.imp (pgs_cons h1 h2 hs) fun v σ H Q ⟨ρ, S, L, x, s, l, r, h⟩ => by
  cases x with
  | nil => exact h.elim
  | cons y ys =>
    obtain ⟨u, us, e1, r1, r2⟩ := r.cons_of
    refine ⟨u, us, e1, TGm.bind s l r1 h fun ρ1 S1 L1 σ1 H1 s1 l1 p1 e h => ?_⟩
    exact ⟨ρ1, S1, L1, ys, s1, l1, VRs.ext s e _ _ r2, h.sig.rel fun _ _ _ _ _ q => ⟨q.1, P.trans _ _ _ p1 q.2⟩⟩
/-- a, b = a tuple: what is unpacked has just that length -/
theorem g_tup {r : MGs} {kk : Nat} {n : Nat} (hc : X.calm = true) (h : PGsm X P es r) (hl : ∀ vs L S, vs.length ≠ n → r vs L S = .bad) (hn : (assignEach es X.env).length = n := by rfl) (hst : (assignEach es X.env).findIdx? (·.1) = none := by rfl) :
    PGm X P (.Tuple es kk pos) (Mp.gTup r) := PG.imp (pg_tup hc h hn hst) fun v σ H Q ⟨ρ, S, L, x, s, l, rr, h⟩ => by
  cases x with
  | tup vs =>
    simp only [VR] at rr
    obtain ⟨a, xs, e1, q, r2⟩ := rr
    have hlen : vs.length = n := by
      by_cases z : vs.length = n
      · exact z
      · have h' : Post X.K X.mg (relLP X.K P σ) W0 ρ S H σ (r vs L S) Q := h
        rw [hl vs L S z] at h'
        exact h'.elim
    exact ⟨a, xs, e1, q.sq, by rw [← r2.length]; exact hlen, ρ, S, L, vs, s, l, r2, h⟩
  | _ => exact h.elim
theorem gsl_nil : ∀ vs L S, vs.length ≠ 0 → gsNil vs L S = .bad := fun vs L S h => by cases vs with
  | nil => exact absurd rfl h
  | cons => rfl
theorem gsl_cons {g : MG} {r : MGs} {n : Nat} (hr : ∀ vs L S, vs.length ≠ n → r vs L S = .bad) (hg : ∀ v L S e S', g v L S ≠ .exn e S') : ∀ vs L S, vs.length ≠ n + 1 → gsCons g r vs L S = .bad := fun vs L S h => by
  cases vs with
  | nil => rfl
  | cons v vs =>
    show (g v L S).bind _ = _
    cases q : g v L S with
    | ok a S1 => exact hr vs a S1 (by simp at h; exact h)
    | exn e S1 => exact absurd q (hg v L S e S1)
    | bad => rfl
theorem gN_ne {i : Nat} : ∀ v L S e S', gN i v L S ≠ .exn e S' := fun _ _ _ _ _ h => by cases h
theorem gTup_ne {r : MGs} (h : ∀ vs L S e S', r vs L S ≠ .exn e S') : ∀ v L S e S', Mp.gTup r v L S ≠ .exn e S' := fun v L S e S' q => by
  cases v with
  | tup vs => exact h vs L S e S' q
  | _ => cases q
/-- a store at o[i]: by values -/
def rSet (X : Cx) (p : Val → Val → Val → Store → R Unit) : TSet := fun o i v H Q => ∃ ρ S x y z, SR X.K X.mg ρ S H ∧ VR X.K ρ S.length H x o ∧ VR X.K ρ S.length H y i ∧ VR X.K ρ S.length H z v ∧ Post X.K X.mg (fun _ _ _ (_ : Unit) (_ : Unit) => True) W0 ρ S H [] (p x y z S) fun _ H' => Q H'
theorem g_sub {o i : Expr} {mo mi : ME} {p : Val → Val → Val → Store → R Unit} (ho : PEm X W0 o mo) (hi : PEm X W0 i mi) (hs : PSet X (rSet X p))
    (ha : ∀ v, assign (.Subscript o i pos) X.env v = (do
      let ov ← holding [v] (eval o X.env)
      let iv ← holding [v, ov] (eval i X.env)
      standAt pos
      holding [v, ov, iv] (setItem ov iv v)
      release [v, ov, iv] []) := by intro _; rfl) : PGm X P (.Subscript o i pos) (Mp.gSub mo mi p) := PG.imp (pg_sub ho hi hs ha) fun v σ H Q ⟨ρ, S, L, x, s, l, r, h⟩ => by
  refine TEm.bind s l h fun ρ1 S1 x1 u1 H1 s1 l1 e1 v1 h => TEm.bind s1 l1 h fun ρ2 S2 x2 u2 H2 s2 l2 e2 v2 h => ?_
  refine ⟨ρ2, S2, x1, x2, x, s2, VR.ext s1 e2 _ _ v1, v2, VR.ext s1 e2 _ _ (VR.ext s e1 _ _ r), ?_⟩
  have h := Post.bind (rel1 := fun _ _ _ (_ : Unit) (_ : Unit) => True) h
  refine (Post.noExn h W0).sig.mono ?_
  rintro u H3 ⟨ρ3, S3, a3, _, e3, s3, _, h⟩
  exact Post.here (rel := relLP X.K P σ) s3 h ⟨l2.ext s2 e3, P.refl _⟩
theorem PostF.thenN {α : Type} {K : PySem.W.Frag} {mg : Str → Option Value} {ρ : Rho} {S : Store} {H : Hp} {L : Loc} {r : R α} {k : α → Store → F} {D : Ends} (h : PostF K mg W ρ S H (thenF L (noExn r) k) D) : PostF K mg W ρ S H (thenF L (noExn r) k) D ∧ ∀ e S', r ≠ .exn e S' := by
  refine ⟨h, fun e S' q => ?_⟩
  rw [q] at h
  exact h.elim
/-- behind a part that raises nothing -/
theorem PostF.quiet {α β : Type} {K : PySem.W.Frag} {mg : Str → Option Value} {rel : Rel α β} {ρ : Rho} {S : Store} {H : Hp} {L : Loc} {σ : L2.St} {r : R α} {k : α → Store → F} {D : Ends} (h : PostF K mg W ρ S H (thenF L (noExn r) k) D) :
    Post K mg rel W0 ρ S H σ r fun u H1 => ∃ ρ1 S1 a, r = .ok a S1 ∧ Ext ρ S H ρ1 S1 H1 ∧ SR K mg ρ1 S1 H1 ∧ rel ρ1 S1 H1 a u ∧ PostF K mg W ρ1 S1 H1 (k a S1) D := by
  cases r with
  | ok a S1 => exact fun ρ1 H1 u e s v => ⟨ρ1, S1, a, rfl, e, s, v, PostF.step s e h⟩
  | exn x S' => exact h.elim
  | bad => exact h
theorem asg_of {g : MG} {D : Ends} {σ : L2.St} {H : Hp} (h : TSm X.K X.mg W (sAsg m g) D σ H) : tAsg (TEm X.K X.mg W m) (TGm X.K X.mg anyStep g) D σ H := by
  obtain ⟨ρ, S, L, s, l, h⟩ := h
  refine TEm.then s l h fun ρ1 S1 x u H1 s1 l1 e1 v h => ⟨ρ1, S1, L, x, s1, l1, v, ?_⟩
  refine (PostF.quiet (rel := relLP X.K anyStep σ) h).mono ?_
  rintro σ2 H2 ⟨ρ2, S2, L2, _, e2, s2, l2, h⟩
  exact PostF.nxHere s2 l2.1 h
theorem s_asg {tg : Expr} {g : MG} (he : PEm X W e m) (hg : PGm X anyStep tg g) (hs : swapsWithSole [tg] e pos.line X.env = pure false := by rfl) (hw : swappedStores [tg] e X.env = pure none := by rfl)
    (h1 : (assignEach [tg] X.env).map (·.2) = [assign tg X.env] := by rfl) : PSm X W (.Assign [tg] e pos) (sAsg m g) := PS.imp (ps_asg he hg hs hw h1) fun _ _ _ => asg_of
/-- x = e -/
theorem s_set {i : Nat} {x : Str} {pos' : Pos} (hN : X.N.Nodup) (hi : X.N[i]? = some x) (hx : L2.Loc X.env.scope x) (he : PEm X W e m) (hs : swapsWith e (some (.Name x pos')) pos.line X.env = pure false := by rfl) (hf : X.fn x = true ∨ X.env.scope.names.lookup x = some .local := by first | exact .inl rfl | exact .inr rfl | assumption) :
    PSm X W (.Assign [.Name x pos'] e pos) (sAsg m (gN i)) := PS.imp (ps_set hN hi hx he hs hf) fun D σ H ⟨ρ, S, L, s, l, h⟩ =>
  TEm.then s l h fun ρ1 S1 x u H1 s1 l1 e1 v h => PostF.nxHere s1 (l1.set v) h
def rIp (X : Cx) (p : P2) : TIp := rP2 X p
/-- x op= e -/
theorem s_aug {i : Nat} {x : Str} {op : Operator} {p : P2} {pos' : Pos} (hN : X.N.Nodup) (hi : X.N[i]? = some x) (hx : L2.Loc X.env.scope x) (he : PEm X W e m) (ho : OpS X (inplaceOp op) p) (hf : X.fn x = true ∨ X.env.scope.names.lookup x = some .local := by first | exact .inl rfl | exact .inr rfl | assumption) :
    PSm X W (.AugAssign (.Name x pos') op e pos) (sAug i m p) := PS.imp (ps_aug (ti := rP2 X p) hN hi hx he ho hf) fun D σ H ⟨ρ, S, L, s, l, h⟩ => by
  have h' : PostF X.K X.mg W ρ S H (thenF L (getL L i S) fun x S0 => thenF L (m L S0) fun y S1 => thenF L (noExn (p x y S1)) fun z S2 => .nx (L.set i (some z)) S2) D := h
  unfold getL at h'
  split at h'
  · rename_i v q
    obtain ⟨u, hu, r⟩ := l.2 i v q
    refine ⟨u, hu, TEm.then s l h' fun ρ1 S1 y w H1 s1 l1 e1 v1 h => ⟨ρ1, S1, v, y, s1, VR.ext s e1 _ _ r, v1, ?_⟩⟩
    refine (PostF.quiet (rel := relV X.K) h).mono ?_
    rintro z H2 ⟨ρ2, S2, z2, _, e2, s2, v2, h⟩
    exact PostF.nxHere s2 ((l1.ext s1 e2).set v2) h
  · exact h'.elim
end
end Mp

/-! Mp4: instances, calls, loops, comprehensions, raise, try, defs. -/
namespace Mp
open PySem PySem.Spec L2
section
variable {K : PySem.W.Frag} {mg : Str → Option Value} {ρ : Rho} {S : Store} {H : Hp} {n : Nat}
theorem KR.lookup {f : Str} : ∀ {l : List (Str × Val)} {m : List (Str × V)}, KR K ρ n H l m → match l.lookup f, m.lookup f with
    | some v, some u => VR K ρ n H v u
    | none, none => True
    | _, _ => False
  | [], m, h => by
    have : m = [] := by have := h.1; simpa using this.symm
    subst this
    simp [List.lookup]
  | (g, v) :: l, m, h => by
    obtain ⟨h1, h2⟩ := h
    cases m with
    | nil => simp at h1
    | cons p m =>
      obtain ⟨g', u⟩ := p
      simp only [List.map_cons, List.cons.injEq] at h1
      obtain ⟨rfl, h1⟩ := h1
      simp only [List.map_cons] at h2
      obtain ⟨u0, r, e, h2, h3⟩ := h2.cons_of
      cases e
      have ih := KR.lookup (f := f) (l := l) (m := m) ⟨h1, h3⟩
      by_cases q : f = g
      · subst q
        simp only [List.lookup, beq_self_eq_true]
        exact h2
      · have : (f == g) = false := by simpa using q
        simp only [List.lookup, this]
        exact ih
theorem KR.set {f : Str} {v : Val} {u : V} (hv : VR K ρ n H v u) : ∀ {l : List (Str × Val)} {m : List (Str × V)}, KR K ρ n H l m → KR K ρ n H (setF f v l) (putF f u m)
  | [], m, h => by
    have : m = [] := by have := h.1; simpa using this.symm
    subst this
    exact ⟨rfl, by show VRs K ρ n H [v] [u]; exact VRs.cons hv VRs.nil⟩
  | (g, w) :: l, m, h => by
    obtain ⟨h1, h2⟩ := h
    cases m with
    | nil => simp at h1
    | cons p m =>
      obtain ⟨g', x⟩ := p
      simp only [List.map_cons, List.cons.injEq] at h1
      obtain ⟨rfl, h1⟩ := h1
      simp only [List.map_cons] at h2
      obtain ⟨u0, r, e, h2, h3⟩ := h2.cons_of
      cases e
      have ih := KR.set (f := f) hv (l := l) (m := m) ⟨h1, h3⟩
      by_cases q : g = f
      · have e1 : setF f v ((g, w) :: l) = (f, v) :: l := by simp [setF, q]
        have e2 : putF f u ((g, x) :: m) = (f, u) :: m := by simp [putF, q]
        rw [e1, e2]
        exact ⟨by simp [h1], by simp only [List.map_cons]; exact VRs.cons hv h3⟩
      · have e1 : setF f v ((g, w) :: l) = (g, w) :: setF f v l := by simp [setF, q]
        have e2 : putF f u ((g, x) :: m) = (g, x) :: putF f u m := by simp [putF, q]
        rw [e1, e2]
        exact ⟨by simp [ih.1], by simp only [List.map_cons]; exact VRs.cons h2 ih.2⟩
theorem KR.len {κ : Type} {l : List (κ × Val)} {m : List (κ × V)} (h : KR K ρ n H l m) : l.length = m.length := by
  have := congrArg List.length h.1
  simpa using this
/-- an instance's place -/
theorem insAt_of (s : SR K mg ρ S H) {x : Val} {u : V} {c : Str} {fs : List (Str × Val)} (r : VR K ρ S.length H x u) (h : insAt x S = some (c, fs)) :
    ∃ i C dx us, x = .ref i ∧ i < S.length ∧ S[i]? = some (.ins c fs) ∧ u = .ref (ρ i) ∧ mg c = some (.ref C) ∧ H (ρ i) = some (.ins C dx us) ∧ KR K ρ S.length H fs us := by
  cases x with
  | ref i =>
    simp only [VR] at r
    simp only [insAt] at h
    split at h
    · rename_i c' fs' q
      cases h
      obtain ⟨C, dx, us, h1, h2, h3⟩ := s.ob i _ q
      exact ⟨i, C, dx, us, rfl, r.1, q, r.2, h1, h2, h3⟩
    · cases h
  | _ => cases h
end
section
variable {X : Cx} {W : WX} {e a b c : Expr} {es : List Expr} {m ma mb mc : ME} {pos : Pos} {cn f : Str} {C : Addr}
/-- e.f -/
theorem e_fld (hm : X.mg cn = some (.ref C)) (hc : Cls X.K C) (hn : NoAttr X.K C f) (he : PEm X W e m) (hb : attributeBase e f X.env (eval e X.env) = eval e X.env := by rfl) : PEm X W (.Attribute e f pos) (m1 (getF cn f) m) := PE.imp (pe_fld he hb) fun σ H Q h => by
  obtain ⟨ρ, S, L, s, l, p⟩ := m1_of h
  refine ⟨ρ, S, L, s, l, p.mono fun u H1 ⟨ρ1, S1, x, s1, v, q⟩ => ?_⟩
  unfold getF at q
  split at q
  · rename_i c' fs qi
    obtain ⟨i, C', dx, us, rfl, hi, hs, rfl, g1, g2, g3⟩ := insAt_of s1 v qi
    by_cases hcn : c' = cn
    · subst hcn
      rw [bite_pos (by simp)] at q
      rw [hm] at g1
      cases g1
      have lk := g3.lookup (f := f)
      split at lk
      · rename_i v' u' e1 e2
        rw [e1] at q
        exact ⟨_, C, dx, us, u', rfl, g2, hc, hn, e2, Post.here (rel := relV X.K) s1 q lk⟩
      · rename_i e1 e2
        rw [e1] at q
        exact q.elim
      · exact lk.elim
    · rw [bite_neg (by simpa using hcn)] at q
      exact q.elim
  · exact q.elim
/-- o.f = e -/
theorem put_of {σ : L2.St} {ρ : Rho} {S : Store} {H : Hp} {x : Val} {u : V} {y : Val} {w : V} {L : Loc} {D : Ends} (hm : X.mg cn = some (.ref C)) (s : SR X.K X.mg ρ S H) (l : LR X.K ρ S.length H L σ) (r : VR X.K ρ S.length H x u) (ry : VR X.K ρ S.length H y w)
    (h : PostF X.K X.mg W ρ S H (thenF L (noExn (putFld cn f y x S)) fun _ S3 => .nx L S3) D) : ∃ a dx us, u = .ref a ∧ H a = some (.ins C dx us) ∧ us.length < 1000 ∧ D.nx σ (upd H a (.ins C dx (putF f w us))) := by
  cases x with
  | ref i =>
    simp only [putFld] at h
    split at h
    · rename_i c' fs q
      obtain ⟨C', dx, us, g1, g2, g3⟩ := s.ob i _ q
      have hi : i < S.length := (List.getElem?_eq_some_iff.mp q).1
      by_cases hcn : c' = cn
      · subst hcn
        rw [hm] at g1
        cases g1
        by_cases hl : fs.length < 1000
        · rw [bite_pos (by simp [hl])] at h
          simp only [VR] at r
          refine ⟨ρ i, dx, us, r.2, g2, by rw [← g3.len]; exact hl, ?_⟩
          have e : Ext ρ S H ρ (S.set i (.ins c' (setF f y fs))) (upd H (ρ i) (.ins C dx (putF f w us))) := Ext.put hi
          have s' : SR X.K X.mg ρ (S.set i (.ins c' (setF f y fs))) (upd H (ρ i) (.ins C dx (putF f w us))) := s.put hi ⟨C, dx, _, hm, upd_same, by
            have := KR.ext s e (g3.set (f := f) ry)
            simpa using this⟩
          exact h ρ _ σ e s' (l.ext s e)
        · rw [bite_neg (by simp [hl])] at h
          exact h.elim
      · rw [bite_neg (by simp [hcn])] at h
        exact h.elim
    · exact h.elim
  | _ => exact h.elim
theorem s_fld {o value : Expr} {mo mv : ME} {pos' : Pos} (hm : X.mg cn = some (.ref C)) (hc : Cls X.K C) (hn : NoAttr X.K C f) (ho : PEm X W o mo) (hv : PEm X W value mv) (hs : swapsWith value (some (.Attribute o f pos')) pos.line X.env = pure false := by rfl) :
    PSm X W (.Assign [.Attribute o f pos'] value pos) (Mp.sFld cn f mo mv) := PS.imp (ps_fld ho hv hs) fun D σ H ⟨ρ, S, L, s, l, h⟩ =>
  TEm.then s l h fun ρ1 S1 y w H1 s1 l1 e1 v1 h => TEm.then s1 l1 h fun ρ2 S2 x u H2 s2 l2 e2 v2 h => by
    obtain ⟨a, dx, us, rfl, g2, g3, g4⟩ := put_of hm s2 l2 v2 (VR.ext s1 e2 _ _ v1) h
    exact ⟨a, C, dx, us, rfl, g2, hc, hn, g3, g4⟩
theorem s_fldAug {o value : Expr} {mo mv : ME} {tpos : Pos} {op : Operator} {p : P2} (hm : X.mg cn = some (.ref C)) (hc : Cls X.K C) (hn : NoAttr X.K C f) (ho : PEm X W o mo) (hv : PEm X W value mv) (hop : OpS X (inplaceOp op) p) :
    PSm X W (.AugAssign (.Attribute o f tpos) op value pos) (Mp.sFldAug cn f mo mv p) := PS.imp (ps_fldaug ho hv (show InOp X op (rP2 X p) from fun pins s σ H x y u v Q I rx ry q => hop pins s σ H x y u v Q I rx ry q)) fun D σ H ⟨ρ, S, L, s, l, h⟩ =>
  TEm.then s l h fun ρ1 S1 x u H1 s1 l1 e1 v1 h => by
    have h := PostF.quiet (rel := relV X.K) (σ := σ) h
    unfold getF at h
    split at h
    · rename_i c' fs qi
      obtain ⟨i, C', dx, us, rfl, hi, hs, rfl, g1, g2, g3⟩ := insAt_of s1 v1 qi
      by_cases hcn : c' = cn
      · subst hcn
        rw [bite_pos (by simp)] at h
        rw [hm] at g1
        cases g1
        have lk := g3.lookup (f := f)
        split at lk
        · rename_i v' u' q1 q2
          rw [q1] at h
          obtain ⟨ρ2, S2, y2, e2, e2', s2, v2, h⟩ := Post.here (rel := relV X.K) s1 h lk
          cases e2
          have l2 := l1.ext s1 e2'
          refine ⟨_, C, dx, us, u', rfl, g2, hc, hn, q2, TEm.then s2 l2 h fun ρ3 S3 z w H3 s3 l3 e3 v3 h => ?_⟩
          refine ⟨ρ3, S3, v', z, s3, VR.ext s2 e3 _ _ v2, v3, (PostF.quiet (rel := relV X.K) h).mono ?_⟩
          rintro t H4 ⟨ρ4, S4, t4, _, e4, s4, v4, h⟩
          have r4 := VR.ext s3 e4 _ _ (VR.ext s2 e3 _ _ (VR.ext s1 e2' _ _ v1))
          obtain ⟨a, dx', us', ea, g2', g3', g4'⟩ := put_of (σ := σ) hm s4 (l3.ext s3 e4) r4 v4 h
          cases ea
          exact ⟨dx', us', g2', g3', g4'⟩
        · rename_i q1 q2
          rw [q1] at h
          exact h.elim
        · exact lk.elim
      · rw [bite_neg (by simpa using hcn)] at h
        exact h.elim
    · exact h.elim
/-! ### defs and their calls -/
/-- the promise of a def that does what f says -/
def spM (K : PySem.W.Frag) (mg : Str → Option Value) (np : Nat) (f : Fn) : Sp := fun us H Q E => ∃ ρ S vs, vs.length = np ∧ SR K mg ρ S H ∧ VRs K ρ S.length H vs us ∧ Post K mg (relV K) (fun cls d _ H' => E cls d H') ρ S H [] (f vs S) Q
theorem Post.wish {α β : Type} {K : PySem.W.Frag} {mg : Str → Option Value} {rel : Rel α β} {ρ : Rho} {S : Store} {H : Hp} {σ σ' : L2.St} {W W' : WX} {r : R α} {Q : β → Hp → Prop} (h : Post K mg rel W ρ S H σ r Q) (w : ∀ cls d H', W cls d σ H' → W' cls d σ' H') : Post K mg rel W' ρ S H σ' r Q := by
  cases r with
  | ok a S' => exact h
  | exn x S' => exact fun ρ' H' c d e s q => w _ _ _ (h ρ' H' c d e s q)
  | bad => exact h
/-- what is known of a def at a name of the module -/
structure DefAt (P : Program) (w : World) (K : PySem.W.Frag) (mg : Str → Option Value) (base : Heap) (k : Nat) (x : Str) (np : Nat) (f : Fn) : Prop where
  ex : ∃ fa fd ps, ps.length = np ∧ mg x = some (.ref fa) ∧ PySem.W.keepIn K (.ref fa) = true ∧ Binds K fd ps [] ∧ FnOk P w K mg base (L2.CX P w) k fa fd ps (spM K mg np f)
theorem fn_len {f : Fn} {np : Nat} (hf : ∀ vs S, vs.length ≠ np → f vs S = .bad) {K : PySem.W.Frag} {mg : Str → Option Value} {ρ : Rho} {S : Store} {H : Hp} {σ : L2.St} {W : WX} {vs : List Val} {Q : VK} (h : Post K mg (relV K) W ρ S H σ (f vs S) Q) : vs.length = np := by
  by_cases z : vs.length = np
  · exact z
  · rw [hf vs S z] at h
    exact h.elim
theorem fDef_len {n np : Nat} {b : MS} : ∀ vs S, vs.length ≠ np → fDef n np b vs S = .bad := fun vs S h => by
  unfold fDef
  rw [bite_neg (by simpa using h)]
theorem call_of {σ : L2.St} {H : Hp} {Q : VK} {a : MA} {g : Fn} {np : Nat} (hg : ∀ vs S, vs.length ≠ np → g vs S = .bad) (h : TEm X.K X.mg W (mA g a) σ H Q) : tCallS (spM X.K X.mg np g) (WE W) (TAm X.K X.mg W a) σ H Q := by
  obtain ⟨ρ, S, L, s, l, h⟩ := h
  exact TAm.bind s l h fun ρ1 S1 vs us H1 s1 l1 e v q => ⟨ρ1, S1, vs, fn_len hg q, s1, v, q.wish fun _ _ _ z => z⟩
theorem e_call {x : Str} {k np : Nat} {g : Fn} {a : MA} {p : Pos} (D : DefAt X.prog X.w X.K X.mg X.base k x np g) (hl : ∀ vs S, vs.length ≠ np → g vs S = .bad) (tk : Takes X W) (hr : Room k X.A) (hg : Gl X x) (ha : PAm X W (e :: es) a) (hdb : (x == ("__debug__" : Str)) = false := by decide)
    (he : starEach (e :: es) X.env = (false, eval e X.env) :: starEach es X.env := by rfl) (hpl : (backTo pos (starEach es X.env)).any (·.1) = false := by rfl) : PEm X W (.Call (.Name x p) (e :: es) [] pos) (mA g a) := by
  obtain ⟨fa, fd, ps, hp, hm, kp, hb, G⟩ := D.ex
  exact PE.imp (pe_callS G hr hg hm kp hb (fun σ => passAt tk σ) ha hdb he hpl) fun σ H Q h => call_of hl h
theorem e_call0 {x : Str} {k : Nat} {g : Fn} {p : Pos} (D : DefAt X.prog X.w X.K X.mg X.base k x 0 g) (tk : Takes X W) (hr : Room k X.A) (hg : Gl X x) (hdb : (x == ("__debug__" : Str)) = false := by decide) : PEm X W (.Call (.Name x p) [] [] pos) (mA g aNil) := by
  obtain ⟨fa, fd, ps, hp, hm, kp, hb, G⟩ := D.ex
  refine ⟨fun pins s σ H Q I h => ?_⟩
  obtain ⟨ρ, S, L, sr, l, h⟩ := h
  refine wpAny_Call_Name_kw (ld_glob I hg hm ?_ hdb)
  exact PySem.W.callWith_K0 I.kIn kp (run_fnS (us := []) (vs := []) (E := fun σ => WE W σ) G hr hb (passAt tk σ) I .nil ⟨ρ, S, [], rfl, sr, VRs.nil, h.wish fun _ _ _ z => z⟩)
/-- what is known of a method -/
structure MethAt (P : Program) (w : World) (K : PySem.W.Frag) (mg : Str → Option Value) (base : Heap) (k : Nat) (cn m : Str) (np : Nat) (f : Fn) : Prop where
  ex : ∃ C fa fd ps, ps.length = np ∧ mg cn = some (.ref C) ∧ Cls K C ∧ Meth K C m fa ∧ Binds K fd ps [] ∧ FnOk P w K mg base (L2.CX P w) k fa fd ps (spM K mg np f)
theorem meth_of {σ : L2.St} {ρ : Rho} {S : Store} {H : Hp} {x : Val} {u : V} {mn : Str} {C : Addr} {a : MA} {L : Loc} {Q : VK} {g : Fn} (hm : X.mg cn = some (.ref C)) (s : SR X.K X.mg ρ S H) (l : LR X.K ρ S.length H L σ) (r : VR X.K ρ S.length H x u)
    (h : Post X.K X.mg (relV X.K) W ρ S H σ (match insAt x S with
      | some (c', fs) => bite (decide (c' = cn) && (fs.lookup mn).isNone) ((a L S).bind fun vs S2 => g (x :: vs) S2) .bad
      | none => .bad) Q) : ∃ i dx us, x = .ref i ∧ u = .ref (ρ i) ∧ H (ρ i) = some (.ins C dx us) ∧ us.lookup mn = none ∧ Post X.K X.mg (relV X.K) W ρ S H σ ((a L S).bind fun vs S2 => g (x :: vs) S2) Q := by
  split at h
  · rename_i c' fs qi
    obtain ⟨i, C', dx, us, rfl, hi, hs, rfl, g1, g2, g3⟩ := insAt_of s r qi
    by_cases hcn : c' = cn
    · subst hcn
      rw [hm] at g1
      cases g1
      have lk := g3.lookup (f := mn)
      split at lk
      · rename_i v' u' q1 q2
        rw [bite_neg (by simp [q1])] at h
        exact h.elim
      · rename_i q1 q2
        rw [bite_pos (by simp [q1])] at h
        exact ⟨i, dx, us, rfl, rfl, g2, q2, h⟩
      · exact lk.elim
    · rw [bite_neg (by simp [hcn])] at h
      exact h.elim
  · exact h.elim
theorem e_meth {o : Expr} {mo : ME} {mn : Str} {k np : Nat} {g : Fn} {a : MA} {apos : Pos} {pl : Sem Bool} (D : MethAt X.prog X.w X.K X.mg X.base k cn mn np g) (hl : ∀ vs S, vs.length ≠ np → g vs S = .bad) (tk : Takes X W) (hr : Room k X.A) (ho : PEm X W o mo) (ha : PAm X W (e :: es) a)
    (hst : starEach (e :: es) X.env = (false, eval e X.env) :: starEach es X.env := by rfl) (hpl : (backTo pos (starEach es X.env)).any (·.1) = false := by rfl)
    (ht : eval (.Call (.Attribute o mn apos) (e :: es) [] pos) X.env = (do
      let ov ← eval o X.env
      standAt apos.atName
      let (f, first) ← holding [ov] (getMethod ov mn pl)
      callWith pos f first (backTo pos (starEach (e :: es) X.env)) (backToKw pos (keywordEach [] X.env))) := by rfl) : PEm X W (.Call (.Attribute o mn apos) (e :: es) [] pos) (mMeth cn mn g mo a) := by
  obtain ⟨C, fa, fd, ps, hp, hm, hc, hme, hb, G⟩ := D.ex
  refine ⟨fun pins s σ H Q I h => ?_⟩
  obtain ⟨ρ, S, L, sr, l, h⟩ := h
  have h := Post.bind (rel1 := relV X.K) h
  refine PySem.W.methodCall_KW (pl := pl) (thn (ho.run pins s σ H _ I ⟨ρ, S, L, sr, l, h⟩) fun u s1 hh => ?_) ht
  obtain ⟨x, H1, I1, rx, ρ1, S1, xv, _, e1, s1r, v1, h⟩ := hh
  have l1 := l.ext sr e1
  obtain ⟨i, dx, us, rfl, rfl, g2, g3, h⟩ := meth_of (W := W) hm s1r l1 v1 h
  obtain rfl : u = Value.ref (ρ1 i) := rx
  refine getmeth_ok I1 g2 hc hme g3 ?_
  have h := Post.bind (rel1 := relVs X.K) h
  refine PySem.W.callWith_K (first := [.ref (ρ1 i)]) (h₀ := X.base) I.ok.mod.kin hme.kp (thn (ha.run pos pins s1 σ H1 _ I1 ⟨ρ1, S1, L, s1r, l1, h⟩) fun us2 s2 hh => ?_) hst hpl
  obtain ⟨vs, H2, I2, r, ρ2, S2, xs, _, e2, s2r, v2, h⟩ := hh
  refine ⟨I2.kIn, ?_⟩
  have hx := VR.ext s1r e2 _ _ v1
  exact run_fnS (us := .ref (ρ1 i) :: us2) (vs := .ref (ρ1 i) :: vs) (E := fun σ => WE W σ) G hr hb (passAt tk σ) I2 (.cons rfl r) ⟨ρ2, S2, _, fn_len hl h, s2r, VRs.cons hx v2, h.wish fun _ _ _ z => z⟩
theorem e_meth0 {o : Expr} {mo : ME} {mn : Str} {k : Nat} {g : Fn} {apos : Pos} {pl : Sem Bool} (D : MethAt X.prog X.w X.K X.mg X.base k cn mn 1 g) (hl : ∀ vs S, vs.length ≠ 1 → g vs S = .bad) (tk : Takes X W) (hr : Room k X.A) (ho : PEm X W o mo)
    (ht : eval (.Call (.Attribute o mn apos) [] [] pos) X.env = (do
      let ov ← eval o X.env
      standAt apos.atName
      let (f, first) ← holding [ov] (getMethod ov mn pl)
      callWith pos f first (backTo pos (starEach [] X.env)) (backToKw pos (keywordEach [] X.env))) := by rfl) : PEm X W (.Call (.Attribute o mn apos) [] [] pos) (mMeth cn mn g mo aNil) := by
  obtain ⟨C, fa, fd, ps, hp, hm, hc, hme, hb, G⟩ := D.ex
  refine ⟨fun pins s σ H Q I h => ?_⟩
  obtain ⟨ρ, S, L, sr, l, h⟩ := h
  have h := Post.bind (rel1 := relV X.K) h
  refine PySem.W.methodCall_KW (pl := pl) (thn (ho.run pins s σ H _ I ⟨ρ, S, L, sr, l, h⟩) fun u s1 hh => ?_) ht
  obtain ⟨x, H1, I1, rx, ρ1, S1, xv, _, e1, s1r, v1, h⟩ := hh
  have l1 := l.ext sr e1
  obtain ⟨i, dx, us, rfl, rfl, g2, g3, h⟩ := meth_of (W := W) hm s1r l1 v1 h
  obtain rfl : u = Value.ref (ρ1 i) := rx
  refine getmeth_ok I1 g2 hc hme g3 ?_
  exact PySem.W.callWith_K0 (first := [.ref (ρ1 i)]) I1.kIn hme.kp (run_fnS (us := [.ref (ρ1 i)]) (vs := [.ref (ρ1 i)]) (E := fun σ => WE W σ) G hr hb (passAt tk σ) I1 (.cons rfl .nil) ⟨ρ1, S1, _, rfl, s1r, VRs.cons v1 VRs.nil, h.wish fun _ _ _ z => z⟩)
/-- what is known of a class with an __init__ -/
structure MakeAt (P : Program) (w : World) (K : PySem.W.Frag) (mg : Str → Option Value) (base : Heap) (k : Nat) (cn : Str) (np : Nat) (f : Fn) : Prop where
  ex : ∃ C fa fd ps, ps.length = np + 1 ∧ mg cn = some (.ref C) ∧ Mk K C fa ∧ Binds K fd ps [] ∧ FnOk P w K mg base (L2.CX P w) k fa fd ps (spM K mg (np + 1) f)
/-- like run_make, what is raised wished for at the slots -/
theorem run_makeS {CX : CXT} {k : Nat} {f : Addr} {fd : FuncData} {ps : List Str} {sp : Sp} {E : L2.St → XK} {pins : List (Addr × Obj)} {σ : L2.St} {H : Hp} {s : Shared} {Q : VK} {us : List Value} {vs : List V} (M : Mk X.K C f) (F : FnOk X.prog X.w X.K X.mg X.base CX k f fd ps sp) (hr : Room (k + 1) X.A) (hb : Binds X.K fd ps [])
    (hx : PassesAt CX X σ (E σ)) (I : Inv X pins σ H s) (r : Vals vs us)
    (h : ∀ x dx, H x = none → H dx = none → dx ≠ x → sp (.ref x :: vs) (upd (upd H dx (.own x)) x (.ins C dx [])) (fun v H2 => v = .non ∧ Q (.ref x) H2) (E σ)) :
    wpAny (model X.prog X.w) X.A (call (.ref C) us) (EP X pins σ Q) X.xe s := by
  have hq := h (s.heap.objs.size + 1) s.heap.objs.size (I.hok.fresh (Nat.le_succ _)) (I.hok.fresh (Nat.le_refl _)) (Nat.ne_of_lt (Nat.lt_succ_self _))
  have I2 := Inv.made (C := C) I
  have r2 : Vals (V.ref (s.heap.objs.size + 1) :: vs) (Value.ref (s.heap.objs.size + 1) :: us) := .cons rfl r
  have hl : (Value.ref (s.heap.objs.size + 1) :: us ++ []).length = ps.length := by
    have e := r2.length
    rw [F.len _ _ _ _ hq] at e
    rw [List.append_nil]
    exact e.symm
  have hb' := hb _ (Value.ref (s.heap.objs.size + 1) :: us) I2.kIn hl
  rw [List.append_nil] at hb'
  refine wpAny_call (make_map (f := f) I.kIn M.makes M.init (beq_iff_eq.mp M.fn) (codeAny_mono (F.run _ X.stack _ _ ⟨Value.ref (s.heap.objs.size + 1) :: us, []⟩ (Value.ref (s.heap.objs.size + 1) :: us) _ _ (E σ) (hr.make C us [])
    (I2.env0.make C us []) hb' r2 hq) fun r s' hq' => ?_))
  cases r with
  | error e => exact hx pins _ _ e s' I2 hq'
  | ok fl =>
    cases fl with
    | ret u =>
      obtain ⟨v, H', I3, rv, ev, q3⟩ := I2.after hq'
      subst ev
      exact ⟨rv, ⟨V.ref (s.heap.objs.size + 1), H', I3, rfl, q3⟩⟩
    | next => exact False.elim hq'
    | brk => exact False.elim hq'
    | cont => exact False.elim hq'
theorem make_of {σ : L2.St} {ρ : Rho} {S : Store} {H : Hp} {vs : List Val} {us : List V} {Q : VK} {g : Fn} {np : Nat} (hm : X.mg cn = some (.ref C)) (hl : ∀ vs S, vs.length ≠ np + 1 → g vs S = .bad) (s : SR X.K X.mg ρ S H) (v : VRs X.K ρ S.length H vs us)
    (h : Post X.K X.mg (relV X.K) W ρ S H σ (fMake cn g vs S) Q) : ∀ x dx, H x = none → H dx = none → dx ≠ x → spM X.K X.mg (np + 1) g (.ref x :: us) (upd (upd H dx (.own x)) x (.ins C dx [])) (fun v H2 => v = .non ∧ Q (.ref x) H2) (fun cls d H' => W cls d σ H') := by
  intro x dx hx hdx hne
  have sd : SR X.K X.mg ρ S (upd H dx (.own x)) := s.side hdx
  have ed : Ext ρ S H ρ S (upd H dx (.own x)) := Ext.side hdx
  have hx' : upd H dx (.own x) x = none := by rw [upd_ne (Ne.symm hne)]; exact hx
  have s1 : SR X.K X.mg (newRho ρ S.length x) (S ++ [.ins cn []]) (upd (upd H dx (.own x)) x (.ins C dx [])) := sd.new hx' ⟨C, dx, [], hm, upd_same, rfl, by simp [VRs]⟩
  have e1 : Ext ρ S (upd H dx (.own x)) (newRho ρ S.length x) (S ++ [.ins cn []]) (upd (upd H dx (.own x)) x (.ins C dx [])) := Ext.new hx'
  have e2 := Ext.trans sd ed e1
  have hn : (S ++ [Ob.ins cn []]).length = S.length + 1 := by simp
  have h2 : Post X.K X.mg (relV X.K) W (newRho ρ S.length x) (S ++ [.ins cn []]) (upd (upd H dx (.own x)) x (.ins C dx [])) σ (fMake cn g vs S) Q := h.step s1 e2
  unfold fMake at h2
  have h3 := Post.bind (rel1 := relV X.K) h2
  have v0 : VR X.K (newRho ρ S.length x) (S ++ [Ob.ins cn []]).length (upd (upd H dx (.own x)) x (.ins C dx [])) (.ref S.length) (.ref x) := by
    simp only [VR, newRho_same]; exact ⟨by simp, trivial⟩
  refine ⟨_, _, _, fn_len hl h3, s1, VRs.cons v0 (VRs.ext s e2 _ _ v), (h3.wish fun _ _ _ z => z).mono ?_⟩
  rintro w H2 ⟨ρ2, S2, a, _, e3, s2, v2, h4⟩
  cases a with
  | non =>
    refine ⟨by simpa [relV, VR] using v2, ?_⟩
    refine Post.here (rel := relV X.K) s2 h4 ?_
    exact VR.ext s1 e3 _ _ v0
  | _ => exact h4.elim
theorem e_make {k np : Nat} {g : Fn} {a : MA} {p : Pos} (D : MakeAt X.prog X.w X.K X.mg X.base k cn np g) (hl : ∀ vs S, vs.length ≠ np + 1 → g vs S = .bad) (tk : Takes X W) (hr : Room (k + 1) X.A) (hg : Gl X cn) (ha : PAm X W (e :: es) a) (hdb : (cn == ("__debug__" : Str)) = false := by decide)
    (he : starEach (e :: es) X.env = (false, eval e X.env) :: starEach es X.env := by rfl) (hpl : (backTo pos (starEach es X.env)).any (·.1) = false := by rfl) : PEm X W (.Call (.Name cn p) (e :: es) [] pos) (mA (fMake cn g) a) := by
  obtain ⟨C, fa, fd, ps, hp, hm, M, hb, G⟩ := D.ex
  refine ⟨fun pins s σ H Q I h => ?_⟩
  obtain ⟨ρ, S, L, sr, l, h⟩ := h
  refine wpAny_Call_Name_kw (ld_glob I hg hm ?_ hdb)
  have h := Post.bind (rel1 := relVs X.K) h
  refine PySem.W.callWith_K (h₀ := X.base) I.ok.mod.kin M.kp (thn (ha.run pos pins s σ H _ I ⟨ρ, S, L, sr, l, h⟩) fun us s1 hh => ?_) he hpl
  obtain ⟨vs, H1, I1, r, ρ1, S1, xs, _, e1, s1r, v1, h⟩ := hh
  exact ⟨I1.kIn, run_makeS (E := fun σ => WE W σ) M G hr hb (passAt tk σ) I1 r (make_of hm hl s1r v1 h)⟩
theorem e_make0 {k : Nat} {g : Fn} {p : Pos} (D : MakeAt X.prog X.w X.K X.mg X.base k cn 0 g) (hl : ∀ vs S, vs.length ≠ 1 → g vs S = .bad) (tk : Takes X W) (hr : Room (k + 1) X.A) (hg : Gl X cn) (hdb : (cn == ("__debug__" : Str)) = false := by decide) : PEm X W (.Call (.Name cn p) [] [] pos) (mA (fMake cn g) aNil) := by
  obtain ⟨C, fa, fd, ps, hp, hm, M, hb, G⟩ := D.ex
  refine ⟨fun pins s σ H Q I h => ?_⟩
  obtain ⟨ρ, S, L, sr, l, h⟩ := h
  refine wpAny_Call_Name_kw (ld_glob I hg hm ?_ hdb)
  exact PySem.W.callWith_K0 I.kIn M.kp (run_makeS (E := fun σ => WE W σ) (us := []) (vs := []) M G hr hb (passAt tk σ) I .nil (make_of (vs := []) hm hl sr VRs.nil h))
/-- a built-in by its name; a built-in class -/
theorem e_blt {x : Str} {id : String} {g : Fn} {a : MA} {p : Pos} (hc : CallR X (.builtin id) (rF X g)) (hg : Gl X x) (hm : X.mg x = none) (hv : bootBuiltins x = some (.builtin id)) (ha : PAm X W (e :: es) a) (hn : x ≠ "__name__" := by decide) (hdb : (x == ("__debug__" : Str)) = false := by decide)
    (he : starEach (e :: es) X.env = (false, eval e X.env) :: starEach es X.env := by rfl) (hpl : (backTo pos (starEach es X.env)).any (·.1) = false := by rfl) : PEm X W (.Call (.Name x p) (e :: es) [] pos) (mB g a) := PE.imp (pe_callB hc hg hm hv ha hn hdb he hpl) fun _ _ _ => mB_of
theorem e_ty {x : Str} {T : String} {g : Fn} {a : MA} {p : Pos} (hc : CallR X (.type T) (rF X g)) (hg : Gl X x) (hm : X.mg x = none) (hv : bootBuiltins x = some (.type T)) (ha : PAm X W (e :: es) a) (hn : x ≠ "__name__" := by decide) (hdb : (x == ("__debug__" : Str)) = false := by decide)
    (he : starEach (e :: es) X.env = (false, eval e X.env) :: starEach es X.env := by rfl) (hpl : (backTo pos (starEach es X.env)).any (·.1) = false := by rfl) : PEm X W (.Call (.Name x p) (e :: es) [] pos) (mB g a) := PE.imp (pe_callTy hc hg hm hv ha hn hdb he hpl) fun _ _ _ => mB_of
end
end Mp

/-! Mp5: loops, comprehensions, raise, try, defs. -/
namespace Mp
open PySem PySem.Spec L2
/-- what is walked: the layer's turns are the items, one by one, as long as what is to be kept is kept -/
def ItR (K : PySem.W.Frag) (mg : Str → Option Value) : Rel It L2.It := fun ρ0 S0 H0 it J => ∀ ρ S H, Ext ρ0 S0 H0 ρ S H → SR K mg ρ S H → it.keep S → ∀ i : Nat,
  (∀ x, it.items[i]? = some x → J.go i H ∧ ∀ u H', J.yld i H u H' → Ext ρ S H ρ S H' ∧ SR K mg ρ S H' ∧ VR K ρ S.length H' x u) ∧ (it.items[i]? = none → J.stop i H)
def TIm (K : PySem.W.Frag) (mg : Str → Option Value) (W : WX) (mi : MI) : TI := fun σ H R => ∃ ρ S L, SR K mg ρ S H ∧ LR K ρ S.length H L σ ∧ Post K mg (ItR K mg) W ρ S H σ (mi L S) R
abbrev PIm (X : Cx) (W : WX) (tg e : Expr) (mi : MI) : Prop := PI X tg e (TIm X.K X.mg W mi)
theorem PI.imp {X : Cx} {tg e : Expr} {t t' : TI} (h : PI X tg e t) (i : ∀ σ H R, t' σ H R → t σ H R) : PI X tg e t' := ⟨fun pins s σ H R I q => h.run pins s σ H R I (i σ H R q)⟩
section
variable {X : Cx} {W : WX} {e a b c : Expr} {es : List Expr} {m ma mb mc : ME} {pos : Pos} {st : Stmt} {sts rest : List Stmt} {k k1 k2 : MS}
theorem Ext.keepEq {ρ ρ' : Rho} {S S' : Store} {H H' : Hp} (e : Ext ρ S H ρ' S' H') {i : Nat} (hi : i < S.length) : ρ' i = ρ i := e.rho i hi
theorem SR.lst {K : PySem.W.Frag} {mg : Str → Option Value} {ρ : Rho} {S : Store} {H : Hp} (s : SR K mg ρ S H) {i : Nat} {xs : List Val} (q : S[i]? = some (.lst xs)) : ∃ us, H (ρ i) = some (.lst us) ∧ VRs K ρ S.length H xs us := s.ob i _ q
theorem SqL.inj_of {K : PySem.W.Frag} {X : Cx} {pins : List (Addr × Obj)} {σ : L2.St} {H : Hp} {s : Shared} : True := trivial
/-- the walk by values: iter(v) -/
theorem i_val {tg : Expr} (hl : PEm X W e m) : PIm X W tg e (iV m) := by
  refine ⟨fun pins s σ H R I h => ?_⟩
  obtain ⟨ρ, S, L, sr, l, h⟩ := h
  refine thn (hl.run pins s σ H _ I ⟨ρ, S, L, sr, l, Post.bind (rel1 := relV X.K) h⟩) fun v s1 hh => ?_
  obtain ⟨x, H1, I1, r1, ρ1, S1, xv, _, e1, s1r, v1, h⟩ := hh
  have one : ∀ {fp : Addr}, fp = s1.heap.objs.size → FpOk X pins H1 fp := fun {fp} z => by
    subst z
    exact I1.fpOk (Nat.le_refl _) (I1.hok.fresh (Nat.le_refl _))
  have onlist : ∀ {ad : Addr} {us : List V} {xs : List Val} {kp : Store → Prop}, SqL X.K H1 ad us → r1 = r1 → x = .ref ad → 
      (∀ ρ S H, Ext ρ1 S1 H1 ρ S H → SR X.K X.mg ρ S H → kp S → ∃ us, SqL X.K H ad us ∧ VRs X.K ρ S.length H xs us) → Post X.K X.mg (ItR X.K X.mg) W ρ1 S1 H1 σ (.ok ⟨xs, kp⟩ S1) R → wpAny (model X.prog X.w) X.A (pyIter v) (PIE X pins σ tg R) X.xe s1 := by
    intro ad us xs kp hq _ ex hk hp
    subst ex
    cases r1
    obtain ⟨its, rv, p, hz⟩ := I1.list hq
    refine wpAny_pyIter_list p.isList ?_
    have q := Post.here (u := Itl X.K ad) s1r hp (fun ρ S H e s kpS i => by
      obtain ⟨us', hs', vs'⟩ := hk ρ S H e s kpS
      refine ⟨fun x hx => ?_, fun hx => ⟨us', hs', ?_⟩⟩
      · obtain ⟨u, hu, ru⟩ := vs'.get hx
        refine ⟨⟨us', u, hs', hu⟩, fun u2 H2 y => ?_⟩
        obtain ⟨eH, y⟩ := y
        subst eH
        have := y us' hs'
        rw [hu] at this
        cases this
        exact ⟨Ext.refl _ _ _, s, ru⟩
      · have := List.getElem?_eq_none_iff.mp hx
        rw [← vs'.length]
        exact this)
    refine ⟨s1.heap.objs.size, [s1.heap.objs.size], _, _, H1, rfl, I1.kept (t' := s1.toks) fun b o e => Heap.get?_push_of_some _ e, turn_list ad _, ⟨_, Heap.get?_push_size _ rfl, rfl, rfl⟩, fun b hb => one (by simpa using hb), q⟩
  cases xv with
  | ref i =>
    simp only [itOf] at h
    split at h
    · rename_i xs q
      obtain ⟨us, g1, g2⟩ := s1r.lst q
      have hi : i < S1.length := (List.getElem?_eq_some_iff.mp q).1
      have v1' : i < S1.length ∧ x = .ref (ρ1 i) := by simpa [relV, VR] using v1
      refine onlist (SqL.of g1) rfl v1'.2 (fun ρ S H e s kpS => ?_) h
      obtain ⟨us', g1', g2'⟩ := s.lst kpS
      rw [e.rho i hi] at g1'
      exact ⟨us', SqL.of g1', g2'⟩
    · exact h.elim
  | fl ns =>
    have v1' : ∃ a, x = .ref a ∧ FzL X.K H1 a (ns.map V.int) := by simpa [relV, VR] using v1
    obtain ⟨ad, ex, hf⟩ := v1'
    exact onlist hf.seq rfl ex (fun ρ S H e s _ => ⟨_, (e.fz s1r hf).seq, VRs.of_ints ns⟩) h
  | tup vs =>
    have v1' : ∃ a us, x = .ref a ∧ TupA X.K H1 a vs us ∧ VRs X.K ρ1 S1.length H1 vs us := by simpa [relV, VR] using v1
    obtain ⟨ad, us, ex, hq, hvs⟩ := v1'
    replace hq := hq.sq
    subst ex
    cases r1
    obtain ⟨its, rv, p, hz⟩ := I1.tuple hq
    refine wpAny_pyIter_tuple (show s1.heap.IsTuple ad its.toArray from p) ?_
    have q := Post.here (u := Itt X.K ad) s1r h (fun ρ S H e s _ i => by
      have hs' := e.tup s1r hq
      have vs' := VRs.ext s1r e _ _ hvs
      refine ⟨fun x hx => ?_, fun hx => ⟨us, hs', ?_⟩⟩
      · obtain ⟨u, hu, ru⟩ := vs'.get hx
        refine ⟨⟨us, u, hs', hu⟩, fun u2 H2 y => ?_⟩
        obtain ⟨eH, y⟩ := y
        subst eH
        have := y us hs'
        rw [hu] at this
        cases this
        exact ⟨Ext.refl _ _ _, s, ru⟩
      · have := List.getElem?_eq_none_iff.mp hx
        rw [← vs'.length]
        exact this)
    exact ⟨s1.heap.objs.size, [s1.heap.objs.size], _, _, H1, rfl, I1.kept (t' := s1.toks) fun b o e => Heap.get?_push_of_some _ e, turn_tuple ad _, ⟨_, Heap.get?_push_size _ rfl, rfl, rfl⟩, fun b hb => one (by simpa using hb), q⟩
  | str z =>
    have v1' : x = .str z := by simpa [relV, VR] using v1
    subst v1'
    obtain ⟨t, rfl⟩ := r1
    have q := Post.here (u := Its z) s1r h (fun ρ S H e s _ i => by
      refine ⟨fun x hx => ?_, fun hx => ?_⟩
      · rw [List.getElem?_map] at hx
        cases hc : z.cps.toList[i]? with
        | none => rw [hc] at hx; cases hx
        | some cc =>
          rw [hc] at hx
          cases hx
          have hlt := (List.getElem?_eq_some_iff.mp hc).1
          refine ⟨(by show i < z.cps.size; simpa using hlt), fun u2 H2 y => ?_⟩
          obtain ⟨eH, c', hc', eu⟩ := y
          subst eH
          have e3 : z.cps[i]? = some cc := by rw [← Array.getElem?_toList]; exact hc
          rw [e3] at hc'
          cases hc'
          subst eu
          exact ⟨Ext.refl _ _ _, s, by simp [VR]⟩
      · have := List.getElem?_eq_none_iff.mp hx
        show z.cps.size ≤ i
        simpa using this)
    cases ha : z.cps.all (· < 128)
    · exact wpAny_pyIter_wide ha (pi_one (tk := s1.toks) I1 _ (turn_str _ z t "str_iterator" (.inr rfl)) ⟨_, Heap.get?_push_size _ rfl, rfl, rfl⟩ q)
    · exact wpAny_pyIter_ascii ha (pi_one (tk := s1.toks) I1 _ (turn_str _ z t "str_ascii_iterator" (.inl rfl)) ⟨_, Heap.get?_push_size _ rfl, rfl, rfl⟩ q)
  | _ => exact h.elim
/-! ### for, while -/
theorem for_of {mi : MI} {g : MG} {D : Ends} {σ : L2.St} {H : Hp} (h : TSm X.K X.mg W (Mp.sFor mi g k) D σ H) : tFor (TIm X.K X.mg W mi) (TGm X.K X.mg anyStep g) (TSm X.K X.mg W k) D σ H := by
  obtain ⟨ρ, S, L, s, l, h⟩ := h
  refine ⟨ρ, S, L, s, l, (PostF.then (rel := ItR X.K X.mg) s l h).mono ?_⟩
  rintro J H1 ⟨ρ1, S1, it, _, e1, s1, hJ, h⟩
  have l1 := l.ext s e1
  refine ⟨fun i n σ' H' => i + n = it.items.length ∧ ∃ ρ2 S2 L2, Ext ρ1 S1 H1 ρ2 S2 H' ∧ SR X.K X.mg ρ2 S2 H' ∧ LR X.K ρ2 S2.length H' L2 σ' ∧ PostF X.K X.mg W ρ2 S2 H' (forLoop it.keep g k (it.items.drop i) L2 S2) D,
    ⟨it.items.length, by simp, ρ1, S1, L, Ext.refl _ _ _, s1, l1, by simpa using h⟩, ?_⟩
  rintro i n σ2 H2 ⟨hn, ρ2, S2, L2, e2, s2, l2, h⟩
  cases hd : it.items.drop i with
  | nil =>
    rw [hd] at h
    unfold forLoop at h
    by_cases kp : it.keep S2
    · rw [gate_pos kp] at h
      have hx : it.items[i]? = none := by
        have := congrArg List.length hd
        simp at this
        simp
        omega
      exact .inl ⟨(hJ ρ2 S2 H2 e2 s2 kp i).2 hx, PostF.nxHere s2 l2 h⟩
    · rw [gate_neg kp] at h
      exact h.elim
  | cons x xs =>
    rw [hd] at h
    unfold forLoop at h
    have hx : it.items[i]? = some x := by
      have : (it.items.drop i)[0]? = some x := by rw [hd]; rfl
      simpa using this
    have hlt := (List.getElem?_eq_some_iff.mp hx).1
    have hxs : it.items.drop (i + 1) = xs := by
      have : (it.items.drop i).drop 1 = xs := by rw [hd]; rfl
      rw [List.drop_drop] at this
      exact this
    by_cases kp : it.keep S2
    · rw [gate_pos kp] at h
      obtain ⟨go, yl⟩ := (hJ ρ2 S2 H2 e2 s2 kp i).1 x hx
      refine .inr ⟨go, fun σ' H' => i + 1 + (n - 1) = it.items.length ∧ ∃ ρ3 S3 L3, Ext ρ1 S1 H1 ρ3 S3 H' ∧ SR X.K X.mg ρ3 S3 H' ∧ LR X.K ρ3 S3.length H' L3 σ' ∧ PostF X.K X.mg W ρ3 S3 H' (forLoop it.keep g k (it.items.drop (i + 1)) L3 S3) D,
        fun σ' H' q => ⟨n - 1, by omega, q⟩, fun u H' y => ?_⟩
      obtain ⟨ey, sy, vy⟩ := yl u H' y
      have ly := l2.ext s2 ey
      have e2y := Ext.trans s2 e2 ey
      refine ⟨ρ2, S2, L2, x, sy, ly, vy, ?_⟩
      cases hg : g x L2 S2 with
      | ok L3 S3 =>
        rw [hg] at h
        intro ρ3 H3 σ3 e3 s3 ⟨l3, _⟩
        refine ⟨ρ3, S3, L3, s3, l3, ?_⟩
        have h' : PostF X.K X.mg W ρ2 S2 H2 (turn (k L3 S3) (forLoop it.keep g k xs)) D := h
        cases hk : k L3 S3 with
        | nx L4 S4 =>
          rw [hk] at h'
          exact fun ρ4 H4 σ4 e4 s4 l4 => ⟨by omega, ρ4, S4, L4, Ext.trans s3 (Ext.trans sy e2y e3) e4, s4, l4, by rw [hxs]; exact PostF.step s4 (Ext.trans s3 (Ext.trans sy ey e3) e4) h'⟩
        | ct L4 S4 =>
          rw [hk] at h'
          exact fun ρ4 H4 σ4 e4 s4 l4 => ⟨by omega, ρ4, S4, L4, Ext.trans s3 (Ext.trans sy e2y e3) e4, s4, l4, by rw [hxs]; exact PostF.step s4 (Ext.trans s3 (Ext.trans sy ey e3) e4) h'⟩
        | bk L4 S4 =>
          rw [hk] at h'
          exact fun ρ4 H4 σ4 e4 s4 l4 => h' ρ4 H4 σ4 (Ext.trans s3 (Ext.trans sy ey e3) e4) s4 l4
        | rt v S4 =>
          rw [hk] at h'
          exact fun ρ4 H4 σ4 e4 s4 l4 => h' ρ4 H4 σ4 (Ext.trans s3 (Ext.trans sy ey e3) e4) s4 l4
        | exn x4 L4 S4 =>
          rw [hk] at h'
          exact fun ρ4 H4 σ4 c d e4 s4 l4 q4 => h' ρ4 H4 σ4 c d (Ext.trans s3 (Ext.trans sy ey e3) e4) s4 l4 q4
        | bad =>
          rw [hk] at h'
          exact h'.elim
      | exn x4 S3 =>
        rw [hg] at h
        exact h.elim
      | bad =>
        rw [hg] at h
        exact h.elim
    · rw [gate_neg kp] at h
      exact h.elim
theorem s_for {tg iter : Expr} {mi : MI} {g : MG} (hp : PassesOwn (model X.prog X.w) X.A X.env X.xe) (hc : X.calm = true) (hi : PIm X W tg iter mi) (hg : PGm X anyStep tg g) (hb : PSsm X W sts k)
    (hs : ∀ x, foldedSetIterable iter X.env x = pure x := by intro _; rfl) : PSm X W (.For tg iter sts [] pos) (Mp.sFor mi g k) := PS.imp (ps_for hp hc hi hg hb hs) fun _ _ _ => for_of
theorem while_of {mc : MT} {D : Ends} {σ : L2.St} {H : Hp} (h : TSm X.K X.mg W (Mp.sWhile mc k) D σ H) : tWhile (TTm X.K X.mg W mc) (TSm X.K X.mg W k) D σ H := by
  obtain ⟨ρ, S, L, s, l, h⟩ := h
  refine ⟨fun n σ' H' => ∃ ρ2 S2 L2, SR X.K X.mg ρ2 S2 H' ∧ LR X.K ρ2 S2.length H' L2 σ' ∧ PostF X.K X.mg W ρ2 S2 H' (whileLoop mc k n L2 S2) D, ⟨MANY, ρ, S, L, s, l, h⟩, ?_⟩
  rintro n σ2 H2 ⟨ρ2, S2, L2, s2, l2, h⟩
  cases n with
  | zero => exact h.elim
  | succ n =>
    refine TTm.then s2 l2 h fun ρ3 S3 b H3 s3 l3 e3 h => ?_
    cases b with
    | false => exact iteF (PostF.nxHere s3 l3 h)
    | true =>
      refine iteT ⟨fun σ' H' => ∃ ρ2 S2 L2, SR X.K X.mg ρ2 S2 H' ∧ LR X.K ρ2 S2.length H' L2 σ' ∧ PostF X.K X.mg W ρ2 S2 H' (whileLoop mc k n L2 S2) D, fun σ' H' q => ⟨n, Nat.lt_succ_self n, q⟩, ρ3, S3, L2, s3, l3, ?_⟩
      have h' : PostF X.K X.mg W ρ3 S3 H3 (turn (k L2 S3) (whileLoop mc k n)) D := h
      cases hk : k L2 S3 with
      | nx L4 S4 => rw [hk] at h'; exact fun ρ4 H4 σ4 e4 s4 l4 => ⟨ρ4, S4, L4, s4, l4, PostF.step s4 e4 h'⟩
      | ct L4 S4 => rw [hk] at h'; exact fun ρ4 H4 σ4 e4 s4 l4 => ⟨ρ4, S4, L4, s4, l4, PostF.step s4 e4 h'⟩
      | bk L4 S4 => rw [hk] at h'; exact h'
      | rt v S4 => rw [hk] at h'; exact h'
      | exn x L4 S4 => rw [hk] at h'; exact h'
      | bad => rw [hk] at h'; exact h'.elim
theorem s_while {mc : MT} (hp : PassesOwn (model X.prog X.w) X.A X.env X.xe) (hc : PTm X W c mc) (hb : PSsm X W sts k) : PSm X W (.While c sts [] pos) (Mp.sWhile mc k) := PS.imp (ps_while hp hc hb) fun _ _ _ => while_of
/-! ### comprehensions -/
theorem Post.bind0 {γ β : Type} {rel : Rel γ β} {α δ : Type} {rel1 : Rel α δ} {K : PySem.W.Frag} {mg : Str → Option Value} {ρ : Rho} {S : Store} {H : Hp} {σ σ' : L2.St} {r : R α} {k : α → Store → R γ} {Q : β → Hp → Prop} (h : Post K mg rel W ρ S H σ ((Mp.noExn r).bind k) Q) :
    Post K mg rel1 W0 ρ S H σ' r fun u H1 => ∃ ρ1 S1 a, r = .ok a S1 ∧ Ext ρ S H ρ1 S1 H1 ∧ SR K mg ρ1 S1 H1 ∧ rel1 ρ1 S1 H1 a u ∧ Post K mg rel W ρ1 S1 H1 σ (k a S1) Q := by
  cases r with
  | ok a S1 => exact fun ρ1 H1 u e s v => ⟨ρ1, S1, a, rfl, e, s, v, Post.step s e h⟩
  | exn x S' => exact h.elim
  | bad => exact h
/-- an object beside the store: it stays where it is -/
theorem Ext.stay {ρ ρ' : Rho} {S S' : Store} {H H' : Hp} (e : Ext ρ S H ρ' S' H') {D : Addr} {o : HO} (h : H D = some o) (hn : ∀ i, i < S.length → ρ i ≠ D) : H' D = some o ∧ ∀ i, i < S'.length → ρ' i ≠ D := by
  refine ⟨e.frame _ _ h hn, fun i hi z => ?_⟩
  by_cases q : i < S.length
  · exact hn i q ((e.rho i q).symm.trans z)
  · have := e.fresh i (Nat.le_of_not_lt q) hi
    rw [z, h] at this
    cases this
/-- the object beside the store is changed: values do not lean on it -/
theorem SqT.beside {K : PySem.W.Frag} {H : Hp} {D : Addr} {us us' : List V} (h : H D = some (.lst us)) {a : Addr} {xs : List V} (q : SqT K H a xs) : SqT K (upd H D (.lst us')) a xs := by
  rcases q with (q | ⟨o, q⟩) | q
  · exact .inl (.inl (by rw [upd_ne (ne_of q h (by intro z; cases z))]; exact q))
  · exact .inl (.inr ⟨o, by rw [upd_ne (ne_of q h (by intro z; cases z))]; exact q⟩)
  · exact .inr q
theorem TupA.beside {K : PySem.W.Frag} {H : Hp} {D : Addr} {us us' : List V} (h : H D = some (.lst us)) {a : Addr} {vs : List Val} {xs : List V} (q : TupA K H a vs xs) : TupA K (upd H D (.lst us')) a vs xs := by
  rcases q with q | ⟨c, q⟩
  · exact .inl (by rw [upd_ne (ne_of q h (by intro z; cases z))]; exact q)
  · exact .inr ⟨c, SqT.beside h q⟩
theorem FzL.beside {K : PySem.W.Frag} {H : Hp} {D : Addr} {us us' : List V} (h : H D = some (.lst us)) {a : Addr} {xs : List V} (q : FzL K H a xs) : FzL K (upd H D (.lst us')) a xs := by
  rcases q with ⟨o, q⟩ | q
  · exact .inl ⟨o, by rw [upd_ne (ne_of q h (by intro z; cases z))]; exact q⟩
  · exact .inr q
mutual
theorem VR.beside {K : PySem.W.Frag} {ρ : Rho} {n : Nat} {H : Hp} {D : Addr} {us us' : List V} (h : H D = some (.lst us)) : ∀ (v : Val) (u : V), VR K ρ n H v u → VR K ρ n (upd H D (.lst us')) v u
  | .non, u, q => by simpa [VR] using q
  | .bl b, u, q => by simpa [VR] using q
  | .int b, u, q => by simpa [VR] using q
  | .str b, u, q => by simpa [VR] using q
  | .ref b, u, q => by simpa [VR] using q
  | .tup vs, u, q => by
    simp only [VR] at q ⊢
    obtain ⟨a, xs, e1, q, r⟩ := q
    exact ⟨a, xs, e1, TupA.beside h q, VRs.beside h vs xs r⟩
  | .fl ns, u, q => by
    simp only [VR] at q ⊢
    obtain ⟨a, e1, q⟩ := q
    exact ⟨a, e1, FzL.beside h q⟩
theorem VRs.beside {K : PySem.W.Frag} {ρ : Rho} {n : Nat} {H : Hp} {D : Addr} {us us' : List V} (h : H D = some (.lst us)) : ∀ (v : List Val) (u : List V), VRs K ρ n H v u → VRs K ρ n (upd H D (.lst us')) v u
  | [], u, q => by simpa [VRs] using q
  | v :: vs, u, q => by
    simp only [VRs] at q ⊢
    obtain ⟨x, r, e1, h1, h2⟩ := q
    exact ⟨x, r, e1, VR.beside h v x h1, VRs.beside h vs r h2⟩
end
theorem SR.beside {K : PySem.W.Frag} {mg : Str → Option Value} {ρ : Rho} {S : Store} {H : Hp} {D : Addr} {us us' : List V} (s : SR K mg ρ S H) (h : H D = some (.lst us)) (hn : ∀ i, i < S.length → ρ i ≠ D) : SR K mg ρ S (upd H D (.lst us')) := by
  refine ⟨fun i o q => ?_, s.inj⟩
  have hi : i < S.length := (List.getElem?_eq_some_iff.mp q).1
  have hh : upd H D (.lst us') (ρ i) = H (ρ i) := upd_ne (hn i hi)
  have z := s.ob i o q
  cases o with
  | lst xs => obtain ⟨us, a, c⟩ := z; exact ⟨us, by rw [hh]; exact a, VRs.beside h _ _ c⟩
  | dK xs => obtain ⟨us, a, c⟩ := z; exact ⟨us, by rw [hh]; exact a, c.1, VRs.beside h _ _ c.2⟩
  | dT xs => obtain ⟨us, a, c⟩ := z; exact ⟨us, by rw [hh]; exact a, c.1, VRs.beside h _ _ c.2⟩
  | fK xs => obtain ⟨o', us, a, c⟩ := z; exact ⟨o', us, by rw [hh]; exact a, c.1, VRs.beside h _ _ c.2⟩
  | fT xs => obtain ⟨o', us, a, c⟩ := z; exact ⟨o', us, by rw [hh]; exact a, c.1, VRs.beside h _ _ c.2⟩
  | ins c0 fs => obtain ⟨C, dx, us, m, a, c⟩ := z; exact ⟨C, dx, us, m, by rw [hh]; exact a, c.1, VRs.beside h _ _ c.2⟩
theorem LR.beside {K : PySem.W.Frag} {ρ : Rho} {n : Nat} {H : Hp} {D : Addr} {us us' : List V} {L : Loc} {σ : L2.St} (h : H D = some (.lst us)) (l : LR K ρ n H L σ) : LR K ρ n (upd H D (.lst us')) L σ :=
  ⟨l.1, fun i v q => by obtain ⟨u, q1, q2⟩ := l.2 i v q; exact ⟨u, q1, VR.beside h v u q2⟩⟩
/-- changes beside the store, seen from the beginning (where D was not there) -/
theorem Ext.beside {ρ ρ' : Rho} {S S' : Store} {H H' : Hp} (e : Ext ρ S H ρ' S' H') {D : Addr} {o : HO} (hD : H D = none) : Ext ρ S H ρ' S' (upd H' D o) :=
  ⟨e.rho, e.le, e.fresh, fun a u h hn => by rw [upd_ne (ne_of_none h hD)]; exact e.frame a u h hn, fun i hi o' u h => by rw [upd_ne (ne_of_none h hD)]; exact e.frz i hi o' u h⟩
theorem lc_of {mi : MI} {g : MG} {mc : MT} {me : ME} {vs : List Nat} {σ : L2.St} {H : Hp} {Q : VK} (h : TEm X.K X.mg W (Mp.mLc mi vs g mc me) σ H Q) :
    tLc (TIm X.K X.mg W mi) (TGm X.K X.mg (wipeStep vs) g) (TTm X.K X.mg W0 mc) (TEm X.K X.mg W0 me) vs σ H Q := by
  obtain ⟨ρ, S, L, s, l, h⟩ := h
  refine ⟨ρ, S, L, s, l, (Post.bind (rel1 := ItR X.K X.mg) h).mono ?_⟩
  rintro J H1 ⟨ρ1, S1, it, _, e1, s1, hJ, h⟩ D hD
  have l1 := (l.ext s e1).wipe vs
  -- the invariant: what is made so far stands at D, beside the store
  refine ⟨fun i n H' => i + n = it.items.length ∧ ∃ ρ2 S2 acc ys, Ext ρ1 S1 H1 ρ2 S2 H' ∧ SR X.K X.mg ρ2 S2 H' ∧ (∀ j, j < S2.length → ρ2 j ≠ D) ∧ H' D = some (.lst ys) ∧ VRs X.K ρ2 S2.length H' acc ys ∧
      Post X.K X.mg (relV X.K) W ρ1 S1 H1 σ ((lcLoop it.keep (wipeL L vs) g mc me (it.items.drop i) acc S2).bind fun ws S2 => .ok (.ref S2.length) (S2 ++ [.lst ws])) Q,
    ⟨it.items.length, by simp, ρ1, S1, [], [], Ext.side hD, s1.side hD, s1.ne_none hD, upd_same, VRs.nil, by simpa using h⟩, ?_⟩
  rintro i n H2 ⟨hn, ρ2, S2, acc, ys, e2, s2, nD, gD, va, h⟩
  have l2 : LR X.K ρ2 S2.length H2 (wipeL L vs) (L2.wipe σ vs) := l1.ext s1 e2
  cases hd : it.items.drop i with
  | nil =>
    rw [hd] at h
    unfold lcLoop at h
    by_cases kp : it.keep S2
    · rw [gate_pos kp] at h
      have hx : it.items[i]? = none := by
        have := congrArg List.length hd
        simp at this
        simp
        omega
      refine .inl ⟨(hJ ρ2 S2 H2 e2 s2 kp i).2 hx, ?_⟩
      -- the list joins the store
      have hl : (S2 ++ [Ob.lst acc]).length = S2.length + 1 := by simp
      have e3 : Ext ρ2 S2 (fun b => if b = D then none else H2 b) (newRho ρ2 S2.length D) (S2 ++ [.lst acc]) H2 := by
        refine ⟨fun j hj => newRho_ne (Nat.ne_of_lt hj), by simp, fun j h1 h2 => ?_, fun a o h _ => ?_, fun j _ o u h => by by_cases q : ρ2 j = D; (· simp [q] at h); (· simpa [q] using h)⟩
        · have : j = S2.length := by simp at h2; omega
          subst this
          rw [newRho_same]
          simp
        · by_cases q : a = D
          · simp [q] at h
          · simpa [q] using h
      have e4 : Ext ρ1 S1 H1 (newRho ρ2 S2.length D) (S2 ++ [.lst acc]) H2 := by
        refine ⟨fun j hj => (newRho_ne (Nat.ne_of_lt (Nat.lt_of_lt_of_le hj e2.le))).trans (e2.rho j hj), Nat.le_trans e2.le (by simp), fun j h1 h2 => ?_, e2.frame, e2.frz⟩
        by_cases q : j = S2.length
        · subst q
          rw [newRho_same]
          exact hD
        · rw [newRho_ne q]
          exact e2.fresh j h1 (by simp at h2; omega)
      have e5 : Ext ρ2 S2 H2 (newRho ρ2 S2.length D) (S2 ++ [.lst acc]) H2 ∨ True := .inr trivial
      have vmono : ∀ (v : List Val) (u : List V), VRs X.K ρ2 S2.length H2 v u → VRs X.K (newRho ρ2 S2.length D) (S2 ++ [Ob.lst acc]).length H2 v u := by
        have key : ∀ (n : Nat) (v : Val) (u : V), sizeOf v ≤ n → VR X.K ρ2 S2.length H2 v u → VR X.K (newRho ρ2 S2.length D) (S2 ++ [Ob.lst acc]).length H2 v u := by
          intro n
          induction n with
          | zero => intro v u hz; cases v <;> simp at hz
          | succ n ih =>
            intro v u hz hv
            cases v with
            | tup ws =>
              simp only [VR] at hv ⊢
              obtain ⟨a, xs, q1, q2, q3⟩ := hv
              refine ⟨a, xs, q1, q2, ?_⟩
              simp at hz
              have hz' : sizeOf ws ≤ n := by omega
              clear hz q1 q2
              induction ws generalizing xs with
              | nil => simpa [VRs] using q3
              | cons w ws ihw =>
                obtain ⟨u1, r1, rfl, h1, h2⟩ := q3.cons_of
                simp at hz'
                exact VRs.cons (ih w u1 (by omega) h1) (ihw r1 h2 (by omega))
            | ref j =>
              simp only [VR] at hv ⊢
              exact ⟨by simp; omega, by rw [newRho_ne (Nat.ne_of_lt hv.1)]; exact hv.2⟩
            | _ => simpa [VR] using hv
        intro v
        induction v with
        | nil => intro u r; simpa [VRs] using r
        | cons w ws ihw =>
          intro u r
          obtain ⟨u1, r1, rfl, h1, h2⟩ := r.cons_of
          exact VRs.cons (key _ w u1 (Nat.le_refl _) h1) (ihw r1 h2)
      have s3 : SR X.K X.mg (newRho ρ2 S2.length D) (S2 ++ [.lst acc]) H2 := by
        refine ⟨fun j o q => ?_, fun a b ha hb z => ?_⟩
        · by_cases hj : j < S2.length
          · rw [List.getElem?_append_left hj] at q
            have z := s2.ob j o q
            rw [newRho_ne (Nat.ne_of_lt hj)]
            cases o with
            | lst xs => obtain ⟨us, a, c⟩ := z; exact ⟨us, a, vmono _ _ c⟩
            | dK xs => obtain ⟨us, a, c⟩ := z; exact ⟨us, a, c.1, vmono _ _ c.2⟩
            | dT xs => obtain ⟨us, a, c⟩ := z; exact ⟨us, a, c.1, vmono _ _ c.2⟩
            | fK xs => obtain ⟨o', us, a, c⟩ := z; exact ⟨o', us, a, c.1, vmono _ _ c.2⟩
            | fT xs => obtain ⟨o', us, a, c⟩ := z; exact ⟨o', us, a, c.1, vmono _ _ c.2⟩
            | ins c0 fs => obtain ⟨C, dx, us, m, a, c⟩ := z; exact ⟨C, dx, us, m, a, c.1, vmono _ _ c.2⟩
          · have hl : j < (S2 ++ [Ob.lst acc]).length := (List.getElem?_eq_some_iff.mp q).1
            have : j = S2.length := by simp at hl; omega
            subst this
            rw [newRho_same]
            simp at q
            subst q
            exact ⟨ys, gD, vmono _ _ va⟩
        · simp at ha hb
          by_cases h1 : a = S2.length
          · by_cases h2 : b = S2.length
            · rw [h1, h2]
            · rw [h1, newRho_same, newRho_ne h2] at z
              exact absurd z.symm (nD b (by omega))
          · by_cases h2 : b = S2.length
            · rw [h2, newRho_same, newRho_ne h1] at z
              exact absurd z (nD a (by omega))
            · rw [newRho_ne h1, newRho_ne h2] at z
              exact s2.inj a b (by omega) (by omega) z
      refine h _ _ _ e4 s3 ?_
      simp only [relV, VR, newRho_same]
      exact ⟨by simp, trivial⟩
    · rw [gate_neg kp] at h
      exact h.elim
  | cons x xs =>
    rw [hd] at h
    unfold lcLoop at h
    have hx : it.items[i]? = some x := by
      have : (it.items.drop i)[0]? = some x := by rw [hd]; rfl
      simpa using this
    have hlt := (List.getElem?_eq_some_iff.mp hx).1
    have hxs : it.items.drop (i + 1) = xs := by
      have : (it.items.drop i).drop 1 = xs := by rw [hd]; rfl
      rw [List.drop_drop] at this
      exact this
    by_cases kp : it.keep S2
    · rw [gate_pos kp] at h
      obtain ⟨go, yl⟩ := (hJ ρ2 S2 H2 e2 s2 kp i).1 x hx
      refine .inr ⟨go, fun H' => i + 1 + (n - 1) = it.items.length ∧ ∃ ρ3 S3 acc' ys', Ext ρ1 S1 H1 ρ3 S3 H' ∧ SR X.K X.mg ρ3 S3 H' ∧ (∀ j, j < S3.length → ρ3 j ≠ D) ∧ H' D = some (.lst ys') ∧ VRs X.K ρ3 S3.length H' acc' ys' ∧
          Post X.K X.mg (relV X.K) W ρ1 S1 H1 σ ((lcLoop it.keep (wipeL L vs) g mc me (it.items.drop (i + 1)) acc' S3).bind fun ws S2 => .ok (.ref S2.length) (S2 ++ [.lst ws])) Q,
        fun H' q => ⟨n - 1, by omega, q⟩, fun u H' y => ?_⟩
      obtain ⟨ey, sy, vy⟩ := yl u H' y
      have ly := l2.ext s2 ey
      have e2y := Ext.trans s2 e2 ey
      obtain ⟨gDy, nDy⟩ := ey.stay gD nD
      have vay := VRs.ext s2 ey _ _ va
      refine ⟨ρ2, S2, wipeL L vs, x, sy, ly, vy, ?_⟩
      cases hg : g x (wipeL L vs) S2 with
      | ok L3 S3 =>
        rw [hg] at h
        rintro ρ3 H3 σ3 e3 s3 ⟨l3, w3⟩
        obtain ⟨gD3, nD3⟩ := e3.stay gDy nDy
        have va3 := VRs.ext sy e3 _ _ vay
        have w3' : L2.wipe σ3 vs = L2.wipe σ vs := by
          have : L2.wipe σ3 vs = L2.wipe (L2.wipe σ vs) vs := w3
          rw [this]
          have idem : ∀ (r : List Nat) (σ : L2.St), (∀ i, i ∈ r → i ∈ vs) → L2.wipe (L2.wipe σ r) vs = L2.wipe σ vs := by
            intro r
            induction r with
            | nil => intro σ _; rfl
            | cons a r ih =>
              intro σ hr
              show L2.wipe ((L2.wipe σ r).set a none) vs = _
              rw [wipe_set (hr a (by simp)), ih σ fun i hi => hr i (by simp [hi])]
          exact idem vs σ fun i hi => hi
        refine ⟨w3', ρ3, S3, L3, s3, l3, ?_⟩
        have h : Post X.K X.mg (relV X.K) W ρ1 S1 H1 σ (((Mp.noExn (mc L3 S3)).bind fun t S2 => bite t ((Mp.noExn (me L3 S2)).bind fun v S3 => bite (decide (acc.length < LIM)) (lcLoop it.keep (wipeL L vs) g mc me xs (acc ++ [v]) S3) .bad) (lcLoop it.keep (wipeL L vs) g mc me xs acc S2)).bind fun ws S2 => .ok (.ref S2.length) (S2 ++ [.lst ws])) Q := h
        cases hc : mc L3 S3 with
        | ok t S4 =>
          rw [hc] at h
          intro ρ4 H4 t' e4 s4 et
          have et' : t' = t := et
          subst et'
          obtain ⟨gD4, nD4⟩ := e4.stay gD3 nD3
          have va4 := VRs.ext s3 e4 _ _ va3
          have e14 := Ext.trans s3 (Ext.trans sy e2y e3) e4
          cases t' with
          | false => exact iteF ⟨by omega, ρ4, S4, acc, ys, e14, s4, nD4, gD4, va4, by rw [hxs]; exact h⟩
          | true =>
            refine iteT ⟨ρ4, S4, L3, s4, l3.ext s3 e4, ?_⟩
            have h : Post X.K X.mg (relV X.K) W ρ1 S1 H1 σ (((Mp.noExn (me L3 S4)).bind fun v S3 => bite (decide (acc.length < LIM)) (lcLoop it.keep (wipeL L vs) g mc me xs (acc ++ [v]) S3) .bad).bind fun ws S2 => .ok (.ref S2.length) (S2 ++ [.lst ws])) Q := h
            cases he : me L3 S4 with
            | ok v S5 =>
              rw [he] at h
              intro ρ5 H5 u5 e5 s5 v5
              obtain ⟨gD5, nD5⟩ := e5.stay gD4 nD4
              have va5 := VRs.ext s4 e5 _ _ va4
              have h : Post X.K X.mg (relV X.K) W ρ1 S1 H1 σ ((bite (decide (acc.length < LIM)) (lcLoop it.keep (wipeL L vs) g mc me xs (acc ++ [v]) S5) .bad).bind fun ws S2 => .ok (.ref S2.length) (S2 ++ [.lst ws])) Q := h
              by_cases hz : acc.length < LIM
              · rw [bite_pos (decide_eq_true hz)] at h
                refine ⟨ys, gD5, by rw [← va5.length, ← lim_eq]; exact hz, by omega, ρ5, S5, acc ++ [v], ys ++ [u5], (Ext.trans s4 e14 e5).beside hD, s5.beside gD5 nD5, nD5, upd_same, ?_, by rw [hxs]; exact h⟩
                exact VRs.append (VRs.beside gD5 _ _ va5) (VRs.cons (VR.beside gD5 _ _ v5) VRs.nil)
              · rw [bite_neg (decide_eq_false hz)] at h
                exact h.elim
            | exn e5 S5 =>
              rw [he] at h
              exact h.elim
            | bad =>
              rw [he] at h
              exact h.elim
        | exn e5 S4 =>
          rw [hc] at h
          exact h.elim
        | bad =>
          rw [hc] at h
          exact h.elim
      | exn x4 S3 =>
        rw [hg] at h
        exact h.elim
      | bad =>
        rw [hg] at h
        exact h.elim
    · rw [gate_neg kp] at h
      exact h.elim
end
end Mp

/-! Mp6: comprehensions as rules, raise, try, defs. -/
namespace Mp
open PySem PySem.Spec L2
section
variable {X : Cx} {W : WX} {e a b c : Expr} {es : List Expr} {m ma mb mc : ME} {pos : Pos} {st : Stmt} {sts rest : List Stmt} {k k1 k2 : MS}
abbrev PTsm (X : Cx) (W : WX) (es : List Expr) (m : MT) : Prop := PTs X es (TTm X.K X.mg W m)
theorem PTs.imp {es : List Expr} {t t' : TT} (h : PTs X es t) (i : ∀ σ H Q, t' σ H Q → t σ H Q) : PTs X es t' := ⟨fun pins s σ H Q I q => h.run pins s σ H Q I (i σ H Q q)⟩
theorem ts_nil : PTsm X W [] Mp.tYes := PTs.imp pts_nil fun σ H Q ⟨ρ, S, L, s, l, h⟩ => Post.here (rel := relB) s h rfl
theorem ts_one {mt : MT} (h : PTm X W c mt) : PTsm X W [c] mt := pts_one h
theorem e_lc {elt tg iter : Expr} {ifs : List Expr} {scope : Scope} {own : List (Str × Nat)} {mi : MI} {g : MG} {mc : MT} {me : ME} (hc : X.calm = true) (hN : X.N.Nodup) (hi : PIm X W tg iter mi) (ok : BlkOk X.N X.env.scope scope own)
    (hg : ∀ (s : Shared) (H : Hp) (C : Addr) (cl : List (Str × Addr)) (fp : List Addr), PGm (X.blk s H scope (compEnvC scope cl C X.env) fp) (wipeStep (own.map (·.2))) tg g)
    (ht : ∀ (s : Shared) (H : Hp) (C : Addr) (cl : List (Str × Addr)) (fp : List Addr), PTsm (X.blk s H scope (compEnvC scope cl C X.env) fp) W0 ifs mc)
    (he : ∀ (s : Shared) (H : Hp) (C : Addr) (cl : List (Str × Addr)) (fp : List Addr), PEm (X.blk s H scope (compEnvC scope cl C X.env) fp) W0 elt me) (hs : ∀ x, foldedSetIterable iter X.env x = pure x := by intro _; rfl) :
    PEm X W (.ListComp elt [⟨tg, iter, ifs, 0⟩] scope pos) (Mp.mLc mi (own.map (·.2)) g mc me) := PE.imp (pe_lc hc hN hi ok hg ht he hs) fun _ _ _ => lc_of
theorem s_setLc {i : Nat} {y : Str} {py : Pos} {elt tg iter : Expr} {ifs : List Expr} {scope : Scope} {own : List (Str × Nat)} {spos : Pos} {mi : MI} {g : MG} {mc : MT} {me : ME} (hc : X.calm = true) (hN : X.N.Nodup) (hy : X.N[i]? = some y) (hyl : X.env.scope.names.lookup y = some .local)
    (hsw : swapsWith (.ListComp elt [⟨tg, iter, ifs, 0⟩] scope pos) (some (.Name y py)) spos.line X.env = pure true) (hi : PIm X W tg iter mi) (ok : BlkOk X.N X.env.scope scope own)
    (hg : ∀ (s : Shared) (H : Hp) (C : Addr) (cl : List (Str × Addr)) (fp : List Addr), PGm (X.blk s H scope (compEnvC scope cl C X.env) fp) (wipeStep (own.map (·.2))) tg g)
    (ht : ∀ (s : Shared) (H : Hp) (C : Addr) (cl : List (Str × Addr)) (fp : List Addr), PTsm (X.blk s H scope (compEnvC scope cl C X.env) fp) W0 ifs mc)
    (he : ∀ (s : Shared) (H : Hp) (C : Addr) (cl : List (Str × Addr)) (fp : List Addr), PEm (X.blk s H scope (compEnvC scope cl C X.env) fp) W0 elt me) (hs : ∀ x, foldedSetIterable iter X.env x = pure x := by intro _; rfl) :
    PSm X W (.Assign [.Name y py] (.ListComp elt [⟨tg, iter, ifs, 0⟩] scope pos) spos) (sAsg (Mp.mLc mi (own.map (·.2)) g mc me) (gN i)) := PS.imp (ps_setLc hc hN hy hyl hsw hi ok hg ht he hs) fun D σ H h => by
  obtain ⟨ρ, S, L, s, l, h⟩ := h
  exact lc_of (TEm.then s l h fun ρ1 S1 x u H1 s1 l1 e1 v h => PostF.nxHere s1 (l1.set v) h)
/-! ### raise -/
/-- X() of an own exception class without an __init__ -/
theorem pmk0 {C : Addr} {bmB : List Value} {B newId initId : String} {x : Str} {p : Pos} (F : PySem.ExcBaseFacts B newId initId bmB) (q : PySem.W.excIn X.K C bmB newId = true) (gC : X.mg x = some (.ref C)) (kC : PySem.W.keepIn X.K (.ref C) = true) (r : Raises X (.ref C)) (hg : Gl X x)
    (hdb : (x == ("__debug__" : Str)) = false := by decide) : PMk X (.Call (.Name x p) [] [] pos) (fun _ H Q => Q (.ref C) none H) := by
  intro pins s σ H Q I h
  refine wpAny_Call_Name_kw (ld_glob I hg gC ?_ hdb)
  refine PySem.W.callWith_K0 I.kIn kC ?_
  show wpAny _ _ (call (.ref C) []) _ _ _
  obtain ⟨bm, N, nm, qn, bs, hdct, sn, sub, ab, col, dd, k0, k1, k2, k3, k5, mN, hC, hN, hni, T⟩ := exc_obj I.kIn q
  refine wpAny_call_exc_subT F T hC hN hni (fun h' e hm => ?_) (by show 0 ≤ sizeLine; exact Nat.zero_le _)
  exact mk_of I hm r h (I.hok.gone hm.new)
/-- an own error class that has no __init__ -/
structure Err0 (K : PySem.W.Frag) (mg : Str → Option Value) (x : Str) : Prop where
  ex : ∃ C, mg x = some (.ref C) ∧ PySem.W.excIn K C [.type "ValueError", .type "Exception", .type "BaseException", .type "object"] "ValueError.__new__" = true ∧ PySem.W.keepIn K (.ref C) = true ∧
    PySem.W.subIn K (.ref C) (.type "BaseException") = some true ∧ PySem.W.typeIn K (.ref C) = some (.type "type")
theorem s_raise0 {x : Str} {p : Pos} {pos2 : Pos} (hc : X.calm = true) (tk : Takes X W) (E : Err0 X.K X.mg x) (hg : Gl X x) (hdb : (x == ("__debug__" : Str)) = false := by decide) : PSm X W (.Raise (some (.Call (.Name x p) [] [] pos)) none pos2) (sRaise x [] aNil) := by
  obtain ⟨C, gC, q, kC, r1, r2⟩ := E.ex
  have r : Raises X (.ref C) := raises_own r1 r2
  refine PS.imp (ps_raise hc tk (pmk0 (PySem.F.excBase_ValueError) q gC kC r hg hdb)) fun D σ H ⟨ρ, S, L, s, l, h⟩ => ?_
  exact h ρ H σ (.ref C) none (Ext.refl _ _ _) s l ⟨⟨C, gC, rfl⟩, fun z => absurd rfl z⟩
/-! ### try -/
/-- an except clause's classes: what is known of each error class that may come -/
def HdOk (K : PySem.W.Frag) (mg : Str → Option Value) (c : Value) (U : List (Str × Bool)) : Prop := ∀ p ∈ U, ∃ C, mg p.1 = some (.ref C) ∧ PySem.W.exmOne K (.ref C) c = some p.2
theorem lookup_mem {U : List (Str × Bool)} {x : Str} {b : Bool} (h : U.lookup x = some b) : (x, b) ∈ U := by
  induction U with
  | nil => cases h
  | cons p r ih =>
    obtain ⟨y, c⟩ := p
    rw [List.lookup_cons] at h
    by_cases q : x = y
    · subst q
      simp at h
      subst h
      simp
    · have : (x == y) = false := by simpa using q
      rw [this] at h
      exact List.mem_cons_of_mem _ (ih h)
/-- the clauses, one by one -/
inductive HdsM (X : Cx) : List ExceptHandler → List (Value × (Addr → Value → Option Addr → TS)) → List Hd → Prop
  | nil : HdsM X [] [] []
  | cons {x : Str} {c : Value} {b₀ : Stmt} {suite : List Stmt} {np pos' : Pos} {hds : List ExceptHandler} {l : List (Value × (Addr → Value → Option Addr → TS))} {U : List (Str × Bool)} {ks : MS} {D : List Hd} (hc : Names X x c) (hu : HdOk X.K X.mg c U)
      (hsu : ∀ (a : Addr) (oe : Obj) (cls : Value) (d : Option Addr) (pn : List (Addr × Obj)), PSsm (X.suite a ((a, oe) :: pn)) W0 (b₀ :: suite) ks) (r : HdsM X hds l D) :
      HdsM X (.ExceptHandler (some (.Name x np)) none (b₀ :: suite) pos' :: hds) ((c, fun _ _ _ => TSm X.K X.mg W0 ks) :: l) (⟨U, fun _ => ks⟩ :: D)
theorem HdsM.ok {hds : List ExceptHandler} {l : List (Value × (Addr → Value → Option Addr → TS))} {D : List Hd} (h : HdsM X hds l D) : HdsOk X hds l := by
  induction h with
  | nil => exact .nil
  | cons hc hu hsu r ih => exact .cons hc (fun a oe cls d pn _ _ => hsu a oe cls d pn) ih
theorem PostF.noExnF {K : PySem.W.Frag} {mg : Str → Option Value} {ρ : Rho} {S : Store} {H : Hp} {r : F} {D : Ends} (h : PostF K mg W ρ S H (Mp.noExnF r) D) (W' : WX) : PostF K mg W' ρ S H r D := by
  cases r with
  | exn x L S' => exact h.elim
  | _ => exact h
theorem wMany_of {hds : List ExceptHandler} {l : List (Value × (Addr → Value → Option Addr → TS))} {D : List Hd} (hd : HdsM X hds l D) {Wout : WX} {E : Ends} {ρ : Rho} {S : Store} {H : Hp} {L : Loc} {σ : L2.St} {x : Ex} {cls : Value} {d : Option Addr}
    (s : SR X.K X.mg ρ S H) (l1 : LR X.K ρ S.length H L σ) (q : XR X.K X.mg ρ S.length H x cls d) (h : PostF X.K X.mg Wout ρ S H (handle D x L S) E) : wMany X.K Wout E l cls d σ H := by
  induction hd with
  | nil => exact h ρ H σ cls d (Ext.refl _ _ _) s l1 q
  | cons hc hu hsu r ih =>
    rename_i x' c b₀ suite np pos' hds l U ks D
    unfold handle at h
    split at h
    · rename_i b hb
      obtain ⟨C, g1, g2⟩ := hu _ (lookup_mem hb)
      obtain ⟨⟨C', g3, rfl⟩, _⟩ := q
      rw [g1] at g3
      cases g3
      refine ⟨b, g2, fun hb1 a ha => ?_, fun hb1 => ?_⟩
      · subst hb1
        exact ⟨ρ, S, L, s, l1, h.noExnF W0⟩
      · subst hb1
        exact ih h
    · exact h.elim
theorem s_try {body : List Stmt} {h₀ : ExceptHandler} {hds : List ExceptHandler} {l : List (Value × (Addr → Value → Option Addr → TS))} {D : List Hd} {kb : MS} (hs : X.stack = X.env :: X.outer) (hf : X.env.frame = some X.env.locals) (tk : Takes X W)
    (hb : ∀ (W : WX) (pn : List (Addr × Obj)) (xe : Value → Shared → Prop), Takes (X.tr pn xe) W → PassesOwn (model X.prog X.w) X.A X.env xe → PSsm (X.tr pn xe) W body kb)
    (hh : HdsM X (h₀ :: hds) l D) : PSm X W (.Try body (h₀ :: hds) [] [] pos) (sTry kb D) := PS.imp (ps_try_many hs hf tk (tb := fun W => TSm X.K X.mg W kb) hb hh.ok) fun E σ H ⟨ρ, S, L, s, l1, h⟩ => by
  refine ⟨ρ, S, L, s, l1, ?_⟩
  unfold sTry at h
  cases hk : kb L S with
  | exn x L' S' =>
    rw [hk] at h
    exact fun ρ' H' σ' cls d e s' l' q => wMany_of hh s' l' q (PostF.step s' e h)
  | nx L' S' => rw [hk] at h; exact h
  | bk L' S' => rw [hk] at h; exact h
  | ct L' S' => rw [hk] at h; exact h
  | rt L' S' => rw [hk] at h; exact h
  | bad => rw [hk] at h; exact h.elim
end
/-! ### defs -/
section
variable {P : Program} {w : World} {K : PySem.W.Frag} {mg : Str → Option Value} {base : Heap}
theorem startL_rel {ρ : Rho} {n : Nat} {H : Hp} {N : List Str} {vs : List Val} {us : List V} (h : VRs K ρ n H vs us) : LR K ρ n H (startL N.length vs) (L2.start N us) := by
  have hl := h.length
  refine ⟨by simp [startL, L2.start, hl], fun i v q => ?_⟩
  unfold startL at q
  unfold L2.start
  by_cases hi : i < vs.length
  · rw [List.getElem?_append_left (by simpa using hi)] at q
    rw [List.getElem?_append_left (by simp; omega)]
    rw [List.getElem?_map] at q ⊢
    cases hv : vs[i]? with
    | none => rw [hv] at q; cases q
    | some x =>
      rw [hv] at q
      cases q
      obtain ⟨u, h1, h2⟩ := h.get hv
      exact ⟨u, by rw [h1]; rfl, h2⟩
  · rw [List.getElem?_append_right (by simpa using hi)] at q
    rw [List.getElem?_replicate] at q
    split at q <;> cases q
theorem def_ok {x qual : Str} {st : Stmt} {f : Addr} {fd : FuncData} {N ps : List Str} {k n np : Nat} {b : MS} (F : Fun K x qual st f fd) (S : FnScope N ps (defScope st)) (hn : N.length = n) (hp : ps.length = np)
    (hb : ∀ (cdv : Value) (A : Around) (outer : List Env) (s : Shared) (H : Hp) (E : XK), Room k (A.deeper (PyProof.Rows.envOfC qual (defScope st) s.heap.objs.size f cdv)) →
      Takes (cxOf (L2.CX P w) P w K mg base N qual (defScope st) f cdv A outer s H E) (fun cls d _ H => E cls d H) →
      PassesOwn (model P w) (A.deeper (PyProof.Rows.envOfC qual (defScope st) s.heap.objs.size f cdv)) (PyProof.Rows.envOfC qual (defScope st) s.heap.objs.size f cdv) (cxOf (L2.CX P w) P w K mg base N qual (defScope st) f cdv A outer s H E).xe →
      PSsm (cxOf (L2.CX P w) P w K mg base N qual (defScope st) f cdv A outer s H E) (fun cls d _ H => E cls d H) (defBody st) b) :
    FnOk P w K mg base (L2.CX P w) (k + 1) f fd ps (spM K mg np (fDef n np b)) := by
  subst hn hp
  refine F.okX S (fun vs H Q E h => ?_) (fun cdv A outer s H vs Q E hr h => ⟨_, hb cdv A outer s H E hr (takes_of rfl rfl rfl rfl) (passes_of rfl), ?_⟩)
  · obtain ⟨ρ, S, xs, hl, _, v, _⟩ := h
    rw [← v.length]
    exact hl
  · obtain ⟨ρ, S1, xs, hl, s1, v, h⟩ := h
    refine ⟨ρ, S1, startL N.length xs, s1, startL_rel v, ?_⟩
    unfold fDef at h
    rw [bite_pos (decide_eq_true hl)] at h
    cases hk : b (startL N.length xs) S1 with
    | nx L S' => rw [hk] at h; exact fun ρ' H' σ' e s' l' => h ρ' H' .non e s' (by simp [relV, VR])
    | rt v S' => rw [hk] at h; exact h
    | exn x L S' => rw [hk] at h; exact fun ρ' H' σ' c d e s' l' q => h ρ' H' c d e s' q
    | bk L S' => rw [hk] at h; exact h.elim
    | ct L S' => rw [hk] at h; exact h.elim
    | bad => rw [hk] at h; exact h.elim
/-- a def that goes nowhere -/
theorem bad_ok {f : Addr} {fd : FuncData} {ps : List Str} {k np : Nat} (hp : ps.length = np) : FnOk P w K mg base (L2.CX P w) k f fd ps (spM K mg np fun _ _ => .bad) :=
  ⟨fun vs H Q E h => by
    obtain ⟨ρ, S, xs, hl, _, v, h⟩ := h
    exact h.elim, fun A outer s H args us vs Q E hr he hb hv hs => by
    obtain ⟨ρ, S, xs, hl, _, v, h⟩ := hs
    exact h.elim⟩
end
/-- a constant of the module that is an int, a text -/
theorem e_gi {X : Cx} {W : WX} {x : Str} {i : Int} {pos : Pos} (h : ∃ t, X.mg x = some (.int i t)) (hg : Gl X x) (hd : (x == ("__debug__" : Str)) = false := by decide) : PEm X W (.Name x pos) (mC (.int i)) := by
  obtain ⟨t, h⟩ := h
  exact e_gc (u := .int i) hg h ⟨t, rfl⟩ (fun _ _ _ => by simp [VR]) hd
theorem e_gs {X : Cx} {W : WX} {x : Str} {i : Str} {pos : Pos} (h : ∃ t, X.mg x = some (.str i t)) (hg : Gl X x) (hd : (x == ("__debug__" : Str)) = false := by decide) : PEm X W (.Name x pos) (mC (.str i)) := by
  obtain ⟨t, h⟩ := h
  exact e_gc (u := .str i) hg h ⟨t, rfl⟩ (fun _ _ _ => by simp [VR]) hd
end Mp

/-! Mp7: operators, comparisons, subscripts, built-ins, methods. -/
namespace Mp
open PySem PySem.Spec L2
/-! ### numbers -/
def iop (c : Int → Int → Bool) (g : Int → Int → Int) : P2 := fun x y S => match x, y with
  | .int i, .int j => bite (c i j) (.ok (.int (g i j)) S) .bad
  | _, _ => .bad
/-- a flag that is not worked out -/
noncomputable def cb (p : Prop) : Bool := gate p true false
theorem cb_of {p : Prop} (h : p) : cb p = true := gate_pos h
theorem of_cb {p : Prop} (h : cb p = true) : p := by
  by_cases z : p
  · exact z
  · unfold cb at h
    rw [gate_neg z] at h
    cases h
noncomputable def cmul (i j : Int) : Bool := cb ((-(2 ^ 64) < i ∧ i < 2 ^ 64) ∨ (-(2 ^ 64) < j ∧ j < 2 ^ 64))
def pSub : P2 := iop (fun _ _ => true) fun i j => i - j
noncomputable def pMulI : P2 := iop cmul fun i j => i * j
def pMod : P2 := iop (fun _ j => decide (0 < j)) fun i j => i % j
noncomputable def cdiv (j : Int) : Bool := gate (0 < j ∧ j < 1073741824) true false
noncomputable def pDiv : P2 := iop (fun _ j => cdiv j) fun i j => i / j
theorem cdiv_eq {j : Int} (h : cdiv j = true) : 0 < j ∧ j < 1073741824 := by
  by_cases z : 0 < j ∧ j < 1073741824
  · exact z
  · unfold cdiv at h
    rw [gate_neg z] at h
    cases h
def pPow : P2 := iop (fun i j => decide (0 ≤ j) && decide (j ≤ 1000000) && decide (i.natAbs < 2 ^ 64)) fun i j => i ^ j.toNat
def pNeg : P1 := fun x S => match x with
  | .int i => .ok (.int (-i)) S
  | _ => .bad
section
variable {X : Cx}
theorem iop_of {c : Int → Int → Bool} {g : Int → Int → Int} {C : Int → Int → Prop} (hc : ∀ i j, c i j = true → C i j) {u w : V} {H : Hp} {Q : VK} (h : rP2 X (iop c g) u w H Q) : rI C (fun i j => .int (g i j)) u w H Q := by
  obtain ⟨ρ, S, x, y, s, v1, v2, h⟩ := h
  unfold iop at h
  split at h
  · rename_i i j
    cases hb : c i j with
    | true =>
      rw [hb] at h
      exact ⟨i, j, by simpa [VR] using v1, by simpa [VR] using v2, hc i j hb, Post.here (rel := relV X.K) s h (by simp [relV, VR])⟩
    | false => rw [hb] at h; exact h.elim
  · exact h.elim
theorem iop_of0 {g : Int → Int → Int} {u w : V} {H : Hp} {Q : VK} (h : rP2 X (iop (fun _ _ => true) g) u w H Q) : rI0 (fun i j => .int (g i j)) u w H Q := by
  obtain ⟨i, j, h1, h2, _, h3⟩ := iop_of (C := fun _ _ => True) (fun _ _ _ => trivial) h
  exact ⟨i, j, h1, h2, h3⟩
theorem o_sub : OpS X (binaryOp .Sub) pSub := OpR.imp op_sub fun _ _ _ _ => iop_of0
theorem io_sub : OpS X (inplaceOp .Sub) pSub := OpR.imp iop_sub fun _ _ _ _ => iop_of0
theorem cmul_of {i j : Int} (h : cmul i j = true) : CMul i j := by
  replace h := of_cb h
  exact h
theorem o_mulI : OpS X (binaryOp .Mult) pMulI := OpR.imp op_mul fun _ _ _ _ => iop_of fun _ _ => cmul_of
theorem io_mulI : OpS X (inplaceOp .Mult) pMulI := OpR.imp iop_mul fun _ _ _ _ => iop_of fun _ _ => cmul_of
theorem o_mod : OpS X (binaryOp .Mod) pMod := OpR.imp op_mod fun _ _ _ _ => iop_of fun _ _ h => of_decide_eq_true h
theorem o_div : OpS X (binaryOp .FloorDiv) pDiv := OpR.imp op_fdiv fun _ _ _ _ => iop_of fun _ _ h => by simpa [CDiv] using cdiv_eq h
theorem o_pow : OpS X (binaryOp .Pow) pPow := OpR.imp op_pow fun _ _ _ _ => iop_of fun _ _ h => by
  simp only [Bool.and_eq_true, decide_eq_true_eq] at h
  exact ⟨h.1.1, h.1.2, h.2⟩
theorem u_neg : UnR X (unaryOp .USub) (rP1 X pNeg) := fun pins s σ H x v Q I rx h => by
  refine un_neg pins s σ H x v Q I rx ?_
  obtain ⟨ρ, S, x, s, v1, h⟩ := h
  unfold pNeg at h
  split at h
  · exact ⟨_, by simpa [VR] using v1, Post.here (rel := relV X.K) s h (by simp [relV, VR])⟩
  · exact h.elim
/-! ### comparisons of numbers -/
def icmp (g : Int → Int → Bool) : P2 := fun x y S => match x, y with
  | .int i, .int j => .ok (.bl (g i j)) S
  | _, _ => .bad
def pLt : P2 := icmp fun i j => decide (i < j)
def pLe : P2 := icmp fun i j => decide (i ≤ j)
def pGt : P2 := icmp fun i j => decide (j < i)
def pGe : P2 := icmp fun i j => decide (j ≤ i)
theorem icmp_of {g : Int → Int → Bool} {u w : V} {H : Hp} {Q : VK} (h : rP2 X (icmp g) u w H Q) : rI0 (fun i j => .bl (g i j)) u w H Q := by
  obtain ⟨ρ, S, x, y, s, v1, v2, h⟩ := h
  unfold icmp at h
  split at h
  · rename_i i j
    exact ⟨i, j, by simpa [VR] using v1, by simpa [VR] using v2, Post.here (rel := relV X.K) s h (by simp [relV, VR])⟩
  · exact h.elim
theorem o_lt : OpS X (compareOp .Lt) pLt := OpR.imp op_lt fun _ _ _ _ => icmp_of
theorem o_le : OpS X (compareOp .LtE) pLe := OpR.imp op_le fun _ _ _ _ => icmp_of
theorem o_gt : OpS X (compareOp .Gt) pGt := OpR.imp op_gt fun _ _ _ _ => icmp_of
theorem o_ge : OpS X (compareOp .GtE) pGe := OpR.imp op_ge fun _ _ _ _ => icmp_of
/-! ### is -/
def isC (x y : Val) : Option Bool := match y, x with
  | .non, .non => some true
  | .non, _ => some false
  | .bl b, .bl c => some (decide (c = b))
  | .bl _, _ => some false
  | _, _ => none
def pIs : P2 := fun x y S => match isC x y with
  | some b => .ok (.bl b) S
  | none => .bad
def pIsNot : P2 := fun x y S => match isC x y with
  | some b => .ok (.bl (!b)) S
  | none => .bad
theorem op_isC : OpR X (compareOp .Is) (fun x y H Q => (y = .non ∨ ∃ b, y = .bl b) ∧ Q (.bl (decide (x = y))) H) := by
  intro pins s σ H x y v u Q I rx ry h
  obtain ⟨hy, q⟩ := h
  rcases hy with rfl | ⟨b, rfl⟩
  · exact op_isN pins s σ H x _ v u Q I rx ry ⟨rfl, q⟩
  · cases ry
    have plain : plainIs v (.bool b) = true := by
      cases x <;> first
        | (cases rx; rfl)
        | (obtain ⟨t, rfl⟩ := rx; rfl)
    by_cases e : v = .bool b
    · subst e
      refine wpAny_is_self plain (fin_bl I q ?_)
      cases x with
      | bl c =>
        cases rx
        simp
      | non => cases rx
      | int i => obtain ⟨t, z⟩ := rx; cases z
      | str i => obtain ⟨t, z⟩ := rx; cases z
      | byt i => obtain ⟨t, z⟩ := rx; cases z
      | flt i => obtain ⟨t, z⟩ := rx; cases z
      | ref i => cases rx
      | ty i => cases rx
    · refine wpAny_is_other plain e (fin_bl I q ?_)
      apply decide_eq_false
      intro z
      subst z
      exact e rx
theorem op_notC : OpR X (compareOp .IsNot) (fun x y H Q => (y = .non ∨ ∃ b, y = .bl b) ∧ Q (.bl (!decide (x = y))) H) := by
  intro pins s σ H x y v u Q I rx ry h
  obtain ⟨hy, q⟩ := h
  rcases hy with rfl | ⟨b, rfl⟩
  · exact op_notN pins s σ H x _ v u Q I rx ry ⟨rfl, q⟩
  · cases ry
    have plain : plainIs v (.bool b) = true := by
      cases x <;> first
        | (cases rx; rfl)
        | (obtain ⟨t, rfl⟩ := rx; rfl)
    by_cases e : v = .bool b
    · subst e
      refine wpAny_isNot_self plain (fin_bl I q ?_)
      cases x with
      | bl c =>
        cases rx
        simp
      | non => cases rx
      | int i => obtain ⟨t, z⟩ := rx; cases z
      | str i => obtain ⟨t, z⟩ := rx; cases z
      | byt i => obtain ⟨t, z⟩ := rx; cases z
      | flt i => obtain ⟨t, z⟩ := rx; cases z
      | ref i => cases rx
      | ty i => cases rx
    · refine wpAny_isNot_other plain e (fin_bl I q ?_)
      have : decide (x = V.bl b) = false := by
        apply decide_eq_false
        intro z
        subst z
        exact e rx
      rw [this]; rfl
theorem isC_of {K : PySem.W.Frag} {ρ : Rho} {n : Nat} {H : Hp} {x y : Val} {u w : V} {b : Bool} (v1 : VR K ρ n H x u) (v2 : VR K ρ n H y w) (h : isC x y = some b) : (w = .non ∨ ∃ b, w = .bl b) ∧ decide (u = w) = b := by
  cases y with
  | non =>
    have e2 : w = .non := by simpa [VR] using v2
    subst e2
    refine ⟨.inl rfl, ?_⟩
    cases x with
    | non => simp [isC] at h; have : u = .non := by simpa [VR] using v1
             subst this; simp [← h]
    | tup vs => simp [isC] at h; simp only [VR] at v1; obtain ⟨a, xs, e, _⟩ := v1; subst e; simp [← h]
    | fl vs => simp [isC] at h; simp only [VR] at v1; obtain ⟨a, e, _⟩ := v1; subst e; simp [← h]
    | ref i => simp [isC] at h; simp only [VR] at v1; obtain ⟨a, e⟩ := v1; subst e; simp [← h]
    | bl c => simp [isC] at h; simp only [VR] at v1; subst v1; simp [← h]
    | int c => simp [isC] at h; simp only [VR] at v1; subst v1; simp [← h]
    | str c => simp [isC] at h; simp only [VR] at v1; subst v1; simp [← h]
  | bl d =>
    have e2 : w = .bl d := by simpa [VR] using v2
    subst e2
    refine ⟨.inr ⟨d, rfl⟩, ?_⟩
    cases x with
    | non => simp [isC] at h; simp only [VR] at v1; subst v1; simp [← h]
    | tup vs => simp [isC] at h; simp only [VR] at v1; obtain ⟨a, xs, e, _⟩ := v1; subst e; simp [← h]
    | fl vs => simp [isC] at h; simp only [VR] at v1; obtain ⟨a, e, _⟩ := v1; subst e; simp [← h]
    | ref i => simp [isC] at h; simp only [VR] at v1; obtain ⟨a, e⟩ := v1; subst e; simp [← h]
    | bl c => simp [isC] at h; simp only [VR] at v1; subst v1; simp [← h]
    | int c => simp [isC] at h; simp only [VR] at v1; subst v1; simp [← h]
    | str c => simp [isC] at h; simp only [VR] at v1; subst v1; simp [← h]
  | _ => simp [isC] at h
theorem o_is : OpS X (compareOp .Is) pIs := OpR.imp op_isC fun u w H Q h => by
  obtain ⟨ρ, S, x, y, s, v1, v2, h⟩ := h
  unfold pIs at h
  split at h
  · rename_i b hb
    obtain ⟨h1, h2⟩ := isC_of v1 v2 hb
    rw [h2]
    exact ⟨h1, Post.here (rel := relV X.K) s h (by simp [relV, VR])⟩
  · exact h.elim
theorem o_isNot : OpS X (compareOp .IsNot) pIsNot := OpR.imp op_notC fun u w H Q h => by
  obtain ⟨ρ, S, x, y, s, v1, v2, h⟩ := h
  unfold pIsNot at h
  split at h
  · rename_i b hb
    obtain ⟨h1, h2⟩ := isC_of v1 v2 hb
    rw [h2]
    exact ⟨h1, Post.here (rel := relV X.K) s h (by simp [relV, VR])⟩
  · exact h.elim
/-! ### ==, != -/
/-- a value as data, at most n deep -/
def toD : Nat → Store → Val → Option PyData
  | _, _, .non => some .none
  | _, _, .bl b => some (.bool b)
  | _, _, .int i => some (.int i)
  | _, _, .str x => some (.str x)
  | n + 1, S, .tup vs => (vs.mapM (toD n S)).map .tuple
  | n + 1, S, .ref i => match S[i]? with
    | some (.lst xs) => (xs.mapM (toD n S)).map .list
    | _ => none
  | _, _, _ => none
def DEEP : Nat := 70
def eqO (x y : Val) (S : Store) : Option Bool := match toD DEEP S x, toD DEEP S y with
  | some d, some e => if SeqAt.shaped d && SeqAt.shaped e then some (PyData.eqv d e) else none
  | _, _ => none
def pEq : P2 := fun x y S => match eqO x y S with
  | some b => .ok (.bl b) S
  | none => .bad
def pNe : P2 := fun x y S => match eqO x y S with
  | some b => .ok (.bl (!b)) S
  | none => .bad
theorem mapM_dp {K : PySem.W.Frag} {H : Hp} {ρ : Rho} {m : Nat} {f : Val → Option PyData} (hf : ∀ (v : Val) (u : V) (d : PyData), VR K ρ m H v u → f v = some d → Dp K H u d) :
    ∀ (vs : List Val) (us : List V) (ds : List PyData), VRs K ρ m H vs us → vs.mapM f = some ds → DpAll K H us ds
  | [], us, ds, h, e => by
    simp at e
    subst e
    rw [h.nil_of]
    exact .nil
  | v :: vs, us, ds, h, e => by
    obtain ⟨u, r, rfl, h1, h2⟩ := h.cons_of
    rw [List.mapM_cons] at e
    cases hv : f v with
    | none => rw [hv] at e; cases e
    | some d =>
      rw [hv] at e
      cases hvs : vs.mapM f with
      | none => rw [hvs] at e; cases e
      | some ds' =>
        rw [hvs] at e
        cases e
        exact .cons (hf v u d h1 hv) (mapM_dp hf vs r ds' h2 hvs)
theorem toD_of {K : PySem.W.Frag} {mg : Str → Option Value} {ρ : Rho} {S : Store} {H : Hp} (s : SR K mg ρ S H) : ∀ (n : Nat) (v : Val) (u : V) (d : PyData), VR K ρ S.length H v u → toD n S v = some d → Dp K H u d := by
  intro n
  induction n with
  | zero =>
    intro v u d h e
    cases v <;> simp [toD] at e <;> simp only [VR] at h <;> subst e
    · subst h; exact .non
    · subst h; exact .bl _
    · subst h; exact .int _
    · subst h; exact .str _
  | succ n ih =>
    intro v u d h e
    cases v with
    | non => simp [toD] at e; simp only [VR] at h; subst e h; exact .non
    | bl b => simp [toD] at e; simp only [VR] at h; subst e h; exact .bl _
    | int b => simp [toD] at e; simp only [VR] at h; subst e h; exact .int _
    | str b => simp [toD] at e; simp only [VR] at h; subst e h; exact .str _
    | fl b => simp [toD] at e
    | tup vs =>
      simp only [toD] at e
      simp only [VR] at h
      obtain ⟨a, xs, rfl, q, r⟩ := h
      cases hm : vs.mapM (toD n S) with
      | none => rw [hm] at e; cases e
      | some ds =>
        rw [hm] at e
        cases e
        exact .tup q.sq (mapM_dp (fun v u d => ih v u d) vs xs ds r hm)
    | ref i =>
      simp only [toD] at e
      simp only [VR] at h
      obtain ⟨hi, rfl⟩ := h
      split at e
      · rename_i xs q
        obtain ⟨us, g1, g2⟩ := s.lst q
        cases hm : xs.mapM (toD n S) with
        | none => rw [hm] at e; cases e
        | some ds =>
          rw [hm] at e
          cases e
          exact .lst (SqL.of g1) (mapM_dp (fun v u d => ih v u d) xs us ds g2 hm)
      · cases e
theorem eqO_of {u w : V} {H : Hp} {x y : Val} {ρ : Rho} {S : Store} {b : Bool} (s : SR X.K X.mg ρ S H) (v1 : VR X.K ρ S.length H x u) (v2 : VR X.K ρ S.length H y w) (h : eqO x y S = some b) :
    ∃ d e, Dp X.K H u d ∧ Dp X.K H w e ∧ SeqAt.shaped d = true ∧ SeqAt.shaped e = true ∧ PyData.eqv d e = b := by
  unfold eqO at h
  split at h
  · rename_i d e hd he
    split at h
    · rename_i hs
      simp only [Bool.and_eq_true] at hs
      cases h
      exact ⟨d, e, toD_of s _ _ _ _ v1 hd, toD_of s _ _ _ _ v2 he, hs.1, hs.2, rfl⟩
    · cases h
  · cases h
theorem o_eq (hu : X.A.units + 64 < cLine) : OpS X (compareOp .Eq) pEq := OpR.imp (op_eqD hu) fun u w H Q h => by
  obtain ⟨ρ, S, x, y, s, v1, v2, h⟩ := h
  unfold pEq at h
  split at h
  · rename_i b hb
    obtain ⟨d, e, h1, h2, h3, h4, h5⟩ := eqO_of s v1 v2 hb
    exact ⟨d, e, h1, h2, h3, h4, by rw [h5]; exact Post.here (rel := relV X.K) s h (by simp [relV, VR])⟩
  · exact h.elim
theorem o_ne (hu : X.A.units + 64 < cLine) : OpS X (compareOp .NotEq) pNe := OpR.imp (op_neD hu) fun u w H Q h => by
  obtain ⟨ρ, S, x, y, s, v1, v2, h⟩ := h
  unfold pNe at h
  split at h
  · rename_i b hb
    obtain ⟨d, e, h1, h2, h3, h4, h5⟩ := eqO_of s v1 v2 hb
    exact ⟨d, e, h1, h2, h3, h4, by rw [h5]; exact Post.here (rel := relV X.K) s h (by simp [relV, VR])⟩
  · exact h.elim
/-! ### + of numbers, texts, tuples, lists; * of lists and tuples -/
def newL (xs : List Val) (S : Store) : R Val := .ok (.ref S.length) (S ++ [.lst xs])
def pAdd : P2 := fun x y S => match x, y with
  | .int i, .int j => .ok (.int (i + j)) S
  | .str a, .str b => bite (decide (a.length + b.length ≤ LIM)) (.ok (.str (a ++ b)) S) .bad
  | .tup a, .tup b => bite (decide (a.length + b.length ≤ LIM)) (.ok (.tup (a ++ b)) S) .bad
  | .ref i, .ref j => match S[i]?, S[j]? with
    | some (.lst a), some (.lst b) => bite (decide (a.length + b.length ≤ LIM)) (newL (a ++ b) S) .bad
    | _, _ => .bad
  | _, _ => .bad
theorem tup_new {K : PySem.W.Frag} {mg : Str → Option Value} {ρ : Rho} {S : Store} {H : Hp} {σ : L2.St} {vs : List Val} {us : List V} {Q : VK} (s : SR K mg ρ S H) (h : Post K mg (relV K) W0 ρ S H σ (.ok (.tup vs) S) Q) (r : VRs K ρ S.length H vs us) : ∀ p, H p = none → Q (.ref p) (upd H p (.tup us)) := fun p hp => by
  refine h ρ _ _ (Ext.side hp) (s.side hp) ?_
  simp only [relV, VR]
  exact ⟨p, us, rfl, .inl upd_same, VRs.ext s (Ext.side hp) _ _ r⟩
theorem lst_new {σ : L2.St} {ρ : Rho} {S : Store} {H : Hp} {vs : List Val} {us : List V} {Q : VK} (s : SR X.K X.mg ρ S H) (h : Post X.K X.mg (relV X.K) W0 ρ S H σ (newL vs S) Q) (r : VRs X.K ρ S.length H vs us) : ∀ p, H p = none → Q (.ref p) (upd H p (.lst us)) :=
  new_of s h fun p hp => ⟨us, upd_same, VRs.ext s (Ext.new hp) _ _ r⟩
theorem add_of {u w : V} {H : Hp} {Q : VK} (h : rP2 X pAdd u w H Q) : (rI0 fun i j => .int (i + j)) u w H Q ∨ (∃ i j, u = .str i ∧ w = .str j ∧ i.length + j.length ≤ sizeLine ∧ Q (.str (i ++ j)) H) ∨ rCatA X.K u w H Q ∨ rCat u w H Q := by
  obtain ⟨ρ, S, x, y, s, v1, v2, h⟩ := h
  unfold pAdd at h
  split at h
  · rename_i i j
    exact .inl ⟨i, j, by simpa [VR] using v1, by simpa [VR] using v2, Post.here (rel := relV X.K) s h (by simp [relV, VR])⟩
  · rename_i a b
    by_cases hz : a.length + b.length ≤ LIM
    · rw [bite_pos (decide_eq_true hz)] at h
      rw [lim_eq] at hz
      exact .inr (.inl ⟨a, b, by simpa [VR] using v1, by simpa [VR] using v2, hz, Post.here (rel := relV X.K) s h (by simp [relV, VR])⟩)
    · rw [bite_neg (decide_eq_false hz)] at h
      exact h.elim
  · rename_i a b
    by_cases hz : a.length + b.length ≤ LIM
    · rw [bite_pos (decide_eq_true hz)] at h
      rw [lim_eq] at hz
      have v1' := v1
      have v2' := v2
      simp only [VR] at v1 v2
      obtain ⟨p, xs, rfl, q1, r1⟩ := v1
      obtain ⟨p2, ys, rfl, q2, r2⟩ := v2
      refine .inr (.inr (.inl ⟨p, p2, xs, ys, rfl, rfl, q1.sq, q2.sq, by rw [← r1.length, ← r2.length]; exact hz, fun e => ?_, fun e1 e2 => ?_, fun _ _ => tup_new s h (r1.append r2)⟩))
      · have : a = [] := by
          have := r1.length
          rw [e] at this
          exact List.eq_nil_of_length_eq_zero this
        subst this
        exact Post.here (rel := relV X.K) s h (by simpa [relV] using v2')
      · have : b = [] := by
          have := r2.length
          rw [e2] at this
          exact List.eq_nil_of_length_eq_zero this
        subst this
        rw [List.append_nil] at h
        exact Post.here (rel := relV X.K) s h v1'
    · rw [bite_neg (decide_eq_false hz)] at h
      exact h.elim
  · rename_i i j
    split at h
    · rename_i a b qa qb
      by_cases hz : a.length + b.length ≤ LIM
      · rw [bite_pos (decide_eq_true hz)] at h
        rw [lim_eq] at hz
        obtain ⟨us, g1, g2⟩ := s.lst qa
        obtain ⟨ws, g3, g4⟩ := s.lst qb
        simp only [VR] at v1 v2
        exact .inr (.inr (.inr ⟨ρ i, ρ j, us, ws, v1.2, v2.2, g1, g3, by rw [← g2.length, ← g4.length]; exact hz, lst_new s h (g2.append g4)⟩))
      · rw [bite_neg (decide_eq_false hz)] at h
        exact h.elim
    · exact h.elim
  · exact h.elim
theorem o_add : OpS X (binaryOp .Add) pAdd := OpR.imp (op_add.or (op_add_str.or (op_catA.or op_cat))) fun _ _ _ _ h => add_of h
def pAddI : P2 := iop (fun _ _ => true) fun i j => i + j
theorem io_addI : OpS X (inplaceOp .Add) pAddI := OpR.imp iop_add fun _ _ _ _ => iop_of0
/-! ### subscripts -/
def keyOf (v : Val) : Option Key := match v with
  | .int i => some (.inl i)
  | .str x => some (.inr x)
  | _ => none
def keysOf : List Val → Option (List Key)
  | [] => some []
  | v :: vs => match keyOf v, keysOf vs with
    | some k, some ks => some (k :: ks)
    | _, _ => none
theorem keyOf_of {K : PySem.W.Frag} {ρ : Rho} {n : Nat} {H : Hp} {v : Val} {u : V} {k : Key} (r : VR K ρ n H v u) (h : keyOf v = some k) : u = kV k := by
  cases v with
  | int i => simp [keyOf] at h; subst h; simpa [VR, kV] using r
  | str i => simp [keyOf] at h; subst h; simpa [VR, kV] using r
  | _ => simp [keyOf] at h
theorem keysOf_of {K : PySem.W.Frag} {ρ : Rho} {n : Nat} {H : Hp} : ∀ {vs : List Val} {us : List V} {ks : List Key}, VRs K ρ n H vs us → keysOf vs = some ks → us = ks.map kV
  | [], us, ks, r, h => by simp [keysOf] at h; subst h; exact r.nil_of
  | v :: vs, us, ks, r, h => by
    obtain ⟨u, r', rfl, h1, h2⟩ := r.cons_of
    simp only [keysOf] at h
    split at h
    · rename_i k ks' hk hks
      cases h
      rw [keyOf_of h1 hk, keysOf_of h2 hks]
      rfl
    · cases h
/-- a tuple as a key; the module's own tuples are none -/
def tkey (ks : List Val) : Option (List Key) := match ownC ks with
  | true => none
  | false => keysOf ks
theorem tkey_of {K : PySem.W.Frag} {ρ : Rho} {n : Nat} {H : Hp} {ks : List Val} {u : V} {k : List Key} (r : VR K ρ n H (.tup ks) u) (h : tkey ks = some k) : ∃ b, u = .ref b ∧ H b = some (.tup (k.map kV)) := by
  simp only [VR] at r
  obtain ⟨b, us, rfl, q, r⟩ := r
  unfold tkey at h
  split at h
  · cases h
  · rename_i hc
    rw [keysOf_of r h] at q
    rcases q with q | ⟨q, _⟩
    · exact ⟨b, rfl, q⟩
    · rw [hc] at q; cases q
def pIx : P2 := fun x y S => match x, y with
  | .tup vs, .int i => match atI vs i with
    | some v => .ok v S
    | none => .bad
  | .fl ns, .int i => match atI ns i with
    | some v => .ok (.int v) S
    | none => .bad
  | .str z, .int i => match atI z.cps.toList i with
    | some c => bite (decide (z.length ≤ LIM)) (.ok (.str ⟨#[c]⟩) S) .bad
    | none => .bad
  | .ref a, .int i => match S[a]? with
    | some (.lst vs) => match atI vs i with
      | some v => .ok v S
      | none => .bad
    | some (.dK kvs) => match valL kvs (.inl i) with
      | some v => .ok v S
      | none => .bad
    | some (.fK kvs) => match valL kvs (.inl i) with
      | some v => .ok v S
      | none => .bad
    | _ => .bad
  | .ref a, .str k => match S[a]? with
    | some (.dK kvs) => match valL kvs (.inr k) with
      | some v => .ok v S
      | none => .bad
    | _ => .bad
  | .ref a, .tup ks => match S[a]? with
    | some (.dT kvs) => match tkey ks with
      | some k => match valL kvs k with
        | some v => .ok v S
        | none => .bad
      | none => .bad
    | some (.fT kvs) => match tkey ks with
      | some k => match valL kvs k with
        | some v => .ok v S
        | none => .bad
      | none => .bad
    | _ => .bad
  | _, _ => .bad
theorem atI_rel {K : PySem.W.Frag} {ρ : Rho} {n : Nat} {H : Hp} {vs : List Val} {us : List V} {i : Int} {v : Val} (r : VRs K ρ n H vs us) (h : atI vs i = some v) : ∃ u, atI us i = some u ∧ VR K ρ n H v u := by
  unfold atI at h ⊢
  rw [← r.length]
  cases hi : ixN vs.length i with
  | none => rw [hi] at h; cases h
  | some j =>
    rw [hi] at h
    obtain ⟨u, h1, h2⟩ := r.get (show vs[j]? = some v from h)
    exact ⟨u, h1, h2⟩
theorem atI_map {α β : Type} {f : α → β} {xs : List α} {i : Int} {v : α} (h : atI xs i = some v) : atI (xs.map f) i = some (f v) := by
  unfold atI at h ⊢
  rw [List.length_map]
  cases hi : ixN xs.length i with
  | none => rw [hi] at h; cases h
  | some j =>
    rw [hi] at h
    show (xs.map f)[j]? = some (f v)
    rw [List.getElem?_map, show xs[j]? = some v from h]
    rfl
/-- a dict's value at a key, as the layer says it -/
theorem valV_lookup {κ : Type} [DecidableEq κ] {K : PySem.W.Frag} {ρ : Rho} {n : Nat} {H : Hp} {k : κ} : ∀ {l : List (κ × Val)} {m : List (κ × V)}, KR K ρ n H l m → match valL l k, valV m k with
    | some v, some u => VR K ρ n H v u
    | none, none => True
    | _, _ => False
  | [], m, h => by
    have : m = [] := by have := h.1; simpa using this.symm
    subst this
    simp [valL, valV]
  | (g, v) :: l, m, h => by
    obtain ⟨h1, h2⟩ := h
    cases m with
    | nil => simp at h1
    | cons p m =>
      obtain ⟨g', u⟩ := p
      simp only [List.map_cons, List.cons.injEq] at h1
      obtain ⟨rfl, h1⟩ := h1
      simp only [List.map_cons] at h2
      obtain ⟨u0, r, e, h2, h3⟩ := h2.cons_of
      cases e
      have ih := valV_lookup (k := k) (l := l) (m := m) ⟨h1, h3⟩
      by_cases q : k = g
      · subst q
        rw [valV_pos rfl]
        simp only [valL, if_true]
        exact h2
      · rw [valV_neg (p := (g, u)) (fun z => q z.symm)]
        simp only [valL, if_neg (fun z => q z.symm : ¬ g = k)]
        exact ih
def rIxD : R2 := fun x y H Q => ∃ a v, x = .ref a ∧ DGet H a y (some v) ∧ Q v H
theorem ix_dict (hu : X.A.units + 1 < cLine) : IxR X rIxD := by
  intro value slice pins s σ H x y v u Q I rx ry h hs
  obtain ⟨a, w, rfl, g, q⟩ := h
  obtain rfl : v = Value.ref a := rx
  have hT : s.TypeIs (.ref a) "dict" := dict_typeIs I g
  have h₂ : wpAny (model X.prog X.w) X.A (getItem (.ref a) u) (EP X pins σ Q) X.xe s := d_getItem hu I g ry fun w' s' I' r' => ⟨w, H, I', r', q⟩
  unfold PyProof.Rows.subscriptTail
  refine wpAny_bind ?_
  rw [getitemInPython_of_ne hT.not_modules]
  refine wpAny_bind (wpAny_specialOf hT PySem.F.slot_dict_getitem.lookup ?_)
  have fin : wpAny (model X.prog X.w) X.A (subscripted slice false (.ref a) u) (fun r s₃ => wpAny (model X.prog X.w) X.A (letTemporaryGo value (.ref a) r >>= fun _ => pure r) (EP X pins σ Q) X.xe s₃) X.xe s := by
    rw [hs]
    exact wpAny_operating (wpAny_mono h₂ (fun r s₃ h₃ => wpAny_bind (wpAny_letTemporaryGo (wpAny_pure h₃))) fun _ _ x => x)
  first
    | exact wpAny_pure (wpAny_bind fin)
    | exact wpAny_bind (wpAny_pure (wpAny_bind fin))
    | exact wpAny_bind fin
theorem dk_get {ρ : Rho} {S : Store} {H : Hp} {a : Nat} {kvs : List (Key × Val)} {k : Key} {v : Val} (s : SR X.K X.mg ρ S H) (q : S[a]? = some (.dK kvs)) (hk : valL kvs k = some v) : ∃ u, DGet H (ρ a) (kV k) (some u) ∧ VR X.K ρ S.length H v u := by
  obtain ⟨us, g1, g2⟩ := s.ob a _ q
  have lk := valV_lookup (k := k) g2
  rw [hk] at lk
  cases hv : valV us k with
  | none => rw [hv] at lk; exact lk.elim
  | some u =>
    rw [hv] at lk
    exact ⟨u, by rw [← hv]; exact DGet.k g1, lk⟩
theorem fk_get {ρ : Rho} {S : Store} {H : Hp} {a : Nat} {kvs : List (Key × Val)} {k : Key} {v : Val} (s : SR X.K X.mg ρ S H) (q : S[a]? = some (.fK kvs)) (hk : valL kvs k = some v) : ∃ u, DGet H (ρ a) (kV k) (some u) ∧ VR X.K ρ S.length H v u := by
  obtain ⟨o, us, g1, g2⟩ := s.ob a _ q
  have lk := valV_lookup (k := k) g2
  rw [hk] at lk
  cases hv : valV us k with
  | none => rw [hv] at lk; exact lk.elim
  | some u =>
    rw [hv] at lk
    exact ⟨u, .inl ⟨us, k, .inr ⟨o, g1⟩, rfl, hv.symm⟩, lk⟩
theorem ix_of {u w : V} {H : Hp} {Q : VK} (h : rP2 X pIx u w H Q) : rIx X.K u w H Q ∨ rIxD u w H Q := by
  obtain ⟨ρ, S, x, y, s, v1, v2, h⟩ := h
  unfold pIx at h
  split at h
  · rename_i vs i
    split at h
    · rename_i v hv
      simp only [VR] at v1 v2
      obtain ⟨a, xs, rfl, q, r⟩ := v1
      obtain ⟨u', h1, h2⟩ := atI_rel r hv
      exact .inl (.inr (.inl ⟨a, xs, i, u', rfl, v2, q.sq, h1, Post.here (rel := relV X.K) s h h2⟩))
    · exact h.elim
  · rename_i ns i
    split at h
    · rename_i v hv
      simp only [VR] at v1 v2
      obtain ⟨a, rfl, q⟩ := v1
      exact .inl (.inl ⟨a, _, i, .int v, rfl, v2, q.seq, atI_map hv, Post.here (rel := relV X.K) s h (by simp [relV, VR])⟩)
    · exact h.elim
  · rename_i z i
    split at h
    · rename_i c hc
      by_cases hz : z.length ≤ LIM
      · rw [bite_pos (decide_eq_true hz)] at h
        rw [lim_eq] at hz
        simp only [VR] at v1 v2
        exact .inl (.inr (.inr ⟨z, i, c, v1, v2, hz, hc, Post.here (rel := relV X.K) s h (by simp [relV, VR])⟩))
      · rw [bite_neg (decide_eq_false hz)] at h
        exact h.elim
    · exact h.elim
  · rename_i a i
    simp only [VR] at v1 v2
    obtain ⟨ha, rfl⟩ := v1
    subst v2
    split at h
    · rename_i vs q
      split at h
      · rename_i v hv
        obtain ⟨us, g1, g2⟩ := s.lst q
        obtain ⟨u', h1, h2⟩ := atI_rel g2 hv
        exact .inl (.inl ⟨_, us, i, u', rfl, rfl, SqL.of g1, h1, Post.here (rel := relV X.K) s h h2⟩)
      · exact h.elim
    · rename_i kvs q
      split at h
      · rename_i v hv
        obtain ⟨u', h1, h2⟩ := dk_get s q hv
        exact .inr ⟨_, u', rfl, h1, Post.here (rel := relV X.K) s h h2⟩
      · exact h.elim
    · rename_i kvs q
      split at h
      · rename_i v hv
        obtain ⟨u', h1, h2⟩ := fk_get s q hv
        exact .inr ⟨_, u', rfl, h1, Post.here (rel := relV X.K) s h h2⟩
      · exact h.elim
    · exact h.elim
  · rename_i a i
    simp only [VR] at v1 v2
    obtain ⟨ha, rfl⟩ := v1
    subst v2
    split at h
    · rename_i kvs q
      split at h
      · rename_i v hv
        obtain ⟨u', h1, h2⟩ := dk_get s q hv
        exact .inr ⟨_, u', rfl, h1, Post.here (rel := relV X.K) s h h2⟩
      · exact h.elim
    · exact h.elim
  · rename_i a ks
    have v1' := v1
    simp only [VR] at v1'
    obtain ⟨ha, rfl⟩ := v1'
    split at h
    · rename_i kvs q
      split at h
      · rename_i k hk
        split at h
        · rename_i v hv
          obtain ⟨b, rfl, hb⟩ := tkey_of v2 hk
          obtain ⟨us, g1, g2⟩ := s.ob a _ q
          have lk := valV_lookup (k := k) g2
          rw [hv] at lk
          cases hv' : valV us k with
          | none => rw [hv'] at lk; exact lk.elim
          | some u' =>
            rw [hv'] at lk
            exact .inr ⟨_, u', rfl, by rw [← hv']; exact DGet.t g1 hb, Post.here (rel := relV X.K) s h lk⟩
        · exact h.elim
      · exact h.elim
    · rename_i kvs q
      split at h
      · rename_i k hk
        split at h
        · rename_i v hv
          obtain ⟨b, rfl, hb⟩ := tkey_of v2 hk
          obtain ⟨fo, us, g1, g2⟩ := s.ob a _ q
          have lk := valV_lookup (k := k) g2
          rw [hv] at lk
          cases hv' : valV us k with
          | none => rw [hv'] at lk; exact lk.elim
          | some u' =>
            rw [hv'] at lk
            exact .inr ⟨_, u', rfl, (.inr ⟨us, k, b, .inr ⟨fo, g1⟩, rfl, hb, hv'.symm⟩), Post.here (rel := relV X.K) s h lk⟩
        · exact h.elim
      · exact h.elim
    · exact h.elim
  · exact h.elim
theorem e_ix {W : WX} {a b : Expr} {ma mb : ME} {pos : Pos} (hu : X.A.units + 1 < cLine) (ha : PEm X W a ma) (hb : PEm X W b mb) (hs : PlainIx b := by intro _ _; rfl) : PEm X W (.Subscript a b pos) (m2 pIx ma mb) :=
  PE.imp (pe_ix (r := rP2 X pIx) (fun value slice pins s σ H x y v u Q I rx ry h hs => (ix_seq.or (ix_dict hu)) value slice pins s σ H x y v u Q I rx ry (ix_of h) hs) ha hb hs) fun _ _ _ => m2_of
/-! ### slices -/
def cutL {α : Type} (xs : List α) (lo hi : Option Int) : List α := (xs.drop (HT.sIx xs.length 0 lo)).take (HT.sIx xs.length xs.length hi - HT.sIx xs.length 0 lo)
def partV (v : Option Val) : Option (Option Int) := match v with
  | none => some none
  | some (.int i) => some (some i)
  | _ => none
/-- x[lo:hi] -/
def pSl (x : Val) (lo hi : Option Int) (S : Store) : R Val := match x with
  | .tup vs => .ok (.tup (cutL vs lo hi)) S
  | .fl ns => newL ((cutL ns lo hi).map Val.int) S
  | .ref a => match S[a]? with
    | some (.lst vs) => newL (cutL vs lo hi) S
    | _ => .bad
  | _ => .bad
abbrev MO := Loc → Store → R (Option Int)
def oNo : MO := fun _ S => .ok none S
def oSome (e : ME) : MO := fun L S => (e L S).bind fun v S1 => match v with
  | .int i => .ok (some i) S1
  | _ => .bad
def mSl (e : ME) (lo hi : MO) : ME := fun L S => (e L S).bind fun x S1 => (lo L S1).bind fun l S2 => (hi L S2).bind fun h S3 => noExn (pSl x l h S3)
def relO : Rel (Option Int) (Option Int) := fun _ _ _ a b => b = a
def TOm (K : PySem.W.Frag) (mg : Str → Option Value) (W : WX) (m : MO) : TO := fun σ H Q => ∃ ρ S L, SR K mg ρ S H ∧ LR K ρ S.length H L σ ∧ Post K mg relO W ρ S H σ (m L S) Q
abbrev POm (X : Cx) (W : WX) (e : Option Expr) (m : MO) : Prop := PO X e (TOm X.K X.mg W m)
theorem PO.imp {e : Option Expr} {t t' : TO} (h : PO X e t) (i : ∀ σ H Q, t' σ H Q → t σ H Q) : PO X e t' := ⟨fun pins s σ H Q I q => h.run pins s σ H Q I (i σ H Q q)⟩
theorem o_no {W : WX} : POm X W none oNo := PO.imp po_none fun σ H Q ⟨ρ, S, L, s, l, h⟩ => Post.here (rel := relO) s h rfl
theorem o_some {W : WX} {e : Expr} {m : ME} (h : PEm X W e m) : POm X W (some e) (oSome m) := PO.imp (po_some h) fun σ H Q ⟨ρ, S, L, s, l, h⟩ => by
  refine TEm.bind s l h fun ρ1 S1 x u H1 s1 l1 e v h => ?_
  cases x with
  | int i => exact ⟨i, by simpa [VR] using v, Post.here (rel := relO) s1 h rfl⟩
  | _ => exact h.elim
theorem cutV_rel {K : PySem.W.Frag} {ρ : Rho} {n : Nat} {H : Hp} {vs : List Val} {us : List V} (r : VRs K ρ n H vs us) (lo hi : Option Int) : VRs K ρ n H (cutL vs lo hi) (cutV us lo hi) := by
  unfold cutL cutV
  rw [← r.length]
  exact (r.drop _).take _
theorem cutV_map {ns : List Int} {lo hi : Option Int} : cutV (ns.map V.int) lo hi = (cutL ns lo hi).map V.int := by
  unfold cutL cutV
  simp [List.map_take, List.map_drop]
def rSlM (X : Cx) : V → Option Int → Option Int → Hp → VK → Prop := fun u lo hi H Q => ∃ ρ S x, SR X.K X.mg ρ S H ∧ VR X.K ρ S.length H x u ∧ Post X.K X.mg (relV X.K) W0 ρ S H [] (pSl x lo hi S) Q
theorem sl_of {u : V} {lo hi : Option Int} {H : Hp} {Q : VK} (h : rSlM X u lo hi H Q) : rSlL X.K u lo hi H Q ∨ rSlA X.K u lo hi H Q := by
  obtain ⟨ρ, S, x, s, v1, h⟩ := h
  unfold pSl at h
  split at h
  · rename_i vs
    have v1' := v1
    simp only [VR] at v1
    obtain ⟨a, xs, rfl, q, r⟩ := v1
    refine .inr ⟨a, xs, rfl, q.sq, fun e => ?_, fun _ => tup_new s h (cutV_rel r lo hi)⟩
    have : cutL vs lo hi = vs := by
      unfold cutL
      rw [r.length, e.1, e.2]
      simp
      rw [← r.length, List.take_length]
    rw [this] at h
    exact Post.here (rel := relV X.K) s h v1'
  · rename_i ns
    simp only [VR] at v1
    obtain ⟨a, rfl, q⟩ := v1
    refine .inl ⟨a, _, rfl, q.seq, ?_⟩
    rw [cutV_map]
    exact lst_new s h (VRs.of_ints _)
  · rename_i a
    simp only [VR] at v1
    obtain ⟨ha, rfl⟩ := v1
    split at h
    · rename_i vs q
      obtain ⟨us, g1, g2⟩ := s.lst q
      exact .inl ⟨_, us, rfl, SqL.of g1, lst_new s h (cutV_rel g2 lo hi)⟩
    · exact h.elim
  · exact h.elim
theorem TOm.bind {K : PySem.W.Frag} {mg : Str → Option Value} {W : WX} {γ β : Type} {rel : Rel γ β} {m : MO} {k : Option Int → Store → R γ} {ρ : Rho} {S : Store} {H : Hp} {L : Loc} {σ : L2.St} {Q : β → Hp → Prop} (s : SR K mg ρ S H) (l : LR K ρ S.length H L σ)
    (h : Post K mg rel W ρ S H σ ((m L S).bind k) Q) {Q' : Option Int → Hp → Prop} (hq : ∀ ρ1 S1 a H1, SR K mg ρ1 S1 H1 → LR K ρ1 S1.length H1 L σ → Ext ρ S H ρ1 S1 H1 → Post K mg rel W ρ1 S1 H1 σ (k a S1) Q → Q' a H1) :
    TOm K mg W m σ H Q' := ⟨ρ, S, L, s, l, (Post.bind (rel1 := relO) h).mono fun u H1 ⟨ρ1, S1, a, _, e, s1, v, q⟩ => by
      have v' : u = a := v
      subst v'
      exact hq ρ1 S1 u H1 s1 (l.ext s e) e q⟩
theorem e_sl {W : WX} {e : Expr} {m : ME} {lo hi : Option Expr} {ml mh : MO} {p2 pos : Pos} (he : PEm X W e m) (hl : POm X W lo ml) (hh : POm X W hi mh) : PEm X W (.Subscript e (.Slice lo hi none p2) pos) (mSl m ml mh) :=
  PE.imp (pe_slice (r := rSlM X) (fun pins s σ H x v vl vu lo hi sl Q I rx hs pl pu h => (sl_list.or sl_tupA) pins s σ H x v vl vu lo hi sl Q I rx hs pl pu (sl_of h)) he hl hh) fun σ H Q ⟨ρ, S, L, s, l, h⟩ =>
    TEm.bind s l h fun ρ1 S1 x u H1 s1 l1 e1 v h => TOm.bind s1 l1 h fun ρ2 S2 lo H2 s2 l2 e2 h => TOm.bind s2 l2 h fun ρ3 S3 hi H3 s3 l3 e3 h =>
      ⟨ρ3, S3, x, s3, VR.ext s2 e3 _ _ (VR.ext s1 e2 _ _ v), (Post.noExn h W0).sig⟩
end
end Mp

/-! Mp8: stores by place, in, len, isinstance, built-ins, methods, walks. -/
namespace Mp
open PySem PySem.Spec L2
section
variable {X : Cx}
/-! ### o[i] = v -/
def putL {κ α : Type} [DecidableEq κ] (l : List (κ × α)) (k : κ) (v : α) : List (κ × α) := if l.any fun p => decide (p.1 = k) then l.map fun p => if p.1 = k then (p.1, v) else p else l ++ [(k, v)]
def pSet (x y v : Val) (S : Store) : R Unit := match x with
  | .ref a => match S[a]? with
    | some (.lst vs) => match y with
      | .int i => match ixN vs.length i with
        | some j => .ok () (S.set a (.lst (vs.set j v)))
        | none => .bad
      | _ => .bad
    | some (.dK kvs) => match keyOf y with
      | some k => bite (decide (kvs.length < LIM)) (.ok () (S.set a (.dK (putL kvs k v)))) .bad
      | none => .bad
    | some (.dT kvs) => match y with
      | .tup ks => match tkey ks with
        | some k => bite (decide (kvs.length < LIM)) (.ok () (S.set a (.dT (putL kvs k v)))) .bad
        | none => .bad
      | _ => .bad
    | _ => .bad
  | _ => .bad
theorem KR.put {κ : Type} [DecidableEq κ] {K : PySem.W.Frag} {ρ : Rho} {n : Nat} {H : Hp} {k : κ} {v : Val} {u : V} {l : List (κ × Val)} {m : List (κ × V)} (h : KR K ρ n H l m) (hv : VR K ρ n H v u) : KR K ρ n H (putL l k v) (putK m k u) := by
  have hany : (l.any fun p => decide (p.1 = k)) = m.any fun p => decide (p.1 = k) := by
    have e : ∀ {α : Type} (l : List (κ × α)), (l.any fun p => decide (p.1 = k)) = (l.map (·.1)).any fun x => decide (x = k) := fun l => by rw [List.any_map]; rfl
    rw [e, e, h.1]
  unfold putL putK
  rw [hany]
  split
  · refine ⟨?_, ?_⟩
    · have e : ∀ {α : Type} (w : α) (l : List (κ × α)), (l.map fun p => if p.1 = k then (p.1, w) else p).map (·.1) = l.map (·.1) := fun w l => by
        rw [List.map_map]
        apply List.map_congr_left
        intro p _
        show (if p.1 = k then (p.1, w) else p).1 = p.1
        split <;> rfl
      rw [e, e, h.1]
    · rename_i hsome
      clear hany hsome
      induction l generalizing m with
      | nil =>
        have : m = [] := by have := h.1; simpa using this.symm
        subst this
        simp [VRs]
      | cons p l ih =>
        cases m with
        | nil => have := h.1; simp at this
        | cons q m =>
          obtain ⟨h1, h2⟩ := h
          simp only [List.map_cons, List.cons.injEq] at h1
          simp only [List.map_cons] at h2 ⊢
          obtain ⟨u0, r, e, h3, h4⟩ := h2.cons_of
          cases e
          refine VRs.cons ?_ (ih ⟨h1.2, h4⟩)
          rw [h1.1]
          by_cases hk : q.1 = k
          · rw [if_pos hk, if_pos hk]; exact hv
          · rw [if_neg hk, if_neg hk]; exact h3
  · exact ⟨by simp [h.1], by simp only [List.map_append, List.map_cons, List.map_nil]; exact h.2.append (VRs.cons hv VRs.nil)⟩
theorem PSet.imp {t t' : TSet} (h : PSet X t) (i : ∀ o j v H Q, t' o j v H Q → t o j v H Q) : PSet X t' := fun pins s σ H o j v ov iv u Q I r1 r2 r3 q => h pins s σ H o j v ov iv u Q I r1 r2 r3 (i _ _ _ _ _ q)
theorem PSet.or {t t' : TSet} (h : PSet X t) (h' : PSet X t') : PSet X (fun o j v H Q => t o j v H Q ∨ t' o j v H Q) := fun pins s σ H o j v ov iv u Q I r1 r2 r3 q => by
  rcases q with q | q
  · exact h pins s σ H o j v ov iv u Q I r1 r2 r3 q
  · exact h' pins s σ H o j v ov iv u Q I r1 r2 r3 q
theorem set_of {o i v : V} {H : Hp} {Q : Hp → Prop} (h : rSet X pSet o i v H Q) : rSetL o i v H Q ∨ rSetD o i v H Q := by
  obtain ⟨ρ, S, x, y, z, s, v1, v2, v3, h⟩ := h
  unfold pSet at h
  split at h
  · rename_i a
    simp only [VR] at v1
    obtain ⟨ha, rfl⟩ := v1
    split at h
    · rename_i vs q
      obtain ⟨us, g1, g2⟩ := s.lst q
      split at h
      · rename_i i'
        split at h
        · rename_i j hj
          refine .inl ⟨ρ a, us, i', j, rfl, by simpa [VR] using v2, g1, by rw [← g2.length]; exact hj, ?_⟩
          have e : Ext ρ S H ρ (S.set a (.lst (vs.set j z))) (upd H (ρ a) (.lst (us.set j v))) := Ext.put ha
          refine h ρ _ () e (s.put ha ⟨_, upd_same, ?_⟩) trivial
          have := VRs.ext s e _ _ (VRs.set j v3 g2)
          simpa using this
        · exact h.elim
      · exact h.elim
    · rename_i kvs q
      split at h
      · rename_i k hk
        by_cases hz : kvs.length < LIM
        · rw [bite_pos (decide_eq_true hz)] at h
          rw [lim_eq] at hz
          obtain ⟨us, g1, g2⟩ := s.ob a _ q
          have ek := keyOf_of v2 hk
          subst ek
          refine .inr ⟨ρ a, _, rfl, DPut.k g1 (by rw [← g2.len]; exact hz), ?_⟩
          have e : Ext ρ S H ρ (S.set a (.dK (putL kvs k z))) (upd H (ρ a) (.dK (putK us k v))) := Ext.put ha
          refine h ρ _ () e (s.put ha ⟨_, upd_same, ?_⟩) trivial
          have := KR.ext s e (g2.put (k := k) v3)
          simpa using this
        · rw [bite_neg (decide_eq_false hz)] at h
          exact h.elim
      · exact h.elim
    · rename_i kvs q
      split at h
      · rename_i ks
        split at h
        · rename_i k hk
          by_cases hz : kvs.length < LIM
          · rw [bite_pos (decide_eq_true hz)] at h
            rw [lim_eq] at hz
            obtain ⟨us, g1, g2⟩ := s.ob a _ q
            obtain ⟨b, rfl, hb⟩ := tkey_of v2 hk
            refine .inr ⟨ρ a, _, rfl, DPut.t g1 hb (by rw [← g2.len]; exact hz), ?_⟩
            have e : Ext ρ S H ρ (S.set a (.dT (putL kvs k z))) (upd H (ρ a) (.dT (putK us k v))) := Ext.put ha
            refine h ρ _ () e (s.put ha ⟨_, upd_same, ?_⟩) trivial
            have := KR.ext s e (g2.put (k := k) v3)
            simpa using this
          · rw [bite_neg (decide_eq_false hz)] at h
            exact h.elim
        · exact h.elim
      · exact h.elim
    · exact h.elim
  · exact h.elim
theorem st_set (hu : X.A.units + 1 < cLine) : PSet X (rSet X pSet) := PSet.imp (PSet.or set_list (set_dict hu)) fun _ _ _ _ _ h => set_of h
/-! ### in -/
def inO (x y : Val) (S : Store) : Option Bool := match y with
  | .ref a => match S[a]? with
    | some (.dK kvs) => match keyOf x with
      | some k => some (valL kvs k).isSome
      | none => none
    | some (.lst vs) => match toD DEEP S x, vs.mapM (toD (DEEP - 1) S) with
      | some d, some ds => if SeqAt.shaped d && SeqAt.shaped (.list ds) then some (ds.any fun z => PyData.eqv z d) else none
      | _, _ => none
    | _ => none
  | _ => none
/-! ### len -/
def lenO (x : Val) (S : Store) : Option Nat := match x with
  | .tup vs => some vs.length
  | .fl ns => some ns.length
  | .str z => if z.length ≤ LIM then some z.length else none
  | .ref a => match S[a]? with
    | some (.lst vs) => some vs.length
    | some (.dK kvs) => some kvs.length
    | _ => none
  | _ => none
def one (f : Val → Store → R Val) : Fn := fun vs S => match vs with
  | [v] => f v S
  | _ => .bad
def fLen : Fn := one fun v S => match lenO v S with
  | some n => .ok (.int n) S
  | none => .bad
theorem one_of {f : Val → Store → R Val} {us : List V} {H : Hp} {Q : VK} (h : rF X (one f) us H Q) : ∃ u, us = [u] ∧ rP1 X f u H Q := by
  obtain ⟨ρ, S, xs, s, v, h⟩ := h
  unfold one at h
  split at h
  · rename_i x
    obtain ⟨u, rfl, r⟩ := v.one
    exact ⟨u, rfl, ρ, S, x, s, r, h⟩
  · exact h.elim
theorem call_lenD : CallR X (.builtin "len") (fun xs H Q => ∃ a kvs, xs = [.ref a] ∧ H a = some (.dK kvs) ∧ Q (.int kvs.length) H) := by
  intro pins s σ H xs us Q I r h
  obtain ⟨a, kvs, rfl, e, q⟩ := h
  obtain rfl := Vals.ref1 r
  exact d_len I (.inl e) fun t s' I' => ⟨.int kvs.length, H, I', ⟨t, rfl⟩, q⟩
theorem len_of {us : List V} {H : Hp} {Q : VK} (h : rF X fLen us H Q) : (∃ x n, us = [x] ∧ LenV X.K x H n ∧ Q (.int n) H) ∨ (∃ a kvs, us = [.ref a] ∧ H a = some (.dK kvs) ∧ Q (.int kvs.length) H) := by
  replace h := one_of h
  obtain ⟨u, rfl, ρ, S, x, s, v, h⟩ := h
  dsimp only at h
  split at h
  · rename_i n hn
    have q : Q (.int n) H := Post.here (rel := relV X.K) s h (by simp [relV, VR])
    unfold lenO at hn
    split at hn
    · rename_i vs
      cases hn
      simp only [VR] at v
      obtain ⟨a, xs, rfl, h1, h2⟩ := v
      exact .inl ⟨_, _, rfl, .inr ⟨xs, h1.sq, h2.length⟩, q⟩
    · rename_i ns
      cases hn
      simp only [VR] at v
      obtain ⟨a, rfl, h1⟩ := v
      exact .inl ⟨_, _, rfl, .inl ⟨_, h1.seq, by simp⟩, q⟩
    · rename_i z
      split at hn
      · rename_i hz
        cases hn
        rw [lim_eq] at hz
        simp only [VR] at v
        subst v
        exact .inl ⟨_, _, rfl, ⟨hz, rfl⟩, q⟩
      · cases hn
    · rename_i a
      simp only [VR] at v
      obtain ⟨ha, rfl⟩ := v
      split at hn
      · rename_i vs e
        cases hn
        obtain ⟨us, g1, g2⟩ := s.lst e
        exact .inl ⟨_, _, rfl, .inl ⟨us, SqL.of g1, g2.length⟩, q⟩
      · rename_i kvs e
        cases hn
        obtain ⟨us, g1, g2⟩ := s.ob a _ e
        rw [g2.len] at q
        exact .inr ⟨_, us, rfl, g1, q⟩
      · cases hn
    · cases hn
  · exact h.elim
theorem c_len : CallR X (.builtin "len") (rF X fLen) := CallR.imp (call_len.or call_lenD) fun _ _ _ h => len_of h
/-! ### int(n), list(xs), tuple(xs), abs, max, min of two, ord -/
def fInt : Fn := one fun v S => match v with
  | .int i => .ok (.int i) S
  | .bl b => .ok (.int (if b then 1 else 0)) S
  | _ => .bad
theorem c_int : CallR X (.type "int") (rF X fInt) := CallR.imp call_int1 fun us H Q h => by
  replace h := one_of h
  obtain ⟨u, rfl, ρ, S, x, s, v, h⟩ := h
  dsimp only at h
  split at h
  · simp only [VR] at v; subst v
    exact .inl ⟨_, rfl, Post.here (rel := relV X.K) s h (by simp [relV, VR])⟩
  · simp only [VR] at v; subst v
    exact .inr ⟨_, rfl, Post.here (rel := relV X.K) s h (by simp [relV, VR])⟩
  · exact h.elim
def fAbs : Fn := one fun v S => match v with
  | .int i => .ok (.int (if i < 0 then -i else i)) S
  | _ => .bad
theorem c_abs : CallR X (.builtin "abs") (rF X fAbs) := CallR.imp call_abs fun us H Q h => by
  replace h := one_of h
  obtain ⟨u, rfl, ρ, S, x, s, v, h⟩ := h
  dsimp only at h
  split at h
  · simp only [VR] at v; subst v
    exact ⟨_, rfl, Post.here (rel := relV X.K) s h (by simp [relV, VR])⟩
  · exact h.elim
def two (f : Int → Int → Int) : Fn := fun vs S => match vs with
  | [.int i, .int j] => .ok (.int (f i j)) S
  | _ => .bad
theorem two_of {f : Int → Int → Int} {us : List V} {H : Hp} {Q : VK} (h : rF X (two f) us H Q) : ∃ i j, us = [.int i, .int j] ∧ Q (.int (f i j)) H := by
  obtain ⟨ρ, S, xs, s, v, h⟩ := h
  unfold two at h
  split at h
  · obtain ⟨u, w, rfl, r1, r2⟩ := v.two
    simp only [VR] at r1 r2
    subst r1 r2
    exact ⟨_, _, rfl, Post.here (rel := relV X.K) s h (by simp [relV, VR])⟩
  · exact h.elim
def fMax : Fn := two fun i j => if j > i then j else i
def fMin : Fn := two fun i j => if j < i then j else i
theorem c_max (hc : X.calm = true) : CallR X (.builtin "max") (rF X fMax) := CallR.imp (call_max2 hc) fun us H Q h => two_of h
theorem c_min (hc : X.calm = true) : CallR X (.builtin "min") (rF X fMin) := CallR.imp (call_min2 hc) fun us H Q h => two_of h
def itemsO (x : Val) (S : Store) : Option (List Val) := match x with
  | .tup vs => some vs
  | .fl ns => some (ns.map Val.int)
  | .ref a => match S[a]? with
    | some (.lst vs) => some vs
    | _ => none
  | _ => none
theorem items_of {ρ : Rho} {S : Store} {H : Hp} {x : Val} {u : V} {vs : List Val} (s : SR X.K X.mg ρ S H) (v : VR X.K ρ S.length H x u) (h : itemsO x S = some vs) : ∃ a us, u = .ref a ∧ (SqL X.K H a us ∨ SqT X.K H a us) ∧ VRs X.K ρ S.length H vs us := by
  unfold itemsO at h
  split at h
  · cases h
    simp only [VR] at v
    obtain ⟨a, xs, rfl, h1, h2⟩ := v
    exact ⟨a, xs, rfl, .inr h1.sq, h2⟩
  · cases h
    simp only [VR] at v
    obtain ⟨a, rfl, h1⟩ := v
    exact ⟨a, _, rfl, .inl h1.seq, VRs.of_ints _⟩
  · rename_i a
    simp only [VR] at v
    obtain ⟨ha, rfl⟩ := v
    split at h
    · rename_i vs' e
      cases h
      obtain ⟨us, g1, g2⟩ := s.lst e
      exact ⟨_, us, rfl, .inl (SqL.of g1), g2⟩
    · cases h
  · cases h
def fList : Fn := one fun v S => match itemsO v S with
  | some vs => newL vs S
  | none => .bad
theorem c_list : CallR X (.type "list") (rF X fList) := CallR.imp call_list_of fun us H Q h => by
  replace h := one_of h
  obtain ⟨u, rfl, ρ, S, x, s, v, h⟩ := h
  dsimp only at h
  split at h
  · rename_i vs e
    obtain ⟨a, us, rfl, h1, h2⟩ := items_of s v e
    exact ⟨a, us, rfl, h1, lst_new s h h2⟩
  · exact h.elim
def fTuple : Fn := one fun v S => match itemsO v S with
  | some vs => .ok (.tup vs) S
  | none => .bad
theorem c_tuple : CallR X (.type "tuple") (rF X fTuple) := CallR.imp call_tuple_of fun us H Q h => by
  replace h := one_of h
  obtain ⟨u, rfl, ρ, S, x, s, v, h⟩ := h
  dsimp only at h
  split at h
  · rename_i vs e
    unfold itemsO at e
    split at e
    · cases e
      have v' := v
      simp only [VR] at v
      obtain ⟨a, xs, rfl, h1, h2⟩ := v
      exact ⟨a, xs, rfl, .inr ⟨h1.sq, Post.here (rel := relV X.K) s h v'⟩⟩
    · cases e
      simp only [VR] at v
      obtain ⟨a, rfl, h1⟩ := v
      exact ⟨a, _, rfl, .inl ⟨h1.seq, tup_new s h (VRs.of_ints _)⟩⟩
    · rename_i a
      simp only [VR] at v
      obtain ⟨ha, rfl⟩ := v
      split at e
      · rename_i vs' e'
        cases e
        obtain ⟨us, g1, g2⟩ := s.lst e'
        exact ⟨_, us, rfl, .inl ⟨SqL.of g1, tup_new s h g2⟩⟩
      · cases e
    · cases e
  · exact h.elim
/-! ### isinstance -/
/-- the name of a value's type (an instance has none here) -/
def tyName (v : Val) (S : Store) : Option String := match v with
  | .non => some "NoneType"
  | .bl _ => some "bool"
  | .int _ => some "int"
  | .str _ => some "str"
  | .tup _ => some "tuple"
  | .fl _ => some "list"
  | .ref a => match S[a]? with
    | some (.lst _) => some "list"
    | some (.dK _) => some "dict"
    | some (.dT _) => some "dict"
    | _ => none
/-- is a value of the type t one of T -/
def subTy (t T : String) : Bool := t == T || (t == "bool" && T == "int")
def pIsT (T : String) : P1 := fun v S => match tyName v S with
  | some t => .ok (.bl (subTy t T)) S
  | none => .bad
def pIsAny (Ts : List String) : P1 := fun v S => match tyName v S with
  | some t => .ok (.bl (Ts.any (subTy t))) S
  | none => .bad
theorem ty_of {ρ : Rho} {S : Store} {H : Hp} {x : Val} {u : V} {t : String} (s : SR X.K X.mg ρ S H) (v : VR X.K ρ S.length H x u) (h : tyName x S = some t) : TyX X.K H u (.type t) := by
  unfold tyName at h
  split at h
  · cases h; simp only [VR] at v; subst v; exact .base .non
  · cases h; simp only [VR] at v; subst v; exact .base (.bl _)
  · cases h; simp only [VR] at v; subst v; exact .base (.int _)
  · cases h; simp only [VR] at v; subst v; exact .base (.str _)
  · cases h
    simp only [VR] at v
    obtain ⟨a, xs, rfl, h0, _⟩ := v
    rcases h0.sq with (h1 | ⟨o, h1⟩) | ⟨o, its, n, h1, h2, _⟩
    · exact .base (.tup h1)
    · exact .fTuple h1
    · exact .kTuple h1 h2
  · cases h
    simp only [VR] at v
    obtain ⟨a, rfl, ⟨o, h1⟩ | ⟨o, its, n, h1, h2, _⟩⟩ := v
    · exact .base (.frz h1)
    · exact .kList h1 h2
  · rename_i a
    simp only [VR] at v
    obtain ⟨ha, rfl⟩ := v
    split at h
    · rename_i vs e
      cases h
      obtain ⟨us, g1, g2⟩ := s.lst e
      exact .base (.lst g1)
    · rename_i vs e
      cases h
      obtain ⟨us, g1, g2⟩ := s.ob a _ e
      exact .base (.dK g1)
    · rename_i vs e
      cases h
      obtain ⟨us, g1, g2⟩ := s.ob a _ e
      exact .base (.dT g1)
    · cases h
def tyNames : List String := ["NoneType", "bool", "int", "str", "tuple", "list", "dict"]
def tyTests : List String := ["bool", "int", "str", "tuple", "list", "dict"]
theorem tyName_mem {v : Val} {S : Store} {t : String} (h : tyName v S = some t) : t ∈ tyNames := by
  unfold tyName at h
  split at h
  all_goals first
    | (cases h; decide)
    | (split at h <;> first | (cases h; decide) | cases h)
theorem kit_all : (tyNames.all fun t => tyTests.all fun T => kitB t T == some (subTy t T)) = true := by decide +kernel
theorem kit_one {K : PySem.W.Frag} {t T : String} (ht : t ∈ tyNames) (hT : T ∈ tyTests) : PySem.W.kitOne K (.type t) (.type T) = some (subTy t T) := by
  have := List.all_eq_true.mp (List.all_eq_true.mp kit_all t ht) T hT
  exact kit_ty (by simpa using this)
/-- isinstance(x, T), T a built-in class -/
theorem e_isT {W : WX} {a : Expr} {ma : ME} {p pos p2 : Pos} {T : Str} {Tn : String} (hg : Gl X "isinstance") (hm : X.mg "isinstance" = none) (ha : PEm X W a ma) (hgT : Gl X T) (hmT : X.mg T = none) (hvT : bootBuiltins T = some (.type Tn)) (hT : Tn ∈ tyTests)
    (hn : T ≠ "__name__" := by decide) (hd : (T == ("__debug__" : Str)) = false := by decide)
    (hs1 : starEach [a, .Name T p2] X.env = (false, eval a X.env) :: starEach [.Name T p2] X.env := by rfl) (hs2 : starEach [.Name T p2] X.env = (false, eval (.Name T p2) X.env) :: starEach [] X.env := by rfl) (hpl : (backTo pos (starEach [.Name T p2] X.env)).any (·.1) = false := by rfl) :
    PEm X W (.Call (.Name "isinstance" p) [a, .Name T p2] [] pos) (m1 (pIsT Tn) ma) :=
  PE.imp (pe_callB call_isi hg hm (by decide +kernel) (pa_cons ha (pa_cons (pe_bltn (v := .ty Tn) hgT hmT hvT rfl hn hd) pa_nil hs2) hs1) (by decide) (by decide) hs1 hpl) fun σ H Q h => by
    obtain ⟨ρ, S, L, s, l, h⟩ := h
    refine TEm.bind s l h fun ρ1 S1 x u H1 s1 l1 e v h => ?_
    have h := (Post.noExn h W0).sig (σ' := σ)
    unfold pIsT at h
    split at h
    · rename_i t ht
      exact ⟨u, .ty Tn, .type t, .type Tn, subTy t Tn, rfl, .ty Tn, ty_of s1 v ht, kit_one (tyName_mem ht) hT, Post.here (rel := relV X.K) s1 h (by simp [relV, VR])⟩
    · exact h.elim
end
end Mp

/-! Mp9: in, methods, sorted, walks over ranges, enumerate, zip. -/
namespace Mp
open PySem PySem.Spec L2
section
variable {X : Cx}
/-! ### in, not in -/
def flatL (v : Val) : Option V := match v with
  | .non => some .non
  | .bl b => some (.bl b)
  | .int i => some (.int i)
  | .str x => some (.str x)
  | _ => none
def inF (x y : Val) (S : Store) : Option Bool := match y with
  | .ref a => match S[a]? with
    | some (.dK kvs) => match keyOf x with
      | some k => some (valL kvs k).isSome
      | none => none
    | some (.lst vs) => match flatL x, vs.mapM flatL with
      | some u, some us => some (inV u us)
      | _, _ => none
    | some (.dT kvs) => match x with
      | .tup ks => match tkey ks with
        | some k => some (valL kvs k).isSome
        | none => none
      | _ => none
    | _ => none
  | .tup vs => match flatL x, vs.mapM flatL with
    | some u, some us => some (inV u us)
    | _, _ => none
  | _ => none
def pIn : P2 := fun x y S => match inF x y S with
  | some b => .ok (.bl b) S
  | none => .bad
def pNotIn : P2 := fun x y S => match inF x y S with
  | some b => .ok (.bl (!b)) S
  | none => .bad
theorem flat_of {K : PySem.W.Frag} {ρ : Rho} {n : Nat} {H : Hp} {x : Val} {u w : V} (v : VR K ρ n H x u) (h : flatL x = some w) : u = w ∧ flatV w = true := by
  cases x with
  | non => simp [flatL] at h; simp only [VR] at v; subst h v; exact ⟨rfl, rfl⟩
  | bl b => simp [flatL] at h; simp only [VR] at v; subst h v; exact ⟨rfl, rfl⟩
  | int b => simp [flatL] at h; simp only [VR] at v; subst h v; exact ⟨rfl, rfl⟩
  | str b => simp [flatL] at h; simp only [VR] at v; subst h v; exact ⟨rfl, rfl⟩
  | _ => simp [flatL] at h
theorem flats_of {K : PySem.W.Frag} {ρ : Rho} {n : Nat} {H : Hp} : ∀ {xs : List Val} {us ws : List V}, VRs K ρ n H xs us → xs.mapM flatL = some ws → us = ws ∧ ws.all flatV = true
  | [], us, ws, v, h => by simp at h; subst h; exact ⟨v.nil_of, rfl⟩
  | x :: xs, us, ws, v, h => by
    obtain ⟨u, r, rfl, h1, h2⟩ := v.cons_of
    rw [List.mapM_cons] at h
    cases hx : flatL x with
    | none => rw [hx] at h; cases h
    | some d =>
      rw [hx] at h
      cases hxs : xs.mapM flatL with
      | none => rw [hxs] at h; cases h
      | some ds =>
        rw [hxs] at h
        cases h
        obtain ⟨e1, f1⟩ := flat_of h1 hx
        obtain ⟨e2, f2⟩ := flats_of h2 hxs
        subst e1 e2
        exact ⟨rfl, by simp [f1, f2]⟩
def rInK (neg : Bool) : R2 := fun x y H Q => ∃ a o, y = .ref a ∧ DGet H a x o ∧ Q (.bl (if neg then !o.isSome else o.isSome)) H
theorem op_inK (hu : X.A.units + 1 < cLine) : OpR X (compareOp .In) (rInK false) := by
  intro pins s σ H x y v u Q I rx ry h
  obtain ⟨a, o, rfl, g, q⟩ := h
  obtain rfl : u = Value.ref a := ry
  exact d_in hu I g rx fun s' I' => ⟨.bl o.isSome, H, I', rfl, q⟩
theorem op_notInK (hu : X.A.units + 1 < cLine) : OpR X (compareOp .NotIn) (rInK true) := by
  intro pins s σ H x y v u Q I rx ry h
  obtain ⟨a, o, rfl, g, q⟩ := h
  obtain rfl : u = Value.ref a := ry
  exact d_notIn hu I g rx fun s' I' => ⟨.bl (!o.isSome), H, I', rfl, q⟩
theorem inF_of {neg : Bool} {u w : V} {H : Hp} {Q : VK} {ρ : Rho} {S : Store} {x y : Val} {b : Bool} (s : SR X.K X.mg ρ S H) (v1 : VR X.K ρ S.length H x u) (v2 : VR X.K ρ S.length H y w) (hb : inF x y S = some b) (q : Q (.bl (if neg then !b else b)) H) : rIn X.K neg u w H Q ∨ rInK neg u w H Q := by
  unfold inF at hb
  split at hb
  · rename_i a
    simp only [VR] at v2
    obtain ⟨ha, rfl⟩ := v2
    split at hb
    · rename_i kvs e
      split at hb
      · rename_i k hk
        cases hb
        obtain ⟨us, g1, g2⟩ := s.ob a _ e
        have ek := keyOf_of v1 hk
        subst ek
        have lk := valV_lookup (k := k) g2
        have : (valL kvs k).isSome = (valV us k).isSome := by
          cases h1 : valL kvs k <;> cases h2 : valV us k <;> rw [h1, h2] at lk <;> first | rfl | exact lk.elim
        rw [this] at q
        exact .inr ⟨_, _, rfl, DGet.k g1, q⟩
      · cases hb
    · rename_i vs e
      split at hb
      · rename_i d ds hd hds
        cases hb
        obtain ⟨us, g1, g2⟩ := s.lst e
        obtain ⟨e1, f1⟩ := flat_of v1 hd
        obtain ⟨e2, f2⟩ := flats_of g2 hds
        subst e1 e2
        exact .inl ⟨_, _, rfl, .inl (SqL.of g1), f1, f2, q⟩
      · cases hb
    · rename_i kvs e
      split at hb
      · rename_i ks
        split at hb
        · rename_i k hk
          cases hb
          obtain ⟨us, g1, g2⟩ := s.ob a _ e
          obtain ⟨b, rfl, hb⟩ := tkey_of v1 hk
          have lk := valV_lookup (k := k) g2
          have : (valL kvs k).isSome = (valV us k).isSome := by
            cases h1 : valL kvs k <;> cases h2 : valV us k <;> rw [h1, h2] at lk <;> first | rfl | exact lk.elim
          rw [this] at q
          exact .inr ⟨_, _, rfl, DGet.t g1 hb, q⟩
        · cases hb
      · cases hb
    · cases hb
  · rename_i vs
    simp only [VR] at v2
    obtain ⟨a, xs, rfl, g1, g2⟩ := v2
    split at hb
    · rename_i d ds hd hds
      cases hb
      obtain ⟨e1, f1⟩ := flat_of v1 hd
      obtain ⟨e2, f2⟩ := flats_of g2 hds
      subst e1 e2
      exact .inl ⟨_, _, rfl, .inr g1.sq, f1, f2, q⟩
    · cases hb
  · cases hb
theorem o_in (hu : X.A.units + 1 < cLine) : OpS X (compareOp .In) pIn := OpR.imp (op_in_seq.or (op_inK hu)) fun u w H Q h => by
  obtain ⟨ρ, S, x, y, s, v1, v2, h⟩ := h
  unfold pIn at h
  split at h
  · rename_i b hb
    exact inF_of (neg := false) s v1 v2 hb (Post.here (rel := relV X.K) s h (by simp [relV, VR]))
  · exact h.elim
theorem o_notIn (hu : X.A.units + 1 < cLine) : OpS X (compareOp .NotIn) pNotIn := OpR.imp (op_notIn_seq.or (op_notInK hu)) fun u w H Q h => by
  obtain ⟨ρ, S, x, y, s, v1, v2, h⟩ := h
  unfold pNotIn at h
  split at h
  · rename_i b hb
    exact inF_of (neg := true) s v1 v2 hb (Post.here (rel := relV X.K) s h (by simp [relV, VR]))
  · exact h.elim
/-! ### methods of built-in types -/
abbrev Mt := Val → List Val → Store → R Val
def isTy (T : String) (v : Val) (S : Store) : Bool := match v with
  | .ref a => match S[a]? with
    | some (.lst _) => T == "list"
    | some (.dK _) => T == "dict"
    | some (.dT _) => T == "dict"
    | _ => false
  | .fl _ => T == "list"
  | .str _ => T == "str"
  | _ => false
/-- o.m(..), o of the built-in class T -/
def mBM (T : String) (f : Mt) (o : ME) (a : MA) : ME := fun L S => (o L S).bind fun x S1 => bite (isTy T x S1) ((a L S1).bind fun vs S2 => noExn (f x vs S2)) .bad
def rM (X : Cx) (f : Mt) : V → List V → Hp → VK → Prop := fun u us H Q => ∃ ρ S x xs, SR X.K X.mg ρ S H ∧ VR X.K ρ S.length H x u ∧ VRs X.K ρ S.length H xs us ∧ Post X.K X.mg (relV X.K) W0 ρ S H [] (f x xs S) Q
theorem isTy_of {T : String} {ρ : Rho} {S : Store} {H : Hp} {x : Val} {u : V} (s : SR X.K X.mg ρ S H) (v : VR X.K ρ S.length H x u) (h : isTy T x S = true) : tyV X.K T u H := by
  unfold isTy at h
  split at h
  · rename_i a
    simp only [VR] at v
    obtain ⟨ha, rfl⟩ := v
    split at h
    · rename_i vs e
      obtain ⟨us, g1, g2⟩ := s.lst e
      exact .inl ⟨by simpa using h, us, SqL.of g1⟩
    · rename_i vs e
      obtain ⟨us, g1, g2⟩ := s.ob a _ e
      exact .inr (.inr (.inl ⟨by simpa using h, .inl ⟨us, g1⟩⟩))
    · rename_i vs e
      obtain ⟨us, g1, g2⟩ := s.ob a _ e
      exact .inr (.inr (.inl ⟨by simpa using h, .inr ⟨us, g1⟩⟩))
    · cases h
  · simp only [VR] at v
    obtain ⟨a, rfl, h1⟩ := v
    exact .inl ⟨by simpa using h, _, h1.seq⟩
  · simp only [VR] at v
    subst v
    show T = "str"
    simpa using h
  · cases h
theorem MtR.imp {id : String} {r r' : V → List V → Hp → VK → Prop} (h : MtR X id r) (i : ∀ u us H Q, r' u us H Q → r u us H Q) : MtR X id r' := fun pins s σ H x xs v us Q I rx rs q => h pins s σ H x xs v us Q I rx rs (i _ _ _ _ q)
variable {W : WX} {o e : Expr} {es : List Expr} {mo : ME} {ma : MA} {name : Str} {apos cpos pos : Pos} {T id : String} {f : Mt}
theorem bm_of {σ : L2.St} {H : Hp} {Q : VK} (h : TEm X.K X.mg W (mBM T f mo ma) σ H Q) : TEm X.K X.mg W mo σ H fun x H1 => tyV X.K T x H1 ∧ TAm X.K X.mg W ma σ H1 fun xs H2 => rM X f x xs H2 Q := by
  obtain ⟨ρ, S, L, s, l, h⟩ := h
  refine TEm.bind s l h fun ρ1 S1 x u H1 s1 l1 e v h => ?_
  cases ht : isTy T x S1 with
  | false => rw [ht] at h; exact h.elim
  | true =>
    rw [ht] at h
    exact ⟨isTy_of s1 v ht, TAm.bind s1 l1 h fun ρ2 S2 xs us H2 s2 l2 e2 v2 h => ⟨ρ2, S2, x, xs, s2, VR.ext s1 e2 _ _ v, v2, (Post.noExn h W0).sig⟩⟩
theorem e_bm (pa : PlainAttrs T) (slot : Slot T name id) (hty : typeOf (.builtin id) = pure (.type "method_descriptor")) (hm : MtR X id (rM X f)) (ho : PEm X W o mo) (ha : PAm X W (e :: es) ma)
    (hbase : attributeBase o name X.env (eval o X.env) = eval o X.env := by rfl)
    (hfew : ((backTo cpos (starEach (e :: es) X.env)).all (fun x => !x.1) && (backToKw cpos (keywordEach [] X.env)).all (fun x => x.1.isSome)
      && decide ((e :: es).length + ([] : List Keyword).length + (if ([] : List Keyword).isEmpty then 0 else 1) < 30)) = true := by rfl)
    (hline : (apos.endLine == cpos.line) = true := by rfl) (hs : starEach (e :: es) X.env = (false, eval e X.env) :: starEach es X.env := by rfl) (hplain : (backTo cpos (starEach es X.env)).any (·.1) = false := by rfl) :
    PEm X W (.Call (.Attribute o name apos) (e :: es) [] cpos) (mBM T f mo ma) := PE.imp (pe_bm pa slot hty hm ho ha hbase hfew hline hs hplain) fun _ _ _ => bm_of
theorem e_bm0 (pa : PlainAttrs T) (slot : Slot T name id) (hty : typeOf (.builtin id) = pure (.type "method_descriptor")) (hm : MtR X id (rM X f)) (ho : PEm X W o mo)
    (hbase : attributeBase o name X.env (eval o X.env) = eval o X.env := by rfl) (hline : (apos.endLine == cpos.line) = true := by rfl) : PEm X W (.Call (.Attribute o name apos) [] [] cpos) (mBM T f mo aNil) := PE.imp (pe_bm0 pa slot hty hm ho hbase hline) fun σ H Q h => by
  obtain ⟨ρ, S, L, s, l, h⟩ := bm_of h
  refine ⟨ρ, S, L, s, l, h.mono fun x H1 ⟨ty, ρ1, S1, L1, s1, l1, h1⟩ => ⟨ty, ?_⟩⟩
  exact Post.here (rel := relVs X.K) s1 h1 VRs.nil
def fAppend : Mt := fun x vs S => match x, vs with
  | .ref a, [v] => match S[a]? with
    | some (.lst xs) => bite (decide (xs.length < LIM)) (.ok .non (S.set a (.lst (xs ++ [v])))) .bad
    | _ => .bad
  | _, _ => .bad
theorem m_append : MtR X "list.append" (rM X fAppend) := MtR.imp mt_append fun u us H Q h => by
  obtain ⟨ρ, S, x, xs, s, v1, v2, h⟩ := h
  unfold fAppend at h
  split at h
  · rename_i a v
    obtain ⟨u1, rfl, r1⟩ := v2.one
    simp only [VR] at v1
    obtain ⟨ha, rfl⟩ := v1
    split at h
    · rename_i ys q
      obtain ⟨ws, g1, g2⟩ := s.lst q
      by_cases hz : ys.length < LIM
      · rw [bite_pos (decide_eq_true hz)] at h
        rw [lim_eq] at hz
        refine ⟨ρ a, ws, u1, rfl, rfl, g1, by rw [← g2.length]; exact hz, ?_⟩
        have e : Ext ρ S H ρ (S.set a (.lst (ys ++ [v]))) (upd H (ρ a) (.lst (ws ++ [u1]))) := Ext.put ha
        refine h ρ _ _ e (s.put ha ⟨_, upd_same, ?_⟩) (by simp [relV, VR])
        have := VRs.ext s e _ _ (g2.append (VRs.cons r1 VRs.nil))
        simpa using this
      · rw [bite_neg (decide_eq_false hz)] at h
        exact h.elim
    · exact h.elim
  · exact h.elim
def fExtend : Mt := fun x vs S => match x, vs with
  | .ref a, [.ref b] => match S[a]?, S[b]? with
    | some (.lst xs), some (.lst ys) => bite (decide (xs.length + ys.length ≤ LIM)) (.ok .non (S.set a (.lst (xs ++ ys)))) .bad
    | _, _ => .bad
  | _, _ => .bad
theorem m_extend : MtR X "list.extend" (rM X fExtend) := MtR.imp mt_extend fun u us H Q h => by
  obtain ⟨ρ, S, x, xs, s, v1, v2, h⟩ := h
  unfold fExtend at h
  split at h
  · rename_i a b
    obtain ⟨u1, rfl, r1⟩ := v2.one
    simp only [VR] at v1 r1
    obtain ⟨ha, rfl⟩ := v1
    obtain ⟨hb, rfl⟩ := r1
    split at h
    · rename_i ys zs q q2
      obtain ⟨ws, g1, g2⟩ := s.lst q
      obtain ⟨ws2, g3, g4⟩ := s.lst q2
      by_cases hz : ys.length + zs.length ≤ LIM
      · rw [bite_pos (decide_eq_true hz)] at h
        rw [lim_eq] at hz
        refine ⟨ρ a, ρ b, ws, ws2, rfl, rfl, g1, g3, by rw [← g2.length, ← g4.length]; exact hz, ?_⟩
        have e : Ext ρ S H ρ (S.set a (.lst (ys ++ zs))) (upd H (ρ a) (.lst (ws ++ ws2))) := Ext.put ha
        refine h ρ _ _ e (s.put ha ⟨_, upd_same, ?_⟩) (by simp [relV, VR])
        have := VRs.ext s e _ _ (g2.append g4)
        simpa using this
      · rw [bite_neg (decide_eq_false hz)] at h
        exact h.elim
    · exact h.elim
  · exact h.elim
def fPopAt : Mt := fun x vs S => match x, vs with
  | .ref a, [.int i] => match S[a]? with
    | some (.lst xs) => match ixN xs.length i with
      | some k => match xs[k]? with
        | some y => bite (decide (-(2 ^ 63) ≤ i) && decide (i < 2 ^ 63)) (.ok y (S.set a (.lst (xs.eraseIdx k)))) .bad
        | none => .bad
      | none => .bad
    | _ => .bad
  | _, _ => .bad
theorem m_popAt : MtR X "list.pop" (rM X fPopAt) := MtR.imp mt_popAt fun u us H Q h => by
  obtain ⟨ρ, S, x, xs, s, v1, v2, h⟩ := h
  unfold fPopAt at h
  split at h
  · rename_i a i
    obtain ⟨u1, rfl, r1⟩ := v2.one
    simp only [VR] at v1 r1
    obtain ⟨ha, rfl⟩ := v1
    subst r1
    split at h
    · rename_i ys q
      obtain ⟨ws, g1, g2⟩ := s.lst q
      split at h
      · rename_i k hk
        split at h
        · rename_i y hy
          cases hz : (decide (-(2 ^ 63) ≤ i) && decide (i < 2 ^ 63)) with
          | false => rw [hz] at h; exact h.elim
          | true =>
            rw [hz] at h
            simp only [Bool.and_eq_true, decide_eq_true_eq] at hz
            obtain ⟨u2, hu2, r2⟩ := g2.get hy
            refine ⟨ρ a, ws, i, k, u2, rfl, rfl, g1, hz.1, hz.2, by rw [← g2.length]; exact (ixN_seq hk).1, hu2, ?_⟩
            have e : Ext ρ S H ρ (S.set a (.lst (ys.eraseIdx k))) (upd H (ρ a) (.lst (ws.eraseIdx k))) := Ext.put ha
            refine h ρ _ _ e (s.put ha ⟨_, upd_same, ?_⟩) ?_
            · have := VRs.ext s e _ _ (g2.eraseIdx k)
              simpa using this
            · have := VR.ext s e _ _ r2
              simpa [relV] using this
        · exact h.elim
      · exact h.elim
    · exact h.elim
  · exact h.elim
/-- d.pop(k), k there -/
def dropL {κ α : Type} [DecidableEq κ] (l : List (κ × α)) (k : κ) : List (κ × α) := l.filter fun p => decide (p.1 ≠ k)
def fDPop : Mt := fun x vs S => match x, vs with
  | .ref a, [v] => match S[a]? with
    | some (.dK kvs) => match keyOf v with
      | some k => match valL kvs k with
        | some y => .ok y (S.set a (.dK (dropL kvs k)))
        | none => .bad
      | none => .bad
    | _ => .bad
  | _, _ => .bad
theorem KR.drop {κ : Type} [DecidableEq κ] {K : PySem.W.Frag} {ρ : Rho} {n : Nat} {H : Hp} {k : κ} : ∀ {l : List (κ × Val)} {m : List (κ × V)}, KR K ρ n H l m → KR K ρ n H (dropL l k) (dropK m k)
  | [], m, h => by
    have : m = [] := by have := h.1; simpa using this.symm
    subst this
    exact ⟨rfl, by simp [dropL, dropK, VRs]⟩
  | (g, v) :: l, m, h => by
    obtain ⟨h1, h2⟩ := h
    cases m with
    | nil => simp at h1
    | cons p m =>
      obtain ⟨g', u⟩ := p
      simp only [List.map_cons, List.cons.injEq] at h1
      obtain ⟨rfl, h1⟩ := h1
      simp only [List.map_cons] at h2
      obtain ⟨u0, r, e, h2, h3⟩ := h2.cons_of
      cases e
      have ih := KR.drop (k := k) (l := l) (m := m) ⟨h1, h3⟩
      by_cases q : g = k
      · have e1 : dropL ((g, v) :: l) k = dropL l k := by unfold dropL; rw [List.filter_cons_of_neg (by simp [q])]
        have e2 : dropK ((g, u) :: m) k = dropK m k := by unfold dropK; rw [List.filter_cons_of_neg (by simp [q])]
        rw [e1, e2]; exact ih
      · have e1 : dropL ((g, v) :: l) k = (g, v) :: dropL l k := by unfold dropL; rw [List.filter_cons_of_pos (by simp [q])]
        have e2 : dropK ((g, u) :: m) k = (g, u) :: dropK m k := by unfold dropK; rw [List.filter_cons_of_pos (by simp [q])]
        rw [e1, e2]
        exact ⟨by simp [ih.1], by simp only [List.map_cons]; exact VRs.cons h2 ih.2⟩
theorem e_dpop (ho : PEm X W o mo) {me : ME} (he : PEm X W e me) (m : M1 X o "pop" apos e cpos) : PEm X W (.Call (.Attribute o "pop" apos) [e] [] cpos) (mBM "dict" fDPop mo (aCons me aNil)) := PE.imp (pe_dpop1 ho he m) fun σ H Q h => by
  obtain ⟨ρ, S, L, s, l, h⟩ := h
  refine TEm.bind s l h fun ρ1 S1 x u H1 s1 l1 e1 v h => ?_
  cases ht : isTy "dict" x S1 with
  | false => rw [ht] at h; exact h.elim
  | true =>
    rw [ht] at h
    have hd := isTy_of s1 v ht
    -- the receiver is a dict
    have isd : ∃ b a, x = .ref b ∧ u = .ref a ∧ IsD H1 a := by
      cases x with
      | ref i =>
        simp only [isTy] at ht
        simp only [VR] at v
        obtain ⟨hi, rfl⟩ := v
        split at ht
        · cases ht
        · rename_i kvs q
          obtain ⟨us, g1, g2⟩ := s1.ob i _ q
          exact ⟨i, _, rfl, rfl, .inl ⟨us, .inl g1⟩⟩
        · rename_i kvs q
          obtain ⟨us, g1, g2⟩ := s1.ob i _ q
          exact ⟨i, _, rfl, rfl, .inr ⟨us, .inl g1⟩⟩
        · cases ht
      | fl ns => cases ht
      | str z => cases ht
      | _ => cases ht
    obtain ⟨b, a, rfl, rfl, hda⟩ := isd
    refine ⟨a, rfl, hda, ?_⟩
    have h : Post X.K X.mg (relV X.K) W ρ1 S1 H1 σ (((me L S1).bind fun y S2 => (R.ok [] S2).bind fun ys S3 => R.ok (y :: ys) S3).bind fun vs S2 => noExn (fDPop (.ref b) vs S2)) Q := h
    have h' : Post X.K X.mg (relV X.K) W ρ1 S1 H1 σ ((me L S1).bind fun y S2 => noExn (fDPop (.ref b) [y] S2)) Q := by
      cases hm : me L S1 <;> rw [hm] at h <;> exact h
    refine TEm.bind s1 l1 h' fun ρ2 S2 y w H2 s2 l2 e2 v2 h => ?_
    have h := (Post.noExn h W0).sig (σ' := σ)
    have v' := VR.ext s1 e2 _ _ v
    simp only [VR] at v'
    obtain ⟨hb, eb⟩ := v'
    cases eb
    have h : Post X.K X.mg (relV X.K) W0 ρ2 S2 H2 σ (match S2[b]? with
      | some (.dK kvs) => match keyOf y with
        | some k => match valL kvs k with
          | some y => .ok y (S2.set b (.dK (dropL kvs k)))
          | none => .bad
        | none => .bad
      | _ => .bad) Q := h
    split at h
    · rename_i kvs q
      split at h
      · rename_i k hk
        split at h
        · rename_i val hval
          obtain ⟨us, g1, g2⟩ := s2.ob b _ q
          have ek := keyOf_of v2 hk
          subst ek
          have lk := valV_lookup (k := k) g2
          rw [hval] at lk
          cases hv : valV us k with
          | none => rw [hv] at lk; exact lk.elim
          | some u' =>
            rw [hv] at lk
            refine ⟨us, k, u', g1, rfl, hv, ?_⟩
            have e : Ext ρ2 S2 H2 ρ2 (S2.set b (.dK (dropL kvs k))) (upd H2 (ρ2 b) (.dK (dropK us k))) := Ext.put hb
            refine h ρ2 _ _ e (s2.put hb ⟨_, upd_same, ?_⟩) ?_
            · have := KR.ext s2 e (g2.drop (k := k))
              simpa using this
            · have := VR.ext s2 e _ _ lk
              simpa [relV] using this
        · exact h.elim
      · exact h.elim
    · exact h.elim
end
/-! ### walks -/
section
variable {X : Cx} {W : WX} {e a b : Expr} {es : List Expr} {m ma' : ME} {ma : MA} {tg : Expr} {p pos tpos : Pos}
theorem big_eq : BIG = 2 ^ 62 := by decide
theorem rangeL_get {lo : Int} {n i : Nat} {x : Val} (h : (rangeL lo n)[i]? = some x) : i < n ∧ x = .int (lo + (i : Nat)) := by
  unfold rangeL at h
  rw [List.getElem?_map] at h
  cases hr : (List.range n)[i]? with
  | none => rw [hr] at h; cases h
  | some j =>
    rw [hr] at h
    have hl := (List.getElem?_eq_some_iff.mp hr)
    obtain ⟨h1, h2⟩ := hl
    simp at h1 h2
    subst h2
    cases h
    exact ⟨h1, rfl⟩
theorem rng_it {K : PySem.W.Frag} {mg : Str → Option Value} {ρ : Rho} {S : Store} {H : Hp} {lo : Int} {n : Nat} : ItR K mg ρ S H ⟨rangeL lo n, fun _ => True⟩ (Itr lo n) := fun ρ S H e s _ i => by
  refine ⟨fun x hx => ?_, fun hx => ?_⟩
  · obtain ⟨h1, rfl⟩ := rangeL_get hx
    refine ⟨h1, fun u H' y => ?_⟩
    obtain ⟨eH, eu⟩ := y
    subst eH eu
    exact ⟨Ext.refl _ _ _, s, by simp [VR]⟩
  · have := List.getElem?_eq_none_iff.mp hx
    show n ≤ i
    simpa [rangeL] using this
theorem TAm.bindI {mi : MI} {k : List Val → Store → R It} {σ : L2.St} {H : Hp} {Q : L2.It → Hp → Prop} (h : TIm X.K X.mg W (fun L S => (ma L S).bind k) σ H Q) {Q' : List V → Hp → Prop}
    (hq : ∀ ρ1 S1 vs us H1, SR X.K X.mg ρ1 S1 H1 → VRs X.K ρ1 S1.length H1 vs us → Post X.K X.mg (ItR X.K X.mg) W ρ1 S1 H1 σ (k vs S1) Q → Q' us H1) : TAm X.K X.mg W ma σ H Q' := by
  obtain ⟨ρ, S, L, s, l, h⟩ := h
  exact TAm.bind s l h fun ρ1 S1 vs us H1 s1 _ _ v q => hq ρ1 S1 vs us H1 s1 v q
theorem i_rng1 (hg : Gl X "range") (hm : X.mg "range" = none) (ha : PAm X W [a] ma) (hs : starEach [a] X.env = [(false, eval a X.env)] := by rfl) : PIm X W tg (.Call (.Name "range" p) [a] [] pos) (Mp.iRng1 ma) := PI.imp (pi_range1 hg hm ha hs) fun σ H R h =>
  TAm.bindI (mi := Mp.iRng1 ma) h fun ρ1 S1 vs us H1 s1 v h => by
    unfold rngOf1 at h
    split at h
    · rename_i j
      obtain ⟨u, rfl, r⟩ := v.one
      simp only [VR] at r
      subst r
      by_cases hz : -BIG ≤ j ∧ j < BIG
      · rw [gate_pos hz] at h
        rw [big_eq] at hz
        exact ⟨j, rfl, hz.1, hz.2, Post.here (rel := ItR X.K X.mg) s1 h rng_it⟩
      · rw [gate_neg hz] at h
        exact h.elim
    · exact h.elim
theorem i_rng2 (hg : Gl X "range") (hm : X.mg "range" = none) (ha : PAm X W [a, b] ma) (hs : starEach [a, b] X.env = [(false, eval a X.env), (false, eval b X.env)] := by rfl) (hs2 : starEach [b] X.env = [(false, eval b X.env)] := by rfl) : PIm X W tg (.Call (.Name "range" p) [a, b] [] pos) (Mp.iRng2 ma) := PI.imp (pi_range2 hg hm ha hs hs2) fun σ H R h =>
  TAm.bindI (mi := Mp.iRng2 ma) h fun ρ1 S1 vs us H1 s1 v h => by
    unfold rngOf2 at h
    split at h
    · rename_i i j
      obtain ⟨u, w, rfl, r1, r2⟩ := v.two
      simp only [VR] at r1 r2
      subst r1 r2
      by_cases hz : -BIG ≤ i ∧ i < BIG ∧ -BIG ≤ j ∧ j < BIG
      · rw [gate_pos hz] at h
        rw [big_eq] at hz
        exact ⟨i, j, rfl, hz, Post.here (rel := ItR X.K X.mg) s1 h rng_it⟩
      · rw [gate_neg hz] at h
        exact h.elim
    · exact h.elim
/-- a list or a tuple that is walked, as it stands at a turn -/
def SqB (K : PySem.W.Frag) (b : Bool) (H : Hp) (a : Addr) (us : List V) : Prop := match b with
  | true => SqL K H a us
  | false => SqT K H a us
theorem seq_of {K : PySem.W.Frag} {mg : Str → Option Value} {ρ : Rho} {S : Store} {H : Hp} {x : Val} {u : V} {bb : Bool} {xs : List Val} {kp : Store → Prop} (s : SR K mg ρ S H) (v : VR K ρ S.length H x u) (h : seqOf x S = some (bb, xs, kp)) :
    ∃ a us, u = .ref a ∧ SqB K bb H a us ∧ VRs K ρ S.length H xs us ∧ ∀ ρ' S' H', Ext ρ S H ρ' S' H' → SR K mg ρ' S' H' → kp S' → ∃ us, SqB K bb H' a us ∧ VRs K ρ' S'.length H' xs us := by
  unfold seqOf at h
  split at h
  · rename_i i
    simp only [VR] at v
    obtain ⟨hi, rfl⟩ := v
    split at h
    · rename_i xs' q
      cases h
      obtain ⟨us, g1, g2⟩ := s.lst q
      refine ⟨ρ i, us, rfl, SqL.of g1, g2, fun ρ' S' H' e s' k => ?_⟩
      obtain ⟨us', g1', g2'⟩ := s'.lst k
      rw [e.rho i hi] at g1'
      exact ⟨us', SqL.of g1', g2'⟩
    · cases h
  · cases h
    simp only [VR] at v
    obtain ⟨a, us, rfl, g1, g2⟩ := v
    exact ⟨a, us, rfl, g1.sq, g2, fun ρ' S' H' e s' _ => ⟨us, e.tup s g1.sq, VRs.ext s e _ _ g2⟩⟩
  · cases h
    simp only [VR] at v
    obtain ⟨a, rfl, g1⟩ := v
    exact ⟨a, _, rfl, g1.seq, VRs.of_ints _, fun ρ' S' H' e s' _ => ⟨_, (e.fz s g1).seq, VRs.of_ints _⟩⟩
  · cases h
/-- a new pair at T -/
theorem pair_new {K : PySem.W.Frag} {mg : Str → Option Value} {ρ : Rho} {S : Store} {H : Hp} {T : Addr} {x y : Val} {u w : V} (s : SR K mg ρ S H) (hT : H T = none) (r1 : VR K ρ S.length H x u) (r2 : VR K ρ S.length H y w) :
    Ext ρ S H ρ S (upd H T (.tup [u, w])) ∧ SR K mg ρ S (upd H T (.tup [u, w])) ∧ VR K ρ S.length (upd H T (.tup [u, w])) (.tup [x, y]) (.ref T) := by
  refine ⟨Ext.side hT, s.side hT, ?_⟩
  simp only [VR]
  exact ⟨T, _, rfl, .inl upd_same, VRs.ext s (Ext.side hT) _ _ (VRs.cons r1 (VRs.cons r2 VRs.nil))⟩
theorem enumL_get {xs : List Val} {i : Nat} {z : Val} (h : (enumL xs)[i]? = some z) : ∃ x, xs[i]? = some x ∧ z = .tup [.int (i : Nat), x] := by
  unfold enumL at h
  rw [List.getElem?_zipWith] at h
  cases hx : xs[i]? with
  | none => rw [hx] at h; simp at h
  | some x =>
    have hl := (List.getElem?_eq_some_iff.mp hx).1
    rw [hx, List.getElem?_range hl] at h
    cases h
    exact ⟨x, rfl, rfl⟩
theorem i_enum {elts : List Expr} {kk : Nat} (hg : Gl X "enumerate") (hm : X.mg "enumerate" = none) (ha : PAm X W [e] ma) (hs : starEach [e] X.env = [(false, eval e X.env)] := by rfl)
    (hl : ∀ σ H R, TIm X.K X.mg W (Mp.iEnum ma) σ H R → TAm X.K X.mg W ma σ H fun vs H1 => ∃ a xs, vs = [.ref a] ∧ SqL X.K H1 a xs ∧ R (Ite X.K a) H1) : PIm X W (.Tuple elts kk tpos) (.Call (.Name "enumerate" p) [e] [] pos) (Mp.iEnum ma) :=
  PI.imp (pi_enum hg hm ha hs) fun σ H R h => hl σ H R h
theorem zipT_get {xs ys : List Val} {i : Nat} {z : Val} (h : (List.zipWith (fun x y => Val.tup [x, y]) xs ys)[i]? = some z) : ∃ x y, xs[i]? = some x ∧ ys[i]? = some y ∧ z = .tup [x, y] := by
  rw [List.getElem?_zipWith] at h
  cases hx : xs[i]? with
  | none => rw [hx] at h; simp at h
  | some x =>
    cases hy : ys[i]? with
    | none => rw [hx, hy] at h; simp at h
    | some y =>
      rw [hx, hy] at h
      cases h
      exact ⟨x, y, rfl, rfl, rfl⟩
theorem i_zip {elts : List Expr} {kk : Nat} (hg : Gl X "zip") (hm : X.mg "zip" = none) (ha : PAm X W [a, b] ma)
    (hs : starEach [a, b] X.env = (false, eval a X.env) :: starEach [b] X.env := by rfl) (hpl : (backTo pos (starEach [b] X.env)).any (·.1) = false := by rfl) : PIm X W (.Tuple elts kk tpos) (.Call (.Name "zip" p) [a, b] [] pos) (Mp.iZip ma) :=
  PI.imp (RZ.pi_zipA hg hm ha hs hpl) fun σ H R h => TAm.bindI (mi := Mp.iZip ma) h fun ρ1 S1 vs us H1 s1 v h => by
    unfold zipOf at h
    split at h
    · rename_i x y
      obtain ⟨u, w, rfl, r1, r2⟩ := v.two
      split at h
      · rename_i b1 xs k1 b2 ys k2 e1 e2
        cases hb : (b1 == b2) with
        | false => rw [hb] at h; exact h.elim
        | true =>
          rw [hb] at h
          have hb' : b1 = b2 := by simpa using hb
          subst hb'
          obtain ⟨ad, ua, rfl, g1, g2, g3⟩ := seq_of s1 r1 e1
          obtain ⟨bd, ub, rfl, q1, q2, q3⟩ := seq_of s1 r2 e2
          cases b1 with
          | true =>
            refine ⟨ad, bd, ua, ub, rfl, .inl ⟨g1, q1, Post.here (rel := ItR X.K X.mg) s1 h fun ρ S H e s ks i => ?_⟩⟩
            obtain ⟨us1, c1, c2⟩ := g3 ρ S H e s ks.1
            obtain ⟨us2, d1, d2⟩ := q3 ρ S H e s ks.2
            refine ⟨fun z hz => ?_, fun hz => ?_⟩
            · obtain ⟨x', y', hx, hy, rfl⟩ := zipT_get hz
              obtain ⟨u1, hu1, ru1⟩ := c2.get hx
              obtain ⟨u2, hu2, ru2⟩ := d2.get hy
              refine ⟨⟨us1, us2, u1, u2, c1, d1, hu1, hu2⟩, fun u H' yl => ?_⟩
              obtain ⟨T, a1, a2, eu, hT, eH, y1, y2⟩ := yl
              subst eu eH
              have z1 := y1 us1 c1
              have z2 := y2 us2 d1
              rw [hu1] at z1
              rw [hu2] at z2
              cases z1
              cases z2
              exact pair_new s hT ru1 ru2
            · refine ⟨us1, us2, c1, d1, ?_⟩
              have := List.getElem?_eq_none_iff.mp hz
              simp at this
              rw [← c2.length, ← d2.length]
              omega
          | false =>
            refine ⟨ad, bd, ua, ub, rfl, .inr ⟨g1, q1, Post.here (rel := ItR X.K X.mg) s1 h fun ρ S H e s ks i => ?_⟩⟩
            obtain ⟨us1, c1, c2⟩ := g3 ρ S H e s ks.1
            obtain ⟨us2, d1, d2⟩ := q3 ρ S H e s ks.2
            refine ⟨fun z hz => ?_, fun hz => ?_⟩
            · obtain ⟨x', y', hx, hy, rfl⟩ := zipT_get hz
              obtain ⟨u1, hu1, ru1⟩ := c2.get hx
              obtain ⟨u2, hu2, ru2⟩ := d2.get hy
              refine ⟨⟨us1, us2, u1, u2, c1, d1, hu1, hu2⟩, fun u H' yl => ?_⟩
              obtain ⟨T, a1, a2, eu, hT, eH, y1, y2⟩ := yl
              subst eu eH
              have z1 := y1 us1 c1
              have z2 := y2 us2 d1
              rw [hu1] at z1
              rw [hu2] at z2
              cases z1
              cases z2
              exact pair_new s hT ru1 ru2
            · refine ⟨us1, us2, c1, d1, ?_⟩
              have := List.getElem?_eq_none_iff.mp hz
              simp at this
              rw [← c2.length, ← d2.length]
              omega
      · exact h.elim
    · exact h.elim
/-! ### sorted(d) of a dict of ints -/
def intKeys : List (Key × Val) → Option (List Int)
  | [] => some []
  | (.inl i, _) :: r => (intKeys r).map (i :: ·)
  | (.inr _, _) :: _ => none
def insI (i : Int) : List Int → List Int
  | [] => [i]
  | j :: r => if i ≤ j then i :: j :: r else j :: insI i r
def sortI : List Int → List Int
  | [] => []
  | i :: r => insI i (sortI r)
theorem insI_perm (i : Int) : ∀ l : List Int, (insI i l).Perm (i :: l)
  | [] => List.Perm.refl _
  | j :: r => by
    unfold insI
    split
    · exact List.Perm.refl _
    · exact ((insI_perm i r).cons j).trans (List.Perm.swap i j r)
theorem sortI_perm : ∀ l : List Int, (sortI l).Perm l
  | [] => List.Perm.refl _
  | i :: r => (insI_perm i _).trans ((sortI_perm r).cons i)
theorem insI_sorted (i : Int) : ∀ l : List Int, l.Pairwise (· ≤ ·) → (insI i l).Pairwise (· ≤ ·)
  | [], _ => by simp [insI]
  | j :: r, h => by
    unfold insI
    rw [List.pairwise_cons] at h
    split
    · rename_i hij
      rw [List.pairwise_cons]
      refine ⟨fun x hx => ?_, by rw [List.pairwise_cons]; exact h⟩
      rcases List.mem_cons.mp hx with rfl | hx
      · exact hij
      · exact Int.le_trans hij (h.1 x hx)
    · rename_i hij
      rw [List.pairwise_cons]
      refine ⟨fun x hx => ?_, insI_sorted i r h.2⟩
      rcases List.mem_cons.mp ((insI_perm i r).mem_iff.mp hx) with rfl | hx
      · omega
      · exact h.1 x hx
theorem sortI_sorted : ∀ l : List Int, (sortI l).Pairwise (· ≤ ·)
  | [] => by simp [sortI]
  | i :: r => insI_sorted i _ (sortI_sorted r)
theorem sorted_unique : ∀ (l m : List Int), l.Perm m → l.Pairwise (· ≤ ·) → m.Pairwise (· ≤ ·) → l = m
  | [], m, h, _, _ => (List.nil_perm.mp h).symm
  | i :: r, [], h, _, _ => absurd h.length_eq (by simp)
  | i :: r, j :: s, h, h1, h2 => by
    rw [List.pairwise_cons] at h1 h2
    have e : i = j := by
      have a1 : i ∈ j :: s := h.mem_iff.mp (by simp)
      have a2 : j ∈ i :: r := h.mem_iff.mpr (by simp)
      rcases List.mem_cons.mp a1 with a1 | a1
      · exact a1
      · rcases List.mem_cons.mp a2 with a2 | a2
        · exact a2.symm
        · exact Int.le_antisymm (h1.1 j a2) (h2.1 i a1)
    subst e
    rw [sorted_unique r s ((List.perm_cons i).mp h) h1.2 h2.2]
theorem intKeys_of : ∀ {l : List (Key × Val)} {ks : List Int}, intKeys l = some ks → l.map (·.1) = ks.map Sum.inl
  | [], ks, h => by simp [intKeys] at h; subst h; rfl
  | (.inl i, v) :: r, ks, h => by
    simp only [intKeys] at h
    cases hr : intKeys r with
    | none => rw [hr] at h; cases h
    | some ks' =>
      rw [hr] at h
      cases h
      simp [intKeys_of hr]
  | (.inr _, _) :: _, ks, h => by simp [intKeys] at h
def fSortD : Fn := one fun v S => match v with
  | .ref a => match S[a]? with
    | some (.dK kvs) => match intKeys kvs with
      | some ks => bite (decide (ks.length < 64)) (newL ((sortI ks).map Val.int) S) .bad
      | none => .bad
    | _ => .bad
  | _ => .bad
theorem c_sortD (hc : X.calm = true) : CallR X (.builtin "sorted") (rF X fSortD) := CallR.imp (call_sortedDI hc) fun us H Q h => by
  replace h := one_of h
  obtain ⟨u, rfl, ρ, S, x, s, v, h⟩ := h
  dsimp only at h
  split at h
  · rename_i a
    simp only [VR] at v
    obtain ⟨ha, rfl⟩ := v
    split at h
    · rename_i kvs q
      split at h
      · rename_i ks hks
        by_cases hz : ks.length < 64
        · rw [bite_pos (decide_eq_true hz)] at h
          obtain ⟨us, g1, g2⟩ := s.ob a _ q
          refine ⟨ρ a, us, ks, rfl, .inl g1, by rw [← g2.1]; exact intKeys_of hks, hz, fun ys p h1 h2 hp => ?_⟩
          have : ys = sortI ks := sorted_unique _ _ (h1.trans (sortI_perm ks).symm) h2 (sortI_sorted ks)
          subst this
          exact lst_new s h (VRs.of_ints _) p hp
        · rw [bite_neg (decide_eq_false hz)] at h
          exact h.elim
      · exact h.elim
    · exact h.elim
  · exact h.elim
end
end Mp

/-! Mp10: the forms that the printer names. -/
namespace Mp
open PySem PySem.Spec L2
structure FldAt (K : PySem.W.Frag) (mg : Str → Option Value) (cn f : Str) : Prop where
  ex : ∃ C, mg cn = some (.ref C) ∧ Cls K C ∧ NoAttr K C f
section
variable {X : Cx} {W : WX} {e a b o value : Expr} {m mo mv ma mb mi me : ME} {pos pos' tpos : Pos} {cn f : Str}
theorem e_fldA (h : FldAt X.K X.mg cn f) (he : PEm X W e m) (hb : attributeBase e f X.env (eval e X.env) = eval e X.env := by rfl) : PEm X W (.Attribute e f pos) (m1 (getF cn f) m) := by
  obtain ⟨C, h1, h2, h3⟩ := h.ex
  exact e_fld h1 h2 h3 he hb
theorem s_fldA (h : FldAt X.K X.mg cn f) (ho : PEm X W o mo) (hv : PEm X W value mv) (hs : swapsWith value (some (.Attribute o f pos')) pos.line X.env = pure false := by rfl) : PSm X W (.Assign [.Attribute o f pos'] value pos) (Mp.sFld cn f mo mv) := by
  obtain ⟨C, h1, h2, h3⟩ := h.ex
  exact s_fld h1 h2 h3 ho hv hs
theorem s_fldAugA {op : Operator} {p : P2} (h : FldAt X.K X.mg cn f) (ho : PEm X W o mo) (hv : PEm X W value mv) (hop : OpS X (inplaceOp op) p) : PSm X W (.AugAssign (.Attribute o f tpos) op value pos) (Mp.sFldAug cn f mo mv p) := by
  obtain ⟨C, h1, h2, h3⟩ := h.ex
  exact s_fldAug h1 h2 h3 ho hv hop
/-- isinstance(x, (T, U)) -/
theorem e_isT2 {p p2 p3 pt : Pos} {x1} {T U : Str} {Tn Un : String} (hg : Gl X "isinstance") (hm : X.mg "isinstance" = none) (ha : PEm X W a ma) (hgT : Gl X T) (hmT : X.mg T = none) (hvT : bootBuiltins T = some (.type Tn)) (hT : Tn ∈ tyTests)
    (hgU : Gl X U) (hmU : X.mg U = none) (hvU : bootBuiltins U = some (.type Un)) (hU : Un ∈ tyTests)
    (hn : T ≠ "__name__" := by decide) (hd : (T == ("__debug__" : Str)) = false := by decide) (hn' : U ≠ "__name__" := by decide) (hd' : (U == ("__debug__" : Str)) = false := by decide)
    (hs1 : starEach [a, .Tuple [.Name T p2, .Name U p3] x1 pt] X.env = (false, eval a X.env) :: starEach [.Tuple [.Name T p2, .Name U p3] x1 pt] X.env := by rfl)
    (hs2 : starEach [.Tuple [.Name T p2, .Name U p3] x1 pt] X.env = (false, eval (.Tuple [.Name T p2, .Name U p3] x1 pt) X.env) :: starEach [] X.env := by rfl)
    (hs3 : starEach [.Name T p2, .Name U p3] X.env = (false, eval (.Name T p2) X.env) :: starEach [.Name U p3] X.env := by rfl) (hs4 : starEach [.Name U p3] X.env = (false, eval (.Name U p3) X.env) :: starEach [] X.env := by rfl)
    (hpl : (backTo pos (starEach [.Tuple [.Name T p2, .Name U p3] x1 pt] X.env)).any (·.1) = false := by rfl) :
    PEm X W (.Call (.Name "isinstance" p) [a, .Tuple [.Name T p2, .Name U p3] x1 pt] [] pos) (m1 (pIsAny [Tn, Un]) ma) :=
  PE.imp (pe_callB call_isiT hg hm (by decide +kernel) (pa_cons ha (pa_cons (pe_tup (pa_cons (pe_bltn (v := .ty Tn) hgT hmT hvT rfl hn hd) (pa_cons (pe_bltn (v := .ty Un) hgU hmU hvU rfl hn' hd') pa_nil hs4) hs3)) pa_nil hs2) hs1) (by decide) (by decide) hs1 hpl) fun σ H Q h => by
    obtain ⟨ρ, S, L, s, l, h⟩ := h
    refine TEm.bind s l h fun ρ1 S1 x u H1 s1 l1 e v h => ?_
    have h := (Post.noExn h W0).sig (σ' := σ)
    unfold pIsAny at h
    split at h
    · rename_i t ht
      refine ⟨by show 2 ≤ sizeLine; decide, fun tp htp => ?_⟩
      have e2 : Ext ρ1 S1 H1 ρ1 S1 (upd H1 tp (.tup [.ty Tn, .ty Un])) := Ext.side htp
      have s2 := s1.side (o := .tup [.ty Tn, .ty Un]) htp
      have k1 := kit_one (K := X.K) (tyName_mem ht) hT
      have k2 := kit_one (K := X.K) (tyName_mem ht) hU
      have ka : PySem.W.kitAny X.K (.type t) [.type Tn, .type Un] = some (subTy t Tn || subTy t Un) := kitAny_cons k1 (fun h1 => kitAny_cons k2 (fun h2 => by rw [h1, h2]; exact kitAny_nil) (fun h2 => by rw [h2]; simp)) (fun h1 => by rw [h1]; rfl)
      have ea : ([Tn, Un].any (subTy t)) = (subTy t Tn || subTy t Un) := by simp
      rw [ea] at h
      exact ⟨u, tp, [.ty Tn, .ty Un], .type t, [.type Tn, .type Un], _, rfl, upd_same, .cons (.ty Tn) (.cons (.ty Un) .nil), ty_of s2 (VR.ext s1 e2 _ _ v) ht, ka, h ρ1 _ _ e2 s2 (by simp [relV, VR])⟩
    · exact h.elim
/-- o[i] op= e -/
def rG (X : Cx) : V → V → Hp → VK → Prop := fun u w H Q => rP2 X pIx u w H Q
end
end Mp

/-! MpS: the combinators, applied: for simp. -/
namespace Mp
open PySem (Str)
/-! the store: read, write, one more -/
def sg (S : Store) (i : Nat) : Option Ob := S[i]?
def ss (S : Store) (i : Nat) (o : Ob) : Store := S.set i o
def sp (S : Store) (o : Ob) : Store := S ++ [o]
def sl (S : Store) : Nat := S.length
section
variable {S : Store} {i j : Nat} {o u : Ob}
theorem sg_lt (h : sg S i = some u) : i < sl S := (List.getElem?_eq_some_iff.mp h).1
@[simp] theorem sg_ss_same (h : (sg S i).isSome = true) : sg (ss S i o) i = some o := by
  cases e : sg S i with
  | none => rw [e] at h; cases h
  | some u => exact List.getElem?_set_self (sg_lt e)
@[simp] theorem sg_ss_ne (h : ¬ j = i) : sg (ss S i o) j = sg S j := List.getElem?_set_ne (Ne.symm h)
theorem sg_ss_ne' (h : ¬ i = j) : sg (ss S i o) j = sg S j := List.getElem?_set_ne h
@[simp] theorem ss_ss : ss (ss S i o) i u = ss S i u := List.set_set ..
@[simp] theorem sl_ss : sl (ss S i o) = sl S := by simp [sl, ss]
@[simp] theorem sl_sp : sl (sp S o) = sl S + 1 := by simp [sl, sp]
@[simp] theorem sg_sp_new : sg (sp S o) (sl S) = some o := by simp [sg, sp, sl]
@[simp] theorem sg_sp_old (h : (sg S i).isSome = true) : sg (sp S o) i = sg S i := by
  cases e : sg S i with
  | none => rw [e] at h; cases h
  | some u =>
    have := sg_lt e
    unfold sg sp
    rw [List.getElem?_append_left this]
    exact e
@[simp] theorem sg_sp_new' (h : i = sl S) : sg (sp S o) i = some o := by rw [h]; exact sg_sp_new
theorem sg_sp_lt (h : i < sl S) : sg (sp S o) i = sg S i := by
  unfold sg sp
  rw [List.getElem?_append_left h]
end
section
variable {L : Loc} {S : Store}
@[simp] theorem mC_app (v : Val) : mC v L S = .ok v S := rfl
@[simp] theorem mV_app (i : Nat) : mV i L S = getL L i S := rfl
@[simp] theorem m1_app (p : P1) (a : ME) : m1 p a L S = (a L S).bind fun x S1 => noExn (p x S1) := rfl
@[simp] theorem m2_app (p : P2) (a b : ME) : m2 p a b L S = (a L S).bind fun x S1 => (b L S1).bind fun y S2 => noExn (p x y S2) := rfl
@[simp] theorem aNil_app : aNil L S = .ok [] S := rfl
@[simp] theorem aCons_app (a : ME) (r : MA) : aCons a r L S = (a L S).bind fun x S1 => (r L S1).bind fun xs S2 => .ok (x :: xs) S2 := rfl
@[simp] theorem mA_app (f : Fn) (a : MA) : mA f a L S = (a L S).bind f := rfl
@[simp] theorem mB_app (f : Fn) (a : MA) : mB f a L S = (a L S).bind fun vs S1 => noExn (f vs S1) := rfl
@[simp] theorem fTup_app (vs : List Val) : fTup vs S = bite (decide (vs.length ≤ LIM)) (.ok (.tup vs) S) .bad := rfl
@[simp] theorem fLst_app (vs : List Val) : fLst vs S = bite (decide (vs.length ≤ LIM)) (.ok (.ref (sl S)) (sp S (.lst vs))) .bad := rfl
@[simp] theorem mTup_app (a : MA) : mTup a L S = mB fTup a L S := rfl
@[simp] theorem mLst_app (a : MA) : mLst a L S = mB fLst a L S := rfl
@[simp] theorem mDK_app : mDK L S = .ok (.ref (sl S)) (sp S (.dK [])) := rfl
@[simp] theorem tV_app (e : ME) : tV e L S = (e L S).bind isT := rfl
@[simp] theorem tAnd_app (a b : MT) : tAnd a b L S = (a L S).bind fun c S1 => bite c (b L S1) (.ok false S1) := rfl
@[simp] theorem tOr_app (a b : MT) : tOr a b L S = (a L S).bind fun c S1 => bite c (.ok true S1) (b L S1) := rfl
@[simp] theorem tNot_app (a : MT) : tNot a L S = (a L S).bind fun c S1 => .ok (!c) S1 := rfl
@[simp] theorem mIf_app (c : MT) (a b : ME) : mIf c a b L S = (c L S).bind fun t S1 => bite t (a L S1) (b L S1) := rfl
@[simp] theorem mAnd_app (a b : ME) : mAnd a b L S = (a L S).bind fun x S1 => (isT x S1).bind fun c S2 => bite c (b L S2) (.ok (.bl false) S2) := rfl
@[simp] theorem mOr_app (a b : ME) : mOr a b L S = (a L S).bind fun x S1 => (isT x S1).bind fun c S2 => bite c (.ok (.bl true) S2) (b L S2) := rfl
@[simp] theorem mNot_app (a : ME) : mNot a L S = (a L S).bind fun x S1 => (isT x S1).bind fun c S2 => .ok (.bl (!c)) S2 := rfl
@[simp] theorem mChain_app (p q : P2) (a b c : ME) : mChain p q a b c L S = (a L S).bind fun x S1 => (b L S1).bind fun y S2 => (noExn (p x y S2)).bind fun z S3 => (isT z S3).bind fun t S4 =>
  bite t ((c L S4).bind fun u S5 => noExn (q y u S5)) (.ok (.bl false) S4) := rfl
@[simp] theorem sNx_app : sNx L S = .nx L S := rfl
@[simp] theorem sSeq_app (a b : MS) : sSeq a b L S = (a L S).andThen b := rfl
@[simp] theorem sRet_app (e : ME) : sRet e L S = thenF L (e L S) fun v S1 => .rt v S1 := rfl
@[simp] theorem sRetN_app : sRetN L S = .rt .non S := rfl
@[simp] theorem sExpr_app (e : ME) : sExpr e L S = thenF L (e L S) fun _ S1 => .nx L S1 := rfl
@[simp] theorem sIf_app (c : MT) (a b : MS) : sIf c a b L S = thenF L (c L S) fun t S1 => bite t (a L S1) (b L S1) := rfl
@[simp] theorem sBrk_app : sBrk L S = .bk L S := rfl
@[simp] theorem sCnt_app : sCnt L S = .ct L S := rfl
@[simp] theorem gN_app (i : Nat) (v : Val) : gN i v L S = .ok (L.set i (some v)) S := rfl
@[simp] theorem gsNil_app : gsNil [] L S = .ok L S := rfl
@[simp] theorem gsCons_app (g : MG) (r : MGs) (v : Val) (vs : List Val) : gsCons g r (v :: vs) L S = (g v L S).bind fun L1 S1 => r vs L1 S1 := rfl
@[simp] theorem gTup_app (g : MGs) (vs : List Val) : gTup g (.tup vs) L S = g vs L S := rfl
@[simp] theorem gSub_app (o i : ME) (p : Val → Val → Val → Store → R Unit) (v : Val) : gSub o i p v L S = (o L S).bind fun x S1 => (i L S1).bind fun y S2 => (noExn (p x y v S2)).bind fun _ S3 => .ok L S3 := rfl
@[simp] theorem sAsg_app (e : ME) (g : MG) : sAsg e g L S = thenF L (e L S) fun v S1 => thenF L (noExn (g v L S1)) fun L1 S2 => .nx L1 S2 := rfl
@[simp] theorem sAug_app (i : Nat) (e : ME) (p : P2) : sAug i e p L S = thenF L (getL L i S) fun x S0 => thenF L (e L S0) fun y S1 => thenF L (noExn (p x y S1)) fun z S2 => .nx (L.set i (some z)) S2 := rfl
@[simp] theorem sFld_app (c f : Str) (o e : ME) : sFld c f o e L S = thenF L (e L S) fun v S1 => thenF L (o L S1) fun x S2 => thenF L (noExn (putFld c f v x S2)) fun _ S3 => .nx L S3 := rfl
@[simp] theorem sFldAug_app (c f : Str) (o e : ME) (p : P2) : sFldAug c f o e p L S = thenF L (o L S) fun x S1 => thenF L (noExn (getF c f x S1)) fun y S2 => thenF L (e L S2) fun z S3 => thenF L (noExn (p y z S3)) fun u S4 =>
  thenF L (noExn (putFld c f u x S4)) fun _ S5 => .nx L S5 := rfl
@[simp] theorem sFor_app (i : MI) (g : MG) (b : MS) : sFor i g b L S = thenF L (i L S) fun J S1 => forLoop J.keep g b J.items L S1 := rfl
@[simp] theorem sWhile_app (c : MT) (b : MS) : sWhile c b L S = whileLoop c b MANY L S := rfl
@[simp] theorem iV_app (e : ME) : iV e L S = (e L S).bind itOf := rfl
@[simp] theorem iRng1_app (a : MA) : iRng1 a L S = (a L S).bind rngOf1 := rfl
@[simp] theorem iRng2_app (a : MA) : iRng2 a L S = (a L S).bind rngOf2 := rfl
@[simp] theorem iZip_app (a : MA) : iZip a L S = (a L S).bind zipOf := rfl
@[simp] theorem tYes_app : tYes L S = .ok true S := rfl
@[simp] theorem mLc_app (i : MI) (vs : List Nat) (g : MG) (c : MT) (e : ME) : mLc i vs g c e L S = (i L S).bind fun J S1 => (lcLoop J.keep (wipeL L vs) g c e J.items [] S1).bind fun ws S2 => .ok (.ref (sl S2)) (sp S2 (.lst ws)) := rfl
@[simp] theorem fDef_app (n np : Nat) (b : MS) (vs : List Val) : fDef n np b vs S = bite (decide (vs.length = np)) (endF (b (startL n vs) S)) .bad := rfl
@[simp] theorem sRaise_app (c : Str) (fs : List Str) (a : MA) : sRaise c fs a L S = thenF L (a L S) fun vs S1 => .exn ⟨c, fs.zip vs⟩ L S1 := rfl
@[simp] theorem mSl_app (e : ME) (lo hi : MO) : mSl e lo hi L S = (e L S).bind fun x S1 => (lo L S1).bind fun l S2 => (hi L S2).bind fun h S3 => noExn (pSl x l h S3) := rfl
@[simp] theorem oNo_app : oNo L S = .ok none S := rfl
@[simp] theorem oSome_app (e : ME) : oSome e L S = (e L S).bind fun v S1 => match v with
  | .int i => .ok (some i) S1
  | _ => .bad := rfl
@[simp] theorem mBM_app (T : String) (f : Mt) (o : ME) (a : MA) : mBM T f o a L S = (o L S).bind fun x S1 => bite (isTy T x S1) ((a L S1).bind fun vs S2 => noExn (f x vs S2)) .bad := rfl
/-! primitives on known values -/
@[simp] theorem pAdd_int (i j : Int) : pAdd (.int i) (.int j) S = .ok (.int (i + j)) S := rfl
@[simp] theorem pAddI_int (i j : Int) : pAddI (.int i) (.int j) S = .ok (.int (i + j)) S := rfl
@[simp] theorem pSub_int (i j : Int) : pSub (.int i) (.int j) S = .ok (.int (i - j)) S := rfl
@[simp] theorem pMulI_int (i j : Int) : pMulI (.int i) (.int j) S = bite (cmul i j) (.ok (.int (i * j)) S) .bad := rfl
@[simp] theorem pMod_int (i j : Int) : pMod (.int i) (.int j) S = bite (decide (0 < j)) (.ok (.int (i % j)) S) .bad := rfl
@[simp] theorem pDiv_int (i j : Int) : pDiv (.int i) (.int j) S = bite (cdiv j) (.ok (.int (i / j)) S) .bad := rfl
@[simp] theorem cdiv_of {j : Int} (h0 : 0 < j) (h1 : j < 1073741824) : cdiv j = true := gate_pos ⟨h0, h1⟩
@[simp] theorem pNeg_int (i : Int) : pNeg (.int i) S = .ok (.int (-i)) S := rfl
@[simp] theorem pLt_int (i j : Int) : pLt (.int i) (.int j) S = .ok (.bl (decide (i < j))) S := rfl
@[simp] theorem pLe_int (i j : Int) : pLe (.int i) (.int j) S = .ok (.bl (decide (i ≤ j))) S := rfl
@[simp] theorem pGt_int (i j : Int) : pGt (.int i) (.int j) S = .ok (.bl (decide (j < i))) S := rfl
@[simp] theorem pGe_int (i j : Int) : pGe (.int i) (.int j) S = .ok (.bl (decide (j ≤ i))) S := rfl
@[simp] theorem pPow_int (i j : Int) : pPow (.int i) (.int j) S = bite (decide (0 ≤ j) && decide (j ≤ 1000000) && decide (i.natAbs < 2 ^ 64)) (.ok (.int (i ^ j.toNat)) S) .bad := rfl
@[simp] theorem fInt_int (i : Int) : fInt [.int i] S = .ok (.int i) S := rfl
@[simp] theorem fMax_int (i j : Int) : fMax [.int i, .int j] S = .ok (.int (if j > i then j else i)) S := rfl
theorem cmul_left {i j : Int} (h1 : -(2 ^ 64) < i) (h2 : i < 2 ^ 64) : cmul i j = true := cb_of (.inl ⟨h1, h2⟩)
theorem cmul_right {i j : Int} (h1 : -(2 ^ 64) < j) (h2 : j < 2 ^ 64) : cmul i j = true := cb_of (.inr ⟨h1, h2⟩)
@[simp] theorem ss_sp_new {S : Store} {o u : Ob} : ss (sp S o) (sl S) u = sp S u := by
  apply List.ext_getElem?
  intro i
  unfold ss sp sl
  rw [List.set_append_right _ _ (Nat.le_refl _)]
  simp
theorem pEq_int (i j : Int) : pEq (.int i) (.int j) S = .ok (.bl (decide (i = j))) S := by
  unfold pEq eqO
  simp [toD, PySem.SeqAt.shaped, PySem.PyData.canLay0, PySem.PyData.depth, PySem.PyData.eqv]
  rfl
def optR {α : Type} (o : Option α) (S : Store) : R α := match o with
  | some v => .ok v S
  | none => .bad
@[simp] theorem optR_some {α : Type} (v : α) : optR (some v) S = .ok v S := rfl
@[simp] theorem optR_none {α : Type} : (optR none S : R α) = .bad := rfl
/-- an object read at a place -/
def ixR (o : Option Ob) (i : Int) (S : Store) : R Val := match o with
  | some (.lst vs) => optR (L2.atI vs i) S
  | some (.dK kvs) => optR (valL kvs (.inl i)) S
  | some (.fK kvs) => optR (valL kvs (.inl i)) S
  | _ => .bad
@[simp] theorem ixR_fK (kvs : List (Key × Val)) (i : Int) : ixR (some (.fK kvs)) i S = optR (valL kvs (.inl i)) S := rfl
@[simp] theorem ixR_lst (vs : List Val) (i : Int) : ixR (some (.lst vs)) i S = optR (L2.atI vs i) S := rfl
@[simp] theorem ixR_dK (kvs : List (Key × Val)) (i : Int) : ixR (some (.dK kvs)) i S = optR (valL kvs (.inl i)) S := rfl
@[simp] theorem pIx_ref (a : Nat) (i : Int) : pIx (.ref a) (.int i) S = ixR (sg S a) i S := by
  show _ = ixR S[a]? i S
  simp only [pIx]
  unfold ixR optR
  cases S[a]? with
  | none => rfl
  | some o => cases o with
    | lst vs => dsimp only; cases L2.atI vs i <;> rfl
    | dK kvs => dsimp only; cases valL kvs (.inl i) <;> rfl
    | dT kvs => rfl
    | fK kvs => dsimp only; cases valL kvs (.inl i) <;> rfl
    | fT kvs => rfl
    | ins c fs => rfl
@[simp] theorem pIx_tup (vs : List Val) (i : Int) : pIx (.tup vs) (.int i) S = optR (L2.atI vs i) S := by
  simp only [pIx]
  cases L2.atI vs i <;> rfl
@[simp] theorem pIx_fl (ns : List Int) (i : Int) : pIx (.fl ns) (.int i) S = optR ((L2.atI ns i).map Val.int) S := by
  simp only [pIx]
  unfold optR
  cases L2.atI ns i <;> rfl
theorem atI_nat (vs : List α) (n : Nat) : L2.atI vs (n : Int) = vs[n]? := by
  unfold L2.atI L2.ixN
  simp
  by_cases h : n < vs.length
  · simp [h]
  · simp [h]
@[simp] theorem atI_lit (vs : List α) (n : Nat) : L2.atI vs (no_index (OfNat.ofNat n) : Int) = vs[(OfNat.ofNat n : Nat)]? := atI_nat vs n
@[simp] theorem atI_zero (vs : List α) : L2.atI vs (0 : Int) = vs[0]? := atI_nat vs 0
@[simp] theorem atI_one (vs : List α) : L2.atI vs (1 : Int) = vs[1]? := atI_nat vs 1
@[simp] theorem atI_cast (vs : List α) (n : Nat) : L2.atI vs (n : Int) = vs[n]? := atI_nat vs n
def putR (o : Option Ob) (a : Nat) (i : Int) (v : Val) (S : Store) : R Unit := match o with
  | some (.lst vs) => match L2.ixN vs.length i with
    | some j => .ok () (ss S a (.lst (vs.set j v)))
    | none => .bad
  | some (.dK kvs) => bite (decide (kvs.length < LIM)) (.ok () (ss S a (.dK (putL kvs (.inl i) v)))) .bad
  | _ => .bad
@[simp] theorem pSet_ref (a : Nat) (i : Int) (v : Val) : pSet (.ref a) (.int i) v S = putR (sg S a) a i v S := by
  show _ = putR S[a]? a i v S
  simp only [pSet]
  unfold putR
  cases S[a]? with
  | none => rfl
  | some o => cases o with
    | lst vs => dsimp only; cases L2.ixN vs.length i <;> rfl
    | dK kvs => rfl
    | dT kvs => rfl
    | fK kvs => rfl
    | fT kvs => rfl
    | ins c fs => rfl
theorem ixN_nat (n m : Nat) : L2.ixN n (m : Int) = if m < n then some m else none := by
  unfold L2.ixN
  simp
@[simp] theorem ixN_lit (n m : Nat) : L2.ixN n (no_index (OfNat.ofNat m) : Int) = if (OfNat.ofNat m : Nat) < n then some (OfNat.ofNat m : Nat) else none := ixN_nat n m
@[simp] theorem ixN_zero (n : Nat) : L2.ixN n (0 : Int) = if 0 < n then some 0 else none := ixN_nat n 0
@[simp] theorem ixN_one (n : Nat) : L2.ixN n (1 : Int) = if 1 < n then some 1 else none := ixN_nat n 1
@[simp] theorem putR_lst (vs : List Val) (a : Nat) (i : Int) (v : Val) : putR (some (.lst vs)) a i v S = match L2.ixN vs.length i with
    | some j => .ok () (ss S a (.lst (vs.set j v)))
    | none => .bad := rfl
@[simp] theorem putR_dK (kvs : List (Key × Val)) (a : Nat) (i : Int) (v : Val) : putR (some (.dK kvs)) a i v S = bite (decide (kvs.length < LIM)) (.ok () (ss S a (.dK (putL kvs (.inl i) v)))) .bad := rfl
def lenR (o : Option Ob) (S : Store) : R Val := match o with
  | some (.lst vs) => .ok (.int vs.length) S
  | some (.dK kvs) => .ok (.int kvs.length) S
  | _ => .bad
@[simp] theorem lenR_lst (vs : List Val) : lenR (some (.lst vs)) S = .ok (.int vs.length) S := rfl
@[simp] theorem lenR_dK (vs : List (Key × Val)) : lenR (some (.dK vs)) S = .ok (.int vs.length) S := rfl
@[simp] theorem fLen_ref (a : Nat) : fLen [.ref a] S = lenR (sg S a) S := by
  show _ = lenR S[a]? S
  unfold fLen one lenO lenR
  dsimp only
  cases S[a]? with
  | none => rfl
  | some o => cases o <;> rfl
@[simp] theorem fLen_tup (vs : List Val) : fLen [.tup vs] S = .ok (.int vs.length) S := rfl
@[simp] theorem fLen_fl (vs : List Int) : fLen [.fl vs] S = .ok (.int vs.length) S := rfl
@[simp] theorem pEq_int' (i j : Int) : pEq (.int i) (.int j) S = .ok (.bl (decide (i = j))) S := pEq_int i j
@[simp] theorem LIM_le {n : Nat} : (n ≤ LIM) = (n ≤ 16777216) := rfl
@[simp] theorem LIM_lt {n : Nat} : (n < LIM) = (n < 16777216) := rfl
@[simp] theorem ss_sp_new' {S : Store} {o u : Ob} {i : Nat} (h : i = sl S) : ss (sp S o) i u = sp S u := by rw [h]; exact ss_sp_new
@[simp] theorem le_a2 (n a0 a1 : Nat) : n ≤ n + a0 + a1 := by omega
@[simp] theorem nlt_a2 (n a0 a1 : Nat) : (n + a0 + a1 < n) = False := by simp only [eq_iff_iff, iff_false]; omega
@[simp] theorem lt_o2 (n : Nat) : n < n + 1 + 1 := by omega
@[simp] theorem le_a3 (n a0 a1 a2 : Nat) : n ≤ n + a0 + a1 + a2 := by omega
@[simp] theorem nlt_a3 (n a0 a1 a2 : Nat) : (n + a0 + a1 + a2 < n) = False := by simp only [eq_iff_iff, iff_false]; omega
@[simp] theorem lt_o3 (n : Nat) : n < n + 1 + 1 + 1 := by omega
@[simp] theorem le_a4 (n a0 a1 a2 a3 : Nat) : n ≤ n + a0 + a1 + a2 + a3 := by omega
@[simp] theorem nlt_a4 (n a0 a1 a2 a3 : Nat) : (n + a0 + a1 + a2 + a3 < n) = False := by simp only [eq_iff_iff, iff_false]; omega
@[simp] theorem lt_o4 (n : Nat) : n < n + 1 + 1 + 1 + 1 := by omega
@[simp] theorem le_a5 (n a0 a1 a2 a3 a4 : Nat) : n ≤ n + a0 + a1 + a2 + a3 + a4 := by omega
@[simp] theorem nlt_a5 (n a0 a1 a2 a3 a4 : Nat) : (n + a0 + a1 + a2 + a3 + a4 < n) = False := by simp only [eq_iff_iff, iff_false]; omega
@[simp] theorem lt_o5 (n : Nat) : n < n + 1 + 1 + 1 + 1 + 1 := by omega
@[simp] theorem le_a6 (n a0 a1 a2 a3 a4 a5 : Nat) : n ≤ n + a0 + a1 + a2 + a3 + a4 + a5 := by omega
@[simp] theorem nlt_a6 (n a0 a1 a2 a3 a4 a5 : Nat) : (n + a0 + a1 + a2 + a3 + a4 + a5 < n) = False := by simp only [eq_iff_iff, iff_false]; omega
@[simp] theorem lt_o6 (n : Nat) : n < n + 1 + 1 + 1 + 1 + 1 + 1 := by omega
@[simp] theorem le_a7 (n a0 a1 a2 a3 a4 a5 a6 : Nat) : n ≤ n + a0 + a1 + a2 + a3 + a4 + a5 + a6 := by omega
@[simp] theorem nlt_a7 (n a0 a1 a2 a3 a4 a5 a6 : Nat) : (n + a0 + a1 + a2 + a3 + a4 + a5 + a6 < n) = False := by simp only [eq_iff_iff, iff_false]; omega
@[simp] theorem lt_o7 (n : Nat) : n < n + 1 + 1 + 1 + 1 + 1 + 1 + 1 := by omega
@[simp] theorem le_a8 (n a0 a1 a2 a3 a4 a5 a6 a7 : Nat) : n ≤ n + a0 + a1 + a2 + a3 + a4 + a5 + a6 + a7 := by omega
@[simp] theorem nlt_a8 (n a0 a1 a2 a3 a4 a5 a6 a7 : Nat) : (n + a0 + a1 + a2 + a3 + a4 + a5 + a6 + a7 < n) = False := by simp only [eq_iff_iff, iff_false]; omega
@[simp] theorem lt_o8 (n : Nat) : n < n + 1 + 1 + 1 + 1 + 1 + 1 + 1 + 1 := by omega
/-! instances -/
def insR (o : Option Ob) : Option (Str × List (Str × Val)) := match o with
  | some (.ins c fs) => some (c, fs)
  | _ => none
@[simp] theorem insR_ins (c : Str) (fs : List (Str × Val)) : insR (some (.ins c fs)) = some (c, fs) := rfl
theorem insAt_ref (a : Nat) : insAt (.ref a) S = insR (sg S a) := by
  show insAt (.ref a) S = insR S[a]?
  simp only [insAt]
  cases S[a]? with
  | none => rfl
  | some o => cases o <;> rfl
def fldR (c f : Str) (o : Option (Str × List (Str × Val))) (S : Store) : R Val := match o with
  | some (c', fs) => bite (decide (c' = c)) (optR (fs.lookup f) S) .bad
  | none => .bad
@[simp] theorem fldR_some (c f c' : Str) (fs : List (Str × Val)) : fldR c f (some (c', fs)) S = bite (decide (c' = c)) (optR (fs.lookup f) S) .bad := rfl
@[simp] theorem getF_ref (c f : Str) (a : Nat) : getF c f (.ref a) S = fldR c f (insR (sg S a)) S := by
  unfold getF fldR
  rw [insAt_ref]
  cases insR (sg S a) with
  | none => rfl
  | some p =>
    obtain ⟨c', fs⟩ := p
    dsimp only
    unfold optR
    cases decide (c' = c) with
    | true => cases fs.lookup f <;> rfl
    | false => rfl
def putFR (c f : Str) (v : Val) (o : Option (Str × List (Str × Val))) (a : Nat) (S : Store) : R Unit := match o with
  | some (c', fs) => bite (decide (c' = c) && decide (fs.length < 1000)) (.ok () (ss S a (.ins c (setF f v fs)))) .bad
  | none => .bad
@[simp] theorem putFR_some (c f c' : Str) (v : Val) (fs : List (Str × Val)) (a : Nat) : putFR c f v (some (c', fs)) a S = bite (decide (c' = c) && decide (fs.length < 1000)) (.ok () (ss S a (.ins c (setF f v fs)))) .bad := rfl
@[simp] theorem putFld_ref (c f : Str) (v : Val) (a : Nat) : putFld c f v (.ref a) S = putFR c f v (insR (sg S a)) a S := by
  unfold putFld putFR insR
  show _ = (match (match S[a]? with
    | some (.ins c fs) => some (c, fs)
    | _ => none : Option (Str × List (Str × Val))) with
    | some (c', fs) => _
    | none => _)
  dsimp only
  cases S[a]? with
  | none => rfl
  | some o => cases o <;> rfl
def methR (c m : Str) (o : Option (Str × List (Str × Val))) (r : R Val) : Dep r (R Val) := match o with
  | some (c', fs) => bite (decide (c' = c) && (fs.lookup m).isNone) r .bad
  | none => .bad
@[simp] theorem methR_some (c m c' : Str) (fs : List (Str × Val)) (r : R Val) : methR c m (some (c', fs)) r = bite (decide (c' = c) && (fs.lookup m).isNone) r .bad := rfl
def methX (c m : Str) (f : Fn) (a : MA) (L : Loc) (x : Val) (S : Store) : R Val := match x with
  | .ref i => methR c m (insR (sg S i)) ((a L S).bind fun vs S2 => f (x :: vs) S2)
  | _ => .bad
@[simp] theorem methX_ref (c m : Str) (f : Fn) (a : MA) (i : Nat) : methX c m f a L (.ref i) S = methR c m (insR (sg S i)) ((a L S).bind fun vs S2 => f (.ref i :: vs) S2) := rfl
@[simp] theorem mMeth_app (c m : Str) (f : Fn) (o : ME) (a : MA) : mMeth c m f o a L S = (o L S).bind (methX c m f a L) := by
  unfold mMeth
  congr 1
  funext x S1
  unfold methX
  cases x with
  | ref i =>
    dsimp only
    rw [insAt_ref]
    unfold methR
    rfl
  | _ => rfl
@[simp] theorem fMake_app (c : Str) (f : Fn) (vs : List Val) : fMake c f vs S = (f (.ref (sl S) :: vs) (sp S (.ins c []))).bind fun r S2 => bite (isNon r) (.ok (.ref (sl S)) S2) .bad := rfl
@[simp] theorem isNon_non : isNon .non = true := rfl
/-! lists -/
def appR (o : Option Ob) (a : Nat) (v : Val) (S : Store) : R Val := match o with
  | some (.lst xs) => bite (decide (xs.length < LIM)) (.ok .non (ss S a (.lst (xs ++ [v])))) .bad
  | _ => .bad
@[simp] theorem appR_lst (xs : List Val) (a : Nat) (v : Val) : appR (some (.lst xs)) a v S = bite (decide (xs.length < LIM)) (.ok .non (ss S a (.lst (xs ++ [v])))) .bad := rfl
@[simp] theorem fAppend_ref (a : Nat) (v : Val) : fAppend (.ref a) [v] S = appR (sg S a) a v S := by
  show _ = appR S[a]? a v S
  simp only [fAppend]
  unfold appR
  cases S[a]? with
  | none => rfl
  | some o => cases o <;> rfl
def tyR (T : String) (o : Option Ob) : Bool := match o with
  | some (.lst _) => T == "list"
  | some (.dK _) => T == "dict"
  | some (.dT _) => T == "dict"
  | _ => false
@[simp] theorem tyR_lst (T : String) (xs : List Val) : tyR T (some (.lst xs)) = (T == "list") := rfl
@[simp] theorem tyR_dK (T : String) (xs : List (Key × Val)) : tyR T (some (.dK xs)) = (T == "dict") := rfl
@[simp] theorem isTy_ref (T : String) (a : Nat) : isTy T (.ref a) S = tyR T (sg S a) := by
  show _ = tyR T S[a]?
  simp only [isTy]
  unfold tyR
  cases S[a]? with
  | none => rfl
  | some o => cases o <;> rfl
@[simp] theorem newL_app (xs : List Val) : newL xs S = .ok (.ref (sl S)) (sp S (.lst xs)) := rfl
def slR (o : Option Ob) (lo hi : Option Int) (S : Store) : R Val := match o with
  | some (.lst vs) => newL (cutL vs lo hi) S
  | _ => .bad
@[simp] theorem slR_lst (vs : List Val) (lo hi : Option Int) : slR (some (.lst vs)) lo hi S = newL (cutL vs lo hi) S := rfl
@[simp] theorem pSl_ref (a : Nat) (lo hi : Option Int) : pSl (.ref a) lo hi S = slR (sg S a) lo hi S := by
  show _ = slR S[a]? lo hi S
  simp only [pSl]
  unfold slR
  cases S[a]? with
  | none => rfl
  | some o => cases o <;> rfl
@[simp] theorem pSl_tup (vs : List Val) (lo hi : Option Int) : pSl (.tup vs) lo hi S = .ok (.tup (cutL vs lo hi)) S := rfl
@[simp] theorem pSl_fl (vs : List Int) (lo hi : Option Int) : pSl (.fl vs) lo hi S = newL ((cutL vs lo hi).map Val.int) S := rfl
def itemsR (o : Option Ob) : Option (List Val) := match o with
  | some (.lst vs) => some vs
  | _ => none
@[simp] theorem itemsR_lst (vs : List Val) : itemsR (some (.lst vs)) = some vs := rfl
@[simp] theorem fList_ref (a : Nat) : fList [.ref a] S = (optR (itemsR (sg S a)) S).bind fun vs S => newL vs S := by
  show _ = (optR (itemsR S[a]?) S).bind _
  simp only [fList, one, itemsO]
  cases S[a]? with
  | none => rfl
  | some o => cases o <;> rfl
@[simp] theorem fList_fl (ns : List Int) : fList [.fl ns] S = newL (ns.map Val.int) S := rfl
@[simp] theorem fList_tup (vs : List Val) : fList [.tup vs] S = newL vs S := rfl
@[simp] theorem fTuple_ref (a : Nat) : fTuple [.ref a] S = (optR (itemsR (sg S a)) S).bind fun vs S => .ok (.tup vs) S := by
  show _ = (optR (itemsR S[a]?) S).bind _
  simp only [fTuple, one, itemsO]
  cases S[a]? with
  | none => rfl
  | some o => cases o <;> rfl
@[simp] theorem fTuple_tup (vs : List Val) : fTuple [.tup vs] S = .ok (.tup vs) S := rfl
def itR (o : Option Ob) (a : Nat) (S : Store) : R It := match o with
  | some (.lst xs) => .ok ⟨xs, fun S' => sg S' a = some (.lst xs)⟩ S
  | _ => .bad
@[simp] theorem itR_lst (xs : List Val) (a : Nat) : itR (some (.lst xs)) a S = .ok ⟨xs, fun S' => sg S' a = some (.lst xs)⟩ S := rfl
@[simp] theorem itOf_ref (a : Nat) : itOf (.ref a) S = itR (sg S a) a S := by
  show _ = itR S[a]? a S
  simp only [itOf]
  unfold itR
  cases S[a]? with
  | none => rfl
  | some o => cases o <;> rfl
@[simp] theorem itOf_tup (vs : List Val) : itOf (.tup vs) S = .ok ⟨vs, fun _ => True⟩ S := rfl
@[simp] theorem itOf_fl (ns : List Int) : itOf (.fl ns) S = .ok ⟨ns.map Val.int, fun _ => True⟩ S := rfl
theorem rngOf1_int (j : Int) : rngOf1 [.int j] S = gate (-BIG ≤ j ∧ j < BIG) (.ok ⟨rangeL 0 j.toNat, fun _ => True⟩ S) .bad := rfl
theorem rngOf2_int (i j : Int) : rngOf2 [.int i, .int j] S = gate (-BIG ≤ i ∧ i < BIG ∧ -BIG ≤ j ∧ j < BIG) (.ok ⟨rangeL i (j - i).toNat, fun _ => True⟩ S) .bad := rfl
/-! in, dicts -/
def inDR (o : Option Ob) (k : Key) : Option Bool := match o with
  | some (.dK kvs) => some (valL kvs k).isSome
  | _ => none
end
end Mp

set_option maxHeartbeats 4000000
/-! MpL: loops and other common lemmas, plain. -/
namespace Mp
open PySem (Str)
theorem ofString_inj {a b : String} : (Str.ofString a = Str.ofString b) = (a = b) := by
  apply propext
  refine ⟨fun h => ?_, fun h => by rw [h]⟩
  rw [PySem.Str.ofString_eq_toList, PySem.Str.ofString_eq_toList] at h
  have h1 : a.toList.map Char.toNat = b.toList.map Char.toNat := by
    have := congrArg PySem.Str.cps h
    simpa using this
  have h2 : a.toList = b.toList := by
    have inj : ∀ (l m : List Char), l.map Char.toNat = m.map Char.toNat → l = m := by
      intro l
      induction l with
      | nil => intro m hm; cases m with
        | nil => rfl
        | cons => simp at hm
      | cons c l ih => intro m hm; cases m with
        | nil => simp at hm
        | cons d m =>
          simp only [List.map_cons, List.cons.injEq] at hm
          rw [ih m hm.2]
          have : c = d := by
            apply Char.ext
            apply UInt32.toNat_inj.mp
            exact hm.1
          rw [this]
    exact inj _ _ h1
  exact String.toList_inj.mp h2
@[simp] theorem ofString_beq {a b : String} : (Str.ofString a == Str.ofString b) = decide (a = b) := by
  by_cases h : a = b
  · subst h; simp
  · rw [decide_eq_false h]
    apply beq_eq_false_iff_ne.mpr
    intro e
    rw [ofString_inj] at e
    exact h e
@[simp] theorem ofString_eq' {a b : String} : (Str.ofString a = Str.ofString b) = (a = b) := ofString_inj
/-- a loop none of whose turns leaves it -/
theorem forLoop_nx {keep : Store → Prop} {g : MG} {b : MS} (I : Nat → Loc → Store → Prop) {xs : List Val} {L : Loc} {S : Store} (h0 : I 0 L S) (hk : ∀ i L S, i ≤ xs.length → I i L S → keep S)
    (hs : ∀ i x L S, xs[i]? = some x → I i L S → ∃ L1 S1 L2 S2, g x L S = .ok L1 S1 ∧ (b L1 S1 = .nx L2 S2 ∨ b L1 S1 = .ct L2 S2) ∧ I (i + 1) L2 S2) : ∃ L' S', forLoop keep g b xs L S = .nx L' S' ∧ I xs.length L' S' := by
  have key : ∀ (ys : List Val) (i : Nat) (L : Loc) (S : Store), xs.drop i = ys → i ≤ xs.length → I i L S → ∃ L' S', forLoop keep g b ys L S = .nx L' S' ∧ I xs.length L' S' := by
    intro ys
    induction ys with
    | nil =>
      intro i L S hd hi hI
      have : xs.length ≤ i := by
        have := congrArg List.length hd
        simp at this
        omega
      have e : i = xs.length := by omega
      subst e
      exact ⟨L, S, by unfold forLoop; rw [gate_pos (hk _ _ _ (Nat.le_refl _) hI)], hI⟩
    | cons y ys ih =>
      intro i L S hd hi hI
      have hx : xs[i]? = some y := by
        have : (xs.drop i)[0]? = some y := by rw [hd]; rfl
        simpa using this
      have hlt := (List.getElem?_eq_some_iff.mp hx).1
      have hys : xs.drop (i + 1) = ys := by
        have : (xs.drop i).drop 1 = ys := by rw [hd]; rfl
        rw [List.drop_drop] at this
        exact this
      obtain ⟨L1, S1, L2, S2, h1, h2, h3⟩ := hs i y L S hx hI
      obtain ⟨L', S', h4, h5⟩ := ih (i + 1) L2 S2 hys hlt h3
      refine ⟨L', S', ?_, h5⟩
      unfold forLoop
      rw [gate_pos (hk _ _ _ hi hI), h1]
      rcases h2 with h2 | h2
      · simp [h2, h4]
      · simp [h2, h4]
  exact key xs 0 L S rfl (Nat.zero_le _) h0
theorem rangeL_len (lo : Int) (n : Nat) : (rangeL lo n).length = n := by simp [rangeL]
theorem rangeL_at {lo : Int} {n i : Nat} {x : Val} (h : (rangeL lo n)[i]? = some x) : i < n ∧ x = .int (lo + (i : Nat)) := rangeL_get h
/-- is a value a whole number (no flag) -/
def isInt (v : Val) : Bool := match v with
  | .int _ => true
  | _ => false
def withinB (v : Val) (a b : Int) : Bool := match v with
  | .int i => decide (a ≤ i) && decide (i ≤ b)
  | _ => false
theorem isInt_ty {v : Val} {S : Store} {t : String} (h : tyName v S = some t) : (subTy t "int" && !subTy t "bool") = isInt v := by
  cases v with
  | ref a =>
    simp only [tyName] at h
    split at h <;> first | (cases h; rfl) | cases h
  | _ => simp only [tyName] at h; cases h; rfl
@[simp] theorem tyName_non {S : Store} : tyName .non S = some "NoneType" := rfl
@[simp] theorem tyName_bl {S : Store} (b : Bool) : tyName (.bl b) S = some "bool" := rfl
@[simp] theorem tyName_int {S : Store} (b : Int) : tyName (.int b) S = some "int" := rfl
@[simp] theorem tyName_str {S : Store} (b : Str) : tyName (.str b) S = some "str" := rfl
@[simp] theorem tyName_tup {S : Store} (b : List Val) : tyName (.tup b) S = some "tuple" := rfl
@[simp] theorem tyName_fl {S : Store} (b : List Int) : tyName (.fl b) S = some "list" := rfl
def tyRN (o : Option Ob) : Option String := match o with
  | some (.lst _) => some "list"
  | some (.dK _) => some "dict"
  | some (.dT _) => some "dict"
  | _ => none
@[simp] theorem tyRN_lst (xs : List Val) : tyRN (some (.lst xs)) = some "list" := rfl
@[simp] theorem tyRN_dK (xs : List (Key × Val)) : tyRN (some (.dK xs)) = some "dict" := rfl
@[simp] theorem tyName_ref {S : Store} (a : Nat) : tyName (.ref a) S = tyRN (sg S a) := by
  show _ = tyRN S[a]?
  simp only [tyName]
  unfold tyRN
  cases S[a]? with
  | none => rfl
  | some o => cases o <;> rfl
theorem pIsT_of {T : String} {v : Val} {S : Store} {t : String} (h : tyName v S = some t) : pIsT T v S = .ok (.bl (subTy t T)) S := by unfold pIsT; rw [h]
/-- bite of a choice -/
theorem bite_ite {α : Type} (b : Bool) (x y : α) : bite b x y = if b = true then x else y := by cases b <;> rfl
theorem bite_ok_bl {b : Bool} {c : Bool} {S : Store} : bite b (R.ok (Val.bl c) S) (R.ok (Val.bl false) S) = .ok (.bl (b && c)) S := by cases b <;> rfl
theorem bite_ok_b {b : Bool} {c : Bool} {S : Store} : bite b (R.ok c S) (R.ok false S) = .ok (b && c) S := by cases b <;> rfl
/-! try, while -/
def tryF (D : List Hd) (r : F) : Dep D F := match r with
  | .exn e L S => handle D e L S
  | r => r
@[simp] theorem sTry_app (b : MS) (D : List Hd) (L : Loc) (S : Store) : sTry b D L S = tryF D (b L S) := by
  unfold sTry tryF
  rfl
@[simp] theorem tryF_nx (D : List Hd) (L : Loc) (S : Store) : tryF D (.nx L S) = .nx L S := rfl
@[simp] theorem tryF_rt (D : List Hd) (v : Val) (S : Store) : tryF D (.rt v S) = .rt v S := rfl
@[simp] theorem tryF_exn (D : List Hd) (e : Ex) (L : Loc) (S : Store) : tryF D (.exn e L S) = handle D e L S := rfl
def hdF (o : Option Bool) (x y : F) : Dep x (Dep y F) := match o with
  | some b => bite b (noExnF x) y
  | none => .bad
@[simp] theorem hdF_some (b : Bool) (x y : F) : hdF (some b) x y = bite b (noExnF x) y := rfl
@[simp] theorem handle_cons (h : Hd) (r : List Hd) (e : Ex) (L : Loc) (S : Store) : handle (h :: r) e L S = hdF (h.names.lookup e.cls) (h.suite e L S) (handle r e L S) := by
  conv => lhs; unfold handle
  unfold hdF
  cases h.names.lookup e.cls <;> rfl
@[simp] theorem handle_nil (e : Ex) (L : Loc) (S : Store) : handle [] e L S = .exn e L S := rfl
theorem whileLoop_step {c : MT} {b : MS} {n : Nat} {L : Loc} {S : Store} (h : 0 < n) : whileLoop c b n L S = thenF L (c L S) fun t S1 => bite t (turn (b L S1) (whileLoop c b (n - 1))) (.nx L S1) := by
  cases n with
  | zero => omega
  | succ n => rfl
theorem MANY_pos : 0 < MANY := by decide
theorem MANY_pos1 : 0 < MANY - 1 := by decide
theorem MANY_pos2 : 0 < MANY - 1 - 1 := by decide
/-! dicts -/
def inKR (o : Option Ob) (x : Val) (neg : Bool) (S : Store) : R Val := match o with
  | some (.dK kvs) => match keyOf x with
    | some k => .ok (.bl (if neg then !(valL kvs k).isSome else (valL kvs k).isSome)) S
    | none => .bad
  | some (.lst vs) => match flatL x, vs.mapM flatL with
    | some u, some us => .ok (.bl (if neg then !L2.inV u us else L2.inV u us)) S
    | _, _ => .bad
  | some (.dT kvs) => match x with
    | .tup ks => match tkey ks with
      | some k => .ok (.bl (if neg then !(valL kvs k).isSome else (valL kvs k).isSome)) S
      | none => .bad
    | _ => .bad
  | _ => .bad
@[simp] theorem inKR_dK (kvs : List (Key × Val)) (i : Int) (neg : Bool) {S : Store} : inKR (some (.dK kvs)) (.int i) neg S = .ok (.bl (if neg then !(valL kvs (.inl i)).isSome else (valL kvs (.inl i)).isSome)) S := rfl
theorem inKR_eq {S : Store} (x : Val) (a : Nat) (neg : Bool) : (match inF x (.ref a) S with
  | some b => R.ok (Val.bl (if neg then !b else b)) S
  | none => .bad) = inKR (sg S a) x neg S := by
  show _ = inKR S[a]? x neg S
  simp only [inF]
  unfold inKR
  cases S[a]? with
  | none => rfl
  | some o =>
    cases o with
    | lst vs =>
      dsimp only
      cases flatL x with
      | none => rfl
      | some u => cases vs.mapM flatL <;> rfl
    | dK kvs =>
      dsimp only
      cases keyOf x <;> rfl
    | dT kvs =>
      cases x with
      | tup ks => dsimp only; cases tkey ks <;> rfl
      | _ => rfl
    | _ => rfl
@[simp] theorem pIn_ref {S : Store} (x : Val) (a : Nat) : pIn x (.ref a) S = inKR (sg S a) x false S := by
  rw [← inKR_eq]
  unfold pIn
  rfl
@[simp] theorem pNotIn_ref {S : Store} (x : Val) (a : Nat) : pNotIn x (.ref a) S = inKR (sg S a) x true S := by
  rw [← inKR_eq]
  unfold pNotIn
  rfl
def dpopR (o : Option Ob) (a : Nat) (k : Key) (S : Store) : R Val := match o with
  | some (.dK kvs) => match valL kvs k with
    | some y => .ok y (ss S a (.dK (dropL kvs k)))
    | none => .bad
  | _ => .bad
@[simp] theorem dpopR_dK (kvs : List (Key × Val)) (a : Nat) (k : Key) {S : Store} : dpopR (some (.dK kvs)) a k S = match valL kvs k with
    | some y => .ok y (ss S a (.dK (dropL kvs k)))
    | none => .bad := rfl
@[simp] theorem fDPop_ref {S : Store} (a : Nat) (i : Int) : fDPop (.ref a) [.int i] S = dpopR (sg S a) a (.inl i) S := by
  show _ = dpopR S[a]? a (.inl i) S
  simp only [fDPop]
  unfold dpopR
  cases S[a]? with
  | none => rfl
  | some o =>
    cases o with
    | dK kvs => dsimp only [keyOf]; cases valL kvs (.inl i) <;> rfl
    | _ => rfl
def sortDR (o : Option Ob) (S : Store) : R Val := match o with
  | some (.dK kvs) => match intKeys kvs with
    | some ks => bite (decide (ks.length < 64)) (newL ((sortI ks).map Val.int) S) .bad
    | none => .bad
  | _ => .bad
@[simp] theorem sortDR_dK (kvs : List (Key × Val)) {S : Store} : sortDR (some (.dK kvs)) S = match intKeys kvs with
    | some ks => bite (decide (ks.length < 64)) (newL ((sortI ks).map Val.int) S) .bad
    | none => .bad := rfl
@[simp] theorem fSortD_ref {S : Store} (a : Nat) : fSortD [.ref a] S = sortDR (sg S a) S := by
  show _ = sortDR S[a]? S
  simp only [fSortD, one]
  unfold sortDR
  cases S[a]? with
  | none => rfl
  | some o =>
    cases o with
    | dK kvs => first
      | (dsimp only; done)
      | (cases intKeys kvs <;> rfl)
      | (dsimp only; cases intKeys kvs <;> rfl)
    | _ => rfl
/-! == -/
def listD (n : Nat) (S : Store) (o : Option Ob) : Option PySem.PyData := match o with
  | some (.lst xs) => (xs.mapM (toD n S)).map .list
  | _ => none
@[simp] theorem listD_lst (n : Nat) (S : Store) (xs : List Val) : listD n S (some (.lst xs)) = (xs.mapM (toD n S)).map .list := rfl
theorem toD_ref (n : Nat) (S : Store) (i : Nat) : toD (n + 1) S (.ref i) = listD n S (sg S i) := by
  show _ = listD n S S[i]?
  simp only [toD]
  unfold listD
  cases S[i]? with
  | none => rfl
  | some o => cases o <;> rfl
theorem toD_tup (n : Nat) (S : Store) (vs : List Val) : toD (n + 1) S (.tup vs) = (vs.mapM (toD n S)).map .tuple := by simp only [toD]
@[simp] theorem toD_int (n : Nat) (S : Store) (i : Int) : toD n S (.int i) = some (.int i) := by cases n <;> simp [toD]
@[simp] theorem toD_str (n : Nat) (S : Store) (i : Str) : toD n S (.str i) = some (.str i) := by cases n <;> simp [toD]
@[simp] theorem toD_bl (n : Nat) (S : Store) (i : Bool) : toD n S (.bl i) = some (.bool i) := by cases n <;> simp [toD]
@[simp] theorem toD_non (n : Nat) (S : Store) : toD n S .non = some .none := by cases n <;> simp [toD]
@[simp] theorem pNe_bl {S : Store} (a b : Bool) : pNe (.bl a) (.bl b) S = .ok (.bl (!(a == b))) S := by
  unfold pNe eqO
  simp [PySem.SeqAt.shaped, PySem.PyData.canLay0, PySem.PyData.depth, PySem.PyData.eqv]
@[simp] theorem pNe_int {S : Store} (a b : Int) : pNe (.int a) (.int b) S = .ok (.bl (!decide (a = b))) S := by
  unfold pNe eqO
  simp [PySem.SeqAt.shaped, PySem.PyData.canLay0, PySem.PyData.depth, PySem.PyData.eqv]
  by_cases h : a = b <;> simp [h]
theorem pEq_str {S : Store} {a b : Str} (ha : PySem.PyData.strOk a = true) (hb : PySem.PyData.strOk b = true) : pEq (.str a) (.str b) S = .ok (.bl (a == b)) S := by
  unfold pEq eqO
  simp [PySem.SeqAt.shaped, PySem.PyData.canLay0, PySem.PyData.depth, PySem.PyData.eqv, ha, hb]
@[simp] theorem pIs_non {S : Store} (v : Val) : pIs v .non S = .ok (.bl (match v with | .non => true | _ => false)) S := by
  unfold pIs isC
  cases v <;> rfl
@[simp] theorem pIs_bl {S : Store} (v : Val) (b : Bool) : pIs v (.bl b) S = .ok (.bl (match v with | .bl c => decide (c = b) | _ => false)) S := by
  unfold pIs isC
  cases v <;> rfl
/-- nothing but h (and what is new) has changed -/
def Keep (h : Nat) (S S' : Store) : Prop := sl S ≤ sl S' ∧ ∀ i, i < sl S → i ≠ h → sg S' i = sg S i
theorem Keep.refl (h : Nat) (S : Store) : Keep h S S := ⟨Nat.le_refl _, fun _ _ _ => rfl⟩
theorem Keep.trans {h : Nat} {S S1 S2 : Store} (a : Keep h S S1) (b : Keep h S1 S2) : Keep h S S2 := ⟨Nat.le_trans a.1 b.1, fun i hi hn => (b.2 i (Nat.lt_of_lt_of_le hi a.1) hn).trans (a.2 i hi hn)⟩
theorem Keep.ss (h : Nat) (S : Store) (o : Ob) : Keep h S (ss S h o) := ⟨by simp, fun i _ hn => sg_ss_ne hn⟩
theorem Keep.sp (h : Nat) (S : Store) (o : Ob) : Keep h S (sp S o) := ⟨by simp, fun i hi _ => sg_sp_lt hi⟩
end Mp

/-! Mp11: the ends: from a law's Fn to the row. -/
namespace Mp
open PySem PySem.Spec L2
/-- the law's own promise -/
def spLaw (K : PySem.W.Frag) : Sp := fun us H Q _ => ∃ (a : Addr) (ns : List Int), us = [.ref a] ∧ FzL K H a (ns.map V.int) ∧ ns.length ≤ 63 ∧ ∀ H', Q (.bl true) H'
theorem fn_law {P : Program} {w : World} {K : PySem.W.Frag} {mg : Str → Option Value} {base : Heap} {CX : CXT} {k : Nat} {fa : Addr} {fd : FuncData} {ps : List Str} {f : Fn} (F : FnOk P w K mg base CX k fa fd ps (spM K mg 1 f))
    (h : ∀ ns : List Int, ns.length ≤ 63 → ∃ S, f [.fl ns] [] = .ok (.bl true) S) : FnOk P w K mg base CX k fa fd ps (spLaw K) := F.imp fun vs H Q E ⟨a, ns, e, hz, hl, k⟩ => by
  obtain ⟨S, q⟩ := h ns hl
  subst e
  refine ⟨fun _ => 0, [], [.fl ns], rfl, ⟨fun i o h => (by simp at h), fun i j h => absurd h (by simp)⟩, ⟨_, _, rfl, ⟨a, rfl, hz⟩, rfl⟩, ?_⟩
  rw [q]
  intro ρ' H' u _ _ r
  have r' : u = .bl true := r
  rw [r']
  exact k H'
theorem walk_mp {l : PySem.W.OpenLaw} {k : Nat} {q : Program} {loose : List Str} {XP : (Str → Option Value) → Heap → Prop} {YP : World → Heap → Prop} {d : DefRec} {K : Params → PySem.W.Frag} {x : Str} (hn : l.most = some 63) (hdf : d.params.defaults = []) (hr : Room k callerA)
    (hY : ∀ (w : World) (h : Heap), YP w h → (K w.params).In h)
    (F : ∀ (w : World) (mg : Str → Option Value) (fa : Addr) (h : Heap), (K w.params).In h → h.Ns mainGlobals mg → mg d.name = some (.ref fa) →
      ∃ fd : FuncData, (∀ (s : Shared) (u : Value), BindsTo s fd ⟨[u], []⟩ [(x, u)]) ∧ ∀ base : Heap, (K w.params).In base → base.Ns mainGlobals mg → FnOk l.prog w (K w.params) mg base (L2.CX l.prog w) k fa fd [x] (spLaw (K w.params))) :
    PySem.W.WalkO q loose XP YP l.row.toRowW d [] (fun f vs => PySem.call f vs) :=
  L2.walk_of (n := 63) (k := k) (x := x) (CX := fun w => L2.CX l.prog w) (sp := fun w => spLaw (K w.params)) hn (by decide) hdf hr hY F (fun w H a ns hl hO hS => by
    refine ⟨a, ns, rfl, ?_, hl, fun _ => rfl⟩
    rcases hS with hS | hS
    · rcases hS with hS | hS
      · rcases hO a with q | ⟨o, xs, q⟩
        · rw [q] at hS; cases hS
        · rw [q] at hS; cases hS
      · exact .inl hS
    · exact .inr hS) fun _ _ _ _ _ ⟨_, _, _, _, _, _, _, _, _, _, _, _, z⟩ => z
/-- what an except clause with the class at C says of an error of class Y -/
theorem exm_of {K : PySem.W.Frag} {C Y : Addr} {b : Bool} (h1 : PySem.W.subIn K (.ref C) (.type "BaseException") = some true) (h2 : PySem.W.isClsIn K C = true) (h3 : PySem.W.typeIn K (.ref C) = some (.type "type")) (h4 : PySem.W.subIn K (.ref Y) (.ref C) = some b) :
    PySem.W.exmOne K (.ref Y) (.ref C) = some b := by
  have e1 : (PySem.W.subIn K (.ref C) (.type "BaseException") == some true) = true := by rw [h1] <;> rfl
  have e2 : ((PySem.W.clsIn K C).isSome && PySem.W.typeIn K (.ref C) == some (.type "type")) = true := by
    have h2' : (PySem.W.clsIn K C).isSome = true := h2
    rw [h2', h3] <;> rfl
  unfold PySem.W.exmOne PySem.W.kitCls
  simp only [e1, e2, if_true]
  exact h4
end Mp

/-! Mp12: more builtins. -/
namespace Mp
open PySem PySem.Spec L2
section
variable {X : Cx} {W : WX}
/-- a list's items -/
def lstO (x : Val) (S : Store) : Option (List Val) := match x with
  | .fl ns => some (ns.map Val.int)
  | .ref a => match S[a]? with
    | some (.lst vs) => some vs
    | _ => none
  | _ => none
theorem lst_of {ρ : Rho} {S : Store} {H : Hp} {x : Val} {u : V} {vs : List Val} (s : SR X.K X.mg ρ S H) (v : VR X.K ρ S.length H x u) (h : lstO x S = some vs) : ∃ a us, u = .ref a ∧ SqL X.K H a us ∧ VRs X.K ρ S.length H vs us := by
  unfold lstO at h
  split at h
  · cases h
    simp only [VR] at v
    obtain ⟨a, rfl, h1⟩ := v
    exact ⟨a, _, rfl, h1.seq, VRs.of_ints _⟩
  · rename_i a
    simp only [VR] at v
    obtain ⟨ha, rfl⟩ := v
    split at h
    · rename_i vs' e
      cases h
      obtain ⟨us, g1, g2⟩ := s.lst e
      exact ⟨_, us, rfl, SqL.of g1, g2⟩
    · cases h
  · cases h
def blsO : List Val → Option (List Bool)
  | [] => some []
  | .bl b :: r => (blsO r).map (b :: ·)
  | _ => none
def intsO : List Val → Option (List Int)
  | [] => some []
  | .int b :: r => (intsO r).map (b :: ·)
  | _ => none
theorem bls_of {K : PySem.W.Frag} {ρ : Rho} {n : Nat} {H : Hp} : ∀ {vs : List Val} {us : List V} {bs : List Bool}, VRs K ρ n H vs us → blsO vs = some bs → us = bs.map V.bl
  | [], us, bs, r, e => by
    cases e
    exact r.nil_of
  | .bl b :: vs, us, bs, r, e => by
    obtain ⟨u, q, rfl, r1, r2⟩ := r.cons_of
    simp only [blsO, Option.map_eq_some_iff] at e
    obtain ⟨cs, e1, rfl⟩ := e
    simp only [VR] at r1
    rw [r1, bls_of r2 e1]
    rfl
  | .non :: _, _, _, _, e | .int _ :: _, _, _, _, e | .str _ :: _, _, _, _, e | .tup _ :: _, _, _, _, e | .ref _ :: _, _, _, _, e | .fl _ :: _, _, _, _, e => by simp [blsO] at e
theorem ints_of {K : PySem.W.Frag} {ρ : Rho} {n : Nat} {H : Hp} : ∀ {vs : List Val} {us : List V} {bs : List Int}, VRs K ρ n H vs us → intsO vs = some bs → us = bs.map V.int
  | [], us, bs, r, e => by
    cases e
    exact r.nil_of
  | .int b :: vs, us, bs, r, e => by
    obtain ⟨u, q, rfl, r1, r2⟩ := r.cons_of
    simp only [intsO, Option.map_eq_some_iff] at e
    obtain ⟨cs, e1, rfl⟩ := e
    simp only [VR] at r1
    rw [r1, ints_of r2 e1]
    rfl
  | .non :: _, _, _, _, e | .bl _ :: _, _, _, _, e | .str _ :: _, _, _, _, e | .tup _ :: _, _, _, _, e | .ref _ :: _, _, _, _, e | .fl _ :: _, _, _, _, e => by simp [intsO] at e
/-- all(xs) of a list of flags -/
def fAll : Fn := one fun v S => match (lstO v S).bind blsO with
  | some bs => .ok (.bl (bs.all id)) S
  | none => .bad
theorem c_all (hc : X.calm = true) : CallR X (.builtin "all") (rF X fAll) := CallR.imp (cr_all hc) fun us H Q h => by
  replace h := one_of h
  obtain ⟨u, rfl, ρ, S, x, s, v, h⟩ := h
  dsimp only at h
  split at h
  · rename_i bs e
    obtain ⟨vs, e1, e2⟩ := Option.bind_eq_some_iff.mp e
    obtain ⟨a, us, rfl, h1, h2⟩ := lst_of s v e1
    cases bls_of h2 e2
    exact ⟨a, bs, rfl, h1, Post.here (rel := relV X.K) s h (by simp [relV, VR])⟩
  · exact h.elim
/-- sum(xs) of a list of integers -/
def fSum : Fn := one fun v S => match (lstO v S).bind intsO with
  | some bs => .ok (.int bs.sum) S
  | none => .bad
theorem c_sum (hc : X.calm = true) : CallR X (.builtin "sum") (rF X fSum) := CallR.imp (cr_sum hc) fun us H Q h => by
  replace h := one_of h
  obtain ⟨u, rfl, ρ, S, x, s, v, h⟩ := h
  dsimp only at h
  split at h
  · rename_i bs e
    obtain ⟨vs, e1, e2⟩ := Option.bind_eq_some_iff.mp e
    obtain ⟨a, us, rfl, h1, h2⟩ := lst_of s v e1
    cases ints_of h2 e2
    exact ⟨a, bs, rfl, h1, Post.here (rel := relV X.K) s h (by simp [relV, VR])⟩
  · exact h.elim
def maxL : List Int → Option Int
  | [] => none
  | i :: r => some (match maxL r with
    | some j => if i ≤ j then j else i
    | none => i)
theorem maxL_ge : ∀ {ns : List Int} {m : Int}, maxL ns = some m → m ∈ ns ∧ ∀ y, y ∈ ns → y ≤ m
  | [], _, h => by cases h
  | i :: r, m, h => by
    simp only [maxL, Option.some.injEq] at h
    cases q : maxL r with
    | none =>
      rw [q] at h
      dsimp only at h
      subst h
      have hr : r = [] := by
        cases r with
        | nil => rfl
        | cons j s => simp [maxL] at q
      subst hr
      exact ⟨by simp, fun y hy => by simp at hy; omega⟩
    | some j =>
      rw [q] at h
      obtain ⟨h1, h2⟩ := maxL_ge q
      dsimp only at h
      split at h
      · subst h
        exact ⟨List.mem_cons_of_mem _ h1, fun y hy => by
          rcases List.mem_cons.mp hy with rfl | hy
          · assumption
          · exact h2 y hy⟩
      · subst h
        exact ⟨by simp, fun y hy => by
          rcases List.mem_cons.mp hy with rfl | hy
          · exact Int.le_refl _
          · have := h2 y hy
            omega⟩
theorem iter_tups {prog : Program} {w : World} {A : Around} {E : Value → Shared → Prop} {s : Shared} {l : Addr} {xs : Array (Int × Tok)} {Q : Value → Shared → Prop} (hl : s.heap.IsTuple l (intItems xs))
    (h : ∀ s₂ : Shared, s₂ = { s with heap := s.heap.push { cls := .type "tuple_iterator", data := .fields #[.ref l, .int 0 0] } } →
      (s₂.heap.IsTupleIter s.heap.objs.size l 0 ∧ s₂.heap.IsTuple l (intItems xs)) → (∀ b ∈ [s.heap.objs.size, l], b < s₂.heap.objs.size) → l ≠ s.heap.objs.size → Q (.ref s.heap.objs.size) s₂) :
    wpAny (model prog w) A (pyIter (.ref l)) Q E s := by
  have lt : l < s.heap.objs.size := by
    obtain ⟨_, e, _⟩ := hl
    exact Heap.lt_size e
  refine wpAny_pyIter_tuple hl (h _ rfl ⟨⟨_, Heap.get?_push_size _ rfl, rfl, rfl⟩, hl.push _⟩ (fun b hb => ?_) (Nat.ne_of_lt lt))
  show b < (s.heap.push _).objs.size
  rw [Heap.size_push]
  simp only [List.mem_cons, List.not_mem_nil, or_false] at hb
  rcases hb with rfl | rfl
  · exact Nat.lt_succ_self _
  · exact Nat.lt_succ_of_lt lt
theorem max_intTup {prog : Program} {w : World} {A : Around} {E : Value → Shared → Prop} {s : Shared} {l : Addr} {xs : Array (Int × Tok)} {Q : Value → Shared → Prop} (hh : A.handled = none) (hl : s.heap.IsTuple l (intItems xs)) (hne : 0 < xs.size)
    (h : ∀ v h' tk, (intItems xs)[argBest (fun i j => decide (numAt xs i > numAt xs j)) (xs.size - 1)]? = some v → (∀ b o, s.heap.get? b = some o → h'.get? b = some o) → Q v { s with heap := h', toks := tk }) :
    wpAny (model prog w) A (call (.builtin "max") [.ref l]) Q E s := by
  refine call_max_walk (iter_tups hl fun s₂ e st hfp hlI => ?_)
  subst e
  refine ⟨_, _, _, _, _, _, _, rfl, Walks.tuple (A := A.in1) hh _ l hlI (intItems xs), st, hfp, by simpa [intItems] using hne, CmpOf.ints_gt (numAt xs) (fun _ _ => intItems_at), fun v h' tk hP hk => ?_⟩
  refine h v h' tk (by simpa [intItems] using hP) fun b o e => hk b o (fun hm => ?_) (Heap.get?_push_of_some _ e)
  have eb : b = s.heap.objs.size := by simpa using hm
  rw [eb] at e
  exact absurd (Heap.lt_size e) (Nat.lt_irrefl _)
open PyProof.Rows in
theorem maxT_raw {prog : Program} {w : World} {A : Around} {E : Value → Shared → Prop} {s : Shared} {l : Addr} {its : List Value} {ns : List Int} {Q : Value → Shared → Prop} (hh : A.handled = none) (hl : s.heap.IsTuple l its.toArray) (hi : PyProof.Rows.IntsAre its ns) (hne : 0 < ns.length)
    (h : ∀ h' tk M t', (∀ b o, s.heap.get? b = some o → h'.get? b = some o) → M ∈ ns → (∀ a, a ∈ ns → a ≤ M) → Q (.int M t') { s with heap := h', toks := tk }) : wpAny (model prog w) A (call (.builtin "max") [.ref l]) Q E s := by
  obtain ⟨xs, e⟩ := hi.allInts.items
  have hn : numsOf (intItems xs).toList = ns := by rw [← e]; exact hi.numsOf
  rw [nums_intItems] at hn
  subst hn
  rw [e] at hl
  have hsz : 0 < xs.size := by simpa using hne
  refine max_intTup hh hl hsz fun v h' tk hv hk => ?_
  obtain ⟨t, rfl⟩ := intItems_at hv
  obtain ⟨h1, h2⟩ := argBest_gt (numAt xs) (xs.size - 1)
  refine h h' tk _ t hk ?_ fun a ha => ?_
  · rw [numAt_eq]
    exact PySem.getD_mem (by rw [List.length_map, Array.length_toList]; omega)
  · obtain ⟨j, hj, rfl⟩ := mem_getD ha
    rw [List.length_map, Array.length_toList] at hj
    rw [← numAt_eq]
    exact h2 j (by omega)
def rMaxT (K : PySem.W.Frag) : List V → Hp → VK → Prop := fun vs H Q => ∃ (a : Addr) (ns : List Int), vs = [V.ref a] ∧ SqT K H a (ns.map V.int) ∧ 0 < ns.length ∧ ∀ m, m ∈ ns → (∀ y, y ∈ ns → y ≤ m) → Q (.int m) H
theorem cr_maxT (hc : X.calm = true) : CallR X (.builtin "max") (rMaxT X.K) := by
  intro pins s σ H vs us Q I r h
  obtain ⟨a, ns, rfl, hs, hne, q⟩ := h
  obtain ⟨its, rv, hl, _⟩ := I.tuple hs
  rw [Vals.ref1 r]
  exact maxT_raw (I.ok.hd hc) hl rv.ints hne fun h' tk m t' hk h1 h2 => ⟨.int _, H, I.kept hk, ⟨_, rfl⟩, q m h1 h2⟩
/-- max(xs) of a list or a tuple of integers -/
def fMaxL : Fn := one fun v S => match ((itemsO v S).bind intsO).bind maxL with
  | some m => .ok (.int m) S
  | none => .bad
theorem c_maxL (hc : X.calm = true) : CallR X (.builtin "max") (rF X fMaxL) := CallR.imp ((cr_max hc).or (cr_maxT hc)) fun us H Q h => by
  replace h := one_of h
  obtain ⟨u, rfl, ρ, S, x, s, v, h⟩ := h
  dsimp only at h
  split at h
  · rename_i m e
    obtain ⟨ns, e0, e3⟩ := Option.bind_eq_some_iff.mp e
    obtain ⟨vs, e1, e2⟩ := Option.bind_eq_some_iff.mp e0
    obtain ⟨a, us, rfl, h1, h2⟩ := items_of s v e1
    cases ints_of h2 e2
    obtain ⟨g1, g2⟩ := maxL_ge e3
    have fin : ∀ m', m' ∈ ns → (∀ y, y ∈ ns → y ≤ m') → Q (.int m') H := fun m' hm hy => by
      have : m' = m := Int.le_antisymm (g2 m' hm) (hy m g1)
      rw [this]
      exact Post.here (rel := relV X.K) s h (by simp [relV, VR])
    rcases h1 with h1 | h1
    · exact .inl ⟨a, ns, rfl, h1, List.length_pos_of_mem g1, fin⟩
    · exact .inr ⟨a, ns, rfl, h1, List.length_pos_of_mem g1, fin⟩
  · exact h.elim
/-- xs[::-1] of a list -/
def pRev : P1 := fun v S => match lstO v S with
  | some vs => newL vs.reverse S
  | none => .bad
theorem VRs.app {K : PySem.W.Frag} {ρ : Rho} {n : Nat} {H : Hp} : ∀ {vs ws : List Val} {us xs : List V}, VRs K ρ n H vs us → VRs K ρ n H ws xs → VRs K ρ n H (vs ++ ws) (us ++ xs)
  | [], _, us, _, h, q => by
    cases h.nil_of
    exact q
  | v :: vs, _, us, _, h, q => by
    obtain ⟨u, r, rfl, h1, h2⟩ := h.cons_of
    exact ⟨u, _, rfl, h1, VRs.app h2 q⟩
theorem VRs.rev {K : PySem.W.Frag} {ρ : Rho} {n : Nat} {H : Hp} : ∀ {vs : List Val} {us : List V}, VRs K ρ n H vs us → VRs K ρ n H vs.reverse us.reverse
  | [], us, h => by
    cases h.nil_of
    exact h
  | v :: vs, us, h => by
    obtain ⟨u, r, rfl, h1, h2⟩ := h.cons_of
    rw [List.reverse_cons, List.reverse_cons]
    exact VRs.app (VRs.rev h2) ⟨u, [], rfl, h1, rfl⟩
theorem e_rev {e : Expr} {m : ME} {k : Nat} {p1 p2 p3 pos : Pos} (he : PEm X W e m) : PEm X W (.Subscript e (.Slice none none (some (.UnaryOp .USub (.Constant (.int 1) k p1) p2)) p3) pos) (m1 pRev m) :=
  PE.imp (pe_revL he) fun σ H Q h => by
    obtain ⟨ρ, S, L, s, l, h⟩ := h
    refine TEm.bind s l h fun ρ1 S1 x u H1 s1 l1 e v h => ?_
    have h := (Post.noExn h W0).sig (σ' := [])
    unfold pRev at h
    split at h
    · rename_i vs q
      obtain ⟨a, us, rfl, h1, h2⟩ := lst_of s1 v q
      exact ⟨a, us, rfl, h1, lst_new s1 h (VRs.rev h2)⟩
    · exact h.elim
/-- dict(xs) of a list of pairs -/
def kvsO : List Val → Option (List (Key × Val))
  | [] => some []
  | .tup [.int i, v] :: r => (kvsO r).map ((.inl i, v) :: ·)
  | .tup [.str i, v] :: r => (kvsO r).map ((.inr i, v) :: ·)
  | _ => none
def mergeL (kvs : List (Key × Val)) : List (Key × Val) := kvs.foldl (fun acc kv => putL acc kv.1 kv.2) []
theorem KR.merge {K : PySem.W.Frag} {ρ : Rho} {n : Nat} {H : Hp} : ∀ {l : List (Key × Val)} {m : List (Key × V)} {a : List (Key × Val)} {b : List (Key × V)}, KR K ρ n H l m → KR K ρ n H a b → KR K ρ n H (l.foldl (fun acc kv => putL acc kv.1 kv.2) a) (m.foldl (fun acc kv => putK acc kv.1 kv.2) b)
  | [], [], a, b, _, q => q
  | [], _ :: _, _, _, h, _ => by
    have := h.1
    simp at this
  | _ :: _, [], _, _, h, _ => by
    have := h.1
    simp at this
  | (k, v) :: l, (j, u) :: m, a, b, h, q => by
    have h1 := h.1
    simp only [List.map_cons, List.cons.injEq] at h1
    obtain ⟨rfl, h1⟩ := h1
    obtain ⟨u', r, e, g1, g2⟩ := h.2.cons_of
    simp only [List.map_cons, List.cons.injEq] at e
    obtain ⟨rfl, rfl⟩ := e
    exact KR.merge (l := l) (m := m) ⟨h1, g2⟩ (q.put g1)
theorem kvs_of {K : PySem.W.Frag} {ρ : Rho} {n : Nat} {H : Hp} : ∀ {vs : List Val} {us : List V} {kvs : List (Key × Val)}, VRs K ρ n H vs us → kvsO vs = some kvs →
    ∃ (ps : List Addr) (m : List (Key × V)), us = ps.map V.ref ∧ Paired (fun p (kv : Key × V) => SqT K H p [kV kv.1, kv.2]) ps m ∧ KR K ρ n H kvs m := by
  intro vs
  induction vs with
  | nil =>
    intro us kvs r e
    cases e
    exact ⟨[], [], r.nil_of, .nil, rfl, rfl⟩
  | cons v vs ih =>
    intro us kvs r e
    obtain ⟨u, q, rfl, r1, r2⟩ := r.cons_of
    unfold kvsO at e
    split at e
    · rename_i heq
      cases heq
    · rename_i i w r' heq
      cases heq
      obtain ⟨kvs', e1, rfl⟩ := Option.map_eq_some_iff.mp e
      obtain ⟨ps, m, rfl, h1, h2⟩ := ih r2 e1
      simp only [VR] at r1
      obtain ⟨a, xs, rfl, g1, g2⟩ := r1
      obtain ⟨x, y, rfl, gx, gy⟩ := g2.two
      simp only [VR] at gx
      subst gx
      exact ⟨a :: ps, (.inl i, y) :: m, rfl, .cons g1.sq h1, by simp [h2.1], ⟨_, _, rfl, gy, h2.2⟩⟩
    · rename_i i w r' heq
      cases heq
      obtain ⟨kvs', e1, rfl⟩ := Option.map_eq_some_iff.mp e
      obtain ⟨ps, m, rfl, h1, h2⟩ := ih r2 e1
      simp only [VR] at r1
      obtain ⟨a, xs, rfl, g1, g2⟩ := r1
      obtain ⟨x, y, rfl, gx, gy⟩ := g2.two
      simp only [VR] at gx
      subst gx
      exact ⟨a :: ps, (.inr i, y) :: m, rfl, .cons g1.sq h1, by simp [h2.1], ⟨_, _, rfl, gy, h2.2⟩⟩
    · cases e
def fDict : Fn := one fun v S => match (lstO v S).bind kvsO with
  | some kvs => .ok (.ref S.length) (S ++ [.dK (mergeL kvs)])
  | none => .bad
theorem c_dict (hc : X.calm = true) : CallR X (.type "dict") (rF X fDict) := CallR.imp (call_dictP hc) fun us H Q h => by
  replace h := one_of h
  obtain ⟨u, rfl, ρ, S, x, s, v, h⟩ := h
  dsimp only at h
  split at h
  · rename_i kvs e
    obtain ⟨vs, e1, e2⟩ := Option.bind_eq_some_iff.mp e
    obtain ⟨a, us, rfl, h1, h2⟩ := lst_of s v e1
    obtain ⟨ps, m, rfl, g1, g2⟩ := kvs_of h2 e2
    exact ⟨a, ps, m, rfl, h1, g1, new_of s h fun p hp => ⟨_, upd_same, KR.ext s (Ext.new hp) (KR.merge g2 (a := []) (b := []) ⟨rfl, rfl⟩)⟩⟩
  · exact h.elim
/-- a, b = x, y -/
def sPar (i j : Nat) (a : MA) : MS := fun L S => thenF L (a L S) fun vs S1 => match vs with
  | [v, w] => .nx ((L.set i (some v)).set j (some w)) S1
  | _ => .bad
theorem s_par {i j : Nat} {x y : Str} {a b : Expr} {ma : MA} {px py pt : Pos} {kt k2 pt2} {pos : Pos} (hc : X.calm = true) (hN : X.N.Nodup) (hi : X.N[i]? = some x) (hj : X.N[j]? = some y) (hij : i ≠ j)
    (hx : X.env.scope.names.lookup x = some .local) (hy : X.env.scope.names.lookup y = some .local) (ha : PAm X W [a, b] ma)
    (hw : swappedStores [.Tuple [.Name x px, .Name y py] kt pt] (.Tuple [a, b] k2 pt2) X.env = pure (some [x, y]) := by rfl)
    (hs : swapsWithSole [.Tuple [.Name x px, .Name y py] kt pt] (.Tuple [a, b] k2 pt2) pos.line X.env = pure false := by rfl) :
    PSm X W (.Assign [.Tuple [.Name x px, .Name y py] kt pt] (.Tuple [a, b] k2 pt2) pos) (sPar i j ma) := PS.imp (ps_par hc hN hi hj hij hx hy ha hw hs) fun D σ H ⟨ρ, S, L, s, l, h⟩ => by
  refine ⟨ρ, S, L, s, l, (PostF.then (rel := relVs X.K) s l h).mono fun us H1 ⟨ρ1, S1, vs, _, e, s1, v, q⟩ => ?_⟩
  have v' : VRs X.K ρ1 S1.length H1 vs us := v
  split at q
  · obtain ⟨u, z, rfl, r1, r2⟩ := v'.two
    exact ⟨u, z, rfl, PostF.nxHere s1 (((l.ext s e).set r1).set r2) q⟩
  · exact q.elim
/-- {k: e}, k an integer that is written -/
def mD1 (k : Int) (e : ME) : ME := fun L S => (e L (S ++ [.dK []])).bind fun v S2 => match S2[S.length]? with
  | some (.dK []) => .ok (.ref S.length) (S2.set S.length (.dK [(.inl k, v)]))
  | _ => .bad
theorem e_d1 {e : Expr} {m : ME} {k : Int} {j : Nat} {p1 pos : Pos} (he : PEm X W e m) : PEm X W (.Dict [some (.Constant (.int k) j p1)] [e] pos) (mD1 k m) :=
  PE.imp (pe_disp (pps_cons pe_int he pps_nil) rfl rfl (by simp) (by simp)) fun σ H Q ⟨ρ, S, L, s, l, h⟩ p hp => by
    have e1 := Ext.new (ρ := ρ) (S := S) (o := HO.dK []) (b := Ob.dK []) hp
    have s1 := s.new (o := HO.dK []) (b := Ob.dK []) hp ⟨[], upd_same, rfl, rfl⟩
    have h1 := Post.step s1 e1 h
    have l1 := l.ext s e1
    show TEm X.K X.mg W m σ (upd H p (.dK [])) _
    refine TEm.bind s1 l1 h1 fun ρ2 S2 v u H2 s2 l2 e2 r2 h2 => ?_
    split at h2
    · rename_i q
      obtain ⟨us, g1, g2⟩ := s2.ob _ _ q
      have hr : ρ2 S.length = p := by
        rw [e2.rho _ (by simp)]
        exact newRho_same
      have hu : us = [] := by
        have := g2.len
        cases us with
        | nil => rfl
        | cons a b => simp at this
      subst hu
      have hi : S.length < S2.length := (List.getElem?_eq_some_iff.mp q).1
      have g1' := g1
      rw [hr] at g1
      refine ⟨g1, [(.inl k, u)], rfl, by simp, ?_⟩
      have em : mergeK [] [((.inl k : Key), u)] = [(.inl k, u)] := rfl
      rw [em, ← hr]
      have ex := Ext.put (ρ := ρ2) (H := H2) (S := S2) (o := HO.dK [((.inl k : Key), u)]) (b := Ob.dK [(.inl k, v)]) hi
      have hx : H2 (ρ2 S.length) = some (.dK []) := g1'
      refine h2 ρ2 _ _ ex (s2.put hi ⟨_, upd_same, rfl, u, [], rfl, ?_, rfl⟩) ?_
      · have := VR.ext s2 ex _ _ r2
        simpa using this
      · simp only [relV, VR]
        exact ⟨by simpa using hi, trivial⟩
    · exact h2.elim
/-- a name of the module: the empty tuple -/
def Tup0 (K : PySem.W.Frag) (mg : Str → Option Value) (x : Str) : Prop := ∃ (a : Addr) (o : Obj) (n : Nat), mg x = some (.ref a) ∧ K.lookup a = some o ∧ o.cls = .type "tuple" ∧ o.data = .seq #[] n
theorem e_g0 {x : Str} {pos : Pos} (h : Tup0 X.K X.mg x) (hg : Gl X x) (hd : (x == ("__debug__" : Str)) = false := by decide) : PEm X W (.Name x pos) (mC (.tup [])) := by
  obtain ⟨a, o, n, h1, h2, h3, h4⟩ := h
  refine e_gc (u := .ref a) hg h1 rfl (fun _ _ _ => ?_) hd
  simp only [VR]
  exact ⟨a, [], rfl, .inr ⟨rfl, .inr ⟨o, #[], n, h2, h3, h4, by simp, .nil⟩⟩, rfl⟩
end
end Mp

/-! MpC: what a list comprehension makes; growth. -/
namespace Mp
open PySem (Str)
def Grow (S S' : Store) : Prop := sl S ≤ sl S' ∧ ∀ i, i < sl S → sg S' i = sg S i
theorem Grow.refl (S : Store) : Grow S S := ⟨Nat.le_refl _, fun _ _ => rfl⟩
theorem Grow.trans {S S1 S2 : Store} (a : Grow S S1) (b : Grow S1 S2) : Grow S S2 := ⟨Nat.le_trans a.1 b.1, fun i hi => (b.2 i (Nat.lt_of_lt_of_le hi a.1)).trans (a.2 i hi)⟩
theorem Grow.sp (S : Store) (o : Ob) : Grow S (sp S o) := ⟨by simp, fun i hi => sg_sp_lt hi⟩
theorem Grow.keep {S S' : Store} (g : Grow S S') (h : Nat) : Keep h S S' := ⟨g.1, fun i hi _ => g.2 i hi⟩
theorem Grow.sg {S S' : Store} (g : Grow S S') {i : Nat} {o : Ob} (h : Mp.sg S i = some o) : Mp.sg S' i = some o := by rw [g.2 i (sg_lt h)]; exact h
theorem Grow.ty {S S' : Store} (g : Grow S S') {v : Val} {t : String} (h : tyName v S = some t) : tyName v S' = some t := by
  cases v with
  | ref i =>
    rw [tyName_ref] at h ⊢
    cases q : Mp.sg S i with
    | none => rw [q] at h; cases h
    | some o => rw [q] at h; rw [g.sg q]; exact h
  | _ => exact h
theorem lcLoop_inv {keep : Store → Prop} {L : Loc} {g : MG} {c : MT} {e : ME} (I : Nat → List Val → Store → Prop) {xs : List Val} {S : Store} (h0 : I 0 [] S) (hk : ∀ i acc S, i ≤ xs.length → I i acc S → keep S)
    (hs : ∀ i x acc S, xs[i]? = some x → I i acc S → ∃ L1 S1 S2, g x L S = .ok L1 S1 ∧ ((c L1 S1 = .ok true S2 ∧ ∃ v S3, e L1 S2 = .ok v S3 ∧ acc.length < LIM ∧ I (i + 1) (acc ++ [v]) S3) ∨ (c L1 S1 = .ok false S2 ∧ I (i + 1) acc S2))) :
    ∃ ws S', lcLoop keep L g c e xs [] S = .ok ws S' ∧ I xs.length ws S' := by
  have key : ∀ (ys : List Val) (i : Nat) (acc : List Val) (S : Store), xs.drop i = ys → i ≤ xs.length → I i acc S → ∃ ws S', lcLoop keep L g c e ys acc S = .ok ws S' ∧ I xs.length ws S' := by
    intro ys
    induction ys with
    | nil =>
      intro i acc S hd hi hI
      have : xs.length ≤ i := by
        have := congrArg List.length hd
        simp at this
        omega
      have e : i = xs.length := by omega
      subst e
      exact ⟨acc, S, by unfold lcLoop; rw [gate_pos (hk _ _ _ (Nat.le_refl _) hI)], hI⟩
    | cons y ys ih =>
      intro i acc S hd hi hI
      have hx : xs[i]? = some y := by
        have : (xs.drop i)[0]? = some y := by rw [hd]; rfl
        simpa using this
      have hlt := (List.getElem?_eq_some_iff.mp hx).1
      have hd' : xs.drop (i + 1) = ys := by
        have := congrArg List.tail hd
        simpa using this
      obtain ⟨L1, S1, S2, h1, h2⟩ := hs i y acc S hx hI
      rcases h2 with ⟨h2, v, S3, h3, h4, h5⟩ | ⟨h2, h5⟩
      · obtain ⟨ws, S', r1, r2⟩ := ih (i + 1) (acc ++ [v]) S3 hd' hlt h5
        refine ⟨ws, S', ?_, r2⟩
        unfold lcLoop
        rw [gate_pos (hk _ _ _ hi hI), h1, noExn_ok, R.bind_ok, h2, noExn_ok, R.bind_ok, bite_true, h3, noExn_ok, R.bind_ok, bite_pos (decide_eq_true h4)]
        exact r1
      · obtain ⟨ws, S', r1, r2⟩ := ih (i + 1) acc S2 hd' hlt h5
        refine ⟨ws, S', ?_, r2⟩
        unfold lcLoop
        rw [gate_pos (hk _ _ _ hi hI), h1, noExn_ok, R.bind_ok, h2, noExn_ok, R.bind_ok, bite_false]
        exact r1
  exact key xs 0 [] S (by simp) (Nat.zero_le _) h0
/-- no test, each item's value told by f, the store growing alone -/
theorem lcLoop_map {keep : Store → Prop} {L : Loc} {g : MG} {e : ME} {xs : List Val} {S : Store} (f : Val → Val) (hz : xs.length < LIM) (hk : ∀ S', Grow S S' → keep S')
    (hs : ∀ x S', x ∈ xs → Grow S S' → ∃ L1 S1 S2, g x L S' = .ok L1 S1 ∧ e L1 S1 = .ok (f x) S2 ∧ Grow S' S2) : ∃ S', lcLoop keep L g tYes e xs [] S = .ok (xs.map f) S' ∧ Grow S S' := by
  obtain ⟨ws, S', h1, h2, h3⟩ := lcLoop_inv (keep := keep) (L := L) (g := g) (c := tYes) (e := e) (fun i acc S' => acc = (xs.take i).map f ∧ Grow S S') (xs := xs) (S := S) ⟨rfl, Grow.refl S⟩ (fun i acc S' _ q => hk S' q.2) (fun i x acc S' hx q => by
    obtain ⟨q1, q2⟩ := q
    have hi := (List.getElem?_eq_some_iff.mp hx).1
    obtain ⟨L1, S1, S2, e1, e2, e3⟩ := hs x S' (List.mem_of_getElem? hx) q2
    refine ⟨L1, S1, S1, e1, .inl ⟨rfl, f x, S2, e2, by rw [q1, List.length_map, List.length_take]; exact Nat.lt_of_le_of_lt (Nat.min_le_right _ _) hz, ?_, q2.trans e3⟩⟩
    rw [q1, List.take_succ, hx]
    simp)
  rw [List.take_length] at h2
  exact ⟨S', by rw [h1, h2], h3⟩
theorem blsO_map (l : List Bool) : blsO (l.map Val.bl) = some l := by
  induction l with
  | nil => rfl
  | cons b r ih => simp [blsO, ih]
theorem intsO_map (l : List Int) : intsO (l.map Val.int) = some l := by
  induction l with
  | nil => rfl
  | cons b r ih => simp [intsO, ih]
theorem intsO_eq : ∀ {vs : List Val} {ns : List Int}, intsO vs = some ns → vs = ns.map Val.int
  | [], ns, h => by cases h; rfl
  | .int i :: r, ns, h => by
    simp only [intsO, Option.map_eq_some_iff] at h
    obtain ⟨l, h1, rfl⟩ := h
    rw [intsO_eq h1]
    rfl
  | .non :: _, _, h | .bl _ :: _, _, h | .str _ :: _, _, h | .tup _ :: _, _, h | .ref _ :: _, _, h | .fl _ :: _, _, h => by simp [intsO] at h
@[simp] theorem lstO_ref {S : Store} {a : Nat} : lstO (.ref a) S = match sg S a with
    | some (.lst vs) => some vs
    | _ => none := rfl
theorem fAll_ref {S : Store} {a : Nat} {bs : List Bool} (h : sg S a = some (.lst (bs.map Val.bl))) : fAll [.ref a] S = .ok (.bl (bs.all id)) S := by
  unfold fAll one
  simp [h, blsO_map]
theorem pIn_ints {S : Store} {i : Int} {ns : List Int} : pIn (.int i) (.tup (ns.map Val.int)) S = .ok (.bl (decide (i ∈ ns))) S ∧ pNotIn (.int i) (.tup (ns.map Val.int)) S = .ok (.bl (!decide (i ∈ ns))) S := by
  have e : (ns.map Val.int).mapM flatL = some (ns.map L2.V.int) := by
    induction ns with
    | nil => rfl
    | cons a r ih => rw [List.map_cons, List.mapM_cons, ih]; rfl
  have e2 : L2.inV (.int i) (ns.map L2.V.int) = decide (i ∈ ns) := by
    unfold L2.inV
    induction ns with
    | nil => rfl
    | cons a r ih =>
      rw [List.map_cons, List.any_cons, ih (by
        have := e
        rw [List.map_cons, List.mapM_cons] at this
        cases q : (r.map Val.int).mapM flatL with
        | none => rw [q] at this; cases this
        | some z =>
          rw [q] at this
          cases this
          rfl)]
      show (decide (a = i) || decide (i ∈ r)) = _
      by_cases h : a = i
      · subst h; simp
      · have h' : ¬ i = a := fun z => h z.symm
        simp [h, h']
  have f : flatL (.int i) = some (.int i) := rfl
  have q : inF (.int i) (.tup (ns.map Val.int)) S = some (decide (i ∈ ns)) := by
    simp only [inF, f, e, e2]
  unfold pIn pNotIn
  rw [q]
  exact ⟨rfl, rfl⟩
theorem cutL_drop {xs : List Val} {d : Int} (h0 : 0 ≤ d) : cutL xs (some d) none = xs.drop d.toNat := by
  unfold cutL
  have e : HT.sIx xs.length 0 (some d) = min d.toNat xs.length := by
    unfold HT.sIx
    simp only []
    rw [if_neg (by omega)]
  have e2 : HT.sIx xs.length xs.length none = xs.length := rfl
  rw [e, e2, List.take_of_length_le (by simp)]
  by_cases h : d.toNat ≤ xs.length
  · rw [Nat.min_eq_left h]
  · rw [Nat.min_eq_right (by omega), List.drop_of_length_le (Nat.le_refl _), List.drop_of_length_le (by omega)]
end Mp

/-! Mp13: what is left behind is let go of: terms whose end keeps the old objects alone. -/
namespace Mp
open PySem PySem.Spec L2
mutual
/-- no object from the n-th on is named -/
def below (n : Nat) : Val → Bool
  | .non => true
  | .bl _ => true
  | .int _ => true
  | .str _ => true
  | .fl _ => true
  | .ref i => decide (i < n)
  | .tup vs => belows n vs
def belows (n : Nat) : List Val → Bool
  | [] => true
  | v :: vs => below n v && belows n vs
end
def obBelow (n : Nat) : Ob → Bool
  | .lst xs => belows n xs
  | .dK kvs => belows n (kvs.map (·.2))
  | .dT kvs => belows n (kvs.map (·.2))
  | .fK kvs => belows n (kvs.map (·.2))
  | .fT kvs => belows n (kvs.map (·.2))
  | .ins _ fs => belows n (fs.map (·.2))
def cut (n : Nat) (S : Store) : Store := S.take n
/-- the old objects: the same, or naming old ones alone -/
def GcOk (S S' : Store) : Prop := sl S ≤ sl S' ∧ ∀ i, i < sl S → sg S' i = sg S i ∨ ∃ o, sg S' i = some o ∧ obBelow (sl S) o = true
def gcM (n : Nat) (v : Val) (S' : Store) : R Val := match v with
  | .ref k => match sg S' k with
    | some o => bite (obBelow n o) (.ok (.ref n) (sp (cut n S') o)) .bad
    | none => .bad
  | _ => .bad
def gcV (n : Nat) (v : Val) (S' : Store) : R Val := bite (below n v) (.ok v (cut n S')) (gcM n v S')
noncomputable def gcR (S : Store) (r : R Val) : R Val := match r with
  | .ok v S' => gate (GcOk S S') (gcV (sl S) v S') .bad
  | .exn e S' => gate (GcOk S S') (bite (belows (sl S) (e.fs.map (·.2))) (.exn e (cut (sl S) S')) .bad) .bad
  | .bad => .bad
def killO (n : Nat) : Option Val → Option Val
  | none => none
  | some v => bite (below n v) (some v) none
def killL (n : Nat) (L : Loc) : Loc := L.map (killO n)
noncomputable def gcS (S : Store) (r : F) : F := match r with
  | .nx L S' => gate (GcOk S S') (.nx (killL (sl S) L) (cut (sl S) S')) .bad
  | .bk L S' => gate (GcOk S S') (.bk (killL (sl S) L) (cut (sl S) S')) .bad
  | .ct L S' => gate (GcOk S S') (.ct (killL (sl S) L) (cut (sl S) S')) .bad
  | r => r
noncomputable def fG (f : Fn) : Fn := fun vs S => gcR S (f vs S)
noncomputable def mG (e : ME) : ME := fun L S => gcR S (e L S)
noncomputable def sG (b : MS) : MS := fun L S => gcS S (b L S)
theorem fG_len {f : Fn} {np : Nat} (h : ∀ vs S, vs.length ≠ np → f vs S = .bad) : ∀ vs S, vs.length ≠ np → fG f vs S = .bad := fun vs S z => by
  unfold fG
  rw [h vs S z]
  rfl
section
variable {K : PySem.W.Frag} {mg : Str → Option Value} {W : WX} {ρ ρ' : Rho} {n m n' : Nat} {H : Hp} {S S' : Store}
mutual
theorem VR.low : ∀ {v : Val} {u : V}, VR K ρ n H v u → below n v = true
  | .non, _, _ => rfl
  | .bl _, _, _ => rfl
  | .int _, _, _ => rfl
  | .str _, _, _ => rfl
  | .fl _, _, _ => rfl
  | .ref i, u, h => by
    simp only [VR] at h
    simpa [below] using h.1
  | .tup vs, u, h => by
    simp only [VR] at h
    obtain ⟨a, xs, _, _, r⟩ := h
    show belows n vs = true
    exact VRs.low r
theorem VRs.low : ∀ {vs : List Val} {us : List V}, VRs K ρ n H vs us → belows n vs = true
  | [], _, _ => rfl
  | v :: vs, us, h => by
    simp only [VRs] at h
    obtain ⟨u, r, _, h1, h2⟩ := h
    show (below n v && belows n vs) = true
    rw [VR.low h1, VRs.low h2]
    rfl
end
mutual
theorem VR.lower (hr : ∀ i, i < n → ρ' i = ρ i) (hn : n ≤ n') : ∀ {v : Val} {u : V}, VR K ρ m H v u → below n v = true → VR K ρ' n' H v u
  | .non, _, h, _ => by simpa [VR] using h
  | .bl _, _, h, _ => by simpa [VR] using h
  | .int _, _, h, _ => by simpa [VR] using h
  | .str _, _, h, _ => by simpa [VR] using h
  | .fl _, _, h, _ => by simpa [VR] using h
  | .ref i, u, h, b => by
    simp only [VR] at h ⊢
    have b' : i < n := by simpa [below] using b
    exact ⟨Nat.lt_of_lt_of_le b' hn, by rw [hr i b']; exact h.2⟩
  | .tup vs, u, h, b => by
    simp only [VR] at h ⊢
    obtain ⟨a, xs, e, q, r⟩ := h
    exact ⟨a, xs, e, q, VRs.lower hr hn r b⟩
theorem VRs.lower (hr : ∀ i, i < n → ρ' i = ρ i) (hn : n ≤ n') : ∀ {vs : List Val} {us : List V}, VRs K ρ m H vs us → belows n vs = true → VRs K ρ' n' H vs us
  | [], _, h, _ => by simpa [VRs] using h
  | v :: vs, us, h, b => by
    simp only [VRs] at h ⊢
    obtain ⟨u, r, e, h1, h2⟩ := h
    have b' : (below n v && belows n vs) = true := b
    rw [Bool.and_eq_true] at b'
    exact ⟨u, r, e, VR.lower hr hn h1 b'.1, VRs.lower hr hn h2 b'.2⟩
end
theorem OR.low {a : Addr} {o : Ob} (h : OR K mg ρ n H a o) : obBelow n o = true := by
  cases o with
  | lst xs => obtain ⟨us, _, r⟩ := h; exact VRs.low r
  | dK kvs => obtain ⟨us, _, r⟩ := h; exact VRs.low r.2
  | dT kvs => obtain ⟨us, _, r⟩ := h; exact VRs.low r.2
  | fK kvs => obtain ⟨o', us, _, r⟩ := h; exact VRs.low r.2
  | fT kvs => obtain ⟨o', us, _, r⟩ := h; exact VRs.low r.2
  | ins c fs => obtain ⟨C, dx, us, _, _, r⟩ := h; exact VRs.low r.2
theorem OR.lower (hr : ∀ i, i < n → ρ' i = ρ i) (hn : n ≤ n') {a : Addr} {o : Ob} (h : OR K mg ρ m H a o) (b : obBelow n o = true) : OR K mg ρ' n' H a o := by
  cases o with
  | lst xs => obtain ⟨us, e, r⟩ := h; exact ⟨us, e, VRs.lower hr hn r b⟩
  | dK kvs => obtain ⟨us, e, r⟩ := h; exact ⟨us, e, r.1, VRs.lower hr hn r.2 b⟩
  | dT kvs => obtain ⟨us, e, r⟩ := h; exact ⟨us, e, r.1, VRs.lower hr hn r.2 b⟩
  | fK kvs => obtain ⟨o', us, e, r⟩ := h; exact ⟨o', us, e, r.1, VRs.lower hr hn r.2 b⟩
  | fT kvs => obtain ⟨o', us, e, r⟩ := h; exact ⟨o', us, e, r.1, VRs.lower hr hn r.2 b⟩
  | ins c fs => obtain ⟨C, dx, us, q, e, r⟩ := h; exact ⟨C, dx, us, q, e, r.1, VRs.lower hr hn r.2 b⟩
theorem cut_len (h : sl S ≤ sl S') : (cut (sl S) S').length = S.length := by
  unfold cut sl at *
  rw [List.length_take]
  omega
theorem cut_get {i : Nat} (h : i < sl S) : (cut (sl S) S')[i]? = S'[i]? := by
  unfold cut
  rw [List.getElem?_take]
  simp [h]
/-- the old objects alone -/
theorem SR.cut (s : SR K mg ρ S H) {H' : Hp} (s' : SR K mg ρ' S' H') (g : GcOk S S') : SR K mg ρ' (cut (sl S) S') H' where
  ob := fun i o q => by
    have hl := cut_len g.1
    have hi : i < sl S := by
      have := (List.getElem?_eq_some_iff.mp q).1
      rw [hl] at this
      exact this
    rw [cut_get hi] at q
    have z := s'.ob i o q
    rw [hl]
    refine OR.lower (fun _ _ => rfl) (Nat.le_refl _) z ?_
    rcases g.2 i hi with e | ⟨o', e, b⟩
    · have e' : S'[i]? = S[i]? := e
      rw [e'] at q
      exact (s.ob i o q).low
    · have e' : S'[i]? = some o' := e
      rw [e'] at q
      cases q
      exact b
  inj := fun i j hi hj z => by
    rw [cut_len g.1] at hi hj
    have hl : S.length ≤ S'.length := g.1
    exact s'.inj i j (by omega) (by omega) z
theorem Ext.cut {H' : Hp} (e : Ext ρ S H ρ' S' H') (g : GcOk S S') : Ext ρ S H ρ' (cut (sl S) S') H' where
  rho := e.rho
  le := by rw [cut_len g.1]; exact Nat.le_refl _
  fresh := fun i h1 h2 => by rw [cut_len g.1] at h2; omega
  frame := e.frame
  frz := e.frz
theorem Post.gc {σ : L2.St} {r : R Val} {Q : VK} (s : SR K mg ρ S H) (h : Post K mg (relV K) W ρ S H σ (gcR S r) Q) : Post K mg (relV K) W ρ S H σ r Q := by
  cases r with
  | bad => exact h
  | exn x S' =>
    intro ρ' H' c d e s' q
    have h : Post K mg (relV K) W ρ S H σ (gate (GcOk S S') (bite (belows (sl S) (x.fs.map (·.2))) (R.exn x (Mp.cut (sl S) S')) .bad) .bad) Q := h
    by_cases g : GcOk S S'
    · rw [gate_pos g] at h
      cases hb : belows (sl S) (x.fs.map (·.2)) with
      | false => rw [hb] at h; exact h.elim
      | true =>
        rw [hb] at h
        refine h ρ' H' c d (e.cut g) (s.cut s' g) ⟨q.1, fun z => ?_⟩
        obtain ⟨dd, us, e1, e2, e3⟩ := q.2 z
        rw [cut_len g.1]
        exact ⟨dd, us, e1, e2, e3.1, VRs.lower (n := sl S) (fun _ _ => rfl) (Nat.le_refl _) e3.2 hb⟩
    · rw [gate_neg g] at h
      exact h.elim
  | ok v S' =>
    intro ρ' H' u e s' q
    have h : Post K mg (relV K) W ρ S H σ (gate (GcOk S S') (gcV (sl S) v S') .bad) Q := h
    by_cases g : GcOk S S'
    · rw [gate_pos g] at h
      unfold gcV at h
      cases hb : below (sl S) v with
      | true =>
        rw [hb] at h
        refine h ρ' H' u (e.cut g) (s.cut s' g) ?_
        show VR K ρ' (Mp.cut (sl S) S').length H' v u
        rw [cut_len g.1]
        exact VR.lower (n := sl S) (fun _ _ => rfl) (Nat.le_refl _) q hb
      | false =>
        rw [hb, bite_false] at h
        cases v with
        | ref k =>
          unfold gcM at h
          dsimp only at h
          cases ho : sg S' k with
          | none => rw [ho] at h; exact h.elim
          | some o =>
            rw [ho] at h
            dsimp only at h
            cases hb2 : obBelow (sl S) o with
            | false => rw [hb2] at h; exact h.elim
            | true =>
              rw [hb2, bite_true] at h
              have hk : sl S ≤ k := by
                have : ¬ k < sl S := by simpa [below] using hb
                omega
              have hk2 : k < S'.length := sg_lt ho
              have hl := cut_len g.1
              have hl2 : (sp (Mp.cut (sl S) S') o).length = S.length + 1 := by
                unfold sp
                rw [List.length_append, hl]
                rfl
              have hsl : sl S = S.length := rfl
              have ro : ∀ i, i < S.length → newRho ρ' S.length (ρ' k) i = ρ' i := fun i hi => newRho_ne (Nat.ne_of_lt hi)
              have q' : VR K ρ' S'.length H' (.ref k) u := q
              simp only [VR] at q'
              refine h (newRho ρ' S.length (ρ' k)) H' u ⟨fun i hi => (ro i hi).trans (e.rho i hi), by rw [hl2]; omega, fun i h1 h2 => ?_, e.frame, e.frz⟩ ⟨fun i o' qo => ?_, fun i j hi hj z => ?_⟩ ?_
              · rw [hl2] at h2
                have : i = S.length := by omega
                subst this
                rw [newRho_same]
                exact e.fresh k hk hk2
              · rw [hl2]
                by_cases hi : i < S.length
                · have qo' : (Mp.cut (sl S) S')[i]? = some o' := by
                    unfold sp at qo
                    rw [List.getElem?_append_left (by rw [hl]; exact hi)] at qo
                    exact qo
                  have z := (s.cut s' g).ob i o' qo'
                  rw [hl] at z
                  rw [ro i hi]
                  exact OR.lower ro (Nat.le_succ _) z z.low
                · have hi2 := (List.getElem?_eq_some_iff.mp qo).1
                  rw [hl2] at hi2
                  have : i = S.length := by omega
                  subst this
                  have : o' = o := by
                    unfold sp at qo
                    rw [List.getElem?_append_right (by rw [hl]; exact Nat.le_refl _), hl] at qo
                    simpa using qo.symm
                  subst this
                  rw [newRho_same]
                  exact OR.lower ro (Nat.le_succ _) (s'.ob k o' ho) hb2
              · rw [hl2] at hi hj
                have hle : S.length ≤ S'.length := g.1
                by_cases h1 : i = S.length
                · by_cases h2 : j = S.length
                  · rw [h1, h2]
                  · rw [h1, newRho_same, newRho_ne h2] at z
                    have := s'.inj k j hk2 (by omega) z
                    omega
                · by_cases h2 : j = S.length
                  · rw [h2, newRho_same, newRho_ne h1] at z
                    have := s'.inj i k (by omega) hk2 z
                    omega
                  · rw [newRho_ne h1, newRho_ne h2] at z
                    exact s'.inj i j (by omega) (by omega) z
              · show VR K (newRho ρ' S.length (ρ' k)) (sp (Mp.cut (sl S) S') o).length H' (.ref (sl S)) u
                simp only [VR]
                rw [hl2, hsl, newRho_same]
                exact ⟨Nat.lt_succ_self _, q'.2⟩
        | _ => exact h.elim
    · rw [gate_neg g] at h
      exact h.elim
theorem LR.kill {L : Loc} {σ : L2.St} (l : LR K ρ m H L σ) : LR K ρ n H (killL n L) σ := ⟨by unfold killL; rw [List.length_map]; exact l.1, fun i v q => by
  unfold killL at q
  rw [List.getElem?_map] at q
  cases hx : L[i]? with
  | none => rw [hx] at q; cases q
  | some x =>
    rw [hx] at q
    cases x with
    | none => cases q
    | some w =>
      simp only [Option.map_some, killO] at q
      cases hb : below n w with
      | false => rw [hb] at q; cases q
      | true =>
        rw [hb] at q
        cases q
        obtain ⟨u, e1, e2⟩ := l.2 i v hx
        exact ⟨u, e1, VR.lower (n := n) (fun _ _ => rfl) (Nat.le_refl _) e2 hb⟩⟩
theorem PostF.gc {r : F} {D : Ends} (s : SR K mg ρ S H) (h : PostF K mg W ρ S H (gcS S r) D) : PostF K mg W ρ S H r D := by
  cases r with
  | bad => exact h
  | exn x L S' => exact h
  | rt v S' => exact h
  | nx L S' =>
    have h : PostF K mg W ρ S H (gate (GcOk S S') (F.nx (killL (sl S) L) (Mp.cut (sl S) S')) .bad) D := h
    by_cases g : GcOk S S'
    · rw [gate_pos g] at h
      exact fun ρ' H' σ' e s' l => h ρ' H' σ' (e.cut g) (s.cut s' g) (by rw [cut_len g.1]; exact l.kill)
    · rw [gate_neg g] at h
      exact h.elim
  | bk L S' =>
    have h : PostF K mg W ρ S H (gate (GcOk S S') (F.bk (killL (sl S) L) (Mp.cut (sl S) S')) .bad) D := h
    by_cases g : GcOk S S'
    · rw [gate_pos g] at h
      exact fun ρ' H' σ' e s' l => h ρ' H' σ' (e.cut g) (s.cut s' g) (by rw [cut_len g.1]; exact l.kill)
    · rw [gate_neg g] at h
      exact h.elim
  | ct L S' =>
    have h : PostF K mg W ρ S H (gate (GcOk S S') (F.ct (killL (sl S) L) (Mp.cut (sl S) S')) .bad) D := h
    by_cases g : GcOk S S'
    · rw [gate_pos g] at h
      exact fun ρ' H' σ' e s' l => h ρ' H' σ' (e.cut g) (s.cut s' g) (by rw [cut_len g.1]; exact l.kill)
    · rw [gate_neg g] at h
      exact h.elim
end
section
variable {X : Cx} {W : WX} {e : Expr} {m : ME} {b : MS} {ss : List Stmt}
theorem e_G (h : PEm X W e m) : PEm X W e (mG m) := PE.imp h fun σ H Q ⟨ρ, S, L, s, l, h⟩ => ⟨ρ, S, L, s, l, h.gc s⟩
theorem s_G (h : PSsm X W ss b) : PSsm X W ss (sG b) := PSs.imp h fun D σ H ⟨ρ, S, L, s, l, h⟩ => ⟨ρ, S, L, s, l, h.gc s⟩
theorem fn_G {P : Program} {w : World} {K : PySem.W.Frag} {mg : Str → Option Value} {base : Heap} {CX : CXT} {k : Nat} {fa : Addr} {fd : FuncData} {ps : List Str} {np : Nat} {f : Fn} (F : FnOk P w K mg base CX k fa fd ps (spM K mg np f)) :
    FnOk P w K mg base CX k fa fd ps (spM K mg np (fG f)) := F.imp fun vs H Q E ⟨ρ, S, xs, hl, s, v, h⟩ => ⟨ρ, S, xs, hl, s, v, h.gc s⟩
end
/-! ### for simp -/
section
variable {S S' : Store} {n i k : Nat} {o : Ob}
section
variable {n : Nat}
@[simp] theorem below_non : below n .non = true := by unfold below; rfl
@[simp] theorem below_bl (b : Bool) : below n (.bl b) = true := by unfold below; rfl
@[simp] theorem below_int (b : Int) : below n (.int b) = true := by unfold below; rfl
@[simp] theorem below_str (b : Str) : below n (.str b) = true := by unfold below; rfl
@[simp] theorem below_fl (b : List Int) : below n (.fl b) = true := by unfold below; rfl
@[simp] theorem below_ref (i : Nat) : below n (.ref i) = decide (i < n) := by unfold below; rfl
@[simp] theorem below_tup (vs : List Val) : below n (.tup vs) = belows n vs := by conv => lhs; unfold below
@[simp] theorem belows_nil : belows n [] = true := by unfold belows; rfl
@[simp] theorem belows_cons (v : Val) (vs : List Val) : belows n (v :: vs) = (below n v && belows n vs) := by conv => lhs; unfold belows
@[simp] theorem obBelow_lst (vs : List Val) : obBelow n (.lst vs) = belows n vs := by unfold obBelow; rfl
@[simp] theorem obBelow_dK (kvs : List (Key × Val)) : obBelow n (.dK kvs) = belows n (kvs.map (·.2)) := by unfold obBelow; rfl
@[simp] theorem obBelow_dT (kvs : List (List Key × Val)) : obBelow n (.dT kvs) = belows n (kvs.map (·.2)) := by unfold obBelow; rfl
@[simp] theorem obBelow_ins (c : Str) (fs : List (Str × Val)) : obBelow n (.ins c fs) = belows n (fs.map (·.2)) := by unfold obBelow; rfl
end
@[simp] theorem lt_add_self : decide (n + k < n) = false := by simp
theorem below_le {m : Nat} (h : n ≤ m) : ∀ (v : Val), below n v = true → below m v = true
  | .non, _ => by simp
  | .bl _, _ => by simp
  | .int _, _ => by simp
  | .str _, _ => by simp
  | .fl _, _ => by simp
  | .ref i, q => by simp at q ⊢; omega
  | .tup vs, q => by
    rw [below_tup] at q ⊢
    exact belows_le h vs q
where belows_le {m : Nat} (h : n ≤ m) : ∀ (vs : List Val), belows n vs = true → belows m vs = true
  | [], _ => by simp
  | v :: vs, q => by
    rw [belows_cons, Bool.and_eq_true] at q ⊢
    exact ⟨below_le h v q.1, belows_le h vs q.2⟩
theorem belows_all (vs : List Val) : belows n vs = vs.all (below n) := by
  induction vs with
  | nil => rfl
  | cons v r ih => show (below n v && belows n r) = _; rw [ih]; rfl
theorem belows_map {α : Type} (f : α → Val) (l : List α) (h : ∀ a, a ∈ l → below n (f a) = true) : belows n (l.map f) = true := by
  rw [belows_all, List.all_map]
  exact List.all_eq_true.mpr h
@[simp] theorem belows_mapS {α : Type} (f : α → Val) (l : List α) (h : ∀ a, below n (f a) = true) : belows n (l.map f) = true := belows_map f l fun a _ => h a
@[simp] theorem belows_ints (l : List Int) : belows n (l.map Val.int) = true := belows_map _ _ fun _ _ => rfl
@[simp] theorem belows_append (a b : List Val) : belows n (a ++ b) = (belows n a && belows n b) := by rw [belows_all, belows_all, belows_all, List.all_append]
theorem belows_sub {a b : List Val} (h : belows n b = true) (s : ∀ x, x ∈ a → x ∈ b) : belows n a = true := by
  rw [belows_all, List.all_eq_true] at h ⊢
  exact fun x hx => h x (s x hx)
@[simp] theorem belows_take {vs : List Val} (h : belows n vs = true) : belows n (vs.take k) = true := belows_sub h fun _ hx => List.mem_of_mem_take hx
@[simp] theorem belows_drop {vs : List Val} (h : belows n vs = true) : belows n (vs.drop k) = true := belows_sub h fun _ hx => List.mem_of_mem_drop hx
@[simp] theorem belows_rev {vs : List Val} (h : belows n vs = true) : belows n vs.reverse = true := belows_sub h fun _ hx => List.mem_reverse.mp hx
@[simp] theorem belows_set {vs : List Val} {v : Val} (h : belows n vs = true) (hv : below n v = true) : belows n (vs.set k v) = true := by
  rw [belows_all, List.all_eq_true] at h ⊢
  intro x hx
  rcases List.mem_or_eq_of_mem_set hx with q | q
  · exact h x q
  · rw [q]; exact hv
@[simp] theorem belows_rep {v : Val} (hv : below n v = true) : belows n (List.replicate k v) = true := by
  rw [belows_all, List.all_eq_true]
  intro x hx
  rw [List.eq_of_mem_replicate hx]
  exact hv
@[simp] theorem gcOk_refl : GcOk S S := ⟨Nat.le_refl _, fun _ _ => .inl rfl⟩
@[simp] theorem gcOk_sp (h : GcOk S S') : GcOk S (sp S' o) := ⟨by have := h.1; simp; omega, fun i hi => by rw [sg_sp_lt (Nat.lt_of_lt_of_le hi h.1)]; exact h.2 i hi⟩
@[simp] theorem gcOk_ss (h : GcOk S S') (b : obBelow (sl S) o = true) : GcOk S (ss S' i o) := ⟨by rw [sl_ss]; exact h.1, fun j hj => by
  by_cases e : j = i
  · subst e
    right
    refine ⟨o, sg_ss_same ?_, b⟩
    have : j < S'.length := Nat.lt_of_lt_of_le hj h.1
    unfold sg
    simp [this]
  · rw [sg_ss_ne e]; exact h.2 j hj⟩
@[simp] theorem gcOk_ss_new (h : GcOk S S') (b : sl S ≤ i) : GcOk S (ss S' i o) := ⟨by rw [sl_ss]; exact h.1, fun j hj => by rw [sg_ss_ne (by omega)]; exact h.2 j hj⟩
@[simp] theorem gcOk_sp_sp {u : Ob} (b : obBelow (sl S + 1) o = true) : GcOk (sp S u) (sp S o) := ⟨by simp, fun i hi => by
  rw [sl_sp] at hi
  by_cases e : i = sl S
  · subst e
    exact .inr ⟨o, sg_sp_new, by rw [sl_sp]; exact b⟩
  · exact .inl (by rw [sg_sp_lt (by omega), sg_sp_lt (by omega)])⟩
def obIn (o : Option Ob) (n : Nat) : Bool := match o with
  | some o => obBelow n o
  | none => false
@[simp] theorem obIn_some (o : Ob) : obIn (some o) n = obBelow n o := by unfold obIn; rfl
@[simp] theorem gcOk_base {u : Ob} (h : GcOk S S') (b : obIn (sg S' i) (sl S) = true) : GcOk (ss S i u) S' := ⟨by rw [sl_ss]; exact h.1, fun j hj => by
  rw [sl_ss] at hj ⊢
  by_cases e : j = i
  · subst e
    cases q : sg S' j with
    | none => rw [q] at b; cases b
    | some o => rw [q] at b; exact .inr ⟨o, rfl, b⟩
  · rw [sg_ss_ne e]; exact h.2 j hj⟩
theorem gcOk_grow (g : Grow S S') : GcOk S S' := ⟨g.1, fun i hi => .inl (g.2 i hi)⟩
@[simp] theorem cut_self : cut (sl S) S = S := List.take_length
@[simp] theorem cut_ge (h : sl S ≤ n) : cut n S = S := List.take_of_length_le h
@[simp] theorem cut_sp (h : n ≤ sl S') : cut n (sp S' o) = cut n S' := List.take_append_of_le_length h
@[simp] theorem cut_ss (h : i < n) : cut n (ss S' i o) = ss (cut n S') i o := List.take_set
@[simp] theorem cut_ss_new (h : n ≤ i) : cut n (ss S' i o) = cut n S' := by
  unfold cut ss
  rw [List.take_set, List.set_eq_of_length_le]
  rw [List.length_take]
  omega
theorem cut_grow (g : Grow S S') : cut (sl S) S' = S := by
  apply List.ext_getElem?
  intro i
  by_cases hi : i < sl S
  · rw [cut_get hi]; exact g.2 i hi
  · have h1 : (cut (sl S) S').length ≤ i := by rw [cut_len g.1]; unfold sl at hi; omega
    have h2 : S.length ≤ i := by unfold sl at hi; omega
    rw [List.getElem?_eq_none h1, List.getElem?_eq_none h2]
@[simp] theorem gcR_ok (v : Val) : gcR S (.ok v S') = gate (GcOk S S') (gcV (sl S) v S') .bad := rfl
@[simp] theorem gcR_exn (e : Ex) : gcR S (.exn e S') = gate (GcOk S S') (bite (belows (sl S) (e.fs.map (·.2))) (.exn e (cut (sl S) S')) .bad) .bad := rfl
@[simp] theorem gcR_bad : gcR S .bad = .bad := rfl
@[simp] theorem gate_simp {p : Prop} {α : Type} {x y : α} (h : p) : gate p x y = x := gate_pos h
@[simp] theorem gcV_low {v : Val} (h : below n v = true) : gcV n v S' = .ok v (cut n S') := by unfold gcV; rw [h]; rfl
def gcMR (o : Option Ob) (n : Nat) (S' : Store) : R Val := match o with
  | some o => bite (obBelow n o) (.ok (.ref n) (sp (cut n S') o)) .bad
  | none => .bad
@[simp] theorem gcMR_some (o : Ob) : gcMR (some o) n S' = bite (obBelow n o) (.ok (.ref n) (sp (cut n S') o)) .bad := rfl
@[simp] theorem gcV_ref (h : n ≤ k) : gcV n (.ref k) S' = gcMR (sg S' k) n S' := by
  unfold gcV
  have : below n (.ref k) = false := by simp [below]; omega
  rw [this]
  rfl
@[simp] theorem fG_app (f : Fn) (vs : List Val) : fG f vs S = gcR S (f vs S) := rfl
@[simp] theorem mG_app (e : ME) (L : Loc) : mG e L S = gcR S (e L S) := rfl
@[simp] theorem sG_app (b : MS) (L : Loc) : sG b L S = gcS S (b L S) := rfl
@[simp] theorem gcS_nx (L : Loc) : gcS S (.nx L S') = gate (GcOk S S') (.nx (killL (sl S) L) (cut (sl S) S')) .bad := rfl
@[simp] theorem gcS_bk (L : Loc) : gcS S (.bk L S') = gate (GcOk S S') (.bk (killL (sl S) L) (cut (sl S) S')) .bad := rfl
@[simp] theorem gcS_ct (L : Loc) : gcS S (.ct L S') = gate (GcOk S S') (.ct (killL (sl S) L) (cut (sl S) S')) .bad := rfl
@[simp] theorem gcS_rt (v : Val) : gcS S (.rt v S') = .rt v S' := rfl
@[simp] theorem gcS_exn (e : Ex) (L : Loc) : gcS S (.exn e L S') = .exn e L S' := rfl
@[simp] theorem gcS_bad : gcS S .bad = .bad := rfl
@[simp] theorem killL_nil : killL n [] = [] := rfl
@[simp] theorem killL_cons (x : Option Val) (L : Loc) : killL n (x :: L) = killO n x :: killL n L := rfl
@[simp] theorem killO_none : killO n none = none := rfl
@[simp] theorem killO_some (v : Val) : killO n (some v) = bite (below n v) (some v) none := rfl
/-- a term whose end is known to grow alone, and tells no object of its own -/
theorem gcR_grow {r : R Val} {v : Val} (h : ∃ S', r = .ok v S' ∧ Grow S S') (b : below (sl S) v = true) : gcR S r = .ok v S := by
  obtain ⟨S', rfl, g⟩ := h
  rw [gcR_ok, gate_pos (gcOk_grow g), gcV_low b, cut_grow g]
end
end Mp

/-! Mp14: loops over drawn-up lists, as folds; names let go of. -/
namespace Mp
open PySem PySem.Spec L2
def kF (ks : List Nat) (r : F) : F := match r with
  | .nx L S => .nx (wipeL L ks) S
  | .bk L S => .bk (wipeL L ks) S
  | .ct L S => .ct (wipeL L ks) S
  | r => r
/-- behind the suite, these names are let go of -/
def sK (ks : List Nat) (b : MS) : MS := fun L S => kF ks (b L S)
theorem wipeL_len (L : Loc) : ∀ ks : List Nat, (wipeL L ks).length = L.length
  | [] => rfl
  | k :: r => by
    show ((wipeL L r).set k none).length = _
    rw [List.length_set, wipeL_len L r]
theorem wipeL_some (L : Loc) : ∀ (ks : List Nat) (i : Nat) (v : Val), (wipeL L ks)[i]? = some (some v) → L[i]? = some (some v)
  | [], _, _, h => h
  | k :: r, i, v, h => by
    have h : ((wipeL L r).set k none)[i]? = some (some v) := h
    rw [List.getElem?_set] at h
    split at h
    · split at h <;> cases h
    · exact wipeL_some L r i v h
section
variable {K : PySem.W.Frag} {mg : Str → Option Value} {W : WX} {ρ : Rho} {n : Nat} {H : Hp} {S : Store}
theorem LR.kills {L : Loc} {σ : L2.St} {ks : List Nat} (l : LR K ρ n H L σ) : LR K ρ n H (wipeL L ks) σ := ⟨(wipeL_len L ks).trans l.1, fun i v q => l.2 i v (wipeL_some L ks i v q)⟩
theorem PostF.kill {r : F} {D : Ends} {ks : List Nat} (h : PostF K mg W ρ S H (kF ks r) D) : PostF K mg W ρ S H r D := by
  cases r with
  | nx L S' => exact fun ρ' H' σ' e s' l => h ρ' H' σ' e s' l.kills
  | bk L S' => exact fun ρ' H' σ' e s' l => h ρ' H' σ' e s' l.kills
  | ct L S' => exact fun ρ' H' σ' e s' l => h ρ' H' σ' e s' l.kills
  | _ => exact h
end
theorem s_K {X : Cx} {W : WX} {b : MS} {ss : List Stmt} {ks : List Nat} (h : PSsm X W ss b) : PSsm X W ss (sK ks b) := PSs.imp h fun D σ H ⟨ρ, S, L, s, l, h⟩ => ⟨ρ, S, L, s, l, h.kill⟩
section
variable {S : Store} {L : Loc}
@[simp] theorem sK_app (ks : List Nat) (b : MS) : sK ks b L S = kF ks (b L S) := rfl
@[simp] theorem kF_nx (ks : List Nat) : kF ks (.nx L S) = .nx (wipeL L ks) S := rfl
@[simp] theorem kF_bk (ks : List Nat) : kF ks (.bk L S) = .bk (wipeL L ks) S := rfl
@[simp] theorem kF_ct (ks : List Nat) : kF ks (.ct L S) = .ct (wipeL L ks) S := rfl
@[simp] theorem kF_rt (ks : List Nat) (v : Val) : kF ks (.rt v S) = .rt v S := rfl
@[simp] theorem kF_exn (ks : List Nat) (e : Ex) : kF ks (.exn e L S) = .exn e L S := rfl
@[simp] theorem kF_bad (ks : List Nat) : kF ks .bad = .bad := rfl
@[simp] theorem wipeL_nil : wipeL L [] = L := rfl
@[simp] theorem wipeL_cons (k : Nat) (r : List Nat) : wipeL L (k :: r) = (wipeL L r).set k none := rfl
end
/-! ### comprehensions -/
section
variable {α : Type} {keep : Store → Prop} {L : Loc} {g : MG} {c : MT} {e : ME} {S : Store}
/-- what one item comes to -/
def lcOne (L : Loc) (g : MG) (c : MT) (e : ME) (x : Val) (S : Store) : R (Option Val) := (noExn (g x L S)).bind fun L1 S1 => (noExn (c L1 S1)).bind fun t S2 => bite t ((noExn (e L1 S2)).bind fun v S3 => .ok (some v) S3) (.ok none S2)
theorem lcLoop_cons (x : Val) (xs acc : List Val) (S : Store) : lcLoop keep L g c e (x :: xs) acc S = gate (keep S) ((lcOne L g c e x S).bind fun o S1 => match o with
    | some v => bite (decide (acc.length < LIM)) (lcLoop keep L g c e xs (acc ++ [v]) S1) .bad
    | none => lcLoop keep L g c e xs acc S1) .bad := by
  conv => lhs; unfold lcLoop
  unfold lcOne
  congr 1
  cases noExn (g x L S) with
  | ok L1 S1 =>
    rw [R.bind_ok, R.bind_ok]
    cases noExn (c L1 S1) with
    | ok t S2 =>
      rw [R.bind_ok, R.bind_ok]
      cases t with
      | true =>
        rw [bite_true, bite_true]
        cases noExn (e L1 S2) <;> rfl
      | false => rfl
    | _ => rfl
  | _ => rfl
/-- each item comes to what f tells, nothing else being changed -/
theorem lc_fm (rep : α → Val) (f : α → Option Val) (l : List α) (hk : keep S) (hz : l.length < LIM) (h : ∀ a, a ∈ l → lcOne L g c e (rep a) S = .ok (f a) S) : lcLoop keep L g c e (l.map rep) [] S = .ok (l.filterMap f) S := by
  have key : ∀ (l : List α) (acc : List Val), acc.length + l.length < LIM → (∀ a, a ∈ l → lcOne L g c e (rep a) S = .ok (f a) S) → lcLoop keep L g c e (l.map rep) acc S = .ok (acc ++ l.filterMap f) S := by
    intro l
    induction l with
    | nil => intro acc _ _; rw [List.map_nil]; unfold lcLoop; rw [gate_pos hk]; simp
    | cons a r ih =>
      intro acc hz h
      rw [List.length_cons] at hz
      rw [List.map_cons, lcLoop_cons, gate_pos hk, h a (by simp), R.bind_ok]
      have hr := fun b hb => h b (List.mem_cons_of_mem _ hb)
      cases hf : f a with
      | none =>
        dsimp only
        rw [ih acc (by omega) hr, List.filterMap_cons_none hf]
      | some v =>
        dsimp only
        rw [bite_pos (decide_eq_true (by omega)), ih (acc ++ [v]) (by rw [List.length_append]; simp only [List.length_cons, List.length_nil]; omega) hr, List.filterMap_cons_some hf]
        simp
  have := key l [] (by simpa using hz) h
  simpa using this
theorem lc_map (rep : α → Val) (f : α → Val) (l : List α) (hk : keep S) (hz : l.length < LIM) (h : ∀ a, a ∈ l → lcOne L g c e (rep a) S = .ok (some (f a)) S) : lcLoop keep L g c e (l.map rep) [] S = .ok (l.map f) S := by
  rw [lc_fm rep (fun a => some (f a)) l hk hz h]
  congr 1
  induction l with
  | nil => rfl
  | cons a r ih => simp
theorem lc_if (rep : α → Val) (p : α → Bool) (f : α → Val) (l : List α) (hk : keep S) (hz : l.length < LIM) (h : ∀ a, a ∈ l → lcOne L g c e (rep a) S = .ok (bif p a then some (f a) else none) S) : lcLoop keep L g c e (l.map rep) [] S = .ok ((l.filter p).map f) S := by
  rw [lc_fm rep _ l hk hz h]
  congr 1
  clear h hz
  induction l with
  | nil => rfl
  | cons a r ih =>
    cases hp : p a with
    | true => rw [List.filterMap_cons_some (by rw [hp]; rfl), ih, List.filter_cons_of_pos hp]; rfl
    | false => rw [List.filterMap_cons_none (by rw [hp]; rfl), ih, List.filter_cons_of_neg (by simp [hp])]
theorem lc_map' {xs : List Val} (rep : α → Val) (f : α → Val) (l : List α) (hx : xs = l.map rep) (hk : keep S) (hz : l.length < LIM) (h : ∀ a, a ∈ l → lcOne L g c e (rep a) S = .ok (some (f a)) S) : lcLoop keep L g c e xs [] S = .ok (l.map f) S := by
  rw [hx]; exact lc_map rep f l hk hz h
theorem lc_if' {xs : List Val} (rep : α → Val) (p : α → Bool) (f : α → Val) (l : List α) (hx : xs = l.map rep) (hk : keep S) (hz : l.length < LIM) (h : ∀ a, a ∈ l → lcOne L g c e (rep a) S = .ok (bif p a then some (f a) else none) S) : lcLoop keep L g c e xs [] S = .ok ((l.filter p).map f) S := by
  rw [hx]; exact lc_if rep p f l hk hz h
/-- the items as they are -/
theorem lc_vals {xs : List Val} (f : Val → Val) (hk : keep S) (hz : xs.length < LIM) (h : ∀ a, a ∈ xs → lcOne L g c e a S = .ok (some (f a)) S) : lcLoop keep L g c e xs [] S = .ok (xs.map f) S :=
  lc_map' id f xs (by simp) hk hz h
@[simp] theorem lcOne_app (x : Val) : lcOne L g c e x S = (noExn (g x L S)).bind fun L1 S1 => (noExn (c L1 S1)).bind fun t S2 => bite t ((noExn (e L1 S2)).bind fun v S3 => .ok (some v) S3) (.ok none S2) := rfl
end
/-! ### for -/
def loopF {α σ τ : Type} (step : σ → α → σ ⊕ τ) : σ → List α → σ ⊕ τ
  | s, [] => .inl s
  | s, a :: r => match step s a with
    | .inl s' => loopF step s' r
    | .inr x => .inr x
/-- a turn: the item set, then the suite -/
def forOne (g : MG) (b : MS) (x : Val) (L : Loc) (S : Store) : F := thenF L (noExn (g x L S)) fun L1 S1 => b L1 S1
def endOf {σ : Type} (L : σ → Loc) (T : σ → Store) : σ ⊕ (Val × Store) → F
  | .inl s => .nx (L s) (T s)
  | .inr x => .rt x.1 x.2
section
variable {α σ : Type} {keep : Store → Prop} {g : MG} {b : MS}
theorem forLoop_cons (x : Val) (xs : List Val) (L : Loc) (S : Store) : forLoop keep g b (x :: xs) L S = gate (keep S) (turn (forOne g b x L S) (forLoop keep g b xs)) .bad := by
  conv => lhs; unfold forLoop
  rfl
theorem forLoop_nil (L : Loc) (S : Store) : forLoop keep g b [] L S = gate (keep S) (.nx L S) .bad := by
  unfold forLoop; rfl
theorem for_loop (rep : α → Val) (L : σ → Loc) (T : σ → Store) (P : σ → Prop) (step : σ → α → σ ⊕ (Val × Store)) (l : List α) (s : σ) (h0 : P s) (hk : ∀ s, P s → keep (T s))
    (h : ∀ s a, a ∈ l → P s → (forOne g b (rep a) (L s) (T s) = endOf L T (step s a) ∨ ∃ s', step s a = .inl s' ∧ forOne g b (rep a) (L s) (T s) = .ct (L s') (T s')) ∧ ∀ s', step s a = .inl s' → P s') :
    forLoop keep g b (l.map rep) (L s) (T s) = endOf L T (loopF step s l) ∧ ∀ s', loopF step s l = .inl s' → P s' := by
  induction l generalizing s with
  | nil =>
    rw [List.map_nil, forLoop_nil, gate_pos (hk s h0)]
    exact ⟨rfl, fun s' e => by cases e; exact h0⟩
  | cons a r ih =>
    rw [List.map_cons, forLoop_cons, gate_pos (hk s h0)]
    obtain ⟨h1, h2⟩ := h s a (by simp) h0
    have hr : ∀ s a, a ∈ r → P s → _ := fun s a ha => h s a (List.mem_cons_of_mem _ ha)
    unfold loopF
    cases hs : step s a with
    | inl s' =>
      dsimp only
      have := ih s' (h2 s' hs) hr
      rcases h1 with h1 | ⟨s'', e, h1⟩
      · rw [h1, hs]
        exact this
      · rw [hs] at e
        cases e
        rw [h1]
        exact this
    | inr x =>
      dsimp only
      rcases h1 with h1 | ⟨s'', e, h1⟩
      · rw [h1, hs]
        exact ⟨rfl, fun s' e => by cases e⟩
      · rw [hs] at e; cases e
/-- a loop that is not left -/
theorem for_fold (rep : α → Val) (L : σ → Loc) (T : σ → Store) (P : σ → Prop) (step : σ → α → σ) (l : List α) (s : σ) (h0 : P s) (hk : ∀ s, P s → keep (T s))
    (h : ∀ s a, a ∈ l → P s → (forOne g b (rep a) (L s) (T s) = .nx (L (step s a)) (T (step s a)) ∨ forOne g b (rep a) (L s) (T s) = .ct (L (step s a)) (T (step s a))) ∧ P (step s a)) :
    forLoop keep g b (l.map rep) (L s) (T s) = .nx (L (l.foldl step s)) (T (l.foldl step s)) ∧ P (l.foldl step s) := by
  induction l generalizing s with
  | nil =>
    rw [List.map_nil, forLoop_nil, gate_pos (hk s h0)]
    exact ⟨rfl, h0⟩
  | cons a r ih =>
    rw [List.map_cons, forLoop_cons, gate_pos (hk s h0)]
    obtain ⟨h1, h2⟩ := h s a (by simp) h0
    have := ih (step s a) h2 fun s a ha => h s a (List.mem_cons_of_mem _ ha)
    rcases h1 with h1 | h1
    · rw [h1]; exact this
    · rw [h1]; exact this
@[simp] theorem forOne_app (x : Val) (L : Loc) (S : Store) : forOne g b x L S = thenF L (noExn (g x L S)) fun L1 S1 => b L1 S1 := rfl
end
/-- a while by a measure -/
theorem while_run {σ : Type} {c : MT} {b : MS} (L : σ → Loc) (T : σ → Store) (P : σ → Prop) (cond : σ → Bool) (step : σ → σ) (μ : σ → Nat) (n : Nat) (s : σ) (h0 : P s) (hn : μ s < n) (hc : ∀ s, P s → c (L s) (T s) = .ok (cond s) (T s))
    (h : ∀ s, P s → cond s = true → (b (L s) (T s) = .nx (L (step s)) (T (step s)) ∨ b (L s) (T s) = .ct (L (step s)) (T (step s))) ∧ P (step s) ∧ μ (step s) < μ s) : ∃ s', whileLoop c b n (L s) (T s) = .nx (L s') (T s') ∧ P s' ∧ cond s' = false := by
  induction n generalizing s with
  | zero => omega
  | succ n ih =>
    rw [whileLoop_step (by omega), hc s h0, thenF_ok]
    cases hs : cond s with
    | false => exact ⟨s, rfl, h0, hs⟩
    | true =>
      obtain ⟨h1, h2, h3⟩ := h s h0 hs
      rw [bite_true]
      have := ih (step s) h2 (by omega)
      rcases h1 with h1 | h1
      · rw [h1]; exact this
      · rw [h1]; exact this
theorem map_range (f : Nat → Val) (n : Nat) : (List.range n).map f = (List.range n).map f := rfl
theorem rangeL_map (lo : Int) (n : Nat) : rangeL lo n = (List.range n).map fun (i : Nat) => Val.int (lo + i) := rfl
end Mp

/-! Mp15: tests that leave nothing behind. -/
namespace Mp
open PySem PySem.Spec L2
noncomputable def gcB (S : Store) (r : R Bool) : R Bool := match r with
  | .ok b S' => gate (GcOk S S') (.ok b (cut (sl S) S')) .bad
  | .exn e S' => .exn e S'
  | .bad => .bad
noncomputable def tG (t : MT) : MT := fun L S => gcB S (t L S)
theorem Post.gcB {K : PySem.W.Frag} {mg : Str → Option Value} {W : WX} {ρ : Rho} {H : Hp} {S : Store} {σ : L2.St} {r : R Bool} {Q : Bool → Hp → Prop} (s : SR K mg ρ S H) (h : Post K mg relB W ρ S H σ (Mp.gcB S r) Q) : Post K mg relB W ρ S H σ r Q := by
  cases r with
  | bad => exact h
  | exn x S' => exact h
  | ok v S' =>
    intro ρ' H' u e s' q
    have h : Post K mg relB W ρ S H σ (gate (GcOk S S') (R.ok v (Mp.cut (sl S) S')) .bad) Q := h
    by_cases g : GcOk S S'
    · rw [gate_pos g] at h
      exact h ρ' H' u (e.cut g) (s.cut s' g) q
    · rw [gate_neg g] at h
      exact h.elim
theorem t_G {X : Cx} {W : WX} {e : Expr} {t : MT} (h : PTm X W e t) : PTm X W e (tG t) := PT.imp h fun σ H Q ⟨ρ, S, L, s, l, h⟩ => ⟨ρ, S, L, s, l, h.gcB s⟩
section
variable {S S' : Store}
@[simp] theorem tG_app (t : MT) (L : Loc) : tG t L S = gcB S (t L S) := rfl
@[simp] theorem gcB_ok (b : Bool) : gcB S (.ok b S') = gate (GcOk S S') (.ok b (cut (sl S) S')) .bad := rfl
@[simp] theorem gcB_exn (e : Ex) : gcB S (.exn e S') = .exn e S' := rfl
@[simp] theorem gcB_bad : gcB S .bad = .bad := rfl
end
end Mp

/-! Mp16: built-ins on lists that are drawn up. -/
namespace Mp
open PySem PySem.Spec L2
section
variable {α : Type} {S : Store}
def lstR (o : Option Ob) : Option (List Val) := match o with
  | some (.lst vs) => some vs
  | _ => none
@[simp] theorem lstR_lst (vs : List Val) : lstR (some (.lst vs)) = some vs := rfl
theorem lstO_R (a : Nat) : lstO (.ref a) S = lstR (sg S a) := by
  show _ = lstR S[a]?
  simp only [lstO]
  unfold lstR
  cases S[a]? with
  | none => rfl
  | some o => cases o <;> rfl
def blsR (o : Option (List Bool)) (S : Store) : R Val := match o with
  | some bs => .ok (.bl (bs.all id)) S
  | none => .bad
@[simp] theorem blsR_some (bs : List Bool) : blsR (some bs) S = .ok (.bl (bs.all id)) S := rfl
@[simp] theorem fAll_R (a : Nat) : fAll [.ref a] S = blsR ((lstR (sg S a)).bind blsO) S := by
  unfold fAll one
  dsimp only
  rw [lstO_R]
  cases (lstR (sg S a)).bind blsO <;> rfl
@[simp] theorem blsO_bl (f : α → Bool) (l : List α) : blsO (l.map fun x => Val.bl (f x)) = some (l.map f) := by
  induction l with
  | nil => rfl
  | cons b r ih => simp [blsO, ih]
@[simp] theorem blsO_nil : blsO [] = some [] := rfl
@[simp] theorem blsO_cons (b : Bool) (r : List Val) : blsO (.bl b :: r) = (blsO r).map (b :: ·) := by
  conv => lhs; unfold blsO
@[simp] theorem all_map_id (f : α → Bool) (l : List α) : (l.map f).all id = l.all f := by rw [List.all_map]; rfl
def intsR (o : Option (List Int)) (k : List Int → R Val) : Dep k (R Val) := match o with
  | some bs => k bs
  | none => .bad
@[simp] theorem intsR_some (bs : List Int) (k : List Int → R Val) : intsR (some bs) k = k bs := rfl
@[simp] theorem fSum_R (a : Nat) : fSum [.ref a] S = intsR ((lstR (sg S a)).bind intsO) fun bs => .ok (.int bs.sum) S := by
  unfold fSum one
  dsimp only
  rw [lstO_R]
  cases (lstR (sg S a)).bind intsO <;> rfl
@[simp] theorem intsO_int (f : α → Int) (l : List α) : intsO (l.map fun x => Val.int (f x)) = some (l.map f) := by
  induction l with
  | nil => rfl
  | cons b r ih => simp [intsO, ih]
@[simp] theorem intsO_int' (l : List Int) : intsO (l.map Val.int) = some l := intsO_map l
@[simp] theorem intsO_nil : intsO [] = some [] := rfl
@[simp] theorem intsO_cons (b : Int) (r : List Val) : intsO (.int b :: r) = (intsO r).map (b :: ·) := by
  conv => lhs; unfold intsO
@[simp] theorem intsO_appI (l : List Int) (r : List Val) : intsO (l.map Val.int ++ r) = (intsO r).map (l ++ ·) := by
  induction l with
  | nil => simp
  | cons b l ih => simp [intsO, ih, Function.comp_def]
@[simp] theorem inKR_ints (ns : List Int) (i : Int) (neg : Bool) : inKR (some (.lst (ns.map Val.int))) (.int i) neg S = .ok (.bl (if neg then !decide (i ∈ ns) else decide (i ∈ ns))) S := by
  have e := (pIn_ints (S := S) (i := i) (ns := ns)).1
  have e1 : (ns.map Val.int).mapM flatL = some (ns.map L2.V.int) := by
    clear e
    induction ns with
    | nil => rfl
    | cons a r ih => rw [List.map_cons, List.mapM_cons, ih]; rfl
  have e2 : L2.inV (.int i) (ns.map L2.V.int) = decide (i ∈ ns) := by
    have f : flatL (.int i) = some (.int i) := rfl
    have q : inF (.int i) (.tup (ns.map Val.int)) S = some (L2.inV (.int i) (ns.map L2.V.int)) := by
      simp only [inF, f, e1]
    unfold pIn at e
    rw [q] at e
    injection e with e _
    injection e with e
  unfold inKR
  have f : flatL (.int i) = some (.int i) := rfl
  simp only [f, e1, e2]
def maxR (o : Option Int) (S : Store) : R Val := match o with
  | some m => .ok (.int m) S
  | none => .bad
@[simp] theorem maxR_some (m : Int) : maxR (some m) S = .ok (.int m) S := rfl
theorem itemsO_ref (a : Nat) : itemsO (.ref a) S = itemsR (sg S a) := by
  show _ = itemsR S[a]?
  simp only [itemsO]
  unfold itemsR
  cases S[a]? with
  | none => rfl
  | some o => cases o <;> rfl
@[simp] theorem fMaxL_ref (a : Nat) : fMaxL [.ref a] S = maxR (((itemsR (sg S a)).bind intsO).bind maxL) S := by
  unfold fMaxL one
  dsimp only
  rw [itemsO_ref]
  cases ((itemsR (sg S a)).bind intsO).bind maxL <;> rfl
@[simp] theorem fMaxL_tup (vs : List Val) : fMaxL [.tup vs] S = maxR ((intsO vs).bind maxL) S := by
  unfold fMaxL one
  dsimp only
  show (match ((some vs).bind intsO).bind maxL with
    | some m => R.ok (Val.int m) S
    | none => .bad) = _
  simp only [Option.bind_some]
  cases (intsO vs).bind maxL <;> rfl
def dictR (o : Option (List (Key × Val))) (S : Store) : R Val := match o with
  | some kvs => .ok (.ref (sl S)) (sp S (.dK (mergeL kvs)))
  | none => .bad
@[simp] theorem dictR_some (kvs : List (Key × Val)) : dictR (some kvs) S = .ok (.ref (sl S)) (sp S (.dK (mergeL kvs))) := rfl
@[simp] theorem fDict_R (a : Nat) : fDict [.ref a] S = dictR ((lstR (sg S a)).bind kvsO) S := by
  unfold fDict one
  dsimp only
  rw [lstO_R]
  cases (lstR (sg S a)).bind kvsO <;> rfl
def revR (o : Option (List Val)) (S : Store) : R Val := match o with
  | some vs => newL vs.reverse S
  | none => .bad
@[simp] theorem revR_some (vs : List Val) : revR (some vs) S = newL vs.reverse S := rfl
@[simp] theorem pRev_ref (a : Nat) : pRev (.ref a) S = revR (lstR (sg S a)) S := by
  unfold pRev
  rw [lstO_R]
  cases lstR (sg S a) <;> rfl
@[simp] theorem wipeL_nil' (L : Loc) : wipeL L [] = L := rfl
def addR (o p : Option Ob) (S : Store) : R Val := match o, p with
  | some (.lst xs), some (.lst ys) => bite (decide (xs.length + ys.length ≤ LIM)) (newL (xs ++ ys) S) .bad
  | _, _ => .bad
@[simp] theorem addR_some (xs ys : List Val) : addR (some (.lst xs)) (some (.lst ys)) S = bite (decide (xs.length + ys.length ≤ LIM)) (newL (xs ++ ys) S) .bad := rfl
@[simp] theorem pAdd_ref (i j : Nat) : pAdd (.ref i) (.ref j) S = addR (sg S i) (sg S j) S := by
  show _ = addR S[i]? S[j]? S
  simp only [pAdd]
  unfold addR
  cases S[i]? with
  | none => rfl
  | some o =>
    cases o with
    | lst xs => cases S[j]? with
      | none => rfl
      | some p => cases p <;> rfl
    | _ => rfl
@[simp] theorem pAdd_tup (a b : List Val) : pAdd (.tup a) (.tup b) S = bite (decide (a.length + b.length ≤ LIM)) (.ok (.tup (a ++ b)) S) .bad := rfl
@[simp] theorem pAdd_str (a b : Str) : pAdd (.str a) (.str b) S = bite (decide (a.length + b.length ≤ LIM)) (.ok (.str (a ++ b)) S) .bad := rfl
@[simp] theorem pIsNot_non (v : Val) : pIsNot v .non S = .ok (.bl (match v with | .non => false | _ => true)) S := by
  unfold pIsNot isC
  cases v <;> rfl
@[simp] theorem pIsNot_bl (v : Val) (b : Bool) : pIsNot v (.bl b) S = .ok (.bl (match v with | .bl c => !decide (c = b) | _ => true)) S := by
  unfold pIsNot isC
  cases v <;> rfl
@[simp] theorem pIsT_tup (T : String) (vs : List Val) : pIsT T (.tup vs) S = .ok (.bl (subTy "tuple" T)) S := rfl
@[simp] theorem pIsT_int (T : String) (i : Int) : pIsT T (.int i) S = .ok (.bl (subTy "int" T)) S := rfl
@[simp] theorem pIsT_str (T : String) (i : Str) : pIsT T (.str i) S = .ok (.bl (subTy "str" T)) S := rfl
@[simp] theorem pIsT_bl (T : String) (i : Bool) : pIsT T (.bl i) S = .ok (.bl (subTy "bool" T)) S := rfl
@[simp] theorem pIsT_non (T : String) : pIsT T .non S = .ok (.bl (subTy "NoneType" T)) S := rfl
end
def d1R (o : Option Ob) (k : Int) (v : Val) (i : Nat) (S : Store) : R Val := match o with
  | some (.dK []) => .ok (.ref i) (ss S i (.dK [(.inl k, v)]))
  | _ => .bad
@[simp] theorem d1R_some (k : Int) (v : Val) (i : Nat) (S : Store) : d1R (some (.dK [])) k v i S = .ok (.ref i) (ss S i (.dK [(.inl k, v)])) := rfl
@[simp] theorem mD1_app (k : Int) (e : ME) (L : Loc) (S : Store) : mD1 k e L S = (e L (sp S (.dK []))).bind fun v S2 => d1R (sg S2 (sl S)) k v (sl S) S2 := by
  unfold mD1
  show (e L (sp S (.dK []))).bind _ = _
  congr 1
/-! ### ranges -/
section
variable {S : Store}
theorem rng_nat {k : Int} (m : Nat) (hk : k = (m : Int)) (hm : m < 1000000) : rngOf1 [.int k] S = .ok ⟨rangeL 0 m, fun _ => True⟩ S := by
  subst hk
  have hb : (-BIG ≤ (m : Int) ∧ (m : Int) < BIG) := ⟨Int.le_trans (by unfold BIG; decide) (Int.natCast_nonneg m), Int.lt_trans (Int.ofNat_lt.mpr hm) (by unfold BIG; decide)⟩
  rw [rngOf1_int, gate_pos hb]
  rfl
theorem rng_neg {k : Int} (hk : k ≤ 0) (hm : -1000000 < k) : rngOf1 [.int k] S = .ok ⟨[], fun _ => True⟩ S := by
  have hb : (-BIG ≤ k ∧ k < BIG) := ⟨Int.le_trans (by unfold BIG; decide) (Int.le_of_lt hm), Int.lt_of_le_of_lt hk (by unfold BIG; decide)⟩
  rw [rngOf1_int, gate_pos hb]
  have : k.toNat = 0 := by omega
  rw [this]
  rfl
@[simp] theorem rngOf1_gen {k : Int} (h0 : 0 ≤ k) (h1 : k < 1000000) : rngOf1 [.int k] S = .ok ⟨rangeL 0 k.toNat, fun _ => True⟩ S := rng_nat k.toNat (by omega) (by omega)
@[simp] theorem rngOf1_cast (n : Nat) (h : n < 1000000) : rngOf1 [.int (n : Int)] S = .ok ⟨rangeL 0 n, fun _ => True⟩ S := rng_nat n rfl h
@[simp] theorem rngOf1_succ (n : Nat) (h : n + 1 < 1000000) : rngOf1 [.int ((n : Int) + 1)] S = .ok ⟨rangeL 0 (n + 1), fun _ => True⟩ S := rng_nat (n + 1) (by omega) h
@[simp] theorem rngOf1_succ' (n : Nat) (h : n + 1 < 1000000) : rngOf1 [.int (1 + (n : Int))] S = .ok ⟨rangeL 0 (n + 1), fun _ => True⟩ S := rng_nat (n + 1) (by omega) h
theorem rng_two {i j : Int} (m : Nat) (hk : (j - i).toNat = m) (h1 : -1000000 < i) (h2 : i < 1000000) (h3 : -1000000 < j) (h4 : j < 1000000) : rngOf2 [.int i, .int j] S = .ok ⟨rangeL i m, fun _ => True⟩ S := by
  have hb : (-BIG ≤ i ∧ i < BIG ∧ -BIG ≤ j ∧ j < BIG) := ⟨Int.le_trans (by unfold BIG; decide) (Int.le_of_lt h1), Int.lt_trans h2 (by unfold BIG; decide), Int.le_trans (by unfold BIG; decide) (Int.le_of_lt h3), Int.lt_trans h4 (by unfold BIG; decide)⟩
  rw [rngOf2_int, gate_pos hb, hk]
theorem rangeL0 (n : Nat) : rangeL 0 n = (List.range n).map fun (i : Nat) => Val.int i := by
  unfold rangeL
  congr 1
  funext i
  rw [Int.zero_add]
end
/-! ### loops, as they are met -/
section
variable {α σ : Type} {keep : Store → Prop} {g : MG} {b : MS} {xs : List Val}
theorem for_fold' (rep : α → Val) (L : σ → Loc) (T : σ → Store) (P : σ → Prop) (step : σ → α → σ) (l : List α) (s : σ) {L0 : Loc} {S0 : Store} (hx : xs = l.map rep) (hL : L0 = L s) (hS : S0 = T s) (h0 : P s) (hk : ∀ s, P s → keep (T s))
    (h : ∀ s a, a ∈ l → P s → (forOne g b (rep a) (L s) (T s) = .nx (L (step s a)) (T (step s a)) ∨ forOne g b (rep a) (L s) (T s) = .ct (L (step s a)) (T (step s a))) ∧ P (step s a)) :
    forLoop keep g b xs L0 S0 = .nx (L (l.foldl step s)) (T (l.foldl step s)) := by
  rw [hx, hL, hS]; exact (for_fold rep L T P step l s h0 hk h).1
theorem for_loop' (rep : α → Val) (L : σ → Loc) (T : σ → Store) (P : σ → Prop) (step : σ → α → σ ⊕ (Val × Store)) (l : List α) (s : σ) {L0 : Loc} {S0 : Store} (hx : xs = l.map rep) (hL : L0 = L s) (hS : S0 = T s) (h0 : P s) (hk : ∀ s, P s → keep (T s))
    (h : ∀ s a, a ∈ l → P s → (forOne g b (rep a) (L s) (T s) = endOf L T (step s a) ∨ ∃ s', step s a = .inl s' ∧ forOne g b (rep a) (L s) (T s) = .ct (L s') (T s')) ∧ ∀ s', step s a = .inl s' → P s') :
    forLoop keep g b xs L0 S0 = endOf L T (loopF step s l) := by
  rw [hx, hL, hS]; exact (for_loop rep L T P step l s h0 hk h).1
/-- the same, the invariant told by the place -/
theorem for_foldI (rep : α → Val) (L : σ → Loc) (T : σ → Store) (P : Nat → σ → Prop) (step : σ → α → σ) (l : List α) (s : σ) {L0 : Loc} {S0 : Store} (hx : xs = l.map rep) (hL : L0 = L s) (hS : S0 = T s) (h0 : P 0 s) (hk : ∀ i s, P i s → keep (T s))
    (h : ∀ i s a, l[i]? = some a → P i s → (forOne g b (rep a) (L s) (T s) = .nx (L (step s a)) (T (step s a)) ∨ forOne g b (rep a) (L s) (T s) = .ct (L (step s a)) (T (step s a))) ∧ P (i + 1) (step s a)) :
    forLoop keep g b xs L0 S0 = .nx (L (l.foldl step s)) (T (l.foldl step s)) ∧ P l.length (l.foldl step s) := by
  subst hx hL hS
  have key : ∀ (r : List α) (i : Nat) (s : σ), l.drop i = r → P i s → forLoop keep g b (r.map rep) (L s) (T s) = .nx (L (r.foldl step s)) (T (r.foldl step s)) ∧ P (i + r.length) (r.foldl step s) := by
    intro r
    induction r with
    | nil => intro i s _ hP; rw [List.map_nil, forLoop_nil, gate_pos (hk i s hP)]; exact ⟨rfl, hP⟩
    | cons a r ih =>
      intro i s hd hP
      have ha : l[i]? = some a := by
        have : (l.drop i)[0]? = some a := by rw [hd]; rfl
        simpa using this
      have hd' : l.drop (i + 1) = r := by
        have := congrArg List.tail hd
        simpa using this
      obtain ⟨h1, h2⟩ := h i s a ha hP
      have q := ih (i + 1) (step s a) hd' h2
      rw [List.map_cons, forLoop_cons, gate_pos (hk i s hP)]
      have el : i + (a :: r).length = i + 1 + r.length := by simp; omega
      rw [el]
      rcases h1 with h1 | h1
      · rw [h1]; exact q
      · rw [h1]; exact q
  have := key l 0 s (by simp) h0
  rw [Nat.zero_add] at this
  exact this
theorem foldl_inv {step : σ → α → σ} {l : List α} {s : σ} (P : σ → Prop) (h0 : P s) (h : ∀ s a, a ∈ l → P s → P (step s a)) : P (l.foldl step s) := by
  induction l generalizing s with
  | nil => exact h0
  | cons a r ih => exact ih (h s a (by simp) h0) fun s a ha => h s a (List.mem_cons_of_mem _ ha)
end
@[simp] theorem fInt_bl (b : Bool) {S : Store} : fInt [.bl b] S = .ok (.int (if b then 1 else 0)) S := rfl
/-! ### equality of values without objects -/
mutual
def vD : Val → Option PyData
  | .non => some .none
  | .bl b => some (.bool b)
  | .int i => some (.int i)
  | .str x => some (.str x)
  | .tup vs => (vDs vs).map .tuple
  | .ref _ => none
  | .fl _ => none
def vDs : List Val → Option (List PyData)
  | [] => some []
  | v :: vs => (vD v).bind fun d => (vDs vs).map (d :: ·)
end
mutual
theorem toD_vD (S : Store) : ∀ (n : Nat) (v : Val) (d : PyData), vD v = some d → d.depth ≤ n → toD n S v = some d
  | n, .non, d, h, _ => by cases n <;> (simp [vD] at h; simp [toD, h])
  | n, .bl b, d, h, _ => by cases n <;> (simp [vD] at h; simp [toD, h])
  | n, .int b, d, h, _ => by cases n <;> (simp [vD] at h; simp [toD, h])
  | n, .str b, d, h, _ => by cases n <;> (simp [vD] at h; simp [toD, h])
  | n, .ref i, d, h, _ => by simp [vD] at h
  | n, .fl i, d, h, _ => by simp [vD] at h
  | 0, .tup vs, d, h, hd => by
    simp only [vD, Option.map_eq_some_iff] at h
    obtain ⟨ds, _, rfl⟩ := h
    simp only [PyData.depth] at hd
    omega
  | n + 1, .tup vs, d, h, hd => by
    simp only [vD, Option.map_eq_some_iff] at h
    obtain ⟨ds, h1, rfl⟩ := h
    simp only [PyData.depth] at hd
    simp only [toD]
    rw [toDs_vDs S n vs ds h1 (by omega)]
    rfl
theorem toDs_vDs (S : Store) : ∀ (n : Nat) (vs : List Val) (ds : List PyData), vDs vs = some ds → PyData.depthAll ds ≤ n → vs.mapM (toD n S) = some ds
  | n, [], ds, h, _ => by simp [vDs] at h; subst h; rfl
  | n, v :: vs, ds, h, hd => by
    simp only [vDs, Option.bind_eq_some_iff, Option.map_eq_some_iff] at h
    obtain ⟨d, h1, r, h2, rfl⟩ := h
    simp only [PyData.depthAll] at hd
    rw [List.mapM_cons, toD_vD S n v d h1 (by omega), toDs_vDs S n vs r h2 (by omega)]
    rfl
end
theorem pEq_vD {S : Store} {v w : Val} {d e : PyData} (h1 : vD v = some d) (h2 : vD w = some e) (s1 : SeqAt.shaped d = true) (s2 : SeqAt.shaped e = true) : pEq v w S = .ok (.bl (PyData.eqv d e)) S ∧ pNe v w S = .ok (.bl (!PyData.eqv d e)) S := by
  have a1 := toD_vD S DEEP v d h1 (by have := SeqAt.depth_of_shaped s1; unfold DEEP; omega)
  have a2 := toD_vD S DEEP w e h2 (by have := SeqAt.depth_of_shaped s2; unfold DEEP; omega)
  have : eqO v w S = some (PyData.eqv d e) := by
    unfold eqO
    rw [a1, a2]
    dsimp only
    rw [s1, s2]
    rfl
  unfold pEq pNe
  rw [this]
  exact ⟨rfl, rfl⟩
end Mp

/-! MpE: kinds of values that are told by a type; their equality. -/
namespace Mp
open PySem PySem.Spec L2
class Py (α : Type) where
  rep : α → Val
  dat : α → PyData
  dep : Nat
  dec : DecidableEq α
  ok : ∀ a, vD (rep a) = some (dat a)
  eqv : ∀ a b, PyData.eqv (dat a) (dat b) = @decide (a = b) (dec a b)
  lay : ∀ a, (dat a).canLay0 = true
  low : ∀ a, (dat a).depth ≤ dep
instance : Py Int where
  rep := .int
  dat := .int
  dep := 0
  dec := inferInstance
  ok _ := rfl
  eqv a b := by simp [PyData.eqv]; rfl
  lay _ := by simp [PyData.canLay0]
  low _ := by simp [PyData.depth]
instance : Py Bool where
  rep := .bl
  dat := .bool
  dep := 0
  dec := inferInstance
  ok _ := rfl
  eqv a b := by simp [PyData.eqv]; cases a <;> cases b <;> rfl
  lay _ := by simp [PyData.canLay0]
  low _ := by simp [PyData.depth]
/-- texts that can lie in the heap -/
def OkStr : Type := { x : Str // PyData.strOk x = true }
instance : DecidableEq OkStr := fun a b => decidable_of_iff (a.1 = b.1) Subtype.ext_iff.symm
instance : Py OkStr where
  rep x := .str x.1
  dat x := .str x.1
  dep := 0
  dec := inferInstance
  ok _ := rfl
  eqv a b := by
    have e : PyData.eqv (.str a.1) (.str b.1) = (a.1 == b.1) := by simp [PyData.eqv]
    rw [e]
    by_cases h : a.1 = b.1
    · have h2 : a = b := Subtype.ext h
      rw [beq_iff_eq.mpr h]
      exact (@decide_eq_true (a = b) _ h2).symm
    · have h2 : ¬ a = b := fun e => h (by rw [e])
      rw [beq_eq_false_iff_ne.mpr h]
      exact (@decide_eq_false (a = b) _ h2).symm
  lay x := by simp [PyData.canLay0, x.2]
  low _ := by simp [PyData.depth]
section
variable {α β : Type} [Py α] [Py β]
open Py
theorem vDs_map (l : List α) : vDs (l.map rep) = some (l.map dat) := by
  induction l with
  | nil => rfl
  | cons a r ih =>
    show ((vD (rep a)).bind fun d => (vDs (r.map rep)).map (d :: ·)) = _
    rw [ok, ih]
    rfl
theorem eqvAll_map [DecidableEq α] (l m : List α) : PyData.eqvAll (l.map dat) (m.map dat) = decide (l = m) := by
  induction l generalizing m with
  | nil => cases m with
    | nil => simp [PyData.eqvAll]
    | cons b s => simp [PyData.eqvAll]
  | cons a r ih =>
    cases m with
    | nil => simp [PyData.eqvAll]
    | cons b s =>
      rw [List.map_cons, List.map_cons]
      unfold PyData.eqvAll
      rw [eqv, ih]
      by_cases h : a = b
      · subst h
        by_cases h2 : r = s
        · subst h2; simp
        · simp [h2]
      · simp [h]
theorem layAll_map (l : List α) : PyData.canLayAll0 (l.map dat) = true := by
  induction l with
  | nil => simp [PyData.canLayAll0]
  | cons a r ih => simp [PyData.canLayAll0, lay, ih]
theorem depAll_map (l : List α) : PyData.depthAll (l.map dat) ≤ dep α := by
  induction l with
  | nil => simp [PyData.depthAll]
  | cons a r ih =>
    simp only [List.map_cons, PyData.depthAll]
    exact Nat.max_le.mpr ⟨low a, ih⟩
instance instPyList : Py (List α) where
  rep l := .tup (l.map rep)
  dat l := .tuple (l.map dat)
  dep := dep α + 1
  dec := @instDecidableEqList α dec
  ok l := by
    show (vDs (l.map rep)).map PyData.tuple = _
    rw [vDs_map]
    rfl
  eqv a b := by
    letI := dec (α := α)
    simp only [PyData.eqv]
    rw [eqvAll_map]
  lay l := by simp only [PyData.canLay0]; exact layAll_map l
  low l := by simp only [PyData.depth]; exact Nat.succ_le_succ (depAll_map l)
instance instPyProd : Py (α × β) where
  rep p := .tup [rep p.1, rep p.2]
  dat p := .tuple [dat p.1, dat p.2]
  dep := max (dep α) (dep β) + 1
  dec := @instDecidableEqProd α β dec dec
  ok p := by simp [vD, vDs, ok]
  eqv a b := by
    letI := dec (α := α)
    letI := dec (α := β)
    simp only [PyData.eqv, PyData.eqvAll, eqv]
    obtain ⟨a1, a2⟩ := a
    obtain ⟨b1, b2⟩ := b
    by_cases h1 : a1 = b1
    · by_cases h2 : a2 = b2
      · simp [h1, h2]
      · simp [h2]
    · simp [h1]
  lay p := by simp [PyData.canLay0, PyData.canLayAll0, lay]
  low p := by
    simp only [PyData.depth, PyData.depthAll]
    have h1 := low p.1
    have h2 := low p.2
    omega
theorem eq_py [DecidableEq α] (S : Store) (a b : α) (h : dep α ≤ 64) : pEq (rep a) (rep b) S = .ok (.bl (decide (a = b))) S ∧ pNe (rep a) (rep b) S = .ok (.bl (!decide (a = b))) S := by
  have s : ∀ a : α, SeqAt.shaped (dat a) = true := fun a => by
    unfold SeqAt.shaped
    rw [lay, decide_eq_true (Nat.le_trans (low a) h)]
    rfl
  have e := pEq_vD (S := S) (ok a) (ok b) (s a) (s b)
  rw [eqv] at e
  have : (@decide (a = b) (dec a b)) = decide (a = b) := by congr
  rw [this] at e
  exact e
end
@[simp] theorem strOk_ofString (x : String) : PyData.strOk (Str.ofString x) = true := by
  rw [PySem.Str.ofString_eq_toList]
  unfold PyData.strOk
  rw [Array.all_eq_true']
  intro c hc
  have : c ∈ x.toList.map Char.toNat := by simpa using hc
  obtain ⟨d, _, rfl⟩ := List.mem_map.mp this
  have := d.valid
  simp only [decide_eq_true_eq]
  unfold UInt32.isValidChar Nat.isValidChar at this
  show d.val.toNat < _
  omega
/-! values without objects, at most n deep -/
def wv : Nat → Val → Bool
  | _, .non => true
  | _, .bl _ => true
  | _, .int _ => true
  | _, .str x => PyData.strOk x
  | n + 1, .tup vs => decide (vs.length < 1000) && vs.all (wv n)
  | 0, .tup _ => false
  | _, .ref _ => false
  | _, .fl _ => false
section
variable {n : Nat}
@[simp] theorem wv_non : wv n .non = true := by cases n <;> (unfold wv; rfl)
@[simp] theorem wv_bl (b : Bool) : wv n (.bl b) = true := by cases n <;> (unfold wv; rfl)
@[simp] theorem wv_int (b : Int) : wv n (.int b) = true := by cases n <;> (unfold wv; rfl)
@[simp] theorem wv_str (x : Str) : wv n (.str x) = PyData.strOk x := by cases n <;> (conv => lhs; unfold wv)
@[simp] theorem wv_tup (vs : List Val) : wv (n + 1) (.tup vs) = (decide (vs.length < 1000) && vs.all (wv n)) := by conv => lhs; unfold wv
theorem wv_ref (i : Nat) : wv n (.ref i) = false := by cases n <;> (unfold wv; rfl)
theorem wv_fl (i : List Int) : wv n (.fl i) = false := by cases n <;> (unfold wv; rfl)
theorem wv_tup0 (vs : List Val) : wv 0 (.tup vs) = false := by unfold wv; rfl
theorem wv_data : ∀ {n : Nat} {v : Val}, wv n v = true → ∃ d, vD v = some d ∧ d.canLay0 = true ∧ d.depth ≤ n ∧ PyData.eqv d d = true
  | n, .non, _ => ⟨.none, rfl, by simp [PyData.canLay0], by simp [PyData.depth], by simp [PyData.eqv]⟩
  | n, .bl b, _ => ⟨.bool b, rfl, by simp [PyData.canLay0], by simp [PyData.depth], by simp [PyData.eqv]⟩
  | n, .int b, _ => ⟨.int b, rfl, by simp [PyData.canLay0], by simp [PyData.depth], by simp [PyData.eqv]⟩
  | n, .str b, h => ⟨.str b, rfl, by simpa [PyData.canLay0] using h, by simp [PyData.depth], by simp [PyData.eqv]⟩
  | n, .ref b, h => by rw [wv_ref] at h; cases h
  | n, .fl b, h => by rw [wv_fl] at h; cases h
  | 0, .tup vs, h => by rw [wv_tup0] at h; cases h
  | n + 1, .tup vs, h => by
    rw [wv_tup, Bool.and_eq_true, List.all_eq_true] at h
    have key : ∀ l : List Val, (∀ x, x ∈ l → wv n x = true) → ∃ ds, vDs l = some ds ∧ PyData.canLayAll0 ds = true ∧ PyData.depthAll ds ≤ n ∧ PyData.eqvAll ds ds = true := by
      intro l
      induction l with
      | nil => intro _; exact ⟨[], rfl, by simp [PyData.canLayAll0], by simp [PyData.depthAll], by simp [PyData.eqvAll]⟩
      | cons x r ih =>
        intro hl
        obtain ⟨d, d1, d2, d3, d4⟩ := wv_data (hl x (by simp))
        obtain ⟨ds, e1, e2, e3, e4⟩ := ih fun y hy => hl y (List.mem_cons_of_mem _ hy)
        refine ⟨d :: ds, ?_, by simp [PyData.canLayAll0, d2, e2], by simp only [PyData.depthAll]; omega, by simp [PyData.eqvAll, d4, e4]⟩
        show ((vD x).bind fun d => (vDs r).map (d :: ·)) = _
        rw [d1, e1]
        rfl
    obtain ⟨ds, e1, e2, e3, e4⟩ := key vs h.2
    refine ⟨.tuple ds, ?_, by simpa [PyData.canLay0] using e2, by simp only [PyData.depth]; omega, by simpa [PyData.eqv] using e4⟩
    show (vDs vs).map PyData.tuple = _
    rw [e1]
    rfl
theorem wv_shaped {v : Val} (h : wv n v = true) (hn : n ≤ 64) : ∃ d, vD v = some d ∧ SeqAt.shaped d = true ∧ PyData.eqv d d = true := by
  obtain ⟨d, d1, d2, d3, d4⟩ := wv_data h
  refine ⟨d, d1, ?_, d4⟩
  unfold SeqAt.shaped
  rw [d2, decide_eq_true (by omega)]
  rfl
theorem pEq_refl {S : Store} {v : Val} (h : wv n v = true) (hn : n ≤ 64) : pEq v v S = .ok (.bl true) S ∧ pNe v v S = .ok (.bl false) S := by
  obtain ⟨d, d1, d2, d3⟩ := wv_shaped h hn
  have := pEq_vD (S := S) d1 d1 d2 d2
  rw [d3] at this
  exact this
end
@[simp] theorem pEq_bl {S : Store} (a b : Bool) : pEq (.bl a) (.bl b) S = .ok (.bl (decide (a = b))) S := (eq_py S a b (by decide)).1
/-- tuples of integers -/
@[simp] theorem pEq_ints {S : Store} (a b : List Int) : pEq (.tup (a.map Val.int)) (.tup (b.map Val.int)) S = .ok (.bl (decide (a = b))) S := (eq_py S a b (by decide)).1
@[simp] theorem pNe_ints {S : Store} (a b : List Int) : pNe (.tup (a.map Val.int)) (.tup (b.map Val.int)) S = .ok (.bl (!decide (a = b))) S := (eq_py S a b (by decide)).2
@[simp] theorem pEq_ints0 {S : Store} (a : List Int) : pEq (.tup (a.map Val.int)) (.tup []) S = .ok (.bl (decide (a = []))) S := (eq_py S a [] (by decide)).1
@[simp] theorem pNe_ints0 {S : Store} (a : List Int) : pNe (.tup (a.map Val.int)) (.tup []) S = .ok (.bl (!decide (a = []))) S := (eq_py S a [] (by decide)).2
end Mp

/-! MpN: enumerate of a list or a tuple. -/
namespace RN
open PySem PySem.Spec PyProof.Rows L2
open Sem (wp)
open AutoSeq1 (wpAny_loadPart')
theorem meets_enumerate_newT (l : Addr) (items : Array Value) (n : Nat) (dct : Option Addr) (sl : Array (Option Value)) :
    Meets (Builtin.«enumerate.__new__» ⟨[.type "enumerate", .ref l], []⟩) (fun _ R s => s.heap.get? l = some { cls := .type "tuple", dict := dct, data := .seq items n, slots := sl } ∧
      R (.ok (.ret (.ref (s.heap.push { cls := .type "tuple_iterator", data := .fields #[.ref l, .int 0 0] }).objs.size)))
        { s with heap := (s.heap.push { cls := .type "tuple_iterator", data := .fields #[.ref l, .int 0 0] }).push { cls := .type "enumerate", data := .fields #[.none, .bool false, .ref s.heap.objs.size, rawInt 0, .none, .none] } }) :=
  .of_wp fun prog w A R s h => by
    obtain ⟨hp, g, d, tk, os⟩ := s; obtain ⟨hl, h⟩ := h
    have hsub := sub_enumerate
    have hL : Heap.IsTuple (Shared.heap ⟨hp, g, d, tk, os⟩) l items := ⟨_, hl, rfl, n, rfl⟩
    wp_walk using wpAny_loadPart' hl
    refine wpAny_stack_any fun st => wpAny_pure ?_
    split
    · rename_i c _ _ _ _ _
      cases (c == Value.type "enumerate")
      · wp_walk using wpAny_loadPart' hl, wpAny_pyIter_tuple hL
        exact ⟨_, rfl, h⟩
      · wp_walk using wpAny_loadPart' hl, wpAny_pyIter_tuple hL
        exact ⟨_, rfl, h⟩
    · wp_walk using wpAny_loadPart' hl, wpAny_pyIter_tuple hL
      exact ⟨_, rfl, h⟩
section
variable {prog : Program} {w : World} {A : Around} {E : Value → Shared → Prop} {s : Shared}
theorem call_enumerate_tuple {l : Addr} {items : Array Value} {Q : Value → Shared → Prop} (hL : s.heap.IsTuple l items)
    (h : ∀ h', IsEnum h' (s.heap.objs.size + 1) s.heap.objs.size 0 .none → h'.IsTupleIter s.heap.objs.size l 0 → h'.objs.size = s.heap.objs.size + 2 →
      (∀ b o, s.heap.get? b = some o → h'.get? b = some o) → Q (.ref (s.heap.objs.size + 1)) { s with heap := h' }) :
    wpAny (model prog w) A (call (.type "enumerate") [.ref l]) Q E s := by
  obtain ⟨⟨c, dct, dt, sl⟩, hl, hc, n, hd⟩ := hL
  replace hc : c = .type "tuple" := hc
  replace hd : dt = .seq items n := hd
  subst hc hd
  refine callType_new F.called_enumerate (by decide) (F.typeCall_enumerate_1 _) (F.newCall_enumerate_1 _) (fun obj => F.args_object_init_2 obj _) F.entry_enumerate_new
    (meets_enumerate_newT l items n dct sl) ⟨hl, ?_⟩
  have hz : (s.heap.push { cls := .type "tuple_iterator", data := .fields #[.ref l, .int 0 0] }).objs.size = s.heap.objs.size + 1 := Heap.size_push ..
  show _ ∧ _
  rw [hz]
  have he : IsEnum ((s.heap.push { cls := .type "tuple_iterator", data := .fields #[.ref l, .int 0 0] }).push
      { cls := .type "enumerate", data := .fields #[.none, .bool false, .ref s.heap.objs.size, rawInt 0, .none, .none] }) (s.heap.objs.size + 1) s.heap.objs.size 0 .none := by
    have := Heap.get?_push_size (s.heap.push { cls := .type "tuple_iterator", data := .fields #[.ref l, .int 0 0] })
      (o := { cls := .type "enumerate", data := .fields #[.none, .bool false, .ref s.heap.objs.size, rawInt 0, .none, .none] }) rfl
    rw [hz] at this; exact this
  refine ⟨⟨_, he, rfl⟩, h _ he ⟨_, Heap.get?_push_of_some _ (Heap.get?_push_size _ rfl), rfl, rfl⟩ (by rw [Heap.size_push, hz]) fun b o x => Heap.get?_push_of_some _ (Heap.get?_push_of_some _ x)⟩
end
/-- the tuple at a as it stands at each turn, each item in a new pair -/
def IteT (K : PySem.W.Frag) (a : Addr) : It :=
  ⟨fun i H => ∃ (xs : List V) (x : V), SqT K H a xs ∧ xs[i]? = some x, fun i H v H' => ∃ T x, v = .ref T ∧ H T = none ∧ H' = upd H T (.tup [.int (i : Nat), x]) ∧ ∀ xs, SqT K H a xs → xs[i]? = some x, fun i H => ∃ xs : List V, SqT K H a xs ∧ xs.length ≤ i⟩
theorem turn_enumT {P : Program} {w : World} {K : PySem.W.Frag} {elts : List Expr} {kk : Nat} {tpos : Pos} (a e it : Addr) :
    Turn P w K (.Tuple elts kk tpos) (IteT K a) [e, it] e (fun i h => (∃ old, IsEnum h e it ((i : Nat) : Int) old) ∧ h.IsTupleIter it a i ∧ e ≠ it ∧ a ≠ it ∧ a ≠ e) where
  mem := by simp
  obj := fun i h st b hb => by
    obtain ⟨⟨old, he⟩, ⟨o, ho, hc, hd⟩, _⟩ := st
    have e' : b = e ∨ b = it := by simpa using hb
    rcases e' with z | z
    · rw [z]; exact ⟨_, he, fun v q => nomatch q⟩
    · rw [z]; exact ⟨o, ho, fun v q => by rw [hd] at q; cases q⟩
  keep := fun i h h' st k => let ⟨⟨old, he⟩, hi, hne⟩ := st; ⟨⟨old, k e (by simp) _ he⟩, hi.at fun o q => k it (by simp) o q, hne⟩
  item := by
    intro X hP hw hK hc i pins s σ H E I hf st hg
    subst hP hw hK
    obtain ⟨⟨old, he⟩, hit, hne, hai, hae⟩ := st
    obtain ⟨xs, x, hq, hx⟩ := hg
    obtain ⟨its, rv, p, _⟩ := I.tuple hq
    obtain ⟨u, hu, ru⟩ := rv.get hx
    have hel : e < s.heap.objs.size := Heap.lt_size he
    have hil : it < s.heap.objs.size := by obtain ⟨_, q, _⟩ := hit; exact Heap.lt_size q
    have p' : s.heap.IsTuple a its.toArray := p
    have hh : X.A.in1.handled = none := I.ok.hd hc
    have hlt : i < its.toArray.size := by
      have := (List.getElem?_eq_some_iff.mp hu).1
      simpa using this
    refine wpAny_pyNext_enum_itemD (Draws.tuple hh it a hai its.toArray) he ⟨hit, p'⟩ hlt hne (by simp [hne, Ne.symm hae]) fun x' h' tk hP' ho hst' hT hsz hk => ?_
    have hx' : x' = u := by
      have h1 : its.toArray[i]? = some u := by simpa using hu
      rw [h1] at hP'
      exact (Option.some.inj hP').symm
    subst hx'
    refine ⟨_, rfl, wpAny_letOwnedTupleGo_enum (s := { s with heap := h', toks := tk + 1 }) ho fun h'' he' sb => ?_⟩
    have hT2 : h''.get? s.heap.objs.size = some { cls := .type "tuple", data := .seq #[.int i tk, x'] } := (sb.2 _ (Nat.ne_of_gt hel)).trans hT
    have new : ObjOk X.prog X.w (upd H s.heap.objs.size (.tup [.int (i : Nat), x])) h'' s.heap.objs.size (.tup [.int (i : Nat), x]) :=
      ⟨by show 2 ≤ sizeLine; decide, [.int i tk, x'], .cons ⟨_, rfl⟩ (.cons ru .nil), ⟨_, hT2, rfl, _, rfl⟩⟩
    have I1 : Inv X pins σ (upd H s.heap.objs.size (.tup [.int (i : Nat), x])) { s with heap := h'', toks := tk + 1 } :=
      I.turnedNew (ch := [e, it]) (fun b ob hb q => (sb.2 b (fun z => hb (by simp [z]))).trans (hk b ob (fun z => hb (by simp [z])) (fun z => hb (by simp [z])) q)) hf (Nat.le_refl _) new
    refine ⟨.ref s.heap.objs.size, _, I1, rfl, ⟨_, x, rfl, I.hok.fresh (Nat.le_refl _), rfl, fun ys hy => by rw [I.tuple_inj hy hq]; exact hx⟩, ⟨⟨x', ?_⟩, hst'.1.at fun o q => (sb.2 it (Ne.symm hne)).trans q, hne, hai, hae⟩, fun b hb => ?_⟩
    · have e1 : ((i + 1 : Nat) : Int) = (i : Int) + 1 := by omega
      rw [e1]; exact he'
    · have hb' : b < s.heap.objs.size := by
        have e' : b = e ∨ b = it := by simpa using hb
        rcases e' with z | z
        · rw [z]; exact hel
        · rw [z]; exact hil
      rw [upd_ne (Nat.ne_of_lt hb')]
      exact (hf b hb).1
  done := by
    intro X hP hw hK hc i pins s σ H E I hf st hg
    subst hP hw hK
    obtain ⟨⟨old, he⟩, hit, hne, hai, hae⟩ := st
    obtain ⟨xs, hq, hx⟩ := hg
    obtain ⟨its, rv, p, _⟩ := I.tuple hq
    obtain ⟨f0, f1, f2, f3, f4, f5⟩ := hf it (by simp)
    have hl := rv.length
    have p' : s.heap.IsTuple a its.toArray := p
    have hh : X.A.in1.handled = none := I.ok.hd hc
    have hT : s.TypeIs (.ref e) "enumerate" := ⟨_, he, rfl⟩
    unfold pyNext
    refine wpAny_bind (wpAny_attempt (wpAny_callSpecial?_slot (name := Str.ofString "__next__") hT F.slot_enumerate_next
      (wpAny_call_entry F.slot_enumerate_next hT F.entry_enumerate_next ?_ (F.args_enumerate_next_1 _))))
    show wpAny _ _ (field (.ref e) 2 >>= _) _ _ _
    refine wpAny_bind (wpAny_field he rfl (x := .ref it) rfl ?_)
    refine wpAny_bind (RZ.nextOf_tuple_end hh hit p' (by simp; omega) fun h' x he' hx' => ?_)
    obtain ⟨o, ho, hc'⟩ := hx'
    refine wpAny_bind (wpAny_isInstance (T := "StopIteration") (b := true) ⟨o, ho, hc'⟩ isSubtype_stop ?_)
    exact wpAny_pure ⟨rfl, I.turned (t' := s.toks) (fun b o hb q => he' b o hb q) f0 f1 f3 f4 f5⟩
  self := fun A i s Q E st h => let ⟨⟨_, he⟩, _⟩ := st; wpAny_pyIter_enum he h
def iEnumA (K : PySem.W.Frag) (ta : TA) : TI := fun σ H R => ta σ H fun vs H1 => ∃ a xs, vs = [.ref a] ∧ ((SqL K H1 a xs ∧ R (Ite K a) H1) ∨ (SqT K H1 a xs ∧ R (IteT K a) H1))
theorem pi_enumA {X : Cx} {e : Expr} {ta : TA} {p pos tpos : Pos} {elts : List Expr} {kk : Nat} (hg : Gl X "enumerate") (hm : X.mg "enumerate" = none) (ha : PA X [e] ta) (hs : starEach [e] X.env = [(false, eval e X.env)] := by rfl) :
    PI X (.Tuple elts kk tpos) (.Call (.Name "enumerate" p) [e] [] pos) (iEnumA X.K ta) := by
  refine ⟨fun pins s σ H R I h => ?_⟩
  refine Call_ (ld_blt I hg hm boot_enumerate (PyProof.Rows.callWith_type1 (thn (ha.run pos pins s σ H _ I h) fun us s1 ⟨vs, H1, I1, r1, q1⟩ => ?_) hs rfl))
  obtain ⟨a, xs, ex, q⟩ := q1
  subst ex
  cases r1 with
  | cons r rr =>
    cases rr
    cases r
    have fp : ∀ b, b ∈ [s1.heap.objs.size + 1, s1.heap.objs.size] → FpOk X pins H1 b := fun b hb => by
      have e' : b = s1.heap.objs.size + 1 ∨ b = s1.heap.objs.size := by simpa using hb
      have hle : s1.heap.objs.size ≤ b := by
        rcases e' with z | z
        · rw [z]; exact Nat.le_add_right _ _
        · rw [z]; exact Nat.le_refl _
      exact I1.fpOk hle (I1.hok.fresh hle)
    rcases q with ⟨hq, q⟩ | ⟨hq, q⟩
    · obtain ⟨its, rv, p', hz⟩ := I1.list hq
      refine call_enumerate_list p'.isList fun h' he hit hsz hk => wpAny_pyIter_enum he ?_
      have I2 : Inv X pins σ H1 { s1 with heap := h' } := I1.kept (t' := s1.toks) hk
      exact ⟨s1.heap.objs.size + 1, [s1.heap.objs.size + 1, s1.heap.objs.size], _, _, H1, rfl, I2, turn_enum a (s1.heap.objs.size + 1) s1.heap.objs.size, ⟨⟨.none, he⟩, hit, Nat.succ_ne_self _⟩, fp, q⟩
    · obtain ⟨its, rv, p', _⟩ := I1.tuple hq
      obtain ⟨o1, ho1, _⟩ := id p'
      have hlt := Heap.lt_size ho1
      refine call_enumerate_tuple (show s1.heap.IsTuple a its.toArray from p') fun h' he hit hsz hk => wpAny_pyIter_enum he ?_
      have I2 : Inv X pins σ H1 { s1 with heap := h' } := I1.kept (t' := s1.toks) hk
      exact ⟨s1.heap.objs.size + 1, [s1.heap.objs.size + 1, s1.heap.objs.size], _, _, H1, rfl, I2, turn_enumT a (s1.heap.objs.size + 1) s1.heap.objs.size, ⟨⟨.none, he⟩, hit, Nat.succ_ne_self _, Nat.ne_of_lt hlt, Nat.ne_of_lt (Nat.lt_succ_of_lt hlt)⟩, fp, q⟩
end RN
namespace Mp
open PySem PySem.Spec L2
section
variable {X : Cx} {W : WX} {e : Expr} {ma : MA} {p pos tpos : Pos}
theorem i_enumA {elts : List Expr} {kk : Nat} (hg : Gl X "enumerate") (hm : X.mg "enumerate" = none) (ha : PAm X W [e] ma) (hs : starEach [e] X.env = [(false, eval e X.env)] := by rfl) : PIm X W (.Tuple elts kk tpos) (.Call (.Name "enumerate" p) [e] [] pos) (Mp.iEnum ma) :=
  PI.imp (RN.pi_enumA hg hm ha hs) fun σ H R h => TAm.bindI (mi := Mp.iEnum ma) h fun ρ1 S1 vs us H1 s1 v h => by
    unfold enumOf at h
    split at h
    · rename_i x
      obtain ⟨u, rfl, r1⟩ := v.one
      split at h
      · rename_i b1 xs k1 e1
        obtain ⟨ad, ua, rfl, g1, g2, g3⟩ := seq_of s1 r1 e1
        cases b1 with
        | true =>
          refine ⟨ad, ua, rfl, .inl ⟨g1, Post.here (rel := ItR X.K X.mg) s1 h fun ρ S H e s ks i => ?_⟩⟩
          obtain ⟨us1, c1, c2⟩ := g3 ρ S H e s ks
          refine ⟨fun z hz => ?_, fun hz => ?_⟩
          · obtain ⟨x', hx, rfl⟩ := enumL_get hz
            obtain ⟨u1, hu1, ru1⟩ := c2.get hx
            refine ⟨⟨us1, u1, c1, hu1⟩, fun u H' yl => ?_⟩
            obtain ⟨T, a1, eu, hT, eH, y1⟩ := yl
            subst eu eH
            have z1 := y1 us1 c1
            rw [hu1] at z1
            cases z1
            exact pair_new s hT (by simp [VR]) ru1
          · refine ⟨us1, c1, ?_⟩
            have := List.getElem?_eq_none_iff.mp hz
            simp [enumL] at this
            rw [← c2.length]
            omega
        | false =>
          refine ⟨ad, ua, rfl, .inr ⟨g1, Post.here (rel := ItR X.K X.mg) s1 h fun ρ S H e s ks i => ?_⟩⟩
          obtain ⟨us1, c1, c2⟩ := g3 ρ S H e s ks
          refine ⟨fun z hz => ?_, fun hz => ?_⟩
          · obtain ⟨x', hx, rfl⟩ := enumL_get hz
            obtain ⟨u1, hu1, ru1⟩ := c2.get hx
            refine ⟨⟨us1, u1, c1, hu1⟩, fun u H' yl => ?_⟩
            obtain ⟨T, a1, eu, hT, eH, y1⟩ := yl
            subst eu eH
            have z1 := y1 us1 c1
            rw [hu1] at z1
            cases z1
            exact pair_new s hT (by simp [VR]) ru1
          · refine ⟨us1, c1, ?_⟩
            have := List.getElem?_eq_none_iff.mp hz
            simp [enumL] at this
            rw [← c2.length]
            omega
      · exact h.elim
    · exact h.elim
end
end Mp

/-! MpA: o[i] op= e, o a list or a dict; further small rules. -/
namespace Mp
open PySem PySem.Spec L2
section
variable {X : Cx} {W : WX} {e o i : Expr} {m mo mi : ME} {pos tpos : Pos}
/-- a read of a list or dict -/
def pIxM : P2 := fun x y S => match x with
  | .ref a => pIx (.ref a) y S
  | _ => .bad
theorem get_list : PGet X (rIxL X.K) := by
  intro pins s σ H x y v u Q I rx ry h
  obtain ⟨p, xs, i, z, rfl, rfl, hq, he, q⟩ := h
  cases rx
  obtain ⟨t, rfl⟩ := ry
  obtain ⟨its, r, pl, hz⟩ := I.list hq
  obtain ⟨j, h1, h2, h3, h4, h5⟩ := atI_get he
  obtain ⟨w, ew, rw'⟩ := r.get h2
  have hl := r.length
  have hn := line63
  have fin : EP X pins σ Q w s := ⟨z, H, I, rw', q⟩
  by_cases h0 : 0 ≤ i
  · have hj : i.toNat = j := by
      rw [seqIndex_of h0 h5] at h1
      exact Option.some.inj h1
    exact wpAny_getItem_list pl.isList h0 (by omega) (by rw [hj]; simpa using ew) fin
  · have hj : (i + (its.toArray.size : Int)).toNat = j := by
      rw [seqIndex_neg (by omega) h4] at h1
      rw [List.size_toArray, ← hl]
      exact Option.some.inj h1
    exact wpAny_getItem_list_neg pl.isList (by omega) (by rw [List.size_toArray] <;> omega) (by omega) (by rw [hj]; simpa using ew) fin
theorem get_dict (hu : X.A.units + 1 < cLine) : PGet X rIxD := by
  intro pins s σ H x y v u Q I rx ry h
  obtain ⟨a, w, rfl, g, q⟩ := h
  obtain rfl : v = Value.ref a := rx
  exact d_getItem hu I g ry fun w' s' I' r' => ⟨w, H, I', r', q⟩
theorem ixM_of {u w : V} {H : Hp} {Q : VK} (h : rP2 X pIxM u w H Q) : rIxL X.K u w H Q ∨ rIxD u w H Q := by
  obtain ⟨ρ, S, x, y, s, v1, v2, h⟩ := h
  unfold pIxM at h
  split at h
  · rename_i a
    simp only [VR] at v1
    obtain ⟨ha, rfl⟩ := v1
    unfold pIx at h
    split at h
    · rename_i e; cases e
    · rename_i e; cases e
    · rename_i e; cases e
    · rename_i a' i e
      cases e
      simp only [VR] at v2
      subst v2
      split at h
      · rename_i vs q
        split at h
        · rename_i v hv
          obtain ⟨us, g1, g2⟩ := s.lst q
          obtain ⟨u', h1, h2⟩ := atI_rel g2 hv
          exact .inl ⟨_, us, i, u', rfl, rfl, SqL.of g1, h1, Post.here (rel := relV X.K) s h h2⟩
        · exact h.elim
      · rename_i kvs q
        split at h
        · rename_i v hv
          obtain ⟨u', h1, h2⟩ := dk_get s q hv
          exact .inr ⟨_, u', rfl, h1, Post.here (rel := relV X.K) s h h2⟩
        · exact h.elim
      · rename_i kvs q
        split at h
        · rename_i v hv
          obtain ⟨u', h1, h2⟩ := fk_get s q hv
          exact .inr ⟨_, u', rfl, h1, Post.here (rel := relV X.K) s h h2⟩
        · exact h.elim
      · exact h.elim
    · rename_i a' i e
      cases e
      simp only [VR] at v2
      subst v2
      split at h
      · rename_i kvs q
        split at h
        · rename_i v hv
          obtain ⟨u', h1, h2⟩ := dk_get s q hv
          exact .inr ⟨_, u', rfl, h1, Post.here (rel := relV X.K) s h h2⟩
        · exact h.elim
      · exact h.elim
    · rename_i a' ks e
      cases e
      split at h
      · rename_i kvs q
        split at h
        · rename_i k hk
          split at h
          · rename_i v hv
            obtain ⟨b, rfl, hb⟩ := tkey_of v2 hk
            obtain ⟨us, g1, g2⟩ := s.ob a _ q
            have lk := valV_lookup (k := k) g2
            rw [hv] at lk
            cases hv' : valV us k with
            | none => rw [hv'] at lk; exact lk.elim
            | some u' =>
              rw [hv'] at lk
              exact .inr ⟨_, u', rfl, by rw [← hv']; exact DGet.t g1 hb, Post.here (rel := relV X.K) s h lk⟩
          · exact h.elim
        · exact h.elim
      · rename_i kvs q
        split at h
        · rename_i k hk
          split at h
          · rename_i v hv
            obtain ⟨b, rfl, hb⟩ := tkey_of v2 hk
            obtain ⟨fo, us, g1, g2⟩ := s.ob a _ q
            have lk := valV_lookup (k := k) g2
            rw [hv] at lk
            cases hv' : valV us k with
            | none => rw [hv'] at lk; exact lk.elim
            | some u' =>
              rw [hv'] at lk
              exact .inr ⟨_, u', rfl, (.inr ⟨us, k, b, .inr ⟨fo, g1⟩, rfl, hb, hv'.symm⟩), Post.here (rel := relV X.K) s h lk⟩
          · exact h.elim
        · exact h.elim
      · exact h.elim
    · exact h.elim
  · exact h.elim
theorem get_any (hu : X.A.units + 1 < cLine) : PGet X (rP2 X pIxM) := fun pins s σ H x y v u Q I rx ry h => by
  rcases ixM_of h with h | h
  · exact get_list pins s σ H _ _ v u Q I rx ry h
  · exact get_dict hu pins s σ H _ _ v u Q I rx ry h
theorem s_subAug {op : Operator} {p : P2} (hu : X.A.units + 1 < cLine) (ho : PEm X W o mo) (hi : PEm X W i mi) (he : PEm X W e m) (hp : OpS X (inplaceOp op) p)
    (ha : ∀ ov iv new, augStore i ov iv new = (do holding [new, ov, iv] (setItem ov iv new); release [new, ov, iv] []; pure .next) := by intros; rfl) :
    PSm X W (.AugAssign (.Subscript o i tpos) op e pos) (Mp.sSubAug mo mi m pIxM p pSet) :=
  PS.imp (ps_augS ho hi (get_any hu) he (fun pins s σ H x y v u Q I r1 r2 q => hp pins s σ H x y v u Q I r1 r2 q) (st_set hu) ha) fun D σ H ⟨ρ, S, L, s, l, h⟩ =>
    TEm.then s l h fun ρ1 S1 x u H1 s1 l1 e1 v1 h => TEm.then s1 l1 h fun ρ2 S2 y w H2 s2 l2 e2 v2 h => by
      have h := PostF.quiet (rel := relV X.K) (σ := σ) h
      refine ⟨ρ2, S2, x, y, s2, VR.ext s1 e2 _ _ v1, v2, h.sig.mono ?_⟩
      rintro z H3 ⟨ρ3, S3, z', _, e3, s3, v3, h⟩
      have l3 := l2.ext s2 e3
      refine TEm.then s3 l3 h fun ρ4 S4 u' q H4 s4 l4 e4 v4 h => ?_
      have h := PostF.quiet (rel := relV X.K) (σ := σ) h
      refine ⟨ρ4, S4, z', u', s4, VR.ext s3 e4 _ _ v3, v4, h.sig.mono ?_⟩
      rintro t H5 ⟨ρ5, S5, t', _, e5, s5, v5, h⟩
      have h := PostF.quiet (rel := fun _ _ _ (_ : Unit) (_ : Unit) => True) (σ := σ) h
      have w1 := VR.ext s4 e5 _ _ (VR.ext s3 e4 _ _ (VR.ext s2 e3 _ _ (VR.ext s1 e2 _ _ v1)))
      have w2 := VR.ext s4 e5 _ _ (VR.ext s3 e4 _ _ (VR.ext s2 e3 _ _ v2))
      refine ⟨ρ5, S5, x, y, t', s5, w1, w2, v5, h.sig.mono ?_⟩
      rintro _ H6 ⟨ρ6, S6, _, _, e6, s6, _, h⟩
      exact PostF.nxHere s6 ((l4.ext s4 e5).ext s5 e6) h
@[simp] theorem sSubAug_app {L : Loc} {S : Store} (o i e : ME) (g p : P2) (q : Val → Val → Val → Store → R Unit) : Mp.sSubAug o i e g p q L S = thenF L (o L S) fun x S1 => thenF L (i L S1) fun y S2 => thenF L (noExn (g x y S2)) fun z S3 => thenF L (e L S3) fun u S4 =>
  thenF L (noExn (p z u S4)) fun t S5 => thenF L (noExn (q x y t S5)) fun _ S6 => .nx L S6 := rfl
@[simp] theorem pIxM_ref {S : Store} (a : Nat) (y : Val) : pIxM (.ref a) y S = pIx (.ref a) y S := rfl
end
theorem relabel_lookup {env : Env} : ∀ {names : List (Str × NameKind)} {x : Str}, (names.lookup x = some .cell ∨ names.lookup x = some .free) →
    ((names.map fun (n, k) => if (k == NameKind.free && env.scope.kind == .function && env.kindOf n == some .cell) then (n, NameKind.cell) else (n, k)).lookup x = some .cell ∨
     (names.map fun (n, k) => if (k == NameKind.free && env.scope.kind == .function && env.kindOf n == some .cell) then (n, NameKind.cell) else (n, k)).lookup x = some .free)
  | [], x, h => by simp at h
  | (n, k) :: r, x, h => by
    have ih := @relabel_lookup env r x
    rw [List.map_cons]
    rw [List.lookup_cons] at h
    by_cases q : x = n
    · subst q
      simp only [beq_self_eq_true] at h
      dsimp only
      split
      · left
        simp [List.lookup_cons]
      · rw [List.lookup_cons]
        simp only [beq_self_eq_true]
        exact h
    · have q' : (x == n) = false := by simpa using q
      rw [q'] at h
      dsimp only
      have := ih h
      split
      · rw [List.lookup_cons, q']; exact this
      · rw [List.lookup_cons, q']; exact this
/-- a comprehension within a comprehension -/
theorem blk_in {N N' : List Str} {sc outer scope : Scope} {env : Env} {own : List (Str × Nat)} (e : sc = relabel outer env) (en : N' = N) (h : blkC N outer scope own = true) : BlkOk N' sc scope own := by
  have b := blkOk_by h
  subst e en
  exact ⟨b.kind, b.uniq, b.ix, fun y hy q => relabel_lookup (b.free y hy q), b.own⟩
end Mp

/-! MpM: tuple * int, list * int, int * int. -/
namespace L2
open PySem PyProof.Rows
open AutoSeq1 (wpAny_loadPart')
theorem tuple_mul1 (l : Addr) (items : Array Value) (n : Nat) (dd : Option Addr) (sl : Array (Option Value)) (x : Int) (u : Tok) (c0 : (decide (x < -(2 ^ 63)) || decide (x ≥ 2 ^ 63)) = false) (c1 : (items.isEmpty || x == 1) = true) :
    Meets (Builtin.«tuple.__mul__» ⟨[.ref l, .int x u], []⟩) (fun _ R s => s.heap.get? l = some { cls := .type "tuple", dict := dd, data := .seq items n, slots := sl } ∧ R (.ok (.ret (Value.ref l))) s) :=
  .of_wp fun prog w A R s h => by
    obtain ⟨hp, g, d, tk, os⟩ := s
    obtain ⟨hl, h⟩ := h
    have f1 := AutoSeq1.idx_int
    wp_walk using wpAny_loadPart' hl
    repeat (first
      | (refine wpAny_ite_false (decide_eq_false (by rw [c0]; exact Bool.false_ne_true)) ?_; wp_walk using wpAny_loadPart' hl)
      | (refine wpAny_ite_true (decide_eq_true (by rw [c1])) ?_; wp_walk using wpAny_loadPart' hl))
    exact ⟨_, rfl, h⟩
theorem tuple_mul0 (l : Addr) (items : Array Value) (n : Nat) (dd : Option Addr) (sl : Array (Option Value)) (x : Int) (u : Tok) (c0 : (decide (x < -(2 ^ 63)) || decide (x ≥ 2 ^ 63)) = false) (c1 : (items.isEmpty || x == 1) = false) (c2 : (decide (x ≤ 0) || items.isEmpty) = true) :
    Meets (Builtin.«tuple.__mul__» ⟨[.ref l, .int x u], []⟩) (fun _ R s => s.heap.get? l = some { cls := .type "tuple", dict := dd, data := .seq items n, slots := sl } ∧
      R (.ok (.ret (Value.ref s.heap.objs.size))) { s with heap := s.heap.push { cls := Value.type "tuple", data := Data.seq #[] }, toks := s.toks }) :=
  .of_wp fun prog w A R s h => by
    obtain ⟨hp, g, d, tk, os⟩ := s
    obtain ⟨hl, h⟩ := h
    have f1 := AutoSeq1.idx_int
    wp_walk using wpAny_loadPart' hl
    repeat (first
      | (refine wpAny_ite_false (decide_eq_false (by rw [c0]; exact Bool.false_ne_true)) ?_; wp_walk using wpAny_loadPart' hl)
      | (refine wpAny_ite_false (decide_eq_false (by rw [c1]; exact Bool.false_ne_true)) ?_; wp_walk using wpAny_loadPart' hl)
      | (refine wpAny_ite_true (decide_eq_true (by rw [c2])) ?_; wp_walk using wpAny_loadPart' hl))
    exact ⟨_, rfl, h⟩
def rRep1 (K : PySem.W.Frag) : R2 := fun x y H Q => ∃ l k xs, x = .ref l ∧ y = .int k ∧ SqT K H l xs ∧ (xs = [] ∨ k = 1) ∧ -1000 ≤ k ∧ k ≤ 1000 ∧ Q (.ref l) H
def rRep0 (K : PySem.W.Frag) : R2 := fun x y H Q => ∃ l k xs, x = .ref l ∧ y = .int k ∧ SqT K H l xs ∧ xs ≠ [] ∧ -1000 ≤ k ∧ k ≤ 0 ∧ ∀ p, H p = none → Q (.ref p) (upd H p (.tup []))
section
variable {X : Cx}
theorem op_rep1 : OpR X (binaryOp .Mult) (rRep1 X.K) := by
  intro pins s σ H x y v u Q I rx ry h
  obtain ⟨l, k, xs, rfl, rfl, hT, hne, h1, h2, q⟩ := h
  cases rx
  obtain ⟨t, rfl⟩ := ry
  obtain ⟨its, r, ⟨⟨cls, dd, data, sl⟩, ho, hc, n, hd⟩, hs⟩ := I.tuple hT
  simp only at hc hd
  subst hc hd
  have hle : its.length = xs.length := r.length.symm
  have c0 : (decide (k < -(2 ^ 63)) || decide (k ≥ 2 ^ 63)) = false := by
    rw [decide_eq_false (by omega), decide_eq_false (by omega)] <;> rfl
  have c1 : (its.toArray.isEmpty || k == 1) = true := by
    rcases hne with e | e
    · subst e
      have : its = [] := List.eq_nil_of_length_eq_zero (by rw [hle]; rfl)
      subst this
      rfl
    · subst e
      simp
  refine wpAny_binaryOp_repeat_ref (T := "tuple") (U := "int") (by decide) ⟨_, ho, rfl⟩ (fun s' => typeIs_int s' k t) noFill_tuple_mul F.fills_int_mul F.slot_int_rmul repeat_tuple F.slot_int_index.lookup
    (call_meets F.slot_int_rmul (typeIs_int s k t) F.entry_int_rmul (F.args_int_rmul_2 _ _) (int_rmul_tuple k t l its.toArray n dd sl)
      ⟨ho, rfl, ⟨_, ho, rfl⟩, call_meets F.slot_tuple_mul ⟨_, ho, rfl⟩ F.entry_tuple_mul (F.args_tuple_mul_2 _ _) (tuple_mul1 l its.toArray n dd sl k t c0 c1) ⟨ho, ?_⟩⟩)
  exact ⟨.ref l, H, I, rfl, q⟩
theorem op_rep0 : OpR X (binaryOp .Mult) (rRep0 X.K) := by
  intro pins s σ H x y v u Q I rx ry h
  obtain ⟨l, k, xs, rfl, rfl, hT, hne, h1, h2, q⟩ := h
  cases rx
  obtain ⟨t, rfl⟩ := ry
  obtain ⟨its, r, ⟨⟨cls, dd, data, sl⟩, ho, hc, n, hd⟩, hs⟩ := I.tuple hT
  simp only at hc hd
  subst hc hd
  have hle : its.length = xs.length := r.length.symm
  have hi : its.toArray.isEmpty = false := by
    cases its with
    | nil => exact absurd (List.eq_nil_of_length_eq_zero hle.symm) hne
    | cons a b => rfl
  have c0 : (decide (k < -(2 ^ 63)) || decide (k ≥ 2 ^ 63)) = false := by
    rw [decide_eq_false (by omega), decide_eq_false (by omega)] <;> rfl
  have c1 : (its.toArray.isEmpty || k == 1) = false := by
    rw [hi, Bool.false_or]
    exact beq_eq_false_iff_ne.mpr (by omega)
  have c2 : (decide (k ≤ 0) || its.toArray.isEmpty) = true := by
    rw [decide_eq_true h2]; rfl
  refine wpAny_binaryOp_repeat_ref (T := "tuple") (U := "int") (by decide) ⟨_, ho, rfl⟩ (fun s' => typeIs_int s' k t) noFill_tuple_mul F.fills_int_mul F.slot_int_rmul repeat_tuple F.slot_int_index.lookup
    (call_meets F.slot_int_rmul (typeIs_int s k t) F.entry_int_rmul (F.args_int_rmul_2 _ _) (int_rmul_tuple k t l its.toArray n dd sl)
      ⟨ho, rfl, ⟨_, ho, rfl⟩, call_meets F.slot_tuple_mul ⟨_, ho, rfl⟩ F.entry_tuple_mul (F.args_tuple_mul_2 _ _) (tuple_mul0 l its.toArray n dd sl k t c0 c1 c2) ⟨ho, ?_⟩⟩)
  refine ⟨.ref s.heap.objs.size, _, I.laid (t' := s.toks) (o := .tup []) (fun b ob q => Heap.get?_push_of_some _ q) (Nat.le_refl _) ?_, rfl, q _ (I.hok.fresh (Nat.le_refl _))⟩
  exact ⟨Nat.zero_le _, [], .nil, IsTup.new _ _⟩
end
end L2
namespace Mp
open PySem PySem.Spec L2
section
variable {X : Cx} {W : WX}
noncomputable def pMul : P2 := fun x y S => match x, y with
  | .int i, .int j => bite (cmul i j) (.ok (.int (i * j)) S) .bad
  | .tup vs, .int k => bite (decide (-1000 ≤ k) && decide (k ≤ 1000) && decide (vs.length ≤ 1000)) (.ok (.tup (List.replicate k.toNat vs).flatten) S) .bad
  | .ref a, .int k => match S[a]? with
    | some (.lst vs) => bite (decide (-1000 ≤ k) && decide (k ≤ 1000) && decide (vs.length ≤ 1000)) (newL (List.replicate k.toNat vs).flatten S) .bad
    | _ => .bad
  | _, _ => .bad
theorem pMul_of {u w : V} {H : Hp} {Q : VK} (h : rP2 X pMul u w H Q) : (rI CMul (fun i j => .int (i * j))) u w H Q ∨ rRep u w H Q ∨ rRepT X.K u w H Q ∨ rRep1 X.K u w H Q ∨ rRep0 X.K u w H Q := by
  obtain ⟨ρ, S, x, y, s, v1, v2, h⟩ := h
  unfold pMul at h
  split at h
  · rename_i i j
    cases hc : cmul i j with
    | false => rw [hc] at h; exact h.elim
    | true =>
      rw [hc] at h
      exact .inl ⟨i, j, by simpa [VR] using v1, by simpa [VR] using v2, cmul_of hc, Post.here (rel := relV X.K) s h (by simp [relV, VR])⟩
  · rename_i vs k
    cases hc : (decide (-1000 ≤ k) && decide (k ≤ 1000) && decide (vs.length ≤ 1000)) with
    | false => rw [hc] at h; exact h.elim
    | true =>
      rw [hc, bite_true] at h
      simp only [Bool.and_eq_true, decide_eq_true_eq] at hc
      obtain ⟨⟨h1, h2⟩, h3⟩ := hc
      have v1' := v1
      simp only [VR] at v1' v2
      obtain ⟨p, xs, rfl, q1, r1⟩ := v1'
      have hl := r1.length
      by_cases hn : xs = []
      · have hv : vs = [] := by
          rw [hn] at hl
          exact List.eq_nil_of_length_eq_zero hl
        subst hv
        have e : (List.replicate k.toNat ([] : List Val)).flatten = [] := by simp
        rw [e] at h
        exact .inr (.inr (.inr (.inl ⟨p, k, xs, rfl, v2, q1.sq, .inl hn, h1, h2, Post.here (rel := relV X.K) s h v1⟩)))
      · by_cases hk1 : k = 1
        · subst hk1
          have e : (List.replicate (1 : Int).toNat vs).flatten = vs := by simp
          rw [e] at h
          exact .inr (.inr (.inr (.inl ⟨p, 1, xs, rfl, v2, q1.sq, .inr rfl, h1, h2, Post.here (rel := relV X.K) s h v1⟩)))
        · by_cases hk0 : k ≤ 0
          · have e : (List.replicate k.toNat vs).flatten = [] := by
              have : k.toNat = 0 := by omega
              rw [this]; rfl
            rw [e] at h
            exact .inr (.inr (.inr (.inr ⟨p, k, xs, rfl, v2, q1.sq, hn, h1, hk0, tup_new s h VRs.nil⟩)))
          · exact .inr (.inr (.inl ⟨p, k, xs, rfl, v2, q1.sq, hn, by omega, h2, by omega, tup_new s h (r1.rep k.toNat)⟩))
  · rename_i a k
    split at h
    · rename_i vs q
      cases hc : (decide (-1000 ≤ k) && decide (k ≤ 1000) && decide (vs.length ≤ 1000)) with
      | false => rw [hc] at h; exact h.elim
      | true =>
        rw [hc, bite_true] at h
        simp only [Bool.and_eq_true, decide_eq_true_eq] at hc
        obtain ⟨⟨h1, h2⟩, h3⟩ := hc
        simp only [VR] at v1 v2
        obtain ⟨ha, rfl⟩ := v1
        obtain ⟨us, g1, g2⟩ := s.lst q
        have hl := g2.length
        refine .inr (.inl ⟨ρ a, k, us, rfl, v2, g1, by omega, by omega, ?_, lst_new s h (g2.rep k.toNat)⟩)
        rw [← hl, sizeLine_eq]
        have a1 : vs.length * k.toNat ≤ 1000 * 1000 := Nat.mul_le_mul (by omega) (by omega)
        omega
    · exact h.elim
  · exact h.elim
theorem o_mul : OpS X (binaryOp .Mult) pMul := OpR.imp (op_mul.or (op_rep.or (op_repT.or (op_rep1.or op_rep0)))) fun _ _ _ _ h => pMul_of h
@[simp] theorem pMul_int {S : Store} (i j : Int) : pMul (.int i) (.int j) S = bite (cmul i j) (.ok (.int (i * j)) S) .bad := rfl
@[simp] theorem pMul_tup {S : Store} (vs : List Val) (k : Int) : pMul (.tup vs) (.int k) S = bite (decide (-1000 ≤ k) && decide (k ≤ 1000) && decide (vs.length ≤ 1000)) (.ok (.tup (List.replicate k.toNat vs).flatten) S) .bad := rfl
def mulR (o : Option Ob) (k : Int) (S : Store) : R Val := match o with
  | some (.lst vs) => bite (decide (-1000 ≤ k) && decide (k ≤ 1000) && decide (vs.length ≤ 1000)) (newL (List.replicate k.toNat vs).flatten S) .bad
  | _ => .bad
@[simp] theorem mulR_some {S : Store} (vs : List Val) (k : Int) : mulR (some (.lst vs)) k S = bite (decide (-1000 ≤ k) && decide (k ≤ 1000) && decide (vs.length ≤ 1000)) (newL (List.replicate k.toNat vs).flatten S) .bad := rfl
@[simp] theorem pMul_ref {S : Store} (a : Nat) (k : Int) : pMul (.ref a) (.int k) S = mulR (sg S a) k S := by
  show _ = mulR S[a]? k S
  simp only [pMul]
  unfold mulR
  cases S[a]? with
  | none => rfl
  | some o => cases o <;> rfl
end
end Mp

/-! MpU: sum of a list or a tuple; any of a list. -/
namespace Mp
open PySem PySem.Spec L2
section
variable {X : Cx} {W : WX}
open PyProof.Rows in
theorem sumT_raw {prog : Program} {w : World} {A : Around} {E : Value → Shared → Prop} {s : Shared} {l : Addr} {its : List Value} {ns : List Int} {Q : Value → Shared → Prop} (hh : A.handled = none) (hl : s.heap.IsTuple l its.toArray) (hi : PyProof.Rows.IntsAre its ns)
    (h : ∀ h' tk t', (∀ b o, s.heap.get? b = some o → h'.get? b = some o) → Q (.int ns.sum t') { s with heap := h', toks := tk }) : wpAny (model prog w) A (call (.builtin "sum") [.ref l]) Q E s := by
  obtain ⟨xs, e⟩ := hi.allInts.items
  have hn : numsOf (intItems xs).toList = ns := by rw [← e]; exact hi.numsOf
  rw [nums_intItems] at hn
  rw [e] at hl
  have key : wpAny (model prog w) A (call (.builtin "sum") [.ref l]) (fun v s' => ∃ h' tk t', v = .int (preSum (numAt xs) xs.size) t' ∧ s' = { s with heap := h', toks := tk } ∧ (∀ b o, s.heap.get? b = some o → h'.get? b = some o)) E s := by
    refine call_sum_walkG (iter_tups hl fun s₂ e st hfp hlI => ?_)
    subst e
    refine ⟨_, _, _, _, _, _, numAt xs, rfl, Walks.tuple (A := A.in1) hh _ l hlI (intItems xs), st, hfp, (fun _ _ => intItems_at), fun h' tk t' hk => ?_⟩
    refine ⟨h', tk, t', by simp [intItems], rfl, fun b o e => hk b o (fun hm => ?_) (Heap.get?_push_of_some _ e)⟩
    have eb : b = s.heap.objs.size := by simpa using hm
    rw [eb] at e
    exact absurd (Heap.lt_size e) (Nat.lt_irrefl _)
  refine wpAny_mono key (fun v s' ⟨h', tk, t', e1, e2, hk⟩ => ?_) fun _ _ z => z
  subst e1 e2
  have := h h' tk t' hk
  rw [preSum_eq, List.take_of_length_le (by simp), hn]
  exact this
def rSumT (K : PySem.W.Frag) : List V → Hp → VK → Prop := fun vs H Q => ∃ (a : Addr) (ns : List Int), vs = [V.ref a] ∧ SqT K H a (ns.map V.int) ∧ Q (.int ns.sum) H
theorem cr_sumT (hc : X.calm = true) : CallR X (.builtin "sum") (rSumT X.K) := by
  intro pins s σ H vs us Q I r h
  obtain ⟨a, ns, rfl, hs, q⟩ := h
  obtain ⟨its, rv, hl, _⟩ := I.tuple hs
  rw [Vals.ref1 r]
  exact sumT_raw (I.ok.hd hc) hl rv.ints fun h' tk t' hk => ⟨.int _, H, I.kept hk, ⟨_, rfl⟩, q⟩
/-- sum(xs) of a list or a tuple of integers -/
def fSumA : Fn := one fun v S => match (itemsO v S).bind intsO with
  | some bs => .ok (.int bs.sum) S
  | none => .bad
theorem c_sumA (hc : X.calm = true) : CallR X (.builtin "sum") (rF X fSumA) := CallR.imp ((cr_sum hc).or (cr_sumT hc)) fun us H Q h => by
  replace h := one_of h
  obtain ⟨u, rfl, ρ, S, x, s, v, h⟩ := h
  dsimp only at h
  split at h
  · rename_i bs e
    obtain ⟨vs, e1, e2⟩ := Option.bind_eq_some_iff.mp e
    obtain ⟨a, us, rfl, h1, h2⟩ := items_of s v e1
    cases ints_of h2 e2
    have q := Post.here (rel := relV X.K) (a := Val.int bs.sum) (u := V.int bs.sum) s h (by simp [relV, VR])
    rcases h1 with h1 | h1
    · exact .inl ⟨a, bs, rfl, h1, q⟩
    · exact .inr ⟨a, bs, rfl, h1, q⟩
  · exact h.elim
@[simp] theorem fSumA_ref {S : Store} (a : Nat) : fSumA [.ref a] S = intsR ((itemsR (sg S a)).bind intsO) fun bs => .ok (.int bs.sum) S := by
  unfold fSumA one
  dsimp only
  rw [itemsO_ref]
  cases (itemsR (sg S a)).bind intsO <;> rfl
@[simp] theorem fSumA_tup {S : Store} (vs : List Val) : fSumA [.tup vs] S = intsR (intsO vs) fun bs => .ok (.int bs.sum) S := by
  unfold fSumA one
  dsimp only
  show (match (some vs).bind intsO with
    | some bs => R.ok (Val.int bs.sum) S
    | none => .bad) = _
  simp only [Option.bind_some]
  cases intsO vs <;> rfl
/-- any(xs) of a list of flags -/
def fAny : Fn := one fun v S => match (lstO v S).bind blsO with
  | some bs => .ok (.bl (bs.any id)) S
  | none => .bad
theorem c_any (hc : X.calm = true) : CallR X (.builtin "any") (rF X fAny) := CallR.imp (cr_any hc) fun us H Q h => by
  replace h := one_of h
  obtain ⟨u, rfl, ρ, S, x, s, v, h⟩ := h
  dsimp only at h
  split at h
  · rename_i bs e
    obtain ⟨vs, e1, e2⟩ := Option.bind_eq_some_iff.mp e
    obtain ⟨a, us, rfl, h1, h2⟩ := lst_of s v e1
    cases bls_of h2 e2
    exact ⟨a, bs, rfl, h1, Post.here (rel := relV X.K) s h (by simp [relV, VR])⟩
  · exact h.elim
def anyR (o : Option (List Bool)) (S : Store) : R Val := match o with
  | some bs => .ok (.bl (bs.any id)) S
  | none => .bad
@[simp] theorem anyR_some (bs : List Bool) (S : Store) : anyR (some bs) S = .ok (.bl (bs.any id)) S := rfl
@[simp] theorem fAny_R {S : Store} (a : Nat) : fAny [.ref a] S = anyR ((lstR (sg S a)).bind blsO) S := by
  unfold fAny one
  dsimp only
  rw [lstO_R]
  cases (lstR (sg S a)).bind blsO <;> rfl
@[simp] theorem any_map_id {α : Type} (f : α → Bool) (l : List α) : (l.map f).any id = l.any f := by rw [List.any_map]; rfl
end
end Mp

/-! Mp17: dicts with tuples as keys, texts as keys: for simp. -/
namespace Mp
open PySem (Str)
section
variable {S : Store} {a : Nat} {v : Val}
def ixTR (o : Option Ob) (k : Option (List Key)) (S : Store) : R Val := match o, k with
  | some (.dT kvs), some k => optR (valL kvs k) S
  | some (.fT kvs), some k => optR (valL kvs k) S
  | _, _ => .bad
@[simp] theorem ixTR_fT (kvs : List (List Key × Val)) (k : List Key) : ixTR (some (.fT kvs)) (some k) S = optR (valL kvs k) S := rfl
@[simp] theorem ixTR_some (kvs : List (List Key × Val)) (k : List Key) : ixTR (some (.dT kvs)) (some k) S = optR (valL kvs k) S := rfl
@[simp] theorem pIx_refT (ks : List Val) : pIx (.ref a) (.tup ks) S = ixTR (sg S a) (tkey ks) S := by
  show _ = ixTR S[a]? (tkey ks) S
  simp only [pIx]
  unfold ixTR optR
  cases S[a]? with
  | none => rfl
  | some o => cases o with
    | dT kvs =>
      dsimp only
      cases tkey ks with
      | none => rfl
      | some k => dsimp only; cases valL kvs k <;> rfl
    | fT kvs =>
      dsimp only
      cases tkey ks with
      | none => rfl
      | some k => dsimp only; cases valL kvs k <;> rfl
    | _ => rfl
def putTR (o : Option Ob) (a : Nat) (k : Option (List Key)) (v : Val) (S : Store) : R Unit := match o, k with
  | some (.dT kvs), some k => bite (decide (kvs.length < LIM)) (.ok () (ss S a (.dT (putL kvs k v)))) .bad
  | _, _ => .bad
@[simp] theorem putTR_some (kvs : List (List Key × Val)) (k : List Key) : putTR (some (.dT kvs)) a (some k) v S = bite (decide (kvs.length < LIM)) (.ok () (ss S a (.dT (putL kvs k v)))) .bad := rfl
@[simp] theorem pSet_refT (ks : List Val) : pSet (.ref a) (.tup ks) v S = putTR (sg S a) a (tkey ks) v S := by
  show _ = putTR S[a]? a (tkey ks) v S
  simp only [pSet]
  unfold putTR
  cases S[a]? with
  | none => rfl
  | some o => cases o with
    | dT kvs =>
      dsimp only
      cases tkey ks with
      | none => rfl
      | some k => rfl
    | _ => rfl
@[simp] theorem inKR_dT (kvs : List (List Key × Val)) (ks : List Val) (neg : Bool) : inKR (some (.dT kvs)) (.tup ks) neg S = match tkey ks with
    | some k => .ok (.bl (if neg then !(valL kvs k).isSome else (valL kvs k).isSome)) S
    | none => .bad := rfl
theorem tkey_some {ks : List Val} (h : ownC ks = false) : tkey ks = keysOf ks := by unfold tkey; rw [h]
@[simp] theorem tkey_pair (i j : Int) : tkey [.int i, .int j] = some [.inl i, .inl j] := by rw [tkey_some (ownC_pair i j)]; rfl
@[simp] theorem mDT_app (L : Loc) : mDT L S = .ok (.ref (sl S)) (sp S (.dT [])) := rfl
end
section
variable {S : Store} {L : Loc}
@[simp] theorem ixN_cast (n m : Nat) : L2.ixN n (m : Int) = if m < n then some m else none := ixN_nat n m
@[simp] theorem lookup_hit {α : Type} (a : String) (v : α) (r : List (Str × α)) : List.lookup (Str.ofString a) ((Str.ofString a, v) :: r) = some v := by simp [List.lookup_cons]
@[simp] theorem lookup_miss {α : Type} {a b : String} (h : ¬ a = b) (v : α) (r : List (Str × α)) : List.lookup (Str.ofString a) ((Str.ofString b, v) :: r) = List.lookup (Str.ofString a) r := by
  rw [List.lookup_cons]
  have : (Str.ofString a == Str.ofString b) = false := by rw [ofString_beq]; exact decide_eq_false h
  rw [this]
@[simp] theorem all_true {α : Type} (l : List α) : (l.all fun _ => true) = true := by simp
@[simp] theorem iEnum_app (a : MA) : iEnum a L S = (a L S).bind enumOf := rfl
@[simp] theorem enumOf_tup (vs : List Val) : enumOf [.tup vs] S = .ok ⟨enumL vs, fun _ => True⟩ S := rfl
def enR (o : Option Ob) (a : Nat) (S : Store) : R It := match o with
  | some (.lst vs) => .ok ⟨enumL vs, fun S' => sg S' a = some (.lst vs)⟩ S
  | _ => .bad
@[simp] theorem enR_some (vs : List Val) (a : Nat) : enR (some (.lst vs)) a S = .ok ⟨enumL vs, fun S' => sg S' a = some (.lst vs)⟩ S := rfl
@[simp] theorem enumOf_ref (a : Nat) : enumOf [.ref a] S = enR (sg S a) a S := by
  show _ = enR S[a]? a S
  unfold enumOf
  simp only [seqOf]
  unfold enR
  cases S[a]? with
  | none => rfl
  | some o => cases o <;> rfl
theorem enumL_map {α : Type} (f : α → Val) (l : List α) : enumL (l.map f) = l.zipIdx.map fun p => .tup [.int (p.2 : Nat), f p.1] := by
  unfold enumL
  apply List.ext_getElem?
  intro i
  simp only [List.getElem?_zipWith, List.getElem?_map, List.length_map, List.getElem?_zipIdx, Nat.zero_add]
  by_cases h : i < l.length
  · rw [List.getElem?_range h]
    simp [h]
  · have : l[i]? = none := List.getElem?_eq_none (by omega)
    rw [this]
    simp
theorem enumL_vals (vs : List Val) : enumL vs = vs.zipIdx.map fun p => .tup [.int (p.2 : Nat), p.1] := by
  have := enumL_map id vs
  simpa using this
end
end Mp

/-! KRa: rows of parcels, in plain Lean: written, and read. -/
namespace KR
open Mp
open PySem (Str)
/-! ### numbers -/
def wholeL (n : Nat) : List Int := if h : n < 128 then [(n : Int)] else ((128 + n % 128 : Nat) : Int) :: wholeL (n / 128)
termination_by n
decreasing_by omega
theorem wholeL_low {n : Nat} (h : n < 128) : wholeL n = [(n : Int)] := by rw [wholeL, dif_pos h]
theorem wholeL_high {n : Nat} (h : ¬ n < 128) : wholeL n = ((128 + n % 128 : Nat) : Int) :: wholeL (n / 128) := by rw [wholeL, dif_neg h]
def Bys (r : List Int) : Prop := ∀ b, b ∈ r → 0 ≤ b ∧ b < 256
theorem Bys.nil : Bys [] := fun b h => by cases h
theorem Bys.cons {b : Int} {r : List Int} (h : 0 ≤ b ∧ b < 256) (hr : Bys r) : Bys (b :: r) := fun c hc => by
  rcases List.mem_cons.mp hc with rfl | hc
  · exact h
  · exact hr c hc
theorem Bys.app {a b : List Int} (ha : Bys a) (hb : Bys b) : Bys (a ++ b) := fun c hc => by
  rcases List.mem_append.mp hc with hc | hc
  · exact ha c hc
  · exact hb c hc
theorem Bys.sub {a b : List Int} (hb : Bys b) (h : ∀ x, x ∈ a → x ∈ b) : Bys a := fun c hc => hb c (h c hc)
theorem Bys.drop {a : List Int} (h : Bys a) (k : Nat) : Bys (a.drop k) := h.sub fun _ hx => List.mem_of_mem_drop hx
theorem Bys.take {a : List Int} (h : Bys a) (k : Nat) : Bys (a.take k) := h.sub fun _ hx => List.mem_of_mem_take hx
theorem whole_bys : ∀ n : Nat, Bys (wholeL n) := fun n => by
  induction n using Nat.strongRecOn with
  | _ n ih =>
    by_cases h : n < 128
    · rw [wholeL_low h]; exact Bys.cons (by omega) Bys.nil
    · rw [wholeL_high h]; exact Bys.cons (by omega) (ih _ (by omega))
theorem whole_len (n : Nat) : 1 ≤ (wholeL n).length := by
  by_cases h : n < 128
  · rw [wholeL_low h]; simp
  · rw [wholeL_high h]; simp
/-- the value of the number that stands first, and how many bytes it has -/
def wRd : List Int → Option (Nat × Nat)
  | [] => none
  | b :: r => if b < 128 then some (b.toNat, 1) else (wRd r).map fun p => ((b % 128).toNat + 128 * p.1, p.2 + 1)
theorem wRd_whole (n : Nat) (s : List Int) : wRd (wholeL n ++ s) = some (n, (wholeL n).length) := by
  induction n using Nat.strongRecOn with
  | _ n ih =>
    by_cases h : n < 128
    · rw [wholeL_low h]
      show (if (n : Int) < 128 then _ else _) = _
      rw [if_pos (by omega)]
      simp
    · rw [wholeL_high h]
      show (if ((128 + n % 128 : Nat) : Int) < 128 then _ else _) = _
      rw [if_neg (by omega)]
      show (wRd (wholeL (n / 128) ++ s)).map _ = _
      rw [ih _ (by omega)]
      simp only [Option.map_some, List.length_cons]
      congr 2
      omega
theorem whole_last (n : Nat) (h : ¬ n < 128) : (wholeL n)[(wholeL n).length - 1]? ≠ some 0 := by
  induction n using Nat.strongRecOn with
  | _ n ih =>
    rw [wholeL_high h]
    by_cases h2 : n / 128 < 128
    · rw [wholeL_low h2]
      simp
      omega
    · have := ih _ (by omega) h2
      have l := whole_len (n / 128)
      have e : (((128 + n % 128 : Nat) : Int) :: wholeL (n / 128)).length - 1 = ((wholeL (n / 128)).length - 1) + 1 := by simp; omega
      rw [e, List.getElem?_cons_succ]
      exact this
theorem wRd_len : ∀ {s : List Int} {v k : Nat}, wRd s = some (v, k) → 1 ≤ k ∧ k ≤ s.length
  | [], v, k, h => by cases h
  | b :: r, v, k, h => by
    unfold wRd at h
    split at h
    · cases h; simp
    · cases e : wRd r with
      | none => rw [e] at h; cases h
      | some p =>
        rw [e] at h
        cases h
        have := wRd_len (v := p.1) (k := p.2) e
        simp
        omega
theorem wRd_pos : ∀ {s : List Int} {v k : Nat}, Bys s → wRd s = some (v, k) → s[k - 1]? ≠ some 0 → 1 ≤ v
  | [], v, k, _, h, _ => by cases h
  | b :: r, v, k, hb, h, hz => by
    unfold wRd at h
    have b0 := hb b (by simp)
    split at h
    · cases h
      simp at hz
      omega
    · cases e : wRd r with
      | none => rw [e] at h; cases h
      | some p =>
        rw [e] at h
        cases h
        have l := wRd_len (v := p.1) (k := p.2) e
        have := wRd_pos (v := p.1) (k := p.2) (fun c hc => hb c (List.mem_cons_of_mem _ hc)) e (by
          rw [show p.2 + 1 - 1 = (p.2 - 1) + 1 from by omega, List.getElem?_cons_succ] at hz
          exact hz)
        show 1 ≤ (b % 128).toNat + 128 * p.1
        omega
theorem wRd_back : ∀ {s : List Int} {v k : Nat}, Bys s → wRd s = some (v, k) → (k = 1 ∨ s[k - 1]? ≠ some 0) → wholeL v = s.take k
  | [], v, k, _, h, _ => by cases h
  | b :: r, v, k, hb, h, hz => by
    unfold wRd at h
    have b0 := hb b (by simp)
    split at h
    · cases h
      rename_i h1
      rw [wholeL_low (by omega)]
      simp
      omega
    · cases e : wRd r with
      | none => rw [e] at h; cases h
      | some p =>
        rw [e] at h
        rename_i h1
        have h' := Option.some.inj h
        have hv : (b % 128).toNat + 128 * p.1 = v := congrArg Prod.fst h'
        have hk : p.2 + 1 = k := congrArg Prod.snd h'
        subst hv hk
        have l := wRd_len (v := p.1) (k := p.2) e
        have hz' : r[p.2 - 1]? ≠ some 0 := by
          rcases hz with hz | hz
          · omega
          · rw [show p.2 + 1 - 1 = (p.2 - 1) + 1 from by omega, List.getElem?_cons_succ] at hz
            exact hz
        have br : Bys r := fun c hc => hb c (List.mem_cons_of_mem _ hc)
        have p1 := wRd_pos (v := p.1) (k := p.2) br e hz'
        have ih := wRd_back (v := p.1) (k := p.2) br e (.inr hz')
        rw [wholeL_high (by omega)]
        rw [List.take_succ_cons]
        congr 1
        · omega
        · rw [← ih]
          congr 1
          omega
/-! ### signs, parcels -/
def sgn (b : Int) : Bool := decide (32 ≤ b) && decide (b ≤ 126) && !decide (b = 37)
def shortS (s : Str) : Bool := decide (1 ≤ s.length) && decide (s.length ≤ 20) && s.cps.toList.all fun (c : Nat) => sgn (c : Int)
def isP : Nat → Val → Bool
  | _, .non => true
  | _, .bl _ => true
  | _, .int _ => true
  | _, .str s => shortS s
  | n + 1, .tup vs => vs.all (isP n)
  | 0, .tup _ => false
  | _, .ref _ => false
  | _, .fl _ => false
def bytI (i : Int) : List Int := if 0 ≤ i then 3 :: wholeL i.toNat else 4 :: wholeL (-1 - i).toNat
def codes (s : Str) : List Int := s.cps.toList.map fun (c : Nat) => (c : Int)
def bytV : Nat → Val → List Int
  | _, .non => [0]
  | _, .bl b => [if b then 2 else 1]
  | _, .int i => bytI i
  | _, .str s => 5 :: (wholeL s.length ++ codes s)
  | n + 1, .tup vs => 6 :: (wholeL vs.length ++ (vs.map (bytV n)).flatten)
  | 0, .tup _ => []
  | _, .ref _ => []
  | _, .fl _ => []
section
variable {n : Nat}
@[simp] theorem isP_non : isP n .non = true := by cases n <;> (unfold isP; rfl)
@[simp] theorem isP_bl (b : Bool) : isP n (.bl b) = true := by cases n <;> (unfold isP; rfl)
@[simp] theorem isP_int (b : Int) : isP n (.int b) = true := by cases n <;> (unfold isP; rfl)
@[simp] theorem isP_str (s : Str) : isP n (.str s) = shortS s := by cases n <;> (conv => lhs; unfold isP)
@[simp] theorem isP_tup (vs : List Val) : isP (n + 1) (.tup vs) = vs.all (isP n) := by conv => lhs; unfold isP
@[simp] theorem isP_tup0 (vs : List Val) : isP 0 (.tup vs) = false := by unfold isP; rfl
@[simp] theorem isP_ref (i : Nat) : isP n (.ref i) = false := by cases n <;> (unfold isP; rfl)
@[simp] theorem isP_fl (i : List Int) : isP n (.fl i) = false := by cases n <;> (unfold isP; rfl)
@[simp] theorem bytV_non : bytV n .non = [0] := by cases n <;> (unfold bytV; rfl)
@[simp] theorem bytV_bl (b : Bool) : bytV n (.bl b) = [if b then 2 else 1] := by cases n <;> (unfold bytV; rfl)
@[simp] theorem bytV_int (b : Int) : bytV n (.int b) = bytI b := by cases n <;> (unfold bytV; rfl)
@[simp] theorem bytV_str (s : Str) : bytV n (.str s) = 5 :: (wholeL s.length ++ codes s) := by cases n <;> (conv => lhs; unfold bytV)
@[simp] theorem bytV_tup (vs : List Val) : bytV (n + 1) (.tup vs) = 6 :: (wholeL vs.length ++ (vs.map (bytV n)).flatten) := by conv => lhs; unfold bytV
end
/-! ### the reader -/
inductive Rd (α : Type) where
  | ok (a : α) (p : Nat)
  | bad (p : Nat)
def rdW (r : List Int) (p : Nat) : Rd Nat := match wRd (r.drop p) with
  | none => .bad p
  | some (v, k) => if 1 < k ∧ r[p + k - 1]? = some 0 then .bad p else .ok v (p + k)
def rdSg (r : List Int) : Nat → Nat → Rd (List Nat)
  | 0, p => .ok [] p
  | k + 1, p => match r[p]? with
    | none => .bad p
    | some b => if sgn b = true then (match rdSg r k (p + 1) with
      | .ok s q => .ok (b.toNat :: s) q
      | .bad q => .bad q) else .bad p
def rdS (r : List Int) (p : Nat) : Rd Val := match rdW r p with
  | .bad q => .bad q
  | .ok k q => if 1 ≤ k ∧ k ≤ 20 then (match rdSg r k q with
    | .ok s q => .ok (.str ⟨s.toArray⟩) q
    | .bad q => .bad q) else .bad p
def rdMany (f : Nat → Rd Val) : Nat → Nat → Rd (List Val)
  | 0, p => .ok [] p
  | k + 1, p => match f p with
    | .bad q => .bad q
    | .ok v q => match rdMany f k q with
      | .bad q => .bad q
      | .ok vs q => .ok (v :: vs) q
def rdI (g : Nat → Int) (r : List Int) (p : Nat) : Rd Val := match rdW r p with
  | .bad q => .bad q
  | .ok k q => .ok (.int (g k)) q
def rdT (f : Nat → Rd Val) (r : List Int) (p : Nat) : Rd Val := match rdW r p with
  | .bad q => .bad q
  | .ok k q => match rdMany f k q with
    | .bad q => .bad q
    | .ok vs q => .ok (.tup vs) q
def rdOne (sub : Option (Nat → Rd Val)) (r : List Int) (p : Nat) : Rd Val := match r[p]? with
  | none => .bad p
  | some b => if 6 < b then .bad p else if b = 6 then (match sub with
    | none => .bad p
    | some f => rdT f r (p + 1)) else if b = 0 then .ok .non (p + 1) else if b = 1 then .ok (.bl false) (p + 1) else if b = 2 then .ok (.bl true) (p + 1)
    else if b = 5 then rdS r (p + 1) else if b = 3 then rdI (fun k => (k : Int)) r (p + 1) else rdI (fun k => -1 - (k : Int)) r (p + 1)
def rdP : Nat → List Int → Nat → Rd Val
  | 0, r, p => rdOne none r p
  | n + 1, r, p => rdOne (some (rdP n r)) r p
/-! ### what is written is read -/
theorem rdW_whole {r s : List Int} {p n : Nat} (h : r.drop p = wholeL n ++ s) : rdW r p = .ok n (p + (wholeL n).length) := by
  unfold rdW
  rw [h, wRd_whole]
  dsimp only
  rw [if_neg]
  rintro ⟨h1, h2⟩
  have l := whole_len n
  have hn : ¬ n < 128 := fun z => by rw [wholeL_low z] at h1; simp at h1
  apply whole_last n hn
  have e : (r.drop p)[(wholeL n).length - 1]? = some 0 := by
    rw [List.getElem?_drop, ← h2]
    congr 1
    omega
  rw [h, List.getElem?_append_left (by omega)] at e
  exact e
theorem drop_add {r a s : List Int} {p : Nat} (h : r.drop p = a ++ s) : r.drop (p + a.length) = s := by
  rw [← List.drop_drop, h, List.drop_left]
theorem drop_head {r s : List Int} {b : Int} {p : Nat} (h : r.drop p = b :: s) : r[p]? = some b ∧ r.drop (p + 1) = s := by
  constructor
  · have : (r.drop p)[0]? = some b := by rw [h]; rfl
    rw [List.getElem?_drop] at this
    simpa using this
  · exact drop_add (a := [b]) h
theorem rdSg_codes : ∀ {cs : List Nat} {r s : List Int} {p : Nat}, (∀ c, c ∈ cs → sgn (c : Int) = true) → r.drop p = cs.map (fun (c : Nat) => (c : Int)) ++ s → rdSg r cs.length p = .ok cs (p + cs.length)
  | [], r, s, p, _, _ => rfl
  | c :: cs, r, s, p, hc, h => by
    obtain ⟨e1, e2⟩ := drop_head h
    show (match r[p]? with
      | none => Rd.bad p
      | some b => _) = _
    rw [e1]
    dsimp only
    rw [if_pos (hc c (by simp)), rdSg_codes (s := s) (fun x hx => hc x (List.mem_cons_of_mem _ hx)) e2]
    simp
    omega
theorem codes_len (s : Str) : (codes s).length = s.length := by
  unfold codes
  rw [List.length_map, Array.length_toList]
  rfl
theorem rdS_codes {s : Str} {r t : List Int} {p : Nat} (hs : shortS s = true) (h : r.drop p = wholeL s.length ++ codes s ++ t) : rdS r p = .ok (.str s) (p + (wholeL s.length).length + s.length) := by
  unfold shortS at hs
  simp only [Bool.and_eq_true, decide_eq_true_eq, List.all_eq_true] at hs
  obtain ⟨⟨h1, h2⟩, h3⟩ := hs
  rw [List.append_assoc] at h
  unfold rdS
  rw [rdW_whole h]
  dsimp only
  rw [if_pos ⟨h1, h2⟩]
  have e := rdSg_codes (cs := s.cps.toList) (s := t) h3 (drop_add h)
  have l : s.cps.toList.length = s.length := Array.length_toList
  rw [l] at e
  rw [e]
theorem rdMany_bytes {n : Nat} {r : List Int} (ih : ∀ v s p, isP n v = true → r.drop p = bytV n v ++ s → rdP n r p = .ok v (p + (bytV n v).length)) :
    ∀ {vs : List Val} {s : List Int} {p : Nat}, (∀ v, v ∈ vs → isP n v = true) → r.drop p = (vs.map (bytV n)).flatten ++ s → rdMany (rdP n r) vs.length p = .ok vs (p + ((vs.map (bytV n)).flatten).length)
  | [], s, p, _, _ => by simp [rdMany]
  | v :: vs, s, p, hv, h => by
    rw [List.map_cons, List.flatten_cons, List.append_assoc] at h
    have e := ih v _ p (hv v (by simp)) h
    have e2 := rdMany_bytes ih (vs := vs) (s := s) (fun x hx => hv x (List.mem_cons_of_mem _ hx)) (drop_add h)
    show (match rdP n r p with
      | .bad q => Rd.bad q
      | .ok v q => _) = _
    rw [e]
    dsimp only
    rw [e2]
    simp
    omega
theorem rdP_bytes : ∀ {n : Nat} {v : Val} {r s : List Int} {p : Nat}, isP n v = true → r.drop p = bytV n v ++ s → rdP n r p = .ok v (p + (bytV n v).length) := by
  intro n
  induction n with
  | zero =>
    intro v r s p hv h
    cases v with
    | non =>
      obtain ⟨e1, _⟩ := drop_head (by simpa using h)
      unfold rdP rdOne
      rw [e1]
      simp
    | bl b =>
      obtain ⟨e1, _⟩ := drop_head (by simpa using h)
      unfold rdP rdOne
      rw [e1]
      cases b <;> simp
    | int i =>
      rw [bytV_int] at h ⊢
      unfold bytI at h ⊢
      by_cases z : 0 ≤ i
      · rw [if_pos z] at h ⊢
        obtain ⟨e1, e2⟩ := drop_head h
        unfold rdP rdOne
        rw [e1]
        simp [rdI, rdW_whole e2]
        omega
      · rw [if_neg z] at h ⊢
        obtain ⟨e1, e2⟩ := drop_head h
        unfold rdP rdOne
        rw [e1]
        simp [rdI, rdW_whole e2]
        omega
    | str x =>
      rw [bytV_str] at h ⊢
      obtain ⟨e1, e2⟩ := drop_head h
      unfold rdP rdOne
      rw [e1]
      rw [isP_str] at hv
      simp [rdS_codes hv e2, codes_len]
      omega
    | tup vs => rw [isP_tup0] at hv; cases hv
    | ref i => rw [isP_ref] at hv; cases hv
    | fl i => rw [isP_fl] at hv; cases hv
  | succ n ih =>
    intro v r s p hv h
    cases v with
    | non =>
      obtain ⟨e1, _⟩ := drop_head (by simpa using h)
      unfold rdP rdOne
      rw [e1]
      simp
    | bl b =>
      obtain ⟨e1, _⟩ := drop_head (by simpa using h)
      unfold rdP rdOne
      rw [e1]
      cases b <;> simp
    | int i =>
      rw [bytV_int] at h ⊢
      unfold bytI at h ⊢
      by_cases z : 0 ≤ i
      · rw [if_pos z] at h ⊢
        obtain ⟨e1, e2⟩ := drop_head h
        unfold rdP rdOne
        rw [e1]
        simp [rdI, rdW_whole e2]
        omega
      · rw [if_neg z] at h ⊢
        obtain ⟨e1, e2⟩ := drop_head h
        unfold rdP rdOne
        rw [e1]
        simp [rdI, rdW_whole e2]
        omega
    | str x =>
      rw [bytV_str] at h ⊢
      obtain ⟨e1, e2⟩ := drop_head h
      unfold rdP rdOne
      rw [e1]
      rw [isP_str] at hv
      simp [rdS_codes hv e2, codes_len]
      omega
    | tup vs =>
      rw [bytV_tup] at h ⊢
      rw [isP_tup, List.all_eq_true] at hv
      obtain ⟨e1, e2⟩ := drop_head (s := wholeL vs.length ++ ((vs.map (bytV n)).flatten ++ s)) (by rw [h, List.cons_append, List.append_assoc])
      have e3 := rdMany_bytes (n := n) (r := r) (fun v s p h1 h2 => ih h1 h2) (vs := vs) (s := s) hv (drop_add e2)
      unfold rdP rdOne
      rw [e1]
      simp only [rdT, rdW_whole e2, e3]
      simp
      omega
    | ref i => rw [isP_ref] at hv; cases hv
    | fl i => rw [isP_fl] at hv; cases hv
end KR

/-! MpH: the drawing hand at number 1, its cells at 0. -/
namespace Mp
open PySem (Str)
def Hand (S : Store) : Prop := ∃ (ns : List Int) (a : Nat) (b s k : Int), sg S 1 = some (.lst [.ref 0, .int a, .int b, .int s, .int k]) ∧ sg S 0 = some (.lst (ns.map Val.int)) ∧ a ≤ ns.length ∧ 0 ≤ b
/-- o is a hand's object from now on -/
def HOb (S : Store) (o : Ob) : Prop := Hand (ss S 1 o) ∧ ∀ n, 0 < n → obBelow n o = true
theorem Hand.lt {S : Store} (H : Hand S) : 1 < sl S := by
  obtain ⟨ns, a, b, s, k, e1, _⟩ := H
  exact sg_lt e1
theorem Hand.pos {S : Store} (H : Hand S) : 0 < sl S := Nat.lt_trans Nat.zero_lt_one H.lt
theorem Hand.of {S S' : Store} (H : Hand S) (e1 : sg S' 1 = sg S 1) (e0 : sg S' 0 = sg S 0) : Hand S' := by
  obtain ⟨ns, a, b, s, k, q1, q0, r⟩ := H
  exact ⟨ns, a, b, s, k, e1.trans q1, e0.trans q0, r⟩
theorem Hand.sp {S : Store} (H : Hand S) (o : Ob) : Hand (Mp.sp S o) := H.of (sg_sp_lt H.lt) (sg_sp_lt H.pos)
theorem Hand.ss {S : Store} (H : Hand S) {i : Nat} (h : 2 ≤ i) (o : Ob) : Hand (Mp.ss S i o) := H.of (sg_ss_ne (by omega)) (sg_ss_ne (by omega))
theorem HOb.hand {S : Store} {o : Ob} (h : HOb S o) : Hand (Mp.ss S 1 o) := h.1
theorem HOb.trans {S : Store} {o o' : Ob} (h : HOb (Mp.ss S 1 o) o') : HOb S o' := ⟨by have := h.1; rw [ss_ss] at this; exact this, h.2⟩
/-- without a draw -/
theorem Hand.same {S : Store} (H : Hand S) : ∃ o, Mp.ss S 1 o = S ∧ HOb S o := by
  obtain ⟨ns, a, b, s, k, e1, e0, r⟩ := H
  have e : Mp.ss S 1 (.lst [.ref 0, .int a, .int b, .int s, .int k]) = S := by
    apply List.ext_getElem?
    intro i
    by_cases hi : i = 1
    · subst hi
      have : sg (Mp.ss S 1 (.lst [.ref 0, .int a, .int b, .int s, .int k])) 1 = sg S 1 := by rw [sg_ss_same (by rw [e1]; rfl), e1]
      exact this
    · exact sg_ss_ne (S := S) hi
  exact ⟨_, e, by rw [e]; exact ⟨ns, a, b, s, k, e1, e0, r⟩, fun n hn => by simp [hn]⟩
theorem HOb.mk' {S : Store} {ns : List Int} {a : Nat} {b s k : Int} (e1 : (sg S 1).isSome = true) (e0 : sg S 0 = some (.lst (ns.map Val.int))) (ha : a ≤ ns.length) (hb : 0 ≤ b) {a' : Int} (ea : a' = a) : HOb S (.lst [.ref 0, .int a', .int b, .int s, .int k]) :=
  ⟨⟨ns, a, b, s, k, by rw [ea]; exact sg_ss_same e1, by rw [sg_ss_ne (by decide)]; exact e0, ha, hb⟩, fun n hn => by simp [hn]⟩
theorem cR1 (i : Int) : cmul i 48271 = true := cmul_right (by decide) (by decide)
theorem cR2 (i : Int) : cmul i 69621 = true := cmul_right (by decide) (by decide)
theorem cR3 (i : Int) : cmul 7919 i = true := cmul_left (by decide) (by decide)
theorem cR4 (i : Int) : cmul i 16 = true := cmul_right (by decide) (by decide)
theorem cM1 (i j : Int) : cmul (i % 2147483647) j = true := cmul_left (by omega) (by omega)
end Mp
namespace Mp
open PySem (Str)
/-- behind draws: the hand's object alone is another one -/
theorem cut_hand {S S' : Store} (K : Keep 1 S S') (H : Hand S) (H' : Hand S') : ∃ o, cut (sl S) S' = ss S 1 o ∧ HOb S o ∧ GcOk S S' := by
  obtain ⟨ns, a, b, s, k, e1, e0, r⟩ := id H'
  have hl := H.lt
  have lo : ∀ n, 0 < n → obBelow n (.lst [.ref 0, .int a, .int b, .int s, .int k]) = true := fun n hn => by simp [hn]
  have e : cut (sl S) S' = ss S 1 (.lst [.ref 0, .int a, .int b, .int s, .int k]) := by
    apply List.ext_getElem?
    intro i
    by_cases hi : i < sl S
    · rw [cut_get hi]
      by_cases h1 : i = 1
      · subst h1
        have : sg (ss S 1 (.lst [.ref 0, .int a, .int b, .int s, .int k])) 1 = some (.lst [.ref 0, .int a, .int b, .int s, .int k]) := sg_ss_same (by obtain ⟨_, _, _, _, _, q, _⟩ := H; rw [q]; rfl)
        exact e1.trans this.symm
      · exact (K.2 i hi h1).trans (sg_ss_ne h1).symm
    · have h1 : (cut (sl S) S').length ≤ i := by rw [cut_len K.1]; unfold sl at hi; omega
      have h2 : (ss S 1 (.lst [.ref 0, .int a, .int b, .int s, .int k])).length ≤ i := by unfold ss; rw [List.length_set]; unfold sl at hi; omega
      rw [List.getElem?_eq_none h1, List.getElem?_eq_none h2]
  refine ⟨_, e, ⟨?_, lo⟩, K.1, fun i hi => ?_⟩
  · rw [← e]
    exact H'.of (by unfold sg; exact cut_get hl) (by unfold sg; exact cut_get H.pos)
  · by_cases h1 : i = 1
    · subst h1
      exact .inr ⟨_, e1, lo _ H.pos⟩
    · exact .inl (K.2 i hi h1)
theorem gcR_hand {S S' : Store} {v : Val} (K : Keep 1 S S') (H : Hand S) (H' : Hand S') (hb : below (sl S) v = true) : ∃ o, gcR S (.ok v S') = .ok v (ss S 1 o) ∧ HOb S o := by
  obtain ⟨o, e, ho, g⟩ := cut_hand K H H'
  exact ⟨o, by rw [gcR_ok, gate_pos g, gcV_low hb, e], ho⟩
theorem HOb.keepS {S : Store} {o : Ob} (_ : HOb S o) : Keep 1 S (ss S 1 o) := Keep.ss 1 S o
end Mp

/-! MpR: a loop, whatever its turns do. -/
namespace Mp
/-- each turn goes on, or ends the loop as E tells -/
theorem forLoop_gen {keep : Store → Prop} {g : MG} {b : MS} (I : Nat → Loc → Store → Prop) (E : F → Prop) {xs : List Val} {L : Loc} {S : Store} (h0 : I 0 L S) (hk : ∀ i L S, i ≤ xs.length → I i L S → keep S) (he : ∀ L S, I xs.length L S → E (.nx L S))
    (hs : ∀ i x L S, xs[i]? = some x → I i L S → (∃ L2 S2, (forOne g b x L S = .nx L2 S2 ∨ forOne g b x L S = .ct L2 S2) ∧ I (i + 1) L2 S2) ∨ (∃ L2 S2, forOne g b x L S = .bk L2 S2 ∧ E (.nx L2 S2)) ∨ (∃ v S2, forOne g b x L S = .rt v S2 ∧ E (.rt v S2)) ∨ (∃ e L2 S2, forOne g b x L S = .exn e L2 S2 ∧ E (.exn e L2 S2))) : E (forLoop keep g b xs L S) := by
  have key : ∀ (ys : List Val) (i : Nat) (L : Loc) (S : Store), xs.drop i = ys → i ≤ xs.length → I i L S → E (forLoop keep g b ys L S) := by
    intro ys
    induction ys with
    | nil =>
      intro i L S hd hi hI
      have : xs.length ≤ i := by
        have := congrArg List.length hd
        simp at this
        omega
      have e : i = xs.length := by omega
      subst e
      rw [forLoop_nil, gate_pos (hk _ _ _ (Nat.le_refl _) hI)]
      exact he L S hI
    | cons y ys ih =>
      intro i L S hd hi hI
      have hx : xs[i]? = some y := by
        have : (xs.drop i)[0]? = some y := by rw [hd]; rfl
        simpa using this
      have hlt := (List.getElem?_eq_some_iff.mp hx).1
      have hys : xs.drop (i + 1) = ys := by
        have : (xs.drop i).drop 1 = ys := by rw [hd]; rfl
        rw [List.drop_drop] at this
        exact this
      rw [forLoop_cons, gate_pos (hk _ _ _ hi hI)]
      rcases hs i y L S hx hI with ⟨L2, S2, h | h, hI2⟩ | ⟨L2, S2, h, hE⟩ | ⟨v, S2, h, hE⟩ | ⟨e, L2, S2, h, hE⟩
      · rw [h, turn_nx]; exact ih (i + 1) L2 S2 hys hlt hI2
      · rw [h, turn_ct]; exact ih (i + 1) L2 S2 hys hlt hI2
      · rw [h]; exact hE
      · rw [h]; exact hE
      · rw [h]; exact hE
  exact key xs 0 L S rfl (Nat.zero_le _) h0
/-- drawn things in a comprehension -/
theorem lc_hand {α : Type} {L : Loc} {v : Nat} {e : ME} (rep : α → Val) (P : α → Prop) {xs : List Val} {S : Store} (H : Hand S) (hx : xs.length < 100000)
    (h : ∀ x o, x ∈ xs → HOb S o → ∃ a o', e (L.set v (some x)) (ss S 1 o) = .ok (rep a) (ss S 1 o') ∧ HOb S o' ∧ P a) :
    ∃ (as : List α) (o : Ob), lcLoop (fun _ => True) L (gN v) tYes e xs [] S = .ok (as.map rep) (ss S 1 o) ∧ HOb S o ∧ as.length = xs.length ∧ ∀ a, a ∈ as → P a := by
  obtain ⟨ws, S', e, as, o, rfl, rfl, ho, hl, hb⟩ := lcLoop_inv (keep := fun _ => True) (L := L) (g := gN v) (c := tYes) (e := e)
    (fun i acc S' => ∃ (as : List α) (o : Ob), acc = as.map rep ∧ S' = ss S 1 o ∧ HOb S o ∧ as.length = i ∧ ∀ a, a ∈ as → P a) (xs := xs) (S := S)
    (by obtain ⟨o, e, h⟩ := H.same; exact ⟨[], o, rfl, e.symm, h, rfl, by simp⟩) (fun _ _ S' _ _ => trivial) (fun i x acc S' hx' q => by
      obtain ⟨as, o, rfl, rfl, ho, hl, hb⟩ := q
      obtain ⟨a, o', e, h2, hp⟩ := h x o (List.mem_of_getElem? hx') ho
      have hi := (List.getElem?_eq_some_iff.mp hx').1
      refine ⟨L.set v (some x), ss S 1 o, ss S 1 o, rfl, .inl ⟨rfl, rep a, ss S 1 o', e, by rw [List.length_map, hl]; unfold LIM; omega, as ++ [a], o', by simp, rfl, h2, by simp [hl], fun b hb' => ?_⟩⟩
      rcases List.mem_append.mp hb' with hb' | hb'
      · exact hb b hb'
      · simp at hb'
        subst hb'
        exact hp)
  exact ⟨as, o, e, ho, hl, hb⟩
end Mp

/-! MpX: own errors with a field. -/
namespace PySem
namespace X_part
open PySem.W PySem.Calls PyProof.Rows PySem.HandSPX
/-! ### the text of __init__ -/
def iA (p1 p2 : Pos) : Arguments := { posonlyargs := [], args := [{ arg := "self", annotation := none, pos := p1 }, { arg := "part", annotation := none, pos := p2 }], vararg := none, kwonlyargs := [], kw_defaults := [], kwarg := none, defaults := [] }
def iB (q1 q2 q3 q4 : Pos) : List Stmt := [.Assign [.Attribute (.Name "self" q1) "part" q2] (.Name "part" q3) q4]
def iS : Scope := { kind := .function, names := [(PySem.Str.ofString "self", .local), (PySem.Str.ofString "part", .local)], isGenerator := false, isCoroutine := false, more := [] }
/-- what the written part says of Low, at C, and of its __init__, at fI -/
structure LowTxt (K : Frag) (mg : Str → Option Value) (c qn : Str) (C fI : Addr) : Prop where
  gC : mg c = some (.ref C)
  cls : ∃ nm q N bs bm sn sub ab col dd k0 k1 k2 k3 k5, K.lookup C = some (excClassObj nm q C N bs bm true sn sub ab col dd k0 k1 k2 k3 k5 "ValueError.__new__") ∧ refsVE bm = true
  sa : findIn K (.ref C) "__setattr__" = some (some (.builtin "object.__setattr__"))
  ga : findIn K (.ref C) "__getattribute__" = some (some (.builtin "BaseException.__getattribute__"))
  gg : findIn K (.ref C) "__getattr__" = some none
  noN : findIn K (.ref C) "part" = some none
  iC : findIn K (.ref C) "__init__" = some (some (.ref fI))
  tC : typeIn K (.ref fI) = some (.type "function")
  kC : keepIn K (.ref C) = true
  exC : subIn K (.ref C) (.type "BaseException") = some true
  tyC : typeIn K (.ref C) = some (.type "type")
  hdC : hasDictIn K C = true
  te : exmOne K (.ref C) (.ref C) = some true
  fn : ∃ (oc : Value) (od : Option Addr) (doc pm : Value) (an : Option Addr) (cdv ct : Value) (osl : Array (Option Value)) (p1 p2 q1 q2 q3 q4 : Pos),
    K.lookup fI = some ⟨oc, od, .func (fnOf "__init__" qn (iA p1 p2) (iB q1 q2 q3 q4) iS .none .none doc pm an cdv ct), osl⟩ ∧ codeIn K cdv qn = true
theorem one_size (v : Value) : [v].length ≤ sizeLine := by
  rw [sizeLine_eq]
  exact (by decide : 1 ≤ 16777216)
theorem kept_but {K : Frag} {h h' : Heap} {x : Addr} (X : K.In h) (hx : K.lookup x = none) (k : ∀ b o, b ≠ x → h.get? b = some o → h'.get? b = some o) : K.In h' := fun a o e =>
  k a o (fun z => by rw [z, hx] at e; cases e) (X a o e)
theorem ldC {M : Model} {s : Shared} {name : Str} {scope : Scope} {L a : Addr} {cd : Value} {m : Str → Option Value} {x : Str} {pos : Pos} {v : Value} {Q : Value → Shared → Prop} {A : Around} {E : Value → Shared → Prop} (hn : s.heap.Ns L m) (hv : m x = some v) (h : Q v s)
    (hk : scope.kind = .function := by rfl) (hl : (envOfC name scope L a cd).kindOf x = some .local := by rfl) (hd : (x == ("__debug__" : Str)) = false := by decide) :
    wpAny M A (eval (.Name x pos) (envOfC name scope L a cd)) Q E s := wpAny_Name (wpAny_loadName_local hk hl hn hv h) hd
/-- what __init__ leaves of a fresh exception at x -/
structure InitEnd (h h' : Heap) (x C dx t1 : Addr) (v : Value) : Prop where
  keep : ∀ b o, b ≠ x → h.get? b = some o → h'.get? b = some o
  obj : h'.get? x = some { cls := .ref C, dict := some dx, data := .fields #[.ref t1, .none, .none, .none, .bool false, .none] }
  dbig : h.objs.size ≤ dx
  dne : dx ≠ x
  ns : h'.Ns1 dx (fun y => if y = "part" then some v else none)
/-- a made Low -/
structure OwnMade (h h' : Heap) (e C d : Addr) (v : Value) : Prop where
  keep : ∀ b o, h.get? b = some o → h'.get? b = some o
  new : h.objs.size ≤ e
  obj : ∃ oe vs, h'.get? e = some oe ∧ oe.cls = .ref C ∧ oe.dict = some d ∧ oe.data = .fields vs ∧ vs[1]? = some .none
  dbig : h.objs.size ≤ d
  dne : d ≠ e
  ns : h'.Ns1 d (fun y => if y = "part" then some v else none)
section
variable {prog : Program} {w : World} {A : Around} {E : Value → Shared → Prop} {R : Result → Shared → Prop} {s : Shared} {K : Frag} {mg : Str → Option Value} {C fI : Addr} {c qn : Str}
theorem low_init (T : LowTxt K mg c qn C fI) {x t0 : Addr} {v : Value} (X : K.In s.heap) (hlim : s.heap.NoLimit) (hx : s.heap.get? x = some (excO C t0)) (hnx : K.lookup x = none) (hroom : A.depth < recursionLimit)
    (hq : ∀ h' tk dx, InitEnd s.heap h' x C dx t0 v → R (.ok (.ret .none)) { s with heap := h', toks := tk }) :
    codeAny (model prog w) A (.call (.ref fI) ⟨[.ref x, v], []⟩) R s := by
  obtain ⟨oc, od, doc, pm, an, cdv, ct, osl, p1, p2, q1, q2, q3, q4, ho, hcd⟩ := T.fn
  obtain ⟨nm, q, N, bs, bm, sn, sub, ab, col, dd, k0, k1, k2, k3, k5, hC, hbm⟩ := T.cls
  have hcl : clsIn K C = some { name := nm, bases := bs, mro := .ref C :: bm, ns := N, qualname := q, hasDict := true, slotNames := sn, subclasses := sub, abstract := ab, collection := col, hasDel := false } := by unfold clsIn; rw [hC] <;> rfl
  refine Att.call_fn (binds := [("self", .ref x), ("part", v)]) X hlim ho hcd hroom (BindsTo.of_eq (by first | rfl | with_unfolding_all rfl)) (by first | rfl | decide | with_unfolding_all rfl) (fun s₁ IC => ?_) rfl rfl rfl
  obtain ⟨h₁, tk₁, rfl⟩ := IC.toInCall.same
  have k : ∀ b o, s.heap.get? b = some o → h₁.get? b = some o := IC.toInCall.keep
  have hn := IC.toInCall.ns
  have hxL : s.heap.objs.size ≠ x := Nat.ne_of_gt (Heap.lt_size hx)
  have X₁ : K.In h₁ := X.keeps k
  have hx₁ := k _ _ hx
  -- self.by = by
  show wpAny _ _ (execs _ _) _ _ _
  refine wpAny_execs_cons (plainObj_wpAny_Assign_Attribute ?_)
  refine ldC (v := v) hn (by first | rfl | with_unfolding_all rfl | kernel_rfl) (ldC (v := .ref x) hn (by first | rfl | with_unfolding_all rfl | kernel_rfl) ?_)
  refine set_plain X₁ (ox := excO C t0) (od := none) ⟨hx₁, rfl, rfl, trivial⟩ T.sa ?_
  refine exc_osa X₁ hx₁ hcl (show refsVE (.ref C :: bm) = true from hbm) rfl T.noN (fun h₃ tk₃ dx k₃ dn dne hx₃ hn₃ => ?_)
  show wpAny _ _ (execs _ _) _ _ _
  have z : s.heap.objs.size < h₁.objs.size := hn.lt
  exact wpAny_execs_nil (hq h₃ tk₃ dx ⟨fun b o hb e => k₃ b o hb (k b o e), hx₃, Nat.le_of_lt (Nat.lt_of_lt_of_le z dn), dne, hn₃⟩)
theorem low_made (T : LowTxt K mg c qn C fI) {v : Value} (X : K.In s.heap) (hlim : s.heap.NoLimit) (hroom : A.depth + 1 < recursionLimit)
    (hq : ∀ h' tk e d, OwnMade s.heap h' e C d v → R (.ok (.ret (.ref e))) { s with heap := h', toks := tk }) :
    codeAny (model prog w) A (.call (.ref C) ⟨[v], []⟩) R s := by
  obtain ⟨nm, q, N, bs, bm, sn, sub, ab, col, dd, k0, k1, k2, k3, k5, hC, hbm⟩ := T.cls
  obtain ⟨hp, g, dr, tk, os⟩ := s
  have k : ∀ b o, hp.get? b = some o → ((hp.push (kdv_tup [v])).push (excO C hp.objs.size)).get? b = some o := fun b o e => Heap.get?_push_of_some _ (Heap.get?_push_of_some _ e)
  have hget : ((hp.push (kdv_tup [v])).push (excO C hp.objs.size)).get? (hp.objs.size + 1) = some (excO C hp.objs.size) := by heap_get
  have hnx : K.lookup (hp.objs.size + 1) = none := by
    cases e : K.lookup (hp.objs.size + 1) with
    | none => rfl
    | some o =>
      have z : hp.get? (hp.objs.size + 1) = some o := X _ _ e
      exact absurd (Nat.lt_of_succ_lt (Heap.lt_size z)) (Nat.lt_irrefl _)
  refine call_own F.excBase_ValueError (fun X => refsVE_contains X bm hbm) (X _ _ hC) (looks_findIn X T.iC) (fun self => bind_fn X self T.tC) (one_size v) ?_
  refine low_init (s := ⟨(hp.push (kdv_tup [v])).push (excO C hp.objs.size), g, dr, tk, os⟩) T (X.keeps k) (hlim.keeps k) hget hnx ?_ fun h' tk' dx ⟨k', hx, dn, dne, hns⟩ => ?_
  · show A.depth + 1 < recursionLimit
    exact hroom
  · have old : ∀ b o, hp.get? b = some o → h'.get? b = some o := fun b o e => k' b o (Nat.ne_of_lt (Nat.lt_succ_of_lt (Heap.lt_size e))) (k b o e)
    have z : hp.objs.size + 1 + 1 ≤ dx := by
      first
        | (simpa only [Heap.size_push] using dn)
        | exact dn
        | (have q := dn; rw [Heap.size_push, Heap.size_push] at q; exact q)
    exact ⟨rfl, hq h' tk' (hp.objs.size + 1) dx ⟨old, Nat.le_succ _, ⟨_, _, hx, rfl, rfl, rfl, rfl⟩, Nat.le_trans (Nat.le_trans (Nat.le_succ _) (Nat.le_succ _)) z, dne, hns⟩⟩
end
end X_part
end PySem
namespace L2
open PySem PySem.Spec PyProof.Rows
theorem relO_low_part {v : V} {v' : Value} (r : RelV v v') (f : Str) : RelO (List.lookup f [(("part" : Str), v)]) (if f = "part" then some v' else none) := by
  by_cases hw : f = "part"
  · subst hw
    rw [if_pos rfl]
    have q : List.lookup ("part" : Str) [(("part" : Str), v)] = some v := by simp [List.lookup]
    rw [q]
    exact r
  · rw [if_neg hw]
    have qw : (f == ("part" : Str)) = false := by simpa using hw
    have q2 : List.lookup f [(("part" : Str), v)] = none := by simp [List.lookup, qw]
    rw [q2]
    trivial
section
variable {X : Cx} {C fI : Addr} {c qn : Str}
/-- Low(e) -/
def tMkLow_part (C : Addr) (ta : TA) : St → Hp → XK → Prop := fun σ H Q => ta σ H fun vs H1 => ∃ v, vs = [v] ∧ ∀ d, H1 d = none → Q (.ref C) (some d) (upd H1 d (.xd [(("part" : Str), v)]))
theorem pmk_low_part {a : Expr} {ta : TA} {p pos : Pos} {k : Nat} (T : PySem.X_part.LowTxt X.K X.mg c qn C fI) (hr : Room k X.A) (ha : PA X [a] ta) (hg : Gl X c := by rfl) (hdb : (c == ("__debug__" : Str)) = false := by decide)
    (he : starEach (a :: []) X.env = (false, eval a X.env) :: starEach [] X.env := by rfl) (hpl : (backTo pos (starEach [] X.env)).any (·.1) = false := by rfl) :
    PMk X (.Call (.Name c p) [a] [] pos) (tMkLow_part C ta) := by
  intro pins s σ H Q I h
  refine wpAny_Call_Name_kw (ld_glob I hg T.gC ?_ hdb)
  refine PySem.W.callWith_K (h₀ := X.base) I.ok.mod.kin T.kC (thn (ha.run pos pins s σ H _ I h) fun us s1 hh => ?_) he hpl
  obtain ⟨vs, H1, I1, r1, v, ev, q1⟩ := hh
  subst ev
  refine ⟨I1.kIn, ?_⟩
  cases r1 with
  | cons rv rn =>
    rename_i v' us'
    cases rn
    show wpAny _ _ (call (.ref C) [v']) _ _ _
    have hlim := I1.nolimit
    obtain ⟨hp, g, dr, tk, os⟩ := s1
    refine wpAny_call (PySem.X_part.low_made T I1.kIn hlim (by have := hr.dp; omega) fun h' tk' e d M => ?_)
    show MkP X pins σ Q (.ref e) ⟨h', g, dr, tk', os⟩
    obtain ⟨oe, fv, hoe, hc, hd, hdat, h1⟩ := M.obj
    have hns := M.ns
    obtain ⟨G', g1, g2⟩ := restrict h' fun b => decide (b ≠ e)
    have gk : ∀ b, b ≠ e → G'.get? b = h'.get? b := fun b hb => g1 b (decide_eq_true hb)
    have ge : G'.get? e = none := g2 e (by simp)
    have old : ∀ b o, hp.get? b = some o → G'.get? b = some o := fun b o q => (gk b (Nat.ne_of_lt (Nat.lt_of_lt_of_le (Heap.lt_size q) M.new))).trans (M.keep b o q)
    have ob : ObjOk X.prog X.w (upd H1 d (.xd [(("part" : Str), v)])) G' d (.xd [(("part" : Str), v)]) :=
      ⟨_, hns.at (fun o q => (gk d M.dne).trans q), fun f => relO_low_part rv f⟩
    have J : Inv X pins σ (upd H1 d (.xd [(("part" : Str), v)])) ⟨G', g, dr, tk', os⟩ := I1.laid (t' := tk') old M.dbig ob
    refine ⟨e, oe, fv, ⟨G', g, dr, tk', os⟩, _, .ref C, some d, rfl, J, fun b o q => ?_, ge, hoe, ⟨hc, hd⟩, hdat, h1, ?_, rfl, I1.bare, raises_own T.exC T.tyC, q1 d (I1.hok.fresh M.dbig)⟩
    · by_cases hb : b = e
      · have q' : G'.get? b = some o := q
        rw [hb, ge] at q'; cases q'
      · exact (gk b hb).symm.trans q
    · rw [upd_ne (Ne.symm M.dne)]
      exact I1.hok.fresh M.new
/-- raise Low(e) -/
def tRaiseLow_part (C : Addr) (W : WX) (ta : TA) : TS := fun _ σ H => tMkLow_part C ta σ H fun cls d H' => W cls d σ H'
theorem ps_raiseLow_part {a : Expr} {ta : TA} {W : WX} {p pos pos2 : Pos} {k : Nat} (hc : X.calm = true) (T : PySem.X_part.LowTxt X.K X.mg c qn C fI) (hr : Room k X.A) (tk : Takes X W) (ha : PA X [a] ta) (hg : Gl X c := by rfl) (hdb : (c == ("__debug__" : Str)) = false := by decide)
    (he : starEach (a :: []) X.env = (false, eval a X.env) :: starEach [] X.env := by rfl) (hpl : (backTo pos (starEach [] X.env)).any (·.1) = false := by rfl) :
    PS X (.Raise (some (.Call (.Name c p) [a] [] pos)) none pos2) (tRaiseLow_part C W ta) := ps_raise hc tk (pmk_low_part T hr ha hg hdb he hpl)
/-- low.by, low the exception that the suite holds (at a; its class cls, its dict d) -/
def tByLow_part (C : Addr) (a : Addr) (cls : Value) (d : Option Addr) (te : TE) : TE := fun σ H Q => te σ H fun x H1 => x = .ref a ∧ cls = .ref C ∧ ∃ (dd : Addr) (v : V), d = some dd ∧ H1 dd = some (.xd [(("part" : Str), v)]) ∧ Q v H1
theorem pe_byLow_part {a : Addr} {oe : Obj} {cls : Value} {d : Option Addr} {pn : List (Addr × Obj)} {e : Expr} {te : TE} {pos : Pos} (T : PySem.X_part.LowTxt X.K X.mg c qn C fI) (hz : Zc cls d oe) (hf : ∃ vs, oe.data = .fields vs) (he : PE (X.suite a ((a, oe) :: pn)) e te)
    (hb : attributeBase e "part" X.env (eval e X.env) = eval e X.env := by rfl) :
    PE (X.suite a ((a, oe) :: pn)) (.Attribute e "part" pos) (tByLow_part C a cls d te) := by
  refine ⟨fun pins s σ H Q I h => ?_⟩
  refine attr_of hb (thn (he.run pins s σ H _ I h) fun u s1 hh => ?_)
  obtain ⟨x, H1, I1, rx, ex, ec, dd, v, ed, ea, q⟩ := hh
  subst ex
  obtain rfl : u = Value.ref a := rx
  subst ec
  subst ed
  obtain ⟨ha, _⟩ := I1.pin (a, oe) (List.mem_append_left _ List.mem_cons_self)
  obtain ⟨vs, hd⟩ := hf
  have hx : ObjOk X.prog X.w H1 s1.heap dd (.xd [(("part" : Str), v)]) := I1.hok dd _ ea
  obtain ⟨mA, hns, hr⟩ := hx
  obtain ⟨od, ho, hl⟩ := lookIn_ns hns
  have l : List.lookup ("part" : Str) [(("part" : Str), v)] = some v := by simp [List.lookup]
  obtain ⟨u, hu, ru⟩ := RelO.some_of (v := v) (o := mA "part") (by rw [← l]; exact hr "part")
  have J : PySem.W.InstAt s1.heap a oe C (some od) := ⟨ha, hz.1, by unfold PySem.W.notCls; rw [hd] <;> rfl, by rw [hz.2]; exact ho⟩
  exact HandSPX.exc_get I1.kIn J T.ga T.gg T.exC (PySem.W.findObj_own T.hdC T.noN rfl (by rw [hl, hu])) (handed_of ru) ⟨v, H1, I1.tok _, ru, q⟩
end
end L2


namespace PySem
namespace X_most
open PySem.W PySem.Calls PyProof.Rows PySem.HandSPX
/-! ### the text of __init__ -/
def iA (p1 p2 : Pos) : Arguments := { posonlyargs := [], args := [{ arg := "self", annotation := none, pos := p1 }, { arg := "most", annotation := none, pos := p2 }], vararg := none, kwonlyargs := [], kw_defaults := [], kwarg := none, defaults := [] }
def iB (q1 q2 q3 q4 : Pos) : List Stmt := [.Assign [.Attribute (.Name "self" q1) "most" q2] (.Name "most" q3) q4]
def iS : Scope := { kind := .function, names := [(PySem.Str.ofString "self", .local), (PySem.Str.ofString "most", .local)], isGenerator := false, isCoroutine := false, more := [] }
/-- what the written part says of Low, at C, and of its __init__, at fI -/
structure LowTxt (K : Frag) (mg : Str → Option Value) (c qn : Str) (C fI : Addr) : Prop where
  gC : mg c = some (.ref C)
  cls : ∃ nm q N bs bm sn sub ab col dd k0 k1 k2 k3 k5, K.lookup C = some (excClassObj nm q C N bs bm true sn sub ab col dd k0 k1 k2 k3 k5 "ValueError.__new__") ∧ refsVE bm = true
  sa : findIn K (.ref C) "__setattr__" = some (some (.builtin "object.__setattr__"))
  ga : findIn K (.ref C) "__getattribute__" = some (some (.builtin "BaseException.__getattribute__"))
  gg : findIn K (.ref C) "__getattr__" = some none
  noN : findIn K (.ref C) "most" = some none
  iC : findIn K (.ref C) "__init__" = some (some (.ref fI))
  tC : typeIn K (.ref fI) = some (.type "function")
  kC : keepIn K (.ref C) = true
  exC : subIn K (.ref C) (.type "BaseException") = some true
  tyC : typeIn K (.ref C) = some (.type "type")
  hdC : hasDictIn K C = true
  te : exmOne K (.ref C) (.ref C) = some true
  fn : ∃ (oc : Value) (od : Option Addr) (doc pm : Value) (an : Option Addr) (cdv ct : Value) (osl : Array (Option Value)) (p1 p2 q1 q2 q3 q4 : Pos),
    K.lookup fI = some ⟨oc, od, .func (fnOf "__init__" qn (iA p1 p2) (iB q1 q2 q3 q4) iS .none .none doc pm an cdv ct), osl⟩ ∧ codeIn K cdv qn = true
theorem one_size (v : Value) : [v].length ≤ sizeLine := by
  rw [sizeLine_eq]
  exact (by decide : 1 ≤ 16777216)
theorem kept_but {K : Frag} {h h' : Heap} {x : Addr} (X : K.In h) (hx : K.lookup x = none) (k : ∀ b o, b ≠ x → h.get? b = some o → h'.get? b = some o) : K.In h' := fun a o e =>
  k a o (fun z => by rw [z, hx] at e; cases e) (X a o e)
theorem ldC {M : Model} {s : Shared} {name : Str} {scope : Scope} {L a : Addr} {cd : Value} {m : Str → Option Value} {x : Str} {pos : Pos} {v : Value} {Q : Value → Shared → Prop} {A : Around} {E : Value → Shared → Prop} (hn : s.heap.Ns L m) (hv : m x = some v) (h : Q v s)
    (hk : scope.kind = .function := by rfl) (hl : (envOfC name scope L a cd).kindOf x = some .local := by rfl) (hd : (x == ("__debug__" : Str)) = false := by decide) :
    wpAny M A (eval (.Name x pos) (envOfC name scope L a cd)) Q E s := wpAny_Name (wpAny_loadName_local hk hl hn hv h) hd
/-- what __init__ leaves of a fresh exception at x -/
structure InitEnd (h h' : Heap) (x C dx t1 : Addr) (v : Value) : Prop where
  keep : ∀ b o, b ≠ x → h.get? b = some o → h'.get? b = some o
  obj : h'.get? x = some { cls := .ref C, dict := some dx, data := .fields #[.ref t1, .none, .none, .none, .bool false, .none] }
  dbig : h.objs.size ≤ dx
  dne : dx ≠ x
  ns : h'.Ns1 dx (fun y => if y = "most" then some v else none)
/-- a made Low -/
structure OwnMade (h h' : Heap) (e C d : Addr) (v : Value) : Prop where
  keep : ∀ b o, h.get? b = some o → h'.get? b = some o
  new : h.objs.size ≤ e
  obj : ∃ oe vs, h'.get? e = some oe ∧ oe.cls = .ref C ∧ oe.dict = some d ∧ oe.data = .fields vs ∧ vs[1]? = some .none
  dbig : h.objs.size ≤ d
  dne : d ≠ e
  ns : h'.Ns1 d (fun y => if y = "most" then some v else none)
section
variable {prog : Program} {w : World} {A : Around} {E : Value → Shared → Prop} {R : Result → Shared → Prop} {s : Shared} {K : Frag} {mg : Str → Option Value} {C fI : Addr} {c qn : Str}
theorem low_init (T : LowTxt K mg c qn C fI) {x t0 : Addr} {v : Value} (X : K.In s.heap) (hlim : s.heap.NoLimit) (hx : s.heap.get? x = some (excO C t0)) (hnx : K.lookup x = none) (hroom : A.depth < recursionLimit)
    (hq : ∀ h' tk dx, InitEnd s.heap h' x C dx t0 v → R (.ok (.ret .none)) { s with heap := h', toks := tk }) :
    codeAny (model prog w) A (.call (.ref fI) ⟨[.ref x, v], []⟩) R s := by
  obtain ⟨oc, od, doc, pm, an, cdv, ct, osl, p1, p2, q1, q2, q3, q4, ho, hcd⟩ := T.fn
  obtain ⟨nm, q, N, bs, bm, sn, sub, ab, col, dd, k0, k1, k2, k3, k5, hC, hbm⟩ := T.cls
  have hcl : clsIn K C = some { name := nm, bases := bs, mro := .ref C :: bm, ns := N, qualname := q, hasDict := true, slotNames := sn, subclasses := sub, abstract := ab, collection := col, hasDel := false } := by unfold clsIn; rw [hC] <;> rfl
  refine Att.call_fn (binds := [("self", .ref x), ("most", v)]) X hlim ho hcd hroom (BindsTo.of_eq (by first | rfl | with_unfolding_all rfl)) (by first | rfl | decide | with_unfolding_all rfl) (fun s₁ IC => ?_) rfl rfl rfl
  obtain ⟨h₁, tk₁, rfl⟩ := IC.toInCall.same
  have k : ∀ b o, s.heap.get? b = some o → h₁.get? b = some o := IC.toInCall.keep
  have hn := IC.toInCall.ns
  have hxL : s.heap.objs.size ≠ x := Nat.ne_of_gt (Heap.lt_size hx)
  have X₁ : K.In h₁ := X.keeps k
  have hx₁ := k _ _ hx
  -- self.by = by
  show wpAny _ _ (execs _ _) _ _ _
  refine wpAny_execs_cons (plainObj_wpAny_Assign_Attribute ?_)
  refine ldC (v := v) hn (by first | rfl | with_unfolding_all rfl | kernel_rfl) (ldC (v := .ref x) hn (by first | rfl | with_unfolding_all rfl | kernel_rfl) ?_)
  refine set_plain X₁ (ox := excO C t0) (od := none) ⟨hx₁, rfl, rfl, trivial⟩ T.sa ?_
  refine exc_osa X₁ hx₁ hcl (show refsVE (.ref C :: bm) = true from hbm) rfl T.noN (fun h₃ tk₃ dx k₃ dn dne hx₃ hn₃ => ?_)
  show wpAny _ _ (execs _ _) _ _ _
  have z : s.heap.objs.size < h₁.objs.size := hn.lt
  exact wpAny_execs_nil (hq h₃ tk₃ dx ⟨fun b o hb e => k₃ b o hb (k b o e), hx₃, Nat.le_of_lt (Nat.lt_of_lt_of_le z dn), dne, hn₃⟩)
theorem low_made (T : LowTxt K mg c qn C fI) {v : Value} (X : K.In s.heap) (hlim : s.heap.NoLimit) (hroom : A.depth + 1 < recursionLimit)
    (hq : ∀ h' tk e d, OwnMade s.heap h' e C d v → R (.ok (.ret (.ref e))) { s with heap := h', toks := tk }) :
    codeAny (model prog w) A (.call (.ref C) ⟨[v], []⟩) R s := by
  obtain ⟨nm, q, N, bs, bm, sn, sub, ab, col, dd, k0, k1, k2, k3, k5, hC, hbm⟩ := T.cls
  obtain ⟨hp, g, dr, tk, os⟩ := s
  have k : ∀ b o, hp.get? b = some o → ((hp.push (kdv_tup [v])).push (excO C hp.objs.size)).get? b = some o := fun b o e => Heap.get?_push_of_some _ (Heap.get?_push_of_some _ e)
  have hget : ((hp.push (kdv_tup [v])).push (excO C hp.objs.size)).get? (hp.objs.size + 1) = some (excO C hp.objs.size) := by heap_get
  have hnx : K.lookup (hp.objs.size + 1) = none := by
    cases e : K.lookup (hp.objs.size + 1) with
    | none => rfl
    | some o =>
      have z : hp.get? (hp.objs.size + 1) = some o := X _ _ e
      exact absurd (Nat.lt_of_succ_lt (Heap.lt_size z)) (Nat.lt_irrefl _)
  refine call_own F.excBase_ValueError (fun X => refsVE_contains X bm hbm) (X _ _ hC) (looks_findIn X T.iC) (fun self => bind_fn X self T.tC) (one_size v) ?_
  refine low_init (s := ⟨(hp.push (kdv_tup [v])).push (excO C hp.objs.size), g, dr, tk, os⟩) T (X.keeps k) (hlim.keeps k) hget hnx ?_ fun h' tk' dx ⟨k', hx, dn, dne, hns⟩ => ?_
  · show A.depth + 1 < recursionLimit
    exact hroom
  · have old : ∀ b o, hp.get? b = some o → h'.get? b = some o := fun b o e => k' b o (Nat.ne_of_lt (Nat.lt_succ_of_lt (Heap.lt_size e))) (k b o e)
    have z : hp.objs.size + 1 + 1 ≤ dx := by
      first
        | (simpa only [Heap.size_push] using dn)
        | exact dn
        | (have q := dn; rw [Heap.size_push, Heap.size_push] at q; exact q)
    exact ⟨rfl, hq h' tk' (hp.objs.size + 1) dx ⟨old, Nat.le_succ _, ⟨_, _, hx, rfl, rfl, rfl, rfl⟩, Nat.le_trans (Nat.le_trans (Nat.le_succ _) (Nat.le_succ _)) z, dne, hns⟩⟩
end
end X_most
end PySem
namespace L2
open PySem PySem.Spec PyProof.Rows
theorem relO_low_most {v : V} {v' : Value} (r : RelV v v') (f : Str) : RelO (List.lookup f [(("most" : Str), v)]) (if f = "most" then some v' else none) := by
  by_cases hw : f = "most"
  · subst hw
    rw [if_pos rfl]
    have q : List.lookup ("most" : Str) [(("most" : Str), v)] = some v := by simp [List.lookup]
    rw [q]
    exact r
  · rw [if_neg hw]
    have qw : (f == ("most" : Str)) = false := by simpa using hw
    have q2 : List.lookup f [(("most" : Str), v)] = none := by simp [List.lookup, qw]
    rw [q2]
    trivial
section
variable {X : Cx} {C fI : Addr} {c qn : Str}
/-- Low(e) -/
def tMkLow_most (C : Addr) (ta : TA) : St → Hp → XK → Prop := fun σ H Q => ta σ H fun vs H1 => ∃ v, vs = [v] ∧ ∀ d, H1 d = none → Q (.ref C) (some d) (upd H1 d (.xd [(("most" : Str), v)]))
theorem pmk_low_most {a : Expr} {ta : TA} {p pos : Pos} {k : Nat} (T : PySem.X_most.LowTxt X.K X.mg c qn C fI) (hr : Room k X.A) (ha : PA X [a] ta) (hg : Gl X c := by rfl) (hdb : (c == ("__debug__" : Str)) = false := by decide)
    (he : starEach (a :: []) X.env = (false, eval a X.env) :: starEach [] X.env := by rfl) (hpl : (backTo pos (starEach [] X.env)).any (·.1) = false := by rfl) :
    PMk X (.Call (.Name c p) [a] [] pos) (tMkLow_most C ta) := by
  intro pins s σ H Q I h
  refine wpAny_Call_Name_kw (ld_glob I hg T.gC ?_ hdb)
  refine PySem.W.callWith_K (h₀ := X.base) I.ok.mod.kin T.kC (thn (ha.run pos pins s σ H _ I h) fun us s1 hh => ?_) he hpl
  obtain ⟨vs, H1, I1, r1, v, ev, q1⟩ := hh
  subst ev
  refine ⟨I1.kIn, ?_⟩
  cases r1 with
  | cons rv rn =>
    rename_i v' us'
    cases rn
    show wpAny _ _ (call (.ref C) [v']) _ _ _
    have hlim := I1.nolimit
    obtain ⟨hp, g, dr, tk, os⟩ := s1
    refine wpAny_call (PySem.X_most.low_made T I1.kIn hlim (by have := hr.dp; omega) fun h' tk' e d M => ?_)
    show MkP X pins σ Q (.ref e) ⟨h', g, dr, tk', os⟩
    obtain ⟨oe, fv, hoe, hc, hd, hdat, h1⟩ := M.obj
    have hns := M.ns
    obtain ⟨G', g1, g2⟩ := restrict h' fun b => decide (b ≠ e)
    have gk : ∀ b, b ≠ e → G'.get? b = h'.get? b := fun b hb => g1 b (decide_eq_true hb)
    have ge : G'.get? e = none := g2 e (by simp)
    have old : ∀ b o, hp.get? b = some o → G'.get? b = some o := fun b o q => (gk b (Nat.ne_of_lt (Nat.lt_of_lt_of_le (Heap.lt_size q) M.new))).trans (M.keep b o q)
    have ob : ObjOk X.prog X.w (upd H1 d (.xd [(("most" : Str), v)])) G' d (.xd [(("most" : Str), v)]) :=
      ⟨_, hns.at (fun o q => (gk d M.dne).trans q), fun f => relO_low_most rv f⟩
    have J : Inv X pins σ (upd H1 d (.xd [(("most" : Str), v)])) ⟨G', g, dr, tk', os⟩ := I1.laid (t' := tk') old M.dbig ob
    refine ⟨e, oe, fv, ⟨G', g, dr, tk', os⟩, _, .ref C, some d, rfl, J, fun b o q => ?_, ge, hoe, ⟨hc, hd⟩, hdat, h1, ?_, rfl, I1.bare, raises_own T.exC T.tyC, q1 d (I1.hok.fresh M.dbig)⟩
    · by_cases hb : b = e
      · have q' : G'.get? b = some o := q
        rw [hb, ge] at q'; cases q'
      · exact (gk b hb).symm.trans q
    · rw [upd_ne (Ne.symm M.dne)]
      exact I1.hok.fresh M.new
/-- raise Low(e) -/
def tRaiseLow_most (C : Addr) (W : WX) (ta : TA) : TS := fun _ σ H => tMkLow_most C ta σ H fun cls d H' => W cls d σ H'
theorem ps_raiseLow_most {a : Expr} {ta : TA} {W : WX} {p pos pos2 : Pos} {k : Nat} (hc : X.calm = true) (T : PySem.X_most.LowTxt X.K X.mg c qn C fI) (hr : Room k X.A) (tk : Takes X W) (ha : PA X [a] ta) (hg : Gl X c := by rfl) (hdb : (c == ("__debug__" : Str)) = false := by decide)
    (he : starEach (a :: []) X.env = (false, eval a X.env) :: starEach [] X.env := by rfl) (hpl : (backTo pos (starEach [] X.env)).any (·.1) = false := by rfl) :
    PS X (.Raise (some (.Call (.Name c p) [a] [] pos)) none pos2) (tRaiseLow_most C W ta) := ps_raise hc tk (pmk_low_most T hr ha hg hdb he hpl)
/-- low.by, low the exception that the suite holds (at a; its class cls, its dict d) -/
def tByLow_most (C : Addr) (a : Addr) (cls : Value) (d : Option Addr) (te : TE) : TE := fun σ H Q => te σ H fun x H1 => x = .ref a ∧ cls = .ref C ∧ ∃ (dd : Addr) (v : V), d = some dd ∧ H1 dd = some (.xd [(("most" : Str), v)]) ∧ Q v H1
theorem pe_byLow_most {a : Addr} {oe : Obj} {cls : Value} {d : Option Addr} {pn : List (Addr × Obj)} {e : Expr} {te : TE} {pos : Pos} (T : PySem.X_most.LowTxt X.K X.mg c qn C fI) (hz : Zc cls d oe) (hf : ∃ vs, oe.data = .fields vs) (he : PE (X.suite a ((a, oe) :: pn)) e te)
    (hb : attributeBase e "most" X.env (eval e X.env) = eval e X.env := by rfl) :
    PE (X.suite a ((a, oe) :: pn)) (.Attribute e "most" pos) (tByLow_most C a cls d te) := by
  refine ⟨fun pins s σ H Q I h => ?_⟩
  refine attr_of hb (thn (he.run pins s σ H _ I h) fun u s1 hh => ?_)
  obtain ⟨x, H1, I1, rx, ex, ec, dd, v, ed, ea, q⟩ := hh
  subst ex
  obtain rfl : u = Value.ref a := rx
  subst ec
  subst ed
  obtain ⟨ha, _⟩ := I1.pin (a, oe) (List.mem_append_left _ List.mem_cons_self)
  obtain ⟨vs, hd⟩ := hf
  have hx : ObjOk X.prog X.w H1 s1.heap dd (.xd [(("most" : Str), v)]) := I1.hok dd _ ea
  obtain ⟨mA, hns, hr⟩ := hx
  obtain ⟨od, ho, hl⟩ := lookIn_ns hns
  have l : List.lookup ("most" : Str) [(("most" : Str), v)] = some v := by simp [List.lookup]
  obtain ⟨u, hu, ru⟩ := RelO.some_of (v := v) (o := mA "most") (by rw [← l]; exact hr "most")
  have J : PySem.W.InstAt s1.heap a oe C (some od) := ⟨ha, hz.1, by unfold PySem.W.notCls; rw [hd] <;> rfl, by rw [hz.2]; exact ho⟩
  exact HandSPX.exc_get I1.kIn J T.ga T.gg T.exC (PySem.W.findObj_own T.hdC T.noN rfl (by rw [hl, hu])) (handed_of ru) ⟨v, H1, I1.tok _, ru, q⟩
end
end L2


namespace Mp
open PySem PySem.Spec L2
variable {X : Cx} {W : WX}
theorem one_len {me : ME} {L : Loc} {S S1 : Store} {a : List Val} (h : aCons me aNil L S = .ok a S1) : ∃ x, a = [x] := by
  rw [aCons_app] at h
  cases e : me L S with
  | ok x S2 =>
    rw [e] at h
    simp at h
    exact ⟨x, h.1.symm⟩
  | exn x S2 => rw [e] at h; cases h
  | bad => rw [e] at h; cases h
def fldOf (fs : List (Str × Val)) (f : Str) : Option Val := match fs with
  | [(g, v)] => if g = f then some v else none
  | _ => none
/-- what the clause tells of an error -/
def asRet (i : Nat) (x f t : Str) (U : List (Str × Bool)) (e : Ex) (L : Loc) (S : Store) : F := match U.lookup e.cls with
  | some true => if e.cls = x ∧ i < L.length then (match fldOf e.fs f with
    | some v => .rt (.tup [.str t, v]) S
    | none => .bad) else .bad
  | some false => .exn e L S
  | none => .bad
def sTryAs (b : MS) (i : Nat) (x f t : Str) (U : List (Str × Bool)) : MS := fun L S => match b L S with
  | .exn e L1 S1 => asRet i x f t U e L1 S1
  | r => r
theorem fldOf_some {fs : List (Str × Val)} {f : Str} {v : Val} (h : fldOf fs f = some v) : fs = [(f, v)] := by
  unfold fldOf at h
  split at h
  · split at h
    · next e => cases h; rw [e]
    · cases h
  · cases h

theorem hdOne_part {K : PySem.W.Frag} {mg : Str → Option Value} {x qn : Str} {C fI : Addr} (T : PySem.X_part.LowTxt K mg x qn C fI) : HdOk K mg (.ref C) [(x, true)] := fun p hp => by
  simp at hp
  subst hp
  exact ⟨C, T.gC, T.te⟩
theorem s_raise_part {c qn : Str} {C fI : Addr} {a : Expr} {me : ME} {p pos pos2 : Pos} {k : Nat} (hc : X.calm = true) (T : PySem.X_part.LowTxt X.K X.mg c qn C fI) (hr : Room k X.A) (tk : Takes X W) (ha : PAm X W [a] (aCons me aNil)) (hg : Gl X c) (hdb : (c == ("__debug__" : Str)) = false)
    (he : starEach (a :: []) X.env = (false, eval a X.env) :: starEach [] X.env := by rfl) (hpl : (backTo pos (starEach [] X.env)).any (·.1) = false := by rfl) :
    PSm X W (.Raise (some (.Call (.Name c p) [a] [] pos)) none pos2) (sRaise c [("part" : Str)] (aCons me aNil)) :=
  PS.imp (ps_raiseLow_part (k := k) hc T hr tk ha hg hdb he hpl) fun D σ H ⟨ρ, S, L, s, l, h⟩ => by
    have h' : PostF X.K X.mg W ρ S H (thenF L (aCons me aNil L S) fun vs S1 => .exn ⟨c, [("part" : Str)].zip vs⟩ L S1) D := h
    refine ⟨ρ, S, L, s, l, (PostF.then (rel := relVs X.K) s l h').mono fun vs H1 ⟨ρ1, S1, b, eb, e, s1, v, q⟩ => ?_⟩
    obtain ⟨x, rfl⟩ := one_len eb
    have v' : VRs X.K ρ1 S1.length H1 [x] vs := v
    simp only [VRs] at v'
    obtain ⟨u, us, rfl, v1, rfl⟩ := v'
    refine ⟨u, rfl, fun d hd => ?_⟩
    have s2 := s1.side (o := .xd [(("part" : Str), u)]) hd
    have e2 : Ext ρ1 S1 H1 ρ1 S1 (upd H1 d (.xd [(("part" : Str), u)])) := Ext.side hd
    refine q ρ1 _ σ (.ref C) (some d) e2 s2 ((l.ext s e).ext s1 e2) ⟨⟨C, T.gC, rfl⟩, fun _ => ⟨d, _, rfl, upd_same, rfl, ?_⟩⟩
    show VRs X.K ρ1 S1.length _ [x] [u]
    simp only [VRs]
    exact ⟨u, [], rfl, VR.ext s1 e2 x u v1, rfl⟩
theorem s_try_as_part {x n qn t : Str} {C fI : Addr} {i k1 : Nat} {body : List Stmt} {kb : MS} {U : List (Str × Bool)} {np pos pos' rp tp cp ap vp : Pos} {j : Nat} (hs : X.stack = X.env :: X.outer) (hf : X.env.frame = some X.env.locals) (hN : X.N.Nodup) (hi : X.N[i]? = some n) (hk : X.env.kindOf n = some .local)
    (hx : Names X x (.ref C)) (tk : Takes X W) (T : PySem.X_part.LowTxt X.K X.mg x qn C fI) (hu : HdOk X.K X.mg (.ref C) U)
    (hb : ∀ (W : WX) (pn : List (Addr × Obj)) (xe : Value → Shared → Prop), Takes (X.tr pn xe) W → PassesOwn (model X.prog X.w) X.A X.env xe → PSsm (X.tr pn xe) W body kb)
    (hv : ∀ (a : Addr) (oe : Obj) (pn : List (Addr × Obj)), PE (X.suite a ((a, oe) :: pn)) (.Name n vp) (tVar i)) :
    PSm X W (.Try body [.ExceptHandler (some (.Name x np)) (some n) [.Return (some (.Tuple [.Constant (.str t) j cp, .Attribute (.Name n vp) "part" ap] k1 tp)) rp] pos'] [] [] pos) (sTryAs kb i x "part" t U) :=
  PS.imp (ps_try_as (i := i) (c := .ref C) (tb := fun W => TSm X.K X.mg W kb) (ts := fun a cls d => tRet (tTup (tCons (tC (.str t)) (tCons (tByLow_part C a cls d (tVar i)) tNil)))) hs hf hN hi hk hx tk hb
    (fun a oe cls d pn hz hfv => pss_one (ps_ret (pe_tup (pa_cons pe_str (pa_cons (pe_byLow_part T hz hfv (hv a oe pn)) pa_nil)))))) fun D σ H ⟨ρ, S, L, s, l, h⟩ => by
    refine ⟨ρ, S, L, s, l, ?_⟩
    unfold sTryAs at h
    cases hkb : kb L S with
    | exn y L' S' =>
      rw [hkb] at h
      replace h : PostF X.K X.mg W ρ S H (asRet i x "part" t U y L' S') D := h
      intro ρ' H' σ' cls d e s' l' q
      have h' := PostF.step s' e h
      unfold asRet at h'
      obtain ⟨⟨C', g1, rfl⟩, q2⟩ := q
      split at h'
      · rename_i hb1
        obtain ⟨C2, g2, g3⟩ := hu _ (lookup_mem hb1)
        rw [g1] at g2
        cases g2
        split at h'
        · rename_i hc
          obtain ⟨hc1, hc2⟩ := hc
          split at h'
          · rename_i v hv1
            have hfs := fldOf_some hv1
            rw [hc1, T.gC] at g1
            cases g1
            refine ⟨true, g3, fun _ a ha => ?_, fun z => nomatch z⟩
            obtain ⟨dd, us, rfl, hd, kr⟩ := q2 (by rw [hfs]; simp)
            rw [hfs] at kr
            obtain ⟨k1, k2⟩ := kr
            cases us with
            | nil => simp at k1
            | cons z r =>
              cases r with
              | cons z2 r2 => simp at k1
              | nil =>
                obtain ⟨zf, u⟩ := z
                simp at k1
                subst k1
                have k3 : VRs X.K ρ' S'.length H' [v] [u] := k2
                simp only [VRs] at k3
                obtain ⟨u', _, e1, k4, e2⟩ := k3
                cases e1
                refine ⟨_, List.getElem?_set_self (by have := l'.1; omega), rfl, rfl, dd, u, rfl, hd, (by show 2 ≤ PySem.sizeLine; decide), fun p hp => ?_⟩
                have s2 := s'.side (o := .tup [.str t, u]) hp
                have e2 : Ext ρ' S' H' ρ' S' (upd H' p (.tup [.str t, u])) := Ext.side hp
                refine h' ρ' _ (.ref p) e2 s2 ?_
                simp only [VR]
                refine ⟨p, [.str t, u], rfl, .inl upd_same, ?_⟩
                simp only [VRs, VR]
                exact ⟨_, _, rfl, rfl, _, _, rfl, VR.ext s' e2 v u k4, rfl⟩
          · exact h'.elim
        · exact h'.elim
      · rename_i hb1
        obtain ⟨C2, g2, g3⟩ := hu _ (lookup_mem hb1)
        rw [g1] at g2
        cases g2
        exact ⟨false, g3, (fun z => nomatch z), fun _ => h' ρ' H' σ' _ d (Ext.refl _ _ _) s' l' ⟨⟨_, g1, rfl⟩, q2⟩⟩
      · exact h'.elim
    | nx L' S' => rw [hkb] at h; exact h
    | bk L' S' => rw [hkb] at h; exact h
    | ct L' S' => rw [hkb] at h; exact h
    | rt v S' => rw [hkb] at h; exact h
    | bad => rw [hkb] at h; exact h.elim

theorem hdOne_most {K : PySem.W.Frag} {mg : Str → Option Value} {x qn : Str} {C fI : Addr} (T : PySem.X_most.LowTxt K mg x qn C fI) : HdOk K mg (.ref C) [(x, true)] := fun p hp => by
  simp at hp
  subst hp
  exact ⟨C, T.gC, T.te⟩
theorem s_raise_most {c qn : Str} {C fI : Addr} {a : Expr} {me : ME} {p pos pos2 : Pos} {k : Nat} (hc : X.calm = true) (T : PySem.X_most.LowTxt X.K X.mg c qn C fI) (hr : Room k X.A) (tk : Takes X W) (ha : PAm X W [a] (aCons me aNil)) (hg : Gl X c) (hdb : (c == ("__debug__" : Str)) = false)
    (he : starEach (a :: []) X.env = (false, eval a X.env) :: starEach [] X.env := by rfl) (hpl : (backTo pos (starEach [] X.env)).any (·.1) = false := by rfl) :
    PSm X W (.Raise (some (.Call (.Name c p) [a] [] pos)) none pos2) (sRaise c [("most" : Str)] (aCons me aNil)) :=
  PS.imp (ps_raiseLow_most (k := k) hc T hr tk ha hg hdb he hpl) fun D σ H ⟨ρ, S, L, s, l, h⟩ => by
    have h' : PostF X.K X.mg W ρ S H (thenF L (aCons me aNil L S) fun vs S1 => .exn ⟨c, [("most" : Str)].zip vs⟩ L S1) D := h
    refine ⟨ρ, S, L, s, l, (PostF.then (rel := relVs X.K) s l h').mono fun vs H1 ⟨ρ1, S1, b, eb, e, s1, v, q⟩ => ?_⟩
    obtain ⟨x, rfl⟩ := one_len eb
    have v' : VRs X.K ρ1 S1.length H1 [x] vs := v
    simp only [VRs] at v'
    obtain ⟨u, us, rfl, v1, rfl⟩ := v'
    refine ⟨u, rfl, fun d hd => ?_⟩
    have s2 := s1.side (o := .xd [(("most" : Str), u)]) hd
    have e2 : Ext ρ1 S1 H1 ρ1 S1 (upd H1 d (.xd [(("most" : Str), u)])) := Ext.side hd
    refine q ρ1 _ σ (.ref C) (some d) e2 s2 ((l.ext s e).ext s1 e2) ⟨⟨C, T.gC, rfl⟩, fun _ => ⟨d, _, rfl, upd_same, rfl, ?_⟩⟩
    show VRs X.K ρ1 S1.length _ [x] [u]
    simp only [VRs]
    exact ⟨u, [], rfl, VR.ext s1 e2 x u v1, rfl⟩
theorem s_try_as_most {x n qn t : Str} {C fI : Addr} {i k1 : Nat} {body : List Stmt} {kb : MS} {U : List (Str × Bool)} {np pos pos' rp tp cp ap vp : Pos} {j : Nat} (hs : X.stack = X.env :: X.outer) (hf : X.env.frame = some X.env.locals) (hN : X.N.Nodup) (hi : X.N[i]? = some n) (hk : X.env.kindOf n = some .local)
    (hx : Names X x (.ref C)) (tk : Takes X W) (T : PySem.X_most.LowTxt X.K X.mg x qn C fI) (hu : HdOk X.K X.mg (.ref C) U)
    (hb : ∀ (W : WX) (pn : List (Addr × Obj)) (xe : Value → Shared → Prop), Takes (X.tr pn xe) W → PassesOwn (model X.prog X.w) X.A X.env xe → PSsm (X.tr pn xe) W body kb)
    (hv : ∀ (a : Addr) (oe : Obj) (pn : List (Addr × Obj)), PE (X.suite a ((a, oe) :: pn)) (.Name n vp) (tVar i)) :
    PSm X W (.Try body [.ExceptHandler (some (.Name x np)) (some n) [.Return (some (.Tuple [.Constant (.str t) j cp, .Attribute (.Name n vp) "most" ap] k1 tp)) rp] pos'] [] [] pos) (sTryAs kb i x "most" t U) :=
  PS.imp (ps_try_as (i := i) (c := .ref C) (tb := fun W => TSm X.K X.mg W kb) (ts := fun a cls d => tRet (tTup (tCons (tC (.str t)) (tCons (tByLow_most C a cls d (tVar i)) tNil)))) hs hf hN hi hk hx tk hb
    (fun a oe cls d pn hz hfv => pss_one (ps_ret (pe_tup (pa_cons pe_str (pa_cons (pe_byLow_most T hz hfv (hv a oe pn)) pa_nil)))))) fun D σ H ⟨ρ, S, L, s, l, h⟩ => by
    refine ⟨ρ, S, L, s, l, ?_⟩
    unfold sTryAs at h
    cases hkb : kb L S with
    | exn y L' S' =>
      rw [hkb] at h
      replace h : PostF X.K X.mg W ρ S H (asRet i x "most" t U y L' S') D := h
      intro ρ' H' σ' cls d e s' l' q
      have h' := PostF.step s' e h
      unfold asRet at h'
      obtain ⟨⟨C', g1, rfl⟩, q2⟩ := q
      split at h'
      · rename_i hb1
        obtain ⟨C2, g2, g3⟩ := hu _ (lookup_mem hb1)
        rw [g1] at g2
        cases g2
        split at h'
        · rename_i hc
          obtain ⟨hc1, hc2⟩ := hc
          split at h'
          · rename_i v hv1
            have hfs := fldOf_some hv1
            rw [hc1, T.gC] at g1
            cases g1
            refine ⟨true, g3, fun _ a ha => ?_, fun z => nomatch z⟩
            obtain ⟨dd, us, rfl, hd, kr⟩ := q2 (by rw [hfs]; simp)
            rw [hfs] at kr
            obtain ⟨k1, k2⟩ := kr
            cases us with
            | nil => simp at k1
            | cons z r =>
              cases r with
              | cons z2 r2 => simp at k1
              | nil =>
                obtain ⟨zf, u⟩ := z
                simp at k1
                subst k1
                have k3 : VRs X.K ρ' S'.length H' [v] [u] := k2
                simp only [VRs] at k3
                obtain ⟨u', _, e1, k4, e2⟩ := k3
                cases e1
                refine ⟨_, List.getElem?_set_self (by have := l'.1; omega), rfl, rfl, dd, u, rfl, hd, (by show 2 ≤ PySem.sizeLine; decide), fun p hp => ?_⟩
                have s2 := s'.side (o := .tup [.str t, u]) hp
                have e2 : Ext ρ' S' H' ρ' S' (upd H' p (.tup [.str t, u])) := Ext.side hp
                refine h' ρ' _ (.ref p) e2 s2 ?_
                simp only [VR]
                refine ⟨p, [.str t, u], rfl, .inl upd_same, ?_⟩
                simp only [VRs, VR]
                exact ⟨_, _, rfl, rfl, _, _, rfl, VR.ext s' e2 v u k4, rfl⟩
          · exact h'.elim
        · exact h'.elim
      · rename_i hb1
        obtain ⟨C2, g2, g3⟩ := hu _ (lookup_mem hb1)
        rw [g1] at g2
        cases g2
        exact ⟨false, g3, (fun z => nomatch z), fun _ => h' ρ' H' σ' _ d (Ext.refl _ _ _) s' l' ⟨⟨_, g1, rfl⟩, q2⟩⟩
      · exact h'.elim
    | nx L' S' => rw [hkb] at h; exact h
    | bk L' S' => rw [hkb] at h; exact h
    | ct L' S' => rw [hkb] at h; exact h
    | rt v S' => rw [hkb] at h; exact h
    | bad => rw [hkb] at h; exact h.elim

end Mp

/-! MpY: texts: join, split, str, int of a text, a sign in a text. -/
namespace Mp
open PySem PySem.Spec L2
def strsO : List Val → Option (List Str)
  | [] => some []
  | .str a :: r => (strsO r).map (a :: ·)
  | _ :: _ => none
theorem strsO_map : ∀ ys : List Str, strsO (ys.map Val.str) = some ys
  | [] => rfl
  | a :: r => by rw [List.map_cons, strsO, strsO_map r]; rfl
theorem strsO_eq : ∀ {xs : List Val} {ys : List Str}, strsO xs = some ys → xs = ys.map Val.str
  | [], ys, h => by simp [strsO] at h; subst h; rfl
  | .str a :: r, ys, h => by
    simp only [strsO, Option.map_eq_some_iff] at h
    obtain ⟨zs, hz, rfl⟩ := h
    rw [List.map_cons, strsO_eq hz]
  | .non :: _, _, h => by simp [strsO] at h
  | .bl _ :: _, _, h => by simp [strsO] at h
  | .int _ :: _, _, h => by simp [strsO] at h
  | .tup _ :: _, _, h => by simp [strsO] at h
  | .ref _ :: _, _, h => by simp [strsO] at h
  | .fl _ :: _, _, h => by simp [strsO] at h
theorem VRs.strs {K : PySem.W.Frag} {ρ : Rho} {n : Nat} {H : Hp} : ∀ {ys : List Str} {us : List V}, VRs K ρ n H (ys.map Val.str) us → us = ys.map V.str
  | [], us, h => by simpa [VRs] using h
  | i :: ns, us, h => by
    simp only [List.map_cons, VRs, VR] at h
    obtain ⟨u, r, rfl, rfl, h2⟩ := h
    rw [VRs.strs h2]; rfl
theorem VRs.of_strs {K : PySem.W.Frag} {ρ : Rho} {n : Nat} {H : Hp} : ∀ (ys : List Str), VRs K ρ n H (ys.map Val.str) (ys.map V.str)
  | [] => by simp [VRs]
  | i :: ns => by simp only [List.map_cons, VRs, VR]; exact ⟨_, _, rfl, rfl, VRs.of_strs ns⟩
def joinR (a : Str) (o : Option Ob) (S : Store) : R Val := match o with
  | some (.lst xs) => match strsO xs with
    | some ys => bite (decide ((ys.map (·.length)).sum + ys.length * a.length ≤ LIM)) (.ok (.str (Str.join a ys)) S) .bad
    | none => .bad
  | _ => .bad
def fJoin : Mt := fun x vs S => match x, vs with
  | .str a, [.ref p] => joinR a (sg S p) S
  | _, _ => .bad
def fSplit : Mt := fun x vs S => match x, vs with
  | .str a, [.str b] => bite (!(b.length == 0) && decide (a.length + 2 ≤ LIM)) (newL ((Txt.split a b).map Val.str) S) .bad
  | _, _ => .bad
section
variable {X : Cx}
theorem m_join : MtR X "str.join" (rM X fJoin) := MtR.imp mt_join fun u us H Q h => by
  obtain ⟨ρ, S, x, xs, s, v1, v2, h⟩ := h
  unfold fJoin at h
  split at h
  · rename_i a p
    obtain ⟨u1, rfl, r1⟩ := v2.one
    simp only [VR] at v1 r1
    subst v1
    obtain ⟨hp, rfl⟩ := r1
    unfold joinR at h
    split at h
    · rename_i xs q
      split at h
      · rename_i ys hy
        by_cases hz : (ys.map (·.length)).sum + ys.length * a.length ≤ LIM
        · rw [bite_pos (decide_eq_true hz)] at h
          rw [lim_eq] at hz
          obtain ⟨ws, g1, g2⟩ := s.lst q
          have e := strsO_eq hy
          subst e
          have e2 := g2.strs
          subst e2
          refine ⟨a, ρ p, ys, rfl, rfl, .inl (SqL.of g1), by rw [← sizeLine_eq]; exact hz, ?_⟩
          rw [TL.join_eq]
          exact Post.here (rel := relV X.K) s h (by simp [relV, VR])
        · rw [bite_neg (decide_eq_false hz)] at h
          exact h.elim
      · exact h.elim
    · exact h.elim
  · exact h.elim
theorem m_split : MtR X "str.split" (rM X fSplit) := MtR.imp mt_split fun u us H Q h => by
  obtain ⟨ρ, S, x, xs, s, v1, v2, h⟩ := h
  unfold fSplit at h
  split at h
  · rename_i a b
    obtain ⟨u1, rfl, r1⟩ := v2.one
    simp only [VR] at v1 r1
    subst v1 r1
    by_cases hz : (!(b.length == 0) && decide (a.length + 2 ≤ LIM)) = true
    · rw [bite_pos hz] at h
      simp only [Bool.and_eq_true, Bool.not_eq_true', decide_eq_true_eq] at hz
      obtain ⟨z1, z2⟩ := hz
      rw [lim_eq] at z2
      exact ⟨a, b, rfl, rfl, z1, z2, lst_new s h (VRs.of_strs _)⟩
    · rw [bite_neg (by simpa using hz)] at h
      exact h.elim
  · exact h.elim
/-! ### str, int -/
def fStr : Fn := one fun v S => match v with
  | .int i => bite (decide (i.natAbs.log2 < 1920)) (.ok (.str (Str.ofString (toString i))) S) .bad
  | .str a => .ok (.str a) S
  | _ => .bad
theorem c_str : CallR X (.type "str") (rF X fStr) := CallR.imp (call_str_int.or SkE.call_str_str) fun us H Q h => by
  replace h := one_of h
  obtain ⟨u, rfl, ρ, S, x, s, v, h⟩ := h
  dsimp only at h
  split at h
  · rename_i i
    simp only [VR] at v
    subst v
    by_cases hz : i.natAbs.log2 < 1920
    · rw [bite_pos (decide_eq_true hz)] at h
      exact .inl ⟨i, rfl, hz, Post.here (rel := relV X.K) s h (by simp [relV, VR])⟩
    · rw [bite_neg (decide_eq_false hz)] at h
      exact h.elim
  · rename_i a
    simp only [VR] at v
    subst v
    exact .inr ⟨a, rfl, Post.here (rel := relV X.K) s h (by simp [relV, VR])⟩
  · exact h.elim
def fIntS : Fn := one fun v S => match v with
  | .str a => match PySem.intText? a with
    | some n => bite (decide (a.length ≤ 640)) (.ok (.int n) S) .bad
    | none => .bad
  | _ => .bad
theorem c_intS : CallR X (.type "int") (rF X fIntS) := CallR.imp call_int_str fun us H Q h => by
  replace h := one_of h
  obtain ⟨u, rfl, ρ, S, x, s, v, h⟩ := h
  dsimp only at h
  split at h
  · rename_i a
    simp only [VR] at v
    subst v
    split at h
    · rename_i n hn
      by_cases hz : a.length ≤ 640
      · rw [bite_pos (decide_eq_true hz)] at h
        exact ⟨a, n, rfl, hn, hz, Post.here (rel := relV X.K) s h (by simp [relV, VR])⟩
      · rw [bite_neg (decide_eq_false hz)] at h
        exact h.elim
    · exact h.elim
  · exact h.elim
/-! ### a sign in a text -/
def signO (x y : Val) : Option Bool := match x, y with
  | .str a, .str z => match a.cps.toList with
    | [c] => some (decide (c ∈ z.cps.toList))
    | _ => none
  | _, _ => none
def pInS : P2 := fun x y S => match signO x y with
  | some b => .ok (.bl b) S
  | none => .bad
theorem o_inS : OpS X (compareOp .In) pInS := OpR.imp op_in_sign fun u w H Q h => by
  obtain ⟨ρ, S, x, y, s, v1, v2, h⟩ := h
  unfold pInS signO at h
  split at h
  · rename_i b hb
    split at hb
    · rename_i a z
      split at hb
      · rename_i c hc
        cases hb
        simp only [VR] at v1 v2
        subst v1 v2
        have e : a = ⟨#[c]⟩ := by
          cases a with
          | mk cps => 
            congr
            exact Array.toList_inj.mp (by rw [hc])
        exact ⟨c, z, by rw [← e], rfl, Post.here (rel := relV X.K) s h (by simp [relV, VR])⟩
      · cases hb
    · cases hb
  · exact h.elim
end
@[simp] theorem joinR_lst (a : Str) (ys : List Str) (S : Store) : joinR a (some (.lst (ys.map Val.str))) S = bite (decide ((ys.map (·.length)).sum + ys.length * a.length ≤ LIM)) (.ok (.str (Str.join a ys)) S) .bad := by
  unfold joinR
  dsimp only
  rw [strsO_map]
@[simp] theorem fJoin_app (a : Str) (p : Nat) (S : Store) : fJoin (.str a) [.ref p] S = joinR a (sg S p) S := rfl
@[simp] theorem fSplit_app (a b : Str) (S : Store) : fSplit (.str a) [.str b] S = bite (!(b.length == 0) && decide (a.length + 2 ≤ LIM)) (newL ((Txt.split a b).map Val.str) S) .bad := rfl
@[simp] theorem fStr_str (a : Str) (S : Store) : fStr [.str a] S = .ok (.str a) S := rfl
@[simp] theorem fStr_int (i : Int) (S : Store) : fStr [.int i] S = bite (decide (i.natAbs.log2 < 1920)) (.ok (.str (Str.ofString (toString i))) S) .bad := rfl
@[simp] theorem isTy_str (a : Str) (S : Store) : isTy "str" (.str a) S = true := rfl
end Mp

/-! MpZ: isinstance(e, C) is True of a caught error e; y = t if both hold else _. -/
namespace PySem.W
open PySem PySem.Spec PySem.Calls PyProof.Rows
section
variable {K : Frag} {x t : Value}
def TyAt (x t : Value) (h : Heap) : Prop := ∀ (prog : Program) (w : World), Looks (model prog w) h (typeOf x) t
theorem yes_ans {cl : Value} (yes : kitOne K t cl = some true) : Answers (fun z => K.In z.heap ∧ TyAt x t z.heap) x cl true := by
  intro dp tok0 prg wo A0 R0 st0 hyp
  obtain ⟨hh, gg, dd, t0, o0⟩ := st0
  obtain ⟨⟨inK, tyat⟩, fin⟩ := hyp
  have tyL := tyat prg wo
  unfold kitOne at yes
  unfold Builtin.«isinstance.nested»
  refine wpAny_bind (tyL.at ?_)
  by_cases same : (t == cl) = true
  · rw [if_pos same]
    first
      | exact wpAny_bind (wpAny_rule (fin t0))
      | ((repeat lk); exact fin t0)
  · rw [if_neg same] at yes
    rw [if_neg same]
    have three := kit_cls (M := model prg wo) inK yes
    have whole : Looks (model prg wo) hh (isInstance x cl) true := tyL.andThen three.2.2
    refine wpAny_bind (three.1.at ?_)
    rw [if_pos (by decide)]
    k_delta "plainIsInstance"
    refine wpAny_bind (wpAny_bind (three.2.1.at ?_))
    simp only [Bool.not_true, Bool.false_eq_true, if_false]
    refine wpAny_bind (whole.at ?_)
    first
      | exact wpAny_pure (wpAny_pure (fin t0))
      | (simp only [if_true]; first | exact wpAny_pure (wpAny_pure (fin t0)) | exact wpAny_pure (fin t0) | exact wpAny_bind (wpAny_pure (wpAny_pure (fin t0))))
variable {prog : Program} {w : World} {A : Around} {E : Value → Shared → Prop} {s : Shared} {Q : Value → Shared → Prop}
theorem yes_isinstance {cl : Value} (yes : kitOne K t cl = some true) (inK : K.In s.heap) (ty : TyAt x t s.heap) (nx : x ≠ .builtin "__main__.__loader__#opaque") (fin : ∀ tk, Q (.bool true) { s with toks := tk }) :
    wpAny (model prog w) A (call (.builtin "isinstance") [x, cl]) Q E s :=
  call_isinstance (S := fun _ R z => (K.In z.heap ∧ TyAt x t z.heap) ∧ ∀ tk, R (.ok (.ret (.bool true))) { z with toks := tk })
    (fun prg wo A0 R0 st0 hyp => isinstance_outer (yes_ans yes 0 _ prg wo A0 R0 st0 hyp) nx) ⟨⟨inK, ty⟩, fin⟩
end
end PySem.W
namespace L2
open PySem PySem.Spec PyProof.Rows
/-- isinstance(e, c) of the exception that the suite holds, which is one -/
def rYesE (K : PySem.W.Frag) (cls : Value) (a : Addr) : List V → Hp → VK → Prop := fun xs H Q => ∃ (c : V) (cv : Value), xs = [.ref a, c] ∧ (∀ u, RelV c u → u = cv) ∧ PySem.W.kitOne K cls cv = some true ∧ Q (.bl true) H
theorem call_yesE {X : Cx} {a : Addr} {cls : Value} {d : Option Addr} {oe : Obj} {pn : List (Addr × Obj)} (hz : Zc cls d oe) : CallR (X.suite a ((a, oe) :: pn)) (.builtin "isinstance") (rYesE X.K cls a) := by
  intro pins s σ H xs us Q I r h
  obtain ⟨c, cv, rfl, hcv, yes, q⟩ := h
  cases r with
  | cons r1 r2 =>
    cases r2 with
    | cons r3 r4 =>
      cases r4
      cases r1
      have same := hcv _ r3
      subst same
      obtain ⟨there, _⟩ := I.pin (a, oe) (List.mem_append_left _ List.mem_cons_self)
      refine PySem.W.yes_isinstance yes I.kIn (fun prg wo A0 Q0 E0 s0 k z => wpAny_typeOf_ref (k _ _ there) (by rw [hz.1]; exact z)) (fun z => nomatch z) fun tk => ⟨.bl true, H, I.kept (t' := tk) fun _ _ z => z, rfl, q⟩
end L2
namespace Mp
open PySem PySem.Spec L2
section
variable {X : Cx} {W : WX}
/-- what is known of the errors that a suite tells by isinstance -/
def IsYes (K : PySem.W.Frag) (mg : Str → Option Value) (A : Value) (B : Value) (U : List (Str × Bool)) : Prop := ∀ p ∈ U, p.2 = true → ∃ C, mg p.1 = some (.ref C) ∧ PySem.W.kitOne K (.ref C) A = some true ∧ PySem.W.kitOne K (.ref C) B = some true
/-- what the clause leaves: slot j holds t, slot i (the error's) nothing -/
def isSet (i j : Nat) (t : Str) (U : List (Str × Bool)) (e : Ex) (L : Loc) (S : Store) : F := match U.lookup e.cls with
  | some true => bite (decide (i < L.length)) (.nx ((L.set j (some (.str t))).set i none) S) .bad
  | some false => .exn e L S
  | none => .bad
def sTryIs (b : MS) (i j : Nat) (t : Str) (U : List (Str × Bool)) : MS := fun L S => match b L S with
  | .exn e L1 S1 => isSet i j t U e L1 S1
  | r => r
theorem pe_yes {a : Addr} {oe : Obj} {cls : Value} {d : Option Addr} {pn : List (Addr × Obj)} {n c : Str} {p pn1 pc pos : Pos} {tv tc : TE} (hz : Zc cls d oe) (hg : Gl X "isinstance") (hm : X.mg "isinstance" = none) (hv : PE (X.suite a ((a, oe) :: pn)) (.Name n pn1) tv) (hc : PE (X.suite a ((a, oe) :: pn)) (.Name c pc) tc)
    (hs1 : starEach [.Name n pn1, .Name c pc] X.env = (false, eval (.Name n pn1) X.env) :: starEach [.Name c pc] X.env := by rfl) (hs2 : starEach [.Name c pc] X.env = (false, eval (.Name c pc) X.env) :: starEach [] X.env := by rfl) (hpl : (backTo pos (starEach [.Name c pc] X.env)).any (·.1) = false := by rfl) :
    PE (X.suite a ((a, oe) :: pn)) (.Call (.Name "isinstance" p) [.Name n pn1, .Name c pc] [] pos) (tCB (rYesE X.K cls a) (tCons tv (tCons tc tNil))) :=
  pe_callB (call_yesE hz) hg hm (by decide +kernel) (pa_cons hv (pa_cons hc pa_nil hs2) hs1) (by decide) (by decide) hs1 hpl
def tIsSet (K : PySem.W.Frag) (i j : Nat) (vA vB : V) (ta tb : Addr → Value → Option Addr → TE) (a : Addr) (cls : Value) (d : Option Addr) : TS :=
  tAsg (L2.tIf (L2.tAnd (tB (tCB (rYesE K cls a) (tCons (tVar i) (tCons (L2.tC vA) tNil)))) (tB (tCB (rYesE K cls a) (tCons (tVar i) (tCons (L2.tC vB) tNil))))) (ta a cls d) (tb a cls d)) (gName j)
theorem tIsSet_of {K : PySem.W.Frag} {i j : Nat} {A B : Value} {vA vB : V} {ta tb : Addr → Value → Option Addr → TE} {a : Addr} {cls : Value} {d : Option Addr} {D : Ends} {σ : L2.St} {H : Hp} (hA : ∀ u, RelV vA u → u = A) (hB : ∀ u, RelV vB u → u = B)
    (h1 : PySem.W.kitOne K cls A = some true) (h2 : PySem.W.kitOne K cls B = some true) (hi : σ[i]? = some (some (.ref a))) (h : ta a cls d σ H fun x H1 => D.nx (σ.set j (some x)) H1) : tIsSet K i j vA vB ta tb a cls d D σ H :=
  ⟨.ref a, hi, vA, A, rfl, hA, h1, true, rfl, by
    show if true = true then _ else _
    rw [if_pos rfl]
    exact ⟨.ref a, hi, vB, B, rfl, hB, h2, true, rfl, by show (if true = true then _ else _); rw [if_pos rfl]; exact h⟩⟩
theorem LR.isSet {K : PySem.W.Frag} {ρ : Rho} {n : Nat} {H : Hp} {L : Loc} {σ : L2.St} {v : Val} {u : V} {i j : Nat} {z : Option V} (l : LR K ρ n H L σ) (hij : i ≠ j) (r : VR K ρ n H v u) : LR K ρ n H ((L.set j (some v)).set i none) (((σ.set i z).set j (some u)).set i none) := by
  rw [List.set_comm (l := σ) z (some u) hij, List.set_set]
  exact (l.set r).wipe [i]
theorem pss_isSet {a : Addr} {oe : Obj} {cls : Value} {d : Option Addr} {pn : List (Addr × Obj)} {i j : Nat} {n y ca cb : Str} {vA vB : V} {eA eB : Expr} {ta tb : Addr → Value → Option Addr → TE} {yp ap p1 p2 n1 n2 cp1 cp2 q1 q2 q3 q4 : Pos} (hz : Zc cls d oe)
    (hN : X.N.Nodup) (hj : X.N[j]? = some y) (hy : L2.Loc X.env.scope y) (hf : X.env.scope.names.lookup y = some .local) (hg : Gl X "isinstance") (hm : X.mg "isinstance" = none) (hv : ∀ vp, PE (X.suite a ((a, oe) :: pn)) (.Name n vp) (tVar i))
    (hA : ∀ vp, PE (X.suite a ((a, oe) :: pn)) (.Name ca vp) (L2.tC vA)) (hB : ∀ vp, PE (X.suite a ((a, oe) :: pn)) (.Name cb vp) (L2.tC vB)) (ha : PE (X.suite a ((a, oe) :: pn)) eA (ta a cls d)) (hb : PE (X.suite a ((a, oe) :: pn)) eB (tb a cls d))
    (hs : swapsWith (.IfExp (.BoolOp .And [.Call (.Name "isinstance" p1) [.Name n n1, .Name ca cp1] [] q1, .Call (.Name "isinstance" p2) [.Name n n2, .Name cb cp2] [] q2] q3) eA eB q4) (some (.Name y yp)) ap.line X.env = pure false := by rfl)
    (hs1 : starEach [.Name n n1, .Name ca cp1] X.env = (false, eval (.Name n n1) X.env) :: starEach [.Name ca cp1] X.env := by rfl) (hs2 : starEach [.Name ca cp1] X.env = (false, eval (.Name ca cp1) X.env) :: starEach [] X.env := by rfl) (hpl : (backTo q1 (starEach [.Name ca cp1] X.env)).any (·.1) = false := by rfl)
    (hs1' : starEach [.Name n n2, .Name cb cp2] X.env = (false, eval (.Name n n2) X.env) :: starEach [.Name cb cp2] X.env := by rfl) (hs2' : starEach [.Name cb cp2] X.env = (false, eval (.Name cb cp2) X.env) :: starEach [] X.env := by rfl) (hpl' : (backTo q2 (starEach [.Name cb cp2] X.env)).any (·.1) = false := by rfl) :
    PSs (X.suite a ((a, oe) :: pn)) [.Assign [.Name y yp] (.IfExp (.BoolOp .And [.Call (.Name "isinstance" p1) [.Name n n1, .Name ca cp1] [] q1, .Call (.Name "isinstance" p2) [.Name n n2, .Name cb cp2] [] q2] q3) eA eB q4) ap] (tIsSet X.K i j vA vB ta tb a cls d) :=
  pss_one (ps_set hN hj hy (pe_ifExp (PW.pt (pw_and (pt_val (pe_yes hz hg hm (hv _) (hA _) hs1 hs2 hpl)) (pw_and1 (pt_val (pe_yes hz hg hm (hv _) (hB _) hs1' hs2' hpl'))))) ha hb) hs (.inr hf))
theorem s_try_is {i j : Nat} {x n y ca : Str} {c A : Value} {body : List Stmt} {kb : MS} {U : List (Str × Bool)} {t t2 : Str} {np pos pos' yp ap p1 p2 n1 n2 cp1 cp2 q1 q2 q3 q4 sp1 sp2 : Pos} {j1 j2 : Nat} (hs : X.stack = X.env :: X.outer) (hf : X.env.frame = some X.env.locals) (hN : X.N.Nodup) (hi : X.N[i]? = some n) (hk : X.env.kindOf n = some .local)
    (hj : X.N[j]? = some y) (hij : i ≠ j) (hy : L2.Loc X.env.scope y) (hyl : X.env.scope.names.lookup y = some .local) (hg : Gl X "isinstance") (hm : X.mg "isinstance" = none)
    (hx : Names X x c) (tk : Takes X W) (hu : HdOk X.K X.mg c U) (hA : X.mg ca = some A) (hcg : Gl X ca) (hcd : (ca == ("__debug__" : Str)) = false) {B : Addr} (hAB : A = .ref B) (hvg : Gl X "ValueError") (hvm : X.mg "ValueError" = none) (hyes : IsYes X.K X.mg A (.type "ValueError") U)
    (hb : ∀ (W : WX) (pn : List (Addr × Obj)) (xe : Value → Shared → Prop), Takes (X.tr pn xe) W → PassesOwn (model X.prog X.w) X.A X.env xe → PSsm (X.tr pn xe) W body kb)
    (hv : ∀ (a : Addr) (oe : Obj) (pn : List (Addr × Obj)) (vp : Pos), PE (X.suite a ((a, oe) :: pn)) (.Name n vp) (tVar i))
    (hsw : swapsWith (.IfExp (.BoolOp .And [.Call (.Name "isinstance" p1) [.Name n n1, .Name ca cp1] [] q1, .Call (.Name "isinstance" p2) [.Name n n2, .Name "ValueError" cp2] [] q2] q3) (.Constant (.str t) j1 sp1) (.Constant (.str t2) j2 sp2) q4) (some (.Name y yp)) ap.line X.env = pure false := by rfl)
    (hs1 : starEach [.Name n n1, .Name ca cp1] X.env = (false, eval (.Name n n1) X.env) :: starEach [.Name ca cp1] X.env := by rfl) (hs2 : starEach [.Name ca cp1] X.env = (false, eval (.Name ca cp1) X.env) :: starEach [] X.env := by rfl) (hpl : (backTo q1 (starEach [.Name ca cp1] X.env)).any (·.1) = false := by rfl)
    (hs1' : starEach [.Name n n2, .Name "ValueError" cp2] X.env = (false, eval (.Name n n2) X.env) :: starEach [.Name "ValueError" cp2] X.env := by rfl) (hs2' : starEach [.Name "ValueError" cp2] X.env = (false, eval (.Name "ValueError" cp2) X.env) :: starEach [] X.env := by rfl) (hpl' : (backTo q2 (starEach [.Name "ValueError" cp2] X.env)).any (·.1) = false := by rfl) :
    PSm X W (.Try body [.ExceptHandler (some (.Name x np)) (some n) [.Assign [.Name y yp] (.IfExp (.BoolOp .And [.Call (.Name "isinstance" p1) [.Name n n1, .Name ca cp1] [] q1, .Call (.Name "isinstance" p2) [.Name n n2, .Name "ValueError" cp2] [] q2] q3) (.Constant (.str t) j1 sp1) (.Constant (.str t2) j2 sp2) q4) ap] pos'] [] [] pos) (sTryIs kb i j t U) := by
  subst hAB
  refine PS.imp (ps_try_as (i := i) (c := c) (tb := fun W => TSm X.K X.mg W kb) (ts := tIsSet X.K i j (.ref B) (.ty "ValueError") (fun _ _ _ => L2.tC (.str t)) (fun _ _ _ => L2.tC (.str t2))) hs hf hN hi hk hx tk hb
    (fun a oe cls d pn hz hfv => pss_isSet hz hN hj hy hyl hg hm (hv a oe pn) (fun vp => pe_glob (v := .ref B) hcg hA rfl hcd) (fun vp => pe_bltn (v := .ty "ValueError") hvg hvm (by decide +kernel) rfl) pe_str pe_str hsw hs1 hs2 hpl hs1' hs2' hpl')) fun D σ H ⟨ρ, S, L, s, l, h⟩ => ?_
  refine ⟨ρ, S, L, s, l, ?_⟩
  unfold sTryIs at h
  cases hkb : kb L S with
  | exn e L' S' =>
    rw [hkb] at h
    replace h : PostF X.K X.mg W ρ S H (isSet i j t U e L' S') D := h
    intro ρ' H' σ' cls d e1 s' l' q
    have h' := PostF.step s' e1 h
    unfold isSet at h'
    obtain ⟨⟨C', g1, rfl⟩, q2⟩ := q
    split at h'
    · rename_i hb1
      obtain ⟨C2, g2, g3⟩ := hu _ (lookup_mem hb1)
      obtain ⟨C3, g4, g5, g6⟩ := hyes _ (lookup_mem hb1) rfl
      rw [g1] at g2 g4
      cases g2
      cases g4
      by_cases hl : i < L'.length
      · rw [bite_pos (decide_eq_true hl)] at h'
        refine ⟨true, g3, fun _ a ha => ?_, fun z => nomatch z⟩
        exact tIsSet_of (fun u r => r) (fun u r => r) g5 g6 (List.getElem?_set_self (by have := l'.1; omega)) (h' ρ' H' _ (Ext.refl _ _ _) s' (l'.isSet hij (by simp [VR])))
      · rw [bite_neg (decide_eq_false hl)] at h'
        exact h'.elim
    · rename_i hb1
      obtain ⟨C2, g2, g3⟩ := hu _ (lookup_mem hb1)
      rw [g1] at g2
      cases g2
      exact ⟨false, g3, (fun z => nomatch z), fun _ => h' ρ' H' σ' _ d (Ext.refl _ _ _) s' l' ⟨⟨_, g1, rfl⟩, q2⟩⟩
    · exact h'.elim
  | nx L' S' => rw [hkb] at h; exact h
  | bk L' S' => rw [hkb] at h; exact h
  | ct L' S' => rw [hkb] at h; exact h
  | rt v S' => rw [hkb] at h; exact h
  | bad => rw [hkb] at h; exact h.elim
end
end Mp

/-! MpZ2: ord, <= of texts, text += text, text times int. -/
namespace L2
open PySem PySem.Spec PyProof.Rows
variable {X : Cx}
theorem fold_rep (c : Nat) : ∀ (n : Nat) (z : Array Nat), (List.replicate n #[c]).foldl (· ++ ·) z = z ++ (List.replicate n c).toArray
  | 0, z => by simp
  | n + 1, z => by
    rw [List.replicate_succ, List.foldl_cons, fold_rep c n]
    apply Array.ext'
    simp [List.replicate_succ]
/-- a sign times a small whole number above 1 -/
theorem op_mul_sign : OpR X (binaryOp .Mult) (fun x y H Q => ∃ (c : Nat) (n : Int), x = .str ⟨#[c]⟩ ∧ y = .int n ∧ 2 ≤ n ∧ n ≤ 1000 ∧ Q (.str ⟨(List.replicate n.toNat c).toArray⟩) H) := by
  intro pins s σ H x y v u Q I rx ry h
  obtain ⟨c, n, rfl, rfl, h1, h2, q⟩ := h
  obtain ⟨t, rfl⟩ := rx
  obtain ⟨t', rfl⟩ := ry
  have len : (⟨#[c]⟩ : Str).length = 1 := rfl
  have q1 : ¬ n < 1 := by omega
  have q2 : (n == 1 || (⟨#[c]⟩ : Str).length == 0) = false := by
    have : (n == 1) = false := by simp; omega
    rw [this, len]; rfl
  refine PySem.P.mul_str ?_ (fun _ _ => ?_) (fun _ _ => ?_) ?_
  · simp; omega
  · rw [len]
    have h3 : (1 : Int) ≤ 9223372036854775807 / n := Int.le_ediv_of_mul_le (by omega) (by omega)
    have e : (2 ^ 63 - 1 : Int) = 9223372036854775807 := by decide
    rw [e]
    show ¬ (1 : Int) > _
    omega
  · rw [len, Nat.one_mul]
    have : n.toNat ≤ 1000 := by omega
    unfold Builtin.Str.tooLong
    rw [sizeLine_eq]
    simp
    omega
  · rw [if_neg q1, q2, if_neg Bool.false_ne_true]
    have e : (List.replicate n.toNat (⟨#[c]⟩ : Str).cps).foldl (· ++ ·) #[] = (List.replicate n.toNat c).toArray := by
      rw [fold_rep c n.toNat #[]]
      simp
    rw [e]
    refine ⟨?_, .str _, H, I.tok _, ⟨_, rfl⟩, q⟩
    show (List.replicate n.toNat c).toArray.size ≤ 16777216
    simp
    omega
end L2
namespace Mp
open PySem PySem.Spec L2
variable {X : Cx} {W : WX}
def fOrd : Fn := one fun v S => match v with
  | .str x => bite (decide (x.length = 1)) (.ok (.int (x.cps.getD 0 0 : Nat)) S) .bad
  | _ => .bad
theorem c_ord : CallR X (.builtin "ord") (rF X fOrd) := CallR.imp call_ord fun us H Q h => by
  replace h := one_of h
  obtain ⟨u, rfl, ρ, S, x, s, v, h⟩ := h
  dsimp only at h
  split at h
  · rename_i x
    simp only [VR] at v; subst v
    by_cases q : x.length = 1
    · rw [bite_pos (decide_eq_true q)] at h
      exact ⟨x, rfl, q, Post.here (rel := relV X.K) s h (by simp [relV, VR])⟩
    · rw [bite_neg (decide_eq_false q)] at h
      exact h.elim
  · exact h.elim
/-- <= of texts -/
def pLeS : P2 := fun x y S => match x, y with
  | .str a, .str b => .ok (.bl (!decide (b.cps.toList < a.cps.toList))) S
  | _, _ => .bad
theorem o_leS : OpS X (compareOp .LtE) pLeS := OpR.imp op_le_str fun u w H Q h => by
  obtain ⟨ρ, S, x, y, s, v1, v2, h⟩ := h
  unfold pLeS at h
  split at h
  · rename_i a b
    exact ⟨a, b, by simpa [VR] using v1, by simpa [VR] using v2, Post.here (rel := relV X.K) s h (by simp [relV, VR])⟩
  · exact h.elim
/-- text += text -/
def pAddS : P2 := fun x y S => match x, y with
  | .str a, .str b => bite (decide (a.length + b.length ≤ LIM)) (.ok (.str (a ++ b)) S) .bad
  | _, _ => .bad
theorem io_addS : OpS X (inplaceOp .Add) pAddS := OpR.imp iop_add_str fun u w H Q h => by
  obtain ⟨ρ, S, x, y, s, v1, v2, h⟩ := h
  unfold pAddS at h
  split at h
  · rename_i a b
    by_cases q : a.length + b.length ≤ LIM
    · rw [bite_pos (decide_eq_true q)] at h
      exact ⟨a, b, by simpa [VR] using v1, by simpa [VR] using v2, q, Post.here (rel := relV X.K) s h (by simp [relV, VR])⟩
    · rw [bite_neg (decide_eq_false q)] at h
      exact h.elim
  · exact h.elim
/-- a sign times a whole number -/
def pMulS : P2 := fun x y S => match x, y with
  | .str ⟨⟨[c]⟩⟩, .int n => bite (decide (2 ≤ n) && decide (n ≤ 1000)) (.ok (.str ⟨(List.replicate n.toNat c).toArray⟩) S) .bad
  | _, _ => .bad
theorem o_mulS : OpS X (binaryOp .Mult) pMulS := OpR.imp op_mul_sign fun u w H Q h => by
  obtain ⟨ρ, S, x, y, s, v1, v2, h⟩ := h
  unfold pMulS at h
  split at h
  · rename_i c n
    by_cases q : 2 ≤ n ∧ n ≤ 1000
    · rw [bite_pos (by simp [q.1, q.2])] at h
      exact ⟨c, n, by simpa [VR] using v1, by simpa [VR] using v2, q.1, q.2, Post.here (rel := relV X.K) s h (by simp [relV, VR])⟩
    · rw [bite_neg (by simp; omega)] at h
      exact h.elim
  · exact h.elim
@[simp] theorem pMulS_app (c : Nat) (n : Int) (S : Store) : pMulS (.str ⟨#[c]⟩) (.int n) S = bite (decide (2 ≤ n) && decide (n ≤ 1000)) (.ok (.str ⟨(List.replicate n.toNat c).toArray⟩) S) .bad := rfl
@[simp] theorem fOrd_one (c : Nat) (S : Store) : fOrd [.str ⟨#[c]⟩] S = .ok (.int c) S := rfl
@[simp] theorem pLeS_app (a b : Str) (S : Store) : pLeS (.str a) (.str b) S = .ok (.bl (!decide (b.cps.toList < a.cps.toList))) S := rfl
@[simp] theorem pAddS_app (a b : Str) (S : Store) : pAddS (.str a) (.str b) S = bite (decide (a.length + b.length ≤ LIM)) (.ok (.str (a ++ b)) S) .bad := rfl
end Mp

/-! MpZ3: a statement whose things are let go behind it. -/
namespace Mp
open PySem PySem.Spec L2
theorem p_G {X : Cx} {W : WX} {s : Stmt} {b : MS} (h : PSm X W s b) : PSm X W s (sG b) := PS.imp h fun D σ H ⟨ρ, S, L, s, l, h⟩ => ⟨ρ, S, L, s, l, h.gc s⟩
end Mp

/-! printed by gen2.py: defs of the program as combinators -/
namespace KR
open PySem PySem.Spec L2 Mp
noncomputable def m_law_pool_b1 : MS := (sAsg (m2 pMod (mB fInt (aCons (m2 pAdd (m2 pAdd (m2 pMulI (mV 1) (mC (.int 48271))) (m2 pMod (mB fInt (aCons (mV 2) aNil)) (mC (.int 2147483629)))) (mC (.int 11))) aNil)) (mC (.int 2147483647))) (gN 1))
noncomputable def m_law_pool : Fn := (fDef 3 1
    (sSeq (sAsg (m2 pAdd (m2 pAdd (m2 pMod (mB fInt (aCons (mG (mB fSumA (aCons (mSl (mV 0) oNo (oSome (mC (.int 1)))) aNil))) aNil)) (mC (.int 1000003))) (mB fLen (aCons (mV 0) aNil))) (mC (.int 1))) (gN 1))
    (sSeq (sG (Mp.sFor (iV (mSl (mV 0) oNo (oSome (mC (.int 63))))) (gN 2)
    KR.m_law_pool_b1))
    (sRet (mLst (aCons (mV 1) (aCons (mC (.int 0)) (aCons (mG (mLc (iV (mSl (mV 0) oNo (oSome (mC (.int 63))))) [2] (gN 2) (tV (m2 pGe (mB fAbs (aCons (mV 2) aNil)) (m2 pPow (mC (.int 10)) (mC (.int 18))))) (mB fAbs (aCons (mV 2) aNil)))) aNil))))))))
noncomputable def m_law_draw : Fn := fG (fDef 5 2
    (sSeq (sAsg (m2 pAdd (m2 pIx (mV 0) (mC (.int 1))) (mC (.int 1))) (gSub (mV 0) (mC (.int 1)) pSet))
    (sSeq (sAsg (m2 pIx (mV 0) (mC (.int 2))) (gN 2))
    (sSeq (sIf (tV (m2 pGt (mB fLen (aCons (mV 2) aNil)) (mC (.int 0))))
    (sSeq (sAsg (m2 pMod (mB fInt (aCons (m2 pIx (mV 2) (mC (.int 0))) aNil)) (mV 1)) (gN 3))
    (sSeq (sAsg (m2 pDiv (mB fInt (aCons (m2 pIx (mV 2) (mC (.int 0))) aNil)) (mV 1)) (gSub (mV 2) (mC (.int 0)) pSet))
    (sSeq (sIf (tV (m2 pEq (m2 pIx (mV 2) (mC (.int 0))) (mC (.int 0))))
    (sExpr (mBM "list" fPopAt (mV 2) (aCons (mC (.int 0)) aNil)))
    sNx)
    (sRet (mV 3)))))
    sNx)
    (sSeq (sAsg (m2 pMod (mB fInt (aCons (m2 pMulI (m2 pAdd (m2 pIx (mV 0) (mC (.int 0))) (m2 pMulI (mC (.int 7919)) (m2 pIx (mV 0) (mC (.int 1))))) (mC (.int 48271))) aNil)) (mC (.int 2147483647))) (gN 4))
    (sSeq (sAsg (m2 pMod (mB fInt (aCons (m2 pMulI (mV 4) (m2 pAdd (m2 pDiv (mV 4) (mC (.int 1009))) (mC (.int 69621)))) aNil)) (mC (.int 2147483647))) (gN 4))
    (sSeq (sAsg (m2 pMod (mB fInt (aCons (m2 pMulI (mV 4) (m2 pAdd (m2 pDiv (mV 4) (mC (.int 2003))) (mC (.int 40692)))) aNil)) (mC (.int 2147483399))) (gN 4))
    (sRet (m2 pMod (mB fInt (aCons (m2 pDiv (mV 4) (mC (.int 16))) aNil)) (mV 1))))))))))
noncomputable def m_law_whole_b1 : MS := (sSeq (sExpr (mBM "list" fAppend (mV 1) (aCons (m2 pAdd (m2 pMod (mV 0) (mC (.int 128))) (mC (.int 128))) aNil)))
    (sAsg (m2 pDiv (mV 0) (mC (.int 128))) (gN 0)))
noncomputable def m_law_whole : Fn := fG (fDef 2 1
    (sSeq (sAsg (mLst aNil) (gN 1))
    (sSeq (Mp.sWhile (tV (m2 pGt (mV 0) (mC (.int 127))))
    KR.m_law_whole_b1)
    (sRet (mG (m2 pAdd (mV 1) (mLst (aCons (mV 0) aNil))))))))
noncomputable def m_law_bytes : Nat → Fn
  | 0 => fun _ _ => .bad
  | fu + 1 => fG (fDef 4 1
    (sSeq (sIf (tV (m2 pIs (mV 0) (mC .non)))
    (sRet (mLst (aCons (mC (.int 0)) aNil)))
    sNx)
    (sSeq (sIf (tV (m1 (pIsT "bool") (mV 0)))
    (sRet (mLst (aCons (m2 pAdd (mC (.int 1)) (mB fInt (aCons (mV 0) aNil))) aNil)))
    sNx)
    (sSeq (sIf (tV (m1 (pIsT "int") (mV 0)))
    (sRet (mIf (tV (m2 pGe (mV 0) (mC (.int 0)))) (mG (m2 pAdd (mLst (aCons (mC (.int 3)) aNil)) (mA KR.m_law_whole (aCons (mV 0) aNil)))) (mG (m2 pAdd (mLst (aCons (mC (.int 4)) aNil)) (mA KR.m_law_whole (aCons (m2 pSub (m2 pSub (mC (.int 0)) (mC (.int 1))) (mV 0)) aNil))))))
    sNx)
    (sSeq (sIf (tV (m1 (pIsT "str") (mV 0)))
    (sRet (mG (m2 pAdd (m2 pAdd (mLst (aCons (mC (.int 5)) aNil)) (mA KR.m_law_whole (aCons (mB fLen (aCons (mV 0) aNil)) aNil))) (mLc (iV (mV 0)) [3] (gN 3) tYes (mB fOrd (aCons (mV 3) aNil))))))
    sNx)
    (sSeq (sAsg (mG (m2 pAdd (mLst (aCons (mC (.int 6)) aNil)) (mA KR.m_law_whole (aCons (mB fLen (aCons (mV 0) aNil)) aNil)))) (gN 1))
    (sSeq (Mp.sFor (iV (mV 0)) (gN 2)
    (sG (sK [2] (sExpr (mBM "list" fExtend (mV 1) (aCons (mA (m_law_bytes fu) (aCons (mV 2) aNil)) aNil))))))
    (sRet (mV 1)))))))))
theorem m_law_bytes_len : ∀ (n : Nat) (vs : List Val) (S : Store), vs.length ≠ 1 → m_law_bytes n vs S = .bad
  | 0, _, _, _ => rfl
  | n + 1, vs, S, h => by unfold m_law_bytes; exact fG_len fDef_len vs S h
theorem m_law_bytes_succ (n : Nat) : m_law_bytes (n + 1) = fG (fDef 4 1
    (sSeq (sIf (tV (m2 pIs (mV 0) (mC .non)))
    (sRet (mLst (aCons (mC (.int 0)) aNil)))
    sNx)
    (sSeq (sIf (tV (m1 (pIsT "bool") (mV 0)))
    (sRet (mLst (aCons (m2 pAdd (mC (.int 1)) (mB fInt (aCons (mV 0) aNil))) aNil)))
    sNx)
    (sSeq (sIf (tV (m1 (pIsT "int") (mV 0)))
    (sRet (mIf (tV (m2 pGe (mV 0) (mC (.int 0)))) (mG (m2 pAdd (mLst (aCons (mC (.int 3)) aNil)) (mA KR.m_law_whole (aCons (mV 0) aNil)))) (mG (m2 pAdd (mLst (aCons (mC (.int 4)) aNil)) (mA KR.m_law_whole (aCons (m2 pSub (m2 pSub (mC (.int 0)) (mC (.int 1))) (mV 0)) aNil))))))
    sNx)
    (sSeq (sIf (tV (m1 (pIsT "str") (mV 0)))
    (sRet (mG (m2 pAdd (m2 pAdd (mLst (aCons (mC (.int 5)) aNil)) (mA KR.m_law_whole (aCons (mB fLen (aCons (mV 0) aNil)) aNil))) (mLc (iV (mV 0)) [3] (gN 3) tYes (mB fOrd (aCons (mV 3) aNil))))))
    sNx)
    (sSeq (sAsg (mG (m2 pAdd (mLst (aCons (mC (.int 6)) aNil)) (mA KR.m_law_whole (aCons (mB fLen (aCons (mV 0) aNil)) aNil)))) (gN 1))
    (sSeq (Mp.sFor (iV (mV 0)) (gN 2)
    (sG (sK [2] (sExpr (mBM "list" fExtend (mV 1) (aCons (mA (m_law_bytes n) (aCons (mV 2) aNil)) aNil))))))
    (sRet (mV 1))))))))) := rfl
noncomputable def m_law_number_b1 : MS := (sK [3] (sAsg (m2 pAdd (m2 pMulI (mV 2) (mC (.int 1000))) (mA KR.m_law_draw (aCons (mV 0) (aCons (mC (.int 1000)) aNil)))) (gN 2)))
noncomputable def m_law_number : Fn := fG (fDef 4 1
    (sSeq (sAsg (mA KR.m_law_draw (aCons (mV 0) (aCons (mC (.int 7)) aNil))) (gN 1))
    (sSeq (sIf (tV (m2 pLt (mV 1) (mC (.int 3))))
    (sRet (mG (m2 pIx (mLst (aCons (mC (.int 0)) (aCons (mC (.int 1)) (aCons (m1 pNeg (mC (.int 1))) (aCons (mC (.int 127)) (aCons (mC (.int 128)) (aCons (m1 pNeg (mC (.int 128))) (aCons (m1 pNeg (mC (.int 129))) (aCons (mC (.int 300)) (aCons (mC (.int 16383)) (aCons (mC (.int 16384)) (aCons (m1 pNeg (mC (.int 16385))) aNil)))))))))))) (mA KR.m_law_draw (aCons (mV 0) (aCons (mC (.int 11)) aNil))))))
    sNx)
    (sSeq (sAsg (mA KR.m_law_draw (aCons (mV 0) (aCons (mC (.int 1000)) aNil))) (gN 2))
    (sSeq (Mp.sFor (iRng1 (aCons (mA KR.m_law_draw (aCons (mV 0) (aCons (mC (.int 5)) aNil))) aNil)) (gN 3)
    KR.m_law_number_b1)
    (sRet (mIf (tV (m2 pLt (mV 1) (mC (.int 6)))) (mV 2) (m2 pSub (mC (.int 0)) (mV 2)))))))))
noncomputable def m_law_parcel : Nat → Fn
  | 0 => fun _ _ => .bad
  | fu + 1 => fG (fDef 6 2
    (sSeq (sAsg (mA KR.m_law_draw (aCons (mV 0) (aCons (mC (.int 10)) aNil))) (gN 2))
    (sSeq (sIf (tV (m2 pLt (mV 2) (mC (.int 3))))
    (sRet (mG (m2 pIx (mLst (aCons (mC .non) (aCons (mC (.bl true)) (aCons (mC (.bl false)) aNil)))) (mV 2))))
    sNx)
    (sSeq (sIf (tV (m2 pLt (mV 2) (mC (.int 5))))
    (sRet (mA KR.m_law_number (aCons (mV 0) aNil)))
    sNx)
    (sSeq (sIf (tV (m2 pLt (mV 2) (mC (.int 7))))
    (sSeq (sAsg (mIf (tV (m2 pEq (mA KR.m_law_draw (aCons (mV 0) (aCons (mC (.int 8)) aNil))) (mC (.int 0)))) (mC (.int 20)) (m2 pAdd (mC (.int 1)) (mA KR.m_law_draw (aCons (mV 0) (aCons (mC (.int 6)) aNil))))) (gN 3))
    (sRet (mG (mBM "str" fJoin (mC (.str "")) (aCons (mLc (iRng1 (aCons (mV 3) aNil)) [4] (gN 4) tYes (m2 pIx (mC (.str " ~a0Zb'")) (mA KR.m_law_draw (aCons (mV 0) (aCons (mC (.int 7)) aNil))))) aNil)))))
    sNx)
    (sSeq (sIf (tV (m2 pEq (mV 1) (mC (.int 0))))
    (sRet (mC (.int 7)))
    sNx)
    (sRet (mG (mB fTuple (aCons (mLc (iRng1 (aCons (mA KR.m_law_draw (aCons (mV 0) (aCons (mC (.int 5)) aNil))) aNil)) [5] (gN 5) tYes (mA (m_law_parcel fu) (aCons (mV 0) (aCons (m2 pSub (mV 1) (mC (.int 1))) aNil)))) aNil))))))))))
theorem m_law_parcel_len : ∀ (n : Nat) (vs : List Val) (S : Store), vs.length ≠ 2 → m_law_parcel n vs S = .bad
  | 0, _, _, _ => rfl
  | n + 1, vs, S, h => by unfold m_law_parcel; exact fG_len fDef_len vs S h
theorem m_law_parcel_succ (n : Nat) : m_law_parcel (n + 1) = fG (fDef 6 2
    (sSeq (sAsg (mA KR.m_law_draw (aCons (mV 0) (aCons (mC (.int 10)) aNil))) (gN 2))
    (sSeq (sIf (tV (m2 pLt (mV 2) (mC (.int 3))))
    (sRet (mG (m2 pIx (mLst (aCons (mC .non) (aCons (mC (.bl true)) (aCons (mC (.bl false)) aNil)))) (mV 2))))
    sNx)
    (sSeq (sIf (tV (m2 pLt (mV 2) (mC (.int 5))))
    (sRet (mA KR.m_law_number (aCons (mV 0) aNil)))
    sNx)
    (sSeq (sIf (tV (m2 pLt (mV 2) (mC (.int 7))))
    (sSeq (sAsg (mIf (tV (m2 pEq (mA KR.m_law_draw (aCons (mV 0) (aCons (mC (.int 8)) aNil))) (mC (.int 0)))) (mC (.int 20)) (m2 pAdd (mC (.int 1)) (mA KR.m_law_draw (aCons (mV 0) (aCons (mC (.int 6)) aNil))))) (gN 3))
    (sRet (mG (mBM "str" fJoin (mC (.str "")) (aCons (mLc (iRng1 (aCons (mV 3) aNil)) [4] (gN 4) tYes (m2 pIx (mC (.str " ~a0Zb'")) (mA KR.m_law_draw (aCons (mV 0) (aCons (mC (.int 7)) aNil))))) aNil)))))
    sNx)
    (sSeq (sIf (tV (m2 pEq (mV 1) (mC (.int 0))))
    (sRet (mC (.int 7)))
    sNx)
    (sRet (mG (mB fTuple (aCons (mLc (iRng1 (aCons (mA KR.m_law_draw (aCons (mV 0) (aCons (mC (.int 5)) aNil))) aNil)) [5] (gN 5) tYes (mA (m_law_parcel n) (aCons (mV 0) (aCons (m2 pSub (mV 1) (mC (.int 1))) aNil)))) aNil)))))))))) := rfl
noncomputable def m_law_same : Nat → Fn
  | 0 => fun _ _ => .bad
  | fu + 1 => fG (fDef 4 2
    (sSeq (sIf (Mp.tOr (tV (m1 (pIsT "tuple") (mV 0))) (tV (m1 (pIsT "tuple") (mV 1))))
    (sSeq (sIf (Mp.tOr (Mp.tNot (tV (m1 (pIsT "tuple") (mV 0)))) (Mp.tOr (Mp.tNot (tV (m1 (pIsT "tuple") (mV 1)))) (tV (m2 pNe (mB fLen (aCons (mV 0) aNil)) (mB fLen (aCons (mV 1) aNil))))))
    (sRet (mC (.bl false)))
    sNx)
    (sRet (mG (mB fAll (aCons (mLc (iZip (aCons (mV 0) (aCons (mV 1) aNil))) [2, 3] (gTup (gsCons (gN 2) (gsCons (gN 3) gsNil))) tYes (mA (m_law_same fu) (aCons (mV 2) (aCons (mV 3) aNil)))) aNil)))))
    sNx)
    (sRet (mAnd (m2 pEq (m1 (pIsT "bool") (mV 0)) (m1 (pIsT "bool") (mV 1))) (mAnd (m2 pEq (m1 (pIsT "str") (mV 0)) (m1 (pIsT "str") (mV 1))) (m2 pEq (mV 0) (mV 1)))))))
theorem m_law_same_len : ∀ (n : Nat) (vs : List Val) (S : Store), vs.length ≠ 2 → m_law_same n vs S = .bad
  | 0, _, _, _ => rfl
  | n + 1, vs, S, h => by unfold m_law_same; exact fG_len fDef_len vs S h
theorem m_law_same_succ (n : Nat) : m_law_same (n + 1) = fG (fDef 4 2
    (sSeq (sIf (Mp.tOr (tV (m1 (pIsT "tuple") (mV 0))) (tV (m1 (pIsT "tuple") (mV 1))))
    (sSeq (sIf (Mp.tOr (Mp.tNot (tV (m1 (pIsT "tuple") (mV 0)))) (Mp.tOr (Mp.tNot (tV (m1 (pIsT "tuple") (mV 1)))) (tV (m2 pNe (mB fLen (aCons (mV 0) aNil)) (mB fLen (aCons (mV 1) aNil))))))
    (sRet (mC (.bl false)))
    sNx)
    (sRet (mG (mB fAll (aCons (mLc (iZip (aCons (mV 0) (aCons (mV 1) aNil))) [2, 3] (gTup (gsCons (gN 2) (gsCons (gN 3) gsNil))) tYes (mA (m_law_same n) (aCons (mV 2) (aCons (mV 3) aNil)))) aNil)))))
    sNx)
    (sRet (mAnd (m2 pEq (m1 (pIsT "bool") (mV 0)) (m1 (pIsT "bool") (mV 1))) (mAnd (m2 pEq (m1 (pIsT "str") (mV 0)) (m1 (pIsT "str") (mV 1))) (m2 pEq (mV 0) (mV 1))))))) := rfl
end KR

/-! MpP: the drawing pool: cells at 0, the pool at 1; small rules. -/
namespace Mp
open PySem (Str)
theorem seqNx {a b : MS} {L L1 : Loc} {S S1 : Store} (h : a L S = .nx L1 S1) : sSeq a b L S = b L1 S1 := by rw [sSeq_app, h, F.andThen_nx]
theorem seqRt {a b : MS} {L : Loc} {v : Val} {S S1 : Store} (h : a L S = .rt v S1) : sSeq a b L S = .rt v S1 := by rw [sSeq_app, h, F.andThen_rt]
theorem seqExn {a b : MS} {L L1 : Loc} {e : Ex} {S S1 : Store} (h : a L S = .exn e L1 S1) : sSeq a b L S = .exn e L1 S1 := by rw [sSeq_app, h, F.andThen_exn]
theorem ifT {t : MT} {a b : MS} {L : Loc} {S S' : Store} (h : t L S = .ok true S') : sIf t a b L S = a L S' := by
  rw [sIf_app, h]; rfl
theorem ifF {t : MT} {a b : MS} {L : Loc} {S S' : Store} (h : t L S = .ok false S') : sIf t a b L S = b L S' := by
  rw [sIf_app, h]; rfl
theorem popZ {S : Store} {a : Nat} {y : Val} {r : List Val} (h : sg S a = some (.lst (y :: r))) : fPopAt (.ref a) [.int 0] S = .ok y (ss S a (.lst r)) := by
  have h' : S[a]? = some (.lst (y :: r)) := h
  unfold fPopAt
  simp [h', L2.ixN]
  rfl
def Pool (S : Store) : Prop := ∃ (cs : List Int) (s n : Int), sg S 0 = some (.lst (cs.map Val.int)) ∧ sg S 1 = some (.lst [.int s, .int n, .ref 0]) ∧ ∀ c, c ∈ cs → 0 ≤ c
/-- behind draws -/
structure Dr (S S' : Store) : Prop where
  len : sl S' = sl S
  same : ∀ i, 2 ≤ i → sg S' i = sg S i
  pool : Pool S'
theorem Pool.lt {S : Store} (H : Pool S) : 2 ≤ sl S := by
  obtain ⟨cs, s, n, e0, e1, _⟩ := H
  exact sg_lt e1
theorem Pool.of {S S' : Store} (H : Pool S) (e1 : sg S' 1 = sg S 1) (e0 : sg S' 0 = sg S 0) : Pool S' := by
  obtain ⟨cs, s, n, q0, q1, r⟩ := H
  exact ⟨cs, s, n, e0.trans q0, e1.trans q1, r⟩
theorem Pool.sp {S : Store} (H : Pool S) (o : Ob) : Pool (Mp.sp S o) := H.of (sg_sp_lt (by have := H.lt; omega)) (sg_sp_lt (by have := H.lt; omega))
theorem Pool.ss {S : Store} (H : Pool S) {i : Nat} (h : 2 ≤ i) (o : Ob) : Pool (Mp.ss S i o) := H.of (sg_ss_ne (by omega)) (sg_ss_ne (by omega))
theorem Dr.refl {S : Store} (H : Pool S) : Dr S S := ⟨rfl, fun _ _ => rfl, H⟩
theorem Dr.trans {S T U : Store} (a : Dr S T) (b : Dr T U) : Dr S U := ⟨b.len.trans a.len, fun i h => (b.same i h).trans (a.same i h), b.pool⟩
theorem Dr.sg {S T : Store} (d : Dr S T) {i : Nat} {o : Ob} (h : Mp.sg S i = some o) (h2 : 2 ≤ i) : Mp.sg T i = some o := by rw [d.same i h2]; exact h
theorem sg_none_le {S : Store} {i : Nat} (h : sl S ≤ i) : sg S i = none := List.getElem?_eq_none h
/-- more things, and draws -/
structure DrG (S S' : Store) : Prop where
  len : sl S ≤ sl S'
  same : ∀ i, 2 ≤ i → i < sl S → sg S' i = sg S i
  pool : Pool S'
theorem Dr.g {S T : Store} (d : Dr S T) : DrG S T := ⟨by rw [d.len]; exact Nat.le_refl _, fun i h _ => d.same i h, d.pool⟩
theorem DrG.refl {S : Store} (H : Pool S) : DrG S S := (Dr.refl H).g
theorem DrG.trans {S T U : Store} (a : DrG S T) (b : DrG T U) : DrG S U := ⟨Nat.le_trans a.len b.len, fun i h h2 => (b.same i h (Nat.lt_of_lt_of_le h2 a.len)).trans (a.same i h h2), b.pool⟩
theorem DrG.sp {S : Store} (H : Pool S) (o : Ob) : DrG S (Mp.sp S o) := ⟨by simp, fun i _ h => sg_sp_lt h, H.sp o⟩
theorem DrG.ssN {S T : Store} (d : DrG S T) {i : Nat} {o : Ob} (h : sl S ≤ i) (h2 : 2 ≤ sl S) : DrG S (Mp.ss T i o) := ⟨by rw [sl_ss]; exact d.len, fun j hj hl => by rw [sg_ss_ne (by omega)]; exact d.same j hj hl, d.pool.ss (by omega) o⟩
theorem DrG.grow {S T : Store} (g : Grow S T) (H : Pool S) : DrG S T := ⟨g.1, fun i _ h => g.2 i h, H.of (g.2 1 (by have := H.lt; omega)) (g.2 0 (by have := H.lt; omega))⟩
theorem DrG.sg {S T : Store} (d : DrG S T) {i : Nat} {o : Ob} (h : Mp.sg S i = some o) (h2 : 2 ≤ i) : Mp.sg T i = some o := by rw [d.same i h2 (sg_lt h)]; exact h
theorem DrG.gc {S T : Store} (d : DrG S T) (H : Pool S) : GcOk S T := ⟨d.len, fun i hi => by
  by_cases h : 2 ≤ i
  · exact .inl (d.same i h hi)
  · obtain ⟨cs, s, n, e0, e1, r⟩ := d.pool
    have := H.lt
    right
    rcases (show i = 0 ∨ i = 1 from by omega) with rfl | rfl
    · exact ⟨_, e0, by simp⟩
    · exact ⟨_, e1, by simp; omega⟩⟩
theorem DrG.cut {S T : Store} (d : DrG S T) (H : Pool S) : Dr S (Mp.cut (sl S) T) := by
  have h2 := H.lt
  refine ⟨cut_len d.len, fun i hi => ?_, ?_⟩
  · by_cases h : i < sl S
    · exact (cut_get h).trans (d.same i hi h)
    · rw [sg_none_le (S := S) (by omega)]
      exact sg_none_le (by show (Mp.cut (sl S) T).length ≤ i; rw [cut_len d.len]; show sl S ≤ i; omega)
  · exact d.pool.of (cut_get (by omega)) (cut_get (by omega))
theorem Dr.gc {S T : Store} (d : Dr S T) (H : Pool S) : GcOk S T := d.g.gc H
theorem Dr.cutS {S T : Store} (d : Dr S T) : Mp.cut (sl S) T = T := cut_ge (by rw [d.len]; exact Nat.le_refl _)
theorem gcR_dr {S T : Store} {v : Val} (d : DrG S T) (H : Pool S) (hb : below (sl S) v = true) : ∃ U, gcR S (.ok v T) = .ok v U ∧ Dr S U :=
  ⟨_, by rw [gcR_ok, gate_pos (d.gc H), gcV_low hb], d.cut H⟩
theorem gcR_drE {S T : Store} {v : Val} (d : Dr S T) (H : Pool S) (hb : below (sl S) v = true) : gcR S (.ok v T) = .ok v T := by
  rw [gcR_ok, gate_pos (d.gc H), gcV_low hb, d.cutS]
/-- drawn things in a comprehension -/
theorem lc_pool {α : Type} {L : Loc} {v : Nat} {e : ME} (rep : α → Val) (P : α → Prop) {xs : List Val} {S : Store} (H : Pool S) (hx : xs.length < 100000)
    (h : ∀ x T, x ∈ xs → Dr S T → ∃ a U, e (L.set v (some x)) T = .ok (rep a) U ∧ Dr T U ∧ P a) :
    ∃ (as : List α) (T : Store), lcLoop (fun _ => True) L (gN v) tYes e xs [] S = .ok (as.map rep) T ∧ Dr S T ∧ as.length = xs.length ∧ ∀ a, a ∈ as → P a := by
  obtain ⟨ws, S', e, as, rfl, ho, hl, hb⟩ := lcLoop_inv (keep := fun _ => True) (L := L) (g := gN v) (c := tYes) (e := e)
    (fun i acc S' => ∃ (as : List α), acc = as.map rep ∧ Dr S S' ∧ as.length = i ∧ ∀ a, a ∈ as → P a) (xs := xs) (S := S)
    ⟨[], rfl, Dr.refl H, rfl, by simp⟩ (fun _ _ S' _ _ => trivial) (fun i x acc S' hx' q => by
      obtain ⟨as, rfl, ho, hl, hb⟩ := q
      obtain ⟨a, U, e, h2, hp⟩ := h x S' (List.mem_of_getElem? hx') ho
      have hi := (List.getElem?_eq_some_iff.mp hx').1
      refine ⟨L.set v (some x), S', S', rfl, .inl ⟨rfl, rep a, U, e, by rw [List.length_map, hl]; unfold LIM; omega, as ++ [a], by simp, ho.trans h2, by simp [hl], fun b hb' => ?_⟩⟩
      rcases List.mem_append.mp hb' with hb' | hb'
      · exact hb b hb'
      · simp at hb'
        subst hb'
        exact hp)
  exact ⟨as, S', e, ho, hl, hb⟩
end Mp

/-! KR2H: the pool: drawn numbers. -/
namespace KR
open Mp
open PySem (Str)
theorem draw_spec {S : Store} {m : Int} (H : Pool S) (h0 : 0 < m) (h1 : m < 1073741824) : ∃ (r : Int) (T : Store), m_law_draw [.ref 1, .int m] S = .ok (.int r) T ∧ 0 ≤ r ∧ r < m ∧ Dr S T := by
  obtain ⟨cs, s, n, e0, e1, hc⟩ := id H
  have hlt := H.lt
  have i0 : (sg S 0).isSome = true := by rw [e0]; rfl
  have i1 : (sg S 1).isSome = true := by rw [e1]; rfl
  have mp : ∀ x : Int, 0 ≤ x % m ∧ x % m < m := fun x => ⟨Int.emod_nonneg x (by omega), Int.emod_lt_of_pos x h0⟩
  have pl : ∀ (a : Int) (ds : List Int), (∀ c, c ∈ ds → 0 ≤ c) → Dr S (ss (ss S 1 (.lst [.int s, .int a, .ref 0])) 0 (.lst (ds.map Val.int))) := fun a ds hd => by
    refine ⟨by simp, fun i hi => by rw [sg_ss_ne (by omega), sg_ss_ne (by omega)], ds, s, a, sg_ss_same (by rw [sg_ss_ne (by decide)]; exact i0), by rw [sg_ss_ne (by decide), sg_ss_same i1], hd⟩
  cases cs with
  | nil =>
    obtain ⟨r, hr⟩ : ∃ r, m_law_draw [.ref 1, .int m] S = r := ⟨_, rfl⟩
    have hr' := hr
    have d : Dr S (ss S 1 (.lst [.int s, .int (n + 1), .ref 0])) := by
      refine ⟨by simp, fun i hi => by rw [sg_ss_ne (by omega)], [], s, n + 1, by rw [sg_ss_ne (by decide)]; exact e0, sg_ss_same i1, by simp⟩
    have g := d.gc H
    unfold m_law_draw at hr
    simp [startL, e0, e1, h0, h1, g, cR1, cR3, cM1, hlt] at hr
    rw [hr', ← hr]
    exact ⟨_, _, rfl, (mp _).1, (mp _).2, d⟩
  | cons c r =>
    have hc0 := hc c (by simp)
    by_cases z : c / m = 0
    · obtain ⟨q, hq⟩ : ∃ q, m_law_draw [.ref 1, .int m] S = q := ⟨_, rfl⟩
      have hq' := hq
      have d := pl (n + 1) r fun x hx => hc x (List.mem_cons_of_mem _ hx)
      have g := d.gc H
      have p := popZ (S := ss (ss S 1 (.lst [.int s, .int (n + 1), .ref 0])) 0 (.lst (.int (c / m) :: r.map Val.int))) (a := 0) (y := .int (c / m)) (r := r.map Val.int) (sg_ss_same (by rw [sg_ss_ne (by decide)]; exact i0))
      rw [z] at p
      unfold m_law_draw at hq
      simp [startL, e0, e1, h0, h1, g, cR1, cR3, cM1, hlt, p, z] at hq
      rw [hq', ← hq]
      exact ⟨_, _, rfl, (mp _).1, (mp _).2, d⟩
    · obtain ⟨q, hq⟩ : ∃ q, m_law_draw [.ref 1, .int m] S = q := ⟨_, rfl⟩
      have hq' := hq
      have d := pl (n + 1) (c / m :: r) fun x hx => by
        rcases List.mem_cons.mp hx with rfl | hx
        · exact Int.ediv_nonneg hc0 (by omega)
        · exact hc x (List.mem_cons_of_mem _ hx)
      have g := d.gc H
      rw [List.map_cons] at d g
      unfold m_law_draw at hq
      simp [startL, e0, e1, h0, h1, g, cR1, cR3, cM1, hlt, z] at hq
      rw [hq', ← hq]
      exact ⟨_, _, rfl, (mp _).1, (mp _).2, d⟩
theorem draw_nat {S : Store} {k : Nat} (H : Pool S) (h0 : 0 < k) (h1 : k < 1073741824) : ∃ (r : Nat) (T : Store), m_law_draw [.ref 1, .int k] S = .ok (.int r) T ∧ r < k ∧ Dr S T := by
  obtain ⟨r, T, e, a, b, d⟩ := draw_spec (m := k) H (by omega) (by omega)
  exact ⟨r.toNat, T, by rw [e, Int.toNat_of_nonneg a], by omega, d⟩
theorem pool_spec (ns : List Int) : ∃ S, m_law_pool [.fl ns] [] = .ok (.ref 1) S ∧ Pool S ∧ sl S = 2 := by
  obtain ⟨xs, hxs⟩ : ∃ xs, xs = cutL ns none (some 1) := ⟨_, rfl⟩
  obtain ⟨cs, hcs⟩ : ∃ cs, cs = cutL ns none (some 63) := ⟨_, rfl⟩
  have hl : cs.length ≤ 63 := by
    rw [hcs]
    unfold cutL
    rw [List.length_take]
    have : HT.sIx ns.length ns.length (some 63) = min 63 ns.length := rfl
    rw [this]
    omega
  have s0 : sl ([] : Store) = 0 := rfl
  obtain ⟨v0, hv0⟩ : ∃ v0 : Int, v0 = xs.sum % 1000003 + ns.length + 1 := ⟨_, rfl⟩
  have E1 : (sAsg (m2 pAdd (m2 pAdd (m2 pMod (mB fInt (aCons (mG (mB fSumA (aCons (mSl (mV 0) oNo (oSome (mC (.int 1)))) aNil))) aNil)) (mC (.int 1000003))) (mB fLen (aCons (mV 0) aNil))) (mC (.int 1))) (gN 1)) [some (.fl ns), none, none] [] = .nx [some (.fl ns), some (.int v0), none] [] := by
    simp (maxDischargeDepth := 12) [← hxs, s0, hv0]
  obtain ⟨el, hp⟩ := for_foldI (keep := fun S' => sg S' 0 = some (.lst (cs.map Val.int))) (g := gN 2) (b := m_law_pool_b1) Val.int (fun (p : Int × Option Val) => [some (.fl ns), some (.int p.1), p.2]) (fun _ => sp [] (.lst (cs.map Val.int)))
    (fun _ _ => True) (fun p c => (((p.1 * 48271 + c % 2147483629 + 11) % 2147483647, some (.int c)))) cs (v0, none) (xs := cs.map Val.int) (L0 := [some (.fl ns), some (.int v0), none]) (S0 := sp [] (.lst (cs.map Val.int))) rfl rfl rfl trivial (fun _ _ _ => by simp [s0, sg, sp]) (fun i p c hc _ => by
      refine ⟨.inl ?_, trivial⟩
      unfold m_law_pool_b1
      simp [cR1])
  obtain ⟨p1, hp1⟩ : ∃ p1, p1 = cs.foldl (fun (p : Int × Option Val) c => (((p.1 * 48271 + c % 2147483629 + 11) % 2147483647, some (.int c)))) (v0, none) := ⟨_, rfl⟩
  rw [← hp1] at el
  have E2 : ∃ x2, (sG (Mp.sFor (iV (mSl (mV 0) oNo (oSome (mC (.int 63))))) (gN 2) m_law_pool_b1)) [some (.fl ns), some (.int v0), none] [] = .nx [some (.fl ns), some (.int p1.1), x2] [] := by
    simp (maxDischargeDepth := 12) [← hcs, s0, el]
  obtain ⟨x2, E2⟩ := E2
  obtain ⟨ds, hds⟩ : ∃ ds, ds = (cs.filter fun c => decide (1000000000000000000 ≤ (if c < 0 then -c else c))).map fun c => if c < 0 then -c else c := ⟨_, rfl⟩
  have lc : lcLoop (fun S' => sg S' 0 = some (.lst (cs.map Val.int))) [some (.fl ns), some (.int p1.1), none] (gN 2) (tV (m2 pGe (mB fAbs (aCons (mV 2) aNil)) (m2 pPow (mC (.int 10)) (mC (.int 18))))) (mB fAbs (aCons (mV 2) aNil)) (cs.map Val.int) [] (sp [] (.lst (cs.map Val.int))) = .ok (ds.map Val.int) (sp [] (.lst (cs.map Val.int))) := by
    have e : ds.map Val.int = (cs.filter fun c => decide (1000000000000000000 ≤ (if c < 0 then -c else c))).map fun c => .int (if c < 0 then -c else c) := by rw [hds, List.map_map]; rfl
    rw [e]
    refine lc_if' Val.int (fun c => decide (1000000000000000000 ≤ (if c < 0 then -c else c))) (fun c => .int (if c < 0 then -c else c)) cs rfl (by simp [s0, sg, sp]) (by unfold LIM; omega) fun c hc => ?_
    have ea : ∀ S, fAbs [.int c] S = .ok (.int (if c < 0 then -c else c)) S := fun _ => rfl
    by_cases h : 1000000000000000000 ≤ (if c < 0 then -c else c)
    · simp (maxDischargeDepth := 12) [ea, h]
    · simp (maxDischargeDepth := 12) [ea, h]
  have E3 : (sRet (mLst (aCons (mV 1) (aCons (mC (.int 0)) (aCons (mG (mLc (iV (mSl (mV 0) oNo (oSome (mC (.int 63))))) [2] (gN 2) (tV (m2 pGe (mB fAbs (aCons (mV 2) aNil)) (m2 pPow (mC (.int 10)) (mC (.int 18))))) (mB fAbs (aCons (mV 2) aNil)))) aNil))))) [some (.fl ns), some (.int p1.1), x2] [] = .rt (.ref 1) (sp (sp [] (.lst (ds.map Val.int))) (.lst [.int p1.1, .int 0, .ref 0])) := by
    simp (maxDischargeDepth := 12) [← hcs, s0, lc]
  refine ⟨sp (sp [] (.lst (ds.map Val.int))) (.lst [.int p1.1, .int 0, .ref 0]), ?_, ⟨ds, p1.1, 0, rfl, rfl, fun d hd => ?_⟩, rfl⟩
  · unfold m_law_pool
    rw [fDef_app, bite_pos (by rfl)]
    show endF (sSeq _ _ [some (.fl ns), none, none] []) = _
    rw [seqNx E1, seqNx E2, E3]
    rfl
  · rw [hds] at hd
    obtain ⟨c, _, rfl⟩ := List.mem_map.mp hd
    split <;> omega
/-- one of a display -/
theorem pickP {S T : Store} {L : Loc} {a : MA} {vs : List Val} {k : Int} {p : Nat} (H : Pool S) (d : Dr S T) (ha : a L S = .ok vs T) (hL : L[p]? = some (some (.ref 1))) (hk : k = (vs.length : Nat)) (h0 : 0 < vs.length) (h1 : vs.length < 100000) (hb : belows (sl S) vs = true) :
    ∃ (v : Val) (U : Store), mG (m2 pIx (mLst a) (mA m_law_draw (aCons (mV p) (aCons (mC (.int k)) aNil)))) L S = .ok v U ∧ Dr S U ∧ v ∈ vs := by
  subst hk
  obtain ⟨r, U, e, hr, d2⟩ := draw_nat (k := vs.length) (d.pool.sp (.lst vs)) h0 (by omega)
  have hv : vs[r]? = some vs[r] := by simp [hr]
  have hm : vs[r] ∈ vs := List.getElem_mem _
  have hbv : below (sl S) vs[r] = true := by
    rw [belows_all, List.all_eq_true] at hb
    exact hb _ hm
  have hlt := H.lt
  obtain ⟨V, eV, dV⟩ := gcR_dr (v := vs[r]) (((d.g).trans (DrG.sp d.pool (.lst vs))).trans d2.g) H hbv
  refine ⟨vs[r], V, ?_, dV, hm⟩
  have hz : vs.length ≤ 16777216 := by omega
  have hs : sg U (sl T) = some (.lst vs) := d2.sg sg_sp_new (by rw [d.len]; omega)
  rw [← eV]
  simp (maxDischargeDepth := 12) [ha, hz, getL_some hL, e, hs, hr, -gcR_ok]
end KR

/-! printed by gen2.py: defs of the program as combinators -/
namespace KR
open PySem PySem.Spec L2 Mp
noncomputable def m_is_sign : Fn := fG (fDef 1 1
    (sRet (mAnd (mChain pLe pLe (mC (.int 32)) (mV 0) (mC (.int 126))) (m2 pNe (mV 0) (mC (.int 37))))))
noncomputable def m_is_short_string : Fn := fG (fDef 2 1
    (sSeq (sIf (Mp.tOr (Mp.tNot (tV (m1 (pIsT "str") (mV 0)))) (Mp.tNot (tV (mChain pLe pLe (mC (.int 1)) (mB fLen (aCons (mV 0) aNil)) (mC (.int 20))))))
    (sRet (mC (.bl false)))
    sNx)
    (sRet (mG (mB fAll (aCons (mLc (iV (mV 0)) [1] (gN 1) tYes (mA KR.m_is_sign (aCons (mB fOrd (aCons (mV 1) aNil)) aNil))) aNil))))))
noncomputable def m_is_parcel_deep : Nat → Fn
  | 0 => fun _ _ => .bad
  | fu + 1 => fG (fDef 3 2
    (sSeq (sIf (tV (m1 (pIsT "tuple") (mV 0)))
    (sRet (mAnd (m2 pGt (mV 1) (mC (.int 0))) (mG (mB fAll (aCons (mLc (iV (mV 0)) [2] (gN 2) tYes (mA (m_is_parcel_deep fu) (aCons (mV 2) (aCons (m2 pSub (mV 1) (mC (.int 1))) aNil)))) aNil)))))
    sNx)
    (sRet (mOr (m2 pIs (mV 0) (mC .non)) (mOr (m1 (pIsT "int") (mV 0)) (mA KR.m_is_short_string (aCons (mV 0) aNil)))))))
theorem m_is_parcel_deep_len : ∀ (n : Nat) (vs : List Val) (S : Store), vs.length ≠ 2 → m_is_parcel_deep n vs S = .bad
  | 0, _, _, _ => rfl
  | n + 1, vs, S, h => by unfold m_is_parcel_deep; exact fG_len fDef_len vs S h
theorem m_is_parcel_deep_succ (n : Nat) : m_is_parcel_deep (n + 1) = fG (fDef 3 2
    (sSeq (sIf (tV (m1 (pIsT "tuple") (mV 0)))
    (sRet (mAnd (m2 pGt (mV 1) (mC (.int 0))) (mG (mB fAll (aCons (mLc (iV (mV 0)) [2] (gN 2) tYes (mA (m_is_parcel_deep n) (aCons (mV 2) (aCons (m2 pSub (mV 1) (mC (.int 1))) aNil)))) aNil)))))
    sNx)
    (sRet (mOr (m2 pIs (mV 0) (mC .non)) (mOr (m1 (pIsT "int") (mV 0)) (mA KR.m_is_short_string (aCons (mV 0) aNil))))))) := rfl
noncomputable def m_is_parcel : Fn := fG (fDef 1 1
    (sRet (mA (KR.m_is_parcel_deep 40) (aCons (mV 0) (aCons (mC (.int 20)) aNil)))))
noncomputable def m_whole_b1 : MS := (sSeq (sExpr (mBM "list" fAppend (mV 1) (aCons (m2 pAdd (mC (.int 128)) (m2 pMod (mV 0) (mC (.int 128)))) aNil)))
    (sAsg (m2 pDiv (mV 0) (mC (.int 128))) (gN 0)))
noncomputable def m_whole : Fn := fG (fDef 2 1
    (sSeq (sAsg (mLst aNil) (gN 1))
    (sSeq (Mp.sWhile (tV (m2 pGe (mV 0) (mC (.int 128))))
    KR.m_whole_b1)
    (sRet (mG (m2 pAdd (mV 1) (mLst (aCons (mV 0) aNil))))))))
noncomputable def m_bytes_of : Nat → Fn
  | 0 => fun _ _ => .bad
  | fu + 1 => fG (fDef 4 1
    (sSeq (sIf (tV (m2 pIs (mV 0) (mC .non)))
    (sRet (mLst (aCons (mC (.int 0)) aNil)))
    sNx)
    (sSeq (sIf (tV (m1 (pIsT "bool") (mV 0)))
    (sRet (mLst (aCons (mIf (tV (mV 0)) (mC (.int 2)) (mC (.int 1))) aNil)))
    sNx)
    (sSeq (sIf (tV (m1 (pIsT "int") (mV 0)))
    (sRet (mIf (tV (m2 pGe (mV 0) (mC (.int 0)))) (mG (m2 pAdd (mLst (aCons (mC (.int 3)) aNil)) (mA KR.m_whole (aCons (mV 0) aNil)))) (mG (m2 pAdd (mLst (aCons (mC (.int 4)) aNil)) (mA KR.m_whole (aCons (m2 pSub (m1 pNeg (mC (.int 1))) (mV 0)) aNil))))))
    sNx)
    (sSeq (sIf (tV (m1 (pIsT "str") (mV 0)))
    (sRet (mG (m2 pAdd (m2 pAdd (mLst (aCons (mC (.int 5)) aNil)) (mA KR.m_whole (aCons (mB fLen (aCons (mV 0) aNil)) aNil))) (mLc (iV (mV 0)) [3] (gN 3) tYes (mB fOrd (aCons (mV 3) aNil))))))
    sNx)
    (sSeq (sAsg (mG (m2 pAdd (mLst (aCons (mC (.int 6)) aNil)) (mA KR.m_whole (aCons (mB fLen (aCons (mV 0) aNil)) aNil)))) (gN 1))
    (sSeq (Mp.sFor (iV (mV 0)) (gN 2)
    (sG (sK [2] (sExpr (mBM "list" fExtend (mV 1) (aCons (mA (m_bytes_of fu) (aCons (mV 2) aNil)) aNil))))))
    (sRet (mV 1)))))))))
theorem m_bytes_of_len : ∀ (n : Nat) (vs : List Val) (S : Store), vs.length ≠ 1 → m_bytes_of n vs S = .bad
  | 0, _, _, _ => rfl
  | n + 1, vs, S, h => by unfold m_bytes_of; exact fG_len fDef_len vs S h
theorem m_bytes_of_succ (n : Nat) : m_bytes_of (n + 1) = fG (fDef 4 1
    (sSeq (sIf (tV (m2 pIs (mV 0) (mC .non)))
    (sRet (mLst (aCons (mC (.int 0)) aNil)))
    sNx)
    (sSeq (sIf (tV (m1 (pIsT "bool") (mV 0)))
    (sRet (mLst (aCons (mIf (tV (mV 0)) (mC (.int 2)) (mC (.int 1))) aNil)))
    sNx)
    (sSeq (sIf (tV (m1 (pIsT "int") (mV 0)))
    (sRet (mIf (tV (m2 pGe (mV 0) (mC (.int 0)))) (mG (m2 pAdd (mLst (aCons (mC (.int 3)) aNil)) (mA KR.m_whole (aCons (mV 0) aNil)))) (mG (m2 pAdd (mLst (aCons (mC (.int 4)) aNil)) (mA KR.m_whole (aCons (m2 pSub (m1 pNeg (mC (.int 1))) (mV 0)) aNil))))))
    sNx)
    (sSeq (sIf (tV (m1 (pIsT "str") (mV 0)))
    (sRet (mG (m2 pAdd (m2 pAdd (mLst (aCons (mC (.int 5)) aNil)) (mA KR.m_whole (aCons (mB fLen (aCons (mV 0) aNil)) aNil))) (mLc (iV (mV 0)) [3] (gN 3) tYes (mB fOrd (aCons (mV 3) aNil))))))
    sNx)
    (sSeq (sAsg (mG (m2 pAdd (mLst (aCons (mC (.int 6)) aNil)) (mA KR.m_whole (aCons (mB fLen (aCons (mV 0) aNil)) aNil)))) (gN 1))
    (sSeq (Mp.sFor (iV (mV 0)) (gN 2)
    (sG (sK [2] (sExpr (mBM "list" fExtend (mV 1) (aCons (mA (m_bytes_of n) (aCons (mV 2) aNil)) aNil))))))
    (sRet (mV 1))))))))) := rfl
noncomputable def m_row_of : Fn := fG (fDef 1 1
    (sSeq (sIf (Mp.tNot (tV (mA KR.m_is_parcel (aCons (mV 0) aNil))))
    (sRaise "NoParcel" [] aNil)
    sNx)
    (sRet (mB fTuple (aCons (mA (KR.m_bytes_of 40) (aCons (mV 0) aNil)) aNil)))))
noncomputable def m_is_row : Fn := fG (fDef 2 1
    (sSeq (sIf (Mp.tNot (tV (m1 (pIsT "tuple") (mV 0))))
    (sRet (mC (.bl false)))
    sNx)
    (sRet (mG (mB fAll (aCons (mLc (iV (mV 0)) [1] (gN 1) tYes (mAnd (m1 (pIsT "int") (mV 1)) (mAnd (mNot (m1 (pIsT "bool") (mV 1))) (mChain pLe pLt (mC (.int 0)) (mV 1) (mC (.int 256)))))) aNil))))))
noncomputable def m_check_row : Fn := fG (fDef 1 1
    (sIf (Mp.tNot (tV (mA KR.m_is_row (aCons (mV 0) aNil))))
    (sRaise "NoRow" [] aNil)
    sNx))
noncomputable def m_RowReader___init__ : Fn := (fDef 2 2
    (sSeq (Mp.sFld "RowReader" "row" (mV 0) (mV 1))
    (Mp.sFld "RowReader" "at" (mV 0) (mC (.int 0)))))
noncomputable def m_RowReader_next_byte : Fn := fG (fDef 1 1
    (sSeq (sIf (tV (m2 pEq (m1 (getF "RowReader" "at") (mV 0)) (mB fLen (aCons (m1 (getF "RowReader" "row") (mV 0)) aNil))))
    (sRaise "BadRow" ["place"] (aCons (m1 (getF "RowReader" "at") (mV 0)) aNil))
    sNx)
    (sSeq (Mp.sFldAug "RowReader" "at" (mV 0) (mC (.int 1)) pAddI)
    (sRet (m2 pIx (m1 (getF "RowReader" "row") (mV 0)) (m2 pSub (m1 (getF "RowReader" "at") (mV 0)) (mC (.int 1))))))))
noncomputable def m_RowReader_read_whole_b1 : MS := (sK [4] (sSeq (sAsg (m2 pIx (m1 (getF "RowReader" "row") (mV 0)) (m1 (getF "RowReader" "at") (mV 0))) (gN 4))
    (sSeq (Mp.sFldAug "RowReader" "at" (mV 0) (mC (.int 1)) pAddI)
    (sSeq (sAug 2 (m2 pMulI (m2 pMod (mV 4) (mC (.int 128))) (mV 3)) pAddI)
    (sSeq (sAug 3 (mC (.int 128)) pMulI)
    (sIf (tV (m2 pLt (mV 4) (mC (.int 128))))
    (sSeq (sIf (Mp.tAnd (tV (m2 pEq (mV 4) (mC (.int 0)))) (tV (m2 pGt (m2 pSub (m1 (getF "RowReader" "at") (mV 0)) (mV 1)) (mC (.int 1)))))
    (sRaise "BadRow" ["place"] (aCons (mV 1) aNil))
    sNx)
    (sRet (mV 2)))
    sNx))))))
noncomputable def m_RowReader_read_whole : Fn := fG (fDef 5 1
    (sSeq (sAsg (m1 (getF "RowReader" "at") (mV 0)) (gN 1))
    (sSeq (sAsg (mTup (aCons (mC (.int 0)) (aCons (mC (.int 1)) aNil))) (gTup (gsCons (gN 2) (gsCons (gN 3) gsNil))))
    (sSeq (Mp.sWhile (tV (m2 pLt (m1 (getF "RowReader" "at") (mV 0)) (mB fLen (aCons (m1 (getF "RowReader" "row") (mV 0)) aNil))))
    KR.m_RowReader_read_whole_b1)
    (sRaise "BadRow" ["place"] (aCons (mV 1) aNil))))))
noncomputable def m_RowReader_read_string_b1 : MS := (sK [4, 5] (sSeq (sAsg (mMeth "RowReader" "next_byte" KR.m_RowReader_next_byte (mV 0) aNil) (gN 5))
    (sSeq (sIf (Mp.tNot (tV (mA KR.m_is_sign (aCons (mV 5) aNil))))
    (sRaise "BadRow" ["place"] (aCons (m2 pSub (m1 (getF "RowReader" "at") (mV 0)) (mC (.int 1))) aNil))
    sNx)
    (sAug 3 (m2 pIx (mC (.str " !\"#$ &'()*+,-./0123456789:;<=>?@ABCDEFGHIJKLMNOPQRSTUVWXYZ[\\]^_`abcdefghijklmnopqrstuvwxyz{|}~")) (m2 pSub (mV 5) (mC (.int 32)))) pAddS))))
noncomputable def m_RowReader_read_string : Fn := fG (fDef 6 1
    (sSeq (sAsg (m1 (getF "RowReader" "at") (mV 0)) (gN 1))
    (sSeq (sAsg (mMeth "RowReader" "read_whole" KR.m_RowReader_read_whole (mV 0) aNil) (gN 2))
    (sSeq (sIf (Mp.tNot (tV (mChain pLe pLe (mC (.int 1)) (mV 2) (mC (.int 20)))))
    (sRaise "BadRow" ["place"] (aCons (mV 1) aNil))
    sNx)
    (sSeq (sAsg (mC (.str "")) (gN 3))
    (sSeq (Mp.sFor (iRng1 (aCons (mV 2) aNil)) (gN 4)
    KR.m_RowReader_read_string_b1)
    (sRet (mV 3))))))))
noncomputable def m_RowReader_read_several (mf : Fn) : Fn := fG (fDef 4 2
    (sSeq (sAsg (mMeth "RowReader" "read_whole" KR.m_RowReader_read_whole (mV 0) aNil) (gN 2))
    (sSeq (sAsg (mLst aNil) (gN 3))
    (sSeq (Mp.sWhile (tV (m2 pLt (mB fLen (aCons (mV 3) aNil)) (mV 2)))
    (sExpr (mBM "list" fAppend (mV 3) (aCons (mMeth "RowReader" "read_parcel" mf (mV 0) (aCons (mV 1) aNil)) aNil))))
    (sRet (mB fTuple (aCons (mV 3) aNil)))))))
noncomputable def m_RowReader_read_parcel : Nat → Fn
  | 0 => fun _ _ => .bad
  | fu + 1 => fG (fDef 4 2
    (sSeq (sAsg (m1 (getF "RowReader" "at") (mV 0)) (gN 2))
    (sSeq (sAsg (mMeth "RowReader" "next_byte" KR.m_RowReader_next_byte (mV 0) aNil) (gN 3))
    (sSeq (sIf (Mp.tOr (tV (m2 pGt (mV 3) (mC (.int 6)))) (Mp.tAnd (tV (m2 pEq (mV 3) (mC (.int 6)))) (tV (m2 pEq (mV 1) (mC (.int 0))))))
    (sRaise "BadRow" ["place"] (aCons (mV 2) aNil))
    sNx)
    (sSeq (sIf (tV (m2 pEq (mV 3) (mC (.int 0))))
    (sRet (mC .non))
    sNx)
    (sSeq (sIf (tV (m2 pIn (mV 3) (mTup (aCons (mC (.int 1)) (aCons (mC (.int 2)) aNil)))))
    (sRet (m2 pEq (mV 3) (mC (.int 2))))
    sNx)
    (sSeq (sIf (tV (m2 pEq (mV 3) (mC (.int 5))))
    (sRet (mMeth "RowReader" "read_string" KR.m_RowReader_read_string (mV 0) aNil))
    sNx)
    (sSeq (sIf (tV (m2 pEq (mV 3) (mC (.int 6))))
    (sRet (mMeth "RowReader" "read_several" (KR.m_RowReader_read_several (m_RowReader_read_parcel fu)) (mV 0) (aCons (m2 pSub (mV 1) (mC (.int 1))) aNil)))
    sNx)
    (sRet (mIf (tV (m2 pEq (mV 3) (mC (.int 3)))) (mMeth "RowReader" "read_whole" KR.m_RowReader_read_whole (mV 0) aNil) (m2 pSub (m1 pNeg (mC (.int 1))) (mMeth "RowReader" "read_whole" KR.m_RowReader_read_whole (mV 0) aNil))))))))))))
theorem m_RowReader_read_parcel_len : ∀ (n : Nat) (vs : List Val) (S : Store), vs.length ≠ 2 → m_RowReader_read_parcel n vs S = .bad
  | 0, _, _, _ => rfl
  | n + 1, vs, S, h => by unfold m_RowReader_read_parcel; exact fG_len fDef_len vs S h
theorem m_RowReader_read_parcel_succ (n : Nat) : m_RowReader_read_parcel (n + 1) = fG (fDef 4 2
    (sSeq (sAsg (m1 (getF "RowReader" "at") (mV 0)) (gN 2))
    (sSeq (sAsg (mMeth "RowReader" "next_byte" KR.m_RowReader_next_byte (mV 0) aNil) (gN 3))
    (sSeq (sIf (Mp.tOr (tV (m2 pGt (mV 3) (mC (.int 6)))) (Mp.tAnd (tV (m2 pEq (mV 3) (mC (.int 6)))) (tV (m2 pEq (mV 1) (mC (.int 0))))))
    (sRaise "BadRow" ["place"] (aCons (mV 2) aNil))
    sNx)
    (sSeq (sIf (tV (m2 pEq (mV 3) (mC (.int 0))))
    (sRet (mC .non))
    sNx)
    (sSeq (sIf (tV (m2 pIn (mV 3) (mTup (aCons (mC (.int 1)) (aCons (mC (.int 2)) aNil)))))
    (sRet (m2 pEq (mV 3) (mC (.int 2))))
    sNx)
    (sSeq (sIf (tV (m2 pEq (mV 3) (mC (.int 5))))
    (sRet (mMeth "RowReader" "read_string" KR.m_RowReader_read_string (mV 0) aNil))
    sNx)
    (sSeq (sIf (tV (m2 pEq (mV 3) (mC (.int 6))))
    (sRet (mMeth "RowReader" "read_several" (KR.m_RowReader_read_several (m_RowReader_read_parcel n)) (mV 0) (aCons (m2 pSub (mV 1) (mC (.int 1))) aNil)))
    sNx)
    (sRet (mIf (tV (m2 pEq (mV 3) (mC (.int 3)))) (mMeth "RowReader" "read_whole" KR.m_RowReader_read_whole (mV 0) aNil) (m2 pSub (m1 pNeg (mC (.int 1))) (mMeth "RowReader" "read_whole" KR.m_RowReader_read_whole (mV 0) aNil)))))))))))) := rfl
noncomputable def m_parcel_of : Fn := fG (fDef 3 1
    (sSeq (sExpr (mA KR.m_check_row (aCons (mV 0) aNil)))
    (sSeq (sAsg (mA (fMake "RowReader" KR.m_RowReader___init__) (aCons (mV 0) aNil)) (gN 1))
    (sSeq (sAsg (mMeth "RowReader" "read_parcel" (KR.m_RowReader_read_parcel 40) (mV 1) (aCons (mC (.int 20)) aNil)) (gN 2))
    (sSeq (sIf (tV (m2 pLt (m1 (getF "RowReader" "at") (mV 1)) (mB fLen (aCons (mV 0) aNil))))
    (sRaise "BadRow" ["place"] (aCons (m1 (getF "RowReader" "at") (mV 1)) aNil))
    sNx)
    (sRet (mV 2)))))))
noncomputable def m_raw_mark_b1 : MS := (sK [2] (sAsg (m2 pMod (m2 pAdd (m2 pAdd (m2 pMulI (mV 1) (mC (.int 1000003))) (mV 2)) (mC (.int 1))) (mC (.int 2305843009213693951))) (gN 1)))
noncomputable def m_raw_mark : Fn := fG (fDef 3 1
    (sSeq (sAsg (mC (.int 1)) (gN 1))
    (sSeq (Mp.sFor (iV (mV 0)) (gN 2)
    KR.m_raw_mark_b1)
    (sRet (mV 1)))))
noncomputable def m_seal_of_b1 : MS := (sK [3] (sSeq (sExpr (mBM "list" fAppend (mV 2) (aCons (m2 pMod (mV 1) (mC (.int 256))) aNil)))
    (sAsg (m2 pDiv (mV 1) (mC (.int 256))) (gN 1))))
noncomputable def m_seal_of : Fn := fG (fDef 4 1
    (sSeq (sAsg (mA KR.m_raw_mark (aCons (mV 0) aNil)) (gN 1))
    (sSeq (sAsg (mLst aNil) (gN 2))
    (sSeq (Mp.sFor (iRng1 (aCons (mC (.int 4)) aNil)) (gN 3)
    KR.m_seal_of_b1)
    (sRet (mB fTuple (aCons (mV 2) aNil)))))))
noncomputable def m_sealed : Fn := fG (fDef 2 1
    (sSeq (sAsg (mA KR.m_row_of (aCons (mV 0) aNil)) (gN 1))
    (sRet (m2 pAdd (mV 1) (mA KR.m_seal_of (aCons (mV 1) aNil))))))
noncomputable def m_mark : Fn := fG (fDef 1 1
    (sSeq (sExpr (mA KR.m_check_row (aCons (mV 0) aNil)))
    (sRet (mA KR.m_raw_mark (aCons (mV 0) aNil)))))
noncomputable def m_unsealed : Fn := fG (fDef 2 1
    (sSeq (sIf (Mp.tOr (Mp.tNot (tV (mA KR.m_is_row (aCons (mV 0) aNil)))) (Mp.tOr (tV (m2 pLt (mB fLen (aCons (mV 0) aNil)) (mC (.int 4)))) (tV (m2 pNe (mA KR.m_seal_of (aCons (mSl (mV 0) oNo (oSome (m1 pNeg (mC (.int 4))))) aNil)) (mSl (mV 0) (oSome (m1 pNeg (mC (.int 4)))) oNo)))))
    (sRet (mTup aNil))
    sNx)
    (sSeq (sTry (sAsg (mTup (aCons (mA KR.m_parcel_of (aCons (mSl (mV 0) oNo (oSome (m1 pNeg (mC (.int 4))))) aNil)) aNil)) (gN 1))
    (⟨[("BadRow", true)], fun _ => (sAsg (mTup aNil) (gN 1))⟩ :: []))
    (sRet (mV 1)))))
end KR

/-! KRc: parcels judged; bytes written. -/
namespace KR
open Mp
open PySem (Str)
theorem is_sign_eq (b : Int) (S : Store) : m_is_sign [.int b] S = .ok (.bl (sgn b)) S := by
  unfold m_is_sign sgn
  by_cases h1 : 32 ≤ b
  · by_cases h2 : b ≤ 126
    · by_cases h3 : b = 37 <;> simp [startL, h1, h2, h3]
    · simp [startL, h1, h2]
  · simp [startL, h1]
theorem str_items (s : Str) (S : Store) : itOf (.str s) S = .ok ⟨s.cps.toList.map fun c => .str ⟨#[c]⟩, fun _ => True⟩ S := rfl
theorem fLen_s {s : Str} {S : Store} (h : s.length ≤ LIM) : fLen [.str s] S = .ok (.int s.length) S := by
  unfold fLen one lenO
  dsimp only
  rw [if_pos h]
theorem short_eq {s : Str} {S : Store} (h : s.length ≤ LIM) : m_is_short_string [.str s] S = .ok (.bl (shortS s)) S := by
  have e := fLen_s (S := S) h
  unfold m_is_short_string shortS
  by_cases h1 : 1 ≤ s.length
  · have h1' : (1 : Int) ≤ s.length := by omega
    by_cases h2 : s.length ≤ 20
    · have h2' : (s.length : Int) ≤ 20 := by omega
      have el : lcLoop (fun _ => True) [some (.str s), none] (gN 1) tYes (mA m_is_sign (aCons (mB fOrd (aCons (mV 1) aNil)) aNil)) (s.cps.toList.map fun c => .str ⟨#[c]⟩) [] S = .ok (s.cps.toList.map fun (c : Nat) => .bl (sgn (c : Int))) S := by
        refine lc_map' (fun c => .str ⟨#[c]⟩) (fun (c : Nat) => .bl (sgn (c : Int))) s.cps.toList rfl trivial ?_ fun c hc => ?_
        · have : s.cps.toList.length = s.length := Array.length_toList
          unfold LIM
          omega
        · simp [is_sign_eq]
      simp (maxDischargeDepth := 12) [startL, e, h1, h2, h1', h2', str_items, el, subTy]
    · have h2' : ¬ (s.length : Int) ≤ 20 := by omega
      simp [startL, e, h1, h2, h1', h2', subTy]
  · have h1' : ¬ (1 : Int) ≤ s.length := by omega
    simp [startL, e, h1, h1', subTy]
theorem short_not {v : Val} {S : Store} {t : String} (h : tyName v S = some t) (ht : t ≠ "str") : m_is_short_string [v] S = .ok (.bl false) S := by
  have e := pIsT_of (T := "str") h
  have : subTy t "str" = false := by unfold subTy; simp [ht]
  rw [this] at e
  unfold m_is_short_string
  simp [startL, e]
/-- a thing that can be looked at so deep -/
def tyOk (S : Store) (i : Nat) : Bool := match sg S i with
  | some (.lst _) => true
  | some (.dK _) => true
  | _ => false
def th (S : Store) : Nat → Val → Bool
  | _, .non => true
  | _, .bl _ => true
  | _, .int _ => true
  | _, .str s => decide (s.length ≤ LIM)
  | n + 1, .tup vs => decide (vs.length < LIM) && vs.all (th S n)
  | 0, .tup _ => true
  | _, .ref i => tyOk S i
  | _, .fl _ => true
section
variable {S : Store} {n : Nat}
@[simp] theorem th_non : th S n .non = true := by cases n <;> (unfold th; rfl)
@[simp] theorem th_bl (b : Bool) : th S n (.bl b) = true := by cases n <;> (unfold th; rfl)
@[simp] theorem th_int (b : Int) : th S n (.int b) = true := by cases n <;> (unfold th; rfl)
@[simp] theorem th_str (s : Str) : th S n (.str s) = decide (s.length ≤ LIM) := by cases n <;> (conv => lhs; unfold th)
@[simp] theorem th_tup (vs : List Val) : th S (n + 1) (.tup vs) = (decide (vs.length < LIM) && vs.all (th S n)) := by conv => lhs; unfold th
@[simp] theorem th_tup0 (vs : List Val) : th S 0 (.tup vs) = true := by unfold th; rfl
@[simp] theorem th_ref (i : Nat) : th S n (.ref i) = tyOk S i := by cases n <;> (conv => lhs; unfold th)
@[simp] theorem th_fl (i : List Int) : th S n (.fl i) = true := by cases n <;> (unfold th; rfl)
theorem ref_ty {i : Nat} (h : tyOk S i = true) : ∃ t, tyName (.ref i) S = some t ∧ (t = "list" ∨ t = "dict") := by
  unfold tyOk at h
  rw [tyName_ref]
  cases e : sg S i with
  | none => rw [e] at h; cases h
  | some o =>
    rw [e] at h
    cases o with
    | lst xs => exact ⟨_, rfl, .inl rfl⟩
    | dK kvs => exact ⟨_, rfl, .inr rfl⟩
    | dT kvs => cases h
    | fK kvs => cases h
    | fT kvs => cases h
    | ins c fs => cases h
theorem is_parcel_deep_eq : ∀ (n fu : Nat) (v : Val) (S : Store), n < fu → th S n v = true → m_is_parcel_deep fu [v, .int n] S = .ok (.bl (isP n v)) S
  | n, 0, v, S, h, _ => by omega
  | 0, fu + 1, v, S, h, hv => by
    rw [m_is_parcel_deep_succ]
    cases v with
    | non => simp [startL, subTy]
    | bl b => simp [startL, subTy]
    | int i => simp [startL, subTy]
    | str s =>
      have e := short_eq (s := s) (S := S) (by rw [th_str] at hv; exact of_decide_eq_true hv)
      simp [startL, subTy, e]
    | tup vs => simp [startL, subTy]
    | ref i =>
      obtain ⟨t, e1, ht⟩ := ref_ty (S := S) (i := i) (by simpa using hv)
      have e2 := pIsT_of (T := "tuple") e1
      have e3 := pIsT_of (T := "int") e1
      have e4 := short_not e1 (by rcases ht with rfl | rfl <;> decide)
      rcases ht with rfl | rfl <;> simp [startL, e2, e3, e4, subTy, -tyName_ref]
    | fl ns =>
      have e1 : tyName (.fl ns) S = some "list" := rfl
      have e2 := pIsT_of (T := "tuple") e1
      have e3 := pIsT_of (T := "int") e1
      have e4 := short_not e1 (by decide)
      simp [startL, e2, e3, e4, subTy]
  | n + 1, fu + 1, v, S, h, hv => by
    rw [m_is_parcel_deep_succ]
    cases v with
    | non => simp [startL, subTy]
    | bl b => simp [startL, subTy]
    | int i => simp [startL, subTy]
    | str s =>
      have e := short_eq (s := s) (S := S) (by rw [th_str] at hv; exact of_decide_eq_true hv)
      simp [startL, subTy, e]
    | tup vs =>
      rw [th_tup, Bool.and_eq_true, decide_eq_true_eq, List.all_eq_true] at hv
      have el : lcLoop (fun _ => True) [some (.tup vs), some (.int ((n + 1 : Nat) : Int)), none] (gN 2) tYes (mA (m_is_parcel_deep fu) (aCons (mV 2) (aCons (m2 pSub (mV 1) (mC (.int 1))) aNil))) vs [] S = .ok (vs.map fun v => .bl (isP n v)) S := by
        refine lc_vals (fun v => .bl (isP n v)) trivial hv.1 fun v hm => ?_
        have e := is_parcel_deep_eq n fu v S (by omega) (hv.2 v hm)
        have en : ((n + 1 : Nat) : Int) - 1 = (n : Int) := by omega
        rw [← en] at e
        simp at e ⊢
        simp [e]
      have hp : (0 : Int) < (n : Int) + 1 := by omega
      simp at el
      simp (maxDischargeDepth := 12) [startL, subTy, el, hp]
    | ref i =>
      obtain ⟨t, e1, ht⟩ := ref_ty (S := S) (i := i) (by simpa using hv)
      have e2 := pIsT_of (T := "tuple") e1
      have e3 := pIsT_of (T := "int") e1
      have e4 := short_not e1 (by rcases ht with rfl | rfl <;> decide)
      rcases ht with rfl | rfl <;> simp [startL, e2, e3, e4, subTy, -tyName_ref]
    | fl ns =>
      have e1 : tyName (.fl ns) S = some "list" := rfl
      have e2 := pIsT_of (T := "tuple") e1
      have e3 := pIsT_of (T := "int") e1
      have e4 := short_not e1 (by decide)
      simp [startL, e2, e3, e4, subTy]
theorem is_parcel_eq {v : Val} (hv : th S 20 v = true) : m_is_parcel [v] S = .ok (.bl (isP 20 v)) S := by
  have e := is_parcel_deep_eq 20 40 v S (by omega) hv
  unfold m_is_parcel
  have e' : m_is_parcel_deep 40 [v, .int 20] S = .ok (.bl (isP 20 v)) S := e
  simp [startL, e']
end
/-! ### bytes -/
theorem whole_eq {n : Nat} {S : Store} (hz : (wholeL n).length < 100000) : m_whole [.int n] S = .ok (.ref (sl S)) (sp S (.lst ((wholeL n).map Val.int))) := by
  obtain ⟨⟨acc, k⟩, e, hp, hc⟩ := while_run (c := tV (m2 pGe (mV 0) (mC (.int 128)))) (b := m_whole_b1) (fun p : List Int × Nat => [some (.int (p.2 : Int)), some (.ref (sl S))]) (fun p => sp S (.lst (p.1.map Val.int)))
    (fun p => p.1 ++ wholeL p.2 = wholeL n) (fun p => decide (128 ≤ p.2)) (fun p => (p.1 ++ [((128 + p.2 % 128 : Nat) : Int)], p.2 / 128)) (fun p => (wholeL p.2).length) MANY ([], n) rfl (by unfold MANY; show (wholeL n).length < _; omega)
    (fun p hp => by
      by_cases h : 128 ≤ p.2
      · have : (128 : Int) ≤ p.2 := by omega
        simp [h, this]
      · have : ¬ (128 : Int) ≤ p.2 := by omega
        simp [h, this])
    (fun p hp hc => by
      have h : ¬ p.2 < 128 := by simpa using hc
      have e := wholeL_high h
      have l : p.1.length < LIM := by
        have := congrArg List.length hp
        simp at this
        unfold LIM
        omega
      refine ⟨.inl ?_, ?_, ?_⟩
      · unfold m_whole_b1
        simp (maxDischargeDepth := 12) [l]
      · show (p.1 ++ [_]) ++ wholeL (p.2 / 128) = _
        rw [← hp, e]
        simp
      · show (wholeL (p.2 / 128)).length < (wholeL p.2).length
        rw [e]
        simp)
  have hk : k < 128 := by simpa using hc
  have hp' : acc ++ [(k : Int)] = wholeL n := by rw [← hp]; show _ = acc ++ wholeL k; rw [wholeL_low hk]
  have l := congrArg List.length hp'
  simp at l
  have el : (acc.map Val.int) ++ [Val.int k] = (wholeL n).map Val.int := by rw [← hp']; simp
  unfold m_whole
  have hl : acc.length + 1 ≤ LIM := by unfold LIM; omega
  simp (maxDischargeDepth := 12) at e
  simp (maxDischargeDepth := 12) [startL, e, hl, el]
end KR

/-! KRd: bytes written, by the program and by the law. -/
namespace KR
open Mp
open PySem (Str)
theorem law_whole_eq {n : Nat} {S : Store} (hz : (wholeL n).length < 100000) : m_law_whole [.int n] S = .ok (.ref (sl S)) (sp S (.lst ((wholeL n).map Val.int))) := by
  obtain ⟨⟨acc, k⟩, e, hp, hc⟩ := while_run (c := tV (m2 pGt (mV 0) (mC (.int 127)))) (b := m_law_whole_b1) (fun p : List Int × Nat => [some (.int (p.2 : Int)), some (.ref (sl S))]) (fun p => sp S (.lst (p.1.map Val.int)))
    (fun p => p.1 ++ wholeL p.2 = wholeL n) (fun p => decide (128 ≤ p.2)) (fun p => (p.1 ++ [((128 + p.2 % 128 : Nat) : Int)], p.2 / 128)) (fun p => (wholeL p.2).length) MANY ([], n) rfl (by unfold MANY; show (wholeL n).length < _; omega)
    (fun p hp => by
      by_cases h : 128 ≤ p.2
      · have : (127 : Int) < p.2 := by omega
        simp [h, this]
      · have : ¬ (127 : Int) < p.2 := by omega
        simp [h, this])
    (fun p hp hc => by
      have h : ¬ p.2 < 128 := by simpa using hc
      have e := wholeL_high h
      have l : p.1.length < LIM := by
        have := congrArg List.length hp
        simp at this
        unfold LIM
        omega
      refine ⟨.inl ?_, ?_, ?_⟩
      · unfold m_law_whole_b1
        simp (maxDischargeDepth := 12) [l, Int.add_comm]
      · show (p.1 ++ [_]) ++ wholeL (p.2 / 128) = _
        rw [← hp, e]
        simp
      · show (wholeL (p.2 / 128)).length < (wholeL p.2).length
        rw [e]
        simp)
  have hk : k < 128 := by simpa using hc
  have hp' : acc ++ [(k : Int)] = wholeL n := by rw [← hp]; show _ = acc ++ wholeL k; rw [wholeL_low hk]
  have l := congrArg List.length hp'
  simp at l
  have el : (acc.map Val.int) ++ [Val.int k] = (wholeL n).map Val.int := by rw [← hp']; simp
  unfold m_law_whole
  have hl : acc.length + 1 ≤ LIM := by unfold LIM; omega
  simp (maxDischargeDepth := 12) at e
  simp (maxDischargeDepth := 12) [startL, e, hl, el]
theorem extE {S : Store} {a b : Nat} {xs ys : List Val} (ha : sg S a = some (.lst xs)) (hb : sg S b = some (.lst ys)) (hz : xs.length + ys.length ≤ LIM) : fExtend (.ref a) [.ref b] S = .ok .non (ss S a (.lst (xs ++ ys))) := by
  have ha' : S[a]? = some (.lst xs) := ha
  have hb' : S[b]? = some (.lst ys) := hb
  unfold fExtend
  simp only [ha', hb']
  rw [bite_pos (decide_eq_true hz)]
  rfl
theorem codes_eq (s : Str) (L : Loc) (k : Nat) (hk : k < L.length) (S : Store) (hz : s.length ≤ 20) : lcLoop (fun _ => True) L (gN k) tYes (mB fOrd (aCons (mV k) aNil)) (s.cps.toList.map fun c => .str ⟨#[c]⟩) [] S = .ok ((codes s).map Val.int) S := by
  have e : (codes s).map Val.int = s.cps.toList.map fun (c : Nat) => .int (c : Int) := by unfold codes; rw [List.map_map]; rfl
  rw [e]
  refine lc_map' (fun c => .str ⟨#[c]⟩) (fun (c : Nat) => .int (c : Int)) s.cps.toList rfl trivial ?_ fun c hc => ?_
  · have : s.cps.toList.length = s.length := Array.length_toList
    unfold LIM
    omega
  · have : getL (L.set k (some (.str ⟨#[c]⟩))) k S = .ok (.str ⟨#[c]⟩) S := by
      rw [getL_some (v := .str ⟨#[c]⟩)]
      rw [List.getElem?_set_self hk]
    simp [this]
theorem bytes_len_tup {n : Nat} {v : Val} {vs : List Val} (h : v ∈ vs) : (bytV n v).length ≤ ((vs.map (bytV n)).flatten).length := by
  induction vs with
  | nil => cases h
  | cons w r ih =>
    rw [List.map_cons, List.flatten_cons, List.length_append]
    rcases List.mem_cons.mp h with rfl | h
    · omega
    · have := ih h
      omega
theorem isP_len {s : Str} (h : shortS s = true) : s.length ≤ 20 := by
  unfold shortS at h
  simp only [Bool.and_eq_true, decide_eq_true_eq] at h
  exact h.1.2
theorem bytes_of_leaf {n fu : Nat} {v : Val} {S : Store} (hv : isP n v = true) (hz : (bytV n v).length < 100000) (ht : ∀ vs, v ≠ .tup vs) : m_bytes_of (fu + 1) [v] S = .ok (.ref (sl S)) (sp S (.lst ((bytV n v).map Val.int))) := by
  rw [m_bytes_of_succ]
  cases v with
  | non => simp [startL]
  | bl b => cases b <;> simp [startL, subTy]
  | int i =>
    rw [bytV_int] at hz ⊢
    unfold bytI at hz ⊢
    by_cases z : 0 ≤ i
    · rw [if_pos z] at hz ⊢
      obtain ⟨k, rfl⟩ : ∃ k : Nat, i = k := ⟨i.toNat, by omega⟩
      rw [Int.toNat_natCast] at hz ⊢
      rw [List.length_cons] at hz
      have e := whole_eq (n := k) (S := sp S (.lst [.int 3])) (by omega)
      have hl : 1 + (wholeL k).length ≤ 16777216 := by omega
      simp (maxDischargeDepth := 12) [startL, subTy, e, hl]
    · rw [if_neg z] at hz ⊢
      obtain ⟨k, hk⟩ : ∃ k : Nat, -1 - i = k := ⟨(-1 - i).toNat, by omega⟩
      rw [hk, Int.toNat_natCast] at hz ⊢
      rw [List.length_cons] at hz
      have e := whole_eq (n := k) (S := sp S (.lst [.int 4])) (by omega)
      have hl : 1 + (wholeL k).length ≤ 16777216 := by omega
      simp (maxDischargeDepth := 12) [startL, subTy, z, hk, e, hl]
  | str s =>
    rw [bytV_str] at hz ⊢
    rw [isP_str] at hv
    have hs := isP_len hv
    have hc := codes_len s
    simp only [List.length_cons, List.length_append] at hz
    have e := whole_eq (n := s.length) (S := sp S (.lst [.int 5])) (by omega)
    have e2 := fLen_s (s := s) (S := sp S (.lst [.int 5])) (by unfold LIM; omega)
    have hl : 1 + (wholeL s.length).length ≤ 16777216 := by omega
    have hl2 : (wholeL s.length).length + 1 + (codes s).length ≤ 16777216 := by omega
    have e3 := codes_eq s [some (.str s), none, none, none] 3 (by simp)
    simp (maxDischargeDepth := 12) [startL, subTy, e, e2, e3, hs, hl, hl2, str_items]
  | tup vs => exact absurd rfl (ht vs)
  | ref i => rw [isP_ref] at hv; cases hv
  | fl i => rw [isP_fl] at hv; cases hv
end KR

/-! KRe: the bytes of any parcel. -/
namespace KR
open Mp
open PySem (Str)
theorem isP_below {k : Nat} : ∀ {n : Nat} {v : Val}, isP n v = true → below k v = true
  | n, .non, _ => by simp
  | n, .bl b, _ => by simp
  | n, .int b, _ => by simp
  | n, .str b, _ => by simp
  | n, .ref b, h => by rw [isP_ref] at h; cases h
  | n, .fl b, h => by rw [isP_fl] at h; cases h
  | 0, .tup vs, h => by rw [isP_tup0] at h; cases h
  | n + 1, .tup vs, h => by
    rw [isP_tup, List.all_eq_true] at h
    rw [below_tup, belows_all, List.all_eq_true]
    exact fun v hv => isP_below (h v hv)
theorem law_bytes_leaf {n fu : Nat} {v : Val} {S : Store} (hv : isP n v = true) (hz : (bytV n v).length < 100000) (ht : ∀ vs, v ≠ .tup vs) : m_law_bytes (fu + 1) [v] S = .ok (.ref (sl S)) (sp S (.lst ((bytV n v).map Val.int))) := by
  rw [m_law_bytes_succ]
  cases v with
  | non => simp [startL]
  | bl b => cases b <;> simp [startL, subTy]
  | int i =>
    rw [bytV_int] at hz ⊢
    unfold bytI at hz ⊢
    by_cases z : 0 ≤ i
    · rw [if_pos z] at hz ⊢
      obtain ⟨k, rfl⟩ : ∃ k : Nat, i = k := ⟨i.toNat, by omega⟩
      rw [Int.toNat_natCast] at hz ⊢
      rw [List.length_cons] at hz
      have e := law_whole_eq (n := k) (S := sp S (.lst [.int 3])) (by omega)
      have hl : 1 + (wholeL k).length ≤ 16777216 := by omega
      simp (maxDischargeDepth := 12) [startL, subTy, e, hl]
    · rw [if_neg z] at hz ⊢
      obtain ⟨k, hk⟩ : ∃ k : Nat, -1 - i = k := ⟨(-1 - i).toNat, by omega⟩
      rw [hk, Int.toNat_natCast] at hz ⊢
      rw [List.length_cons] at hz
      have e := law_whole_eq (n := k) (S := sp S (.lst [.int 4])) (by omega)
      have hl : 1 + (wholeL k).length ≤ 16777216 := by omega
      simp (maxDischargeDepth := 12) [startL, subTy, z, hk, e, hl]
  | str s =>
    rw [bytV_str] at hz ⊢
    rw [isP_str] at hv
    have hs := isP_len hv
    have hc := codes_len s
    simp only [List.length_cons, List.length_append] at hz
    have e := law_whole_eq (n := s.length) (S := sp S (.lst [.int 5])) (by omega)
    have e2 := fLen_s (s := s) (S := sp S (.lst [.int 5])) (by unfold LIM; omega)
    have hl : 1 + (wholeL s.length).length ≤ 16777216 := by omega
    have hl2 : (wholeL s.length).length + 1 + (codes s).length ≤ 16777216 := by omega
    have e3 := codes_eq s [some (.str s), none, none, none] 3 (by simp)
    simp (maxDischargeDepth := 12) [startL, subTy, e, e2, e3, hs, hl, hl2, str_items]
  | tup vs => exact absurd rfl (ht vs)
  | ref i => rw [isP_ref] at hv; cases hv
  | fl i => rw [isP_fl] at hv; cases hv
theorem bytes_of_eq : ∀ (n fu : Nat) (v : Val) (S : Store), n < fu → isP n v = true → (bytV n v).length < 100000 → m_bytes_of fu [v] S = .ok (.ref (sl S)) (sp S (.lst ((bytV n v).map Val.int)))
  | n, 0, v, S, h, _, _ => by omega
  | 0, fu + 1, v, S, h, hv, hz => bytes_of_leaf hv hz (fun vs e => by subst e; rw [isP_tup0] at hv; cases hv)
  | n + 1, fu + 1, v, S, h, hv, hz => by
    by_cases ht : ∃ vs, v = .tup vs
    · obtain ⟨vs, rfl⟩ := ht
      rw [bytV_tup] at hz ⊢
      rw [isP_tup, List.all_eq_true] at hv
      simp only [List.length_cons, List.length_append] at hz
      have e := whole_eq (n := vs.length) (S := sp S (.lst [.int 6])) (by omega)
      have hl : 1 + (wholeL vs.length).length ≤ 16777216 := by omega
      obtain ⟨el, hp⟩ := for_foldI (keep := fun _ => True) (g := gN 2) (b := (sG (sK [2] (sExpr (mBM "list" fExtend (mV 1) (aCons (mA (m_bytes_of fu) (aCons (mV 2) aNil)) aNil)))))) (fun v : Val => v) (fun _ : List Int => [some (.tup vs), some (.ref (sl S)), none, none]) (fun acc => sp S (.lst (acc.map Val.int)))
        (fun i acc => acc = 6 :: wholeL vs.length ++ ((vs.take i).map (bytV n)).flatten) (fun acc v => acc ++ bytV n v) vs (6 :: wholeL vs.length) (xs := vs) (L0 := [some (.tup vs), some (.ref (sl S)), none, none]) (S0 := sp S (.lst ((6 :: wholeL vs.length).map Val.int))) (by simp) rfl rfl (by simp) (fun _ _ _ => trivial) (fun i acc v hi hP => by
          have hm := List.mem_of_getElem? hi
          have hb := bytes_len_tup (n := n) hm
          have e1 := bytes_of_eq n fu v (sp S (.lst (acc.map Val.int))) (by omega) (hv v hm) (by omega)
          have lt : i < vs.length := (List.getElem?_eq_some_iff.mp hi).1
          have et : vs.take (i + 1) = vs.take i ++ [v] := by rw [List.take_succ, hi]; rfl
          have eP : acc ++ bytV n v = 6 :: wholeL vs.length ++ ((vs.take (i + 1)).map (bytV n)).flatten := by rw [hP, et]; simp
          have hlen : (acc ++ bytV n v).length ≤ 1 + (wholeL vs.length).length + ((vs.map (bytV n)).flatten).length := by
            rw [eP]
            have e9 : vs = vs.take (i + 1) ++ vs.drop (i + 1) := (List.take_append_drop _ _).symm
            have : ((vs.map (bytV n)).flatten).length = (((vs.take (i + 1)).map (bytV n)).flatten).length + (((vs.drop (i + 1)).map (bytV n)).flatten).length := by
              conv => lhs; rw [e9, List.map_append, List.flatten_append, List.length_append]
            simp only [List.length_append, List.length_cons]
            omega
          rw [List.length_append] at hlen
          have e2 := extE (S := sp (sp S (.lst (acc.map Val.int))) (.lst ((bytV n v).map Val.int))) (a := sl S) (b := sl S + 1) (xs := acc.map Val.int) (ys := (bytV n v).map Val.int) (by simp) (by rw [show sl S + 1 = sl (sp S (.lst (acc.map Val.int))) from by simp]; exact sg_sp_new) (by simp only [List.length_map]; unfold LIM; omega)
          refine ⟨.inl ?_, eP⟩
          simp (maxDischargeDepth := 12) at e1 e2
          have hbl : ∀ k, belows k vs = true := fun k => by
            rw [belows_all, List.all_eq_true]
            exact fun v hm => isP_below (hv v hm)
          simp (maxDischargeDepth := 12) [e1, e2, hbl])
      have ef : vs.foldl (fun acc v => acc ++ bytV n v) (6 :: wholeL vs.length) = 6 :: wholeL vs.length ++ (vs.map (bytV n)).flatten := by
        rw [hp, List.take_length]
      rw [ef] at el
      rw [m_bytes_of_succ]
      obtain ⟨bs, hbs⟩ : ∃ bs, bs = (vs.map (bytV n)).flatten := ⟨_, rfl⟩
      rw [← hbs] at el ⊢
      simp (maxDischargeDepth := 12) at el
      simp (maxDischargeDepth := 12) [startL, subTy, e, hl, el]
    · exact bytes_of_leaf hv hz (fun vs e => ht ⟨vs, e⟩)
theorem law_bytes_eq : ∀ (n fu : Nat) (v : Val) (S : Store), n < fu → isP n v = true → (bytV n v).length < 100000 → m_law_bytes fu [v] S = .ok (.ref (sl S)) (sp S (.lst ((bytV n v).map Val.int)))
  | n, 0, v, S, h, _, _ => by omega
  | 0, fu + 1, v, S, h, hv, hz => law_bytes_leaf hv hz (fun vs e => by subst e; rw [isP_tup0] at hv; cases hv)
  | n + 1, fu + 1, v, S, h, hv, hz => by
    by_cases ht : ∃ vs, v = .tup vs
    · obtain ⟨vs, rfl⟩ := ht
      rw [bytV_tup] at hz ⊢
      rw [isP_tup, List.all_eq_true] at hv
      simp only [List.length_cons, List.length_append] at hz
      have e := law_whole_eq (n := vs.length) (S := sp S (.lst [.int 6])) (by omega)
      have hl : 1 + (wholeL vs.length).length ≤ 16777216 := by omega
      obtain ⟨el, hp⟩ := for_foldI (keep := fun _ => True) (g := gN 2) (b := (sG (sK [2] (sExpr (mBM "list" fExtend (mV 1) (aCons (mA (m_law_bytes fu) (aCons (mV 2) aNil)) aNil)))))) (fun v : Val => v) (fun _ : List Int => [some (.tup vs), some (.ref (sl S)), none, none]) (fun acc => sp S (.lst (acc.map Val.int)))
        (fun i acc => acc = 6 :: wholeL vs.length ++ ((vs.take i).map (bytV n)).flatten) (fun acc v => acc ++ bytV n v) vs (6 :: wholeL vs.length) (xs := vs) (L0 := [some (.tup vs), some (.ref (sl S)), none, none]) (S0 := sp S (.lst ((6 :: wholeL vs.length).map Val.int))) (by simp) rfl rfl (by simp) (fun _ _ _ => trivial) (fun i acc v hi hP => by
          have hm := List.mem_of_getElem? hi
          have hb := bytes_len_tup (n := n) hm
          have e1 := law_bytes_eq n fu v (sp S (.lst (acc.map Val.int))) (by omega) (hv v hm) (by omega)
          have lt : i < vs.length := (List.getElem?_eq_some_iff.mp hi).1
          have et : vs.take (i + 1) = vs.take i ++ [v] := by rw [List.take_succ, hi]; rfl
          have eP : acc ++ bytV n v = 6 :: wholeL vs.length ++ ((vs.take (i + 1)).map (bytV n)).flatten := by rw [hP, et]; simp
          have hlen : (acc ++ bytV n v).length ≤ 1 + (wholeL vs.length).length + ((vs.map (bytV n)).flatten).length := by
            rw [eP]
            have e9 : vs = vs.take (i + 1) ++ vs.drop (i + 1) := (List.take_append_drop _ _).symm
            have : ((vs.map (bytV n)).flatten).length = (((vs.take (i + 1)).map (bytV n)).flatten).length + (((vs.drop (i + 1)).map (bytV n)).flatten).length := by
              conv => lhs; rw [e9, List.map_append, List.flatten_append, List.length_append]
            simp only [List.length_append, List.length_cons]
            omega
          rw [List.length_append] at hlen
          have e2 := extE (S := sp (sp S (.lst (acc.map Val.int))) (.lst ((bytV n v).map Val.int))) (a := sl S) (b := sl S + 1) (xs := acc.map Val.int) (ys := (bytV n v).map Val.int) (by simp) (by rw [show sl S + 1 = sl (sp S (.lst (acc.map Val.int))) from by simp]; exact sg_sp_new) (by simp only [List.length_map]; unfold LIM; omega)
          refine ⟨.inl ?_, eP⟩
          simp (maxDischargeDepth := 12) at e1 e2
          have hbl : ∀ k, belows k vs = true := fun k => by
            rw [belows_all, List.all_eq_true]
            exact fun v hm => isP_below (hv v hm)
          simp (maxDischargeDepth := 12) [e1, e2, hbl])
      have ef : vs.foldl (fun acc v => acc ++ bytV n v) (6 :: wholeL vs.length) = 6 :: wholeL vs.length ++ (vs.map (bytV n)).flatten := by
        rw [hp, List.take_length]
      rw [ef] at el
      rw [m_law_bytes_succ]
      obtain ⟨bs, hbs⟩ : ∃ bs, bs = (vs.map (bytV n)).flatten := ⟨_, rfl⟩
      rw [← hbs] at el ⊢
      simp (maxDischargeDepth := 12) at el
      simp (maxDischargeDepth := 12) [startL, subTy, e, hl, el]
    · exact law_bytes_leaf hv hz (fun vs e => ht ⟨vs, e⟩)
end KR

/-! KRf: the reader of rows: bytes, numbers. -/
namespace KR
open Mp
open PySem (Str)
def rowV (r : List Int) : Val := .tup (r.map Val.int)
def rdr (r : List Int) (p : Nat) : Ob := .ins "RowReader" [("row", rowV r), ("at", .int p)]
def badE (q : Nat) : Ex := ⟨"BadRow", [("place", .int q)]⟩
section
variable {S : Store} {a p : Nat} {r : List Int}
theorem rdr_row (h : sg S a = some (rdr r p)) : getF "RowReader" "row" (.ref a) S = .ok (rowV r) S := by
  rw [getF_ref, h]
  unfold rdr
  simp
theorem rdr_at (h : sg S a = some (rdr r p)) : getF "RowReader" "at" (.ref a) S = .ok (.int p) S := by
  rw [getF_ref, h]
  unfold rdr
  simp
theorem rdr_put (h : sg S a = some (rdr r p)) (q : Nat) : putFld "RowReader" "at" (.int q) (.ref a) S = .ok () (ss S a (rdr r q)) := by
  rw [putFld_ref, h]
  unfold rdr
  simp [setF]
theorem rdr_set (h : sg S a = some (rdr r p)) (q : Nat) : sg (ss S a (rdr r q)) a = some (rdr r q) := sg_ss_same (by rw [h]; rfl)
theorem row_len (r : List Int) (S : Store) : fLen [rowV r] S = .ok (.int r.length) S := by
  unfold rowV
  simp
theorem row_ix {b : Int} (h : r[p]? = some b) : pIx (rowV r) (.int p) S = .ok (.int b) S := by
  unfold rowV
  simp [h]
theorem rdr_low (n q : Nat) : obBelow n (rdr r q) = true := by
  unfold rdr rowV
  simp
theorem rdr_gc (q : Nat) : GcOk S (ss S a (rdr r q)) := gcOk_ss gcOk_refl (rdr_low _ q)
theorem rdr_cut (q : Nat) : cut (sl S) (ss S a (rdr r q)) = ss S a (rdr r q) := cut_ge (by simp)
theorem next_end (h : sg S a = some (rdr r p)) (hp : p = r.length) : m_RowReader_next_byte [.ref a] S = .exn (badE p) S := by
  subst hp
  have e1 := rdr_at h
  have e2 := rdr_row h
  have e3 := row_len r S
  unfold m_RowReader_next_byte badE
  simp (maxDischargeDepth := 12) [startL, e1, e2, e3, pEq_int, -getF_ref]
theorem next_one {b : Int} (h : sg S a = some (rdr r p)) (hb : r[p]? = some b) : m_RowReader_next_byte [.ref a] S = .ok (.int b) (ss S a (rdr r (p + 1))) := by
  have lt := (List.getElem?_eq_some_iff.mp hb).1
  have ne : ¬ (p : Int) = r.length := by omega
  have e1 := rdr_at h
  have e2 := rdr_row h
  have e3 := row_len r S
  have e4 := rdr_put h (p + 1)
  have h' := rdr_set h (p + 1)
  have e5 := rdr_at h'
  have e6 := rdr_row h'
  have e7 := row_ix (S := ss S a (rdr r (p + 1))) hb
  have g := rdr_gc (S := S) (a := a) (r := r) (p + 1)
  have ec : ((p : Int) + 1) = ((p + 1 : Nat) : Int) := by omega
  rw [← ec] at e4 e5
  unfold m_RowReader_next_byte
  simp (maxDischargeDepth := 12) [startL, e1, e2, e3, e4, e5, e6, e7, g, ne, pEq_int, -getF_ref, -putFld_ref]
def cW : MT := tV (m2 pLt (m1 (getF "RowReader" "at") (mV 0)) (mB fLen (aCons (m1 (getF "RowReader" "row") (mV 0)) aNil)))
def LW (a beg : Nat) (f w : Int) (x : Option Val) : Loc := [some (.ref a), some (.int beg), some (.int f), some (.int w), x]
theorem cW_app {beg : Nat} {f w : Int} {x : Option Val} (h : sg S a = some (rdr r p)) : cW (LW a beg f w x) S = .ok (decide (p < r.length)) S := by
  have e1 := rdr_at h
  have e2 := rdr_row h
  have e3 := row_len r S
  unfold cW LW
  by_cases q : p < r.length
  · have q' : (p : Int) < r.length := by omega
    simp (maxDischargeDepth := 12) [e1, e2, e3, q, q', -getF_ref]
  · have q' : ¬ (p : Int) < r.length := by omega
    simp (maxDischargeDepth := 12) [e1, e2, e3, q, q', -getF_ref]
theorem bW_on {beg : Nat} {f w b : Int} (h : sg S a = some (rdr r p)) (hb : r[p]? = some b) (hh : ¬ b < 128) {x : Option Val} : m_RowReader_read_whole_b1 (LW a beg f w x) S = .nx (LW a beg (f + b % 128 * w) (w * 128) none) (ss S a (rdr r (p + 1))) := by
  have e1 := rdr_at h
  have e2 := rdr_row h
  have e3 := row_ix (S := S) hb
  have e4 := rdr_put h (p + 1)
  have ec : ((p : Int) + 1) = ((p + 1 : Nat) : Int) := by omega
  rw [← ec] at e4
  have c1 : cmul (b % 128) w = true := cmul_left (by omega) (by omega)
  have c2 : cmul w 128 = true := cmul_right (by omega) (by omega)
  unfold m_RowReader_read_whole_b1 LW
  simp (maxDischargeDepth := 12) [e1, e2, e3, e4, c1, c2, hh, -getF_ref, -putFld_ref]
theorem bW_end {beg : Nat} {f w b : Int} (h : sg S a = some (rdr r p)) (hb : r[p]? = some b) (hh : b < 128) {x : Option Val} (hbeg : beg ≤ p) :
    (b = 0 ∧ 1 < p + 1 - beg → ∃ L', m_RowReader_read_whole_b1 (LW a beg f w x) S = .exn (badE beg) L' (ss S a (rdr r (p + 1)))) ∧
    (¬ (b = 0 ∧ 1 < p + 1 - beg) → m_RowReader_read_whole_b1 (LW a beg f w x) S = .rt (.int (f + b % 128 * w)) (ss S a (rdr r (p + 1)))) := by
  have e1 := rdr_at h
  have e2 := rdr_row h
  have e3 := row_ix (S := S) hb
  have e4 := rdr_put h (p + 1)
  have e5 := rdr_at (rdr_set h (p + 1))
  have ec : ((p : Int) + 1) = ((p + 1 : Nat) : Int) := by omega
  rw [← ec] at e4 e5
  have c1 : cmul (b % 128) w = true := cmul_left (by omega) (by omega)
  have c2 : cmul w 128 = true := cmul_right (by omega) (by omega)
  constructor
  · rintro ⟨z1, z2⟩
    subst z1
    have z3 : (1 : Int) < (p : Int) + 1 - beg := by omega
    have c0 : cmul 0 w = true := cmul_left (by omega) (by omega)
    unfold m_RowReader_read_whole_b1 LW badE
    exact ⟨_, by simp (maxDischargeDepth := 12) [e1, e2, e3, e4, e5, c0, c2, z3, -getF_ref, -putFld_ref]; rfl⟩
  · intro z
    unfold m_RowReader_read_whole_b1 LW
    by_cases z1 : b = 0
    · have z3 : ¬ (1 : Int) < (p : Int) + 1 - beg := by omega
      subst z1
      have c0 : cmul 0 w = true := cmul_left (by omega) (by omega)
      simp (maxDischargeDepth := 12) [e1, e2, e3, e4, e5, c0, c2, z3, -getF_ref, -putFld_ref]
    · simp (maxDischargeDepth := 12) [e1, e2, e3, e4, c1, c2, z1, hh, -getF_ref, -putFld_ref]
theorem whole_loop {beg : Nat} (hbs : Bys r) : ∀ (s : List Int) (p : Nat) (f w : Int) (fuel : Nat) (S : Store) (x : Option Val), sg S a = some (rdr r p) → r.drop p = s → beg ≤ p → s.length < fuel → p ≤ r.length →
    match wRd s with
    | none => ∃ (L' : Loc), (L'[1]? = some (some (.int beg))) ∧ whileLoop cW m_RowReader_read_whole_b1 fuel (LW a beg f w x) S = .nx L' (ss S a (rdr r r.length))
    | some (v, j) => if 1 < p + j - beg ∧ s[j - 1]? = some 0 then ∃ L', whileLoop cW m_RowReader_read_whole_b1 fuel (LW a beg f w x) S = .exn (badE beg) L' (ss S a (rdr r (p + j)))
      else whileLoop cW m_RowReader_read_whole_b1 fuel (LW a beg f w x) S = .rt (.int (f + w * v)) (ss S a (rdr r (p + j)))
  | [], p, f, w, fuel, S, x, h, hd, hb, hf, hp => by
    have : p = r.length := by
      have := congrArg List.length hd
      simp at this
      omega
    subst this
    show ∃ L', _
    refine ⟨LW a beg f w x, rfl, ?_⟩
    rw [whileLoop_step (by omega), cW_app h, thenF_ok, decide_eq_false (by omega), bite_false]
    congr 1
    apply List.ext_getElem?
    intro i
    by_cases hi : i = a
    · subst hi
      have : sg (ss S i (rdr r r.length)) i = some (rdr r r.length) := rdr_set h _
      exact h.trans this.symm
    · exact (sg_ss_ne (S := S) hi).symm
  | b :: s, p, f, w, fuel, S, x, h, hd, hb, hf, hp => by
    obtain ⟨e1, e2⟩ := drop_head hd
    have lt := (List.getElem?_eq_some_iff.mp e1).1
    have hb0 := hbs b (List.mem_of_getElem? e1)
    have hfu : 0 < fuel := by omega
    by_cases z : b < 128
    · have ew : wRd (b :: s) = some (b.toNat, 1) := by unfold wRd; rw [if_pos z]
      rw [ew]
      obtain ⟨k1, k2⟩ := bW_end (f := f) (w := w) (x := x) h e1 z hb
      dsimp only
      rw [whileLoop_step hfu, cW_app h, thenF_ok, decide_eq_true lt, bite_true]
      split
      · rename_i q
        obtain ⟨L', e⟩ := k1 ⟨by simpa using q.2, q.1⟩
        exact ⟨L', by rw [e, turn_exn]⟩
      · rename_i q
        rw [k2 fun y => q ⟨y.2, by simp [y.1]⟩, turn_rt]
        congr 2
        have : b % 128 = b := by omega
        rw [this, Int.toNat_of_nonneg hb0.1, Int.mul_comm]
    · have ew : wRd (b :: s) = (wRd s).map fun p => ((b % 128).toNat + 128 * p.1, p.2 + 1) := by conv => lhs; unfold wRd; rw [if_neg z]
      have hs : s.length < fuel - 1 := by rw [List.length_cons] at hf; omega
      have hp1 : p + 1 ≤ r.length := lt
      have ih := whole_loop (beg := beg) hbs s (p + 1) (f + b % 128 * w) (w * 128) (fuel - 1) (ss S a (rdr r (p + 1))) none (rdr_set h _) e2 (by omega) hs hp1
      rw [ew, whileLoop_step hfu, cW_app h, thenF_ok, decide_eq_true lt, bite_true, bW_on h e1 z, turn_nx]
      cases q : wRd s with
      | none =>
        rw [q] at ih
        simp only [ss_ss] at ih
        exact ih
      | some y =>
        rw [q] at ih
        obtain ⟨v, j⟩ := y
        have lj := wRd_len q
        simp only [ss_ss] at ih
        simp only [Option.map_some]
        have ej : (b :: s)[j + 1 - 1]? = s[j - 1]? := by rw [show j + 1 - 1 = (j - 1) + 1 from by omega, List.getElem?_cons_succ]
        rw [ej]
        by_cases c : 1 < p + 1 + j - beg ∧ s[j - 1]? = some 0
        · rw [if_pos c] at ih
          rw [if_pos ⟨by omega, c.2⟩, show p + (j + 1) = p + 1 + j from by omega]
          exact ih
        · rw [if_neg c] at ih
          rw [if_neg (fun y => c ⟨by omega, y.2⟩), show p + (j + 1) = p + 1 + j from by omega, ih]
          congr 2
          push_cast
          rw [Int.toNat_of_nonneg (by omega), Int.mul_add, Int.mul_comm (b % 128) w, ← Int.mul_assoc, Int.add_assoc]
/-- what a reading tells -/
def Told (a : Nat) (r : List Int) (S : Store) {α : Type} (g : α → Val) (q : R Val) : Rd α → Prop
  | .ok v p => q = .ok (g v) (ss S a (rdr r p)) ∧ p ≤ r.length
  | .bad p => ∃ p', q = .exn (badE p) (ss S a (rdr r p'))
theorem read_whole_eq (hbs : Bys r) (h : sg S a = some (rdr r p)) (hp : p ≤ r.length) (hz : r.length < 100000) : Told a r S (fun n : Nat => .int n) (m_RowReader_read_whole [.ref a] S) (rdW r p) := by
  have e1 := rdr_at h
  have w := whole_loop (beg := p) hbs (r.drop p) p 0 1 MANY S none h rfl (Nat.le_refl _) (by unfold MANY; rw [List.length_drop]; omega) hp
  unfold LW cW at w
  unfold rdW
  cases q : wRd (r.drop p) with
  | none =>
    rw [q] at w
    obtain ⟨L', hL, w⟩ := w
    refine ⟨r.length, ?_⟩
    have hL' : getL L' 1 (ss S a (rdr r r.length)) = .ok (.int p) (ss S a (rdr r r.length)) := getL_some hL
    unfold m_RowReader_read_whole badE
    have g := rdr_gc (S := S) (a := a) (r := r) r.length
    simp (maxDischargeDepth := 12) [startL, e1, w, hL', g, -getF_ref]
  | some y =>
    rw [q] at w
    obtain ⟨v, j⟩ := y
    have lj := wRd_len q
    rw [List.length_drop] at lj
    have ei : (r.drop p)[j - 1]? = r[p + j - 1]? := by rw [List.getElem?_drop]; congr 1; omega
    have ep : p + j - p = j := by omega
    dsimp only at w ⊢
    rw [ei, ep] at w
    have g := rdr_gc (S := S) (a := a) (r := r) (p + j)
    by_cases c : 1 < j ∧ r[p + j - 1]? = some 0
    · rw [if_pos c] at w ⊢
      obtain ⟨L', w⟩ := w
      refine ⟨p + j, ?_⟩
      unfold m_RowReader_read_whole badE
      unfold badE at w
      simp (maxDischargeDepth := 12) [startL, e1, w, g, -getF_ref]
    · rw [if_neg c] at w ⊢
      refine ⟨?_, by omega⟩
      unfold m_RowReader_read_whole
      simp (maxDischargeDepth := 12) [startL, e1, w, g, -getF_ref]
end
end KR

/-! KRg: the reader of rows: strings. -/
namespace KR
open Mp
open PySem (Str)
theorem ss_id {S : Store} {a : Nat} {o : Ob} (h : sg S a = some o) : ss S a o = S := by
  apply List.ext_getElem?
  intro i
  by_cases hi : i = a
  · subst hi
    have : sg (ss S i o) i = some o := sg_ss_same (by rw [h]; rfl)
    exact this.trans h.symm
  · exact sg_ss_ne (S := S) hi
abbrev SG : Str := " !\"#$ &'()*+,-./0123456789:;<=>?@ABCDEFGHIJKLMNOPQRSTUVWXYZ[\\]^_`abcdefghijklmnopqrstuvwxyz{|}~"
theorem SG_ix : ∀ i : Fin 95, i.val ≠ 5 → SG.cps.toList[i.val]? = some (i.val + 32) := by decide +kernel
theorem SG_len : SG.length = 95 := by decide +kernel
theorem sg_sign {b : Int} {S : Store} (h : sgn b = true) : pIx (.str SG) (.int (b - 32)) S = .ok (.str ⟨#[b.toNat]⟩) S := by
  unfold sgn at h
  simp only [Bool.and_eq_true, decide_eq_true_eq, Bool.not_eq_true', decide_eq_false_iff_not] at h
  obtain ⟨⟨h1, h2⟩, h3⟩ := h
  have e := SG_ix ⟨(b - 32).toNat, by omega⟩ (by show (b - 32).toNat ≠ 5; omega)
  have e1 : L2.atI SG.cps.toList (b - 32) = some b.toNat := by
    have : b - 32 = (((b - 32).toNat : Nat) : Int) := by omega
    rw [this, atI_nat, e]
    congr 1
    show (b - 32).toNat + 32 = b.toNat
    omega
  unfold pIx
  simp only [e1]
  rw [bite_pos]
  rw [SG_len]
  decide
theorem str_app (cs ds : List Nat) : ((⟨cs.toArray⟩ : Str) ++ (⟨ds.toArray⟩ : Str)) = ⟨(cs ++ ds).toArray⟩ := by
  show Str.mk (cs.toArray ++ ds.toArray) = _
  rw [List.append_toArray]
section
variable {S : Store} {a p : Nat} {r : List Int}
theorem next_meth_one {b : Int} {L : Loc} (hL : L[0]? = some (some (.ref a))) (h : sg S a = some (rdr r p)) (hb : r[p]? = some b) : mMeth "RowReader" "next_byte" m_RowReader_next_byte (mV 0) aNil L S = .ok (.int b) (ss S a (rdr r (p + 1))) := by
  have e := next_one h hb
  rw [mMeth_app, mV_app, getL_some hL, R.bind_ok, methX_ref, h]
  unfold rdr at e ⊢
  simp [e]
theorem next_meth_end {L : Loc} (hL : L[0]? = some (some (.ref a))) (h : sg S a = some (rdr r p)) (hp : p = r.length) : mMeth "RowReader" "next_byte" m_RowReader_next_byte (mV 0) aNil L S = .exn (badE p) S := by
  have e := next_end h hp
  rw [mMeth_app, mV_app, getL_some hL, R.bind_ok, methX_ref, h]
  unfold rdr
  simp [e]
theorem whole_meth {L : Loc} (hL : L[0]? = some (some (.ref a))) (h : sg S a = some (rdr r p)) : mMeth "RowReader" "read_whole" m_RowReader_read_whole (mV 0) aNil L S = m_RowReader_read_whole [.ref a] S := by
  rw [mMeth_app, mV_app, getL_some hL, R.bind_ok, methX_ref, h]
  unfold rdr
  simp
def LS (a beg k : Nat) (cs : List Nat) (x y : Option Val) : Loc := [some (.ref a), some (.int beg), some (.int k), some (.str ⟨cs.toArray⟩), x, y]
theorem sg_turn {beg k : Nat} {cs : List Nat} {x : Val} {y : Option Val} {b : Int} (h : sg S a = some (rdr r p)) (hb : r[p]? = some b) (hs : sgn b = true) (hz : cs.length < 100000) :
    forOne (gN 4) m_RowReader_read_string_b1 x (LS a beg k cs none y) S = .nx (LS a beg k (cs ++ [b.toNat]) none none) (ss S a (rdr r (p + 1))) := by
  have e1 := next_meth_one (L := LS a beg k cs (some x) y) rfl h hb
  have e2 := is_sign_eq b (ss S a (rdr r (p + 1)))
  rw [hs] at e2
  have e3 := sg_sign (S := ss S a (rdr r (p + 1))) hs
  have e4 := str_app cs [b.toNat]
  have hl : cs.length + 1 ≤ 16777216 := by omega
  have l1 : (⟨cs.toArray⟩ : Str).length = cs.length := by show cs.toArray.size = _; simp
  have l2 : (⟨#[b.toNat]⟩ : Str).length = 1 := rfl
  unfold m_RowReader_read_string_b1
  unfold LS at e1 ⊢
  simp (maxDischargeDepth := 12) [e1, e2, e3, e4, hl, l1, l2, -mMeth_app]
theorem sg_none {beg k : Nat} {cs : List Nat} {x : Val} {y : Option Val} (h : sg S a = some (rdr r p)) (hp : p = r.length) :
    ∃ L', forOne (gN 4) m_RowReader_read_string_b1 x (LS a beg k cs none y) S = .exn (badE p) L' S := by
  have e1 := next_meth_end (L := LS a beg k cs (some x) y) rfl h hp
  unfold m_RowReader_read_string_b1
  unfold LS at e1 ⊢
  exact ⟨_, by simp (maxDischargeDepth := 12) [e1, -mMeth_app]; rfl⟩
theorem sg_wrong {beg k : Nat} {cs : List Nat} {x : Val} {y : Option Val} {b : Int} (h : sg S a = some (rdr r p)) (hb : r[p]? = some b) (hs : sgn b = false) :
    ∃ L', forOne (gN 4) m_RowReader_read_string_b1 x (LS a beg k cs none y) S = .exn (badE p) L' (ss S a (rdr r (p + 1))) := by
  have e1 := next_meth_one (L := LS a beg k cs (some x) y) rfl h hb
  have e2 := is_sign_eq b (ss S a (rdr r (p + 1)))
  rw [hs] at e2
  have e3 := rdr_at (rdr_set h (p + 1))
  have ec : ((p + 1 : Nat) : Int) = (p : Int) + 1 := by omega
  rw [ec] at e3
  unfold m_RowReader_read_string_b1 badE
  unfold LS at e1 ⊢
  exact ⟨_, by simp (maxDischargeDepth := 12) [e1, e2, e3, -mMeth_app, -getF_ref]; rfl⟩
theorem sg_loop {beg k : Nat} : ∀ (xs : List Val) (p : Nat) (cs : List Nat) (S : Store) (y : Option Val), sg S a = some (rdr r p) → p ≤ r.length → cs.length + xs.length < 100000 →
    match rdSg r xs.length p with
    | .ok s q => (∃ y', forLoop (fun _ => True) (gN 4) m_RowReader_read_string_b1 xs (LS a beg k cs none y) S = .nx (LS a beg k (cs ++ s) none y') (ss S a (rdr r q))) ∧ q ≤ r.length
    | .bad q => ∃ L' p', forLoop (fun _ => True) (gN 4) m_RowReader_read_string_b1 xs (LS a beg k cs none y) S = .exn (badE q) L' (ss S a (rdr r p'))
  | [], p, cs, S, y, h, hp, hz => by
    refine ⟨⟨y, ?_⟩, hp⟩
    rw [forLoop_nil, gate_pos trivial, ss_id h, List.append_nil]
  | x :: xs, p, cs, S, y, h, hp, hz => by
    show match (match r[p]? with
      | none => Rd.bad p
      | some b => if sgn b = true then (match rdSg r xs.length (p + 1) with
        | .ok s q => .ok (b.toNat :: s) q
        | .bad q => .bad q) else .bad p) with
      | .ok s q => _
      | .bad q => _
    cases hb : r[p]? with
    | none =>
      have : p = r.length := by
        have := List.getElem?_eq_none_iff.mp hb
        omega
      obtain ⟨L', e⟩ := sg_none (beg := beg) (k := k) (cs := cs) (x := x) (y := y) h this
      exact ⟨L', p, by rw [forLoop_cons, gate_pos trivial, e, turn_exn, ss_id h]⟩
    | some b =>
      have lt := (List.getElem?_eq_some_iff.mp hb).1
      dsimp only
      by_cases hs : sgn b = true
      · rw [if_pos hs]
        have e := sg_turn (beg := beg) (k := k) (cs := cs) (x := x) (y := y) h hb hs (by simp at hz; omega)
        have ih := sg_loop (beg := beg) (k := k) xs (p + 1) (cs ++ [b.toNat]) (ss S a (rdr r (p + 1))) none (rdr_set h _) lt (by simp at hz ⊢; omega)
        cases q : rdSg r xs.length (p + 1) with
        | ok s q' =>
          rw [q] at ih
          obtain ⟨⟨y', e2⟩, hq⟩ := ih
          refine ⟨⟨y', ?_⟩, hq⟩
          rw [forLoop_cons, gate_pos trivial, e, turn_nx, e2, ss_ss]
          simp
        | bad q' =>
          rw [q] at ih
          obtain ⟨L', p', e2⟩ := ih
          exact ⟨L', p', by rw [forLoop_cons, gate_pos trivial, e, turn_nx, e2, ss_ss]⟩
      · rw [if_neg hs]
        obtain ⟨L', e⟩ := sg_wrong (beg := beg) (k := k) (cs := cs) (x := x) (y := y) h hb (by simpa using hs)
        exact ⟨L', p + 1, by rw [forLoop_cons, gate_pos trivial, e, turn_exn]⟩
theorem read_string_eq (hbs : Bys r) (h : sg S a = some (rdr r p)) (hp : p ≤ r.length) (hz : r.length < 100000) : Told a r S (fun v : Val => v) (m_RowReader_read_string [.ref a] S) (rdS r p) := by
  have e1 := rdr_at h
  have e2 := read_whole_eq hbs h hp hz
  have e3 := whole_meth (L := [some (.ref a), some (.int p), none, none, none, none]) rfl h
  unfold rdS
  cases q : rdW r p with
  | bad q' =>
    rw [q] at e2
    obtain ⟨p', e2⟩ := e2
    refine ⟨p', ?_⟩
    have g := rdr_gc (S := S) (a := a) (r := r) p'
    unfold badE at e2 ⊢
    unfold m_RowReader_read_string
    simp (maxDischargeDepth := 12) [startL, e1, e3, e2, g, -getF_ref, -mMeth_app]
  | ok k q' =>
    rw [q] at e2
    obtain ⟨e2, hq⟩ := e2
    replace e2 : m_RowReader_read_whole [.ref a] S = .ok (.int k) (ss S a (rdr r q')) := e2
    dsimp only
    by_cases c : 1 ≤ k ∧ k ≤ 20
    · rw [if_pos c]
      have c1 : (1 : Int) ≤ k := by omega
      have c2 : (k : Int) ≤ 20 := by omega
      have er : rngOf1 [.int (k : Int)] (ss S a (rdr r q')) = .ok ⟨rangeL 0 k, fun _ => True⟩ (ss S a (rdr r q')) := rng_nat k rfl (by omega)
      have lp := sg_loop (a := a) (r := r) (beg := p) (k := k) (rangeL 0 k) q' [] (ss S a (rdr r q')) none (rdr_set h _) hq (by rw [rangeL_len]; simp; omega)
      rw [rangeL_len] at lp
      cases qs : rdSg r k q' with
      | ok s t =>
        rw [qs] at lp
        obtain ⟨⟨y', lp⟩, ht⟩ := lp
        rw [ss_ss] at lp
        refine ⟨?_, ht⟩
        have g := rdr_gc (S := S) (a := a) (r := r) t
        have e0 : (("" : String) : Str) = (⟨([] : List Nat).toArray⟩ : Str) := rfl
        unfold LS at lp
        rw [← e0] at lp
        unfold m_RowReader_read_string
        simp (maxDischargeDepth := 12) [startL, e1, e3, e2, c1, c2, er, lp, g, -getF_ref, -mMeth_app]
      | bad t =>
        rw [qs] at lp
        obtain ⟨L', p', lp⟩ := lp
        rw [ss_ss] at lp
        refine ⟨p', ?_⟩
        have g := rdr_gc (S := S) (a := a) (r := r) p'
        have e0 : (("" : String) : Str) = (⟨([] : List Nat).toArray⟩ : Str) := rfl
        unfold LS badE at lp
        rw [← e0] at lp
        unfold m_RowReader_read_string badE
        simp (maxDischargeDepth := 12) [startL, e1, e3, e2, c1, c2, er, lp, g, -getF_ref, -mMeth_app]
    · rw [if_neg c]
      refine ⟨q', ?_⟩
      have g := rdr_gc (S := S) (a := a) (r := r) q'
      unfold m_RowReader_read_string badE
      by_cases c1 : (1 : Int) ≤ k
      · have c2 : ¬ (k : Int) ≤ 20 := by omega
        simp (maxDischargeDepth := 12) [startL, e1, e3, e2, c1, c2, g, -getF_ref, -mMeth_app]
      · simp (maxDischargeDepth := 12) [startL, e1, e3, e2, c1, g, -getF_ref, -mMeth_app]
end
end KR

/-! KRb: what is read was written so. -/
namespace KR
open Mp
open PySem (Str)
theorem bytV_pos {n : Nat} {v : Val} (h : isP n v = true) : 1 ≤ (bytV n v).length := by
  cases v with
  | non => simp
  | bl b => simp
  | int i => rw [bytV_int]; unfold bytI; split <;> simp
  | str s => simp
  | tup vs =>
    cases n with
    | zero => rw [isP_tup0] at h; cases h
    | succ n => simp
  | ref i => rw [isP_ref] at h; cases h
  | fl i => rw [isP_fl] at h; cases h
theorem take_drop_eq {r a : List Int} {p k : Nat} (h : a = (r.drop p).take k) (hk : p + k ≤ r.length) : r.drop p = a ++ r.drop (p + k) ∧ p + k = p + a.length := by
  have l : a.length = k := by rw [h, List.length_take, List.length_drop]; omega
  refine ⟨?_, by rw [l]⟩
  rw [h, ← List.drop_drop, List.take_append_drop]
theorem rdW_back {r : List Int} {p v q : Nat} (hb : Bys r) (h : rdW r p = .ok v q) : r.drop p = wholeL v ++ r.drop q ∧ q = p + (wholeL v).length ∧ q ≤ r.length := by
  unfold rdW at h
  cases e : wRd (r.drop p) with
  | none => rw [e] at h; cases h
  | some y =>
    rw [e] at h
    obtain ⟨v', k⟩ := y
    dsimp only at h
    split at h
    · cases h
    · rename_i c
      have hv : v' = v := by cases h; rfl
      have hq : p + k = q := by cases h; rfl
      subst hv hq
      have l := wRd_len e
      rw [List.length_drop] at l
      have ei : (r.drop p)[k - 1]? = r[p + k - 1]? := by rw [List.getElem?_drop]; congr 1; omega
      have w := wRd_back (hb.drop p) e (by
        rw [ei]
        by_cases z : k = 1
        · exact .inl z
        · exact .inr fun y => c ⟨by omega, y⟩)
      obtain ⟨t1, t2⟩ := take_drop_eq w (by omega)
      exact ⟨t1, t2, by omega⟩
theorem get_drop {r : List Int} {p : Nat} {b : Int} (h : r[p]? = some b) : r.drop p = b :: r.drop (p + 1) := by
  have lt := (List.getElem?_eq_some_iff.mp h).1
  have : r[p] = b := (List.getElem?_eq_some_iff.mp h).2
  rw [List.drop_eq_getElem_cons lt, this]
theorem rdSg_back {r : List Int} (hb : Bys r) : ∀ {k p : Nat} {s : List Nat} {q : Nat}, rdSg r k p = .ok s q → p ≤ r.length → s.length = k ∧ (∀ c, c ∈ s → sgn (c : Int) = true) ∧ r.drop p = s.map (fun (c : Nat) => (c : Int)) ++ r.drop q ∧ q = p + k ∧ q ≤ r.length
  | 0, p, s, q, h, hp => by
    cases h
    exact ⟨rfl, by simp, by simp, rfl, hp⟩
  | k + 1, p, s, q, h, hp => by
    unfold rdSg at h
    cases e : r[p]? with
    | none => rw [e] at h; cases h
    | some b =>
      rw [e] at h
      dsimp only at h
      have lt := (List.getElem?_eq_some_iff.mp e).1
      split at h
      · rename_i hs
        cases e2 : rdSg r k (p + 1) with
        | bad q' => rw [e2] at h; cases h
        | ok s' q' =>
          rw [e2] at h
          cases h
          obtain ⟨h1, h2, h3, h4, h5⟩ := rdSg_back hb e2 lt
          have b0 := hb b (List.mem_of_getElem? e)
          have eb : ((b.toNat : Nat) : Int) = b := Int.toNat_of_nonneg b0.1
          refine ⟨by simp [h1], fun c hc => ?_, ?_, by omega, h5⟩
          · rcases List.mem_cons.mp hc with rfl | hc
            · rw [eb]; exact hs
            · exact h2 c hc
          · rw [get_drop e, h3, List.map_cons, eb]
            rfl
      · cases h
theorem rdS_back {n : Nat} {r : List Int} {p q : Nat} {v : Val} (hb : Bys r) (h : rdS r p = .ok v q) : ∃ s : Str, v = .str s ∧ shortS s = true ∧ r.drop p = wholeL s.length ++ codes s ++ r.drop q ∧ q = p + (wholeL s.length).length + s.length ∧ q ≤ r.length := by
  unfold rdS at h
  cases e : rdW r p with
  | bad q' => rw [e] at h; cases h
  | ok k q' =>
    rw [e] at h
    dsimp only at h
    obtain ⟨w1, w2, w3⟩ := rdW_back hb e
    split at h
    · rename_i c
      cases e2 : rdSg r k q' with
      | bad q' => rw [e2] at h; cases h
      | ok s t =>
        rw [e2] at h
        cases h
        obtain ⟨h1, h2, h3, h4, h5⟩ := rdSg_back hb e2 w3
        have hl : (⟨s.toArray⟩ : Str).length = k := by show s.toArray.size = k; simp [h1]
        refine ⟨_, rfl, ?_, ?_, ?_, h5⟩
        · unfold shortS
          rw [hl]
          simp only [Bool.and_eq_true, decide_eq_true_eq, List.all_eq_true]
          exact ⟨c, h2⟩
        · rw [hl, w1, h3, List.append_assoc]
          rfl
        · rw [hl, h4, w2]
    · cases h
theorem rdMany_back {n : Nat} {r : List Int} (ih : ∀ v p q, rdP n r p = .ok v q → isP n v = true ∧ r.drop p = bytV n v ++ r.drop q ∧ q = p + (bytV n v).length ∧ q ≤ r.length) :
    ∀ {k p : Nat} {vs : List Val} {q : Nat}, rdMany (rdP n r) k p = .ok vs q → p ≤ r.length → vs.length = k ∧ (∀ v, v ∈ vs → isP n v = true) ∧ r.drop p = (vs.map (bytV n)).flatten ++ r.drop q ∧ q = p + ((vs.map (bytV n)).flatten).length ∧ q ≤ r.length
  | 0, p, vs, q, h, hp => by
    cases h
    exact ⟨rfl, by simp, by simp, by simp, hp⟩
  | k + 1, p, vs, q, h, hp => by
    unfold rdMany at h
    cases e : rdP n r p with
    | bad q' => rw [e] at h; cases h
    | ok v q' =>
      rw [e] at h
      dsimp only at h
      obtain ⟨i1, i2, i3, i4⟩ := ih v p q' e
      cases e2 : rdMany (rdP n r) k q' with
      | bad q' => rw [e2] at h; cases h
      | ok ws t =>
        rw [e2] at h
        cases h
        obtain ⟨h1, h2, h3, h4, h5⟩ := rdMany_back ih e2 i4
        refine ⟨by simp [h1], fun c hc => ?_, ?_, ?_, h5⟩
        · rcases List.mem_cons.mp hc with rfl | hc
          · exact i1
          · exact h2 c hc
        · rw [i2, h3]
          simp
        · rw [List.map_cons, List.flatten_cons, List.length_append]
          omega
theorem rdOne_back {n : Nat} {r : List Int} {sub : Option (Nat → Rd Val)} (hb : Bys r)
    (ht : ∀ f p q v, sub = some f → r[p]? = some 6 → rdT f r (p + 1) = .ok v q → isP n v = true ∧ r.drop p = bytV n v ++ r.drop q ∧ q = p + (bytV n v).length ∧ q ≤ r.length)
    {v : Val} {p q : Nat} (h : rdOne sub r p = .ok v q) : isP n v = true ∧ r.drop p = bytV n v ++ r.drop q ∧ q = p + (bytV n v).length ∧ q ≤ r.length := by
  unfold rdOne at h
  cases e : r[p]? with
  | none => rw [e] at h; cases h
  | some b =>
    rw [e] at h
    dsimp only at h
    have lt := (List.getElem?_eq_some_iff.mp e).1
    have b0 := hb b (List.mem_of_getElem? e)
    have ed := get_drop e
    split at h
    · cases h
    split at h
    · rename_i z
      subst z
      cases sub with
      | none => cases h
      | some f => exact ht f p q v rfl e h
    split at h
    · rename_i z
      subst z
      cases h
      exact ⟨by simp, by simpa using ed, by simp, lt⟩
    split at h
    · rename_i z
      subst z
      cases h
      exact ⟨by simp, by simpa using ed, by simp, lt⟩
    split at h
    · rename_i z
      subst z
      cases h
      exact ⟨by simp, by simpa using ed, by simp, lt⟩
    split at h
    · rename_i z
      subst z
      obtain ⟨s, rfl, h1, h2, h3, h4⟩ := rdS_back (n := n) hb h
      refine ⟨by simpa using h1, ?_, ?_, h4⟩
      · rw [ed, h2, bytV_str]
        simp
      · rw [bytV_str]
        simp [codes_len]
        omega
    split at h
    · rename_i z
      subst z
      unfold rdI at h
      cases e2 : rdW r (p + 1) with
      | bad q' => rw [e2] at h; cases h
      | ok k q' =>
        rw [e2] at h
        cases h
        obtain ⟨w1, w2, w3⟩ := rdW_back hb e2
        refine ⟨by simp, ?_, ?_, w3⟩
        · rw [bytV_int]
          unfold bytI
          dsimp only
          rw [if_pos (by omega), Int.toNat_natCast, ed, w1]
          rfl
        · rw [bytV_int]
          unfold bytI
          dsimp only
          rw [if_pos (by omega), Int.toNat_natCast]
          simp
          omega
    · unfold rdI at h
      have z : b = 4 := by omega
      subst z
      cases e2 : rdW r (p + 1) with
      | bad q' => rw [e2] at h; cases h
      | ok k q' =>
        rw [e2] at h
        cases h
        obtain ⟨w1, w2, w3⟩ := rdW_back hb e2
        have ek : (-1 - (-1 - (k : Int))).toNat = k := by omega
        refine ⟨by simp, ?_, ?_, w3⟩
        · rw [bytV_int]
          unfold bytI
          dsimp only
          rw [if_neg (by omega), ek, ed, w1]
          rfl
        · rw [bytV_int]
          unfold bytI
          dsimp only
          rw [if_neg (by omega), ek]
          simp
          omega
theorem rdP_back {r : List Int} (hb : Bys r) : ∀ (n : Nat) (v : Val) (p q : Nat), rdP n r p = .ok v q → isP n v = true ∧ r.drop p = bytV n v ++ r.drop q ∧ q = p + (bytV n v).length ∧ q ≤ r.length := by
  intro n
  induction n with
  | zero =>
    intro v p q h
    unfold rdP at h
    exact rdOne_back hb (fun f p q v e => by cases e) h
  | succ n ih =>
    intro v p q h
    unfold rdP at h
    refine rdOne_back hb (fun f p q v e e6 h => ?_) h
    cases e
    have lt := (List.getElem?_eq_some_iff.mp e6).1
    have ed := get_drop e6
    unfold rdT at h
    cases e : rdW r (p + 1) with
    | bad q' => rw [e] at h; cases h
    | ok k q' =>
      rw [e] at h
      dsimp only at h
      obtain ⟨w1, w2, w3⟩ := rdW_back hb e
      cases e2 : rdMany (rdP n r) k q' with
      | bad q' => rw [e2] at h; cases h
      | ok vs t =>
        rw [e2] at h
        cases h
        obtain ⟨h1, h2, h3, h4, h5⟩ := rdMany_back ih e2 w3
        refine ⟨?_, ?_, ?_, h5⟩
        · rw [isP_tup, List.all_eq_true]
          exact h2
        · rw [bytV_tup, ed, w1, h3, h1]
          simp
        · rw [bytV_tup, List.length_cons, List.length_append, h1]
          omega
/-- what is read advances -/
theorem rdP_adv {r : List Int} (hb : Bys r) {n : Nat} {v : Val} {p q : Nat} (h : rdP n r p = .ok v q) : p < q ∧ q ≤ r.length ∧ isP n v = true := by
  obtain ⟨h1, h2, h3, h4⟩ := rdP_back hb n v p q h
  have := bytV_pos h1
  exact ⟨by omega, h4, h1⟩
end KR

/-! KRh: the reader of rows: tuples, parcels. -/
namespace KR
open Mp
open PySem (Str)
section
variable {S : Store} {a p n f : Nat} {r : List Int} {mf : Fn}
theorem parcel_meth {L : Loc} (h0 : L[0]? = some (some (.ref a))) (h1 : L[1]? = some (some (.int n))) (h : sg S a = some (rdr r p)) : mMeth "RowReader" "read_parcel" mf (mV 0) (aCons (mV 1) aNil) L S = mf [.ref a, .int n] S := by
  rw [mMeth_app, mV_app, getL_some h0, R.bind_ok, methX_ref, h]
  unfold rdr
  simp [getL_some h1]
abbrev bS (mf : Fn) : MS := (sExpr (mBM "list" fAppend (mV 3) (aCons (mMeth "RowReader" "read_parcel" mf (mV 0) (aCons (mV 1) aNil)) aNil)))
abbrev cS : MT := (tV (m2 pLt (mB fLen (aCons (mV 3) aNil)) (mV 2)))
def LV (a n many f : Nat) : Loc := [some (.ref a), some (.int n), some (.int many), some (.ref f)]
theorem sev_loop (hbs : Bys r) (hmf : ∀ S p, sg S a = some (rdr r p) → p ≤ r.length → Told a r S (fun v : Val => v) (mf [.ref a, .int n] S) (rdP n r p)) (hne : a ≠ f) {many : Nat} :
    ∀ (k p : Nat) (vs : List Val) (S : Store) (fuel : Nat), sg S a = some (rdr r p) → sg S f = some (.lst vs) → p ≤ r.length → r.length - p < fuel → vs.length + (r.length - p) < 100000 → many = vs.length + k →
    match rdMany (rdP n r) k p with
    | .ok ws q => whileLoop cS (bS mf) fuel (LV a n many f) S = .nx (LV a n many f) (ss (ss S a (rdr r q)) f (.lst (vs ++ ws))) ∧ q ≤ r.length
    | .bad q => ∃ p' ws, whileLoop cS (bS mf) fuel (LV a n many f) S = .exn (badE q) (LV a n many f) (ss (ss S a (rdr r p')) f (.lst ws))
  | 0, p, vs, S, fuel, ha, hf, hp, hfu, hz, hm => by
    refine ⟨?_, hp⟩
    have hlt : ¬ (vs.length : Int) < many := by omega
    have hc : cS (LV a n many f) S = .ok false S := by
      unfold LV
      simp [hf, hlt]
    rw [whileLoop_step (by omega), hc, thenF_ok, bite_false, ss_id ha, List.append_nil, ss_id hf]
  | k + 1, p, vs, S, fuel, ha, hf, hp, hfu, hz, hm => by
    have hlt : (vs.length : Int) < many := by omega
    have hc : cS (LV a n many f) S = .ok true S := by
      unfold LV
      simp [hf, hlt]
    have e0 := parcel_meth (L := LV a n many f) (mf := mf) rfl rfl ha
    have e := hmf S p ha hp
    rw [whileLoop_step (by omega), hc, thenF_ok, bite_true]
    unfold rdMany
    cases q : rdP n r p with
    | bad p1 =>
      rw [q] at e
      obtain ⟨p', e⟩ := e
      refine ⟨p', vs, ?_⟩
      have : bS mf (LV a n many f) S = .exn (badE p1) (LV a n many f) (ss S a (rdr r p')) := by
        unfold bS
        rw [← e0] at e
        unfold LV at e ⊢
        simp (maxDischargeDepth := 12) [hf, e, -mMeth_app]
      rw [this, turn_exn, ss_id (a := f) (by rw [sg_ss_ne (Ne.symm hne)]; exact hf)]
    | ok v p1 =>
      rw [q] at e
      obtain ⟨e, hp1⟩ := e
      obtain ⟨a1, a2, a3⟩ := rdP_adv hbs q
      have hf1 : sg (ss S a (rdr r p1)) f = some (.lst vs) := by rw [sg_ss_ne (Ne.symm hne)]; exact hf
      have hb : bS mf (LV a n many f) S = .nx (LV a n many f) (ss (ss S a (rdr r p1)) f (.lst (vs ++ [v]))) := by
        have hl : vs.length < 16777216 := by omega
        unfold bS
        rw [← e0] at e
        unfold LV at e ⊢
        simp (maxDischargeDepth := 12) [hf, hf1, e, hl, -mMeth_app]
      rw [hb, turn_nx]
      have ih := sev_loop hbs hmf hne (many := many) k p1 (vs ++ [v]) (ss (ss S a (rdr r p1)) f (.lst (vs ++ [v]))) (fuel - 1) (by rw [sg_ss_ne hne]; exact rdr_set ha _) (sg_ss_same (by rw [hf1]; rfl)) hp1 (by omega) (by simp; omega) (by simp; omega)
      have sw : ∀ (x : Ob) (y : Ob), ss (ss (ss (ss S a (rdr r p1)) f (.lst (vs ++ [v]))) a x) f y = ss (ss S a x) f y := fun x y => by
        apply List.ext_getElem?
        intro i
        show sg (ss (ss (ss (ss S a (rdr r p1)) f (.lst (vs ++ [v]))) a x) f y) i = sg (ss (ss S a x) f y) i
        have hfi : ∀ z, (sg (ss S a z) f).isSome = true := fun z => by rw [sg_ss_ne (Ne.symm hne), hf]; rfl
        by_cases hi : i = f
        · subst hi
          rw [sg_ss_same (by rw [sg_ss_ne (Ne.symm hne), sg_ss_same (hfi _)]; rfl), sg_ss_same (hfi _)]
        · rw [sg_ss_ne hi, sg_ss_ne hi]
          by_cases hia : i = a
          · subst hia
            rw [sg_ss_same (by rw [sg_ss_ne hi, rdr_set ha]; rfl), sg_ss_same (by rw [ha]; rfl)]
          · rw [sg_ss_ne hia, sg_ss_ne hi, sg_ss_ne hia, sg_ss_ne hia]
      dsimp only
      cases q2 : rdMany (rdP n r) k p1 with
      | bad q' =>
        rw [q2] at ih
        obtain ⟨p', ws, ih⟩ := ih
        exact ⟨p', ws, by rw [ih, sw]⟩
      | ok ws q' =>
        rw [q2] at ih
        obtain ⟨ih, hq'⟩ := ih
        refine ⟨?_, hq'⟩
        rw [ih, sw, List.append_assoc]
        rfl
theorem sev_gc {q0 q : Nat} {ws : List Val} (h : sg S a = some (rdr r p)) : GcOk S (ss (ss (sp (ss S a (rdr r q0)) (.lst [])) a (rdr r q)) (sl S) (.lst ws)) ∧ cut (sl S) (ss (ss (sp (ss S a (rdr r q0)) (.lst [])) a (rdr r q)) (sl S) (.lst ws)) = ss S a (rdr r q) := by
  have ha := sg_lt h
  constructor
  · exact gcOk_ss_new (gcOk_ss (gcOk_sp (rdr_gc q0)) (rdr_low _ q)) (Nat.le_refl _)
  · rw [cut_ss_new (Nat.le_refl _), cut_ss ha, cut_sp (by simp), rdr_cut, ss_ss]
theorem read_several_eq (hbs : Bys r) (hmf : ∀ S p, sg S a = some (rdr r p) → p ≤ r.length → Told a r S (fun v : Val => v) (mf [.ref a, .int n] S) (rdP n r p)) (h : sg S a = some (rdr r p)) (hp : p ≤ r.length) (hz : r.length < 50000) :
    Told a r S (fun v : Val => v) (m_RowReader_read_several mf [.ref a, .int n] S) (rdT (rdP n r) r p) := by
  have e2 := read_whole_eq hbs h hp (by omega)
  have e3 := whole_meth (L := [some (.ref a), some (.int n), none, none]) rfl h
  have ha := sg_lt h
  unfold rdT
  cases q : rdW r p with
  | bad q' =>
    rw [q] at e2
    obtain ⟨p', e2⟩ := e2
    refine ⟨p', ?_⟩
    have g := rdr_gc (S := S) (a := a) (r := r) p'
    unfold badE at e2 ⊢
    unfold m_RowReader_read_several
    simp (maxDischargeDepth := 12) [startL, e3, e2, g, -getF_ref, -mMeth_app]
  | ok k q' =>
    rw [q] at e2
    obtain ⟨e2, hq⟩ := e2
    replace e2 : m_RowReader_read_whole [.ref a] S = .ok (.int k) (ss S a (rdr r q')) := e2
    have s1 : sl (ss S a (rdr r q')) = sl S := sl_ss
    have lp := sev_loop (f := sl S) hbs hmf (by omega) (many := k) k q' [] (sp (ss S a (rdr r q')) (.lst [])) MANY (by rw [sg_sp_lt (by rw [s1]; exact ha)]; exact rdr_set h _) (by rw [← s1]; exact sg_sp_new) hq (by unfold MANY; omega) (by simp; omega) (by simp)
    dsimp only
    unfold LV at lp
    cases q2 : rdMany (rdP n r) k q' with
    | bad t =>
      rw [q2] at lp
      obtain ⟨p', ws, lp⟩ := lp
      obtain ⟨g1, g2⟩ := sev_gc (q0 := q') (q := p') (ws := ws) h
      refine ⟨p', ?_⟩
      unfold badE at lp ⊢
      unfold m_RowReader_read_several
      simp (maxDischargeDepth := 12) [startL, e3, e2, lp, g1, g2, -getF_ref, -mMeth_app]
    | ok ws t =>
      rw [q2] at lp
      obtain ⟨lp, ht⟩ := lp
      obtain ⟨g1, g2⟩ := sev_gc (q0 := q') (q := t) (ws := ws) h
      refine ⟨?_, ht⟩
      rw [List.nil_append] at lp
      obtain ⟨b1, b2, b3, b4, b5⟩ := rdMany_back (fun v p q hq => rdP_back hbs n v p q hq) q2 hq
      have hb : ∀ m, belows m ws = true := fun m => by
        rw [belows_all, List.all_eq_true]
        exact fun v hv => isP_below (b2 v hv)
      have hT : sg (ss (ss (sp (ss S a (rdr r q')) (.lst [])) a (rdr r t)) (sl S) (.lst ws)) (sl S) = some (.lst ws) := sg_ss_same (by
        rw [sg_ss_ne (by omega), ← s1, sg_sp_new]; rfl)
      unfold m_RowReader_read_several
      simp (maxDischargeDepth := 12) [startL, e3, e2, lp, g1, g2, hT, hb, -getF_ref, -mMeth_app]
theorem several_meth {L : Loc} {k : Nat} {mf : Fn} (h0 : L[0]? = some (some (.ref a))) (h1 : L[1]? = some (some (.int ((k + 1 : Nat) : Int)))) (h : sg S a = some (rdr r p)) :
    mMeth "RowReader" "read_several" (m_RowReader_read_several mf) (mV 0) (aCons (m2 pSub (mV 1) (mC (.int 1))) aNil) L S = m_RowReader_read_several mf [.ref a, .int k] S := by
  rw [mMeth_app, mV_app, getL_some h0, R.bind_ok, methX_ref, h]
  have e : ((k + 1 : Nat) : Int) - 1 = k := by omega
  have : (aCons (m2 pSub (mV 1) (mC (.int 1))) aNil : MA) L S = .ok [.int k] S := by
    simp [getL_some h1]
  rw [this]
  unfold rdr
  simp
theorem string_meth {L : Loc} (h0 : L[0]? = some (some (.ref a))) (h : sg S a = some (rdr r p)) : mMeth "RowReader" "read_string" m_RowReader_read_string (mV 0) aNil L S = m_RowReader_read_string [.ref a] S := by
  rw [mMeth_app, mV_app, getL_some h0, R.bind_ok, methX_ref, h]
  unfold rdr
  simp
end
end KR

/-! KRi: the reader of rows: any parcel. -/
namespace KR
open Mp
open PySem (Str)
section
variable {S : Store} {a p : Nat} {r : List Int}
theorem in12 (b : Int) (S : Store) : pIn (.int b) (.tup [.int 1, .int 2]) S = .ok (.bl (decide (b = 1) || decide (b = 2))) S := by
  have := (pIn_ints (S := S) (i := b) (ns := [1, 2])).1
  simp at this
  rw [this]
theorem told_trans {α : Type} {g : α → Val} {q : R Val} {x : Rd α} {p1 : Nat} (h : Told a r (ss S a (rdr r p1)) g q x) : Told a r S g q x := by
  cases x with
  | ok v p => exact ⟨by rw [h.1, ss_ss], h.2⟩
  | bad p =>
    obtain ⟨p', e⟩ := h
    exact ⟨p', by rw [e, ss_ss]⟩
/-- the end of a def that tells what a reading told -/
theorem told_end {q : R Val} {x : Rd Val} (h : Told a r S (fun v : Val => v) q x) (hb : ∀ v p, x = .ok v p → below (sl S) v = true) : gcR S q = q := by
  cases x with
  | ok v p =>
    obtain ⟨e, _⟩ := h
    rw [e, gcR_ok, gate_pos (rdr_gc p), gcV_low (hb v p rfl), rdr_cut]
  | bad p =>
    obtain ⟨p', e⟩ := h
    rw [e]
    unfold badE
    simp [rdr_gc p']
/-- the last statement: return e -/
theorem ret_end {e : ME} {L : Loc} {q : R Val} (h : e L S = q) : endF (sRet e L S) = q := by
  rw [sRet_app, h]
  cases q <;> rfl
theorem endF_then {x y : MS} {L L1 : Loc} {S1 : Store} (h : x L S = .nx L1 S1) : endF (sSeq x y L S) = endF (y L1 S1) := by rw [seqNx h]
theorem rdOne_some {sub : Option (Nat → Rd Val)} {b : Int} (hr : r[p]? = some b) : rdOne sub r p = if 6 < b then .bad p else if b = 6 then (match sub with
      | none => .bad p
      | some f => rdT f r (p + 1)) else if b = 0 then .ok .non (p + 1) else if b = 1 then .ok (.bl false) (p + 1) else if b = 2 then .ok (.bl true) (p + 1)
      else if b = 5 then rdS r (p + 1) else if b = 3 then rdI (fun k => (k : Int)) r (p + 1) else rdI (fun k => -1 - (k : Int)) r (p + 1) := by unfold rdOne; rw [hr] <;> rfl
theorem endF_ret (q : R Val) (L : Loc) : endF (thenF L q fun v S1 => .rt v S1) = q := by cases q <;> rfl
theorem endF_retK (q : R Val) (L : Loc) (k : Loc → Store → F) : endF ((thenF L q fun v S1 => .rt v S1).andThen k) = q := by cases q <;> rfl
theorem one_eq {fu n : Nat} {sub : Option (Nat → Rd Val)} (hbs : Bys r) (hz : r.length < 50000) (h : sg S a = some (rdr r p)) (hp : p ≤ r.length) (h0 : sub = none → n = 0)
    (h1 : ∀ f, sub = some f → ∃ k, n = k + 1 ∧ ∀ T p, sg T a = some (rdr r p) → p ≤ r.length → Told a r T (fun v : Val => v) (m_RowReader_read_several (m_RowReader_read_parcel fu) [.ref a, .int k] T) (rdT f r p))
    (hb : ∀ v q, rdOne sub r p = .ok v q → below (sl S) v = true) :
    Told a r S (fun v : Val => v) (m_RowReader_read_parcel (fu + 1) [.ref a, .int n] S) (rdOne sub r p) := by
  rw [m_RowReader_read_parcel_succ]
  have e1 := rdr_at h
  suffices w : Told a r S (fun v : Val => v) (fDef 4 2 _ [.ref a, .int n] S) (rdOne sub r p) by
    rw [fG_app, told_end w hb]
    exact w
  have en : ∀ x : MS, fDef 4 2 x [.ref a, .int n] S = endF (x [some (.ref a), some (.int n), none, none] S) := fun x => by
    rw [fDef_app, bite_pos (by rfl)]
    rfl
  rw [en]
  cases hr : r[p]? with
  | none =>
    have : p = r.length := by
      have := List.getElem?_eq_none_iff.mp hr
      omega
    have e2 := next_meth_end (L := [some (.ref a), some (.int n), some (.int p), none]) rfl h this
    have er : rdOne sub r p = .bad p := by unfold rdOne; rw [hr]
    rw [er]
    refine ⟨p, ?_⟩
    rw [ss_id h]
    simp (maxDischargeDepth := 12) [e1, e2, -getF_ref, -mMeth_app]
  | some b =>
    have lt := (List.getElem?_eq_some_iff.mp hr).1
    have b0 := hbs b (List.mem_of_getElem? hr)
    have e2 := next_meth_one (L := [some (.ref a), some (.int n), some (.int p), none]) rfl h hr
    have h' := rdr_set h (p + 1)
    obtain ⟨T, hT⟩ : ∃ T, T = ss S a (rdr r (p + 1)) := ⟨_, rfl⟩
    have h'' : sg T a = some (rdr r (p + 1)) := by rw [hT]; exact h'
    have L3 : Loc := [some (.ref a), some (.int n), some (.int p), some (.int b)]
    have E1 : sAsg (m1 (getF "RowReader" "at") (mV 0)) (gN 2) [some (.ref a), some (.int n), none, none] S = .nx [some (.ref a), some (.int n), some (.int p), none] S := by
      simp (maxDischargeDepth := 12) [e1, -getF_ref]
    have E2 : sAsg (mMeth "RowReader" "next_byte" KR.m_RowReader_next_byte (mV 0) aNil) (gN 3) [some (.ref a), some (.int n), some (.int p), none] S = .nx [some (.ref a), some (.int n), some (.int p), some (.int b)] T := by
      rw [hT]
      simp (maxDischargeDepth := 12) [e2, -mMeth_app]
    rw [seqNx E1, seqNx E2]
    have ts : ∀ (q : R Val) (x : Rd Val), Told a r T (fun v : Val => v) q x → Told a r S (fun v : Val => v) q x := fun q x w => by rw [hT] at w; exact told_trans w
    rw [rdOne_some hr]
    apply ts
    clear ts hb
    by_cases c6 : 6 < b
    · rw [if_pos c6]
      refine ⟨p + 1, ?_⟩
      unfold badE
      rw [ss_id h'']
      simp (maxDischargeDepth := 12) [c6]
    rw [if_neg c6]
    by_cases d6 : b = 6
    · rw [if_pos d6]
      subst d6
      cases sub with
      | none =>
        have := h0 rfl
        subst this
        refine ⟨p + 1, ?_⟩
        unfold badE
        rw [ss_id h'']
        simp (maxDischargeDepth := 12) [pEq_int]
      | some f =>
        obtain ⟨k, rfl, hk⟩ := h1 f rfl
        have w := hk T (p + 1) h'' lt
        have em := several_meth (L := [some (.ref a), some (.int ((k + 1 : Nat) : Int)), some (.int p), some (.int 6)]) (mf := m_RowReader_read_parcel fu) rfl rfl h''
        have nk : ¬ ((k : Int) + 1 = 0) := by omega
        obtain ⟨q, hq⟩ : ∃ q, q = m_RowReader_read_several (m_RowReader_read_parcel fu) [.ref a, .int k] T := ⟨_, rfl⟩
        rw [← hq] at em w
        dsimp only
        simp only [Int.natCast_succ] at em
        simp (maxDischargeDepth := 12) [pEq_int, nk, in12, em, -mMeth_app]
        first
          | exact w
          | (rw [endF_retK]; exact w)
          | (rw [endF_ret]; exact w)
    rw [if_neg d6]
    by_cases d0 : b = 0
    · rw [if_pos d0]
      subst d0
      refine ⟨?_, lt⟩
      rw [ss_id h'']
      simp (maxDischargeDepth := 12) [pEq_int]
    rw [if_neg d0]
    by_cases d1 : b = 1
    · rw [if_pos d1]
      subst d1
      refine ⟨?_, lt⟩
      rw [ss_id h'']
      simp (maxDischargeDepth := 12) [pEq_int, in12]
    rw [if_neg d1]
    by_cases d2 : b = 2
    · rw [if_pos d2]
      subst d2
      refine ⟨?_, lt⟩
      rw [ss_id h'']
      simp (maxDischargeDepth := 12) [pEq_int, in12]
    rw [if_neg d2]
    by_cases d5 : b = 5
    · rw [if_pos d5]
      subst d5
      have w := read_string_eq hbs h'' lt (by omega)
      have em := string_meth (L := [some (.ref a), some (.int n), some (.int p), some (.int 5)]) rfl h''
      obtain ⟨q, hq⟩ : ∃ q, q = m_RowReader_read_string [.ref a] T := ⟨_, rfl⟩
      rw [← hq] at em w
      simp (maxDischargeDepth := 12) [pEq_int, in12, em, -mMeth_app]
      rw [endF_retK]
      exact w
    rw [if_neg d5]
    have w := read_whole_eq hbs h'' lt (by omega)
    have em := whole_meth (L := [some (.ref a), some (.int n), some (.int p), some (.int b)]) rfl h''
    unfold rdI
    cases q : rdW r (p + 1) with
    | bad q' =>
      rw [q] at w
      obtain ⟨p', w⟩ := w
      rw [w] at em
      unfold badE at em
      by_cases d3 : b = 3
      · rw [if_pos d3]
        subst d3
        refine ⟨p', ?_⟩
        unfold badE
        simp (maxDischargeDepth := 12) [pEq_int, in12, em, -mMeth_app]
      · rw [if_neg d3]
        refine ⟨p', ?_⟩
        unfold badE
        simp (maxDischargeDepth := 12) [pEq_int, in12, em, c6, d6, d0, d1, d2, d5, d3, -mMeth_app]
    | ok k q' =>
      rw [q] at w
      obtain ⟨w, hw⟩ := w
      dsimp only at w
      rw [w] at em
      by_cases d3 : b = 3
      · rw [if_pos d3]
        subst d3
        refine ⟨?_, hw⟩
        simp (maxDischargeDepth := 12) [pEq_int, in12, em, -mMeth_app]
      · rw [if_neg d3]
        refine ⟨?_, hw⟩
        simp (maxDischargeDepth := 12) [pEq_int, in12, em, c6, d6, d0, d1, d2, d5, d3, -mMeth_app]
end
theorem read_parcel_eq {a : Nat} {r : List Int} (hbs : Bys r) (hz : r.length < 50000) : ∀ (n fu : Nat) (S : Store) (p : Nat), n < fu → sg S a = some (rdr r p) → p ≤ r.length → Told a r S (fun v : Val => v) (m_RowReader_read_parcel fu [.ref a, .int n] S) (rdP n r p) := by
  intro n
  induction n with
  | zero =>
    intro fu S p hf h hp
    cases fu with
    | zero => omega
    | succ fu =>
      have hb : ∀ v q, rdP 0 r p = .ok v q → below (sl S) v = true := fun v q e => isP_below (rdP_adv hbs e).2.2
      unfold rdP at hb ⊢
      exact one_eq hbs hz h hp (fun _ => rfl) (fun f e => by cases e) hb
  | succ n ih =>
    intro fu S p hf h hp
    cases fu with
    | zero => omega
    | succ fu =>
      have hb : ∀ v q, rdP (n + 1) r p = .ok v q → below (sl S) v = true := fun v q e => isP_below (rdP_adv hbs e).2.2
      unfold rdP at hb ⊢
      refine one_eq hbs hz h hp (fun e => by cases e) (fun f e => ?_) hb
      cases e
      exact ⟨n, rfl, fun T p hT hp => read_several_eq hbs (fun S p h hp => ih fu S p (by omega) h hp) hT hp hz⟩
end KR

/-! KRj: parcel_of, row_of. -/
namespace KR
open Mp
open PySem (Str)
section
variable {S : Store} {r : List Int}
def byB (b : Int) : Bool := decide (0 ≤ b) && decide (b < 256)
theorem is_row_ints (hz : r.length < 100000) : m_is_row [rowV r] S = .ok (.bl (r.all byB)) S := by
  have el : lcLoop (fun _ => True) [some (rowV r), none] (gN 1) tYes (mAnd (m1 (pIsT "int") (mV 1)) (mAnd (mNot (m1 (pIsT "bool") (mV 1))) (mChain pLe pLt (mC (.int 0)) (mV 1) (mC (.int 256))))) (r.map Val.int) [] S = .ok (r.map fun b => .bl (byB b)) S := by
    refine lc_map' Val.int (fun b => .bl (byB b)) r rfl trivial (by unfold LIM; omega) fun b hb => ?_
    unfold byB
    by_cases h : 0 ≤ b
    · simp [subTy, h]
    · simp [subTy, h]
  unfold rowV at el ⊢
  unfold m_is_row
  simp (maxDischargeDepth := 12) [startL, subTy, el]
theorem bys_all (hb : Bys r) : r.all byB = true := by
  rw [List.all_eq_true]
  intro b h
  obtain ⟨h1, h2⟩ := hb b h
  unfold byB
  simp [h1, h2]
theorem all_bys (h : r.all byB = true) : Bys r := fun b hb => by
  have := List.all_eq_true.mp h b hb
  unfold byB at this
  simpa using this
theorem check_row_ok (hb : Bys r) (hz : r.length < 100000) : m_check_row [rowV r] S = .ok .non S := by
  have e := is_row_ints (S := S) hz
  rw [bys_all hb] at e
  unfold m_check_row
  simp (maxDischargeDepth := 12) [startL, e]
def rdAll (r : List Int) : Rd Val := match rdP 20 r 0 with
  | .bad q => .bad q
  | .ok v q => if q < r.length then .bad q else .ok v q
def tellR (S : Store) : Rd Val → R Val
  | .ok v _ => .ok v S
  | .bad q => .exn (badE q) S
theorem rdAll_bytes {v : Val} (h : isP 20 v = true) : rdAll (bytV 20 v) = .ok v (bytV 20 v).length := by
  have e := rdP_bytes (n := 20) (v := v) (r := bytV 20 v) (s := []) (p := 0) h (by simp)
  unfold rdAll
  rw [e]
  simp
theorem rdAll_back {v : Val} {q : Nat} (hb : Bys r) (h : rdAll r = .ok v q) : isP 20 v = true ∧ bytV 20 v = r := by
  unfold rdAll at h
  cases e : rdP 20 r 0 with
  | bad q' => rw [e] at h; cases h
  | ok w t =>
    rw [e] at h
    dsimp only at h
    split at h
    · cases h
    · cases h
      obtain ⟨h1, h2, h3, h4⟩ := rdP_back hb 20 v 0 q e
      refine ⟨h1, ?_⟩
      have : q = r.length := by omega
      rw [this, List.drop_length, List.append_nil] at h2
      exact h2.symm
theorem parcel_of_eq (hb : Bys r) (hz : r.length < 50000) : m_parcel_of [rowV r] S = tellR S (rdAll r) := by
  have e1 := check_row_ok (S := S) hb (by omega)
  have h0 : sg (sp S (rdr r 0)) (sl S) = some (rdr r 0) := sg_sp_new
  have hm : fMake "RowReader" m_RowReader___init__ [rowV r] S = .ok (.ref (sl S)) (sp S (rdr r 0)) := by
    unfold rdr rowV m_RowReader___init__
    simp (maxDischargeDepth := 12) [startL, setF]
  have w := read_parcel_eq hb hz 20 40 (sp S (rdr r 0)) 0 (by omega) h0 (Nat.zero_le _)
  have em : ∀ L : Loc, L[1]? = some (some (.ref (sl S))) → mMeth "RowReader" "read_parcel" (m_RowReader_read_parcel 40) (mV 1) (aCons (mC (.int 20)) aNil) L (sp S (rdr r 0)) = m_RowReader_read_parcel 40 [.ref (sl S), .int ((20 : Nat) : Int)] (sp S (rdr r 0)) := fun L hL => by
    rw [mMeth_app, mV_app, getL_some hL, R.bind_ok, methX_ref, h0]
    unfold rdr
    simp
  have em' := em [some (rowV r), some (.ref (sl S)), none] rfl
  have e5 := row_len r
  have gc : ∀ q, GcOk S (ss (sp S (rdr r 0)) (sl S) (rdr r q)) ∧ cut (sl S) (ss (sp S (rdr r 0)) (sl S) (rdr r q)) = S := fun q => by
    rw [ss_sp_new]
    exact ⟨gcOk_sp gcOk_refl, by rw [cut_sp (Nat.le_refl _), cut_self]⟩
  unfold rdAll
  cases q : rdP 20 r 0 with
  | bad t =>
    rw [q] at w
    obtain ⟨p', w⟩ := w
    obtain ⟨g1, g2⟩ := gc p'
    rw [w] at em'
    unfold tellR badE at *
    unfold m_parcel_of
    simp (maxDischargeDepth := 12) [startL, e1, hm, em', g1, g2, -mMeth_app, -fMake_app]
  | ok v t =>
    rw [q] at w
    obtain ⟨w, ht⟩ := w
    dsimp only at w
    obtain ⟨g1, g2⟩ := gc t
    rw [w] at em'
    rw [ss_sp_new] at em' g1 g2
    have e7 := rdr_at (S := sp S (rdr r t)) (a := sl S) (r := r) (p := t) sg_sp_new
    have bl := isP_below (k := sl S) (rdP_adv hb q).2.2
    dsimp only
    by_cases c : t < r.length
    · rw [if_pos c]
      have c' : (t : Int) < r.length := by omega
      unfold tellR badE
      unfold m_parcel_of
      simp (maxDischargeDepth := 12) [startL, e1, hm, em', e7, e5, g1, g2, c', -mMeth_app, -fMake_app, -getF_ref]
    · rw [if_neg c]
      have c' : ¬ (t : Int) < r.length := by omega
      unfold tellR
      unfold m_parcel_of
      simp (maxDischargeDepth := 12) [startL, e1, hm, em', e7, e5, g1, g2, c', bl, -mMeth_app, -fMake_app, -getF_ref]
theorem isP_th : ∀ {n : Nat} {v : Val}, isP n v = true → (bytV n v).length < 100000 → th S n v = true
  | n, .non, _, _ => by simp
  | n, .bl b, _, _ => by simp
  | n, .int b, _, _ => by simp
  | n, .str b, h, _ => by
    rw [isP_str] at h
    have := isP_len h
    rw [th_str]
    exact decide_eq_true (by unfold LIM; omega)
  | n, .ref b, h, _ => by rw [isP_ref] at h; cases h
  | n, .fl b, h, _ => by rw [isP_fl] at h; cases h
  | 0, .tup vs, h, _ => by rw [isP_tup0] at h; cases h
  | n + 1, .tup vs, h, hz => by
    rw [isP_tup, List.all_eq_true] at h
    rw [bytV_tup, List.length_cons, List.length_append] at hz
    rw [th_tup, Bool.and_eq_true, decide_eq_true_eq, List.all_eq_true]
    refine ⟨?_, fun v hv => isP_th (h v hv) ?_⟩
    · have : ∀ ws : List Val, (∀ v, v ∈ ws → isP n v = true) → ws.length ≤ ((ws.map (bytV n)).flatten).length := by
        intro ws
        induction ws with
        | nil => intro _; simp
        | cons w ws ih =>
          intro hw
          have := ih fun v hv => hw v (List.mem_cons_of_mem _ hv)
          have := bytV_pos (hw w (by simp))
          rw [List.map_cons, List.flatten_cons, List.length_append, List.length_cons]
          omega
      have := this vs h
      unfold LIM
      omega
    · have := bytes_len_tup (n := n) hv
      omega
theorem row_of_eq {v : Val} (h : isP 20 v = true) (hz : (bytV 20 v).length < 100000) : m_row_of [v] S = .ok (rowV (bytV 20 v)) S := by
  have e1 := is_parcel_eq (isP_th (S := S) h hz)
  rw [h] at e1
  have e2 := bytes_of_eq 20 40 v S (by omega) h hz
  have hb : below (sl S) (rowV (bytV 20 v)) = true := by unfold rowV; simp
  unfold rowV at hb ⊢
  unfold m_row_of
  simp (maxDischargeDepth := 12) [startL, e1, e2]
theorem row_of_not {v : Val} (h : th S 20 v = true) (hn : isP 20 v = false) : m_row_of [v] S = .exn ⟨"NoParcel", []⟩ S := by
  have e1 := is_parcel_eq h
  rw [hn] at e1
  unfold m_row_of
  simp (maxDischargeDepth := 12) [startL, e1]
theorem bytV_bys : ∀ {n : Nat} {v : Val}, isP n v = true → Bys (bytV n v)
  | n, .non, _ => by rw [bytV_non]; exact Bys.cons (by omega) Bys.nil
  | n, .bl b, _ => by rw [bytV_bl]; exact Bys.cons (by cases b <;> simp) Bys.nil
  | n, .int i, _ => by
    rw [bytV_int]
    unfold bytI
    split
    · exact Bys.cons (by omega) (whole_bys _)
    · exact Bys.cons (by omega) (whole_bys _)
  | n, .str s, h => by
    rw [isP_str] at h
    unfold shortS at h
    simp only [Bool.and_eq_true, decide_eq_true_eq, List.all_eq_true] at h
    rw [bytV_str]
    refine Bys.cons (by omega) ((whole_bys _).app fun b hb => ?_)
    obtain ⟨c, hc, rfl⟩ := List.mem_map.mp hb
    have := h.2 c hc
    unfold sgn at this
    simp only [Bool.and_eq_true, decide_eq_true_eq] at this
    omega
  | n, .ref b, h => by rw [isP_ref] at h; cases h
  | n, .fl b, h => by rw [isP_fl] at h; cases h
  | 0, .tup vs, h => by rw [isP_tup0] at h; cases h
  | n + 1, .tup vs, h => by
    rw [isP_tup, List.all_eq_true] at h
    rw [bytV_tup]
    refine Bys.cons (by omega) ((whole_bys _).app fun b hb => ?_)
    obtain ⟨l, hl, hb⟩ := List.mem_flatten.mp hb
    obtain ⟨v, hv, rfl⟩ := List.mem_map.mp hl
    exact bytV_bys (h v hv) b hb
end
end KR

/-! KRk: drawn parcels; equal in kind. -/
namespace KR
open Mp
open PySem (Str)
section
variable {S : Store} {r : List Int}
theorem short_strOk {s : Str} (h : shortS s = true) : PySem.PyData.strOk s = true := by
  unfold shortS at h
  simp only [Bool.and_eq_true, decide_eq_true_eq, List.all_eq_true] at h
  unfold PySem.PyData.strOk
  rw [Array.all_eq_true']
  intro c hc
  have := h.2 c (by simpa using hc)
  unfold sgn at this
  simp only [Bool.and_eq_true, decide_eq_true_eq] at this
  simp
  omega
theorem leaf_refl {n : Nat} {v : Val} (h : isP n v = true) (ht : ∀ vs, v ≠ .tup vs) : pEq v v S = .ok (.bl true) S := by
  refine (pEq_refl (n := 1) ?_ (by omega)).1
  cases v with
  | non => simp
  | bl b => simp
  | int i => simp
  | str s => rw [isP_str] at h; rw [wv_str]; exact short_strOk h
  | tup vs => exact absurd rfl (ht vs)
  | ref i => rw [isP_ref] at h; cases h
  | fl i => rw [isP_fl] at h; cases h
theorem same_leaf {n fu : Nat} {v : Val} (h : isP n v = true) (ht : ∀ vs, v ≠ .tup vs) : m_law_same (fu + 1) [v, v] S = .ok (.bl true) S := by
  have e := leaf_refl (S := S) h ht
  rw [m_law_same_succ]
  cases v with
  | non => simp (maxDischargeDepth := 12) [startL, subTy, e]
  | bl b => simp (maxDischargeDepth := 12) [startL, subTy]
  | int i => simp (maxDischargeDepth := 12) [startL, subTy]
  | str s => simp (maxDischargeDepth := 12) [startL, subTy, e]
  | tup vs => exact absurd rfl (ht vs)
  | ref i => rw [isP_ref] at h; cases h
  | fl i => rw [isP_fl] at h; cases h
theorem zip_self (vs : List Val) : List.zipWith (fun x y => Val.tup [x, y]) vs vs = vs.map fun v => .tup [v, v] := by
  induction vs with
  | nil => rfl
  | cons v r ih => rw [List.zipWith_cons_cons, ih]; rfl
theorem law_same_refl : ∀ (n fu : Nat) (v : Val) (S : Store), n < fu → isP n v = true → (bytV n v).length < 100000 → m_law_same fu [v, v] S = .ok (.bl true) S
  | n, 0, v, S, h, _, _ => by omega
  | 0, fu + 1, v, S, h, hv, _ => same_leaf hv (fun vs e => by subst e; rw [isP_tup0] at hv; cases hv)
  | n + 1, fu + 1, v, S, h, hv, hz => by
    by_cases ht : ∃ vs, v = .tup vs
    · obtain ⟨vs, rfl⟩ := ht
      have hth := isP_th (S := S) hv hz
      rw [th_tup, Bool.and_eq_true, decide_eq_true_eq] at hth
      rw [isP_tup, List.all_eq_true] at hv
      rw [bytV_tup, List.length_cons, List.length_append] at hz
      have ez : zipOf [.tup vs, .tup vs] S = .ok ⟨vs.map fun v => .tup [v, v], fun S' => True ∧ True⟩ S := by
        rw [← zip_self]
        rfl
      have el : lcLoop (fun S' => True ∧ True) [some (.tup vs), some (.tup vs), none, none] (gTup (gsCons (gN 2) (gsCons (gN 3) gsNil))) tYes (mA (m_law_same fu) (aCons (mV 2) (aCons (mV 3) aNil))) (vs.map fun v => .tup [v, v]) [] S = .ok (vs.map fun _ => .bl true) S := by
        refine lc_map' (fun v => .tup [v, v]) (fun _ => .bl true) vs rfl ⟨trivial, trivial⟩ hth.1 fun v hm => ?_
        have e := law_same_refl n fu v S (by omega) (hv v hm) (by have := bytes_len_tup (n := n) hm; omega)
        simp (maxDischargeDepth := 12) [e]
      have eb : Mp.blsO (vs.map fun _ => Val.bl true) = some (vs.map fun _ => true) := by
        have := blsO_map (vs.map fun _ => true)
        rw [List.map_map] at this
        exact this
      have hall : (vs.map fun _ => true).all id = true := by
        rw [List.all_eq_true]
        intro b hb
        obtain ⟨_, _, rfl⟩ := List.mem_map.mp hb
        rfl
      obtain ⟨bs, hbs⟩ : ∃ bs, bs = (vs.map fun _ => true) := ⟨_, rfl⟩
      obtain ⟨bv, hbv⟩ : ∃ bv, bv = (vs.map fun _ => Val.bl true) := ⟨_, rfl⟩
      rw [← hbs] at eb hall
      rw [← hbv] at eb el
      have Gk : GcOk S (sp S (.lst bv)) := gcOk_grow (Grow.sp _ _)
      rw [m_law_same_succ]
      simp (maxDischargeDepth := 12) only [true_and] at ez el
      simp (maxDischargeDepth := 12) [startL, subTy, ez, el, eb, hall, Gk]
    · exact same_leaf hv (fun vs e => ht ⟨vs, e⟩)
end
theorem whole_le : ∀ (k n : Nat), n < 128 ^ (k + 1) → (wholeL n).length ≤ k + 1
  | 0, n, h => by rw [wholeL_low (by omega)]; simp
  | k + 1, n, h => by
    by_cases c : n < 128
    · rw [wholeL_low c]; simp
    · rw [wholeL_high c, List.length_cons]
      have := whole_le k (n / 128) (by
        rw [Nat.pow_succ] at h
        exact Nat.div_lt_of_lt_mul (by omega))
      omega
section
variable {S : Store}
theorem law_number_spec (H : Pool S) : ∃ (i : Int) (T : Store), m_law_number [.ref 1] S = .ok (.int i) T ∧ Dr S T ∧ -1000000000000000000 < i ∧ i < 1000000000000000000 := by
  obtain ⟨k, T1, e1, b1, d1⟩ := draw_nat (k := 7) H (by omega) (by omega)
  have e1' : m_law_draw [.ref 1, .int 7] S = .ok (.int k) T1 := e1
  by_cases c : k < 3
  · have c' : (k : Int) < 3 := by omega
    obtain ⟨v, U, e2, d2, hv⟩ := pickP (S := T1) (T := T1) (L := [some (.ref 1), some (.int k), none, none]) (p := 0) (k := 11) (vs := [.int 0, .int 1, .int (-1), .int 127, .int 128, .int (-128), .int (-129), .int 300, .int 16383, .int 16384, .int (-16385)])
      (a := (aCons (mC (.int 0)) (aCons (mC (.int 1)) (aCons (m1 pNeg (mC (.int 1))) (aCons (mC (.int 127)) (aCons (mC (.int 128)) (aCons (m1 pNeg (mC (.int 128))) (aCons (m1 pNeg (mC (.int 129))) (aCons (mC (.int 300)) (aCons (mC (.int 16383)) (aCons (mC (.int 16384)) (aCons (m1 pNeg (mC (.int 16385))) aNil)))))))))))) d1.pool (Dr.refl d1.pool) (by simp) rfl rfl (by simp) (by simp) (by simp)
    obtain ⟨i, rfl, hi⟩ : ∃ i : Int, v = .int i ∧ -20000 < i ∧ i < 20000 := by
      simp only [List.mem_cons, List.not_mem_nil, or_false] at hv
      rcases hv with rfl | rfl | rfl | rfl | rfl | rfl | rfl | rfl | rfl | rfl | rfl <;> exact ⟨_, rfl, by omega, by omega⟩
    have d := d1.trans d2
    refine ⟨i, U, ?_, d, by omega, by omega⟩
    have g := gcR_drE (v := .int i) d H (by simp)
    unfold m_law_number
    simp (maxDischargeDepth := 12) [startL, e1', c', e2, g, -gcR_ok, -mG_app]
  · have c' : ¬ (k : Int) < 3 := by omega
    obtain ⟨f0, T2, e2, b2, d2⟩ := draw_nat (k := 1000) d1.pool (by omega) (by omega)
    have e2' : m_law_draw [.ref 1, .int 1000] T1 = .ok (.int f0) T2 := e2
    obtain ⟨m, T3, e3, b3, d3⟩ := draw_nat (k := 5) d2.pool (by omega) (by omega)
    have e3' : m_law_draw [.ref 1, .int 5] T2 = .ok (.int m) T3 := e3
    have er : rngOf1 [.int (m : Int)] T3 = .ok ⟨rangeL 0 m, fun _ => True⟩ T3 := rng_nat m rfl (by omega)
    obtain ⟨L', T4, e4, f, x3, rfl, d4, hf⟩ := forLoop_nx (keep := fun _ => True) (g := gN 3) (b := m_law_number_b1)
      (fun i L S' => ∃ (f : Nat), ∃ x3, L = [some (.ref 1), some (.int k), some (.int f), x3] ∧ Dr T3 S' ∧ f < 1000 * 1000 ^ i)
      (xs := rangeL 0 m) (L := [some (.ref 1), some (.int k), some (.int f0), none]) (S := T3) ⟨f0, none, rfl, Dr.refl d3.pool, by omega⟩ (fun _ _ _ _ _ => trivial) (fun i x L S1 hx q => by
        obtain ⟨f, x3, rfl, d, hf⟩ := q
        obtain ⟨g, T5, e5, b5, d5⟩ := draw_nat (k := 1000) d.pool (by omega) (by omega)
        have e5' : m_law_draw [.ref 1, .int 1000] S1 = .ok (.int g) T5 := e5
        refine ⟨[some (.ref 1), some (.int k), some (.int f), some x], S1, [some (.ref 1), some (.int k), some (.int ((f * 1000 + g : Nat) : Int)), none], T5, rfl, .inl ?_, f * 1000 + g, none, rfl, d.trans d5, ?_⟩
        · have cm : cmul (f : Int) 1000 = true := cmul_right (by omega) (by omega)
          unfold m_law_number_b1
          simp (maxDischargeDepth := 12) [e5', cm]
        · rw [Nat.pow_succ]
          omega)
    rw [rangeL_len] at hf
    have hf2 : f < 1000000000000000 := by
      rcases (show m = 0 ∨ m = 1 ∨ m = 2 ∨ m = 3 ∨ m = 4 from by omega) with rfl | rfl | rfl | rfl | rfl <;> omega
    have d := ((d1.trans d2).trans d3).trans d4
    by_cases c6 : k < 6
    · have c6' : (k : Int) < 6 := by omega
      refine ⟨f, T4, ?_, d, by omega, by omega⟩
      have g := gcR_drE (v := .int f) d H (by simp)
      unfold m_law_number
      simp (maxDischargeDepth := 12) [startL, e1', c', c6', e2', e3', er, e4, g, -gcR_ok]
    · have c6' : ¬ (k : Int) < 6 := by omega
      refine ⟨-f, T4, ?_, d, by omega, by omega⟩
      have g := gcR_drE (v := .int (-(f : Int))) d H (by simp)
      unfold m_law_number
      simp (maxDischargeDepth := 12) [startL, e1', c', c6', e2', e3', er, e4, g, -gcR_ok]
end
end KR

/-! KRl: drawn parcels. -/
namespace KR
open Mp
open PySem (Str)
theorem join_signs : ∀ cs : List Nat, Str.join "" (cs.map fun c => (⟨#[c]⟩ : Str)) = ⟨cs.toArray⟩
  | [] => rfl
  | [c] => rfl
  | c :: d :: r => by
    show (⟨#[c]⟩ : Str) ++ ("" : Str) ++ Str.join "" ((d :: r).map fun c => (⟨#[c]⟩ : Str)) = _
    rw [join_signs (d :: r)]
    show Str.mk ((#[c] ++ #[]) ++ (d :: r).toArray) = _
    simp
def PB : Nat → Nat
  | 0 => 22
  | n + 1 => 2 + 4 * PB n
theorem PB_ge (d : Nat) : 22 ≤ PB d := by
  induction d with
  | zero => exact Nat.le_refl _
  | succ d ih => unfold PB; omega
theorem bytI_len {i : Int} (h1 : -1000000000000000000 < i) (h2 : i < 1000000000000000000) : (bytI i).length ≤ 10 := by
  unfold bytI
  have e : (128 : Nat) ^ 9 = 9223372036854775808 := by decide
  split
  · have := whole_le 8 i.toNat (by omega)
    simp
    omega
  · have := whole_le 8 (-1 - i).toNat (by omega)
    simp
    omega
section
variable {S : Store}
abbrev ZS : Str := " ~a0Zb'"
theorem ZS_ix : ∀ r : Fin 7, ∃ c : Fin 128, ZS.cps.toList[r.val]? = some c.val ∧ sgn (c.val : Int) = true := by decide +kernel
theorem zs_sign {r : Nat} (h : r < 7) (S : Store) : ∃ c : Nat, pIx (.str ZS) (.int r) S = .ok (.str ⟨#[c]⟩) S ∧ sgn (c : Int) = true := by
  obtain ⟨c, e, hs⟩ := ZS_ix ⟨r, h⟩
  refine ⟨c.val, ?_, hs⟩
  have e1 : L2.atI ZS.cps.toList (r : Int) = some c.val := by rw [atI_nat]; exact e
  unfold pIx
  simp only [e1]
  rw [bite_pos]
  decide +kernel
theorem law_string_spec {L : Loc} {m : Nat} (H : Pool S) (h0 : L[0]? = some (some (.ref 1))) (h3 : L[3]? = some (some (.int m))) (h4 : 4 < L.length) (hm1 : 1 ≤ m) (hm : m ≤ 20) :
    ∃ (s : Str) (T : Store), mG (mBM "str" fJoin (mC (.str "")) (aCons (mLc (iRng1 (aCons (mV 3) aNil)) [4] (gN 4) tYes (m2 pIx (mC (.str ZS)) (mA m_law_draw (aCons (mV 0) (aCons (mC (.int 7)) aNil))))) aNil)) L S = .ok (.str s) T ∧ Dr S T ∧ shortS s = true := by
  have er : rngOf1 [.int (m : Int)] S = .ok ⟨rangeL 0 m, fun _ => True⟩ S := rng_nat m rfl (by omega)
  obtain ⟨cs, T, e, d, hl, hc⟩ := lc_pool (L := wipeL L [4]) (v := 4) (e := (m2 pIx (mC (.str ZS)) (mA m_law_draw (aCons (mV 0) (aCons (mC (.int 7)) aNil))))) (fun c : Nat => .str ⟨#[c]⟩) (fun c => sgn (c : Int) = true) (xs := rangeL 0 m) H (by rw [rangeL_len]; omega) (fun x T hx d => by
    obtain ⟨r, U, e1, b1, d1⟩ := draw_nat (k := 7) d.pool (by omega) (by omega)
    have e1' : m_law_draw [.ref 1, .int 7] T = .ok (.int r) U := e1
    obtain ⟨c, e2, hs⟩ := zs_sign b1 U
    refine ⟨c, U, ?_, d1, hs⟩
    have hg : ((wipeL L [4]).set 4 (some x))[0]? = some (some (.ref 1)) := by
      rw [List.getElem?_set_ne (by omega)]
      show (L.set 4 none)[0]? = _
      rw [List.getElem?_set_ne (by omega), h0]
    simp (maxDischargeDepth := 12) [getL_some hg, e1', e2, -wipeL_cons])
  rw [rangeL_len] at hl
  have hj : fJoin (.str "") [.ref (sl T)] (sp T (.lst (cs.map fun c : Nat => .str ⟨#[c]⟩))) = .ok (.str ⟨cs.toArray⟩) (sp T (.lst (cs.map fun c : Nat => .str ⟨#[c]⟩))) := by
    have em : (cs.map fun c : Nat => Val.str ⟨#[c]⟩) = (cs.map fun c => (⟨#[c]⟩ : Str)).map Val.str := by rw [List.map_map]; rfl
    rw [fJoin_app, sg_sp_new, em, joinR_lst, join_signs, bite_pos]
    have e0 : ("" : Str).length = 0 := rfl
    have el : ((cs.map fun c => (⟨#[c]⟩ : Str)).map (·.length)) = cs.map fun _ => 1 := by rw [List.map_map]; rfl
    have es : ∀ l : List Nat, (l.map fun _ => 1).sum = l.length := by
      intro l
      induction l with
      | nil => rfl
      | cons a r ih => rw [List.map_cons, List.sum_cons, ih, List.length_cons]; omega
    rw [el, es, e0]
    simp
    omega
  obtain ⟨U, eU, dU⟩ := gcR_dr (v := .str ⟨cs.toArray⟩) (d.g.trans (DrG.sp d.pool (.lst (cs.map fun c : Nat => .str ⟨#[c]⟩)))) H (by simp)
  refine ⟨⟨cs.toArray⟩, U, ?_, dU, ?_⟩
  · have ey : isTy "str" (.str "") S = true := rfl
    rw [← eU]
    simp (maxDischargeDepth := 12) [getL_some h3, er, e, hj, -gcR_ok, -wipeL_cons, -fJoin_app]
  · unfold shortS
    have l : (⟨cs.toArray⟩ : Str).length = cs.length := by show cs.toArray.size = _; simp
    rw [l, hl]
    simp only [Bool.and_eq_true, decide_eq_true_eq, List.all_eq_true]
    exact ⟨⟨hm1, hm⟩, hc⟩
theorem law_parcel_spec : ∀ (d fu : Nat) (S : Store), d < fu → Pool S → ∃ (v : Val) (T : Store), m_law_parcel fu [.ref 1, .int d] S = .ok v T ∧ Dr S T ∧ isP d v = true ∧ (bytV d v).length ≤ PB d
  | d, 0, S, h, _ => by omega
  | d, fu + 1, S, h, H => by
    obtain ⟨k, T1, e1, b1, d1⟩ := draw_nat (k := 10) H (by omega) (by omega)
    have e1' : m_law_draw [.ref 1, .int 10] S = .ok (.int k) T1 := e1
    have pb := PB_ge d
    rw [m_law_parcel_succ]
    have E1 : sAsg (mA m_law_draw (aCons (mV 0) (aCons (mC (.int 10)) aNil))) (gN 2) [some (.ref 1), some (.int d), none, none, none, none] S = .nx [some (.ref 1), some (.int d), some (.int k), none, none, none] T1 := by
      simp (maxDischargeDepth := 12) [e1']
    have fin : ∀ (X : MS) (v : Val) (T : Store), Dr S T → below (sl S) v = true → X [some (.ref 1), some (.int d), some (.int k), none, none, none] T1 = .rt v T → fG (fDef 6 2 (sSeq (sAsg (mA m_law_draw (aCons (mV 0) (aCons (mC (.int 10)) aNil))) (gN 2)) X)) [.ref 1, .int d] S = .ok v T := fun X v T dT hv hX => by
      rw [fG_app, fDef_app, bite_pos (by rfl)]
      show gcR S (endF (sSeq _ _ [some (.ref 1), some (.int d), none, none, none, none] S)) = _
      rw [seqNx E1, hX, endF_rt, gcR_drE dT H hv]
    by_cases c3 : k < 3
    · have c3' : (k : Int) < 3 := by omega
      have Gk : GcOk T1 (sp T1 (.lst [.non, .bl true, .bl false])) := gcOk_grow (Grow.sp _ _)
      have q : ∀ v, below (sl T1) v = true → gcR T1 (.ok v (sp T1 (.lst [.non, .bl true, .bl false]))) = .ok v T1 := fun v hv => by
        rw [gcR_ok, gate_pos Gk, gcV_low hv, cut_sp (Nat.le_refl _), cut_self]
      rcases (show k = 0 ∨ k = 1 ∨ k = 2 from by omega) with rfl | rfl | rfl
      · exact ⟨.non, T1, fin _ _ _ d1 (by simp) (by simp (maxDischargeDepth := 12) [q, -gcR_ok]), d1, by simp, by simp; omega⟩
      · exact ⟨.bl true, T1, fin _ _ _ d1 (by simp) (by simp (maxDischargeDepth := 12) [q, -gcR_ok]), d1, by simp, by simp; omega⟩
      · exact ⟨.bl false, T1, fin _ _ _ d1 (by simp) (by simp (maxDischargeDepth := 12) [q, -gcR_ok]), d1, by simp, by simp; omega⟩
    have c3' : ¬ (k : Int) < 3 := by omega
    have I3 : ∀ a : MS, sIf (tV (m2 pLt (mV 2) (mC (.int 3)))) a sNx [some (.ref 1), some (.int d), some (.int k), none, none, none] T1 = .nx [some (.ref 1), some (.int d), some (.int k), none, none, none] T1 := fun a => by
      simp (maxDischargeDepth := 12) [c3']
    by_cases c5 : k < 5
    · have c5' : (k : Int) < 5 := by omega
      obtain ⟨i, T2, e2, d2, b2, b3⟩ := law_number_spec d1.pool
      have dd := d1.trans d2
      refine ⟨.int i, T2, fin _ _ _ dd (by simp) ?_, dd, by simp, ?_⟩
      · rw [seqNx (I3 _)]
        simp (maxDischargeDepth := 12) [c5', e2]
      rw [bytV_int]
      have := bytI_len b2 b3
      omega
    have c5' : ¬ (k : Int) < 5 := by omega
    have I5 : ∀ a : MS, sIf (tV (m2 pLt (mV 2) (mC (.int 5)))) a sNx [some (.ref 1), some (.int d), some (.int k), none, none, none] T1 = .nx [some (.ref 1), some (.int d), some (.int k), none, none, none] T1 := fun a => by
      simp (maxDischargeDepth := 12) [c5']
    by_cases c7 : k < 7
    · have c7' : (k : Int) < 7 := by omega
      obtain ⟨m, T3, em, d3, hm1, hm2⟩ : ∃ (m : Nat) (T3 : Store), (sAsg (mIf (tV (m2 pEq (mA m_law_draw (aCons (mV 0) (aCons (mC (.int 8)) aNil))) (mC (.int 0)))) (mC (.int 20)) (m2 pAdd (mC (.int 1)) (mA m_law_draw (aCons (mV 0) (aCons (mC (.int 6)) aNil))))) (gN 3)) [some (.ref 1), some (.int d), some (.int k), none, none, none] T1 = .nx [some (.ref 1), some (.int d), some (.int k), some (.int m), none, none] T3 ∧ Dr T1 T3 ∧ 1 ≤ m ∧ m ≤ 20 := by
        obtain ⟨z, T2, e2, b2, d2⟩ := draw_nat (k := 8) d1.pool (by omega) (by omega)
        have e2' : m_law_draw [.ref 1, .int 8] T1 = .ok (.int z) T2 := e2
        by_cases hz : z = 0
        · subst hz
          have e2'' : m_law_draw [.ref 1, .int 8] T1 = .ok (.int 0) T2 := e2'
          exact ⟨20, T2, by simp (maxDischargeDepth := 12) [e2'', pEq_int], d2, by omega, by omega⟩
        · have hz' : ¬ (z : Int) = 0 := by omega
          obtain ⟨y, T3, e3, b3, d3⟩ := draw_nat (k := 6) d2.pool (by omega) (by omega)
          have e3' : m_law_draw [.ref 1, .int 6] T2 = .ok (.int y) T3 := e3
          exact ⟨1 + y, T3, by simp (maxDischargeDepth := 12) [e2', e3', hz, pEq_int], d2.trans d3, by omega, by omega⟩
      obtain ⟨s, T4, e4, d4, hs⟩ := law_string_spec (L := [some (.ref 1), some (.int d), some (.int k), some (.int m), none, none]) d3.pool rfl rfl (by simp) hm1 hm2
      have dd := (d1.trans d3).trans d4
      have hl := isP_len hs
      have I7 : ∀ a : MS, sIf (tV (m2 pLt (mV 2) (mC (.int 7)))) a sNx [some (.ref 1), some (.int d), some (.int k), none, none, none] T1 = a [some (.ref 1), some (.int d), some (.int k), none, none, none] T1 := fun a => by
        simp (maxDischargeDepth := 12) [c7']
      refine ⟨.str s, T4, fin _ _ _ dd (by simp) ?_, dd, by rw [isP_str]; exact hs, ?_⟩
      · rw [seqNx (I3 _), seqNx (I5 _), seqRt]
        rw [I7, seqNx em, sRet_app, e4, thenF_ok]
      · rw [bytV_str, List.length_cons, List.length_append, codes_len]
        have : (wholeL s.length).length = 1 := by rw [wholeL_low (by omega)]; rfl
        omega
    have c7' : ¬ (k : Int) < 7 := by omega
    have I7 : ∀ a : MS, sIf (tV (m2 pLt (mV 2) (mC (.int 7)))) a sNx [some (.ref 1), some (.int d), some (.int k), none, none, none] T1 = .nx [some (.ref 1), some (.int d), some (.int k), none, none, none] T1 := fun a => by
      simp (maxDischargeDepth := 12) [c7']
    cases d with
    | zero =>
      refine ⟨.int 7, T1, fin _ _ _ d1 (by simp) ?_, d1, by simp, by rw [bytV_int]; have := bytI_len (i := 7) (by omega) (by omega); omega⟩
      rw [seqNx (I3 _), seqNx (I5 _), seqNx (I7 _)]
      simp (maxDischargeDepth := 12) [pEq_int]
    | succ d =>
      obtain ⟨m, T2, e2, b2, d2⟩ := draw_nat (k := 5) d1.pool (by omega) (by omega)
      have e2' : m_law_draw [.ref 1, .int 5] T1 = .ok (.int m) T2 := e2
      have er : rngOf1 [.int (m : Int)] T2 = .ok ⟨rangeL 0 m, fun _ => True⟩ T2 := rng_nat m rfl (by omega)
      have nd : ((d + 1 : Nat) : Int) - 1 = d := by omega
      have nz : ¬ (((d + 1 : Nat) : Int) = 0) := by omega
      obtain ⟨x, hx⟩ : ∃ x : Int, x = ((d + 1 : Nat) : Int) := ⟨_, rfl⟩
      rw [← hx] at nd nz fin I3 I5 I7 ⊢
      obtain ⟨vs, T3, e3, d3, hl, hv⟩ := lc_pool (L := [some (.ref 1), some (.int x), some (.int k), none, none, none]) (v := 5) (e := (mA (m_law_parcel fu) (aCons (mV 0) (aCons (m2 pSub (mV 1) (mC (.int 1))) aNil)))) (fun v : Val => v) (fun v => isP d v = true ∧ (bytV d v).length ≤ PB d) (xs := rangeL 0 m) d2.pool (by rw [rangeL_len]; omega) (fun x T hx dT => by
        obtain ⟨v, U, e, dU, h1, h2⟩ := law_parcel_spec d fu T (by omega) dT.pool
        exact ⟨v, U, by simp (maxDischargeDepth := 12) [nd, e], dU, h1, h2⟩)
      rw [rangeL_len] at hl
      rw [List.map_id'] at e3
      have hb : ∀ n, belows n vs = true := fun n => by
        rw [belows_all, List.all_eq_true]
        exact fun v hm => isP_below (hv v hm).1
      obtain ⟨U, eU, dU⟩ := gcR_dr (v := .tup vs) (d2.g.trans (d3.g.trans (DrG.sp d3.pool (.lst vs)))) d1.pool (by rw [below_tup]; exact hb _)
      have dd := d1.trans dU
      refine ⟨.tup vs, U, fin _ _ _ dd (by rw [below_tup]; exact hb _) ?_, dd, ?_, ?_⟩
      · rw [seqNx (I3 _), seqNx (I5 _), seqNx (I7 _)]
        simp (maxDischargeDepth := 12) [pEq_int, nz, e2', er, e3, eU, -gcR_ok]
      · rw [isP_tup, List.all_eq_true]
        exact fun v hm => (hv v hm).1
      · rw [bytV_tup, List.length_cons, List.length_append]
        have hw : (wholeL vs.length).length = 1 := by rw [wholeL_low (by omega)]; rfl
        have : ∀ ws : List Val, (∀ v, v ∈ ws → (bytV d v).length ≤ PB d) → ((ws.map (bytV d)).flatten).length ≤ ws.length * PB d := by
          intro ws
          induction ws with
          | nil => intro _; simp
          | cons w r ih =>
            intro hw
            have h1 := ih fun v hv => hw v (List.mem_cons_of_mem _ hv)
            have h2 := hw w (by simp)
            rw [List.map_cons, List.flatten_cons, List.length_append, List.length_cons, Nat.succ_mul]
            omega
        have h1 := this vs fun v hm => (hv v hm).2
        have h2 : vs.length * PB d ≤ 4 * PB d := Nat.mul_le_mul_right _ (by omega)
        show _ ≤ 2 + 4 * PB d
        omega
end
end KR

/-! KRm: marks and seals. -/
namespace KR
open Mp
open PySem (Str)
def MD : Int := 2305843009213693951
def markP (r : List Int) : Int := r.foldl (fun f b => (f * 1000003 + b + 1) % MD) 1
def sealP (r : List Int) : List Int := [markP r % 256, markP r / 256 % 256, markP r / 256 / 256 % 256, markP r / 256 / 256 / 256 % 256]
section
variable {S : Store} {r : List Int}
theorem raw_mark_eq : m_raw_mark [rowV r] S = .ok (.int (markP r)) S := by
  have el := for_fold' (keep := fun _ => True) (g := gN 2) (b := m_raw_mark_b1) Val.int (fun f : Int => [some (rowV r), some (.int f), none]) (fun _ => S) (fun _ => True) (fun f b => (f * 1000003 + b + 1) % MD) r 1 (xs := r.map Val.int) (L0 := [some (rowV r), some (.int 1), none]) (S0 := S) rfl rfl rfl trivial (fun _ _ => trivial) (fun f b hb _ => by
    have c : cmul f 1000003 = true := cmul_right (by decide) (by decide)
    refine ⟨.inl ?_, trivial⟩
    unfold m_raw_mark_b1 MD
    simp (maxDischargeDepth := 12) [c])
  unfold markP
  unfold rowV at el ⊢
  unfold m_raw_mark
  simp (maxDischargeDepth := 12) [startL, el]
theorem seal_of_eq : m_seal_of [rowV r] S = .ok (rowV (sealP r)) S := by
  have e := raw_mark_eq (S := S) (r := r)
  have er : rngOf1 [.int 4] (sp S (.lst [])) = .ok ⟨rangeL 0 4, fun _ => True⟩ (sp S (.lst [])) := rng_nat 4 rfl (by omega)
  obtain ⟨x, hx⟩ : ∃ x, x = markP r := ⟨_, rfl⟩
  have turn : ∀ (y : Int) (vs : List Val) (i : Val), vs.length < 100 → forOne (gN 3) m_seal_of_b1 i [some (rowV r), some (.int y), some (.ref (sl S)), none] (sp S (.lst vs)) = .nx [some (rowV r), some (.int (y / 256)), some (.ref (sl S)), none] (sp S (.lst (vs ++ [.int (y % 256)]))) := fun y vs i hz => by
    have hl : vs.length < 16777216 := by omega
    unfold m_seal_of_b1
    simp (maxDischargeDepth := 12) [hl]
  have el : forLoop (fun _ => True) (gN 3) m_seal_of_b1 (rangeL 0 4) [some (rowV r), some (.int x), some (.ref (sl S)), none] (sp S (.lst [])) = .nx [some (rowV r), some (.int (x / 256 / 256 / 256 / 256)), some (.ref (sl S)), none] (sp S (.lst ((sealP r).map Val.int))) := by
    have er : rangeL 0 4 = [.int 0, .int 1, .int 2, .int 3] := rfl
    rw [er, forLoop_cons, gate_pos trivial, turn _ _ _ (by simp), turn_nx, forLoop_cons, gate_pos trivial, turn _ _ _ (by simp), turn_nx, forLoop_cons, gate_pos trivial, turn _ _ _ (by simp), turn_nx, forLoop_cons, gate_pos trivial, turn _ _ _ (by simp), turn_nx, forLoop_nil, gate_pos trivial]
    unfold sealP
    rw [← hx]
    rfl
  rw [← hx] at e
  have hb : belows (sl S) ((sealP r).map Val.int) = true := belows_ints _
  obtain ⟨vs, hvs⟩ : ∃ vs, vs = (sealP r).map Val.int := ⟨_, rfl⟩
  have eg : rowV (sealP r) = .tup vs := by rw [hvs]; rfl
  rw [eg]
  rw [← hvs] at el hb
  have Gk : GcOk S (sp S (.lst vs)) := gcOk_grow (Grow.sp _ _)
  unfold m_seal_of
  simp (maxDischargeDepth := 12) [startL, e, er, el, hb, Gk]
theorem sealed_eq {v : Val} (h : isP 20 v = true) (hz : (bytV 20 v).length < 100000) : m_sealed [v] S = .ok (rowV (bytV 20 v ++ sealP (bytV 20 v))) S := by
  have e1 := row_of_eq (S := S) h hz
  have e2 := seal_of_eq (S := S) (r := bytV 20 v)
  obtain ⟨b, hb⟩ : ∃ b, b = bytV 20 v := ⟨_, rfl⟩
  rw [← hb] at e1 e2 hz ⊢
  have ea : pAdd (rowV b) (rowV (sealP b)) S = .ok (rowV (b ++ sealP b)) S := by
    have : (b.map Val.int).length + ((sealP b).map Val.int).length ≤ LIM := by
      unfold sealP LIM
      simp
      omega
    unfold rowV
    rw [pAdd_tup, bite_pos (decide_eq_true this), List.map_append]
  have hbl : ∀ r, below (sl S) (rowV r) = true := fun r => by unfold rowV; simp
  unfold m_sealed
  simp (maxDischargeDepth := 12) [startL, e1, e2, ea, hbl]
theorem sealed_not {v : Val} (h : th S 20 v = true) (hn : isP 20 v = false) : m_sealed [v] S = .exn ⟨"NoParcel", []⟩ S := by
  have e1 := row_of_not h hn
  unfold m_sealed
  simp (maxDischargeDepth := 12) [startL, e1]
theorem mark_eq (hb : Bys r) (hz : r.length < 100000) : m_mark [rowV r] S = .ok (.int (markP r)) S := by
  have e1 := check_row_ok (S := S) hb hz
  have e2 := raw_mark_eq (S := S) (r := r)
  unfold m_mark
  simp (maxDischargeDepth := 12) [startL, e1, e2]
end
end KR

/-! KRn: tuples within tuples. -/
namespace KR
open Mp
open PySem (Str)
theorem isP_mono : ∀ {n m : Nat} {v : Val}, isP n v = true → n ≤ m → isP m v = true ∧ bytV m v = bytV n v
  | n, m, .non, _, _ => by simp
  | n, m, .bl b, _, _ => by simp
  | n, m, .int b, _, _ => by simp
  | n, m, .str b, h, _ => by rw [isP_str] at h ⊢; simp [h]
  | n, m, .ref b, h, _ => by rw [isP_ref] at h; cases h
  | n, m, .fl b, h, _ => by rw [isP_fl] at h; cases h
  | 0, m, .tup vs, h, _ => by rw [isP_tup0] at h; cases h
  | n + 1, 0, .tup vs, h, q => by omega
  | n + 1, m + 1, .tup vs, h, q => by
    rw [isP_tup, List.all_eq_true] at h
    have ih : ∀ v, v ∈ vs → isP m v = true ∧ bytV m v = bytV n v := fun v hv => isP_mono (h v hv) (by omega)
    refine ⟨?_, ?_⟩
    · rw [isP_tup, List.all_eq_true]
      exact fun v hv => (ih v hv).1
    · rw [bytV_tup, bytV_tup]
      congr 3
      exact List.map_congr_left fun v hv => (ih v hv).2
theorem isP_leaf {n : Nat} {v : Val} (h : isP n v = true) (ht : ∀ vs, v ≠ .tup vs) : isP 0 v = true ∧ bytV 0 v = bytV n v := by
  cases v with
  | non => simp
  | bl b => simp
  | int i => simp
  | str s => rw [isP_str] at h ⊢; simp [h]
  | tup vs => exact absurd rfl (ht vs)
  | ref i => rw [isP_ref] at h; cases h
  | fl i => rw [isP_fl] at h; cases h
def nestV : Nat → Val → Val
  | 0, v => v
  | k + 1, v => .tup [nestV k v]
theorem nest_below {m : Nat} {v : Val} (h : below m v = true) : ∀ k, below m (nestV k v) = true
  | 0 => h
  | k + 1 => by
    unfold nestV
    simp [nest_below h k]
theorem nest_isP {n : Nat} {v : Val} (h : isP n v = true) : ∀ k, isP (n + k) (nestV k v) = true ∧ (bytV (n + k) (nestV k v)).length = (bytV n v).length + 2 * k
  | 0 => ⟨h, rfl⟩
  | k + 1 => by
    obtain ⟨h1, h2⟩ := nest_isP h k
    unfold nestV
    rw [← Nat.add_assoc]
    refine ⟨by rw [isP_tup]; simp [h1], ?_⟩
    rw [bytV_tup]
    have : (wholeL [nestV k v].length).length = 1 := by rw [wholeL_low (by simp)]; rfl
    rw [List.length_cons, List.length_append, this]
    simp [h2]
    omega
theorem nest_back {v : Val} : ∀ (k n : Nat), isP n (nestV k v) = true → ∃ m, n = m + k ∧ isP m v = true
  | 0, n, h => ⟨n, rfl, h⟩
  | k + 1, 0, h => by
    unfold nestV at h
    rw [isP_tup0] at h
    cases h
  | k + 1, n + 1, h => by
    unfold nestV at h
    rw [isP_tup] at h
    simp only [List.all_cons, List.all_nil, Bool.and_true] at h
    obtain ⟨m, h1, h2⟩ := nest_back k n h
    exact ⟨m, by omega, h2⟩
end KR

/-! MpZ4: xs[::-1] of a tuple; repr of a whole number. -/
namespace L2
open PySem PySem.Spec PyProof.Rows
theorem sliceApplied_rev {prog : Program} {w : World} {A : Around} {E : Value → Shared → Prop} {s : Shared} {sl : Addr} {vs : Value} {n : Nat} {Q : Int × Int × Nat → Shared → Prop}
    (h : s.heap.IsSliceOf sl Value.none Value.none vs) (hs : IsPart vs (some (-1))) (q : Q ((n : Int) - 1, -1, n) s) : wpAny (model prog w) A (Builtin.Slice.sliceApplied (Value.ref sl) (pure (n : Int))) Q E s := by
  obtain ⟨o, h1, h2, h3⟩ := h
  unfold Builtin.Slice.sliceApplied Builtin.Slice.sliceFields
  refine wpAny_bind (wpAny_bind (wpAny_field h1 h3 rfl (wpAny_bind (wpAny_field h1 h3 rfl (wpAny_bind (wpAny_field h1 h3 rfl (wpAny_pure ?_)))))))
  refine wpAny_bind (HT.slicePart_ hs ?_)
  rw [if_neg (by decide)]
  refine wpAny_bind (slicePart_none ?_)
  refine wpAny_bind (slicePart_none ?_)
  refine wpAny_bind (wpAny_pure ?_)
  have e : Builtin.Slice.sliceAdjust none none (-1) (n : Int) = ((n : Int) - 1, -1) := by
    unfold Builtin.Slice.sliceAdjust
    rfl
  have e2 : Builtin.Slice.slicePlaces ((n : Int) - 1) (-1) (-1) = n := by
    unfold Builtin.Slice.slicePlaces
    rw [if_neg (by decide)]
    by_cases z : (n : Int) - 1 > -1
    · rw [if_pos z]
      have : ((n : Int) - 1 - -1 - 1) / - -1 + 1 = n := by
        rw [show -(-1 : Int) = 1 from rfl, Int.ediv_one]
        omega
      rw [this, Int.toNat_natCast]
    · rw [if_neg z]
      omega
  refine wpAny_pure ?_
  show Q ((n : Int) - 1, -1, Builtin.Slice.slicePlaces ((n : Int) - 1) (-1) (-1)) s
  rw [e2]
  exact q
theorem pick_rev (xs : Array Value) : (List.filterMap (fun m : Nat => xs[((xs.size : Int) - 1 + (m : Int) * (-1)).toNat]?) (List.range xs.size)).toArray = xs.toList.reverse.toArray := by
  rw [← W.krv_pick]
  unfold slicePick
  congr 1
  have e : sliceBounds none none (some (-1)) xs.size = ((xs.size : Int) - 1, -1, -1) := rfl
  rw [e]
  unfold sliceRange
  dsimp only
  rw [if_neg (by decide)]
  have ec : (if (xs.size : Int) - 1 > -1 then ((xs.size : Int) - 1 - -1 - -1 - 1) / - -1 else 0).toNat = xs.size := by
    by_cases z : (xs.size : Int) - 1 > -1
    · rw [if_pos z, show -(-1 : Int) = 1 from rfl, Int.ediv_one]
      omega
    · rw [if_neg z]
      omega
  rw [ec, List.filterMap_map]
  congr 1
  funext m
  show xs[((xs.size : Int) - 1 + (m : Int) * (-1)).toNat]? = xs[((xs.size : Int) - 1 + -1 * (m : Int)).toNat]?
  congr 2
  omega
theorem getItem_tuple_rev {prog : Program} {w : World} {A : Around} {E : Value → Shared → Prop} {s : Shared} {t sl : Addr} {items : Array Value} {vs : Value} {Q : Value → Shared → Prop}
    (ht : IsTup s.heap t items) (hsl : s.heap.IsSliceOf sl Value.none Value.none vs) (hs : IsPart vs (some (-1)))
    (q : Q (Value.ref s.heap.objs.size) { s with heap := s.heap.push { cls := Value.type "tuple", data := Data.seq items.toList.reverse.toArray } }) (hz : items.size ≤ sizeLine) : wpAny (model prog w) A (getItem (Value.ref t) (Value.ref sl)) Q E s := by
  unfold getItem
  have tyS : s.TypeIs (Value.ref sl) "slice" := by
    obtain ⟨o, h1, h2, h3⟩ := hsl
    exact ⟨o, h1, h2⟩
  refine wpAny_holding (wpAny_bind (wpAny_sequenceKey ht.typeIs (by decide) ?_))
  refine wpAny_bind (wpAny_callSpecial?_slot ht.typeIs slot_tuple_getitem ?_)
  refine wpAny_call_entry slot_tuple_getitem ht.typeIs entry_tuple_getitem ?_ (by first | exact args_tuple_getitem _ | exact args_tuple_getitem _ _ | exact args_tuple_getitem.le | exact args_tuple_getitem)
  unfold Builtin.«tuple.__getitem__»
  show wpAny _ _ (do
    let xs ← Builtin.Tuple.tupleItemsOf (Value.ref t)
    _) _ _ _
  refine wpAny_bind (tupleItemsOf_ ht ?_)
  refine wpAny_bind (wpAny_typeOf tyS ?_)
  rw [if_pos (by decide)]
  refine wpAny_bind (sliceApplied_rev hsl hs ?_)
  have e1 : ((((items.size : Int) - 1 == 0) && ((-1 : Int) == 1) && (items.size == items.size)) = true) = False := by simp
  show wpAny _ _ (if (((items.size : Int) - 1 == 0) && ((-1 : Int) == 1) && (items.size == items.size)) = true then _ else _) _ _ _
  rw [if_neg (by rw [e1]; exact id)]
  unfold Builtin.Tuple.tupleExact
  refine wpAny_bind ?_
  rw [pick_rev]
  refine wpAny_newObj_type (wpAny_pure ⟨_, rfl, wpAny_pure q⟩) ?_
  show items.toList.reverse.toArray.size ≤ sizeLine
  simpa using hz
def tRevT (K : PySem.W.Frag) (te : TE) : TE := fun σ H Q => te σ H fun x H1 => ∃ a xs, x = .ref a ∧ SqT K H1 a xs ∧ ∀ p, H1 p = none → Q (.ref p) (upd H1 p (.tup xs.reverse))
theorem pe_revT {X : Cx} {e : Expr} {te : TE} {k : Nat} {p1 p2 p3 pos : Pos} (he : PE X e te) : PE X (.Subscript e (.Slice none none (some (.UnaryOp .USub (.Constant (.int 1) k p1) p2)) p3) pos) (tRevT X.K te) := ⟨fun pins s σ H Q I h => by
  refine Subscript_ (thn (he.run pins s σ H _ I h) fun v s1 y => ?_)
  obtain ⟨x, H1, I1, r1, a, xs, rfl, hx, q⟩ := y
  cases r1
  have hst := po_some (X := X) (pe_un (pos := p2) un_neg (pe_int (X := X) (i := 1) (j := k) (pos := p1)))
  refine wpAny_Slice (thn (po_none.run pins s1 σ H1 (fun o H2 => o = none ∧ H2 = H1) I1 ⟨rfl, rfl⟩) fun vl s2 y => ?_)
  obtain ⟨l, H2, I2, pl, rfl, rfl⟩ := y
  refine thn (po_none.run pins s2 σ H2 (fun o H3 => o = none ∧ H3 = H2) I2 ⟨rfl, rfl⟩) fun vu s3 y => ?_
  obtain ⟨l, H3, I3, pu, rfl, rfl⟩ := y
  refine thn (hst.run pins s3 σ H3 (fun o H4 => o = some (-1) ∧ H4 = H3) I3 ⟨1, rfl, -1, rfl, rfl, rfl⟩) fun vs s4 y => ?_
  obtain ⟨l, H4, I4, ps, rfl, rfl⟩ := y
  cases pl
  cases pu
  have I5 := Inv.kept (h' := s4.heap.push { cls := Value.type "slice", data := Data.fields #[Value.none, Value.none, vs] }) (t' := s4.toks) I4 fun b ob q => Heap.get?_push_of_some { cls := Value.type "slice", data := Data.fields #[Value.none, Value.none, vs] } q
  obtain ⟨its, r, ht, hz⟩ := Inv.tuple I5 hx
  have hlen := Vals.length r
  refine tail_any ht.typeIs slot_tuple_getitem.lookup (getItem_tuple_rev ht (Heap.IsSliceOf.new s4.1 Value.none Value.none vs) ps ?_ ?_) rfl
  · refine ⟨.ref _, upd H4 _ (.tup xs.reverse), Inv.laid (o := .tup xs.reverse) I5 (fun b ob q => Heap.get?_push_of_some _ q) (Nat.le_refl _) ?_, rfl, q _ (HOk.fresh I5.hok (Nat.le_refl _))⟩
    refine ⟨?_, its.reverse, ?_⟩
    · rw [List.length_reverse]
      exact hz
    · exact ⟨Vals.reverse r, _, Heap.get?_push_size _ rfl, rfl, _, rfl⟩
  · rw [List.size_toArray]
    omega⟩
end L2
namespace Mp
open PySem PySem.Spec L2
variable {X : Cx} {W : WX}
/-- xs[::-1] of a tuple -/
def pRevT : P1 := fun v S => match v with
  | .tup vs => .ok (.tup vs.reverse) S
  | _ => .bad
theorem e_revT {e : Expr} {m : ME} {k : Nat} {p1 p2 p3 pos : Pos} (he : PEm X W e m) : PEm X W (.Subscript e (.Slice none none (some (.UnaryOp .USub (.Constant (.int 1) k p1) p2)) p3) pos) (m1 pRevT m) :=
  PE.imp (pe_revT he) fun σ H Q h => by
    obtain ⟨ρ, S, L, s, l, h⟩ := h
    refine TEm.bind s l h fun ρ1 S1 x u H1 s1 l1 e v h => ?_
    have h := (Post.noExn h W0).sig (σ' := [])
    unfold pRevT at h
    split at h
    · rename_i vs
      simp only [VR] at v
      obtain ⟨a, xs, rfl, g1, g2⟩ := v
      exact ⟨a, xs, rfl, g1.sq, tup_new s1 h (VRs.rev g2)⟩
    · exact h.elim
@[simp] theorem pRevT_tup (vs : List Val) (S : Store) : pRevT (.tup vs) S = .ok (.tup vs.reverse) S := rfl
/-- repr of a whole number -/
def fReprI : Fn := one fun v S => match v with
  | .int i => bite (decide (i.natAbs.log2 < 1920)) (.ok (.str (Str.ofString (toString i))) S) .bad
  | _ => .bad
theorem c_reprI : CallR X (.builtin "repr") (rF X fReprI) := CallR.imp SkE.call_repr_int fun us H Q h => by
  replace h := one_of h
  obtain ⟨u, rfl, ρ, S, x, s, v, h⟩ := h
  dsimp only at h
  split at h
  · rename_i i
    simp only [VR] at v
    subst v
    by_cases hz : i.natAbs.log2 < 1920
    · rw [bite_pos (decide_eq_true hz)] at h
      exact ⟨i, rfl, hz, Post.here (rel := relV X.K) s h (by simp [relV, VR])⟩
    · rw [bite_neg (decide_eq_false hz)] at h
      exact h.elim
  · exact h.elim
@[simp] theorem fReprI_int (i : Int) (S : Store) : fReprI [.int i] S = bite (decide (i.natAbs.log2 < 1920)) (.ok (.str (Str.ofString (toString i))) S) .bad := rfl
end Mp

/-! printed by gen2.py: defs of the program as combinators -/
namespace KR
open PySem PySem.Spec L2 Mp
noncomputable def m_law_sign : Fn := fG (fDef 2 1
    (sSeq (sAsg (mC (.str " !\"#$&'()*+,-./0123456789:;<=>?@ABCDEFGHIJKLMNOPQRSTUVWXYZ[\\]^_")) (gN 1))
    (sSeq (sAsg (m2 pAdd (mV 1) (mC (.str "`abcdefghijklmnopqrstuvwxyz{|}~"))) (gN 1))
    (sRet (m2 pIx (mV 1) (m2 pSub (m2 pSub (mV 0) (mC (.int 32))) (mB fInt (aCons (m2 pGt (mV 0) (mC (.int 37))) aNil))))))))
noncomputable def m_law_read_whole_b1 : MS := (sK [4] (sAsg (m2 pAdd (m2 pMulI (mV 3) (mC (.int 128))) (m2 pMod (mB fInt (aCons (mV 4) aNil)) (mC (.int 128)))) (gN 3)))
noncomputable def m_law_read_whole_b2 : MS := (sK [2, 3, 4] (sIf (tV (m2 pLt (m2 pIx (mV 0) (m2 pSub (mV 2) (mC (.int 1)))) (mC (.int 128))))
    (sSeq (sIf (Mp.tAnd (tV (m2 pEq (m2 pIx (mV 0) (m2 pSub (mV 2) (mC (.int 1)))) (mC (.int 0)))) (tV (m2 pGt (m2 pSub (mV 2) (mV 1)) (mC (.int 1)))))
    (sRet (mTup (aCons (mC .non) (aCons (mV 1) aNil))))
    sNx)
    (sSeq (sAsg (mC (.int 0)) (gN 3))
    (sSeq (Mp.sFor (iV (m1 pRevT (mSl (mV 0) (oSome (mV 1)) (oSome (mV 2))))) (gN 4)
    KR.m_law_read_whole_b1)
    (sRet (mTup (aCons (mV 3) (aCons (mV 2) aNil)))))))
    sNx))
noncomputable def m_law_read_whole : Fn := fG (fDef 5 2
    (sSeq (Mp.sFor (iRng2 (aCons (m2 pAdd (mV 1) (mC (.int 1))) (aCons (m2 pAdd (mB fLen (aCons (mV 0) aNil)) (mC (.int 1))) aNil))) (gN 2)
    KR.m_law_read_whole_b2)
    (sRet (mTup (aCons (mC .non) (aCons (mV 1) aNil))))))
noncomputable def m_law_read_string_b1 : MS := (sK [4] (sIf (Mp.tOr (tV (m2 pGe (mV 4) (mB fLen (aCons (mV 0) aNil)))) (Mp.tOr (Mp.tNot (tV (mChain pLe pLe (mC (.int 32)) (m2 pIx (mV 0) (mV 4)) (mC (.int 126))))) (tV (m2 pEq (m2 pIx (mV 0) (mV 4)) (mC (.int 37))))))
    (sRet (mTup (aCons (mC .non) (aCons (mB fMin (aCons (mV 4) (aCons (mB fLen (aCons (mV 0) aNil)) aNil))) aNil))))
    sNx))
noncomputable def m_law_read_string : Fn := fG (fDef 6 4
    (sSeq (sIf (Mp.tNot (tV (mChain pLe pLe (mC (.int 1)) (mV 2) (mC (.int 20)))))
    (sRet (mTup (aCons (mC .non) (aCons (mV 1) aNil))))
    sNx)
    (sSeq (Mp.sFor (iRng2 (aCons (mV 3) (aCons (m2 pAdd (mV 3) (mV 2)) aNil))) (gN 4)
    KR.m_law_read_string_b1)
    (sRet (mTup (aCons (mTup (aCons (mG (mBM "str" fJoin (mC (.str "")) (aCons (mLc (iV (mSl (mV 0) (oSome (mV 3)) (oSome (m2 pAdd (mV 3) (mV 2))))) [5] (gN 5) tYes (mA KR.m_law_sign (aCons (mV 5) aNil))) aNil))) aNil)) (aCons (m2 pAdd (mV 3) (mV 2)) aNil)))))))
noncomputable def m_law_read : Nat → Fn
  | 0 => fun _ _ => .bad
  | fu + 1 => fG (fDef 8 3
    (sSeq (sIf (tV (m2 pGe (mV 1) (mB fLen (aCons (mV 0) aNil))))
    (sRet (mTup (aCons (mC .non) (aCons (mB fLen (aCons (mV 0) aNil)) aNil))))
    sNx)
    (sSeq (sAsg (m2 pIx (mV 0) (mV 1)) (gN 3))
    (sSeq (sIf (Mp.tOr (tV (m2 pGt (mV 3) (mC (.int 6)))) (Mp.tAnd (tV (m2 pEq (mV 3) (mC (.int 6)))) (tV (m2 pEq (mV 2) (mC (.int 0))))))
    (sRet (mTup (aCons (mC .non) (aCons (mV 1) aNil))))
    sNx)
    (sSeq (sIf (tV (m2 pLt (mV 3) (mC (.int 3))))
    (sRet (mTup (aCons (mTup (aCons (mG (m2 pIx (mLst (aCons (mC .non) (aCons (mC (.bl false)) (aCons (mC (.bl true)) aNil)))) (mV 3))) aNil)) (aCons (m2 pAdd (mV 1) (mC (.int 1))) aNil))))
    sNx)
    (sSeq (sAsg (mA KR.m_law_read_whole (aCons (mV 0) (aCons (m2 pAdd (mV 1) (mC (.int 1))) aNil))) (gTup (gsCons (gN 4) (gsCons (gN 5) gsNil))))
    (sSeq (sIf (tV (m2 pIs (mV 4) (mC .non)))
    (sRet (mTup (aCons (mC .non) (aCons (mV 5) aNil))))
    sNx)
    (sSeq (sIf (tV (m2 pLt (mV 3) (mC (.int 5))))
    (sRet (mTup (aCons (mTup (aCons (mIf (tV (m2 pEq (mV 3) (mC (.int 3)))) (mV 4) (m2 pSub (m2 pSub (mC (.int 0)) (mC (.int 1))) (mV 4))) aNil)) (aCons (mV 5) aNil))))
    sNx)
    (sSeq (sIf (tV (m2 pEq (mV 3) (mC (.int 5))))
    (sRet (mA KR.m_law_read_string (aCons (mV 0) (aCons (m2 pAdd (mV 1) (mC (.int 1))) (aCons (mV 4) (aCons (mV 5) aNil))))))
    sNx)
    (sSeq (sAsg (mLst aNil) (gN 6))
    (sSeq (Mp.sWhile (tV (m2 pLt (mB fLen (aCons (mV 6) aNil)) (mV 4)))
    (sK [7] (sSeq (sAsg (mA (m_law_read fu) (aCons (mV 0) (aCons (mV 5) (aCons (m2 pSub (mV 2) (mC (.int 1))) aNil)))) (gTup (gsCons (gN 7) (gsCons (gN 5) gsNil))))
    (sSeq (sIf (tV (m2 pIs (mV 7) (mC .non)))
    (sRet (mTup (aCons (mC .non) (aCons (mV 5) aNil))))
    sNx)
    (sExpr (mBM "list" fAppend (mV 6) (aCons (m2 pIx (mV 7) (mC (.int 0))) aNil)))))))
    (sRet (mTup (aCons (mTup (aCons (mB fTuple (aCons (mV 6) aNil)) aNil)) (aCons (mV 5) aNil)))))))))))))))
theorem m_law_read_len : ∀ (n : Nat) (vs : List Val) (S : Store), vs.length ≠ 3 → m_law_read n vs S = .bad
  | 0, _, _, _ => rfl
  | n + 1, vs, S, h => by unfold m_law_read; exact fG_len fDef_len vs S h
theorem m_law_read_succ (n : Nat) : m_law_read (n + 1) = fG (fDef 8 3
    (sSeq (sIf (tV (m2 pGe (mV 1) (mB fLen (aCons (mV 0) aNil))))
    (sRet (mTup (aCons (mC .non) (aCons (mB fLen (aCons (mV 0) aNil)) aNil))))
    sNx)
    (sSeq (sAsg (m2 pIx (mV 0) (mV 1)) (gN 3))
    (sSeq (sIf (Mp.tOr (tV (m2 pGt (mV 3) (mC (.int 6)))) (Mp.tAnd (tV (m2 pEq (mV 3) (mC (.int 6)))) (tV (m2 pEq (mV 2) (mC (.int 0))))))
    (sRet (mTup (aCons (mC .non) (aCons (mV 1) aNil))))
    sNx)
    (sSeq (sIf (tV (m2 pLt (mV 3) (mC (.int 3))))
    (sRet (mTup (aCons (mTup (aCons (mG (m2 pIx (mLst (aCons (mC .non) (aCons (mC (.bl false)) (aCons (mC (.bl true)) aNil)))) (mV 3))) aNil)) (aCons (m2 pAdd (mV 1) (mC (.int 1))) aNil))))
    sNx)
    (sSeq (sAsg (mA KR.m_law_read_whole (aCons (mV 0) (aCons (m2 pAdd (mV 1) (mC (.int 1))) aNil))) (gTup (gsCons (gN 4) (gsCons (gN 5) gsNil))))
    (sSeq (sIf (tV (m2 pIs (mV 4) (mC .non)))
    (sRet (mTup (aCons (mC .non) (aCons (mV 5) aNil))))
    sNx)
    (sSeq (sIf (tV (m2 pLt (mV 3) (mC (.int 5))))
    (sRet (mTup (aCons (mTup (aCons (mIf (tV (m2 pEq (mV 3) (mC (.int 3)))) (mV 4) (m2 pSub (m2 pSub (mC (.int 0)) (mC (.int 1))) (mV 4))) aNil)) (aCons (mV 5) aNil))))
    sNx)
    (sSeq (sIf (tV (m2 pEq (mV 3) (mC (.int 5))))
    (sRet (mA KR.m_law_read_string (aCons (mV 0) (aCons (m2 pAdd (mV 1) (mC (.int 1))) (aCons (mV 4) (aCons (mV 5) aNil))))))
    sNx)
    (sSeq (sAsg (mLst aNil) (gN 6))
    (sSeq (Mp.sWhile (tV (m2 pLt (mB fLen (aCons (mV 6) aNil)) (mV 4)))
    (sK [7] (sSeq (sAsg (mA (m_law_read n) (aCons (mV 0) (aCons (mV 5) (aCons (m2 pSub (mV 2) (mC (.int 1))) aNil)))) (gTup (gsCons (gN 7) (gsCons (gN 5) gsNil))))
    (sSeq (sIf (tV (m2 pIs (mV 7) (mC .non)))
    (sRet (mTup (aCons (mC .non) (aCons (mV 5) aNil))))
    sNx)
    (sExpr (mBM "list" fAppend (mV 6) (aCons (m2 pIx (mV 7) (mC (.int 0))) aNil)))))))
    (sRet (mTup (aCons (mTup (aCons (mB fTuple (aCons (mV 6) aNil)) aNil)) (aCons (mV 5) aNil))))))))))))))) := rfl
noncomputable def m_law_told : Fn := fG (fDef 3 1
    (sSeq (sAsg (mA (KR.m_law_read 40) (aCons (mV 0) (aCons (mC (.int 0)) (aCons (mC (.int 20)) aNil)))) (gTup (gsCons (gN 1) (gsCons (gN 2) gsNil))))
    (sSeq (sIf (tV (m2 pIs (mV 1) (mC .non)))
    (sRet (mV 2))
    sNx)
    (sRet (mIf (tV (m2 pEq (mV 2) (mB fLen (aCons (mV 0) aNil)))) (mV 1) (mV 2))))))
noncomputable def m_law_is : Nat → Fn
  | 0 => fun _ _ => .bad
  | fu + 1 => fG (fDef 2 2
    (sRet (m2 pEq (mB fReprI (aCons (mV 0) aNil)) (mB fReprI (aCons (mV 1) aNil)))))
theorem m_law_is_len : ∀ (n : Nat) (vs : List Val) (S : Store), vs.length ≠ 2 → m_law_is n vs S = .bad
  | 0, _, _, _ => rfl
  | n + 1, vs, S, h => by unfold m_law_is; exact fG_len fDef_len vs S h
theorem m_law_is_succ (n : Nat) : m_law_is (n + 1) = fG (fDef 2 2
    (sRet (m2 pEq (mB fReprI (aCons (mV 0) aNil)) (mB fReprI (aCons (mV 1) aNil))))) := rfl
end KR

/-! KRo: the law's own reader: numbers, strings. -/
namespace KR
open Mp
open PySem (Str)
theorem cutL_two {α : Type} {xs : List α} {p q : Nat} (h1 : p ≤ q) (h2 : q ≤ xs.length) : cutL xs (some (p : Int)) (some (q : Int)) = (xs.drop p).take (q - p) := by
  unfold cutL
  have e1 : HT.sIx xs.length 0 (some (p : Int)) = p := by
    unfold HT.sIx
    simp only []
    rw [if_neg (by omega), Int.toNat_natCast]
    omega
  have e2 : HT.sIx xs.length xs.length (some (q : Int)) = q := by
    unfold HT.sIx
    simp only []
    rw [if_neg (by omega), Int.toNat_natCast]
    omega
  rw [e1, e2]
def valL (l : List Int) : Int := l.foldl (fun f b => f * 128 + b % 128) 0
theorem valP : ∀ {s : List Int} {v k : Nat}, Bys s → wRd s = some (v, k) → valL (s.take k).reverse = v
  | [], v, k, _, h => by cases h
  | b :: r, v, k, hb, h => by
    unfold wRd at h
    have b0 := hb b (by simp)
    unfold valL
    rw [List.foldl_reverse]
    split at h
    · cases h
      rename_i c
      simp
      omega
    · cases e : wRd r with
      | none => rw [e] at h; cases h
      | some p =>
        rw [e] at h
        have h' := Option.some.inj h
        have hv : (b % 128).toNat + 128 * p.1 = v := congrArg Prod.fst h'
        have hk : p.2 + 1 = k := congrArg Prod.snd h'
        subst hv hk
        have ih := valP (v := p.1) (k := p.2) (fun c hc => hb c (List.mem_cons_of_mem _ hc)) e
        unfold valL at ih
        rw [List.foldl_reverse] at ih
        rw [List.take_succ_cons, List.foldr_cons, ih]
        push_cast
        rw [Int.toNat_of_nonneg (by omega)]
        omega
def ansW : Rd Nat → Val
  | .ok n q => .tup [.int n, .int q]
  | .bad q => .tup [.non, .int q]
def ansV : Rd Val → Val
  | .ok v q => .tup [.tup [v], .int q]
  | .bad q => .tup [.non, .int q]
section
variable {S : Store} {r : List Int} {p : Nat}
theorem law_val_loop {i : Nat} {x2 x4 : Option Val} (hp : p + (i + 1) ≤ r.length) (ks : List Val) (l : List Int) (hl : ks = l.map Val.int) : ∀ (f : Int) (x4 : Option Val),
    ∃ x4', forLoop (fun _ => True) (gN 4) m_law_read_whole_b1 ks [some (rowV r), some (.int p), x2, some (.int f), x4] S = .nx [some (rowV r), some (.int p), x2, some (.int (l.foldl (fun f b => f * 128 + b % 128) f)), x4'] S := by
  subst hl
  induction l with
  | nil => exact fun f x4 => ⟨x4, by rw [List.map_nil, forLoop_nil, gate_pos trivial]; rfl⟩
  | cons b l ih =>
    intro f x4
    obtain ⟨x4', e⟩ := ih (f * 128 + b % 128) none
    refine ⟨x4', ?_⟩
    have c : cmul f 128 = true := cmul_right (by decide) (by decide)
    have t : forOne (gN 4) m_law_read_whole_b1 (.int b) [some (rowV r), some (.int p), x2, some (.int f), x4] S = .nx [some (rowV r), some (.int p), x2, some (.int (f * 128 + b % 128)), none] S := by
      unfold m_law_read_whole_b1
      simp (maxDischargeDepth := 12) [c]
    rw [List.map_cons, forLoop_cons, gate_pos trivial, t, turn_nx, e]
    rfl
def LR3 (r : List Int) (p : Nat) : Loc := [some (rowV r), some (.int p), none, none, none]
theorem rw_on {i : Nat} {b : Int} (hb : r[p + i]? = some b) (h : ¬ b < 128) : forOne (gN 2) m_law_read_whole_b2 (.int ((p : Int) + 1 + (i : Nat))) (LR3 r p) S = .nx (LR3 r p) S := by
  have e := row_ix (S := S) hb
  have ei : ((p : Int) + 1 + (i : Nat)) - 1 = ((p + i : Nat) : Int) := by omega
  rw [← ei] at e
  unfold m_law_read_whole_b2 LR3
  simp (maxDischargeDepth := 12) [e, h]
theorem rw_zero {i : Nat} (hb : r[p + i]? = some 0) (h : 1 < i + 1) : forOne (gN 2) m_law_read_whole_b2 (.int ((p : Int) + 1 + (i : Nat))) (LR3 r p) S = .rt (.tup [.non, .int p]) S := by
  have e := row_ix (S := S) hb
  have ei : ((p : Int) + 1 + (i : Nat)) - 1 = ((p + i : Nat) : Int) := by omega
  rw [← ei] at e
  have h' : (1 : Int) < (p : Int) + 1 + (i : Nat) - p := by omega
  unfold m_law_read_whole_b2 LR3
  simp (maxDischargeDepth := 12) [e, h', pEq_int, LIM]
theorem rw_end {i : Nat} {b : Int} (hb : r[p + i]? = some b) (h : b < 128) (h2 : ¬ (1 < i + 1 ∧ b = 0)) : forOne (gN 2) m_law_read_whole_b2 (.int ((p : Int) + 1 + (i : Nat))) (LR3 r p) S = .rt (.tup [.int (valL ((r.drop p).take (i + 1)).reverse), .int ((p + (i + 1) : Nat) : Int)]) S := by
  have lt := (List.getElem?_eq_some_iff.mp hb).1
  have e := row_ix (S := S) hb
  have ei : ((p : Int) + 1 + (i : Nat)) - 1 = ((p + i : Nat) : Int) := by omega
  rw [← ei] at e
  have ec : cutL (r.map Val.int) (some (p : Int)) (some ((p : Int) + 1 + (i : Nat))) = ((r.drop p).take (i + 1)).map Val.int := by
    have : ((p : Int) + 1 + (i : Nat)) = ((p + (i + 1) : Nat) : Int) := by omega
    rw [this, cutL_two (by omega) (by rw [List.length_map]; omega), List.map_take, List.map_drop]
    congr 1
    omega
  obtain ⟨x4', el⟩ := law_val_loop (S := S) (r := r) (p := p) (i := i) (x2 := some (.int ((p : Int) + 1 + (i : Nat)))) (x4 := none) (by omega) ((((r.drop p).take (i + 1)).map Val.int).reverse) ((r.drop p).take (i + 1)).reverse (by rw [List.map_reverse]) 0 none
  have en : ((p + (i + 1) : Nat) : Int) = (p : Int) + 1 + (i : Nat) := by omega
  rw [en]
  unfold valL
  have ei' : iV (m1 pRevT (mSl (mV 0) (oSome (mV 1)) (oSome (mV 2)))) [some (rowV r), some (.int p), some (.int ((p : Int) + 1 + (i : Nat))), some (.int 0), none] S = .ok ⟨(((r.drop p).take (i + 1)).map Val.int).reverse, fun _ => True⟩ S := by
    unfold rowV
    simp (maxDischargeDepth := 12) [ec]
  have ef : Mp.sFor (iV (m1 pRevT (mSl (mV 0) (oSome (mV 1)) (oSome (mV 2))))) (gN 4) m_law_read_whole_b1 [some (rowV r), some (.int p), some (.int ((p : Int) + 1 + (i : Nat))), some (.int 0), none] S = .nx [some (rowV r), some (.int p), some (.int ((p : Int) + 1 + (i : Nat))), some (.int (List.foldl (fun f b => f * 128 + b % 128) 0 ((r.drop p).take (i + 1)).reverse)), x4'] S := by
    rw [sFor_app, ei', thenF_ok]
    exact el
  obtain ⟨F, hF⟩ : ∃ F, F = Mp.sFor (iV (m1 pRevT (mSl (mV 0) (oSome (mV 1)) (oSome (mV 2))))) (gN 4) m_law_read_whole_b1 := ⟨_, rfl⟩
  rw [← hF] at ef
  unfold m_law_read_whole_b2 LR3
  rw [← hF]
  have hs : sSeq F (sRet (mTup (aCons (mV 3) (aCons (mV 2) aNil)))) [some (rowV r), some (.int p), some (.int ((p : Int) + 1 + (i : Nat))), some (.int 0), none] S = .rt (.tup [.int (List.foldl (fun f b => f * 128 + b % 128) 0 ((r.drop p).take (i + 1)).reverse), .int ((p : Int) + 1 + (i : Nat))]) S := by
    rw [seqNx ef]
    simp (maxDischargeDepth := 12) [LIM]
  rw [sSeq_app] at hs
  by_cases hz : b = 0
  · have h' : ¬ (1 : Int) < (p : Int) + 1 + (i : Nat) - p := by
      intro z
      exact h2 ⟨by omega, hz⟩
    subst hz
    simp (maxDischargeDepth := 12) [e, h', pEq_int, ef, LIM]
  · simp (maxDischargeDepth := 12) [e, h, hz, pEq_int, ef, LIM]
end
end KR

/-! KRp: the law's own reader: numbers, strings. -/
namespace KR
open Mp
open PySem (Str)
theorem rng2_nat {i j : Int} {a m : Nat} (hi : i = (a : Int)) (hj : j = ((a + m : Nat) : Int)) (h : a + m < 1000000) (S : Store) : rngOf2 [.int i, .int j] S = .ok ⟨rangeL i m, fun _ => True⟩ S :=
  rng_two m (by omega) (by omega) (by omega) (by omega) (by omega)
theorem rangeL_cons (lo : Int) (n : Nat) : rangeL lo (n + 1) = .int lo :: rangeL (lo + 1) n := by
  unfold rangeL
  rw [List.range_succ_eq_map, List.map_cons, List.map_map]
  congr 1
  · simp
  · apply List.map_congr_left
    intro i _
    simp
    omega
section
variable {S : Store} {r : List Int} {p : Nat}
theorem rw_loop (hbs : Bys r) : ∀ (s : List Int) (i : Nat), r.drop (p + i) = s →
    forLoop (fun _ => True) (gN 2) m_law_read_whole_b2 (rangeL ((p : Int) + 1 + (i : Nat)) s.length) (LR3 r p) S = (match wRd s with
      | none => .nx (LR3 r p) S
      | some (_, j) => if 1 < i + j ∧ s[j - 1]? = some 0 then .rt (.tup [.non, .int p]) S else .rt (.tup [.int (valL ((r.drop p).take (i + j)).reverse), .int ((p + (i + j) : Nat) : Int)]) S)
  | [], i, h => by
    show forLoop _ _ _ (rangeL _ 0) _ _ = _
    have : rangeL ((p : Int) + 1 + (i : Nat)) 0 = [] := rfl
    rw [this, forLoop_nil, gate_pos trivial]
    rfl
  | b :: s, i, h => by
    obtain ⟨e1, e2⟩ := drop_head h
    rw [List.length_cons, rangeL_cons, forLoop_cons, gate_pos trivial]
    by_cases z : b < 128
    · have ew : wRd (b :: s) = some (b.toNat, 1) := by unfold wRd; rw [if_pos z]
      rw [ew]
      dsimp only
      have b0 := hbs b (List.mem_of_getElem? e1)
      by_cases c : 1 < i + 1 ∧ b = 0
      · obtain ⟨c1, c2⟩ := c
        subst c2
        rw [rw_zero e1 c1, turn_rt, if_pos ⟨c1, rfl⟩]
      · rw [rw_end e1 z c, turn_rt, if_neg]
        rintro ⟨y1, y2⟩
        exact c ⟨y1, by simpa using y2⟩
    · have ew : wRd (b :: s) = (wRd s).map fun p => ((b % 128).toNat + 128 * p.1, p.2 + 1) := by conv => lhs; unfold wRd; rw [if_neg z]
      rw [ew, rw_on e1 z, turn_nx]
      have ih := rw_loop hbs s (i + 1) e2
      have en : (p : Int) + 1 + (i : Nat) + 1 = (p : Int) + 1 + ((i + 1 : Nat) : Int) := by omega
      rw [en, ih]
      cases q : wRd s with
      | none => rfl
      | some y =>
        obtain ⟨v, j⟩ := y
        have lj := wRd_len q
        simp only [Option.map_some]
        have ej : (b :: s)[j + 1 - 1]? = s[j - 1]? := by rw [show j + 1 - 1 = (j - 1) + 1 from by omega, List.getElem?_cons_succ]
        rw [ej, show i + (j + 1) = i + 1 + j from by omega]
theorem law_read_whole_eq (hbs : Bys r) (hp : p ≤ r.length) (hz : r.length < 100000) : m_law_read_whole [rowV r, .int p] S = .ok (ansW (rdW r p)) S := by
  have el := rw_loop (S := S) (p := p) hbs (r.drop p) 0 rfl
  rw [List.length_drop] at el
  have er : rngOf2 [.int ((p : Int) + 1), .int ((r.length : Int) + 1)] S = .ok ⟨rangeL ((p : Int) + 1) (r.length - p), fun _ => True⟩ S := rng2_nat (a := p + 1) (by omega) (by omega) (by omega) S
  have e3 := row_len r S
  have hb : below (sl S) (rowV r) = true := by unfold rowV; simp
  have e0 : ((p : Int) + 1 + ((0 : Nat) : Int)) = (p : Int) + 1 := by omega
  rw [e0] at el
  unfold LR3 at el
  unfold rdW
  cases q : wRd (r.drop p) with
  | none =>
    rw [q] at el
    unfold m_law_read_whole ansW
    simp (maxDischargeDepth := 12) [startL, e3, er, el, LIM]
  | some y =>
    rw [q] at el
    obtain ⟨v, j⟩ := y
    have lj := wRd_len q
    rw [List.length_drop] at lj
    have ei : (r.drop p)[j - 1]? = r[p + j - 1]? := by rw [List.getElem?_drop]; congr 1; omega
    dsimp only at el ⊢
    rw [ei, Nat.zero_add] at el
    by_cases c : 1 < j ∧ r[p + j - 1]? = some 0
    · rw [if_pos c] at el ⊢
      unfold m_law_read_whole ansW
      simp (maxDischargeDepth := 12) [startL, e3, er, el]
    · rw [if_neg c] at el ⊢
      rw [valP (hbs.drop p) q] at el
      unfold m_law_read_whole ansW
      simp (maxDischargeDepth := 12) [startL, e3, er, el]
/-! ### strings -/
abbrev SA : Str := " !\"#$&'()*+,-./0123456789:;<=>?@ABCDEFGHIJKLMNOPQRSTUVWXYZ[\\]^_"
abbrev SB : Str := "`abcdefghijklmnopqrstuvwxyz{|}~"
theorem SAB_ix : ∀ i : Fin 95, i.val ≠ 5 → (SA ++ SB).cps.toList[i.val - (if i.val > 5 then 1 else 0)]? = some (i.val + 32) := by decide +kernel
theorem SAB_len : (SA ++ SB).length = 94 ∧ SA.length + SB.length = 94 := by decide +kernel
theorem law_sign_eq {b : Int} (h : sgn b = true) : m_law_sign [.int b] S = .ok (.str ⟨#[b.toNat]⟩) S := by
  unfold sgn at h
  simp only [Bool.and_eq_true, decide_eq_true_eq, Bool.not_eq_true', decide_eq_false_iff_not] at h
  obtain ⟨⟨h1, h2⟩, h3⟩ := h
  have e := SAB_ix ⟨(b - 32).toNat, by omega⟩ (by show (b - 32).toNat ≠ 5; omega)
  obtain ⟨w, hw⟩ : ∃ w, w = SA ++ SB := ⟨_, rfl⟩
  obtain ⟨l1, l2⟩ := SAB_len
  have e1 : ∀ S, pIx (.str w) (.int (b - 32 - (if 37 < b then 1 else 0))) S = .ok (.str ⟨#[b.toNat]⟩) S := fun S => by
    have e1 : L2.atI w.cps.toList (b - 32 - (if 37 < b then 1 else 0)) = some b.toNat := by
      have : b - 32 - (if 37 < b then 1 else 0) = (((b - 32).toNat - (if (b - 32).toNat > 5 then 1 else 0) : Nat) : Int) := by
        by_cases c : 37 < b
        · rw [if_pos c, if_pos (by omega)]; omega
        · rw [if_neg c, if_neg (by omega)]; omega
      rw [this, atI_nat, hw, e]
      congr 1
      show (b - 32).toNat + 32 = b.toNat
      omega
    unfold pIx
    simp only [e1]
    rw [bite_pos]
    rw [hw, l1]
    decide
  have ea : ∀ S, pAdd (.str SA) (.str SB) S = .ok (.str w) S := fun S => by
    rw [pAdd_str, bite_pos, hw]
    rw [l2]
    decide
  unfold m_law_sign
  simp (maxDischargeDepth := 12) [startL, ea, e1, -pAdd_str]
end
end KR

/-! KRq: the law's own reader: strings. -/
namespace KR
open Mp
open PySem (Str)
section
variable {S : Store} {r : List Int} {p : Nat}
theorem join_sg {cs : List Nat} {k : Nat} {T : Store} (h : sg T k = some (.lst (cs.map fun c : Nat => .str ⟨#[c]⟩))) (hz : cs.length ≤ 1000) : fJoin (.str "") [.ref k] T = .ok (.str ⟨cs.toArray⟩) T := by
  have em : (cs.map fun c : Nat => Val.str ⟨#[c]⟩) = (cs.map fun c => (⟨#[c]⟩ : Str)).map Val.str := by rw [List.map_map]; rfl
  rw [fJoin_app, h, em, joinR_lst, join_signs, bite_pos]
  have e0 : ("" : Str).length = 0 := rfl
  have el : ((cs.map fun c => (⟨#[c]⟩ : Str)).map (·.length)) = cs.map fun _ => 1 := by rw [List.map_map]; rfl
  have es : ∀ l : List Nat, (l.map fun _ => 1).sum = l.length := by
    intro l
    induction l with
    | nil => rfl
    | cons a r ih => rw [List.map_cons, List.sum_cons, ih, List.length_cons]; omega
  rw [el, es, e0]
  simp
  omega
def LS4 (r : List Int) (beg many here : Nat) : Loc := [some (rowV r), some (.int beg), some (.int many), some (.int here), none, none]
theorem rs_on {beg many here : Nat} {b : Int} (hb : r[p]? = some b) (h : sgn b = true) : forOne (gN 4) m_law_read_string_b1 (.int p) (LS4 r beg many here) S = .nx (LS4 r beg many here) S := by
  have lt := (List.getElem?_eq_some_iff.mp hb).1
  have e := row_ix (S := S) hb
  have el := row_len r S
  have nl : ¬ (r.length : Int) ≤ p := by omega
  unfold sgn at h
  simp only [Bool.and_eq_true, decide_eq_true_eq, Bool.not_eq_true', decide_eq_false_iff_not] at h
  obtain ⟨⟨h1, h2⟩, h3⟩ := h
  unfold m_law_read_string_b1 LS4
  simp (maxDischargeDepth := 12) [e, el, nl, h1, h2, h3, pEq_int]
theorem rs_none {beg many here : Nat} (hp : p = r.length) : forOne (gN 4) m_law_read_string_b1 (.int p) (LS4 r beg many here) S = .rt (.tup [.non, .int p]) S := by
  subst hp
  have el := row_len r S
  have em : fMin [.int (r.length : Int), .int (r.length : Int)] S = .ok (.int (r.length : Int)) S := by
    show R.ok (Val.int (if (r.length : Int) < r.length then (r.length : Int) else r.length)) S = _
    rw [if_neg (by omega)]
  unfold m_law_read_string_b1 LS4
  simp (maxDischargeDepth := 12) [el, em, LIM]
theorem rs_bad {beg many here : Nat} {b : Int} (hb : r[p]? = some b) (h : sgn b = false) : forOne (gN 4) m_law_read_string_b1 (.int p) (LS4 r beg many here) S = .rt (.tup [.non, .int p]) S := by
  have lt := (List.getElem?_eq_some_iff.mp hb).1
  have e := row_ix (S := S) hb
  have el := row_len r S
  have nl : ¬ (r.length : Int) ≤ p := by omega
  have mn : ¬ (r.length : Int) < p := by omega
  have em : fMin [.int (p : Int), .int (r.length : Int)] S = .ok (.int p) S := by
    show R.ok (Val.int (if (r.length : Int) < p then (r.length : Int) else p)) S = _
    rw [if_neg mn]
  unfold sgn at h
  unfold m_law_read_string_b1 LS4
  by_cases h1 : 32 ≤ b
  · by_cases h2 : b ≤ 126
    · have h3 : b = 37 := by
        simp [h1, h2] at h
        exact h
      subst h3
      simp (maxDischargeDepth := 12) [e, el, nl, pEq_int, em, LIM]
    · simp (maxDischargeDepth := 12) [e, el, nl, h1, h2, em, LIM]
  · simp (maxDischargeDepth := 12) [e, el, nl, h1, em, LIM]
theorem rs_loop {beg many here : Nat} : ∀ (k p : Nat), p ≤ r.length → forLoop (fun _ => True) (gN 4) m_law_read_string_b1 (rangeL (p : Int) k) (LS4 r beg many here) S = (match rdSg r k p with
      | .ok _ _ => .nx (LS4 r beg many here) S
      | .bad q => .rt (.tup [.non, .int q]) S)
  | 0, p, hp => by
    have : rangeL (p : Int) 0 = [] := rfl
    rw [this, forLoop_nil, gate_pos trivial]
    rfl
  | k + 1, p, hp => by
    rw [rangeL_cons, forLoop_cons, gate_pos trivial]
    unfold rdSg
    cases hb : r[p]? with
    | none =>
      have : p = r.length := by
        have := List.getElem?_eq_none_iff.mp hb
        omega
      rw [rs_none this, turn_rt]
    | some b =>
      have lt := (List.getElem?_eq_some_iff.mp hb).1
      dsimp only
      by_cases hs : sgn b = true
      · rw [if_pos hs, rs_on hb hs, turn_nx]
        have ih := rs_loop (beg := beg) (many := many) (here := here) k (p + 1) lt
        have en : (p : Int) + 1 = ((p + 1 : Nat) : Int) := by omega
        rw [en, ih]
        cases q : rdSg r k (p + 1) <;> rfl
      · rw [if_neg hs, rs_bad hb (by simpa using hs), turn_rt]
theorem law_read_string_eq {beg many here : Nat} (hbs : Bys r) (hp : here ≤ r.length) (hz : r.length < 100000) :
    m_law_read_string [rowV r, .int beg, .int many, .int here] S = .ok (ansV (if 1 ≤ many ∧ many ≤ 20 then (match rdSg r many here with
      | .ok s q => .ok (.str ⟨s.toArray⟩) q
      | .bad q => .bad q) else .bad beg)) S := by
  have hb : below (sl S) (rowV r) = true := by unfold rowV; simp
  by_cases c : 1 ≤ many ∧ many ≤ 20
  · rw [if_pos c]
    have c1 : (1 : Int) ≤ many := by omega
    have c2 : (many : Int) ≤ 20 := by omega
    have er : rngOf2 [.int (here : Int), .int ((here : Int) + (many : Int))] S = .ok ⟨rangeL (here : Int) many, fun _ => True⟩ S := rng2_nat (a := here) rfl (by omega) (by omega) S
    have el := rs_loop (S := S) (r := r) (beg := beg) (many := many) (here := here) many here hp
    unfold LS4 at el
    cases q : rdSg r many here with
    | bad t =>
      rw [q] at el
      unfold m_law_read_string ansV
      simp (maxDischargeDepth := 12) [startL, c1, c2, er, el]
    | ok s t =>
      rw [q] at el
      obtain ⟨h1, h2, h3, h4, h5⟩ := rdSg_back hbs q hp
      have hlt : s.length ≤ 20 := by omega
      have ec : cutL (r.map Val.int) (some (here : Int)) (some ((here : Int) + (many : Int))) = s.map fun (c : Nat) => .int (c : Int) := by
        have e1 : ((here : Int) + (many : Int)) = ((here + many : Nat) : Int) := by omega
        rw [e1, cutL_two (by omega) (by rw [List.length_map]; omega), ← List.map_drop, h3, List.map_append]
        have e2 : here + many - here = (s.map fun (c : Nat) => Val.int (c : Int)).length := by rw [List.length_map]; omega
        rw [e2, List.map_map]
        have e3 : (s.map (Val.int ∘ fun (c : Nat) => (c : Int))) = s.map fun (c : Nat) => Val.int (c : Int) := rfl
        rw [e3, List.take_left']
        rw [List.length_map]
      have lc : lcLoop (fun _ => True) [some (rowV r), some (.int beg), some (.int many), some (.int here), none, none] (gN 5) tYes (mA m_law_sign (aCons (mV 5) aNil)) (s.map fun (c : Nat) => .int (c : Int)) [] S = .ok (s.map fun c : Nat => .str ⟨#[c]⟩) S := by
        refine lc_map' (fun (c : Nat) => .int (c : Int)) (fun c : Nat => .str ⟨#[c]⟩) s rfl trivial (by unfold LIM; omega) fun c hc => ?_
        have e := law_sign_eq (S := S) (h2 c hc)
        rw [Int.toNat_natCast] at e
        simp (maxDischargeDepth := 12) [e]
      have ej := join_sg (T := sp S (.lst (s.map fun c : Nat => .str ⟨#[c]⟩))) (k := sl S) sg_sp_new (by omega)
      obtain ⟨xs, hxs⟩ : ∃ xs, xs = s.map fun c : Nat => Val.str ⟨#[c]⟩ := ⟨_, rfl⟩
      obtain ⟨st, hst⟩ : ∃ st : Str, st = ⟨s.toArray⟩ := ⟨_, rfl⟩
      rw [← hxs] at lc ej
      rw [← hst] at ej
      have Gk : GcOk S (sp S (.lst xs)) := gcOk_grow (Grow.sp _ _)
      have ht : (t : Int) = (here : Int) + many := by omega
      have e9 : ∀ (k : Nat), rowV r = .tup (r.map Val.int) := fun _ => rfl
      unfold m_law_read_string ansV
      unfold rowV at lc el ⊢
      dsimp only
      rw [← hst, ht]
      simp (maxDischargeDepth := 12) [startL, c1, c2, er, el, ec, lc, ej, Gk, LIM, -fJoin_app]
  · rw [if_neg c]
    unfold m_law_read_string ansV
    by_cases c1 : (1 : Int) ≤ many
    · have c2 : ¬ (many : Int) ≤ 20 := by omega
      simp (maxDischargeDepth := 12) [startL, c1, c2, LIM]
    · simp (maxDischargeDepth := 12) [startL, c1, LIM]
end
end KR

/-! KRr: the law's own reader: parcels. -/
namespace KR
open Mp
open PySem (Str)
section
variable {S : Store} {r : List Int} {p n f : Nat} {mf : Fn}
theorem ans_below {k : Nat} {x : Rd Val} (h : ∀ v q, x = .ok v q → below k v = true) : below k (ansV x) = true := by
  cases x with
  | ok v q => unfold ansV; simp [h v q rfl]
  | bad q => unfold ansV; simp
abbrev bR (mf : Fn) : MS := (sK [7] (sSeq (sAsg (mA mf (aCons (mV 0) (aCons (mV 5) (aCons (m2 pSub (mV 2) (mC (.int 1))) aNil)))) (gTup (gsCons (gN 7) (gsCons (gN 5) gsNil))))
    (sSeq (sIf (tV (m2 pIs (mV 7) (mC .non)))
    (sRet (mTup (aCons (mC .non) (aCons (mV 5) aNil))))
    sNx)
    (sExpr (mBM "list" fAppend (mV 6) (aCons (m2 pIx (mV 7) (mC (.int 0))) aNil))))))
abbrev cR : MT := (tV (m2 pLt (mB fLen (aCons (mV 6) aNil)) (mV 4)))
def LQ (r : List Int) (p : Nat) (n : Nat) (many q f : Nat) : Loc := [some (rowV r), some (.int p), some (.int ((n + 1 : Nat) : Int)), some (.int 6), some (.int many), some (.int q), some (.ref f), none]
theorem lr_loop (hbs : Bys r) (hmf : ∀ S p, p ≤ r.length → mf [rowV r, .int p, .int n] S = .ok (ansV (rdP n r p)) S) {p0 many : Nat} :
    ∀ (k q : Nat) (vs : List Val) (S : Store) (fuel : Nat), sg S f = some (.lst vs) → q ≤ r.length → r.length - q < fuel → vs.length + (r.length - q) < 100000 → many = vs.length + k →
    match rdMany (rdP n r) k q with
    | .ok ws t => whileLoop cR (bR mf) fuel (LQ r p0 n many q f) S = .nx (LQ r p0 n many t f) (ss S f (.lst (vs ++ ws))) ∧ t ≤ r.length
    | .bad t => ∃ ws, whileLoop cR (bR mf) fuel (LQ r p0 n many q f) S = .rt (.tup [.non, .int t]) (ss S f (.lst ws))
  | 0, q, vs, S, fuel, hf, hq, hfu, hz, hm => by
    refine ⟨?_, hq⟩
    have hlt : ¬ (vs.length : Int) < many := by omega
    have hc : cR (LQ r p0 n many q f) S = .ok false S := by
      unfold LQ
      simp [hf, hlt]
    rw [whileLoop_step (by omega), hc, thenF_ok, bite_false, List.append_nil, ss_id hf]
  | k + 1, q, vs, S, fuel, hf, hq, hfu, hz, hm => by
    have hlt : (vs.length : Int) < many := by omega
    have hc : cR (LQ r p0 n many q f) S = .ok true S := by
      unfold LQ
      simp [hf, hlt]
    have e := hmf S q hq
    have en : ((n + 1 : Nat) : Int) - 1 = n := by omega
    obtain ⟨x, hx⟩ : ∃ x : Int, x = ((n + 1 : Nat) : Int) := ⟨_, rfl⟩
    rw [whileLoop_step (by omega), hc, thenF_ok, bite_true]
    unfold rdMany
    cases e1 : rdP n r q with
    | bad t =>
      rw [e1] at e
      refine ⟨vs, ?_⟩
      have : bR mf (LQ r p0 n many q f) S = .rt (.tup [.non, .int t]) S := by
        unfold bR LQ
        rw [← hx] at en ⊢
        unfold ansV at e
        simp (maxDischargeDepth := 12) [en, e, LIM]
      rw [this, turn_rt, ss_id hf]
    | ok v t =>
      rw [e1] at e
      obtain ⟨a1, a2, a3⟩ := rdP_adv hbs e1
      have hb : bR mf (LQ r p0 n many q f) S = .nx (LQ r p0 n many t f) (ss S f (.lst (vs ++ [v]))) := by
        have hl : vs.length < 16777216 := by omega
        unfold bR LQ
        rw [← hx] at en ⊢
        unfold ansV at e
        simp (maxDischargeDepth := 12) [en, e, hf, hl, LIM]
      rw [hb, turn_nx]
      have ih := lr_loop hbs hmf (p0 := p0) (many := many) k t (vs ++ [v]) (ss S f (.lst (vs ++ [v]))) (fuel - 1) (sg_ss_same (by rw [hf]; rfl)) a2 (by omega) (by simp; omega) (by simp; omega)
      dsimp only
      cases q2 : rdMany (rdP n r) k t with
      | bad t' =>
        rw [q2] at ih
        obtain ⟨ws, ih⟩ := ih
        exact ⟨ws, by rw [ih, ss_ss]⟩
      | ok ws t' =>
        rw [q2] at ih
        obtain ⟨ih, ht⟩ := ih
        exact ⟨by rw [ih, ss_ss, List.append_assoc]; rfl, ht⟩
theorem lr_one {fu n : Nat} {sub : Option (Nat → Rd Val)} (hbs : Bys r) (hz : r.length < 50000) (hp : p ≤ r.length) (h0 : sub = none → n = 0)
    (h1 : ∀ f, sub = some f → ∃ k, n = k + 1 ∧ f = rdP k r ∧ ∀ S p, p ≤ r.length → m_law_read fu [rowV r, .int p, .int k] S = .ok (ansV (rdP k r p)) S)
    (hb : ∀ v q, rdOne sub r p = .ok v q → below (sl S) v = true) :
    m_law_read (fu + 1) [rowV r, .int p, .int n] S = .ok (ansV (rdOne sub r p)) S := by
  rw [m_law_read_succ]
  have hbl : below (sl S) (ansV (rdOne sub r p)) = true := ans_below hb
  have finT : ∀ (X : MS) (T : Store), GcOk S T → cut (sl S) T = S → endF (X [some (rowV r), some (.int p), some (.int n), none, none, none, none, none] S) = .ok (ansV (rdOne sub r p)) T → fG (fDef 8 3 X) [rowV r, .int p, .int n] S = .ok (ansV (rdOne sub r p)) S := fun X T g c hX => by
    rw [fG_app, fDef_app, bite_pos (by rfl)]
    show gcR S (endF (X [some (rowV r), some (.int p), some (.int n), none, none, none, none, none] S)) = _
    rw [hX, gcR_ok, gate_pos g, gcV_low hbl, c]
  have fin : ∀ X : MS, endF (X [some (rowV r), some (.int p), some (.int n), none, none, none, none, none] S) = .ok (ansV (rdOne sub r p)) S → fG (fDef 8 3 X) [rowV r, .int p, .int n] S = .ok (ansV (rdOne sub r p)) S := fun X hX => finT X S gcOk_refl cut_self hX
  have el := row_len r S
  cases hr : r[p]? with
  | none =>
    have : p = r.length := by
      have := List.getElem?_eq_none_iff.mp hr
      omega
    have er : rdOne sub r p = .bad p := by unfold rdOne; rw [hr]
    refine fin _ ?_
    rw [er]
    subst this
    unfold ansV
    simp (maxDischargeDepth := 12) [el, LIM]
  | some b =>
    have lt := (List.getElem?_eq_some_iff.mp hr).1
    have b0 := hbs b (List.mem_of_getElem? hr)
    have nl : ¬ (r.length : Int) ≤ p := by omega
    have ex := row_ix (S := S) hr
    have er := rdOne_some (sub := sub) hr
    clear hb hbl
    rw [er] at fin finT ⊢
    clear er
    by_cases c6 : 6 < b
    · rw [if_pos c6] at fin ⊢
      refine fin _ ?_
      unfold ansV
      simp (maxDischargeDepth := 12) [el, nl, ex, c6, LIM]
    rw [if_neg c6] at fin finT ⊢
    have ec : ((p : Int) + 1) = ((p + 1 : Nat) : Int) := by omega
    have e := law_read_whole_eq (S := S) (p := p + 1) hbs lt (by omega)
    rw [← ec] at e
    by_cases d6 : b = 6
    · rw [if_pos d6] at fin finT ⊢
      subst d6
      cases sub with
      | none =>
        have hn := h0 rfl
        subst hn
        refine fin _ ?_
        unfold ansV
        simp (maxDischargeDepth := 12) [el, nl, ex, pEq_int, LIM]
      | some g =>
        obtain ⟨k, rfl, rfl, hk⟩ := h1 g rfl
        have nk : ¬ ((k : Int) + 1 = 0) := by omega
        dsimp only at fin finT ⊢
        unfold rdT at fin finT ⊢
        cases q : rdW r (p + 1) with
        | bad t =>
          rw [q] at e fin
          unfold ansW at e
          refine fin _ ?_
          unfold ansV
          simp (maxDischargeDepth := 12) [el, nl, ex, pEq_int, nk, e, LIM]
        | ok m t =>
          rw [q] at e fin finT
          unfold ansW at e
          obtain ⟨w1, w2, w3⟩ := rdW_back hbs q
          have lp := lr_loop (f := sl S) hbs hk (p0 := p) (many := m) m t [] (sp S (.lst [])) MANY sg_sp_new w3 (by unfold MANY; omega) (by simp; omega) (by simp)
          dsimp only at fin finT ⊢
          unfold LQ bR cR at lp
          simp only [Int.natCast_succ] at lp
          cases q2 : rdMany (rdP k r) m t with
          | bad t' =>
            rw [q2] at lp fin finT
            obtain ⟨ws, lp⟩ := lp
            rw [ss_sp_new] at lp
            refine finT _ (sp S (.lst ws)) (gcOk_grow (Grow.sp _ _)) (by rw [cut_sp (Nat.le_refl _), cut_self]) ?_
            unfold ansV
            simp (maxDischargeDepth := 12) [el, nl, ex, pEq_int, nk, e, lp, LIM]
          | ok ws t' =>
            rw [q2] at lp fin finT
            obtain ⟨lp, ht⟩ := lp
            rw [ss_sp_new, List.nil_append] at lp
            refine finT _ (sp S (.lst ws)) (gcOk_grow (Grow.sp _ _)) (by rw [cut_sp (Nat.le_refl _), cut_self]) ?_
            unfold ansV
            simp (maxDischargeDepth := 12) [el, nl, ex, pEq_int, nk, e, lp, LIM]
    rw [if_neg d6] at fin finT ⊢
    clear h0 h1 finT
    have q : ∀ v, below (sl S) v = true → gcR S (.ok v (sp S (.lst [.non, .bl false, .bl true]))) = .ok v S := fun v hv => by
      rw [gcR_ok, gate_pos (gcOk_grow (Grow.sp _ _)), gcV_low hv, cut_sp (Nat.le_refl _), cut_self]
    by_cases d0 : b = 0
    · rw [if_pos d0] at fin ⊢
      subst d0
      refine fin _ ?_
      unfold ansV
      simp (maxDischargeDepth := 12) [el, nl, ex, pEq_int, q, LIM, -gcR_ok]
    rw [if_neg d0] at fin ⊢
    by_cases d1 : b = 1
    · rw [if_pos d1] at fin ⊢
      subst d1
      refine fin _ ?_
      unfold ansV
      simp (maxDischargeDepth := 12) [el, nl, ex, pEq_int, q, LIM, -gcR_ok]
    rw [if_neg d1] at fin ⊢
    by_cases d2 : b = 2
    · rw [if_pos d2] at fin ⊢
      subst d2
      refine fin _ ?_
      unfold ansV
      simp (maxDischargeDepth := 12) [el, nl, ex, pEq_int, q, LIM, -gcR_ok]
    rw [if_neg d2] at fin ⊢
    clear q
    have n3 : ¬ b < 3 := by omega
    by_cases d5 : b = 5
    · rw [if_pos d5] at fin ⊢
      subst d5
      unfold rdS at fin ⊢
      cases q : rdW r (p + 1) with
      | bad t =>
        rw [q] at e fin
        unfold ansW at e
        refine fin _ ?_
        unfold ansV
        simp (maxDischargeDepth := 12) [el, nl, ex, pEq_int, e, LIM]
      | ok m t =>
        rw [q] at e fin
        unfold ansW at e
        obtain ⟨w1, w2, w3⟩ := rdW_back hbs q
        have es := law_read_string_eq (S := S) (beg := p + 1) (many := m) (here := t) hbs w3 (by omega)
        rw [← ec] at es
        dsimp only at fin ⊢
        refine fin _ ?_
        obtain ⟨z, hz'⟩ : ∃ z, z = ansV (if 1 ≤ m ∧ m ≤ 20 then (match rdSg r m t with
          | .ok s q => .ok (.str ⟨s.toArray⟩) q
          | .bad q => .bad q) else .bad (p + 1)) := ⟨_, rfl⟩
        have es' : m_law_read_string [rowV r, .int ((p : Int) + 1), .int m, .int t] S = .ok z S := es.trans (congrArg (fun z => R.ok z S) hz'.symm)
        refine Eq.trans ?_ (congrArg (fun z => R.ok z S) hz')
        simp (maxDischargeDepth := 12) [el, nl, ex, pEq_int, e, es', LIM]
    rw [if_neg d5] at fin ⊢
    unfold rdI at fin ⊢
    have c5 : b < 5 := by omega
    cases q : rdW r (p + 1) with
    | bad t =>
      rw [q] at e fin
      unfold ansW at e
      by_cases d3 : b = 3
      · rw [if_pos d3] at fin ⊢
        refine fin _ ?_
        unfold ansV
        simp (maxDischargeDepth := 12) [el, nl, ex, pEq_int, c6, d6, n3, e, LIM]
      · rw [if_neg d3] at fin ⊢
        refine fin _ ?_
        unfold ansV
        simp (maxDischargeDepth := 12) [el, nl, ex, pEq_int, c6, d6, n3, e, LIM]
    | ok m t =>
      rw [q] at e fin
      unfold ansW at e
      by_cases d3 : b = 3
      · rw [if_pos d3] at fin ⊢
        refine fin _ ?_
        unfold ansV
        simp (maxDischargeDepth := 12) [el, nl, ex, pEq_int, c6, d6, n3, c5, d3, e, LIM]
      · rw [if_neg d3] at fin ⊢
        refine fin _ ?_
        unfold ansV
        simp (maxDischargeDepth := 12) [el, nl, ex, pEq_int, c6, d6, n3, c5, d3, e, LIM]
end
theorem law_read_eq {r : List Int} (hbs : Bys r) (hz : r.length < 50000) : ∀ (n fu : Nat) (S : Store) (p : Nat), n < fu → p ≤ r.length → m_law_read fu [rowV r, .int p, .int n] S = .ok (ansV (rdP n r p)) S := by
  intro n
  induction n with
  | zero =>
    intro fu S p hf hp
    cases fu with
    | zero => omega
    | succ fu =>
      have hb : ∀ v q, rdP 0 r p = .ok v q → below (sl S) v = true := fun v q e => isP_below (rdP_adv hbs e).2.2
      unfold rdP at hb ⊢
      exact lr_one hbs hz hp (fun _ => rfl) (fun f e => by cases e) hb
  | succ n ih =>
    intro fu S p hf hp
    cases fu with
    | zero => omega
    | succ fu =>
      have hb : ∀ v q, rdP (n + 1) r p = .ok v q → below (sl S) v = true := fun v q e => isP_below (rdP_adv hbs e).2.2
      unfold rdP at hb ⊢
      refine lr_one hbs hz hp (fun e => by cases e) (fun f e => ?_) hb
      cases e
      exact ⟨n, rfl, rfl, fun S p hp => ih fu S p (by omega) hp⟩
def toldV (r : List Int) : Val := match rdAll r with
  | .ok v _ => .tup [v]
  | .bad q => .int q
theorem law_told_eq {S : Store} {r : List Int} (hbs : Bys r) (hz : r.length < 50000) : m_law_told [rowV r] S = .ok (toldV r) S := by
  have e := law_read_eq hbs hz 20 40 S 0 (by omega) (Nat.zero_le _)
  have e' : m_law_read 40 [rowV r, .int 0, .int 20] S = .ok (ansV (rdP 20 r 0)) S := e
  have el := row_len r S
  unfold toldV rdAll
  cases q : rdP 20 r 0 with
  | bad t =>
    rw [q] at e'
    unfold ansV at e'
    unfold m_law_told
    simp (maxDischargeDepth := 12) [startL, e', el]
  | ok v t =>
    rw [q] at e'
    unfold ansV at e'
    obtain ⟨a1, a2, a3⟩ := rdP_adv hbs q
    have hb := isP_below (k := sl S) a3
    dsimp only
    by_cases c : t < r.length
    · rw [if_pos c]
      have c' : ¬ (t : Int) = r.length := by omega
      unfold m_law_told
      simp (maxDischargeDepth := 12) [startL, e', el, pEq_int, c']
    · rw [if_neg c]
      have c' : (t : Int) = r.length := by omega
      unfold m_law_told
      simp (maxDischargeDepth := 12) [startL, e', el, pEq_int, c', hb]
end KR

/-! KRs: the places of what is none. -/
namespace KR
open Mp
open PySem (Str)
theorem rdW_bad {r : List Int} {p q : Nat} (h : rdW r p = .bad q) : q = p := by
  unfold rdW at h
  split at h
  · cases h; rfl
  · split at h
    · cases h; rfl
    · cases h
theorem rdSg_bad {r : List Int} : ∀ {k p q : Nat}, rdSg r k p = .bad q → p ≤ r.length → q ≤ r.length
  | 0, p, q, h, _ => by cases h
  | k + 1, p, q, h, hp => by
    unfold rdSg at h
    cases e : r[p]? with
    | none => rw [e] at h; cases h; exact hp
    | some b =>
      rw [e] at h
      dsimp only at h
      have lt := (List.getElem?_eq_some_iff.mp e).1
      split at h
      · cases e2 : rdSg r k (p + 1) with
        | ok s t => rw [e2] at h; cases h
        | bad t => rw [e2] at h; cases h; exact rdSg_bad e2 lt
      · cases h; exact hp
theorem rdS_bad {r : List Int} (hb : Bys r) {p q : Nat} (h : rdS r p = .bad q) (hp : p ≤ r.length) : q ≤ r.length := by
  unfold rdS at h
  cases e : rdW r p with
  | bad t => rw [e] at h; cases h; rw [rdW_bad e]; exact hp
  | ok k t =>
    rw [e] at h
    dsimp only at h
    obtain ⟨_, _, w3⟩ := rdW_back hb e
    split at h
    · cases e2 : rdSg r k t with
      | ok s t => rw [e2] at h; cases h
      | bad t => rw [e2] at h; cases h; exact rdSg_bad e2 w3
    · cases h; exact hp
theorem rdMany_bad {r : List Int} {f : Nat → Rd Val} (ih : ∀ p q, f p = .bad q → p ≤ r.length → q ≤ r.length) (ih2 : ∀ v p q, f p = .ok v q → q ≤ r.length) : ∀ {k p q : Nat}, rdMany f k p = .bad q → p ≤ r.length → q ≤ r.length
  | 0, p, q, h, _ => by cases h
  | k + 1, p, q, h, hp => by
    unfold rdMany at h
    cases e : f p with
    | bad t => rw [e] at h; cases h; exact ih p q e hp
    | ok v t =>
      rw [e] at h
      dsimp only at h
      cases e2 : rdMany f k t with
      | ok s t => rw [e2] at h; cases h
      | bad t' => rw [e2] at h; cases h; exact rdMany_bad ih ih2 e2 (ih2 v p t e)
theorem rdI_bad {g : Nat → Int} {r : List Int} {p q : Nat} (h : rdI g r p = .bad q) : q = p := by
  unfold rdI at h
  cases e : rdW r p with
  | bad t => rw [e] at h; cases h; exact rdW_bad e
  | ok k t => rw [e] at h; cases h
theorem rdOne_bad {r : List Int} (hb : Bys r) {sub : Option (Nat → Rd Val)} (ht : ∀ f p q, sub = some f → rdT f r p = .bad q → p ≤ r.length → q ≤ r.length) {p q : Nat} (h : rdOne sub r p = .bad q) (hp : p ≤ r.length) : q ≤ r.length := by
  cases e : r[p]? with
  | none =>
    have er : rdOne sub r p = .bad p := by unfold rdOne; rw [e]
    rw [er] at h
    cases h
    exact hp
  | some b =>
    have lt := (List.getElem?_eq_some_iff.mp e).1
    rw [rdOne_some e] at h
    split at h
    · cases h; exact hp
    split at h
    · cases sub with
      | none => cases h; exact hp
      | some f => exact ht f (p + 1) q rfl h lt
    split at h
    · cases h
    split at h
    · cases h
    split at h
    · cases h
    split at h
    · exact rdS_bad hb h lt
    split at h
    · rw [rdI_bad h]; exact lt
    · rw [rdI_bad h]; exact lt
theorem rdP_bad {r : List Int} (hb : Bys r) : ∀ (n p q : Nat), rdP n r p = .bad q → p ≤ r.length → q ≤ r.length := by
  intro n
  induction n with
  | zero =>
    intro p q h hp
    unfold rdP at h
    exact rdOne_bad hb (fun f p q e => by cases e) h hp
  | succ n ih =>
    intro p q h hp
    unfold rdP at h
    refine rdOne_bad hb (fun f p q e h hp => ?_) h hp
    cases e
    unfold rdT at h
    cases e : rdW r p with
    | bad t => rw [e] at h; cases h; rw [rdW_bad e]; exact hp
    | ok k t =>
      rw [e] at h
      dsimp only at h
      obtain ⟨_, _, w3⟩ := rdW_back hb e
      cases e2 : rdMany (rdP n r) k t with
      | ok s t => rw [e2] at h; cases h
      | bad t' => rw [e2] at h; cases h; exact rdMany_bad ih (fun v p q hq => (rdP_adv hb hq).2.1) e2 w3
theorem rdAll_bad {r : List Int} (hb : Bys r) {t : Nat} (h : rdAll r = .bad t) : t ≤ r.length := by
  unfold rdAll at h
  cases e : rdP 20 r 0 with
  | bad q => rw [e] at h; cases h; exact rdP_bad hb 20 0 t e (Nat.zero_le _)
  | ok v q =>
    rw [e] at h
    dsimp only at h
    split at h
    · cases h; omega
    · cases h
end KR

/-! printed by gen2.py: defs of the program as combinators -/
namespace KR
open PySem PySem.Spec L2 Mp
noncomputable def m_law_mark_b1 : MS := (sK [2] (sAsg (m2 pMod (mB fInt (aCons (m2 pAdd (m2 pAdd (m2 pMulI (mV 1) (mC (.int 1000003))) (mV 2)) (mC (.int 1))) aNil)) (m2 pSub (m2 pPow (mC (.int 2)) (mC (.int 61))) (mC (.int 1)))) (gN 1)))
noncomputable def m_law_mark : Fn := fG (fDef 3 1
    (sSeq (sAsg (mC (.int 1)) (gN 1))
    (sSeq (Mp.sFor (iV (mV 0)) (gN 2)
    KR.m_law_mark_b1)
    (sRet (mV 1)))))
noncomputable def m_law_sealed : Fn := fG (fDef 3 1
    (sSeq (sAsg (m2 pMod (mA KR.m_law_mark (aCons (mV 0) aNil)) (m2 pPow (mC (.int 2)) (mC (.int 32)))) (gN 1))
    (sRet (mG (m2 pAdd (mB fTuple (aCons (mV 0) aNil)) (mB fTuple (aCons (mLc (iV (mTup (aCons (mC (.int 1)) (aCons (mC (.int 256)) (aCons (mC (.int 65536)) (aCons (mC (.int 16777216)) aNil)))))) [2] (gN 2) tYes (m2 pMod (mB fInt (aCons (m2 pDiv (mV 1) (mV 2)) aNil)) (mC (.int 256)))) aNil)))))))
noncomputable def m_law_opened : Fn := fG (fDef 2 1
    (sSeq (sIf (Mp.tOr (tV (m2 pLt (mB fLen (aCons (mV 0) aNil)) (mC (.int 4)))) (tV (m2 pNe (mA KR.m_law_sealed (aCons (mSl (mV 0) oNo (oSome (m1 pNeg (mC (.int 4))))) aNil)) (mV 0))))
    (sRet (mTup aNil))
    sNx)
    (sSeq (sAsg (mA KR.m_law_told (aCons (mSl (mV 0) oNo (oSome (m1 pNeg (mC (.int 4))))) aNil)) (gN 1))
    (sRet (mIf (tV (m1 (pIsT "tuple") (mV 1))) (mV 1) (mTup aNil))))))
end KR

/-! KRt: seals, opened. -/
namespace KR
open Mp
open PySem (Str)
theorem mark_pos (r : List Int) (hb : Bys r) : 0 ≤ markP r := by
  unfold markP
  have : ∀ (l : List Int) (f : Int), 0 ≤ f → 0 ≤ l.foldl (fun f b => (f * 1000003 + b + 1) % MD) f := by
    intro l
    induction l with
    | nil => intro f h; exact h
    | cons b l ih => intro f h; exact ih _ (Int.emod_nonneg _ (by unfold MD; omega))
  exact this r 1 (by omega)
theorem mark_lt (r : List Int) : markP r < 2305843009213693952 := by
  unfold markP
  have : ∀ (l : List Int) (f : Int), f < 2305843009213693952 → l.foldl (fun f b => (f * 1000003 + b + 1) % MD) f < 2305843009213693952 := by
    intro l
    induction l with
    | nil => intro f h; exact h
    | cons b l ih =>
      intro f h
      refine ih _ ?_
      show (f * 1000003 + b + 1) % 2305843009213693951 < 2305843009213693952
      omega
  exact this r 1 (by omega)
theorem seal_bys {r : List Int} (hb : Bys r) : Bys (sealP r) := by
  have := mark_pos r hb
  intro b h
  unfold sealP at h
  simp only [List.mem_cons, List.not_mem_nil, or_false] at h
  rcases h with rfl | rfl | rfl | rfl <;> omega
theorem seal_len (r : List Int) : (sealP r).length = 4 := rfl
section
variable {S : Store} {r : List Int}
theorem law_mark_eq : m_law_mark [rowV r] S = .ok (.int (markP r)) S := by
  have el := for_fold' (keep := fun _ => True) (g := gN 2) (b := m_law_mark_b1) Val.int (fun f : Int => [some (rowV r), some (.int f), none]) (fun _ => S) (fun _ => True) (fun f b => (f * 1000003 + b + 1) % MD) r 1 (xs := r.map Val.int) (L0 := [some (rowV r), some (.int 1), none]) (S0 := S) rfl rfl rfl trivial (fun _ _ => trivial) (fun f b hb _ => by
    have c : cmul f 1000003 = true := cmul_right (by decide) (by decide)
    refine ⟨.inl ?_, trivial⟩
    unfold m_law_mark_b1 MD
    simp (maxDischargeDepth := 12) [c])
  unfold markP
  unfold rowV at el ⊢
  unfold m_law_mark
  simp (maxDischargeDepth := 12) [startL, el]
theorem law_sealed_eq (hb : Bys r) (hz : r.length < 100000) : m_law_sealed [rowV r] S = .ok (rowV (r ++ sealP r)) S := by
  have e := law_mark_eq (S := S) (r := r)
  have m0 := mark_pos r hb
  obtain ⟨m, hm⟩ : ∃ m, m = markP r := ⟨_, rfl⟩
  have es : sealP r = [(m % 4294967296) / 1 % 256, (m % 4294967296) / 256 % 256, (m % 4294967296) / 65536 % 256, (m % 4294967296) / 16777216 % 256] := by
    unfold sealP
    rw [← hm]
    congr 1
    · omega
    congr 1
    · omega
    congr 1
    · omega
    congr 1
    omega
  rw [← hm] at e m0
  have lc : lcLoop (fun _ => True) [some (rowV r), some (.int (m % 4294967296)), none] (gN 2) tYes (m2 pMod (mB fInt (aCons (m2 pDiv (mV 1) (mV 2)) aNil)) (mC (.int 256))) [.int 1, .int 256, .int 65536, .int 16777216] [] S = .ok ((sealP r).map Val.int) S := by
    have e1 : [Val.int 1, .int 256, .int 65536, .int 16777216] = ([1, 256, 65536, 16777216] : List Int).map Val.int := rfl
    have e2 : (sealP r).map Val.int = ([1, 256, 65536, 16777216] : List Int).map fun w => .int ((m % 4294967296) / w % 256) := by rw [es]; rfl
    rw [e1, e2]
    refine lc_map' Val.int (fun w => .int ((m % 4294967296) / w % 256)) [1, 256, 65536, 16777216] rfl trivial (by simp [LIM]) fun w hw => ?_
    simp only [List.mem_cons, List.not_mem_nil, or_false] at hw
    rcases hw with rfl | rfl | rfl | rfl
    · have c : cdiv 1 = true := cdiv_of (by decide) (by decide)
      simp (maxDischargeDepth := 12) [c]
    · have c : cdiv 256 = true := cdiv_of (by decide) (by decide)
      simp (maxDischargeDepth := 12) [c]
    · have c : cdiv 65536 = true := cdiv_of (by decide) (by decide)
      simp (maxDischargeDepth := 12) [c]
    · have c : cdiv 16777216 = true := cdiv_of (by decide) (by decide)
      simp (maxDischargeDepth := 12) [c]
  obtain ⟨ss, hss⟩ : ∃ ss, ss = sealP r := ⟨_, rfl⟩
  have ls : ss.length = 4 := by rw [hss]; rfl
  have lz : r.length + 4 ≤ 16777216 := by omega
  rw [← hss] at lc ⊢
  have Gk : GcOk S (sp S (.lst (ss.map Val.int))) := gcOk_grow (Grow.sp _ _)
  unfold m_law_sealed
  unfold rowV at e lc ⊢
  simp (maxDischargeDepth := 12) [startL, e, lc, ls, lz, Gk, LIM]
/-! ### opened -/
def bodyR (r : List Int) : List Int := r.take (r.length - 4)
def tailR (r : List Int) : List Int := r.drop (r.length - 4)
def openV (r : List Int) : Val := if 4 ≤ r.length ∧ sealP (bodyR r) = tailR r then (match rdAll (bodyR r) with
  | .ok v _ => .tup [v]
  | .bad _ => .tup []) else .tup []
theorem body_tail (r : List Int) : bodyR r ++ tailR r = r := List.take_append_drop _ _
theorem cut_neg {xs : List Val} {k : Nat} (hk : 0 < k) : cutL xs none (some (-(k : Int))) = xs.take (xs.length - k) ∧ cutL xs (some (-(k : Int))) none = xs.drop (xs.length - k) := by
  have e : HT.sIx xs.length xs.length (some (-(k : Int))) = xs.length - k := by
    unfold HT.sIx
    simp only []
    rw [if_pos (by omega)]
    omega
  have e2 : HT.sIx xs.length 0 (some (-(k : Int))) = xs.length - k := by
    unfold HT.sIx
    simp only []
    rw [if_pos (by omega)]
    omega
  have e3 : HT.sIx xs.length 0 none = 0 := rfl
  have e4 : HT.sIx xs.length xs.length none = xs.length := rfl
  constructor
  · unfold cutL
    rw [e, e3, List.drop_zero, Nat.sub_zero]
  · unfold cutL
    rw [e2, e4, List.take_of_length_le (by simp)]
theorem open_pure (hb : Bys r) : isP 21 (openV r) = true ∧ (bytV 21 (openV r)).length ≤ r.length + 4 := by
  have nilc : isP 21 (.tup []) = true ∧ (bytV 21 (.tup [])).length ≤ r.length + 4 := by
    rw [isP_tup, bytV_tup]
    have : (wholeL ([] : List Val).length).length = 1 := by rw [wholeL_low (by simp)]; rfl
    rw [List.length_cons, List.length_append, this]
    simp
  unfold openV
  split
  · cases q : rdAll (bodyR r) with
    | bad t => exact nilc
    | ok v t =>
      obtain ⟨h1, h2⟩ := rdAll_back (hb.take _) q
      dsimp only
      rw [isP_tup, bytV_tup]
      have : (wholeL [v].length).length = 1 := by rw [wholeL_low (by simp)]; rfl
      rw [List.length_cons, List.length_append, this]
      refine ⟨by simp [h1], ?_⟩
      simp only [List.map_cons, List.map_nil, List.flatten_cons, List.flatten_nil, List.append_nil]
      rw [h2, List.length_take]
      omega
  · exact nilc
theorem open_same (hb : Bys r) (hz : r.length < 50000) : m_law_same 40 [openV r, openV r] S = .ok (.bl true) S := by
  obtain ⟨h1, h2⟩ := open_pure hb
  exact law_same_refl 21 40 (openV r) S (by omega) h1 (by omega)
theorem unsealed_eq (hb : Bys r) (hz : r.length < 50000) : m_unsealed [rowV r] S = .ok (openV r) S := by
  have e1 := is_row_ints (S := S) (r := r) (by omega)
  rw [bys_all hb] at e1
  have el := row_len r S
  unfold openV
  by_cases c4 : 4 ≤ r.length
  · have c4' : ¬ (r.length : Int) < 4 := by omega
    obtain ⟨n1, n2⟩ := cut_neg (xs := r.map Val.int) (k := 4) (by omega)
    rw [List.length_map] at n1 n2
    have b1 : (r.map Val.int).take (r.length - 4) = (bodyR r).map Val.int := by unfold bodyR; rw [List.map_take]
    have t1 : (r.map Val.int).drop (r.length - 4) = (tailR r).map Val.int := by unfold tailR; rw [List.map_drop]
    rw [b1] at n1
    rw [t1] at n2
    have n1' : cutL (r.map Val.int) none (some (-4)) = (bodyR r).map Val.int := n1
    have n2' : cutL (r.map Val.int) (some (-4)) none = (tailR r).map Val.int := n2
    have e2 := seal_of_eq (S := S) (r := bodyR r)
    have hbb : Bys (bodyR r) := hb.take _
    have e3 := parcel_of_eq (S := S) hbb (by unfold bodyR; rw [List.length_take]; omega)
    by_cases cs : sealP (bodyR r) = tailR r
    · rw [if_pos ⟨c4, cs⟩]
      cases q : rdAll (bodyR r) with
      | bad t =>
        rw [q] at e3
        unfold tellR badE at e3
        unfold rowV at *
        unfold m_unsealed sTry
        simp (maxDischargeDepth := 12) [startL, e1, el, c4', n1', n2', e2, cs, e3, handle, List.lookup, LIM]
      | ok v t =>
        rw [q] at e3
        unfold tellR at e3
        obtain ⟨h1, h2⟩ := rdAll_back hbb q
        have hbl := isP_below (k := sl S) h1
        unfold rowV at *
        unfold m_unsealed sTry
        simp (maxDischargeDepth := 12) [startL, e1, el, c4', n1', n2', e2, cs, e3, LIM, hbl]
    · rw [if_neg fun z => cs z.2]
      unfold rowV at *
      unfold m_unsealed
      simp (maxDischargeDepth := 12) [startL, e1, el, c4', n1', n2', e2, cs, LIM]
  · rw [if_neg fun z => c4 z.1]
    have c4' : (r.length : Int) < 4 := by omega
    unfold m_unsealed
    simp (maxDischargeDepth := 12) [startL, e1, el, c4', LIM]
theorem law_opened_eq (hb : Bys r) (hz : r.length < 50000) : m_law_opened [rowV r] S = .ok (openV r) S := by
  have el := row_len r S
  unfold openV
  by_cases c4 : 4 ≤ r.length
  · have c4' : ¬ (r.length : Int) < 4 := by omega
    obtain ⟨n1, n2⟩ := cut_neg (xs := r.map Val.int) (k := 4) (by omega)
    rw [List.length_map] at n1
    have b1 : (r.map Val.int).take (r.length - 4) = (bodyR r).map Val.int := by unfold bodyR; rw [List.map_take]
    rw [b1] at n1
    have n1' : cutL (r.map Val.int) none (some (-4)) = (bodyR r).map Val.int := n1
    have hbb : Bys (bodyR r) := hb.take _
    have lb : (bodyR r).length < 50000 := by unfold bodyR; rw [List.length_take]; omega
    have e2 := law_sealed_eq (S := S) hbb (by omega)
    have e3 := law_told_eq (S := S) hbb lb
    have eqv : (bodyR r ++ sealP (bodyR r) = r) ↔ sealP (bodyR r) = tailR r := by
      constructor
      · intro h
        have h' : bodyR r ++ sealP (bodyR r) = bodyR r ++ tailR r := h.trans (body_tail r).symm
        exact List.append_cancel_left h'
      · intro h
        rw [h, body_tail]
    obtain ⟨bo, hbo⟩ : ∃ bo, bo = bodyR r := ⟨_, rfl⟩
    rw [← hbo] at n1' hbb lb e2 e3 eqv ⊢
    by_cases cs : sealP bo = tailR r
    · have cr := eqv.mpr cs
      rw [if_pos ⟨c4, cs⟩]
      rw [cr] at e2
      unfold toldV at e3
      cases q : rdAll bo with
      | bad t =>
        rw [q] at e3
        unfold rowV at *
        unfold m_law_opened
        simp (maxDischargeDepth := 12) [startL, el, c4', n1', e2, e3, subTy, LIM]
      | ok v t =>
        rw [q] at e3
        obtain ⟨h1, h2⟩ := rdAll_back hbb q
        have hbl := isP_below (k := sl S) h1
        unfold rowV at *
        unfold m_law_opened
        simp (maxDischargeDepth := 12) [startL, el, c4', n1', e2, e3, subTy, hbl]
    · rw [if_neg fun z => cs z.2]
      have cr : ¬ bo ++ sealP bo = r := fun z => cs (eqv.mp z)
      have ne : pNe (rowV (bo ++ sealP bo)) (rowV r) S = .ok (.bl true) S := by
        unfold rowV
        rw [pNe_ints]
        simp [cr]
      unfold rowV at *
      unfold m_law_opened
      simp (maxDischargeDepth := 12) [startL, el, c4', n1', LIM, -pNe_ints]
      simp (maxDischargeDepth := 12) [e2, ne, -pNe_ints, -List.map_append, LIM]
  · rw [if_neg fun z => c4 z.1]
    have c4' : (r.length : Int) < 4 := by omega
    unfold m_law_opened
    simp (maxDischargeDepth := 12) [startL, el, c4', LIM]
end
end KR

/-! MpXplace: own errors with the field place. Printed by mkx.py. -/
namespace PySem
namespace X_place
open PySem.W PySem.Calls PyProof.Rows PySem.HandSPX
/-! ### the text of __init__ -/
def iA (p1 p2 : Pos) : Arguments := { posonlyargs := [], args := [{ arg := "self", annotation := none, pos := p1 }, { arg := "place", annotation := none, pos := p2 }], vararg := none, kwonlyargs := [], kw_defaults := [], kwarg := none, defaults := [] }
def iB (q1 q2 q3 q4 : Pos) : List Stmt := [.Assign [.Attribute (.Name "self" q1) "place" q2] (.Name "place" q3) q4]
def iS : Scope := { kind := .function, names := [(PySem.Str.ofString "self", .local), (PySem.Str.ofString "place", .local)], isGenerator := false, isCoroutine := false, more := [] }
/-- what the written part says of Low, at C, and of its __init__, at fI -/
structure LowTxt (K : Frag) (mg : Str → Option Value) (c qn : Str) (C fI : Addr) : Prop where
  gC : mg c = some (.ref C)
  cls : ∃ nm q N bs bm sn sub ab col dd k0 k1 k2 k3 k5, K.lookup C = some (excClassObj nm q C N bs bm true sn sub ab col dd k0 k1 k2 k3 k5 "ValueError.__new__") ∧ refsVE bm = true
  sa : findIn K (.ref C) "__setattr__" = some (some (.builtin "object.__setattr__"))
  ga : findIn K (.ref C) "__getattribute__" = some (some (.builtin "BaseException.__getattribute__"))
  gg : findIn K (.ref C) "__getattr__" = some none
  noN : findIn K (.ref C) "place" = some none
  iC : findIn K (.ref C) "__init__" = some (some (.ref fI))
  tC : typeIn K (.ref fI) = some (.type "function")
  kC : keepIn K (.ref C) = true
  exC : subIn K (.ref C) (.type "BaseException") = some true
  tyC : typeIn K (.ref C) = some (.type "type")
  hdC : hasDictIn K C = true
  te : exmOne K (.ref C) (.ref C) = some true
  fn : ∃ (oc : Value) (od : Option Addr) (doc pm : Value) (an : Option Addr) (cdv ct : Value) (osl : Array (Option Value)) (p1 p2 q1 q2 q3 q4 : Pos),
    K.lookup fI = some ⟨oc, od, .func (fnOf "__init__" qn (iA p1 p2) (iB q1 q2 q3 q4) iS .none .none doc pm an cdv ct), osl⟩ ∧ codeIn K cdv qn = true
theorem one_size (v : Value) : [v].length ≤ sizeLine := by
  rw [sizeLine_eq]
  exact (by decide : 1 ≤ 16777216)
theorem kept_but {K : Frag} {h h' : Heap} {x : Addr} (X : K.In h) (hx : K.lookup x = none) (k : ∀ b o, b ≠ x → h.get? b = some o → h'.get? b = some o) : K.In h' := fun a o e =>
  k a o (fun z => by rw [z, hx] at e; cases e) (X a o e)
theorem ldC {M : Model} {s : Shared} {name : Str} {scope : Scope} {L a : Addr} {cd : Value} {m : Str → Option Value} {x : Str} {pos : Pos} {v : Value} {Q : Value → Shared → Prop} {A : Around} {E : Value → Shared → Prop} (hn : s.heap.Ns L m) (hv : m x = some v) (h : Q v s)
    (hk : scope.kind = .function := by rfl) (hl : (envOfC name scope L a cd).kindOf x = some .local := by rfl) (hd : (x == ("__debug__" : Str)) = false := by decide) :
    wpAny M A (eval (.Name x pos) (envOfC name scope L a cd)) Q E s := wpAny_Name (wpAny_loadName_local hk hl hn hv h) hd
/-- what __init__ leaves of a fresh exception at x -/
structure InitEnd (h h' : Heap) (x C dx t1 : Addr) (v : Value) : Prop where
  keep : ∀ b o, b ≠ x → h.get? b = some o → h'.get? b = some o
  obj : h'.get? x = some { cls := .ref C, dict := some dx, data := .fields #[.ref t1, .none, .none, .none, .bool false, .none] }
  dbig : h.objs.size ≤ dx
  dne : dx ≠ x
  ns : h'.Ns1 dx (fun y => if y = "place" then some v else none)
/-- a made Low -/
structure OwnMade (h h' : Heap) (e C d : Addr) (v : Value) : Prop where
  keep : ∀ b o, h.get? b = some o → h'.get? b = some o
  new : h.objs.size ≤ e
  obj : ∃ oe vs, h'.get? e = some oe ∧ oe.cls = .ref C ∧ oe.dict = some d ∧ oe.data = .fields vs ∧ vs[1]? = some .none
  dbig : h.objs.size ≤ d
  dne : d ≠ e
  ns : h'.Ns1 d (fun y => if y = "place" then some v else none)
section
variable {prog : Program} {w : World} {A : Around} {E : Value → Shared → Prop} {R : Result → Shared → Prop} {s : Shared} {K : Frag} {mg : Str → Option Value} {C fI : Addr} {c qn : Str}
theorem low_init (T : LowTxt K mg c qn C fI) {x t0 : Addr} {v : Value} (X : K.In s.heap) (hlim : s.heap.NoLimit) (hx : s.heap.get? x = some (excO C t0)) (hnx : K.lookup x = none) (hroom : A.depth < recursionLimit)
    (hq : ∀ h' tk dx, InitEnd s.heap h' x C dx t0 v → R (.ok (.ret .none)) { s with heap := h', toks := tk }) :
    codeAny (model prog w) A (.call (.ref fI) ⟨[.ref x, v], []⟩) R s := by
  obtain ⟨oc, od, doc, pm, an, cdv, ct, osl, p1, p2, q1, q2, q3, q4, ho, hcd⟩ := T.fn
  obtain ⟨nm, q, N, bs, bm, sn, sub, ab, col, dd, k0, k1, k2, k3, k5, hC, hbm⟩ := T.cls
  have hcl : clsIn K C = some { name := nm, bases := bs, mro := .ref C :: bm, ns := N, qualname := q, hasDict := true, slotNames := sn, subclasses := sub, abstract := ab, collection := col, hasDel := false } := by unfold clsIn; rw [hC] <;> rfl
  refine Att.call_fn (binds := [("self", .ref x), ("place", v)]) X hlim ho hcd hroom (BindsTo.of_eq (by first | rfl | with_unfolding_all rfl)) (by first | rfl | decide | with_unfolding_all rfl) (fun s₁ IC => ?_) rfl rfl rfl
  obtain ⟨h₁, tk₁, rfl⟩ := IC.toInCall.same
  have k : ∀ b o, s.heap.get? b = some o → h₁.get? b = some o := IC.toInCall.keep
  have hn := IC.toInCall.ns
  have hxL : s.heap.objs.size ≠ x := Nat.ne_of_gt (Heap.lt_size hx)
  have X₁ : K.In h₁ := X.keeps k
  have hx₁ := k _ _ hx
  -- self.by = by
  show wpAny _ _ (execs _ _) _ _ _
  refine wpAny_execs_cons (plainObj_wpAny_Assign_Attribute ?_)
  refine ldC (v := v) hn (by first | rfl | with_unfolding_all rfl | kernel_rfl) (ldC (v := .ref x) hn (by first | rfl | with_unfolding_all rfl | kernel_rfl) ?_)
  refine set_plain X₁ (ox := excO C t0) (od := none) ⟨hx₁, rfl, rfl, trivial⟩ T.sa ?_
  refine exc_osa X₁ hx₁ hcl (show refsVE (.ref C :: bm) = true from hbm) rfl T.noN (fun h₃ tk₃ dx k₃ dn dne hx₃ hn₃ => ?_)
  show wpAny _ _ (execs _ _) _ _ _
  have z : s.heap.objs.size < h₁.objs.size := hn.lt
  exact wpAny_execs_nil (hq h₃ tk₃ dx ⟨fun b o hb e => k₃ b o hb (k b o e), hx₃, Nat.le_of_lt (Nat.lt_of_lt_of_le z dn), dne, hn₃⟩)
theorem low_made (T : LowTxt K mg c qn C fI) {v : Value} (X : K.In s.heap) (hlim : s.heap.NoLimit) (hroom : A.depth + 1 < recursionLimit)
    (hq : ∀ h' tk e d, OwnMade s.heap h' e C d v → R (.ok (.ret (.ref e))) { s with heap := h', toks := tk }) :
    codeAny (model prog w) A (.call (.ref C) ⟨[v], []⟩) R s := by
  obtain ⟨nm, q, N, bs, bm, sn, sub, ab, col, dd, k0, k1, k2, k3, k5, hC, hbm⟩ := T.cls
  obtain ⟨hp, g, dr, tk, os⟩ := s
  have k : ∀ b o, hp.get? b = some o → ((hp.push (kdv_tup [v])).push (excO C hp.objs.size)).get? b = some o := fun b o e => Heap.get?_push_of_some _ (Heap.get?_push_of_some _ e)
  have hget : ((hp.push (kdv_tup [v])).push (excO C hp.objs.size)).get? (hp.objs.size + 1) = some (excO C hp.objs.size) := by heap_get
  have hnx : K.lookup (hp.objs.size + 1) = none := by
    cases e : K.lookup (hp.objs.size + 1) with
    | none => rfl
    | some o =>
      have z : hp.get? (hp.objs.size + 1) = some o := X _ _ e
      exact absurd (Nat.lt_of_succ_lt (Heap.lt_size z)) (Nat.lt_irrefl _)
  refine call_own F.excBase_ValueError (fun X => refsVE_contains X bm hbm) (X _ _ hC) (looks_findIn X T.iC) (fun self => bind_fn X self T.tC) (one_size v) ?_
  refine low_init (s := ⟨(hp.push (kdv_tup [v])).push (excO C hp.objs.size), g, dr, tk, os⟩) T (X.keeps k) (hlim.keeps k) hget hnx ?_ fun h' tk' dx ⟨k', hx, dn, dne, hns⟩ => ?_
  · show A.depth + 1 < recursionLimit
    exact hroom
  · have old : ∀ b o, hp.get? b = some o → h'.get? b = some o := fun b o e => k' b o (Nat.ne_of_lt (Nat.lt_succ_of_lt (Heap.lt_size e))) (k b o e)
    have z : hp.objs.size + 1 + 1 ≤ dx := by
      first
        | (simpa only [Heap.size_push] using dn)
        | exact dn
        | (have q := dn; rw [Heap.size_push, Heap.size_push] at q; exact q)
    exact ⟨rfl, hq h' tk' (hp.objs.size + 1) dx ⟨old, Nat.le_succ _, ⟨_, _, hx, rfl, rfl, rfl, rfl⟩, Nat.le_trans (Nat.le_trans (Nat.le_succ _) (Nat.le_succ _)) z, dne, hns⟩⟩
end
end X_place
end PySem
namespace L2
open PySem PySem.Spec PyProof.Rows
theorem relO_low_place {v : V} {v' : Value} (r : RelV v v') (f : Str) : RelO (List.lookup f [(("place" : Str), v)]) (if f = "place" then some v' else none) := by
  by_cases hw : f = "place"
  · subst hw
    rw [if_pos rfl]
    have q : List.lookup ("place" : Str) [(("place" : Str), v)] = some v := by simp [List.lookup]
    rw [q]
    exact r
  · rw [if_neg hw]
    have qw : (f == ("place" : Str)) = false := by simpa using hw
    have q2 : List.lookup f [(("place" : Str), v)] = none := by simp [List.lookup, qw]
    rw [q2]
    trivial
section
variable {X : Cx} {C fI : Addr} {c qn : Str}
/-- Low(e) -/
def tMkLow_place (C : Addr) (ta : TA) : St → Hp → XK → Prop := fun σ H Q => ta σ H fun vs H1 => ∃ v, vs = [v] ∧ ∀ d, H1 d = none → Q (.ref C) (some d) (upd H1 d (.xd [(("place" : Str), v)]))
theorem pmk_low_place {a : Expr} {ta : TA} {p pos : Pos} {k : Nat} (T : PySem.X_place.LowTxt X.K X.mg c qn C fI) (hr : Room k X.A) (ha : PA X [a] ta) (hg : Gl X c := by rfl) (hdb : (c == ("__debug__" : Str)) = false := by decide)
    (he : starEach (a :: []) X.env = (false, eval a X.env) :: starEach [] X.env := by rfl) (hpl : (backTo pos (starEach [] X.env)).any (·.1) = false := by rfl) :
    PMk X (.Call (.Name c p) [a] [] pos) (tMkLow_place C ta) := by
  intro pins s σ H Q I h
  refine wpAny_Call_Name_kw (ld_glob I hg T.gC ?_ hdb)
  refine PySem.W.callWith_K (h₀ := X.base) I.ok.mod.kin T.kC (thn (ha.run pos pins s σ H _ I h) fun us s1 hh => ?_) he hpl
  obtain ⟨vs, H1, I1, r1, v, ev, q1⟩ := hh
  subst ev
  refine ⟨I1.kIn, ?_⟩
  cases r1 with
  | cons rv rn =>
    rename_i v' us'
    cases rn
    show wpAny _ _ (call (.ref C) [v']) _ _ _
    have hlim := I1.nolimit
    obtain ⟨hp, g, dr, tk, os⟩ := s1
    refine wpAny_call (PySem.X_place.low_made T I1.kIn hlim (by have := hr.dp; omega) fun h' tk' e d M => ?_)
    show MkP X pins σ Q (.ref e) ⟨h', g, dr, tk', os⟩
    obtain ⟨oe, fv, hoe, hc, hd, hdat, h1⟩ := M.obj
    have hns := M.ns
    obtain ⟨G', g1, g2⟩ := restrict h' fun b => decide (b ≠ e)
    have gk : ∀ b, b ≠ e → G'.get? b = h'.get? b := fun b hb => g1 b (decide_eq_true hb)
    have ge : G'.get? e = none := g2 e (by simp)
    have old : ∀ b o, hp.get? b = some o → G'.get? b = some o := fun b o q => (gk b (Nat.ne_of_lt (Nat.lt_of_lt_of_le (Heap.lt_size q) M.new))).trans (M.keep b o q)
    have ob : ObjOk X.prog X.w (upd H1 d (.xd [(("place" : Str), v)])) G' d (.xd [(("place" : Str), v)]) :=
      ⟨_, hns.at (fun o q => (gk d M.dne).trans q), fun f => relO_low_place rv f⟩
    have J : Inv X pins σ (upd H1 d (.xd [(("place" : Str), v)])) ⟨G', g, dr, tk', os⟩ := I1.laid (t' := tk') old M.dbig ob
    refine ⟨e, oe, fv, ⟨G', g, dr, tk', os⟩, _, .ref C, some d, rfl, J, fun b o q => ?_, ge, hoe, ⟨hc, hd⟩, hdat, h1, ?_, rfl, I1.bare, raises_own T.exC T.tyC, q1 d (I1.hok.fresh M.dbig)⟩
    · by_cases hb : b = e
      · have q' : G'.get? b = some o := q
        rw [hb, ge] at q'; cases q'
      · exact (gk b hb).symm.trans q
    · rw [upd_ne (Ne.symm M.dne)]
      exact I1.hok.fresh M.new
/-- raise Low(e) -/
def tRaiseLow_place (C : Addr) (W : WX) (ta : TA) : TS := fun _ σ H => tMkLow_place C ta σ H fun cls d H' => W cls d σ H'
theorem ps_raiseLow_place {a : Expr} {ta : TA} {W : WX} {p pos pos2 : Pos} {k : Nat} (hc : X.calm = true) (T : PySem.X_place.LowTxt X.K X.mg c qn C fI) (hr : Room k X.A) (tk : Takes X W) (ha : PA X [a] ta) (hg : Gl X c := by rfl) (hdb : (c == ("__debug__" : Str)) = false := by decide)
    (he : starEach (a :: []) X.env = (false, eval a X.env) :: starEach [] X.env := by rfl) (hpl : (backTo pos (starEach [] X.env)).any (·.1) = false := by rfl) :
    PS X (.Raise (some (.Call (.Name c p) [a] [] pos)) none pos2) (tRaiseLow_place C W ta) := ps_raise hc tk (pmk_low_place T hr ha hg hdb he hpl)
/-- low.by, low the exception that the suite holds (at a; its class cls, its dict d) -/
def tByLow_place (C : Addr) (a : Addr) (cls : Value) (d : Option Addr) (te : TE) : TE := fun σ H Q => te σ H fun x H1 => x = .ref a ∧ cls = .ref C ∧ ∃ (dd : Addr) (v : V), d = some dd ∧ H1 dd = some (.xd [(("place" : Str), v)]) ∧ Q v H1
theorem pe_byLow_place {a : Addr} {oe : Obj} {cls : Value} {d : Option Addr} {pn : List (Addr × Obj)} {e : Expr} {te : TE} {pos : Pos} (T : PySem.X_place.LowTxt X.K X.mg c qn C fI) (hz : Zc cls d oe) (hf : ∃ vs, oe.data = .fields vs) (he : PE (X.suite a ((a, oe) :: pn)) e te)
    (hb : attributeBase e "place" X.env (eval e X.env) = eval e X.env := by rfl) :
    PE (X.suite a ((a, oe) :: pn)) (.Attribute e "place" pos) (tByLow_place C a cls d te) := by
  refine ⟨fun pins s σ H Q I h => ?_⟩
  refine attr_of hb (thn (he.run pins s σ H _ I h) fun u s1 hh => ?_)
  obtain ⟨x, H1, I1, rx, ex, ec, dd, v, ed, ea, q⟩ := hh
  subst ex
  obtain rfl : u = Value.ref a := rx
  subst ec
  subst ed
  obtain ⟨ha, _⟩ := I1.pin (a, oe) (List.mem_append_left _ List.mem_cons_self)
  obtain ⟨vs, hd⟩ := hf
  have hx : ObjOk X.prog X.w H1 s1.heap dd (.xd [(("place" : Str), v)]) := I1.hok dd _ ea
  obtain ⟨mA, hns, hr⟩ := hx
  obtain ⟨od, ho, hl⟩ := lookIn_ns hns
  have l : List.lookup ("place" : Str) [(("place" : Str), v)] = some v := by simp [List.lookup]
  obtain ⟨u, hu, ru⟩ := RelO.some_of (v := v) (o := mA "place") (by rw [← l]; exact hr "place")
  have J : PySem.W.InstAt s1.heap a oe C (some od) := ⟨ha, hz.1, by unfold PySem.W.notCls; rw [hd] <;> rfl, by rw [hz.2]; exact ho⟩
  exact HandSPX.exc_get I1.kIn J T.ga T.gg T.exC (PySem.W.findObj_own T.hdC T.noN rfl (by rw [hl, hu])) (handed_of ru) ⟨v, H1, I1.tok _, ru, q⟩
end
end L2


namespace Mp
open PySem PySem.Spec L2
variable {X : Cx} {W : WX}
theorem hdOne_place {K : PySem.W.Frag} {mg : Str → Option Value} {x qn : Str} {C fI : Addr} (T : PySem.X_place.LowTxt K mg x qn C fI) : HdOk K mg (.ref C) [(x, true)] := fun p hp => by
  simp at hp
  subst hp
  exact ⟨C, T.gC, T.te⟩
theorem s_raise_place {c qn : Str} {C fI : Addr} {a : Expr} {me : ME} {p pos pos2 : Pos} {k : Nat} (hc : X.calm = true) (T : PySem.X_place.LowTxt X.K X.mg c qn C fI) (hr : Room k X.A) (tk : Takes X W) (ha : PAm X W [a] (aCons me aNil)) (hg : Gl X c) (hdb : (c == ("__debug__" : Str)) = false)
    (he : starEach (a :: []) X.env = (false, eval a X.env) :: starEach [] X.env := by rfl) (hpl : (backTo pos (starEach [] X.env)).any (·.1) = false := by rfl) :
    PSm X W (.Raise (some (.Call (.Name c p) [a] [] pos)) none pos2) (sRaise c [("place" : Str)] (aCons me aNil)) :=
  PS.imp (ps_raiseLow_place (k := k) hc T hr tk ha hg hdb he hpl) fun D σ H ⟨ρ, S, L, s, l, h⟩ => by
    have h' : PostF X.K X.mg W ρ S H (thenF L (aCons me aNil L S) fun vs S1 => .exn ⟨c, [("place" : Str)].zip vs⟩ L S1) D := h
    refine ⟨ρ, S, L, s, l, (PostF.then (rel := relVs X.K) s l h').mono fun vs H1 ⟨ρ1, S1, b, eb, e, s1, v, q⟩ => ?_⟩
    obtain ⟨x, rfl⟩ := one_len eb
    have v' : VRs X.K ρ1 S1.length H1 [x] vs := v
    simp only [VRs] at v'
    obtain ⟨u, us, rfl, v1, rfl⟩ := v'
    refine ⟨u, rfl, fun d hd => ?_⟩
    have s2 := s1.side (o := .xd [(("place" : Str), u)]) hd
    have e2 : Ext ρ1 S1 H1 ρ1 S1 (upd H1 d (.xd [(("place" : Str), u)])) := Ext.side hd
    refine q ρ1 _ σ (.ref C) (some d) e2 s2 ((l.ext s e).ext s1 e2) ⟨⟨C, T.gC, rfl⟩, fun _ => ⟨d, _, rfl, upd_same, rfl, ?_⟩⟩
    show VRs X.K ρ1 S1.length _ [x] [u]
    simp only [VRs]
    exact ⟨u, [], rfl, VR.ext s1 e2 x u v1, rfl⟩
theorem s_try_as_place {x n qn t : Str} {C fI : Addr} {i k1 : Nat} {body : List Stmt} {kb : MS} {U : List (Str × Bool)} {np pos pos' rp tp cp ap vp : Pos} {j : Nat} (hs : X.stack = X.env :: X.outer) (hf : X.env.frame = some X.env.locals) (hN : X.N.Nodup) (hi : X.N[i]? = some n) (hk : X.env.kindOf n = some .local)
    (hx : Names X x (.ref C)) (tk : Takes X W) (T : PySem.X_place.LowTxt X.K X.mg x qn C fI) (hu : HdOk X.K X.mg (.ref C) U)
    (hb : ∀ (W : WX) (pn : List (Addr × Obj)) (xe : Value → Shared → Prop), Takes (X.tr pn xe) W → PassesOwn (model X.prog X.w) X.A X.env xe → PSsm (X.tr pn xe) W body kb)
    (hv : ∀ (a : Addr) (oe : Obj) (pn : List (Addr × Obj)), PE (X.suite a ((a, oe) :: pn)) (.Name n vp) (tVar i)) :
    PSm X W (.Try body [.ExceptHandler (some (.Name x np)) (some n) [.Return (some (.Tuple [.Constant (.str t) j cp, .Attribute (.Name n vp) "place" ap] k1 tp)) rp] pos'] [] [] pos) (sTryAs kb i x "place" t U) :=
  PS.imp (ps_try_as (i := i) (c := .ref C) (tb := fun W => TSm X.K X.mg W kb) (ts := fun a cls d => tRet (tTup (tCons (tC (.str t)) (tCons (tByLow_place C a cls d (tVar i)) tNil)))) hs hf hN hi hk hx tk hb
    (fun a oe cls d pn hz hfv => pss_one (ps_ret (pe_tup (pa_cons pe_str (pa_cons (pe_byLow_place T hz hfv (hv a oe pn)) pa_nil)))))) fun D σ H ⟨ρ, S, L, s, l, h⟩ => by
    refine ⟨ρ, S, L, s, l, ?_⟩
    unfold sTryAs at h
    cases hkb : kb L S with
    | exn y L' S' =>
      rw [hkb] at h
      replace h : PostF X.K X.mg W ρ S H (asRet i x "place" t U y L' S') D := h
      intro ρ' H' σ' cls d e s' l' q
      have h' := PostF.step s' e h
      unfold asRet at h'
      obtain ⟨⟨C', g1, rfl⟩, q2⟩ := q
      split at h'
      · rename_i hb1
        obtain ⟨C2, g2, g3⟩ := hu _ (lookup_mem hb1)
        rw [g1] at g2
        cases g2
        split at h'
        · rename_i hc
          obtain ⟨hc1, hc2⟩ := hc
          split at h'
          · rename_i v hv1
            have hfs := fldOf_some hv1
            rw [hc1, T.gC] at g1
            cases g1
            refine ⟨true, g3, fun _ a ha => ?_, fun z => nomatch z⟩
            obtain ⟨dd, us, rfl, hd, kr⟩ := q2 (by rw [hfs]; simp)
            rw [hfs] at kr
            obtain ⟨k1, k2⟩ := kr
            cases us with
            | nil => simp at k1
            | cons z r =>
              cases r with
              | cons z2 r2 => simp at k1
              | nil =>
                obtain ⟨zf, u⟩ := z
                simp at k1
                subst k1
                have k3 : VRs X.K ρ' S'.length H' [v] [u] := k2
                simp only [VRs] at k3
                obtain ⟨u', _, e1, k4, e2⟩ := k3
                cases e1
                refine ⟨_, List.getElem?_set_self (by have := l'.1; omega), rfl, rfl, dd, u, rfl, hd, (by show 2 ≤ PySem.sizeLine; decide), fun p hp => ?_⟩
                have s2 := s'.side (o := .tup [.str t, u]) hp
                have e2 : Ext ρ' S' H' ρ' S' (upd H' p (.tup [.str t, u])) := Ext.side hp
                refine h' ρ' _ (.ref p) e2 s2 ?_
                simp only [VR]
                refine ⟨p, [.str t, u], rfl, .inl upd_same, ?_⟩
                simp only [VRs, VR]
                exact ⟨_, _, rfl, rfl, _, _, rfl, VR.ext s' e2 v u k4, rfl⟩
          · exact h'.elim
        · exact h'.elim
      · rename_i hb1
        obtain ⟨C2, g2, g3⟩ := hu _ (lookup_mem hb1)
        rw [g1] at g2
        cases g2
        exact ⟨false, g3, (fun z => nomatch z), fun _ => h' ρ' H' σ' _ d (Ext.refl _ _ _) s' l' ⟨⟨_, g1, rfl⟩, q2⟩⟩
      · exact h'.elim
    | nx L' S' => rw [hkb] at h; exact h
    | bk L' S' => rw [hkb] at h; exact h
    | ct L' S' => rw [hkb] at h; exact h
    | rt v S' => rw [hkb] at h; exact h
    | bad => rw [hkb] at h; exact h.elim

end Mp


/-! printed by gen2.py: the defs of the text as combinators, and that they are right -/
namespace K44
open PySem PySem.Spec L2 Mp
def topS (i : Nat) : Stmt := PySem.Challenge.pw_knownquiet_k44_whole_seals_of_rows.main.body.getD i (.Pass ⟨0, 0, 0, 0⟩)
structure Txt (K : PySem.W.Frag) (mg : Str → Option Value) : Prop where
  b_abs : mg "abs" = none
  b_all : mg "all" = none
  b_bool : mg "bool" = none
  b_int : mg "int" = none
  b_isinstance : mg "isinstance" = none
  b_len : mg "len" = none
  b_list : mg "list" = none
  b_min : mg "min" = none
  b_ord : mg "ord" = none
  b_range : mg "range" = none
  b_repr : mg "repr" = none
  b_str : mg "str" = none
  b_sum : mg "sum" = none
  b_tuple : mg "tuple" = none
  b_zip : mg "zip" = none
  c_BASE : ∃ t, mg "BASE" = some (.int 128 t)
  c_BELOW : ∃ t, mg "BELOW" = some (.int 4 t)
  c_BYTES : ∃ t, mg "BYTES" = some (.int 256 t)
  c_FIRST_SIGN : ∃ t, mg "FIRST_SIGN" = some (.int 32 t)
  c_LAST_SIGN : ∃ t, mg "LAST_SIGN" = some (.int 126 t)
  c_MODULUS : ∃ t, mg "MODULUS" = some (.int 2305843009213693951 t)
  c_MOST_DEEP : ∃ t, mg "MOST_DEEP" = some (.int 20 t)
  c_MOST_SIGNS : ∃ t, mg "MOST_SIGNS" = some (.int 20 t)
  c_MULTIPLIER : ∃ t, mg "MULTIPLIER" = some (.int 1000003 t)
  c_NO : ∃ t, mg "NO" = some (.int 1 t)
  c_NOTHING : ∃ t, mg "NOTHING" = some (.int 0 t)
  c_NO_SIGN : ∃ t, mg "NO_SIGN" = some (.int 37 t)
  c_NUMBER : ∃ t, mg "NUMBER" = some (.int 3 t)
  c_SEAL_BYTES : ∃ t, mg "SEAL_BYTES" = some (.int 4 t)
  c_SEVERAL : ∃ t, mg "SEVERAL" = some (.int 6 t)
  c_SIGNS : ∃ t, mg "SIGNS" = some (.str " !\"#$ &'()*+,-./0123456789:;<=>?@ABCDEFGHIJKLMNOPQRSTUVWXYZ[\\]^_`abcdefghijklmnopqrstuvwxyz{|}~" t)
  c_STRING : ∃ t, mg "STRING" = some (.int 5 t)
  c_YES : ∃ t, mg "YES" = some (.int 2 t)
  f_RowReader_at : FldAt K mg "RowReader" "at"
  f_RowReader_row : FldAt K mg "RowReader" "row"
  e_NoParcel : Err0 K mg "NoParcel"
  e_NoRow : Err0 K mg "NoRow"
  low_BadRow : ∃ C fI, PySem.X_place.LowTxt K mg "BadRow" "BadRow.__init__" C fI
  h_BadRow_0 : ∃ C, mg "BadRow" = some (.ref C) ∧ HdOk K mg (.ref C) [("BadRow", true)]
abbrev st_m_law_pool : Stmt := topS 41
abbrev N_m_law_pool : List Str := ["_law_script", "_law_seed", "_law_cell"]
theorem sc_m_law_pool : FnScope N_m_law_pool ["_law_script"] (defScope st_m_law_pool) := ⟨rfl, rfl, rfl, by decide +kernel, rfl, by decide +kernel, by decide +kernel⟩
abbrev st_m_law_draw : Stmt := topS 42
abbrev N_m_law_draw : List Str := ["_law_pool_here", "_law_many", "_law_cells", "_law_digit", "_law_mixed"]
theorem sc_m_law_draw : FnScope N_m_law_draw ["_law_pool_here", "_law_many"] (defScope st_m_law_draw) := ⟨rfl, rfl, rfl, by decide +kernel, rfl, by decide +kernel, by decide +kernel⟩
abbrev st_m_law_number : Stmt := topS 46
abbrev N_m_law_number : List Str := ["_law_pool_here", "_law_kind", "_law_found", "_law_turn"]
theorem sc_m_law_number : FnScope N_m_law_number ["_law_pool_here"] (defScope st_m_law_number) := ⟨rfl, rfl, rfl, by decide +kernel, rfl, by decide +kernel, by decide +kernel⟩
abbrev st_m_law_parcel : Stmt := topS 47
abbrev N_m_law_parcel : List Str := ["_law_pool_here", "_law_deep", "_law_kind", "_law_many", "_law_at", "_law_turn"]
theorem sc_m_law_parcel : FnScope N_m_law_parcel ["_law_pool_here", "_law_deep"] (defScope st_m_law_parcel) := ⟨rfl, rfl, rfl, by decide +kernel, rfl, by decide +kernel, by decide +kernel⟩
abbrev st_m_is_row : Stmt := topS 24
abbrev N_m_is_row : List Str := ["thing", "byte"]
theorem sc_m_is_row : FnScope N_m_is_row ["thing"] (defScope st_m_is_row) := ⟨rfl, rfl, rfl, by decide +kernel, rfl, by decide +kernel, by decide +kernel⟩
abbrev st_m_raw_mark : Stmt := topS 35
abbrev N_m_raw_mark : List Str := ["row", "found", "byte"]
theorem sc_m_raw_mark : FnScope N_m_raw_mark ["row"] (defScope st_m_raw_mark) := ⟨rfl, rfl, rfl, by decide +kernel, rfl, by decide +kernel, by decide +kernel⟩
abbrev st_m_seal_of : Stmt := topS 37
abbrev N_m_seal_of : List Str := ["row", "number", "found", "turn"]
theorem sc_m_seal_of : FnScope N_m_seal_of ["row"] (defScope st_m_seal_of) := ⟨rfl, rfl, rfl, by decide +kernel, rfl, by decide +kernel, by decide +kernel⟩
abbrev st_m_check_row : Stmt := topS 25
abbrev N_m_check_row : List Str := ["thing"]
theorem sc_m_check_row : FnScope N_m_check_row ["thing"] (defScope st_m_check_row) := ⟨rfl, rfl, rfl, by decide +kernel, rfl, by decide +kernel, by decide +kernel⟩
abbrev st_m_RowReader___init__ : Stmt := inClass (topS 33) 0
abbrev N_m_RowReader___init__ : List Str := ["self", "row"]
theorem sc_m_RowReader___init__ : FnScope N_m_RowReader___init__ ["self", "row"] (defScope st_m_RowReader___init__) := ⟨rfl, rfl, rfl, by decide +kernel, rfl, by decide +kernel, by decide +kernel⟩
abbrev st_m_RowReader_next_byte : Stmt := inClass (topS 33) 1
abbrev N_m_RowReader_next_byte : List Str := ["self"]
theorem sc_m_RowReader_next_byte : FnScope N_m_RowReader_next_byte ["self"] (defScope st_m_RowReader_next_byte) := ⟨rfl, rfl, rfl, by decide +kernel, rfl, by decide +kernel, by decide +kernel⟩
abbrev st_m_RowReader_read_whole : Stmt := inClass (topS 33) 2
abbrev N_m_RowReader_read_whole : List Str := ["self", "begin", "found", "worth", "byte"]
theorem sc_m_RowReader_read_whole : FnScope N_m_RowReader_read_whole ["self"] (defScope st_m_RowReader_read_whole) := ⟨rfl, rfl, rfl, by decide +kernel, rfl, by decide +kernel, by decide +kernel⟩
abbrev st_m_is_sign : Stmt := topS 26
abbrev N_m_is_sign : List Str := ["number"]
theorem sc_m_is_sign : FnScope N_m_is_sign ["number"] (defScope st_m_is_sign) := ⟨rfl, rfl, rfl, by decide +kernel, rfl, by decide +kernel, by decide +kernel⟩
abbrev st_m_RowReader_read_string : Stmt := inClass (topS 33) 3
abbrev N_m_RowReader_read_string : List Str := ["self", "begin", "many", "found", "turn", "byte"]
theorem sc_m_RowReader_read_string : FnScope N_m_RowReader_read_string ["self"] (defScope st_m_RowReader_read_string) := ⟨rfl, rfl, rfl, by decide +kernel, rfl, by decide +kernel, by decide +kernel⟩
abbrev st_m_RowReader_read_several : Stmt := inClass (topS 33) 4
abbrev N_m_RowReader_read_several : List Str := ["self", "left", "many", "found"]
theorem sc_m_RowReader_read_several : FnScope N_m_RowReader_read_several ["self", "left"] (defScope st_m_RowReader_read_several) := ⟨rfl, rfl, rfl, by decide +kernel, rfl, by decide +kernel, by decide +kernel⟩
abbrev st_m_RowReader_read_parcel : Stmt := inClass (topS 33) 5
abbrev N_m_RowReader_read_parcel : List Str := ["self", "left", "begin", "sort"]
theorem sc_m_RowReader_read_parcel : FnScope N_m_RowReader_read_parcel ["self", "left"] (defScope st_m_RowReader_read_parcel) := ⟨rfl, rfl, rfl, by decide +kernel, rfl, by decide +kernel, by decide +kernel⟩
abbrev st_m_parcel_of : Stmt := topS 34
abbrev N_m_parcel_of : List Str := ["row", "reader", "found"]
theorem sc_m_parcel_of : FnScope N_m_parcel_of ["row"] (defScope st_m_parcel_of) := ⟨rfl, rfl, rfl, by decide +kernel, rfl, by decide +kernel, by decide +kernel⟩
abbrev st_m_unsealed : Stmt := topS 39
abbrev N_m_unsealed : List Str := ["row", "found"]
theorem sc_m_unsealed : FnScope N_m_unsealed ["row"] (defScope st_m_unsealed) := ⟨rfl, rfl, rfl, by decide +kernel, rfl, by decide +kernel, by decide +kernel⟩
abbrev st_m_law_mark : Stmt := topS 54
abbrev N_m_law_mark : List Str := ["_law_row", "_law_found", "_law_byte"]
theorem sc_m_law_mark : FnScope N_m_law_mark ["_law_row"] (defScope st_m_law_mark) := ⟨rfl, rfl, rfl, by decide +kernel, rfl, by decide +kernel, by decide +kernel⟩
abbrev st_m_law_sealed : Stmt := topS 55
abbrev N_m_law_sealed : List Str := ["_law_row", "_law_left", "_law_worth"]
theorem sc_m_law_sealed : FnScope N_m_law_sealed ["_law_row"] (defScope st_m_law_sealed) := ⟨rfl, rfl, rfl, by decide +kernel, rfl, by decide +kernel, by decide +kernel⟩
abbrev st_m_law_whole : Stmt := topS 44
abbrev N_m_law_whole : List Str := ["_law_number_here", "_law_found"]
theorem sc_m_law_whole : FnScope N_m_law_whole ["_law_number_here"] (defScope st_m_law_whole) := ⟨rfl, rfl, rfl, by decide +kernel, rfl, by decide +kernel, by decide +kernel⟩
abbrev st_m_law_bytes : Stmt := topS 45
abbrev N_m_law_bytes : List Str := ["_law_parcel_here", "_law_found", "_law_part", "_law_sign_here"]
theorem sc_m_law_bytes : FnScope N_m_law_bytes ["_law_parcel_here"] (defScope st_m_law_bytes) := ⟨rfl, rfl, rfl, by decide +kernel, rfl, by decide +kernel, by decide +kernel⟩
abbrev st_m_law_same : Stmt := topS 48
abbrev N_m_law_same : List Str := ["_law_one", "_law_other", "_law_first", "_law_later"]
theorem sc_m_law_same : FnScope N_m_law_same ["_law_one", "_law_other"] (defScope st_m_law_same) := ⟨rfl, rfl, rfl, by decide +kernel, rfl, by decide +kernel, by decide +kernel⟩
abbrev st_m_law_is : Stmt := topS 43
abbrev N_m_law_is : List Str := ["_law_told_here", "_law_due"]
theorem sc_m_law_is : FnScope N_m_law_is ["_law_told_here", "_law_due"] (defScope st_m_law_is) := ⟨rfl, rfl, rfl, by decide +kernel, rfl, by decide +kernel, by decide +kernel⟩
abbrev st_m_is_short_string : Stmt := topS 27
abbrev N_m_is_short_string : List Str := ["thing", "sign"]
theorem sc_m_is_short_string : FnScope N_m_is_short_string ["thing"] (defScope st_m_is_short_string) := ⟨rfl, rfl, rfl, by decide +kernel, rfl, by decide +kernel, by decide +kernel⟩
abbrev st_m_is_parcel_deep : Stmt := topS 28
abbrev N_m_is_parcel_deep : List Str := ["thing", "left", "item"]
theorem sc_m_is_parcel_deep : FnScope N_m_is_parcel_deep ["thing", "left"] (defScope st_m_is_parcel_deep) := ⟨rfl, rfl, rfl, by decide +kernel, rfl, by decide +kernel, by decide +kernel⟩
abbrev st_m_is_parcel : Stmt := topS 29
abbrev N_m_is_parcel : List Str := ["thing"]
theorem sc_m_is_parcel : FnScope N_m_is_parcel ["thing"] (defScope st_m_is_parcel) := ⟨rfl, rfl, rfl, by decide +kernel, rfl, by decide +kernel, by decide +kernel⟩
abbrev st_m_whole : Stmt := topS 30
abbrev N_m_whole : List Str := ["number", "found"]
theorem sc_m_whole : FnScope N_m_whole ["number"] (defScope st_m_whole) := ⟨rfl, rfl, rfl, by decide +kernel, rfl, by decide +kernel, by decide +kernel⟩
abbrev st_m_bytes_of : Stmt := topS 31
abbrev N_m_bytes_of : List Str := ["parcel", "found", "item", "sign"]
theorem sc_m_bytes_of : FnScope N_m_bytes_of ["parcel"] (defScope st_m_bytes_of) := ⟨rfl, rfl, rfl, by decide +kernel, rfl, by decide +kernel, by decide +kernel⟩
abbrev st_m_row_of : Stmt := topS 32
abbrev N_m_row_of : List Str := ["parcel"]
theorem sc_m_row_of : FnScope N_m_row_of ["parcel"] (defScope st_m_row_of) := ⟨rfl, rfl, rfl, by decide +kernel, rfl, by decide +kernel, by decide +kernel⟩
abbrev st_m_sealed : Stmt := topS 38
abbrev N_m_sealed : List Str := ["parcel", "row"]
theorem sc_m_sealed : FnScope N_m_sealed ["parcel"] (defScope st_m_sealed) := ⟨rfl, rfl, rfl, by decide +kernel, rfl, by decide +kernel, by decide +kernel⟩
abbrev st_m_mark : Stmt := topS 36
abbrev N_m_mark : List Str := ["row"]
theorem sc_m_mark : FnScope N_m_mark ["row"] (defScope st_m_mark) := ⟨rfl, rfl, rfl, by decide +kernel, rfl, by decide +kernel, by decide +kernel⟩
abbrev st_m_law_read_whole : Stmt := topS 50
abbrev N_m_law_read_whole : List Str := ["_law_row", "_law_at", "_law_behind", "_law_found", "_law_byte"]
theorem sc_m_law_read_whole : FnScope N_m_law_read_whole ["_law_row", "_law_at"] (defScope st_m_law_read_whole) := ⟨rfl, rfl, rfl, by decide +kernel, rfl, by decide +kernel, by decide +kernel⟩
abbrev st_m_law_sign : Stmt := topS 49
abbrev N_m_law_sign : List Str := ["_law_byte", "_law_signs"]
theorem sc_m_law_sign : FnScope N_m_law_sign ["_law_byte"] (defScope st_m_law_sign) := ⟨rfl, rfl, rfl, by decide +kernel, rfl, by decide +kernel, by decide +kernel⟩
abbrev st_m_law_read_string : Stmt := topS 52
abbrev N_m_law_read_string : List Str := ["_law_row", "_law_begin", "_law_many", "_law_here", "_law_at", "_law_byte"]
theorem sc_m_law_read_string : FnScope N_m_law_read_string ["_law_row", "_law_begin", "_law_many", "_law_here"] (defScope st_m_law_read_string) := ⟨rfl, rfl, rfl, by decide +kernel, rfl, by decide +kernel, by decide +kernel⟩
abbrev st_m_law_read : Stmt := topS 51
abbrev N_m_law_read : List Str := ["_law_row", "_law_at", "_law_left", "_law_sort", "_law_number_here", "_law_here", "_law_found", "_law_part"]
theorem sc_m_law_read : FnScope N_m_law_read ["_law_row", "_law_at", "_law_left"] (defScope st_m_law_read) := ⟨rfl, rfl, rfl, by decide +kernel, rfl, by decide +kernel, by decide +kernel⟩
abbrev st_m_law_told : Stmt := topS 53
abbrev N_m_law_told : List Str := ["_law_row", "_law_found", "_law_here"]
theorem sc_m_law_told : FnScope N_m_law_told ["_law_row"] (defScope st_m_law_told) := ⟨rfl, rfl, rfl, by decide +kernel, rfl, by decide +kernel, by decide +kernel⟩
abbrev st_m_law_opened : Stmt := topS 56
abbrev N_m_law_opened : List Str := ["_law_row", "_law_found"]
theorem sc_m_law_opened : FnScope N_m_law_opened ["_law_row"] (defScope st_m_law_opened) := ⟨rfl, rfl, rfl, by decide +kernel, rfl, by decide +kernel, by decide +kernel⟩
abbrev st_m_law : Stmt := topS 57
abbrev N_m_law : List Str := ["_law_script", "_law_pool_here", "_law_turn", "_law_parcel_here", "_law_row", "_law_told_here", "_law_closed", "_law_at", "_law_byte", "_law_drawn", "_law_some", "_law_thing", "_law_odd", "_law_k"]
theorem sc_m_law : FnScope N_m_law ["_law_script"] (defScope st_m_law) := ⟨rfl, rfl, rfl, by decide +kernel, rfl, by decide +kernel, by decide +kernel⟩
noncomputable def m_law_s1 : MS := (sAsg (mA KR.m_law_pool (aCons (mV 0) aNil)) (gN 1))
noncomputable def m_law_s3 : MS := (sAsg (mA (KR.m_law_parcel 6) (aCons (mV 1) (aCons (mC (.int 3)) aNil))) (gN 3))
noncomputable def m_law_s4 : MS := (sAsg (mB fTuple (aCons (mA (KR.m_law_bytes 40) (aCons (mV 3) aNil)) aNil)) (gN 4))
noncomputable def m_law_s6 : MS := (sRet (mC (.bl false)))
noncomputable def m_law_s5 : MS := (sIf (Mp.tOr (Mp.tNot (tV (mA (KR.m_law_is 40) (aCons (mA KR.m_mark (aCons (mV 4) aNil)) (aCons (mA KR.m_law_mark (aCons (mV 4) aNil)) aNil))))) (Mp.tOr (Mp.tNot (tV (mA (KR.m_law_is 40) (aCons (mA KR.m_mark (aCons (mTup aNil) aNil)) (aCons (mC (.int 1)) aNil))))) (tV (m2 pNe (mA KR.m_sealed (aCons (mV 3) aNil)) (mA KR.m_law_sealed (aCons (mV 4) aNil))))))
    K44.m_law_s6
    sNx)
noncomputable def m_law_s7 : MS := (sAsg (mA KR.m_unsealed (aCons (mA KR.m_law_sealed (aCons (mV 4) aNil)) aNil)) (gN 5))
noncomputable def m_law_s9 : MS := (sRet (mC (.bl false)))
noncomputable def m_law_s8 : MS := (sIf (Mp.tNot (tV (mA (KR.m_law_same 40) (aCons (mV 5) (aCons (mTup (aCons (mV 3) aNil)) aNil)))))
    K44.m_law_s9
    sNx)
noncomputable def m_law_s10 : MS := (sAsg (mA KR.m_law_sealed (aCons (mV 4) aNil)) (gN 6))
noncomputable def m_law_s11 : MS := (sAsg (mA KR.m_law_draw (aCons (mV 1) (aCons (mB fLen (aCons (mV 6) aNil)) aNil))) (gN 7))
noncomputable def m_law_s12 : MS := (sAsg (mA KR.m_law_draw (aCons (mV 1) (aCons (mC (.int 256)) aNil))) (gN 8))
noncomputable def m_law_s13 : MS := (sAsg (mG (mB fTuple (aCons (mLc (iRng1 (aCons (mA KR.m_law_draw (aCons (mV 1) (aCons (mC (.int 9)) aNil))) aNil)) [13] (gN 13) tYes (mA KR.m_law_draw (aCons (mV 1) (aCons (mC (.int 9)) aNil)))) aNil))) (gN 9))
noncomputable def m_law_s14 : MS := (sAsg (mLst (aCons (m2 pAdd (m2 pAdd (mSl (mV 6) oNo (oSome (mV 7))) (mTup (aCons (mV 8) aNil))) (mSl (mV 6) (oSome (m2 pAdd (mV 7) (mC (.int 1)))) oNo)) (aCons (m2 pAdd (mSl (mV 6) oNo (oSome (mV 7))) (mSl (mV 6) (oSome (m2 pAdd (mV 7) (mC (.int 1)))) oNo)) (aCons (m2 pAdd (m2 pAdd (mSl (mV 6) oNo (oSome (mV 7))) (mTup (aCons (mV 8) aNil))) (mSl (mV 6) (oSome (mV 7)) oNo)) (aCons (mSl (mV 6) oNo (oSome (mV 7))) aNil))))) (gN 10))
noncomputable def m_law_s17 : MS := (sRet (mC (.bl false)))
noncomputable def m_law_s16 : MS := (sIf (Mp.tNot (tV (mA (KR.m_law_same 40) (aCons (mA KR.m_unsealed (aCons (mV 11) aNil)) (aCons (mA KR.m_law_opened (aCons (mV 11) aNil)) aNil)))))
    K44.m_law_s17
    sNx)
noncomputable def m_law_b1 : MS := (sK [11] K44.m_law_s16)
noncomputable def m_law_s15 : MS := (Mp.sFor (iV (mG (m2 pAdd (mV 10) (mLst (aCons (mA KR.m_law_sealed (aCons (mV 9) aNil)) (aCons (mA KR.m_law_sealed (aCons (m2 pAdd (mV 4) (mTup (aCons (mV 8) aNil))) aNil)) (aCons (mA KR.m_law_sealed (aCons (mSl (mV 4) oNo (oSome (m1 pNeg (mC (.int 1))))) aNil)) (aCons (mV 9) (aCons (mA KR.m_law_sealed (aCons (mTup aNil) aNil)) aNil))))))))) (gN 11)
    K44.m_law_b1)
noncomputable def m_law_s18 : MS := (sAsg (mLst (aCons (mC .non) (aCons (mB fList (aCons (mV 6) aNil)) (aCons (m2 pAdd (mSl (mV 6) oNo (oSome (m1 pNeg (mC (.int 1))))) (mTup (aCons (mC (.int 256)) aNil))) (aCons (mC (.str "row")) (aCons (mC (.int 0)) (aCons mDK (aCons (m2 pAdd (mV 6) (mTup (aCons (mC (.bl true)) aNil))) (aCons (mTup aNil) (aCons (m2 pMul (mTup (aCons (mC .non) aNil)) (mC (.int 5))) (aCons (m2 pAdd (mSl (mV 6) oNo (oSome (m1 pNeg (mC (.int 1))))) (mTup (aCons (m1 pNeg (mC (.int 1))) aNil))) aNil))))))))))) (gN 12))
noncomputable def m_law_s20 : MS := (sRet (mC (.bl false)))
noncomputable def m_law_s19 : MS := (sIf (tV (m2 pNe (mA KR.m_unsealed (aCons (m2 pIx (mV 12) (mA KR.m_law_draw (aCons (mV 1) (aCons (mC (.int 10)) aNil)))) aNil)) (mTup aNil)))
    K44.m_law_s20
    sNx)
noncomputable def m_law_b2 : MS := (sG (sK [2, 3, 4, 5, 6, 7, 8, 9, 10, 11, 12] (sSeq K44.m_law_s3
    (sSeq K44.m_law_s4
    (sSeq K44.m_law_s5
    (sSeq K44.m_law_s7
    (sSeq K44.m_law_s8
    (sSeq K44.m_law_s10
    (sSeq K44.m_law_s11
    (sSeq K44.m_law_s12
    (sSeq K44.m_law_s13
    (sSeq K44.m_law_s14
    (sSeq K44.m_law_s15
    (sSeq K44.m_law_s18
    K44.m_law_s19))))))))))))))
noncomputable def m_law_s2 : MS := (Mp.sFor (iRng1 (aCons (mC (.int 4)) aNil)) (gN 2)
    K44.m_law_b2)
noncomputable def m_law_s21 : MS := (sRet (mC (.bl true)))
noncomputable def m_law : Fn := (fDef 14 1
    (sSeq K44.m_law_s1
    (sSeq K44.m_law_s2
    K44.m_law_s21)))
section
variable {P : Program} {w : World} {K : PySem.W.Frag} {mg : Str → Option Value} {base : Heap}
theorem ok_m_law_pool {fa : Addr} {fd : FuncData} (F : Fun K "_law_pool" "_law_pool" st_m_law_pool fa fd) (T : Txt K mg)  : FnOk P w K mg base (L2.CX P w) 1 fa fd ["_law_script"] (spM K mg 1 KR.m_law_pool) :=
  (def_ok (k := 0) F sc_m_law_pool rfl rfl fun cdv A outer s H E hr tk hpo => by
    have hu1 := hu_of hr
    have hu64 := hr.units
    exact (s_cons (s_set (i := 1) sc_m_law_pool.nd rfl (by first | exact Or.inl rfl | exact Or.inr rfl) (e_op o_add (e_op o_add (e_op o_mod (e_ty c_int rfl T.b_int (by decide +kernel) (a_cons (e_G (e_blt (c_sumA rfl) rfl T.b_sum (by decide +kernel) (a_cons (e_sl (e_v (pv 0)) o_no (o_some e_int)) a_nil))) a_nil)) e_int) (e_blt c_len rfl T.b_len (by decide +kernel) (a_cons (e_v (pv 0)) a_nil))) e_int))
      (s_cons (p_G (s_for hpo rfl (i_val (e_sl (e_v (pv 0)) o_no (o_some e_int))) (g_name (pg_name (i := 2) sc_m_law_pool.nd rfl (by first | exact Or.inl rfl | exact Or.inr rfl)) hp_any)
      (s_one (s_set (i := 1) sc_m_law_pool.nd rfl (by first | exact Or.inl rfl | exact Or.inr rfl) (e_op o_mod (e_ty c_int rfl T.b_int (by decide +kernel) (a_cons (e_op o_add (e_op o_add (e_op o_mulI (e_v (pv 1)) e_int) (e_op o_mod (e_ty c_int rfl T.b_int (by decide +kernel) (a_cons (e_v (pv 2)) a_nil)) e_int)) e_int) a_nil)) e_int)))))
      (s_one (s_ret (e_lst (a_cons (e_v (pv 1)) (a_cons e_int (a_cons (e_G (e_lc (own := [("_law_cell", 2)]) rfl sc_m_law_pool.nd (i_val (e_sl (e_v (pv 0)) o_no (o_some e_int))) (blkOk_by (own := [("_law_cell", 2)]) (N := N_m_law_pool) (sc := defScope st_m_law_pool) (by decide +kernel)) (fun _ _ _ _ _ => (g_name (pg_name (i := 2) sc_m_law_pool.nd rfl (by first | exact Or.inl rfl | exact Or.inr rfl)) (hp_wipe (by decide)))) (fun _ _ _ _ _ => (ts_one (t_cmp o_ge (e_blt c_abs rfl T.b_abs (by decide +kernel) (a_cons (e_v (pv 2)) a_nil)) (e_op o_pow e_int e_int) (nomark _)))) (fun _ _ _ _ _ => (e_blt c_abs rfl T.b_abs (by decide +kernel) (a_cons (e_v (pv 2)) a_nil))))) a_nil)))))))))
theorem ok_m_law_draw {fa : Addr} {fd : FuncData} (F : Fun K "_law_draw" "_law_draw" st_m_law_draw fa fd) (T : Txt K mg)  : FnOk P w K mg base (L2.CX P w) 1 fa fd ["_law_pool_here", "_law_many"] (spM K mg 2 KR.m_law_draw) :=
  fn_G (def_ok (k := 0) F sc_m_law_draw rfl rfl fun cdv A outer s H E hr tk hpo => by
    have hu1 := hu_of hr
    have hu64 := hr.units
    exact (s_cons (s_asg (e_op o_add (e_ix hu1 (e_v (pv 0)) e_int) e_int) (g_sub (e_v (pv 0)) e_int (st_set hu1)))
      (s_cons (s_set (i := 2) sc_m_law_draw.nd rfl (by first | exact Or.inl rfl | exact Or.inr rfl) (e_ix hu1 (e_v (pv 0)) e_int))
      (s_cons (s_if (t_cmp o_gt (e_blt c_len rfl T.b_len (by decide +kernel) (a_cons (e_v (pv 2)) a_nil)) e_int (nomark _))
      (s_cons (s_set (i := 3) sc_m_law_draw.nd rfl (by first | exact Or.inl rfl | exact Or.inr rfl) (e_op o_mod (e_ty c_int rfl T.b_int (by decide +kernel) (a_cons (e_ix hu1 (e_v (pv 2)) e_int) a_nil)) (e_v (pv 1))))
      (s_cons (s_asg (e_op o_div (e_ty c_int rfl T.b_int (by decide +kernel) (a_cons (e_ix hu1 (e_v (pv 2)) e_int) a_nil)) (e_v (pv 1))) (g_sub (e_v (pv 2)) e_int (st_set hu1)))
      (s_cons (s_if (t_cmp (o_eq hu64) (e_ix hu1 (e_v (pv 2)) e_int) e_int (nomark _))
      (s_one (s_expr (e_bm PySem.F.plainAttrs_list PySem.F.slot_list_pop PySem.F.type_list_pop m_popAt (e_v (pv 2)) (a_cons e_int a_nil))))
      s_nil)
      (s_one (s_ret (e_v (pv 3)))))))
      s_nil)
      (s_cons (s_set (i := 4) sc_m_law_draw.nd rfl (by first | exact Or.inl rfl | exact Or.inr rfl) (e_op o_mod (e_ty c_int rfl T.b_int (by decide +kernel) (a_cons (e_op o_mulI (e_op o_add (e_ix hu1 (e_v (pv 0)) e_int) (e_op o_mulI e_int (e_ix hu1 (e_v (pv 0)) e_int))) e_int) a_nil)) e_int))
      (s_cons (s_set (i := 4) sc_m_law_draw.nd rfl (by first | exact Or.inl rfl | exact Or.inr rfl) (e_op o_mod (e_ty c_int rfl T.b_int (by decide +kernel) (a_cons (e_op o_mulI (e_v (pv 4)) (e_op o_add (e_op o_div (e_v (pv 4)) e_int) e_int)) a_nil)) e_int))
      (s_cons (s_set (i := 4) sc_m_law_draw.nd rfl (by first | exact Or.inl rfl | exact Or.inr rfl) (e_op o_mod (e_ty c_int rfl T.b_int (by decide +kernel) (a_cons (e_op o_mulI (e_v (pv 4)) (e_op o_add (e_op o_div (e_v (pv 4)) e_int) e_int)) a_nil)) e_int))
      (s_one (s_ret (e_op o_mod (e_ty c_int rfl T.b_int (by decide +kernel) (a_cons (e_op o_div (e_v (pv 4)) e_int) a_nil)) (e_v (pv 1))))))))))))
theorem ok_m_law_number {fa : Addr} {fd : FuncData} (F : Fun K "_law_number" "_law_number" st_m_law_number fa fd) (T : Txt K mg) (D_m_law_draw : DefAt P w K mg base 1 "_law_draw" 2 KR.m_law_draw) : FnOk P w K mg base (L2.CX P w) 2 fa fd ["_law_pool_here"] (spM K mg 1 KR.m_law_number) :=
  fn_G (def_ok (k := 1) F sc_m_law_number rfl rfl fun cdv A outer s H E hr tk hpo => by
    have hu1 := hu_of hr
    have hu64 := hr.units
    exact (s_cons (s_set (i := 1) sc_m_law_number.nd rfl (by first | exact Or.inl rfl | exact Or.inr rfl) (e_call D_m_law_draw (fG_len fDef_len) tk (hr.mono (by omega)) rfl (a_cons (e_v (pv 0)) (a_cons e_int a_nil))))
      (s_cons (s_if (t_cmp o_lt (e_v (pv 1)) e_int (nomark _))
      (s_one (s_ret (e_G (e_ix hu1 (e_lst (a_cons e_int (a_cons e_int (a_cons (e_un u_neg e_int) (a_cons e_int (a_cons e_int (a_cons (e_un u_neg e_int) (a_cons (e_un u_neg e_int) (a_cons e_int (a_cons e_int (a_cons e_int (a_cons (e_un u_neg e_int) a_nil)))))))))))) (e_call D_m_law_draw (fG_len fDef_len) tk (hr.mono (by omega)) rfl (a_cons (e_v (pv 0)) (a_cons e_int a_nil)))))))
      s_nil)
      (s_cons (s_set (i := 2) sc_m_law_number.nd rfl (by first | exact Or.inl rfl | exact Or.inr rfl) (e_call D_m_law_draw (fG_len fDef_len) tk (hr.mono (by omega)) rfl (a_cons (e_v (pv 0)) (a_cons e_int a_nil))))
      (s_cons (s_for hpo rfl (i_rng1 rfl T.b_range (a_cons (e_call D_m_law_draw (fG_len fDef_len) tk (hr.mono (by omega)) rfl (a_cons (e_v (pv 0)) (a_cons e_int a_nil))) a_nil)) (g_name (pg_name (i := 3) sc_m_law_number.nd rfl (by first | exact Or.inl rfl | exact Or.inr rfl)) hp_any)
      (s_K (s_one (s_set (i := 2) sc_m_law_number.nd rfl (by first | exact Or.inl rfl | exact Or.inr rfl) (e_op o_add (e_op o_mulI (e_v (pv 2)) e_int) (e_call D_m_law_draw (fG_len fDef_len) tk (hr.mono (by omega)) rfl (a_cons (e_v (pv 0)) (a_cons e_int a_nil))))))))
      (s_one (s_ret (e_if (t_cmp o_lt (e_v (pv 1)) e_int (nomark _)) (e_v (pv 2)) (e_op o_sub e_int (e_v (pv 2)))))))))))
theorem ok_m_law_parcel {fa : Addr} {fd : FuncData} (F : Fun K "_law_parcel" "_law_parcel" st_m_law_parcel fa fd) (T : Txt K mg) (hmf : mg "_law_parcel" = some (.ref fa)) (hB : Binds K fd ["_law_pool_here", "_law_deep"] []) (D_m_law_draw : DefAt P w K mg base 1 "_law_draw" 2 KR.m_law_draw) (D_m_law_number : DefAt P w K mg base 2 "_law_number" 1 KR.m_law_number) : ∀ n : Nat, FnOk P w K mg base (L2.CX P w) (2 + n) fa fd ["_law_pool_here", "_law_deep"] (spM K mg 2 (KR.m_law_parcel n)) := by
  intro n
  induction n with
  | zero => exact bad_ok rfl
  | succ fu ih =>
    have D_m_law_parcel : DefAt P w K mg base (2 + fu) "_law_parcel" 2 (KR.m_law_parcel fu) := ⟨⟨fa, fd, _, rfl, hmf, F.kp, hB, ih⟩⟩
    rw [KR.m_law_parcel_succ]
    refine fn_G (def_ok (k := 2 + fu) F sc_m_law_parcel rfl rfl fun cdv A outer s H E hr tk hpo => ?_)
    have hu1 := hu_of hr
    have hu64 := hr.units
    exact (s_cons (s_set (i := 2) sc_m_law_parcel.nd rfl (by first | exact Or.inl rfl | exact Or.inr rfl) (e_call D_m_law_draw (fG_len fDef_len) tk (hr.mono (by omega)) rfl (a_cons (e_v (pv 0)) (a_cons e_int a_nil))))
      (s_cons (s_if (t_cmp o_lt (e_v (pv 2)) e_int (nomark _))
      (s_one (s_ret (e_G (e_ix hu1 (e_lst (a_cons e_non (a_cons e_bl (a_cons e_bl a_nil)))) (e_v (pv 2))))))
      s_nil)
      (s_cons (s_if (t_cmp o_lt (e_v (pv 2)) e_int (nomark _))
      (s_one (s_ret (e_call D_m_law_number (fG_len fDef_len) tk (hr.mono (by omega)) rfl (a_cons (e_v (pv 0)) a_nil))))
      s_nil)
      (s_cons (s_if (t_cmp o_lt (e_v (pv 2)) e_int (nomark _))
      (s_cons (s_set (i := 3) sc_m_law_parcel.nd rfl (by first | exact Or.inl rfl | exact Or.inr rfl) (e_if (t_cmp (o_eq hu64) (e_call D_m_law_draw (fG_len fDef_len) tk (hr.mono (by omega)) rfl (a_cons (e_v (pv 0)) (a_cons e_int a_nil))) e_int (nomark _)) e_int (e_op o_add e_int (e_call D_m_law_draw (fG_len fDef_len) tk (hr.mono (by omega)) rfl (a_cons (e_v (pv 0)) (a_cons e_int a_nil))))))
      (s_one (s_ret (e_G (e_bm PySem.F.plainAttrs_str PySem.F.slot_str_join PySem.F.type_str_join m_join e_str (a_cons (e_lc (own := [("_law_at", 4)]) rfl sc_m_law_parcel.nd (i_rng1 rfl T.b_range (a_cons (e_v (pv 3)) a_nil)) (blkOk_by (own := [("_law_at", 4)]) (N := N_m_law_parcel) (sc := defScope st_m_law_parcel) (by decide +kernel)) (fun _ _ _ _ _ => (g_name (pg_name (i := 4) sc_m_law_parcel.nd rfl (by first | exact Or.inl rfl | exact Or.inr rfl)) (hp_wipe (by decide)))) (fun _ _ _ _ _ => ts_nil) (fun _ _ _ _ _ => (e_ix hu1 e_str (e_call D_m_law_draw (fG_len fDef_len) takes0 (hr.mono (by omega)) rfl (a_cons (e_v (pv 0)) (a_cons e_int a_nil)))))) a_nil))))))
      s_nil)
      (s_cons (s_if (t_cmp (o_eq hu64) (e_v (pv 1)) e_int (nomark _))
      (s_one (s_ret e_int))
      s_nil)
      (s_one (s_ret (e_G (e_ty c_tuple rfl T.b_tuple (by decide +kernel) (a_cons (e_lc (own := [("_law_turn", 5)]) rfl sc_m_law_parcel.nd (i_rng1 rfl T.b_range (a_cons (e_call D_m_law_draw (fG_len fDef_len) tk (hr.mono (by omega)) rfl (a_cons (e_v (pv 0)) (a_cons e_int a_nil))) a_nil)) (blkOk_by (own := [("_law_turn", 5)]) (N := N_m_law_parcel) (sc := defScope st_m_law_parcel) (by decide +kernel)) (fun _ _ _ _ _ => (g_name (pg_name (i := 5) sc_m_law_parcel.nd rfl (by first | exact Or.inl rfl | exact Or.inr rfl)) (hp_wipe (by decide)))) (fun _ _ _ _ _ => ts_nil) (fun _ _ _ _ _ => (e_call D_m_law_parcel (KR.m_law_parcel_len _) takes0 (hr.mono (by omega)) rfl (a_cons (e_v (pv 0)) (a_cons (e_op o_sub (e_v (pv 1)) e_int) a_nil))))) a_nil))))))))))
theorem ok_m_is_row {fa : Addr} {fd : FuncData} (F : Fun K "is_row" "is_row" st_m_is_row fa fd) (T : Txt K mg)  : FnOk P w K mg base (L2.CX P w) 1 fa fd ["thing"] (spM K mg 1 KR.m_is_row) :=
  fn_G (def_ok (k := 0) F sc_m_is_row rfl rfl fun cdv A outer s H E hr tk hpo => by
    have hu1 := hu_of hr
    have hu64 := hr.units
    exact (s_cons (s_if (t_not (t_v (e_isT rfl T.b_isinstance (e_v (pv 0)) rfl T.b_tuple (by decide +kernel) (by decide))))
      (s_one (s_ret e_bl))
      s_nil)
      (s_one (s_ret (e_G (e_blt (c_all rfl) rfl T.b_all (by decide +kernel) (a_cons (e_lc (own := [("byte", 1)]) rfl sc_m_is_row.nd (i_val (e_v (pv 0))) (blkOk_by (own := [("byte", 1)]) (N := N_m_is_row) (sc := defScope st_m_is_row) (by decide +kernel)) (fun _ _ _ _ _ => (g_name (pg_name (i := 1) sc_m_is_row.nd rfl (by first | exact Or.inl rfl | exact Or.inr rfl)) (hp_wipe (by decide)))) (fun _ _ _ _ _ => ts_nil) (fun _ _ _ _ _ => (e_and (e_isT rfl T.b_isinstance (e_v (pv 1)) rfl T.b_int (by decide +kernel) (by decide)) (e_and (e_not (e_isT rfl T.b_isinstance (e_v (pv 1)) rfl T.b_bool (by decide +kernel) (by decide))) (e_one (e_chain o_le o_lt e_int (e_v (pv 1)) (e_gi T.c_BYTES rfl))))))) a_nil)))))))
theorem ok_m_raw_mark {fa : Addr} {fd : FuncData} (F : Fun K "raw_mark" "raw_mark" st_m_raw_mark fa fd) (T : Txt K mg)  : FnOk P w K mg base (L2.CX P w) 1 fa fd ["row"] (spM K mg 1 KR.m_raw_mark) :=
  fn_G (def_ok (k := 0) F sc_m_raw_mark rfl rfl fun cdv A outer s H E hr tk hpo => by
    have hu1 := hu_of hr
    have hu64 := hr.units
    exact (s_cons (s_set (i := 1) sc_m_raw_mark.nd rfl (by first | exact Or.inl rfl | exact Or.inr rfl) e_int)
      (s_cons (s_for hpo rfl (i_val (e_v (pv 0))) (g_name (pg_name (i := 2) sc_m_raw_mark.nd rfl (by first | exact Or.inl rfl | exact Or.inr rfl)) hp_any)
      (s_K (s_one (s_set (i := 1) sc_m_raw_mark.nd rfl (by first | exact Or.inl rfl | exact Or.inr rfl) (e_op o_mod (e_op o_add (e_op o_add (e_op o_mulI (e_v (pv 1)) (e_gi T.c_MULTIPLIER rfl)) (e_v (pv 2))) e_int) (e_gi T.c_MODULUS rfl))))))
      (s_one (s_ret (e_v (pv 1)))))))
theorem ok_m_seal_of {fa : Addr} {fd : FuncData} (F : Fun K "seal_of" "seal_of" st_m_seal_of fa fd) (T : Txt K mg) (D_m_raw_mark : DefAt P w K mg base 1 "raw_mark" 1 KR.m_raw_mark) : FnOk P w K mg base (L2.CX P w) 2 fa fd ["row"] (spM K mg 1 KR.m_seal_of) :=
  fn_G (def_ok (k := 1) F sc_m_seal_of rfl rfl fun cdv A outer s H E hr tk hpo => by
    have hu1 := hu_of hr
    have hu64 := hr.units
    exact (s_cons (s_set (i := 1) sc_m_seal_of.nd rfl (by first | exact Or.inl rfl | exact Or.inr rfl) (e_call D_m_raw_mark (fG_len fDef_len) tk (hr.mono (by omega)) rfl (a_cons (e_v (pv 0)) a_nil)))
      (s_cons (s_set (i := 2) sc_m_seal_of.nd rfl (by first | exact Or.inl rfl | exact Or.inr rfl) (e_lst a_nil))
      (s_cons (s_for hpo rfl (i_rng1 rfl T.b_range (a_cons (e_gi T.c_SEAL_BYTES rfl) a_nil)) (g_name (pg_name (i := 3) sc_m_seal_of.nd rfl (by first | exact Or.inl rfl | exact Or.inr rfl)) hp_any)
      (s_K (s_cons (s_expr (e_bm PySem.F.plainAttrs_list PySem.F.slot_list_append PySem.F.type_list_append m_append (e_v (pv 2)) (a_cons (e_op o_mod (e_v (pv 1)) (e_gi T.c_BYTES rfl)) a_nil)))
      (s_one (s_set (i := 1) sc_m_seal_of.nd rfl (by first | exact Or.inl rfl | exact Or.inr rfl) (e_op o_div (e_v (pv 1)) (e_gi T.c_BYTES rfl)))))))
      (s_one (s_ret (e_ty c_tuple rfl T.b_tuple (by decide +kernel) (a_cons (e_v (pv 2)) a_nil))))))))
theorem ok_m_check_row {fa : Addr} {fd : FuncData} (F : Fun K "check_row" "check_row" st_m_check_row fa fd) (T : Txt K mg) (D_m_is_row : DefAt P w K mg base 1 "is_row" 1 KR.m_is_row) : FnOk P w K mg base (L2.CX P w) 2 fa fd ["thing"] (spM K mg 1 KR.m_check_row) :=
  fn_G (def_ok (k := 1) F sc_m_check_row rfl rfl fun cdv A outer s H E hr tk hpo => by
    have hu1 := hu_of hr
    have hu64 := hr.units
    exact (s_one (s_if (t_not (t_v (e_call D_m_is_row (fG_len fDef_len) tk (hr.mono (by omega)) rfl (a_cons (e_v (pv 0)) a_nil))))
      (s_one (s_raise0 rfl tk T.e_NoRow rfl))
      s_nil)))
theorem ok_m_RowReader___init__ {fa : Addr} {fd : FuncData} (F : Fun K "__init__" "RowReader.__init__" st_m_RowReader___init__ fa fd) (T : Txt K mg)  : FnOk P w K mg base (L2.CX P w) 1 fa fd ["self", "row"] (spM K mg 2 KR.m_RowReader___init__) :=
  (def_ok (k := 0) F sc_m_RowReader___init__ rfl rfl fun cdv A outer s H E hr tk hpo => by
    have hu1 := hu_of hr
    have hu64 := hr.units
    exact (s_cons (s_fldA T.f_RowReader_row (e_v (pv 0)) (e_v (pv 1)))
      (s_one (s_fldA T.f_RowReader_at (e_v (pv 0)) e_int))))
theorem ok_m_RowReader_next_byte {fa : Addr} {fd : FuncData} (F : Fun K "next_byte" "RowReader.next_byte" st_m_RowReader_next_byte fa fd) (T : Txt K mg)  : FnOk P w K mg base (L2.CX P w) 2 fa fd ["self"] (spM K mg 1 KR.m_RowReader_next_byte) :=
  fn_G (def_ok (k := 1) F sc_m_RowReader_next_byte rfl rfl fun cdv A outer s H E hr tk hpo => by
    have hu1 := hu_of hr
    have hu64 := hr.units
    obtain ⟨CLBadRow, FLBadRow, TLBadRow⟩ := T.low_BadRow
    exact (s_cons (s_if (t_cmp (o_eq hu64) (e_fldA T.f_RowReader_at (e_v (pv 0))) (e_blt c_len rfl T.b_len (by decide +kernel) (a_cons (e_fldA T.f_RowReader_row (e_v (pv 0))) a_nil)) (nomark _))
      (s_one (s_raise_place (k := 1) rfl TLBadRow (hr.mono (by omega)) tk (a_cons (e_fldA T.f_RowReader_at (e_v (pv 0))) a_nil) rfl (by decide)))
      s_nil)
      (s_cons (s_fldAugA T.f_RowReader_at (e_v (pv 0)) e_int io_addI)
      (s_one (s_ret (e_ix hu1 (e_fldA T.f_RowReader_row (e_v (pv 0))) (e_op o_sub (e_fldA T.f_RowReader_at (e_v (pv 0))) e_int)))))))
theorem ok_m_RowReader_read_whole {fa : Addr} {fd : FuncData} (F : Fun K "read_whole" "RowReader.read_whole" st_m_RowReader_read_whole fa fd) (T : Txt K mg)  : FnOk P w K mg base (L2.CX P w) 2 fa fd ["self"] (spM K mg 1 KR.m_RowReader_read_whole) :=
  fn_G (def_ok (k := 1) F sc_m_RowReader_read_whole rfl rfl fun cdv A outer s H E hr tk hpo => by
    have hu1 := hu_of hr
    have hu64 := hr.units
    obtain ⟨CLBadRow, FLBadRow, TLBadRow⟩ := T.low_BadRow
    exact (s_cons (s_set (i := 1) sc_m_RowReader_read_whole.nd rfl (by first | exact Or.inl rfl | exact Or.inr rfl) (e_fldA T.f_RowReader_at (e_v (pv 0))))
      (s_cons (s_asg (e_tup (a_cons e_int (a_cons e_int a_nil))) (g_tup (n := 2) rfl (gs_cons (g_name (pg_name (i := 2) sc_m_RowReader_read_whole.nd rfl (by first | exact Or.inl rfl | exact Or.inr rfl)) hp_any) (gs_cons (g_name (pg_name (i := 3) sc_m_RowReader_read_whole.nd rfl (by first | exact Or.inl rfl | exact Or.inr rfl)) hp_any) gs_nil)) (gsl_cons (gsl_cons gsl_nil gN_ne) gN_ne)))
      (s_cons (s_while hpo (t_cmp o_lt (e_fldA T.f_RowReader_at (e_v (pv 0))) (e_blt c_len rfl T.b_len (by decide +kernel) (a_cons (e_fldA T.f_RowReader_row (e_v (pv 0))) a_nil)) (nomark _))
      (s_K (s_cons (s_set (i := 4) sc_m_RowReader_read_whole.nd rfl (by first | exact Or.inl rfl | exact Or.inr rfl) (e_ix hu1 (e_fldA T.f_RowReader_row (e_v (pv 0))) (e_fldA T.f_RowReader_at (e_v (pv 0)))))
      (s_cons (s_fldAugA T.f_RowReader_at (e_v (pv 0)) e_int io_addI)
      (s_cons (s_aug (i := 2) sc_m_RowReader_read_whole.nd rfl (by first | exact Or.inl rfl | exact Or.inr rfl) (e_op o_mulI (e_op o_mod (e_v (pv 4)) (e_gi T.c_BASE rfl)) (e_v (pv 3))) io_addI)
      (s_cons (s_aug (i := 3) sc_m_RowReader_read_whole.nd rfl (by first | exact Or.inl rfl | exact Or.inr rfl) (e_gi T.c_BASE rfl) io_mulI)
      (s_one (s_if (t_cmp o_lt (e_v (pv 4)) (e_gi T.c_BASE rfl) (nomark _))
      (s_cons (s_if (PW.pt (t_and (t_cmp (o_eq hu64) (e_v (pv 4)) e_int (nomark _)) (t_and1 (t_cmp o_gt (e_op o_sub (e_fldA T.f_RowReader_at (e_v (pv 0))) (e_v (pv 1))) e_int (nomark _)))))
      (s_one (s_raise_place (k := 1) rfl TLBadRow (hr.mono (by omega)) tk (a_cons (e_v (pv 1)) a_nil) rfl (by decide)))
      s_nil)
      (s_one (s_ret (e_v (pv 2)))))
      s_nil))))))))
      (s_one (s_raise_place (k := 1) rfl TLBadRow (hr.mono (by omega)) tk (a_cons (e_v (pv 1)) a_nil) rfl (by decide)))))))
theorem ok_m_is_sign {fa : Addr} {fd : FuncData} (F : Fun K "is_sign" "is_sign" st_m_is_sign fa fd) (T : Txt K mg)  : FnOk P w K mg base (L2.CX P w) 1 fa fd ["number"] (spM K mg 1 KR.m_is_sign) :=
  fn_G (def_ok (k := 0) F sc_m_is_sign rfl rfl fun cdv A outer s H E hr tk hpo => by
    have hu1 := hu_of hr
    have hu64 := hr.units
    exact (s_one (s_ret (e_and (e_chain o_le o_le (e_gi T.c_FIRST_SIGN rfl) (e_v (pv 0)) (e_gi T.c_LAST_SIGN rfl)) (e_one (e_cmp (o_ne hu64) (e_v (pv 0)) (e_gi T.c_NO_SIGN rfl) (nomark _)))))))
theorem ok_m_RowReader_read_string {fa : Addr} {fd : FuncData} (F : Fun K "read_string" "RowReader.read_string" st_m_RowReader_read_string fa fd) (T : Txt K mg) (D_m_RowReader_next_byte : MethAt P w K mg base 2 "RowReader" "next_byte" 1 KR.m_RowReader_next_byte) (D_m_RowReader_read_whole : MethAt P w K mg base 2 "RowReader" "read_whole" 1 KR.m_RowReader_read_whole) (D_m_is_sign : DefAt P w K mg base 1 "is_sign" 1 KR.m_is_sign) : FnOk P w K mg base (L2.CX P w) 3 fa fd ["self"] (spM K mg 1 KR.m_RowReader_read_string) :=
  fn_G (def_ok (k := 2) F sc_m_RowReader_read_string rfl rfl fun cdv A outer s H E hr tk hpo => by
    have hu1 := hu_of hr
    have hu64 := hr.units
    obtain ⟨CLBadRow, FLBadRow, TLBadRow⟩ := T.low_BadRow
    exact (s_cons (s_set (i := 1) sc_m_RowReader_read_string.nd rfl (by first | exact Or.inl rfl | exact Or.inr rfl) (e_fldA T.f_RowReader_at (e_v (pv 0))))
      (s_cons (s_set (i := 2) sc_m_RowReader_read_string.nd rfl (by first | exact Or.inl rfl | exact Or.inr rfl) (e_meth0 D_m_RowReader_read_whole (fG_len fDef_len) tk (hr.mono (by omega)) (e_v (pv 0))))
      (s_cons (s_if (t_not (t_chain o_le o_le e_int (e_v (pv 2)) (e_gi T.c_MOST_SIGNS rfl)))
      (s_one (s_raise_place (k := 1) rfl TLBadRow (hr.mono (by omega)) tk (a_cons (e_v (pv 1)) a_nil) rfl (by decide)))
      s_nil)
      (s_cons (s_set (i := 3) sc_m_RowReader_read_string.nd rfl (by first | exact Or.inl rfl | exact Or.inr rfl) e_str)
      (s_cons (s_for hpo rfl (i_rng1 rfl T.b_range (a_cons (e_v (pv 2)) a_nil)) (g_name (pg_name (i := 4) sc_m_RowReader_read_string.nd rfl (by first | exact Or.inl rfl | exact Or.inr rfl)) hp_any)
      (s_K (s_cons (s_set (i := 5) sc_m_RowReader_read_string.nd rfl (by first | exact Or.inl rfl | exact Or.inr rfl) (e_meth0 D_m_RowReader_next_byte (fG_len fDef_len) tk (hr.mono (by omega)) (e_v (pv 0))))
      (s_cons (s_if (t_not (t_v (e_call D_m_is_sign (fG_len fDef_len) tk (hr.mono (by omega)) rfl (a_cons (e_v (pv 5)) a_nil))))
      (s_one (s_raise_place (k := 1) rfl TLBadRow (hr.mono (by omega)) tk (a_cons (e_op o_sub (e_fldA T.f_RowReader_at (e_v (pv 0))) e_int) a_nil) rfl (by decide)))
      s_nil)
      (s_one (s_aug (i := 3) sc_m_RowReader_read_string.nd rfl (by first | exact Or.inl rfl | exact Or.inr rfl) (e_ix hu1 (e_gs T.c_SIGNS rfl) (e_op o_sub (e_v (pv 5)) (e_gi T.c_FIRST_SIGN rfl))) io_addS))))))
      (s_one (s_ret (e_v (pv 3))))))))))
theorem ok_m_RowReader_read_several {fa : Addr} {fd : FuncData} (F : Fun K "read_several" "RowReader.read_several" st_m_RowReader_read_several fa fd) (T : Txt K mg) (lv : Nat) (mf : Fn) (hmf : ∀ (vs : List Val) (S : Store), vs.length ≠ 2 → mf vs S = .bad)  (D_m_RowReader_read_parcel : MethAt P w K mg base lv "RowReader" "read_parcel" 2 mf) (D_m_RowReader_read_whole : MethAt P w K mg base 2 "RowReader" "read_whole" 1 KR.m_RowReader_read_whole) (hle : 2 ≤ lv) : FnOk P w K mg base (L2.CX P w) (lv + 1) fa fd ["self", "left"] (spM K mg 2 (KR.m_RowReader_read_several mf)) :=
  fn_G (def_ok (k := lv) F sc_m_RowReader_read_several rfl rfl fun cdv A outer s H E hr tk hpo => by
    have hu1 := hu_of hr
    have hu64 := hr.units
    exact (s_cons (s_set (i := 2) sc_m_RowReader_read_several.nd rfl (by first | exact Or.inl rfl | exact Or.inr rfl) (e_meth0 D_m_RowReader_read_whole (fG_len fDef_len) tk (hr.mono (by omega)) (e_v (pv 0))))
      (s_cons (s_set (i := 3) sc_m_RowReader_read_several.nd rfl (by first | exact Or.inl rfl | exact Or.inr rfl) (e_lst a_nil))
      (s_cons (s_while hpo (t_cmp o_lt (e_blt c_len rfl T.b_len (by decide +kernel) (a_cons (e_v (pv 3)) a_nil)) (e_v (pv 2)) (nomark _))
      (s_one (s_expr (e_bm PySem.F.plainAttrs_list PySem.F.slot_list_append PySem.F.type_list_append m_append (e_v (pv 3)) (a_cons (e_meth D_m_RowReader_read_parcel hmf tk (hr.mono (by omega)) (e_v (pv 0)) (a_cons (e_v (pv 1)) a_nil)) a_nil)))))
      (s_one (s_ret (e_ty c_tuple rfl T.b_tuple (by decide +kernel) (a_cons (e_v (pv 3)) a_nil))))))))
theorem ok_m_RowReader_read_parcel {fa : Addr} {fd : FuncData} (F : Fun K "read_parcel" "RowReader.read_parcel" st_m_RowReader_read_parcel fa fd) (T : Txt K mg) {C : Addr} (hmC : mg "RowReader" = some (.ref C)) (hcl : Cls K C) (hme : Meth K C "read_parcel" fa) {fa2 : Addr} {fd2 : FuncData} (F2 : Fun K "read_several" "RowReader.read_several" st_m_RowReader_read_several fa2 fd2) (hB2 : Binds K fd2 ["self", "left"] []) (hme2 : Meth K C "read_several" fa2) (hB : Binds K fd ["self", "left"] []) (D_m_RowReader_next_byte : MethAt P w K mg base 2 "RowReader" "next_byte" 1 KR.m_RowReader_next_byte) (D_m_RowReader_read_string : MethAt P w K mg base 3 "RowReader" "read_string" 1 KR.m_RowReader_read_string) (D_m_RowReader_read_whole : MethAt P w K mg base 2 "RowReader" "read_whole" 1 KR.m_RowReader_read_whole) : ∀ n : Nat, FnOk P w K mg base (L2.CX P w) (3 + 2 * n) fa fd ["self", "left"] (spM K mg 2 (KR.m_RowReader_read_parcel n)) := by
  intro n
  induction n with
  | zero => exact bad_ok rfl
  | succ fu ih =>
    have D_m_RowReader_read_parcel : MethAt P w K mg base (3 + 2 * fu) "RowReader" "read_parcel" 2 (KR.m_RowReader_read_parcel fu) := ⟨⟨_, fa, fd, _, rfl, hmC, hcl, hme, hB, ih⟩⟩
    have D_m_RowReader_read_several : MethAt P w K mg base (3 + 2 * fu + 1) "RowReader" "read_several" 2 (KR.m_RowReader_read_several (KR.m_RowReader_read_parcel fu)) := ⟨⟨_, fa2, fd2, _, rfl, hmC, hcl, hme2, hB2, ok_m_RowReader_read_several F2 T (3 + 2 * fu) (KR.m_RowReader_read_parcel fu) (KR.m_RowReader_read_parcel_len fu) D_m_RowReader_read_parcel D_m_RowReader_read_whole (by omega)⟩⟩
    rw [KR.m_RowReader_read_parcel_succ]
    refine fn_G (def_ok (k := 3 + 2 * fu + 1) F sc_m_RowReader_read_parcel rfl rfl fun cdv A outer s H E hr tk hpo => ?_)
    have hu1 := hu_of hr
    have hu64 := hr.units
    obtain ⟨CLBadRow, FLBadRow, TLBadRow⟩ := T.low_BadRow
    exact (s_cons (s_set (i := 2) sc_m_RowReader_read_parcel.nd rfl (by first | exact Or.inl rfl | exact Or.inr rfl) (e_fldA T.f_RowReader_at (e_v (pv 0))))
      (s_cons (s_set (i := 3) sc_m_RowReader_read_parcel.nd rfl (by first | exact Or.inl rfl | exact Or.inr rfl) (e_meth0 D_m_RowReader_next_byte (fG_len fDef_len) tk (hr.mono (by omega)) (e_v (pv 0))))
      (s_cons (s_if (PW.pt (t_or (t_cmp o_gt (e_v (pv 3)) (e_gi T.c_SEVERAL rfl) (nomark _)) (t_or1 (PW.pt (t_and (t_cmp (o_eq hu64) (e_v (pv 3)) (e_gi T.c_SEVERAL rfl) (nomark _)) (t_and1 (t_cmp (o_eq hu64) (e_v (pv 1)) e_int (nomark _))))))))
      (s_one (s_raise_place (k := 1) rfl TLBadRow (hr.mono (by omega)) tk (a_cons (e_v (pv 2)) a_nil) rfl (by decide)))
      s_nil)
      (s_cons (s_if (t_cmp (o_eq hu64) (e_v (pv 3)) (e_gi T.c_NOTHING rfl) (nomark _))
      (s_one (s_ret e_non))
      s_nil)
      (s_cons (s_if (t_cmp (o_in hu1) (e_v (pv 3)) (e_tup (a_cons (e_gi T.c_NO rfl) (a_cons (e_gi T.c_YES rfl) a_nil))) rfl)
      (s_one (s_ret (e_cmp (o_eq hu64) (e_v (pv 3)) (e_gi T.c_YES rfl) (nomark _))))
      s_nil)
      (s_cons (s_if (t_cmp (o_eq hu64) (e_v (pv 3)) (e_gi T.c_STRING rfl) (nomark _))
      (s_one (s_ret (e_meth0 D_m_RowReader_read_string (fG_len fDef_len) tk (hr.mono (by omega)) (e_v (pv 0)))))
      s_nil)
      (s_cons (s_if (t_cmp (o_eq hu64) (e_v (pv 3)) (e_gi T.c_SEVERAL rfl) (nomark _))
      (s_one (s_ret (e_meth D_m_RowReader_read_several (fG_len fDef_len) tk (hr.mono (by omega)) (e_v (pv 0)) (a_cons (e_op o_sub (e_v (pv 1)) e_int) a_nil))))
      s_nil)
      (s_one (s_ret (e_if (t_cmp (o_eq hu64) (e_v (pv 3)) (e_gi T.c_NUMBER rfl) (nomark _)) (e_meth0 D_m_RowReader_read_whole (fG_len fDef_len) tk (hr.mono (by omega)) (e_v (pv 0))) (e_op o_sub (e_un u_neg e_int) (e_meth0 D_m_RowReader_read_whole (fG_len fDef_len) tk (hr.mono (by omega)) (e_v (pv 0))))))))))))))
theorem ok_m_parcel_of {fa : Addr} {fd : FuncData} (F : Fun K "parcel_of" "parcel_of" st_m_parcel_of fa fd) (T : Txt K mg) (D_m_RowReader___init__ : MakeAt P w K mg base 1 "RowReader" 1 KR.m_RowReader___init__) (D_m_RowReader_read_parcel : MethAt P w K mg base 84 "RowReader" "read_parcel" 2 (KR.m_RowReader_read_parcel 40)) (D_m_check_row : DefAt P w K mg base 2 "check_row" 1 KR.m_check_row) : FnOk P w K mg base (L2.CX P w) 85 fa fd ["row"] (spM K mg 1 KR.m_parcel_of) :=
  fn_G (def_ok (k := 84) F sc_m_parcel_of rfl rfl fun cdv A outer s H E hr tk hpo => by
    have hu1 := hu_of hr
    have hu64 := hr.units
    obtain ⟨CLBadRow, FLBadRow, TLBadRow⟩ := T.low_BadRow
    exact (s_cons (s_expr (e_call D_m_check_row (fG_len fDef_len) tk (hr.mono (by omega)) rfl (a_cons (e_v (pv 0)) a_nil)))
      (s_cons (s_set (i := 1) sc_m_parcel_of.nd rfl (by first | exact Or.inl rfl | exact Or.inr rfl) (e_make D_m_RowReader___init__ fDef_len tk (hr.mono (by omega)) rfl (a_cons (e_v (pv 0)) a_nil)))
      (s_cons (s_set (i := 2) sc_m_parcel_of.nd rfl (by first | exact Or.inl rfl | exact Or.inr rfl) (e_meth D_m_RowReader_read_parcel (KR.m_RowReader_read_parcel_len _) tk (hr.mono (by omega)) (e_v (pv 1)) (a_cons (e_gi T.c_MOST_DEEP rfl) a_nil)))
      (s_cons (s_if (t_cmp o_lt (e_fldA T.f_RowReader_at (e_v (pv 1))) (e_blt c_len rfl T.b_len (by decide +kernel) (a_cons (e_v (pv 0)) a_nil)) (nomark _))
      (s_one (s_raise_place (k := 1) rfl TLBadRow (hr.mono (by omega)) tk (a_cons (e_fldA T.f_RowReader_at (e_v (pv 1))) a_nil) rfl (by decide)))
      s_nil)
      (s_one (s_ret (e_v (pv 2)))))))))
theorem ok_m_unsealed {fa : Addr} {fd : FuncData} (F : Fun K "unsealed" "unsealed" st_m_unsealed fa fd) (T : Txt K mg) (D_m_is_row : DefAt P w K mg base 1 "is_row" 1 KR.m_is_row) (D_m_parcel_of : DefAt P w K mg base 85 "parcel_of" 1 KR.m_parcel_of) (D_m_seal_of : DefAt P w K mg base 2 "seal_of" 1 KR.m_seal_of) : FnOk P w K mg base (L2.CX P w) 86 fa fd ["row"] (spM K mg 1 KR.m_unsealed) :=
  fn_G (def_ok (k := 85) F sc_m_unsealed rfl rfl fun cdv A outer s H E hr tk hpo => by
    have hu1 := hu_of hr
    have hu64 := hr.units
    obtain ⟨Ch0, h0a, h0b⟩ := T.h_BadRow_0
    exact (s_cons (s_if (PW.pt (t_or (t_not (t_v (e_call D_m_is_row (fG_len fDef_len) tk (hr.mono (by omega)) rfl (a_cons (e_v (pv 0)) a_nil)))) (t_or (t_cmp o_lt (e_blt c_len rfl T.b_len (by decide +kernel) (a_cons (e_v (pv 0)) a_nil)) (e_gi T.c_SEAL_BYTES rfl) (nomark _)) (t_or1 (t_cmp (o_ne hu64) (e_call D_m_seal_of (fG_len fDef_len) tk (hr.mono (by omega)) rfl (a_cons (e_sl (e_v (pv 0)) o_no (o_some (e_un u_neg (e_gi T.c_SEAL_BYTES rfl)))) a_nil)) (e_sl (e_v (pv 0)) (o_some (e_un u_neg (e_gi T.c_SEAL_BYTES rfl))) o_no) (nomark _))))))
      (s_one (s_ret (e_tup a_nil)))
      s_nil)
      (s_cons (s_try rfl rfl tk (fun W pn xe tk hpo => (s_one (s_set (i := 1) sc_m_unsealed.nd rfl (by first | exact Or.inl rfl | exact Or.inr rfl) (e_tup (a_cons (e_call D_m_parcel_of (fG_len fDef_len) tk (hr.mono (by omega)) rfl (a_cons (e_sl (e_v (pv 0)) o_no (o_some (e_un u_neg (e_gi T.c_SEAL_BYTES rfl)))) a_nil)) a_nil)))))
      (.cons ⟨rfl, by decide, .inl h0a⟩ h0b (fun _ _ _ _ _ => (s_one (s_set (i := 1) sc_m_unsealed.nd rfl (by first | exact Or.inl rfl | exact Or.inr rfl) (e_tup a_nil)))) .nil))
      (s_one (s_ret (e_v (pv 1)))))))
theorem ok_m_law_mark {fa : Addr} {fd : FuncData} (F : Fun K "_law_mark" "_law_mark" st_m_law_mark fa fd) (T : Txt K mg)  : FnOk P w K mg base (L2.CX P w) 1 fa fd ["_law_row"] (spM K mg 1 KR.m_law_mark) :=
  fn_G (def_ok (k := 0) F sc_m_law_mark rfl rfl fun cdv A outer s H E hr tk hpo => by
    have hu1 := hu_of hr
    have hu64 := hr.units
    exact (s_cons (s_set (i := 1) sc_m_law_mark.nd rfl (by first | exact Or.inl rfl | exact Or.inr rfl) e_int)
      (s_cons (s_for hpo rfl (i_val (e_v (pv 0))) (g_name (pg_name (i := 2) sc_m_law_mark.nd rfl (by first | exact Or.inl rfl | exact Or.inr rfl)) hp_any)
      (s_K (s_one (s_set (i := 1) sc_m_law_mark.nd rfl (by first | exact Or.inl rfl | exact Or.inr rfl) (e_op o_mod (e_ty c_int rfl T.b_int (by decide +kernel) (a_cons (e_op o_add (e_op o_add (e_op o_mulI (e_v (pv 1)) e_int) (e_v (pv 2))) e_int) a_nil)) (e_op o_sub (e_op o_pow e_int e_int) e_int))))))
      (s_one (s_ret (e_v (pv 1)))))))
theorem ok_m_law_sealed {fa : Addr} {fd : FuncData} (F : Fun K "_law_sealed" "_law_sealed" st_m_law_sealed fa fd) (T : Txt K mg) (D_m_law_mark : DefAt P w K mg base 1 "_law_mark" 1 KR.m_law_mark) : FnOk P w K mg base (L2.CX P w) 2 fa fd ["_law_row"] (spM K mg 1 KR.m_law_sealed) :=
  fn_G (def_ok (k := 1) F sc_m_law_sealed rfl rfl fun cdv A outer s H E hr tk hpo => by
    have hu1 := hu_of hr
    have hu64 := hr.units
    exact (s_cons (s_set (i := 1) sc_m_law_sealed.nd rfl (by first | exact Or.inl rfl | exact Or.inr rfl) (e_op o_mod (e_call D_m_law_mark (fG_len fDef_len) tk (hr.mono (by omega)) rfl (a_cons (e_v (pv 0)) a_nil)) (e_op o_pow e_int e_int)))
      (s_one (s_ret (e_G (e_op o_add (e_ty c_tuple rfl T.b_tuple (by decide +kernel) (a_cons (e_v (pv 0)) a_nil)) (e_ty c_tuple rfl T.b_tuple (by decide +kernel) (a_cons (e_lc (own := [("_law_worth", 2)]) rfl sc_m_law_sealed.nd (i_val (e_tup (a_cons e_int (a_cons e_int (a_cons e_int (a_cons e_int a_nil)))))) (blkOk_by (own := [("_law_worth", 2)]) (N := N_m_law_sealed) (sc := defScope st_m_law_sealed) (by decide +kernel)) (fun _ _ _ _ _ => (g_name (pg_name (i := 2) sc_m_law_sealed.nd rfl (by first | exact Or.inl rfl | exact Or.inr rfl)) (hp_wipe (by decide)))) (fun _ _ _ _ _ => ts_nil) (fun _ _ _ _ _ => (e_op o_mod (e_ty c_int rfl T.b_int (by decide +kernel) (a_cons (e_op o_div (e_v (pv 1)) (e_v (pv 2))) a_nil)) e_int))) a_nil))))))))
theorem ok_m_law_whole {fa : Addr} {fd : FuncData} (F : Fun K "_law_whole" "_law_whole" st_m_law_whole fa fd) (T : Txt K mg)  : FnOk P w K mg base (L2.CX P w) 1 fa fd ["_law_number_here"] (spM K mg 1 KR.m_law_whole) :=
  fn_G (def_ok (k := 0) F sc_m_law_whole rfl rfl fun cdv A outer s H E hr tk hpo => by
    have hu1 := hu_of hr
    have hu64 := hr.units
    exact (s_cons (s_set (i := 1) sc_m_law_whole.nd rfl (by first | exact Or.inl rfl | exact Or.inr rfl) (e_lst a_nil))
      (s_cons (s_while hpo (t_cmp o_gt (e_v (pv 0)) e_int (nomark _))
      (s_cons (s_expr (e_bm PySem.F.plainAttrs_list PySem.F.slot_list_append PySem.F.type_list_append m_append (e_v (pv 1)) (a_cons (e_op o_add (e_op o_mod (e_v (pv 0)) e_int) e_int) a_nil)))
      (s_one (s_set (i := 0) sc_m_law_whole.nd rfl (by first | exact Or.inl rfl | exact Or.inr rfl) (e_op o_div (e_v (pv 0)) e_int)))))
      (s_one (s_ret (e_G (e_op o_add (e_v (pv 1)) (e_lst (a_cons (e_v (pv 0)) a_nil)))))))))
theorem ok_m_law_bytes {fa : Addr} {fd : FuncData} (F : Fun K "_law_bytes" "_law_bytes" st_m_law_bytes fa fd) (T : Txt K mg) (hmf : mg "_law_bytes" = some (.ref fa)) (hB : Binds K fd ["_law_parcel_here"] []) (D_m_law_whole : DefAt P w K mg base 1 "_law_whole" 1 KR.m_law_whole) : ∀ n : Nat, FnOk P w K mg base (L2.CX P w) (1 + n) fa fd ["_law_parcel_here"] (spM K mg 1 (KR.m_law_bytes n)) := by
  intro n
  induction n with
  | zero => exact bad_ok rfl
  | succ fu ih =>
    have D_m_law_bytes : DefAt P w K mg base (1 + fu) "_law_bytes" 1 (KR.m_law_bytes fu) := ⟨⟨fa, fd, _, rfl, hmf, F.kp, hB, ih⟩⟩
    rw [KR.m_law_bytes_succ]
    refine fn_G (def_ok (k := 1 + fu) F sc_m_law_bytes rfl rfl fun cdv A outer s H E hr tk hpo => ?_)
    have hu1 := hu_of hr
    have hu64 := hr.units
    exact (s_cons (s_if (t_cmp o_is (e_v (pv 0)) e_non (nomark _))
      (s_one (s_ret (e_lst (a_cons e_int a_nil))))
      s_nil)
      (s_cons (s_if (t_v (e_isT rfl T.b_isinstance (e_v (pv 0)) rfl T.b_bool (by decide +kernel) (by decide)))
      (s_one (s_ret (e_lst (a_cons (e_op o_add e_int (e_ty c_int rfl T.b_int (by decide +kernel) (a_cons (e_v (pv 0)) a_nil))) a_nil))))
      s_nil)
      (s_cons (s_if (t_v (e_isT rfl T.b_isinstance (e_v (pv 0)) rfl T.b_int (by decide +kernel) (by decide)))
      (s_one (s_ret (e_if (t_cmp o_ge (e_v (pv 0)) e_int (nomark _)) (e_G (e_op o_add (e_lst (a_cons e_int a_nil)) (e_call D_m_law_whole (fG_len fDef_len) tk (hr.mono (by omega)) rfl (a_cons (e_v (pv 0)) a_nil)))) (e_G (e_op o_add (e_lst (a_cons e_int a_nil)) (e_call D_m_law_whole (fG_len fDef_len) tk (hr.mono (by omega)) rfl (a_cons (e_op o_sub (e_op o_sub e_int e_int) (e_v (pv 0))) a_nil)))))))
      s_nil)
      (s_cons (s_if (t_v (e_isT rfl T.b_isinstance (e_v (pv 0)) rfl T.b_str (by decide +kernel) (by decide)))
      (s_one (s_ret (e_G (e_op o_add (e_op o_add (e_lst (a_cons e_int a_nil)) (e_call D_m_law_whole (fG_len fDef_len) tk (hr.mono (by omega)) rfl (a_cons (e_blt c_len rfl T.b_len (by decide +kernel) (a_cons (e_v (pv 0)) a_nil)) a_nil))) (e_lc (own := [("_law_sign_here", 3)]) rfl sc_m_law_bytes.nd (i_val (e_v (pv 0))) (blkOk_by (own := [("_law_sign_here", 3)]) (N := N_m_law_bytes) (sc := defScope st_m_law_bytes) (by decide +kernel)) (fun _ _ _ _ _ => (g_name (pg_name (i := 3) sc_m_law_bytes.nd rfl (by first | exact Or.inl rfl | exact Or.inr rfl)) (hp_wipe (by decide)))) (fun _ _ _ _ _ => ts_nil) (fun _ _ _ _ _ => (e_blt c_ord rfl T.b_ord (by decide +kernel) (a_cons (e_v (pv 3)) a_nil))))))))
      s_nil)
      (s_cons (s_set (i := 1) sc_m_law_bytes.nd rfl (by first | exact Or.inl rfl | exact Or.inr rfl) (e_G (e_op o_add (e_lst (a_cons e_int a_nil)) (e_call D_m_law_whole (fG_len fDef_len) tk (hr.mono (by omega)) rfl (a_cons (e_blt c_len rfl T.b_len (by decide +kernel) (a_cons (e_v (pv 0)) a_nil)) a_nil)))))
      (s_cons (s_for hpo rfl (i_val (e_v (pv 0))) (g_name (pg_name (i := 2) sc_m_law_bytes.nd rfl (by first | exact Or.inl rfl | exact Or.inr rfl)) hp_any)
      (s_G (s_K (s_one (s_expr (e_bm PySem.F.plainAttrs_list PySem.F.slot_list_extend PySem.F.type_list_extend m_extend (e_v (pv 1)) (a_cons (e_call D_m_law_bytes (KR.m_law_bytes_len _) tk (hr.mono (by omega)) rfl (a_cons (e_v (pv 2)) a_nil)) a_nil)))))))
      (s_one (s_ret (e_v (pv 1))))))))))
theorem ok_m_law_same {fa : Addr} {fd : FuncData} (F : Fun K "_law_same" "_law_same" st_m_law_same fa fd) (T : Txt K mg) (hmf : mg "_law_same" = some (.ref fa)) (hB : Binds K fd ["_law_one", "_law_other"] [])  : ∀ n : Nat, FnOk P w K mg base (L2.CX P w) (0 + n) fa fd ["_law_one", "_law_other"] (spM K mg 2 (KR.m_law_same n)) := by
  intro n
  induction n with
  | zero => exact bad_ok rfl
  | succ fu ih =>
    have D_m_law_same : DefAt P w K mg base (0 + fu) "_law_same" 2 (KR.m_law_same fu) := ⟨⟨fa, fd, _, rfl, hmf, F.kp, hB, ih⟩⟩
    rw [KR.m_law_same_succ]
    refine fn_G (def_ok (k := 0 + fu) F sc_m_law_same rfl rfl fun cdv A outer s H E hr tk hpo => ?_)
    have hu1 := hu_of hr
    have hu64 := hr.units
    exact (s_cons (s_if (PW.pt (t_or (t_v (e_isT rfl T.b_isinstance (e_v (pv 0)) rfl T.b_tuple (by decide +kernel) (by decide))) (t_or1 (t_v (e_isT rfl T.b_isinstance (e_v (pv 1)) rfl T.b_tuple (by decide +kernel) (by decide))))))
      (s_cons (s_if (PW.pt (t_or (t_not (t_v (e_isT rfl T.b_isinstance (e_v (pv 0)) rfl T.b_tuple (by decide +kernel) (by decide)))) (t_or (t_not (t_v (e_isT rfl T.b_isinstance (e_v (pv 1)) rfl T.b_tuple (by decide +kernel) (by decide)))) (t_or1 (t_cmp (o_ne hu64) (e_blt c_len rfl T.b_len (by decide +kernel) (a_cons (e_v (pv 0)) a_nil)) (e_blt c_len rfl T.b_len (by decide +kernel) (a_cons (e_v (pv 1)) a_nil)) (nomark _))))))
      (s_one (s_ret e_bl))
      s_nil)
      (s_one (s_ret (e_G (e_blt (c_all rfl) rfl T.b_all (by decide +kernel) (a_cons (e_lc (own := [("_law_first", 2), ("_law_later", 3)]) rfl sc_m_law_same.nd (i_zip rfl T.b_zip (a_cons (e_v (pv 0)) (a_cons (e_v (pv 1)) a_nil))) (blkOk_by (own := [("_law_first", 2), ("_law_later", 3)]) (N := N_m_law_same) (sc := defScope st_m_law_same) (by decide +kernel)) (fun _ _ _ _ _ => (g_tup (n := 2) rfl (gs_cons (g_name (pg_name (i := 2) sc_m_law_same.nd rfl (by first | exact Or.inl rfl | exact Or.inr rfl)) (hp_wipe (by decide))) (gs_cons (g_name (pg_name (i := 3) sc_m_law_same.nd rfl (by first | exact Or.inl rfl | exact Or.inr rfl)) (hp_wipe (by decide))) gs_nil)) (gsl_cons (gsl_cons gsl_nil gN_ne) gN_ne))) (fun _ _ _ _ _ => ts_nil) (fun _ _ _ _ _ => (e_call D_m_law_same (KR.m_law_same_len _) takes0 (hr.mono (by omega)) rfl (a_cons (e_v (pv 2)) (a_cons (e_v (pv 3)) a_nil))))) a_nil))))))
      s_nil)
      (s_one (s_ret (e_and (e_cmp (o_eq hu64) (e_isT rfl T.b_isinstance (e_v (pv 0)) rfl T.b_bool (by decide +kernel) (by decide)) (e_isT rfl T.b_isinstance (e_v (pv 1)) rfl T.b_bool (by decide +kernel) (by decide)) (nomark _)) (e_and (e_cmp (o_eq hu64) (e_isT rfl T.b_isinstance (e_v (pv 0)) rfl T.b_str (by decide +kernel) (by decide)) (e_isT rfl T.b_isinstance (e_v (pv 1)) rfl T.b_str (by decide +kernel) (by decide)) (nomark _)) (e_one (e_cmp (o_eq hu64) (e_v (pv 0)) (e_v (pv 1)) (nomark _))))))))
theorem ok_m_law_is {fa : Addr} {fd : FuncData} (F : Fun K "_law_is" "_law_is" st_m_law_is fa fd) (T : Txt K mg) (hmf : mg "_law_is" = some (.ref fa)) (hB : Binds K fd ["_law_told_here", "_law_due"] [])  : ∀ n : Nat, FnOk P w K mg base (L2.CX P w) (0 + n) fa fd ["_law_told_here", "_law_due"] (spM K mg 2 (KR.m_law_is n)) := by
  intro n
  induction n with
  | zero => exact bad_ok rfl
  | succ fu ih =>
    have D_m_law_is : DefAt P w K mg base (0 + fu) "_law_is" 2 (KR.m_law_is fu) := ⟨⟨fa, fd, _, rfl, hmf, F.kp, hB, ih⟩⟩
    rw [KR.m_law_is_succ]
    refine fn_G (def_ok (k := 0 + fu) F sc_m_law_is rfl rfl fun cdv A outer s H E hr tk hpo => ?_)
    have hu1 := hu_of hr
    have hu64 := hr.units
    exact (s_one (s_ret (e_cmp (o_eq hu64) (e_blt c_reprI rfl T.b_repr (by decide +kernel) (a_cons (e_v (pv 0)) a_nil)) (e_blt c_reprI rfl T.b_repr (by decide +kernel) (a_cons (e_v (pv 1)) a_nil)) (nomark _))))
theorem ok_m_is_short_string {fa : Addr} {fd : FuncData} (F : Fun K "is_short_string" "is_short_string" st_m_is_short_string fa fd) (T : Txt K mg) (D_m_is_sign : DefAt P w K mg base 1 "is_sign" 1 KR.m_is_sign) : FnOk P w K mg base (L2.CX P w) 2 fa fd ["thing"] (spM K mg 1 KR.m_is_short_string) :=
  fn_G (def_ok (k := 1) F sc_m_is_short_string rfl rfl fun cdv A outer s H E hr tk hpo => by
    have hu1 := hu_of hr
    have hu64 := hr.units
    exact (s_cons (s_if (PW.pt (t_or (t_not (t_v (e_isT rfl T.b_isinstance (e_v (pv 0)) rfl T.b_str (by decide +kernel) (by decide)))) (t_or1 (t_not (t_chain o_le o_le e_int (e_blt c_len rfl T.b_len (by decide +kernel) (a_cons (e_v (pv 0)) a_nil)) (e_gi T.c_MOST_SIGNS rfl))))))
      (s_one (s_ret e_bl))
      s_nil)
      (s_one (s_ret (e_G (e_blt (c_all rfl) rfl T.b_all (by decide +kernel) (a_cons (e_lc (own := [("sign", 1)]) rfl sc_m_is_short_string.nd (i_val (e_v (pv 0))) (blkOk_by (own := [("sign", 1)]) (N := N_m_is_short_string) (sc := defScope st_m_is_short_string) (by decide +kernel)) (fun _ _ _ _ _ => (g_name (pg_name (i := 1) sc_m_is_short_string.nd rfl (by first | exact Or.inl rfl | exact Or.inr rfl)) (hp_wipe (by decide)))) (fun _ _ _ _ _ => ts_nil) (fun _ _ _ _ _ => (e_call D_m_is_sign (fG_len fDef_len) takes0 (hr.mono (by omega)) rfl (a_cons (e_blt c_ord rfl T.b_ord (by decide +kernel) (a_cons (e_v (pv 1)) a_nil)) a_nil)))) a_nil)))))))
theorem ok_m_is_parcel_deep {fa : Addr} {fd : FuncData} (F : Fun K "is_parcel_deep" "is_parcel_deep" st_m_is_parcel_deep fa fd) (T : Txt K mg) (hmf : mg "is_parcel_deep" = some (.ref fa)) (hB : Binds K fd ["thing", "left"] []) (D_m_is_short_string : DefAt P w K mg base 2 "is_short_string" 1 KR.m_is_short_string) : ∀ n : Nat, FnOk P w K mg base (L2.CX P w) (2 + n) fa fd ["thing", "left"] (spM K mg 2 (KR.m_is_parcel_deep n)) := by
  intro n
  induction n with
  | zero => exact bad_ok rfl
  | succ fu ih =>
    have D_m_is_parcel_deep : DefAt P w K mg base (2 + fu) "is_parcel_deep" 2 (KR.m_is_parcel_deep fu) := ⟨⟨fa, fd, _, rfl, hmf, F.kp, hB, ih⟩⟩
    rw [KR.m_is_parcel_deep_succ]
    refine fn_G (def_ok (k := 2 + fu) F sc_m_is_parcel_deep rfl rfl fun cdv A outer s H E hr tk hpo => ?_)
    have hu1 := hu_of hr
    have hu64 := hr.units
    exact (s_cons (s_if (t_v (e_isT rfl T.b_isinstance (e_v (pv 0)) rfl T.b_tuple (by decide +kernel) (by decide)))
      (s_one (s_ret (e_and (e_cmp o_gt (e_v (pv 1)) e_int (nomark _)) (e_one (e_G (e_blt (c_all rfl) rfl T.b_all (by decide +kernel) (a_cons (e_lc (own := [("item", 2)]) rfl sc_m_is_parcel_deep.nd (i_val (e_v (pv 0))) (blkOk_by (own := [("item", 2)]) (N := N_m_is_parcel_deep) (sc := defScope st_m_is_parcel_deep) (by decide +kernel)) (fun _ _ _ _ _ => (g_name (pg_name (i := 2) sc_m_is_parcel_deep.nd rfl (by first | exact Or.inl rfl | exact Or.inr rfl)) (hp_wipe (by decide)))) (fun _ _ _ _ _ => ts_nil) (fun _ _ _ _ _ => (e_call D_m_is_parcel_deep (KR.m_is_parcel_deep_len _) takes0 (hr.mono (by omega)) rfl (a_cons (e_v (pv 2)) (a_cons (e_op o_sub (e_v (pv 1)) e_int) a_nil))))) a_nil)))))))
      s_nil)
      (s_one (s_ret (e_or (e_cmp o_is (e_v (pv 0)) e_non (nomark _)) (e_or (e_isT rfl T.b_isinstance (e_v (pv 0)) rfl T.b_int (by decide +kernel) (by decide)) (e_one (e_call D_m_is_short_string (fG_len fDef_len) tk (hr.mono (by omega)) rfl (a_cons (e_v (pv 0)) a_nil))))))))
theorem ok_m_is_parcel {fa : Addr} {fd : FuncData} (F : Fun K "is_parcel" "is_parcel" st_m_is_parcel fa fd) (T : Txt K mg) (D_m_is_parcel_deep : DefAt P w K mg base 43 "is_parcel_deep" 2 (KR.m_is_parcel_deep 40)) : FnOk P w K mg base (L2.CX P w) 44 fa fd ["thing"] (spM K mg 1 KR.m_is_parcel) :=
  fn_G (def_ok (k := 43) F sc_m_is_parcel rfl rfl fun cdv A outer s H E hr tk hpo => by
    have hu1 := hu_of hr
    have hu64 := hr.units
    exact (s_one (s_ret (e_call D_m_is_parcel_deep (KR.m_is_parcel_deep_len _) tk (hr.mono (by omega)) rfl (a_cons (e_v (pv 0)) (a_cons (e_gi T.c_MOST_DEEP rfl) a_nil))))))
theorem ok_m_whole {fa : Addr} {fd : FuncData} (F : Fun K "whole" "whole" st_m_whole fa fd) (T : Txt K mg)  : FnOk P w K mg base (L2.CX P w) 1 fa fd ["number"] (spM K mg 1 KR.m_whole) :=
  fn_G (def_ok (k := 0) F sc_m_whole rfl rfl fun cdv A outer s H E hr tk hpo => by
    have hu1 := hu_of hr
    have hu64 := hr.units
    exact (s_cons (s_set (i := 1) sc_m_whole.nd rfl (by first | exact Or.inl rfl | exact Or.inr rfl) (e_lst a_nil))
      (s_cons (s_while hpo (t_cmp o_ge (e_v (pv 0)) (e_gi T.c_BASE rfl) (nomark _))
      (s_cons (s_expr (e_bm PySem.F.plainAttrs_list PySem.F.slot_list_append PySem.F.type_list_append m_append (e_v (pv 1)) (a_cons (e_op o_add (e_gi T.c_BASE rfl) (e_op o_mod (e_v (pv 0)) (e_gi T.c_BASE rfl))) a_nil)))
      (s_one (s_set (i := 0) sc_m_whole.nd rfl (by first | exact Or.inl rfl | exact Or.inr rfl) (e_op o_div (e_v (pv 0)) (e_gi T.c_BASE rfl))))))
      (s_one (s_ret (e_G (e_op o_add (e_v (pv 1)) (e_lst (a_cons (e_v (pv 0)) a_nil)))))))))
theorem ok_m_bytes_of {fa : Addr} {fd : FuncData} (F : Fun K "bytes_of" "bytes_of" st_m_bytes_of fa fd) (T : Txt K mg) (hmf : mg "bytes_of" = some (.ref fa)) (hB : Binds K fd ["parcel"] []) (D_m_whole : DefAt P w K mg base 1 "whole" 1 KR.m_whole) : ∀ n : Nat, FnOk P w K mg base (L2.CX P w) (1 + n) fa fd ["parcel"] (spM K mg 1 (KR.m_bytes_of n)) := by
  intro n
  induction n with
  | zero => exact bad_ok rfl
  | succ fu ih =>
    have D_m_bytes_of : DefAt P w K mg base (1 + fu) "bytes_of" 1 (KR.m_bytes_of fu) := ⟨⟨fa, fd, _, rfl, hmf, F.kp, hB, ih⟩⟩
    rw [KR.m_bytes_of_succ]
    refine fn_G (def_ok (k := 1 + fu) F sc_m_bytes_of rfl rfl fun cdv A outer s H E hr tk hpo => ?_)
    have hu1 := hu_of hr
    have hu64 := hr.units
    exact (s_cons (s_if (t_cmp o_is (e_v (pv 0)) e_non (nomark _))
      (s_one (s_ret (e_lst (a_cons (e_gi T.c_NOTHING rfl) a_nil))))
      s_nil)
      (s_cons (s_if (t_v (e_isT rfl T.b_isinstance (e_v (pv 0)) rfl T.b_bool (by decide +kernel) (by decide)))
      (s_one (s_ret (e_lst (a_cons (e_if (t_v (e_v (pv 0))) (e_gi T.c_YES rfl) (e_gi T.c_NO rfl)) a_nil))))
      s_nil)
      (s_cons (s_if (t_v (e_isT rfl T.b_isinstance (e_v (pv 0)) rfl T.b_int (by decide +kernel) (by decide)))
      (s_one (s_ret (e_if (t_cmp o_ge (e_v (pv 0)) e_int (nomark _)) (e_G (e_op o_add (e_lst (a_cons (e_gi T.c_NUMBER rfl) a_nil)) (e_call D_m_whole (fG_len fDef_len) tk (hr.mono (by omega)) rfl (a_cons (e_v (pv 0)) a_nil)))) (e_G (e_op o_add (e_lst (a_cons (e_gi T.c_BELOW rfl) a_nil)) (e_call D_m_whole (fG_len fDef_len) tk (hr.mono (by omega)) rfl (a_cons (e_op o_sub (e_un u_neg e_int) (e_v (pv 0))) a_nil)))))))
      s_nil)
      (s_cons (s_if (t_v (e_isT rfl T.b_isinstance (e_v (pv 0)) rfl T.b_str (by decide +kernel) (by decide)))
      (s_one (s_ret (e_G (e_op o_add (e_op o_add (e_lst (a_cons (e_gi T.c_STRING rfl) a_nil)) (e_call D_m_whole (fG_len fDef_len) tk (hr.mono (by omega)) rfl (a_cons (e_blt c_len rfl T.b_len (by decide +kernel) (a_cons (e_v (pv 0)) a_nil)) a_nil))) (e_lc (own := [("sign", 3)]) rfl sc_m_bytes_of.nd (i_val (e_v (pv 0))) (blkOk_by (own := [("sign", 3)]) (N := N_m_bytes_of) (sc := defScope st_m_bytes_of) (by decide +kernel)) (fun _ _ _ _ _ => (g_name (pg_name (i := 3) sc_m_bytes_of.nd rfl (by first | exact Or.inl rfl | exact Or.inr rfl)) (hp_wipe (by decide)))) (fun _ _ _ _ _ => ts_nil) (fun _ _ _ _ _ => (e_blt c_ord rfl T.b_ord (by decide +kernel) (a_cons (e_v (pv 3)) a_nil))))))))
      s_nil)
      (s_cons (s_set (i := 1) sc_m_bytes_of.nd rfl (by first | exact Or.inl rfl | exact Or.inr rfl) (e_G (e_op o_add (e_lst (a_cons (e_gi T.c_SEVERAL rfl) a_nil)) (e_call D_m_whole (fG_len fDef_len) tk (hr.mono (by omega)) rfl (a_cons (e_blt c_len rfl T.b_len (by decide +kernel) (a_cons (e_v (pv 0)) a_nil)) a_nil)))))
      (s_cons (s_for hpo rfl (i_val (e_v (pv 0))) (g_name (pg_name (i := 2) sc_m_bytes_of.nd rfl (by first | exact Or.inl rfl | exact Or.inr rfl)) hp_any)
      (s_G (s_K (s_one (s_expr (e_bm PySem.F.plainAttrs_list PySem.F.slot_list_extend PySem.F.type_list_extend m_extend (e_v (pv 1)) (a_cons (e_call D_m_bytes_of (KR.m_bytes_of_len _) tk (hr.mono (by omega)) rfl (a_cons (e_v (pv 2)) a_nil)) a_nil)))))))
      (s_one (s_ret (e_v (pv 1))))))))))
theorem ok_m_row_of {fa : Addr} {fd : FuncData} (F : Fun K "row_of" "row_of" st_m_row_of fa fd) (T : Txt K mg) (D_m_bytes_of : DefAt P w K mg base 42 "bytes_of" 1 (KR.m_bytes_of 40)) (D_m_is_parcel : DefAt P w K mg base 44 "is_parcel" 1 KR.m_is_parcel) : FnOk P w K mg base (L2.CX P w) 45 fa fd ["parcel"] (spM K mg 1 KR.m_row_of) :=
  fn_G (def_ok (k := 44) F sc_m_row_of rfl rfl fun cdv A outer s H E hr tk hpo => by
    have hu1 := hu_of hr
    have hu64 := hr.units
    exact (s_cons (s_if (t_not (t_v (e_call D_m_is_parcel (fG_len fDef_len) tk (hr.mono (by omega)) rfl (a_cons (e_v (pv 0)) a_nil))))
      (s_one (s_raise0 rfl tk T.e_NoParcel rfl))
      s_nil)
      (s_one (s_ret (e_ty c_tuple rfl T.b_tuple (by decide +kernel) (a_cons (e_call D_m_bytes_of (KR.m_bytes_of_len _) tk (hr.mono (by omega)) rfl (a_cons (e_v (pv 0)) a_nil)) a_nil))))))
theorem ok_m_sealed {fa : Addr} {fd : FuncData} (F : Fun K "sealed" "sealed" st_m_sealed fa fd) (T : Txt K mg) (D_m_row_of : DefAt P w K mg base 45 "row_of" 1 KR.m_row_of) (D_m_seal_of : DefAt P w K mg base 2 "seal_of" 1 KR.m_seal_of) : FnOk P w K mg base (L2.CX P w) 46 fa fd ["parcel"] (spM K mg 1 KR.m_sealed) :=
  fn_G (def_ok (k := 45) F sc_m_sealed rfl rfl fun cdv A outer s H E hr tk hpo => by
    have hu1 := hu_of hr
    have hu64 := hr.units
    exact (s_cons (s_set (i := 1) sc_m_sealed.nd rfl (by first | exact Or.inl rfl | exact Or.inr rfl) (e_call D_m_row_of (fG_len fDef_len) tk (hr.mono (by omega)) rfl (a_cons (e_v (pv 0)) a_nil)))
      (s_one (s_ret (e_op o_add (e_v (pv 1)) (e_call D_m_seal_of (fG_len fDef_len) tk (hr.mono (by omega)) rfl (a_cons (e_v (pv 1)) a_nil)))))))
theorem ok_m_mark {fa : Addr} {fd : FuncData} (F : Fun K "mark" "mark" st_m_mark fa fd) (T : Txt K mg) (D_m_check_row : DefAt P w K mg base 2 "check_row" 1 KR.m_check_row) (D_m_raw_mark : DefAt P w K mg base 1 "raw_mark" 1 KR.m_raw_mark) : FnOk P w K mg base (L2.CX P w) 3 fa fd ["row"] (spM K mg 1 KR.m_mark) :=
  fn_G (def_ok (k := 2) F sc_m_mark rfl rfl fun cdv A outer s H E hr tk hpo => by
    have hu1 := hu_of hr
    have hu64 := hr.units
    exact (s_cons (s_expr (e_call D_m_check_row (fG_len fDef_len) tk (hr.mono (by omega)) rfl (a_cons (e_v (pv 0)) a_nil)))
      (s_one (s_ret (e_call D_m_raw_mark (fG_len fDef_len) tk (hr.mono (by omega)) rfl (a_cons (e_v (pv 0)) a_nil))))))
theorem ok_m_law_read_whole {fa : Addr} {fd : FuncData} (F : Fun K "_law_read_whole" "_law_read_whole" st_m_law_read_whole fa fd) (T : Txt K mg)  : FnOk P w K mg base (L2.CX P w) 1 fa fd ["_law_row", "_law_at"] (spM K mg 2 KR.m_law_read_whole) :=
  fn_G (def_ok (k := 0) F sc_m_law_read_whole rfl rfl fun cdv A outer s H E hr tk hpo => by
    have hu1 := hu_of hr
    have hu64 := hr.units
    exact (s_cons (s_for hpo rfl (i_rng2 rfl T.b_range (a_cons (e_op o_add (e_v (pv 1)) e_int) (a_cons (e_op o_add (e_blt c_len rfl T.b_len (by decide +kernel) (a_cons (e_v (pv 0)) a_nil)) e_int) a_nil))) (g_name (pg_name (i := 2) sc_m_law_read_whole.nd rfl (by first | exact Or.inl rfl | exact Or.inr rfl)) hp_any)
      (s_K (s_one (s_if (t_cmp o_lt (e_ix hu1 (e_v (pv 0)) (e_op o_sub (e_v (pv 2)) e_int)) e_int (nomark _))
      (s_cons (s_if (PW.pt (t_and (t_cmp (o_eq hu64) (e_ix hu1 (e_v (pv 0)) (e_op o_sub (e_v (pv 2)) e_int)) e_int (nomark _)) (t_and1 (t_cmp o_gt (e_op o_sub (e_v (pv 2)) (e_v (pv 1))) e_int (nomark _)))))
      (s_one (s_ret (e_tup (a_cons e_non (a_cons (e_v (pv 1)) a_nil)))))
      s_nil)
      (s_cons (s_set (i := 3) sc_m_law_read_whole.nd rfl (by first | exact Or.inl rfl | exact Or.inr rfl) e_int)
      (s_cons (s_for hpo rfl (i_val (e_revT (e_sl (e_v (pv 0)) (o_some (e_v (pv 1))) (o_some (e_v (pv 2)))))) (g_name (pg_name (i := 4) sc_m_law_read_whole.nd rfl (by first | exact Or.inl rfl | exact Or.inr rfl)) hp_any)
      (s_K (s_one (s_set (i := 3) sc_m_law_read_whole.nd rfl (by first | exact Or.inl rfl | exact Or.inr rfl) (e_op o_add (e_op o_mulI (e_v (pv 3)) e_int) (e_op o_mod (e_ty c_int rfl T.b_int (by decide +kernel) (a_cons (e_v (pv 4)) a_nil)) e_int))))))
      (s_one (s_ret (e_tup (a_cons (e_v (pv 3)) (a_cons (e_v (pv 2)) a_nil))))))))
      s_nil))))
      (s_one (s_ret (e_tup (a_cons e_non (a_cons (e_v (pv 1)) a_nil)))))))
theorem ok_m_law_sign {fa : Addr} {fd : FuncData} (F : Fun K "_law_sign" "_law_sign" st_m_law_sign fa fd) (T : Txt K mg)  : FnOk P w K mg base (L2.CX P w) 1 fa fd ["_law_byte"] (spM K mg 1 KR.m_law_sign) :=
  fn_G (def_ok (k := 0) F sc_m_law_sign rfl rfl fun cdv A outer s H E hr tk hpo => by
    have hu1 := hu_of hr
    have hu64 := hr.units
    exact (s_cons (s_set (i := 1) sc_m_law_sign.nd rfl (by first | exact Or.inl rfl | exact Or.inr rfl) e_str)
      (s_cons (s_set (i := 1) sc_m_law_sign.nd rfl (by first | exact Or.inl rfl | exact Or.inr rfl) (e_op o_add (e_v (pv 1)) e_str))
      (s_one (s_ret (e_ix hu1 (e_v (pv 1)) (e_op o_sub (e_op o_sub (e_v (pv 0)) e_int) (e_ty c_int rfl T.b_int (by decide +kernel) (a_cons (e_cmp o_gt (e_v (pv 0)) e_int (nomark _)) a_nil)))))))))
theorem ok_m_law_read_string {fa : Addr} {fd : FuncData} (F : Fun K "_law_read_string" "_law_read_string" st_m_law_read_string fa fd) (T : Txt K mg) (D_m_law_sign : DefAt P w K mg base 1 "_law_sign" 1 KR.m_law_sign) : FnOk P w K mg base (L2.CX P w) 2 fa fd ["_law_row", "_law_begin", "_law_many", "_law_here"] (spM K mg 4 KR.m_law_read_string) :=
  fn_G (def_ok (k := 1) F sc_m_law_read_string rfl rfl fun cdv A outer s H E hr tk hpo => by
    have hu1 := hu_of hr
    have hu64 := hr.units
    exact (s_cons (s_if (t_not (t_chain o_le o_le e_int (e_v (pv 2)) e_int))
      (s_one (s_ret (e_tup (a_cons e_non (a_cons (e_v (pv 1)) a_nil)))))
      s_nil)
      (s_cons (s_for hpo rfl (i_rng2 rfl T.b_range (a_cons (e_v (pv 3)) (a_cons (e_op o_add (e_v (pv 3)) (e_v (pv 2))) a_nil))) (g_name (pg_name (i := 4) sc_m_law_read_string.nd rfl (by first | exact Or.inl rfl | exact Or.inr rfl)) hp_any)
      (s_K (s_one (s_if (PW.pt (t_or (t_cmp o_ge (e_v (pv 4)) (e_blt c_len rfl T.b_len (by decide +kernel) (a_cons (e_v (pv 0)) a_nil)) (nomark _)) (t_or (t_not (t_chain o_le o_le e_int (e_ix hu1 (e_v (pv 0)) (e_v (pv 4))) e_int)) (t_or1 (t_cmp (o_eq hu64) (e_ix hu1 (e_v (pv 0)) (e_v (pv 4))) e_int (nomark _))))))
      (s_one (s_ret (e_tup (a_cons e_non (a_cons (e_blt (c_min rfl) rfl T.b_min (by decide +kernel) (a_cons (e_v (pv 4)) (a_cons (e_blt c_len rfl T.b_len (by decide +kernel) (a_cons (e_v (pv 0)) a_nil)) a_nil))) a_nil)))))
      s_nil))))
      (s_one (s_ret (e_tup (a_cons (e_tup (a_cons (e_G (e_bm PySem.F.plainAttrs_str PySem.F.slot_str_join PySem.F.type_str_join m_join e_str (a_cons (e_lc (own := [("_law_byte", 5)]) rfl sc_m_law_read_string.nd (i_val (e_sl (e_v (pv 0)) (o_some (e_v (pv 3))) (o_some (e_op o_add (e_v (pv 3)) (e_v (pv 2)))))) (blkOk_by (own := [("_law_byte", 5)]) (N := N_m_law_read_string) (sc := defScope st_m_law_read_string) (by decide +kernel)) (fun _ _ _ _ _ => (g_name (pg_name (i := 5) sc_m_law_read_string.nd rfl (by first | exact Or.inl rfl | exact Or.inr rfl)) (hp_wipe (by decide)))) (fun _ _ _ _ _ => ts_nil) (fun _ _ _ _ _ => (e_call D_m_law_sign (fG_len fDef_len) takes0 (hr.mono (by omega)) rfl (a_cons (e_v (pv 5)) a_nil)))) a_nil))) a_nil)) (a_cons (e_op o_add (e_v (pv 3)) (e_v (pv 2))) a_nil))))))))
theorem ok_m_law_read {fa : Addr} {fd : FuncData} (F : Fun K "_law_read" "_law_read" st_m_law_read fa fd) (T : Txt K mg) (hmf : mg "_law_read" = some (.ref fa)) (hB : Binds K fd ["_law_row", "_law_at", "_law_left"] []) (D_m_law_read_string : DefAt P w K mg base 2 "_law_read_string" 4 KR.m_law_read_string) (D_m_law_read_whole : DefAt P w K mg base 1 "_law_read_whole" 2 KR.m_law_read_whole) : ∀ n : Nat, FnOk P w K mg base (L2.CX P w) (2 + n) fa fd ["_law_row", "_law_at", "_law_left"] (spM K mg 3 (KR.m_law_read n)) := by
  intro n
  induction n with
  | zero => exact bad_ok rfl
  | succ fu ih =>
    have D_m_law_read : DefAt P w K mg base (2 + fu) "_law_read" 3 (KR.m_law_read fu) := ⟨⟨fa, fd, _, rfl, hmf, F.kp, hB, ih⟩⟩
    rw [KR.m_law_read_succ]
    refine fn_G (def_ok (k := 2 + fu) F sc_m_law_read rfl rfl fun cdv A outer s H E hr tk hpo => ?_)
    have hu1 := hu_of hr
    have hu64 := hr.units
    exact (s_cons (s_if (t_cmp o_ge (e_v (pv 1)) (e_blt c_len rfl T.b_len (by decide +kernel) (a_cons (e_v (pv 0)) a_nil)) (nomark _))
      (s_one (s_ret (e_tup (a_cons e_non (a_cons (e_blt c_len rfl T.b_len (by decide +kernel) (a_cons (e_v (pv 0)) a_nil)) a_nil)))))
      s_nil)
      (s_cons (s_set (i := 3) sc_m_law_read.nd rfl (by first | exact Or.inl rfl | exact Or.inr rfl) (e_ix hu1 (e_v (pv 0)) (e_v (pv 1))))
      (s_cons (s_if (PW.pt (t_or (t_cmp o_gt (e_v (pv 3)) e_int (nomark _)) (t_or1 (PW.pt (t_and (t_cmp (o_eq hu64) (e_v (pv 3)) e_int (nomark _)) (t_and1 (t_cmp (o_eq hu64) (e_v (pv 2)) e_int (nomark _))))))))
      (s_one (s_ret (e_tup (a_cons e_non (a_cons (e_v (pv 1)) a_nil)))))
      s_nil)
      (s_cons (s_if (t_cmp o_lt (e_v (pv 3)) e_int (nomark _))
      (s_one (s_ret (e_tup (a_cons (e_tup (a_cons (e_G (e_ix hu1 (e_lst (a_cons e_non (a_cons e_bl (a_cons e_bl a_nil)))) (e_v (pv 3)))) a_nil)) (a_cons (e_op o_add (e_v (pv 1)) e_int) a_nil)))))
      s_nil)
      (s_cons (s_asg (e_call D_m_law_read_whole (fG_len fDef_len) tk (hr.mono (by omega)) rfl (a_cons (e_v (pv 0)) (a_cons (e_op o_add (e_v (pv 1)) e_int) a_nil))) (g_tup (n := 2) rfl (gs_cons (g_name (pg_name (i := 4) sc_m_law_read.nd rfl (by first | exact Or.inl rfl | exact Or.inr rfl)) hp_any) (gs_cons (g_name (pg_name (i := 5) sc_m_law_read.nd rfl (by first | exact Or.inl rfl | exact Or.inr rfl)) hp_any) gs_nil)) (gsl_cons (gsl_cons gsl_nil gN_ne) gN_ne)))
      (s_cons (s_if (t_cmp o_is (e_v (pv 4)) e_non (nomark _))
      (s_one (s_ret (e_tup (a_cons e_non (a_cons (e_v (pv 5)) a_nil)))))
      s_nil)
      (s_cons (s_if (t_cmp o_lt (e_v (pv 3)) e_int (nomark _))
      (s_one (s_ret (e_tup (a_cons (e_tup (a_cons (e_if (t_cmp (o_eq hu64) (e_v (pv 3)) e_int (nomark _)) (e_v (pv 4)) (e_op o_sub (e_op o_sub e_int e_int) (e_v (pv 4)))) a_nil)) (a_cons (e_v (pv 5)) a_nil)))))
      s_nil)
      (s_cons (s_if (t_cmp (o_eq hu64) (e_v (pv 3)) e_int (nomark _))
      (s_one (s_ret (e_call D_m_law_read_string (fG_len fDef_len) tk (hr.mono (by omega)) rfl (a_cons (e_v (pv 0)) (a_cons (e_op o_add (e_v (pv 1)) e_int) (a_cons (e_v (pv 4)) (a_cons (e_v (pv 5)) a_nil)))))))
      s_nil)
      (s_cons (s_set (i := 6) sc_m_law_read.nd rfl (by first | exact Or.inl rfl | exact Or.inr rfl) (e_lst a_nil))
      (s_cons (s_while hpo (t_cmp o_lt (e_blt c_len rfl T.b_len (by decide +kernel) (a_cons (e_v (pv 6)) a_nil)) (e_v (pv 4)) (nomark _))
      (s_K (s_cons (s_asg (e_call D_m_law_read (KR.m_law_read_len _) tk (hr.mono (by omega)) rfl (a_cons (e_v (pv 0)) (a_cons (e_v (pv 5)) (a_cons (e_op o_sub (e_v (pv 2)) e_int) a_nil)))) (g_tup (n := 2) rfl (gs_cons (g_name (pg_name (i := 7) sc_m_law_read.nd rfl (by first | exact Or.inl rfl | exact Or.inr rfl)) hp_any) (gs_cons (g_name (pg_name (i := 5) sc_m_law_read.nd rfl (by first | exact Or.inl rfl | exact Or.inr rfl)) hp_any) gs_nil)) (gsl_cons (gsl_cons gsl_nil gN_ne) gN_ne)))
      (s_cons (s_if (t_cmp o_is (e_v (pv 7)) e_non (nomark _))
      (s_one (s_ret (e_tup (a_cons e_non (a_cons (e_v (pv 5)) a_nil)))))
      s_nil)
      (s_one (s_expr (e_bm PySem.F.plainAttrs_list PySem.F.slot_list_append PySem.F.type_list_append m_append (e_v (pv 6)) (a_cons (e_ix hu1 (e_v (pv 7)) e_int) a_nil))))))))
      (s_one (s_ret (e_tup (a_cons (e_tup (a_cons (e_ty c_tuple rfl T.b_tuple (by decide +kernel) (a_cons (e_v (pv 6)) a_nil)) a_nil)) (a_cons (e_v (pv 5)) a_nil)))))))))))))))
theorem ok_m_law_told {fa : Addr} {fd : FuncData} (F : Fun K "_law_told" "_law_told" st_m_law_told fa fd) (T : Txt K mg) (D_m_law_read : DefAt P w K mg base 43 "_law_read" 3 (KR.m_law_read 40)) : FnOk P w K mg base (L2.CX P w) 44 fa fd ["_law_row"] (spM K mg 1 KR.m_law_told) :=
  fn_G (def_ok (k := 43) F sc_m_law_told rfl rfl fun cdv A outer s H E hr tk hpo => by
    have hu1 := hu_of hr
    have hu64 := hr.units
    exact (s_cons (s_asg (e_call D_m_law_read (KR.m_law_read_len _) tk (hr.mono (by omega)) rfl (a_cons (e_v (pv 0)) (a_cons e_int (a_cons e_int a_nil)))) (g_tup (n := 2) rfl (gs_cons (g_name (pg_name (i := 1) sc_m_law_told.nd rfl (by first | exact Or.inl rfl | exact Or.inr rfl)) hp_any) (gs_cons (g_name (pg_name (i := 2) sc_m_law_told.nd rfl (by first | exact Or.inl rfl | exact Or.inr rfl)) hp_any) gs_nil)) (gsl_cons (gsl_cons gsl_nil gN_ne) gN_ne)))
      (s_cons (s_if (t_cmp o_is (e_v (pv 1)) e_non (nomark _))
      (s_one (s_ret (e_v (pv 2))))
      s_nil)
      (s_one (s_ret (e_if (t_cmp (o_eq hu64) (e_v (pv 2)) (e_blt c_len rfl T.b_len (by decide +kernel) (a_cons (e_v (pv 0)) a_nil)) (nomark _)) (e_v (pv 1)) (e_v (pv 2))))))))
theorem ok_m_law_opened {fa : Addr} {fd : FuncData} (F : Fun K "_law_opened" "_law_opened" st_m_law_opened fa fd) (T : Txt K mg) (D_m_law_sealed : DefAt P w K mg base 2 "_law_sealed" 1 KR.m_law_sealed) (D_m_law_told : DefAt P w K mg base 44 "_law_told" 1 KR.m_law_told) : FnOk P w K mg base (L2.CX P w) 45 fa fd ["_law_row"] (spM K mg 1 KR.m_law_opened) :=
  fn_G (def_ok (k := 44) F sc_m_law_opened rfl rfl fun cdv A outer s H E hr tk hpo => by
    have hu1 := hu_of hr
    have hu64 := hr.units
    exact (s_cons (s_if (PW.pt (t_or (t_cmp o_lt (e_blt c_len rfl T.b_len (by decide +kernel) (a_cons (e_v (pv 0)) a_nil)) e_int (nomark _)) (t_or1 (t_cmp (o_ne hu64) (e_call D_m_law_sealed (fG_len fDef_len) tk (hr.mono (by omega)) rfl (a_cons (e_sl (e_v (pv 0)) o_no (o_some (e_un u_neg e_int))) a_nil)) (e_v (pv 0)) (nomark _)))))
      (s_one (s_ret (e_tup a_nil)))
      s_nil)
      (s_cons (s_set (i := 1) sc_m_law_opened.nd rfl (by first | exact Or.inl rfl | exact Or.inr rfl) (e_call D_m_law_told (fG_len fDef_len) tk (hr.mono (by omega)) rfl (a_cons (e_sl (e_v (pv 0)) o_no (o_some (e_un u_neg e_int))) a_nil)))
      (s_one (s_ret (e_if (t_v (e_isT rfl T.b_isinstance (e_v (pv 1)) rfl T.b_tuple (by decide +kernel) (by decide))) (e_v (pv 1)) (e_tup a_nil)))))))
theorem ok_m_law {fa : Addr} {fd : FuncData} (F : Fun K "law" "law" st_m_law fa fd) (T : Txt K mg) (D_m_law_bytes : DefAt P w K mg base 42 "_law_bytes" 1 (KR.m_law_bytes 40)) (D_m_law_draw : DefAt P w K mg base 1 "_law_draw" 2 KR.m_law_draw) (D_m_law_is : DefAt P w K mg base 41 "_law_is" 2 (KR.m_law_is 40)) (D_m_law_mark : DefAt P w K mg base 1 "_law_mark" 1 KR.m_law_mark) (D_m_law_opened : DefAt P w K mg base 45 "_law_opened" 1 KR.m_law_opened) (D_m_law_parcel : DefAt P w K mg base 9 "_law_parcel" 2 (KR.m_law_parcel 6)) (D_m_law_pool : DefAt P w K mg base 1 "_law_pool" 1 KR.m_law_pool) (D_m_law_same : DefAt P w K mg base 41 "_law_same" 2 (KR.m_law_same 40)) (D_m_law_sealed : DefAt P w K mg base 2 "_law_sealed" 1 KR.m_law_sealed) (D_m_mark : DefAt P w K mg base 3 "mark" 1 KR.m_mark) (D_m_sealed : DefAt P w K mg base 46 "sealed" 1 KR.m_sealed) (D_m_unsealed : DefAt P w K mg base 86 "unsealed" 1 KR.m_unsealed) : FnOk P w K mg base (L2.CX P w) 87 fa fd ["_law_script"] (spM K mg 1 m_law) :=
  (def_ok (k := 86) F sc_m_law rfl rfl fun cdv A outer s H E hr tk hpo => by
    have hu1 := hu_of hr
    have hu64 := hr.units
    exact (s_cons (s_set (i := 1) sc_m_law.nd rfl (by first | exact Or.inl rfl | exact Or.inr rfl) (e_call D_m_law_pool fDef_len tk (hr.mono (by omega)) rfl (a_cons (e_v (pv 0)) a_nil)))
      (s_cons (s_for hpo rfl (i_rng1 rfl T.b_range (a_cons e_int a_nil)) (g_name (pg_name (i := 2) sc_m_law.nd rfl (by first | exact Or.inl rfl | exact Or.inr rfl)) hp_any)
      (s_G (s_K (s_cons (s_set (i := 3) sc_m_law.nd rfl (by first | exact Or.inl rfl | exact Or.inr rfl) (e_call D_m_law_parcel (KR.m_law_parcel_len _) tk (hr.mono (by omega)) rfl (a_cons (e_v (pv 1)) (a_cons e_int a_nil))))
      (s_cons (s_set (i := 4) sc_m_law.nd rfl (by first | exact Or.inl rfl | exact Or.inr rfl) (e_ty c_tuple rfl T.b_tuple (by decide +kernel) (a_cons (e_call D_m_law_bytes (KR.m_law_bytes_len _) tk (hr.mono (by omega)) rfl (a_cons (e_v (pv 3)) a_nil)) a_nil)))
      (s_cons (s_if (PW.pt (t_or (t_not (t_v (e_call D_m_law_is (KR.m_law_is_len _) tk (hr.mono (by omega)) rfl (a_cons (e_call D_m_mark (fG_len fDef_len) tk (hr.mono (by omega)) rfl (a_cons (e_v (pv 4)) a_nil)) (a_cons (e_call D_m_law_mark (fG_len fDef_len) tk (hr.mono (by omega)) rfl (a_cons (e_v (pv 4)) a_nil)) a_nil))))) (t_or (t_not (t_v (e_call D_m_law_is (KR.m_law_is_len _) tk (hr.mono (by omega)) rfl (a_cons (e_call D_m_mark (fG_len fDef_len) tk (hr.mono (by omega)) rfl (a_cons (e_tup a_nil) a_nil)) (a_cons e_int a_nil))))) (t_or1 (t_cmp (o_ne hu64) (e_call D_m_sealed (fG_len fDef_len) tk (hr.mono (by omega)) rfl (a_cons (e_v (pv 3)) a_nil)) (e_call D_m_law_sealed (fG_len fDef_len) tk (hr.mono (by omega)) rfl (a_cons (e_v (pv 4)) a_nil)) (nomark _))))))
      (s_one (s_ret e_bl))
      s_nil)
      (s_cons (s_set (i := 5) sc_m_law.nd rfl (by first | exact Or.inl rfl | exact Or.inr rfl) (e_call D_m_unsealed (fG_len fDef_len) tk (hr.mono (by omega)) rfl (a_cons (e_call D_m_law_sealed (fG_len fDef_len) tk (hr.mono (by omega)) rfl (a_cons (e_v (pv 4)) a_nil)) a_nil)))
      (s_cons (s_if (t_not (t_v (e_call D_m_law_same (KR.m_law_same_len _) tk (hr.mono (by omega)) rfl (a_cons (e_v (pv 5)) (a_cons (e_tup (a_cons (e_v (pv 3)) a_nil)) a_nil)))))
      (s_one (s_ret e_bl))
      s_nil)
      (s_cons (s_set (i := 6) sc_m_law.nd rfl (by first | exact Or.inl rfl | exact Or.inr rfl) (e_call D_m_law_sealed (fG_len fDef_len) tk (hr.mono (by omega)) rfl (a_cons (e_v (pv 4)) a_nil)))
      (s_cons (s_set (i := 7) sc_m_law.nd rfl (by first | exact Or.inl rfl | exact Or.inr rfl) (e_call D_m_law_draw (fG_len fDef_len) tk (hr.mono (by omega)) rfl (a_cons (e_v (pv 1)) (a_cons (e_blt c_len rfl T.b_len (by decide +kernel) (a_cons (e_v (pv 6)) a_nil)) a_nil))))
      (s_cons (s_set (i := 8) sc_m_law.nd rfl (by first | exact Or.inl rfl | exact Or.inr rfl) (e_call D_m_law_draw (fG_len fDef_len) tk (hr.mono (by omega)) rfl (a_cons (e_v (pv 1)) (a_cons e_int a_nil))))
      (s_cons (s_set (i := 9) sc_m_law.nd rfl (by first | exact Or.inl rfl | exact Or.inr rfl) (e_G (e_ty c_tuple rfl T.b_tuple (by decide +kernel) (a_cons (e_lc (own := [("_law_k", 13)]) rfl sc_m_law.nd (i_rng1 rfl T.b_range (a_cons (e_call D_m_law_draw (fG_len fDef_len) tk (hr.mono (by omega)) rfl (a_cons (e_v (pv 1)) (a_cons e_int a_nil))) a_nil)) (blkOk_by (own := [("_law_k", 13)]) (N := N_m_law) (sc := defScope st_m_law) (by decide +kernel)) (fun _ _ _ _ _ => (g_name (pg_name (i := 13) sc_m_law.nd rfl (by first | exact Or.inl rfl | exact Or.inr rfl)) (hp_wipe (by decide)))) (fun _ _ _ _ _ => ts_nil) (fun _ _ _ _ _ => (e_call D_m_law_draw (fG_len fDef_len) takes0 (hr.mono (by omega)) rfl (a_cons (e_v (pv 1)) (a_cons e_int a_nil))))) a_nil))))
      (s_cons (s_set (i := 10) sc_m_law.nd rfl (by first | exact Or.inl rfl | exact Or.inr rfl) (e_lst (a_cons (e_op o_add (e_op o_add (e_sl (e_v (pv 6)) o_no (o_some (e_v (pv 7)))) (e_tup (a_cons (e_v (pv 8)) a_nil))) (e_sl (e_v (pv 6)) (o_some (e_op o_add (e_v (pv 7)) e_int)) o_no)) (a_cons (e_op o_add (e_sl (e_v (pv 6)) o_no (o_some (e_v (pv 7)))) (e_sl (e_v (pv 6)) (o_some (e_op o_add (e_v (pv 7)) e_int)) o_no)) (a_cons (e_op o_add (e_op o_add (e_sl (e_v (pv 6)) o_no (o_some (e_v (pv 7)))) (e_tup (a_cons (e_v (pv 8)) a_nil))) (e_sl (e_v (pv 6)) (o_some (e_v (pv 7))) o_no)) (a_cons (e_sl (e_v (pv 6)) o_no (o_some (e_v (pv 7)))) a_nil))))))
      (s_cons (s_for hpo rfl (i_val (e_G (e_op o_add (e_v (pv 10)) (e_lst (a_cons (e_call D_m_law_sealed (fG_len fDef_len) tk (hr.mono (by omega)) rfl (a_cons (e_v (pv 9)) a_nil)) (a_cons (e_call D_m_law_sealed (fG_len fDef_len) tk (hr.mono (by omega)) rfl (a_cons (e_op o_add (e_v (pv 4)) (e_tup (a_cons (e_v (pv 8)) a_nil))) a_nil)) (a_cons (e_call D_m_law_sealed (fG_len fDef_len) tk (hr.mono (by omega)) rfl (a_cons (e_sl (e_v (pv 4)) o_no (o_some (e_un u_neg e_int))) a_nil)) (a_cons (e_v (pv 9)) (a_cons (e_call D_m_law_sealed (fG_len fDef_len) tk (hr.mono (by omega)) rfl (a_cons (e_tup a_nil) a_nil)) a_nil))))))))) (g_name (pg_name (i := 11) sc_m_law.nd rfl (by first | exact Or.inl rfl | exact Or.inr rfl)) hp_any)
      (s_K (s_one (s_if (t_not (t_v (e_call D_m_law_same (KR.m_law_same_len _) tk (hr.mono (by omega)) rfl (a_cons (e_call D_m_unsealed (fG_len fDef_len) tk (hr.mono (by omega)) rfl (a_cons (e_v (pv 11)) a_nil)) (a_cons (e_call D_m_law_opened (fG_len fDef_len) tk (hr.mono (by omega)) rfl (a_cons (e_v (pv 11)) a_nil)) a_nil)))))
      (s_one (s_ret e_bl))
      s_nil))))
      (s_cons (s_set (i := 12) sc_m_law.nd rfl (by first | exact Or.inl rfl | exact Or.inr rfl) (e_lst (a_cons e_non (a_cons (e_ty c_list rfl T.b_list (by decide +kernel) (a_cons (e_v (pv 6)) a_nil)) (a_cons (e_op o_add (e_sl (e_v (pv 6)) o_no (o_some (e_un u_neg e_int))) (e_tup (a_cons e_int a_nil))) (a_cons e_str (a_cons e_int (a_cons e_dk (a_cons (e_op o_add (e_v (pv 6)) (e_tup (a_cons e_bl a_nil))) (a_cons (e_tup a_nil) (a_cons (e_op o_mul (e_tup (a_cons e_non a_nil)) e_int) (a_cons (e_op o_add (e_sl (e_v (pv 6)) o_no (o_some (e_un u_neg e_int))) (e_tup (a_cons (e_un u_neg e_int) a_nil))) a_nil))))))))))))
      (s_one (s_if (t_cmp (o_ne hu64) (e_call D_m_unsealed (fG_len fDef_len) tk (hr.mono (by omega)) rfl (a_cons (e_ix hu1 (e_v (pv 12)) (e_call D_m_law_draw (fG_len fDef_len) tk (hr.mono (by omega)) rfl (a_cons (e_v (pv 1)) (a_cons e_int a_nil)))) a_nil)) (e_tup a_nil) (nomark _))
      (s_one (s_ret e_bl))
      s_nil)))))))))))))))))
      (s_one (s_ret e_bl)))))
end
end K44

/-! K44A: odd rows; statements of the law. -/
namespace KR
open Mp
def byV : Val → Bool
  | .int b => byB b
  | _ => false
def flat : Val → Bool
  | .int _ => true
  | .bl _ => true
  | .non => true
  | _ => false
theorem is_row_flat {S : Store} {vs : List Val} (h : ∀ v, v ∈ vs → flat v = true) (hz : vs.length < 100000) : m_is_row [.tup vs] S = .ok (.bl (vs.all byV)) S := by
  have el : lcLoop (fun _ => True) [some (.tup vs), none] (gN 1) tYes (mAnd (m1 (pIsT "int") (mV 1)) (mAnd (mNot (m1 (pIsT "bool") (mV 1))) (mChain pLe pLt (mC (.int 0)) (mV 1) (mC (.int 256))))) vs [] S = .ok (vs.map fun v => .bl (byV v)) S := by
    refine lc_vals (fun v => .bl (byV v)) trivial (by unfold LIM; omega) fun v hv => ?_
    have hf := h v hv
    cases v with
    | int b =>
      unfold byV byB
      by_cases h : 0 ≤ b
      · simp [subTy, h]
      · simp [subTy, h]
    | bl b => unfold byV; simp [subTy]
    | non => unfold byV; simp [subTy]
    | str s => cases hf
    | tup l => cases hf
    | ref i => cases hf
    | fl l => cases hf
  unfold m_is_row
  simp (maxDischargeDepth := 12) [startL, subTy, el]
theorem is_row_ty {S : Store} {v : Val} {t : String} (h : tyName v S = some t) (ht : t ≠ "tuple") : m_is_row [v] S = .ok (.bl false) S := by
  have e := pIsT_of (T := "tuple") h
  have e2 : subTy t "tuple" = false := by unfold subTy; simp [ht]
  rw [e2] at e
  unfold m_is_row
  simp (maxDischargeDepth := 12) [startL, e]
theorem unsealed_not {S : Store} {v : Val} (h : m_is_row [v] S = .ok (.bl false) S) : m_unsealed [v] S = .ok (.tup []) S := by
  unfold m_unsealed
  simp (maxDischargeDepth := 12) [startL, h, LIM]
end KR
namespace K44
open Mp KR
open PySem (Str)
/-- no sealed row -/
def OddR (T : Store) (x : Val) : Prop := (∃ vs, x = .tup vs ∧ (∀ v, v ∈ vs → flat v = true) ∧ vs.length < 100000 ∧ vs.all byV = false) ∨ x = .tup [] ∨ (∃ t, tyName x T = some t ∧ t ≠ "tuple")
theorem odd_un {T : Store} {x : Val} (h : OddR T x) : m_unsealed [x] T = .ok (.tup []) T := by
  rcases h with ⟨vs, rfl, h1, h2, h3⟩ | rfl | ⟨t, h1, h2⟩
  · have e := is_row_flat (S := T) h1 h2
    rw [h3] at e
    exact unsealed_not e
  · have e := unsealed_eq (S := T) (r := []) Bys.nil (by simp)
    exact e
  · exact unsealed_not (is_row_ty h1 h2)
theorem flat_row {r : List Int} {y : Val} (hy : flat y = true) : ∀ v, v ∈ r.map Val.int ++ [y] → flat v = true := fun v hv => by
  rcases List.mem_append.mp hv with h | h
  · obtain ⟨b, _, rfl⟩ := List.mem_map.mp h
    rfl
  · simp at h
    subst h
    exact hy
theorem odd_end {T : Store} {r : List Int} {y : Val} (hy : flat y = true) (hb : byV y = false) (hz : r.length < 90000) : OddR T (.tup (r.map Val.int ++ [y])) := .inl ⟨_, rfl, flat_row hy, by simp; omega, by
  rw [List.all_append]
  simp [hb]⟩
def LT (ns : List Int) (x2 x3 x4 x5 x6 x7 x8 x9 x10 x11 x12 : Option Val) : Loc := [some (.fl ns), some (.ref 1), x2, x3, x4, x5, x6, x7, x8, x9, x10, x11, x12, none]
section
variable {ns : List Int} {S : Store} {r c : List Int} {v : Val} {x2 x3 x4 x5 x6 x7 x8 x9 x10 x11 x12 : Option Val}
theorem E3 (H : Pool S) : ∃ (v : Val) (T : Store), m_law_s3 (LT ns x2 x3 x4 x5 x6 x7 x8 x9 x10 x11 x12) S = .nx (LT ns x2 (some v) x4 x5 x6 x7 x8 x9 x10 x11 x12) T ∧ Dr S T ∧ isP 20 v = true ∧ (bytV 20 v).length ≤ 1450 := by
  obtain ⟨v, T, e, d, h1, h2⟩ := law_parcel_spec 3 6 S (by omega) H
  have e' : m_law_parcel 6 [.ref 1, .int 3] S = .ok v T := e
  have h2' : (bytV 3 v).length ≤ 1450 := h2
  obtain ⟨n1, n2⟩ := isP_mono h1 (show 3 ≤ 20 by omega)
  refine ⟨v, T, ?_, d, n1, by rw [n2]; exact h2'⟩
  unfold m_law_s3 LT
  simp (maxDischargeDepth := 12) [e']
theorem E4 (H : Pool S) (h1 : isP 20 v = true) (h2 : (bytV 20 v).length ≤ 1450) : ∃ T, m_law_s4 (LT ns x2 (some v) x4 x5 x6 x7 x8 x9 x10 x11 x12) S = .nx (LT ns x2 (some v) (some (rowV (bytV 20 v))) x5 x6 x7 x8 x9 x10 x11 x12) T ∧ DrG S T := by
  have e2 := law_bytes_eq 20 40 v S (by omega) h1 (by omega)
  refine ⟨sp S (.lst ((bytV 20 v).map Val.int)), ?_, DrG.sp H _⟩
  obtain ⟨b, hb⟩ : ∃ b, b = bytV 20 v := ⟨_, rfl⟩
  rw [← hb] at e2 ⊢
  unfold m_law_s4 LT rowV
  simp (maxDischargeDepth := 12) [e2]
theorem law_is_any (a : Int) (h0 : 0 ≤ a) (h : a < 2305843009213693952) : m_law_is 40 [.int a, .int a] S = .ok (.bl true) S := by
  have hl : a.natAbs.log2 < 1920 := by
    by_cases z : a.natAbs = 0
    · rw [z]; decide
    · have : a.natAbs.log2 < 62 := (Nat.log2_lt z).mpr (by omega)
      omega
  have e : ∀ s : Str, PySem.PyData.strOk s = true → pEq (.str s) (.str s) S = .ok (.bl true) S := fun s hs => (pEq_refl (n := 1) (by rw [wv_str]; exact hs) (by omega)).1
  have e' := e (Str.ofString (toString a)) (strOk_ofString _)
  obtain ⟨t, ht⟩ : ∃ t, t = Str.ofString (toString a) := ⟨_, rfl⟩
  have er : ∀ S, fReprI [.int a] S = .ok (.str t) S := fun S => by
    rw [fReprI_int, bite_pos (decide_eq_true hl), ht]
  rw [← ht] at e'
  rw [show (40 : Nat) = 39 + 1 from rfl, m_law_is_succ]
  simp (maxDischargeDepth := 12) [startL, er, e', -fReprI_int]
theorem E5 (h1 : isP 20 v = true) (h2 : (bytV 20 v).length ≤ 1450) : m_law_s5 (LT ns x2 (some v) (some (rowV (bytV 20 v))) x5 x6 x7 x8 x9 x10 x11 x12) S = .nx (LT ns x2 (some v) (some (rowV (bytV 20 v))) x5 x6 x7 x8 x9 x10 x11 x12) S := by
  have hb := bytV_bys h1
  have e1 := mark_eq (S := S) hb (by omega)
  have e2 := law_mark_eq (S := S) (r := bytV 20 v)
  have e3 := law_is_any (S := S) (markP (bytV 20 v)) (mark_pos _ hb) (mark_lt _)
  have e4 := mark_eq (S := S) (r := []) Bys.nil (by simp)
  have e4' : m_mark [.tup []] S = .ok (.int 1) S := e4
  have e5 := law_is_any (S := S) 1 (by omega) (by omega)
  have e6 := sealed_eq (S := S) h1 (by omega)
  have e7 := law_sealed_eq (S := S) hb (by omega)
  obtain ⟨b, hb'⟩ : ∃ b, b = bytV 20 v := ⟨_, rfl⟩
  rw [← hb'] at e1 e2 e3 e6 e7 ⊢
  obtain ⟨z, hz⟩ : ∃ z, z = b ++ sealP b := ⟨_, rfl⟩
  rw [← hz] at e6 e7
  have ne : pNe (rowV z) (rowV z) S = .ok (.bl false) S := by
    unfold rowV
    rw [pNe_ints]
    simp
  unfold m_law_s5 LT
  simp (maxDischargeDepth := 12) [e1, e2, e3, e4', e5, e6, e7, ne, LIM]
theorem open_sealed (h1 : isP 20 v = true) : openV (bytV 20 v ++ sealP (bytV 20 v)) = .tup [v] := by
  have l4 := seal_len (bytV 20 v)
  have lb : bodyR (bytV 20 v ++ sealP (bytV 20 v)) = bytV 20 v := by
    unfold bodyR
    rw [List.length_append, l4, Nat.add_sub_cancel, List.take_left']
    rfl
  have lt : tailR (bytV 20 v ++ sealP (bytV 20 v)) = sealP (bytV 20 v) := by
    unfold tailR
    rw [List.length_append, l4, Nat.add_sub_cancel, List.drop_left']
    rfl
  unfold openV
  rw [lb, lt, if_pos ⟨by rw [List.length_append, l4]; omega, rfl⟩, rdAll_bytes h1]
theorem E7 (h1 : isP 20 v = true) (h2 : (bytV 20 v).length ≤ 1450) : m_law_s7 (LT ns x2 (some v) (some (rowV (bytV 20 v))) x5 x6 x7 x8 x9 x10 x11 x12) S = .nx (LT ns x2 (some v) (some (rowV (bytV 20 v))) (some (.tup [v])) x6 x7 x8 x9 x10 x11 x12) S := by
  have hb := bytV_bys h1
  have e7 := law_sealed_eq (S := S) hb (by omega)
  have e8 := unsealed_eq (S := S) (r := bytV 20 v ++ sealP (bytV 20 v)) (hb.app (seal_bys hb)) (by rw [List.length_append, seal_len]; omega)
  rw [open_sealed h1] at e8
  obtain ⟨b, hb'⟩ : ∃ b, b = bytV 20 v := ⟨_, rfl⟩
  rw [← hb'] at e7 e8 ⊢
  obtain ⟨z, hz⟩ : ∃ z, z = b ++ sealP b := ⟨_, rfl⟩
  rw [← hz] at e7 e8
  unfold m_law_s7 LT
  simp (maxDischargeDepth := 12) [e7, e8]
theorem E8 (h1 : isP 20 v = true) (h2 : (bytV 20 v).length ≤ 1450) : m_law_s8 (LT ns x2 (some v) x4 (some (.tup [v])) x6 x7 x8 x9 x10 x11 x12) S = .nx (LT ns x2 (some v) x4 (some (.tup [v])) x6 x7 x8 x9 x10 x11 x12) S := by
  have e4 := law_same_refl 21 40 (.tup [v]) S (by omega) (by rw [isP_tup]; simp [h1]) (by
    rw [bytV_tup, List.length_cons, List.length_append]
    have : (wholeL [v].length).length = 1 := by rw [wholeL_low (by simp)]; rfl
    rw [this]
    simp
    omega)
  unfold m_law_s8 LT
  simp (maxDischargeDepth := 12) [e4, LIM]
theorem E10 (hb : Bys r) (hz : r.length ≤ 1450) : m_law_s10 (LT ns x2 x3 (some (rowV r)) x5 x6 x7 x8 x9 x10 x11 x12) S = .nx (LT ns x2 x3 (some (rowV r)) x5 (some (rowV (r ++ sealP r))) x7 x8 x9 x10 x11 x12) S := by
  have e7 := law_sealed_eq (S := S) hb (by omega)
  obtain ⟨z, hz⟩ : ∃ z, z = r ++ sealP r := ⟨_, rfl⟩
  rw [← hz] at e7 ⊢
  unfold m_law_s10 LT
  simp (maxDischargeDepth := 12) [e7]
theorem E11 (H : Pool S) (h0 : 0 < c.length) (hz : c.length < 10000) : ∃ (a : Nat) (T : Store), m_law_s11 (LT ns x2 x3 x4 x5 (some (rowV c)) x7 x8 x9 x10 x11 x12) S = .nx (LT ns x2 x3 x4 x5 (some (rowV c)) (some (.int a)) x8 x9 x10 x11 x12) T ∧ Dr S T ∧ a < c.length := by
  obtain ⟨a, T, e, b, d⟩ := draw_nat (k := c.length) H h0 (by omega)
  have el := row_len c S
  refine ⟨a, T, ?_, d, b⟩
  unfold m_law_s11 LT
  simp (maxDischargeDepth := 12) [el, e]
theorem E12 (H : Pool S) : ∃ (a : Nat) (T : Store), m_law_s12 (LT ns x2 x3 x4 x5 x6 x7 x8 x9 x10 x11 x12) S = .nx (LT ns x2 x3 x4 x5 x6 x7 (some (.int a)) x9 x10 x11 x12) T ∧ Dr S T ∧ a < 256 := by
  obtain ⟨a, T, e, b, d⟩ := draw_nat (k := 256) H (by omega) (by omega)
  have e' : m_law_draw [.ref 1, .int 256] S = .ok (.int a) T := e
  refine ⟨a, T, ?_, d, b⟩
  unfold m_law_s12 LT
  simp (maxDischargeDepth := 12) [e']
theorem E13 (H : Pool S) : ∃ (w : List Int) (T : Store), m_law_s13 (LT ns x2 x3 x4 x5 x6 x7 x8 x9 x10 x11 x12) S = .nx (LT ns x2 x3 x4 x5 x6 x7 x8 (some (rowV w)) x10 x11 x12) T ∧ Dr S T ∧ Bys w ∧ w.length ≤ 9 := by
  obtain ⟨m, T1, e1, b1, d1⟩ := draw_nat (k := 9) H (by omega) (by omega)
  have e1' : m_law_draw [.ref 1, .int 9] S = .ok (.int m) T1 := e1
  have er : rngOf1 [.int (m : Int)] T1 = .ok ⟨rangeL 0 m, fun _ => True⟩ T1 := rng_nat m rfl (by omega)
  obtain ⟨vs, T2, e2, d2, hl, hv⟩ := lc_pool (L := LT ns x2 x3 x4 x5 x6 x7 x8 x9 x10 x11 x12) (v := 13) (e := (mA m_law_draw (aCons (mV 1) (aCons (mC (.int 9)) aNil)))) Val.int (fun b => 0 ≤ b ∧ b < 256) (xs := rangeL 0 m) d1.pool (by rw [rangeL_len]; omega) (fun x T hx dT => by
    obtain ⟨b, U, e, hb, dU⟩ := draw_nat (k := 9) dT.pool (by omega) (by omega)
    have e' : m_law_draw [.ref 1, .int 9] T = .ok (.int b) U := e
    refine ⟨b, U, ?_, dU, by omega, by omega⟩
    unfold LT
    simp (maxDischargeDepth := 12) [e'])
  rw [rangeL_len] at hl
  obtain ⟨U, eU, dU⟩ := gcR_dr (v := rowV vs) (d1.g.trans (d2.g.trans (DrG.sp d2.pool (.lst (vs.map Val.int))))) H (by unfold rowV; simp)
  refine ⟨vs, U, ?_, dU, hv, by omega⟩
  unfold rowV at eU ⊢
  unfold m_law_s13
  unfold LT at e2 ⊢
  simp (maxDischargeDepth := 12) [e1', er, e2, eU, -gcR_ok]
end
end K44

/-! K44B: the law. -/
namespace K44
open Mp KR
open PySem (Str)
theorem cut_take {α : Type} {xs : List α} {d : Nat} (h : d ≤ xs.length) : cutL xs none (some (d : Int)) = xs.take d := by
  have := cutL_two (xs := xs) (p := 0) (q := d) (Nat.zero_le _) h
  rw [List.drop_zero, Nat.sub_zero] at this
  rw [← this]
  rfl
theorem cut_dropN {xs : List Val} {d : Nat} : cutL xs (some (d : Int)) none = xs.drop d := by
  rw [cutL_drop (by omega), Int.toNat_natCast]
def someR (c : List Int) (a b : Nat) : List (List Int) := [c.take a ++ [(b : Int)] ++ c.drop (a + 1), c.take a ++ c.drop (a + 1), c.take a ++ [(b : Int)] ++ c.drop a, c.take a]
theorem some_good {c : List Int} {a b : Nat} (hc : Bys c) (hb : b < 256) : ∀ r', r' ∈ someR c a b → Bys r' ∧ r'.length ≤ c.length + 1 := fun r' hr => by
  have bb : Bys [(b : Int)] := Bys.cons ⟨by omega, by omega⟩ Bys.nil
  unfold someR at hr
  simp only [List.mem_cons, List.not_mem_nil, or_false] at hr
  rcases hr with rfl | rfl | rfl | rfl
  · exact ⟨((hc.take _).app bb).app (hc.drop _), by simp; omega⟩
  · exact ⟨(hc.take _).app (hc.drop _), by simp; omega⟩
  · exact ⟨((hc.take _).app bb).app (hc.drop _), by simp; omega⟩
  · exact ⟨hc.take _, by rw [List.length_take]; omega⟩
section
variable {ns : List Int} {S : Store} {r c w : List Int} {v : Val} {a b : Nat} {x2 x3 x4 x5 x6 x7 x8 x9 x10 x11 x12 : Option Val}
theorem E14 (ha : a < c.length) (hz : c.length < 10000) : m_law_s14 (LT ns x2 x3 x4 x5 (some (rowV c)) (some (.int a)) (some (.int b)) x9 x10 x11 x12) S = .nx (LT ns x2 x3 x4 x5 (some (rowV c)) (some (.int a)) (some (.int b)) x9 (some (.ref (sl S))) x11 x12) (sp S (.lst ((someR c a b).map rowV))) := by
  have c1 : cutL (c.map Val.int) none (some (a : Int)) = (c.map Val.int).take a := cut_take (by rw [List.length_map]; omega)
  have c2 : cutL (c.map Val.int) (some (a : Int)) none = (c.map Val.int).drop a := cut_dropN
  have c3 : cutL (c.map Val.int) (some ((a : Int) + 1)) none = (c.map Val.int).drop (a + 1) := by
    have := cut_dropN (xs := c.map Val.int) (d := a + 1)
    rw [← this]
    rfl
  have t1 : min a c.length = a := Nat.min_eq_left (by omega)
  have z1 : a + 1 ≤ 16777216 := by omega
  have z2 : a + 1 + (c.length - a) ≤ 16777216 := by omega
  have z3 : a + 1 + (c.length - (a + 1)) ≤ 16777216 := by omega
  have z4 : a + (c.length - (a + 1)) ≤ 16777216 := by omega
  unfold m_law_s14 LT rowV someR
  simp (maxDischargeDepth := 12) [c1, c2, c3, t1, z1, z2, z3, z4, LIM]
theorem turn15 {x : List Int} (hb : Bys x) (hz : x.length < 50000) : m_law_b1 (LT ns x2 x3 x4 x5 x6 x7 x8 x9 x10 (some (rowV x)) x12) S = .nx (LT ns x2 x3 x4 x5 x6 x7 x8 x9 x10 none x12) S := by
  have e1 := unsealed_eq (S := S) hb hz
  have e2 := law_opened_eq (S := S) hb hz
  have e3 := open_same (S := S) hb hz
  have E : m_law_s16 (LT ns x2 x3 x4 x5 x6 x7 x8 x9 x10 (some (rowV x)) x12) S = .nx (LT ns x2 x3 x4 x5 x6 x7 x8 x9 x10 (some (rowV x)) x12) S := by
    unfold m_law_s16 LT
    simp (maxDischargeDepth := 12) [e1, e2, e3]
  unfold m_law_b1
  rw [sK_app, E]
  rfl
theorem E15 {k : Nat} {l : List (List Int)} (H : Pool S) (hk : sg S k = some (.lst (l.map rowV))) (hl : l.length = 4) (hg : ∀ x, x ∈ l → Bys x ∧ x.length < 40000) (hr : Bys r) (hzr : r.length ≤ 1450) (hw : Bys w) (hzw : w.length ≤ 9) (hb : b < 256) :
    ∃ T, m_law_s15 (LT ns x2 x3 (some (rowV r)) x5 x6 x7 (some (.int b)) (some (rowV w)) (some (.ref k)) none x12) S = .nx (LT ns x2 x3 (some (rowV r)) x5 x6 x7 (some (.int b)) (some (rowV w)) (some (.ref k)) none x12) T ∧ DrG S T := by
  have bb : Bys [(b : Int)] := Bys.cons ⟨by omega, by omega⟩ Bys.nil
  have hrb : Bys (r ++ [(b : Int)]) := hr.app bb
  have hrt : Bys (r.take (r.length - 1)) := hr.take _
  have e1 := law_sealed_eq (S := S) hw (by omega)
  have e2 := law_sealed_eq (S := S) hrb (by rw [List.length_append]; simp; omega)
  have e3 := law_sealed_eq (S := S) hrt (by rw [List.length_take]; omega)
  have e4 := law_sealed_eq (S := S) (r := []) Bys.nil (by simp)
  obtain ⟨n1, _⟩ := cut_neg (xs := r.map Val.int) (k := 1) (by omega)
  rw [List.length_map, ← List.map_take] at n1
  have n1' : cutL (r.map Val.int) none (some (-1)) = (r.take (r.length - 1)).map Val.int := n1
  obtain ⟨rt, hrt'⟩ : ∃ rt, rt = r.take (r.length - 1) := ⟨_, rfl⟩
  rw [← hrt'] at e3 n1' hrt
  have lrt : rt.length ≤ 1450 := by rw [hrt', List.length_take]; omega
  obtain ⟨z1, hz1⟩ : ∃ z, z = w ++ sealP w := ⟨_, rfl⟩
  obtain ⟨z2, hz2⟩ : ∃ z, z = (r ++ [(b : Int)]) ++ sealP (r ++ [(b : Int)]) := ⟨_, rfl⟩
  obtain ⟨z3, hz3⟩ : ∃ z, z = rt ++ sealP rt := ⟨_, rfl⟩
  obtain ⟨z4, hz4⟩ : ∃ z, z = [] ++ sealP [] := ⟨_, rfl⟩
  have g1 : Bys z1 ∧ z1.length < 40000 := by rw [hz1]; exact ⟨hw.app (seal_bys hw), by rw [List.length_append, seal_len]; omega⟩
  have g2 : Bys z2 ∧ z2.length < 40000 := by rw [hz2]; exact ⟨hrb.app (seal_bys hrb), by simp only [List.length_append, seal_len]; simp; omega⟩
  have g3 : Bys z3 ∧ z3.length < 40000 := by rw [hz3]; exact ⟨hrt.app (seal_bys hrt), by rw [List.length_append, seal_len]; omega⟩
  have g4 : Bys z4 ∧ z4.length < 40000 := by rw [hz4]; exact ⟨Bys.nil.app (seal_bys Bys.nil), by rw [List.length_append, seal_len]; simp⟩
  rw [← hz1] at e1
  rw [← hz2] at e2
  rw [← hz3] at e3
  rw [← hz4] at e4
  obtain ⟨m, hm⟩ : ∃ m : List (List Int), m = l ++ [z1, z2, z3, w, z4] := ⟨_, rfl⟩
  have good : ∀ x, x ∈ m → Bys x ∧ x.length < 40000 := fun x hx => by
    rw [hm] at hx
    rcases List.mem_append.mp hx with h | h
    · exact hg x h
    · simp only [List.mem_cons, List.not_mem_nil, or_false] at h
      rcases h with rfl | rfl | rfl | rfl | rfl
      · exact g1
      · exact g2
      · exact g3
      · exact ⟨hw, by omega⟩
      · exact g4
  have kl := sg_lt hk
  have lm : (l.map rowV).length = 4 := by rw [List.length_map, hl]
  -- the walked list
  have ei : iV (mG (m2 pAdd (mV 10) (mLst (aCons (mA m_law_sealed (aCons (mV 9) aNil)) (aCons (mA m_law_sealed (aCons (m2 pAdd (mV 4) (mTup (aCons (mV 8) aNil))) aNil)) (aCons (mA m_law_sealed (aCons (mSl (mV 4) oNo (oSome (m1 pNeg (mC (.int 1))))) aNil)) (aCons (mV 9) (aCons (mA m_law_sealed (aCons (mTup aNil) aNil)) aNil)))))))) (LT ns x2 x3 (some (rowV r)) x5 x6 x7 (some (.int b)) (some (rowV w)) (some (.ref k)) none x12) S = .ok ⟨m.map rowV, fun S' => sg S' (sl S) = some (.lst (m.map rowV))⟩ (sp S (.lst (m.map rowV))) := by
    have zr : r.length + 1 ≤ 16777216 := by omega
    have em : m.map rowV = l.map rowV ++ [rowV z1, rowV z2, rowV z3, rowV w, rowV z4] := by rw [hm, List.map_append]; rfl
    obtain ⟨q, hq⟩ : ∃ q, q = l.map rowV := ⟨_, rfl⟩
    rw [← hq] at hk em lm
    have hbq : ∀ n, belows n q = true := fun n => by
      rw [hq]
      exact belows_map _ _ fun x _ => by unfold rowV; simp
    have hk1 : sg (sp S (.lst [rowV z1, rowV z2, rowV z3, rowV w, rowV z4])) k = some (.lst q) := by rw [sg_sp_lt kl]; exact hk
    have G : GcOk S (sp (sp S (.lst [rowV z1, rowV z2, rowV z3, rowV w, rowV z4])) (.lst (q ++ [rowV z1, rowV z2, rowV z3, rowV w, rowV z4]))) := gcOk_grow ((Grow.sp _ _).trans (Grow.sp _ _))
    rw [em]
    unfold rowV at *
    rw [List.map_nil] at e4
    rw [List.map_append] at e2
    unfold LT
    simp (maxDischargeDepth := 12) at e2 hk1 G
    simp (maxDischargeDepth := 12) [e1, e2, e3, e4, n1', zr, hk1, lm, G, hbq, LIM]
  obtain ⟨L', S', e, rfl, rfl⟩ := forLoop_nx (keep := fun S' => sg S' (sl S) = some (.lst (m.map rowV))) (g := gN 11) (b := m_law_b1)
    (fun i L S' => L = LT ns x2 x3 (some (rowV r)) x5 x6 x7 (some (.int b)) (some (rowV w)) (some (.ref k)) none x12 ∧ S' = sp S (.lst (m.map rowV)))
    (xs := m.map rowV) (L := LT ns x2 x3 (some (rowV r)) x5 x6 x7 (some (.int b)) (some (rowV w)) (some (.ref k)) none x12) (S := sp S (.lst (m.map rowV))) ⟨rfl, rfl⟩ (fun _ _ _ _ q => by rw [q.2]; exact sg_sp_new) (fun i x L S1 hx q => by
      obtain ⟨rfl, rfl⟩ := q
      obtain ⟨y, hy, rfl⟩ := List.mem_map.mp (List.mem_of_getElem? hx)
      obtain ⟨k1, k2⟩ := good y hy
      exact ⟨LT ns x2 x3 (some (rowV r)) x5 x6 x7 (some (.int b)) (some (rowV w)) (some (.ref k)) (some (rowV y)) x12, sp S (.lst (m.map rowV)), _, _, rfl, .inl (turn15 k1 (by omega)), rfl, rfl⟩)
  refine ⟨sp S (.lst (m.map rowV)), ?_, DrG.sp H _⟩
  unfold m_law_s15
  rw [sFor_app, ei, thenF_ok]
  exact e
theorem E18 (H : Pool S) (hc : Bys c) (hz : c.length < 10000) : ∃ (o : Nat) (T : Store) (ys : List Val), m_law_s18 (LT ns x2 x3 x4 x5 (some (rowV c)) x7 x8 x9 x10 x11 x12) S = .nx (LT ns x2 x3 x4 x5 (some (rowV c)) x7 x8 x9 x10 x11 (some (.ref o))) T ∧ DrG S T ∧ 2 ≤ o ∧ sg T o = some (.lst ys) ∧ ys.length = 10 ∧ (∀ y, y ∈ ys → ∀ U, Dr T U → OddR U y) := by
  obtain ⟨n1, _⟩ := cut_neg (xs := c.map Val.int) (k := 1) (by omega)
  rw [List.length_map, ← List.map_take] at n1
  have n1' : cutL (c.map Val.int) none (some (-1)) = (c.take (c.length - 1)).map Val.int := n1
  obtain ⟨ct, hct⟩ : ∃ ct, ct = c.take (c.length - 1) := ⟨_, rfl⟩
  rw [← hct] at n1'
  have lct : ct.length < 10000 := by rw [hct, List.length_take]; omega
  have hlt := H.lt
  obtain ⟨T2, hT2⟩ : ∃ T2, T2 = sp (sp S (.lst (c.map Val.int))) (.dK []) := ⟨_, rfl⟩
  have l2 : sl T2 = sl S + 1 + 1 := by rw [hT2]; simp
  obtain ⟨ys, hys⟩ : ∃ ys : List Val, ys = [.non, .ref (sl S), .tup (ct.map Val.int ++ [.int 256]), .str "row", .int 0, .ref (sl S + 1), .tup (c.map Val.int ++ [.bl true]), .tup [], .tup [.non, .non, .non, .non, .non], .tup (ct.map Val.int ++ [.int (-1)])] := ⟨_, rfl⟩
  have g : Grow S (sp T2 (.lst ys)) := by rw [hT2]; exact (Grow.sp _ _).trans ((Grow.sp _ _).trans (Grow.sp _ _))
  refine ⟨sl T2, sp T2 (.lst ys), ys, ?_, DrG.grow g H, by omega, sg_sp_new, by rw [hys]; rfl, fun y hy U d => ?_⟩
  · have z1 : ct.length + 1 ≤ 16777216 := by omega
    have z2 : c.length + 1 ≤ 16777216 := by omega
    have er : (List.replicate 5 [Val.non]).flatten = [.non, .non, .non, .non, .non] := rfl
    rw [hT2, hys]
    unfold m_law_s18 LT rowV
    simp (maxDischargeDepth := 12) [n1', z1, z2, er, LIM]
  · have r0 : sg U (sl S) = some (.lst (c.map Val.int)) := d.sg (by rw [sg_sp_lt (by omega), hT2, sg_sp_lt (by simp), sg_sp_new]) hlt
    have r1 : sg U (sl S + 1) = some (.dK []) := d.sg (by rw [sg_sp_lt (by omega), hT2, show sl S + 1 = sl (sp S (.lst (c.map Val.int))) from by simp, sg_sp_new]) (by omega)
    rw [hys] at hy
    simp only [List.mem_cons, List.not_mem_nil, or_false] at hy
    rcases hy with rfl | rfl | rfl | rfl | rfl | rfl | rfl | rfl | rfl | rfl
    · exact .inr (.inr ⟨"NoneType", rfl, by decide⟩)
    · exact .inr (.inr ⟨"list", by rw [tyName_ref, r0]; rfl, by decide⟩)
    · exact odd_end rfl (by decide) (by omega)
    · exact .inr (.inr ⟨"str", rfl, by decide⟩)
    · exact .inr (.inr ⟨"int", rfl, by decide⟩)
    · exact .inr (.inr ⟨"dict", by rw [tyName_ref, r1]; rfl, by decide⟩)
    · exact odd_end rfl (by decide) (by omega)
    · exact .inr (.inl rfl)
    · exact .inl ⟨_, rfl, by simp [flat], by simp, by decide⟩
    · exact odd_end rfl (by decide) (by omega)
theorem E19 {o : Nat} {ys : List Val} (H : Pool S) (ho : 2 ≤ o) (hs : sg S o = some (.lst ys)) (hl : ys.length = 10) (hy : ∀ y, y ∈ ys → ∀ U, Dr S U → OddR U y) :
    ∃ T, m_law_s19 (LT ns x2 x3 x4 x5 x6 x7 x8 x9 x10 x11 (some (.ref o))) S = .nx (LT ns x2 x3 x4 x5 x6 x7 x8 x9 x10 x11 (some (.ref o))) T ∧ Dr S T := by
  obtain ⟨j, T, e, bj, d⟩ := draw_nat (k := 10) H (by omega) (by omega)
  have e' : m_law_draw [.ref 1, .int 10] S = .ok (.int j) T := e
  have lt : j < ys.length := by omega
  have hs' := d.sg hs ho
  have hix : ys[j]? = some ys[j] := by simp [lt]
  have eo := odd_un (hy ys[j] (List.getElem_mem _) T d)
  obtain ⟨y, hy'⟩ : ∃ y, y = ys[j] := ⟨_, rfl⟩
  rw [← hy'] at hix eo
  have ne : pNe (.tup []) (.tup []) T = .ok (.bl false) T := by
    have := pNe_ints (S := T) [] []
    simp at this
    exact this
  refine ⟨T, ?_, d⟩
  unfold m_law_s19 LT
  simp (maxDischargeDepth := 12) [e', hs', hix, eo, ne, LIM]
theorem turn_eq {x : Val} (H : Pool S) : ∃ V, m_law_b2 (LT ns (some x) none none none none none none none none none none) S = .nx (LT ns none none none none none none none none none none none) V ∧ Dr S V := by
  obtain ⟨v, T1, e3, d1, p1, p2⟩ := E3 (ns := ns) (x2 := some x) (x3 := none) (x4 := none) (x5 := none) (x6 := none) (x7 := none) (x8 := none) (x9 := none) (x10 := none) (x11 := none) (x12 := none) H
  obtain ⟨T2, e4, d2⟩ := E4 (ns := ns) (x2 := some x) (x4 := none) (x5 := none) (x6 := none) (x7 := none) (x8 := none) (x9 := none) (x10 := none) (x11 := none) (x12 := none) d1.pool p1 p2
  have e5 := E5 (ns := ns) (S := T2) (x2 := some x) (x5 := none) (x6 := none) (x7 := none) (x8 := none) (x9 := none) (x10 := none) (x11 := none) (x12 := none) p1 p2
  have e7 := E7 (ns := ns) (S := T2) (x2 := some x) (x5 := none) (x6 := none) (x7 := none) (x8 := none) (x9 := none) (x10 := none) (x11 := none) (x12 := none) p1 p2
  have e8 := E8 (ns := ns) (S := T2) (x2 := some x) (x4 := some (rowV (bytV 20 v))) (x6 := none) (x7 := none) (x8 := none) (x9 := none) (x10 := none) (x11 := none) (x12 := none) p1 p2
  obtain ⟨r, hr⟩ : ∃ r, r = bytV 20 v := ⟨_, rfl⟩
  have br : Bys r := by rw [hr]; exact bytV_bys p1
  have lr : r.length ≤ 1450 := by rw [hr]; exact p2
  rw [← hr] at e4 e5 e7 e8
  have e10 := E10 (ns := ns) (S := T2) (x2 := some x) (x3 := some v) (x5 := some (.tup [v])) (x6 := none) (x7 := none) (x8 := none) (x9 := none) (x10 := none) (x11 := none) (x12 := none) br lr
  obtain ⟨c, hc⟩ : ∃ c, c = r ++ sealP r := ⟨_, rfl⟩
  have bc : Bys c := by rw [hc]; exact br.app (seal_bys br)
  have lc : 0 < c.length ∧ c.length < 2000 := by rw [hc, List.length_append, seal_len]; omega
  rw [← hc] at e10
  obtain ⟨a, T3, e11, d3, ha⟩ := E11 (ns := ns) (x2 := some x) (x3 := some v) (x4 := some (rowV r)) (x5 := some (.tup [v])) (x7 := none) (x8 := none) (x9 := none) (x10 := none) (x11 := none) (x12 := none) d2.pool lc.1 (by omega)
  obtain ⟨b, T4, e12, d4, hb⟩ := E12 (ns := ns) (x2 := some x) (x3 := some v) (x4 := some (rowV r)) (x5 := some (.tup [v])) (x6 := some (rowV c)) (x7 := some (.int a)) (x8 := none) (x9 := none) (x10 := none) (x11 := none) (x12 := none) d3.pool
  obtain ⟨w, T5, e13, d5, bw, lw⟩ := E13 (ns := ns) (x2 := some x) (x3 := some v) (x4 := some (rowV r)) (x5 := some (.tup [v])) (x6 := some (rowV c)) (x7 := some (.int a)) (x8 := some (.int b)) (x9 := none) (x10 := none) (x11 := none) (x12 := none) d4.pool
  have e14 := E14 (ns := ns) (S := T5) (b := b) (x2 := some x) (x3 := some v) (x4 := some (rowV r)) (x5 := some (.tup [v])) (x9 := some (rowV w)) (x10 := none) (x11 := none) (x12 := none) ha (by omega)
  obtain ⟨T6, hT6⟩ : ∃ T6, T6 = sp T5 (.lst ((someR c a b).map rowV)) := ⟨_, rfl⟩
  have d6 : DrG T5 T6 := by rw [hT6]; exact DrG.sp d5.pool _
  have hk6 : sg T6 (sl T5) = some (.lst ((someR c a b).map rowV)) := by rw [hT6]; exact sg_sp_new
  rw [← hT6] at e14
  obtain ⟨T7, e15, d7⟩ := E15 (ns := ns) (x2 := some x) (x3 := some v) (x5 := some (.tup [v])) (x6 := some (rowV c)) (x7 := some (.int a)) (x12 := none) (l := someR c a b) d6.pool hk6 rfl (fun y hy => by
    obtain ⟨q1, q2⟩ := some_good bc hb y hy
    exact ⟨q1, by omega⟩) br lr bw lw hb
  obtain ⟨o, T8, ys, e18, d8, o8, h8, l8, p8⟩ := E18 (ns := ns) (x2 := some x) (x3 := some v) (x4 := some (rowV r)) (x5 := some (.tup [v])) (x7 := some (.int a)) (x8 := some (.int b)) (x9 := some (rowV w)) (x10 := some (.ref (sl T5))) (x11 := none) (x12 := none) d7.pool bc (by omega)
  obtain ⟨T9, e19, d9⟩ := E19 (ns := ns) (x2 := some x) (x3 := some v) (x4 := some (rowV r)) (x5 := some (.tup [v])) (x6 := some (rowV c)) (x7 := some (.int a)) (x8 := some (.int b)) (x9 := some (rowV w)) (x10 := some (.ref (sl T5))) (x11 := none) d8.pool o8 h8 l8 p8
  have dd := d1.g.trans (d2.trans (d3.g.trans (d4.g.trans (d5.g.trans (d6.trans (d7.trans (d8.trans d9.g)))))))
  refine ⟨cut (sl S) T9, ?_, dd.cut H⟩
  have B : (sK [2, 3, 4, 5, 6, 7, 8, 9, 10, 11, 12] (sSeq K44.m_law_s3 (sSeq K44.m_law_s4 (sSeq K44.m_law_s5 (sSeq K44.m_law_s7 (sSeq K44.m_law_s8 (sSeq K44.m_law_s10 (sSeq K44.m_law_s11 (sSeq K44.m_law_s12 (sSeq K44.m_law_s13 (sSeq K44.m_law_s14 (sSeq K44.m_law_s15 (sSeq K44.m_law_s18 K44.m_law_s19))))))))))))) (LT ns (some x) none none none none none none none none none none) S = .nx (LT ns none none none none none none none none none none none) T9 := by
    rw [sK_app, seqNx e3, seqNx e4, seqNx e5, seqNx e7, seqNx e8, seqNx e10, seqNx e11, seqNx e12, seqNx e13, seqNx e14, seqNx e15, seqNx e18, e19]
    rfl
  have lt := H.lt
  unfold m_law_b2
  rw [sG_app, B, gcS_nx, gate_pos (dd.gc H)]
  congr 1
  unfold LT
  have q1 : below (sl S) (.fl ns) = true := by simp
  have q2 : below (sl S) (.ref 1) = true := by simp; omega
  simp [q1, q2]
end
theorem law_ok (ns : List Int) : ∃ S, m_law [.fl ns] [] = .ok (.bl true) S := by
  obtain ⟨S1, e1, H1, _⟩ := pool_spec ns
  obtain ⟨L', S', e4, rfl, d4⟩ := forLoop_nx (keep := fun _ => True) (g := gN 2) (b := m_law_b2)
    (fun i L S' => L = LT ns none none none none none none none none none none none ∧ Dr S1 S')
    (xs := rangeL 0 4) (L := LT ns none none none none none none none none none none none) (S := S1) ⟨rfl, Dr.refl H1⟩ (fun _ _ _ _ _ => trivial) (fun i x L S1 hx q => by
      obtain ⟨rfl, d⟩ := q
      obtain ⟨V, e, d2⟩ := turn_eq (ns := ns) (x := x) d.pool
      exact ⟨LT ns (some x) none none none none none none none none none none, S1, _, _, rfl, .inl e, rfl, d.trans d2⟩)
  refine ⟨S', ?_⟩
  have E1 : m_law_s1 [some (.fl ns), none, none, none, none, none, none, none, none, none, none, none, none, none] [] = .nx (LT ns none none none none none none none none none none none) S1 := by
    unfold m_law_s1 LT
    simp (maxDischargeDepth := 12) [e1]
  have er : rngOf1 [.int 4] S1 = .ok ⟨rangeL 0 4, fun _ => True⟩ S1 := rng_nat 4 rfl (by omega)
  have E2 : m_law_s2 (LT ns none none none none none none none none none none none) S1 = .nx (LT ns none none none none none none none none none none none) S' := by
    unfold m_law_s2
    rw [sFor_app]
    have ei : iRng1 (aCons (mC (.int 4)) aNil) (LT ns none none none none none none none none none none none) S1 = .ok ⟨rangeL 0 4, fun _ => True⟩ S1 := by
      rw [← er]
      rfl
    rw [ei, thenF_ok]
    exact e4
  unfold m_law
  rw [fDef_app, bite_pos (by rfl)]
  show endF (sSeq _ _ [some (.fl ns), none, none, none, none, none, none, none, none, none, none, none, none, none] []) = _
  rw [seqNx E1, seqNx E2]
  rfl
end K44

set_option maxHeartbeats 8000000
namespace K44
open PySem PySem.Spec L2 Mp
theorem all_mk {P : Program} {w : World} {K : PySem.W.Frag} {h : Heap} {mg : Str → Option Value} {fa : Addr} (X : K.In h) (G : h.Ns mainGlobals mg) (hfa : mg "law" = some (.ref fa))
    {C_RowReader E_NoParcel E_NoRow E_BadRow E_QuietError : Addr} {f0 f1 f2 f3 f4 f5 f6 f7 f8 f9 f10 f11 f12 f13 f14 f15 f16 f17 f18 f19 f20 f21 f22 f23 f24 f25 f26 f27 f28 f29 f30 f31 f32 f33 f34 f35 f36 f37 : Addr} {od0 an0 od1 an1 od2 an2 od3 an3 od4 an4 od5 an5 od6 an6 od7 an7 od8 an8 od9 an9 od10 an10 od11 an11 od12 an12 od13 an13 od14 an14 od15 an15 od16 an16 od17 an17 od18 an18 od19 an19 od20 an20 od21 an21 od22 an22 od23 an23 od24 an24 od25 an25 od26 an26 od27 an27 od28 an28 od29 an29 od30 an30 od31 an31 od32 an32 od33 an33 od34 an34 od35 an35 od36 an36 od37 an37 : Option Addr} {sl0 sl1 sl2 sl3 sl4 sl5 sl6 sl7 sl8 sl9 sl10 sl11 sl12 sl13 sl14 sl15 sl16 sl17 sl18 sl19 sl20 sl21 sl22 sl23 sl24 sl25 sl26 sl27 sl28 sl29 sl30 sl31 sl32 sl33 sl34 sl35 sl36 sl37 : Array (Option Value)} {oc0 kV0 dc0 pm0 cd0 ct0 oc1 kV1 dc1 pm1 cd1 ct1 oc2 kV2 dc2 pm2 cd2 ct2 oc3 kV3 dc3 pm3 cd3 ct3 oc4 kV4 dc4 pm4 cd4 ct4 oc5 kV5 dc5 pm5 cd5 ct5 oc6 kV6 dc6 pm6 cd6 ct6 oc7 kV7 dc7 pm7 cd7 ct7 oc8 kV8 dc8 pm8 cd8 ct8 oc9 kV9 dc9 pm9 cd9 ct9 oc10 kV10 dc10 pm10 cd10 ct10 oc11 kV11 dc11 pm11 cd11 ct11 oc12 kV12 dc12 pm12 cd12 ct12 oc13 kV13 dc13 pm13 cd13 ct13 oc14 kV14 dc14 pm14 cd14 ct14 oc15 kV15 dc15 pm15 cd15 ct15 oc16 kV16 dc16 pm16 cd16 ct16 oc17 kV17 dc17 pm17 cd17 ct17 oc18 kV18 dc18 pm18 cd18 ct18 oc19 kV19 dc19 pm19 cd19 ct19 oc20 kV20 dc20 pm20 cd20 ct20 oc21 kV21 dc21 pm21 cd21 ct21 oc22 kV22 dc22 pm22 cd22 ct22 oc23 kV23 dc23 pm23 cd23 ct23 oc24 kV24 dc24 pm24 cd24 ct24 oc25 kV25 dc25 pm25 cd25 ct25 oc26 kV26 dc26 pm26 cd26 ct26 oc27 kV27 dc27 pm27 cd27 ct27 oc28 kV28 dc28 pm28 cd28 ct28 oc29 kV29 dc29 pm29 cd29 ct29 oc30 kV30 dc30 pm30 cd30 ct30 oc31 kV31 dc31 pm31 cd31 ct31 oc32 kV32 dc32 pm32 cd32 ct32 oc33 kV33 dc33 pm33 cd33 ct33 oc34 kV34 dc34 pm34 cd34 ct34 oc35 kV35 dc35 pm35 cd35 ct35 oc36 kV36 dc36 pm36 cd36 ct36 oc37 kV37 dc37 pm37 cd37 ct37 : Value}
    {nm_BadRow q_q_BadRow : Str} {NN_BadRow fI_BadRow : Addr} {bs_BadRow sub_BadRow : List Value} {sn_BadRow : List Str} {ab_BadRow : Bool} {col_BadRow : Option Bool} {dd_BadRow od_BadRow an_BadRow : Option Addr} {m0_BadRow m1_BadRow m2_BadRow m3_BadRow m5_BadRow : Option Value} {oc_BadRow dc_BadRow pm_BadRow cd_BadRow ct_BadRow : Value} {sl_BadRow : Array (Option Value)}
    (a_RowReader : PySem.W.nsIn K mainGlobals "RowReader" = some (some (.ref C_RowReader)))
    (pg_RowReader : PySem.W.plainGet K C_RowReader Str.empty = true)
    (hd_RowReader : PySem.W.hasDictIn K C_RowReader = true)
    (po_RowReader : PySem.W.plainOver K C_RowReader = true)
    (sa_RowReader : PySem.W.findIn K (.ref C_RowReader) "__setattr__" = some (some (.builtin "object.__setattr__")))
    (mk_RowReader : PySem.W.makesIn K C_RowReader = true)
    (kc_RowReader : PySem.W.keepIn K (.ref C_RowReader) = true)
    (n_RowReader_at : PySem.W.findIn K (.ref C_RowReader) "at" = some none)
    (n_RowReader_row : PySem.W.findIn K (.ref C_RowReader) "row" = some none)
    (a0 : PySem.W.nsIn K mainGlobals "_law_pool" = some (some (.ref f0)))
    (l0 : K.lookup f0 = some ⟨oc0, od0, .func (PySem.W.fnOf "_law_pool" "_law_pool" (defArgs st_m_law_pool) (defBody st_m_law_pool) (defScope st_m_law_pool) .none kV0 dc0 pm0 an0 cd0 ct0), sl0⟩)
    (c0 : PySem.W.codeIn K cd0 "_law_pool" = true)
    (k0 : PySem.W.keepIn K (.ref f0) = true)
    (a1 : PySem.W.nsIn K mainGlobals "_law_draw" = some (some (.ref f1)))
    (l1 : K.lookup f1 = some ⟨oc1, od1, .func (PySem.W.fnOf "_law_draw" "_law_draw" (defArgs st_m_law_draw) (defBody st_m_law_draw) (defScope st_m_law_draw) .none kV1 dc1 pm1 an1 cd1 ct1), sl1⟩)
    (c1 : PySem.W.codeIn K cd1 "_law_draw" = true)
    (k1 : PySem.W.keepIn K (.ref f1) = true)
    (a2 : PySem.W.nsIn K mainGlobals "_law_number" = some (some (.ref f2)))
    (l2 : K.lookup f2 = some ⟨oc2, od2, .func (PySem.W.fnOf "_law_number" "_law_number" (defArgs st_m_law_number) (defBody st_m_law_number) (defScope st_m_law_number) .none kV2 dc2 pm2 an2 cd2 ct2), sl2⟩)
    (c2 : PySem.W.codeIn K cd2 "_law_number" = true)
    (k2 : PySem.W.keepIn K (.ref f2) = true)
    (a3 : PySem.W.nsIn K mainGlobals "_law_parcel" = some (some (.ref f3)))
    (l3 : K.lookup f3 = some ⟨oc3, od3, .func (PySem.W.fnOf "_law_parcel" "_law_parcel" (defArgs st_m_law_parcel) (defBody st_m_law_parcel) (defScope st_m_law_parcel) .none kV3 dc3 pm3 an3 cd3 ct3), sl3⟩)
    (c3 : PySem.W.codeIn K cd3 "_law_parcel" = true)
    (k3 : PySem.W.keepIn K (.ref f3) = true)
    (a4 : PySem.W.nsIn K mainGlobals "is_row" = some (some (.ref f4)))
    (l4 : K.lookup f4 = some ⟨oc4, od4, .func (PySem.W.fnOf "is_row" "is_row" (defArgs st_m_is_row) (defBody st_m_is_row) (defScope st_m_is_row) .none kV4 dc4 pm4 an4 cd4 ct4), sl4⟩)
    (c4 : PySem.W.codeIn K cd4 "is_row" = true)
    (k4 : PySem.W.keepIn K (.ref f4) = true)
    (a5 : PySem.W.nsIn K mainGlobals "raw_mark" = some (some (.ref f5)))
    (l5 : K.lookup f5 = some ⟨oc5, od5, .func (PySem.W.fnOf "raw_mark" "raw_mark" (defArgs st_m_raw_mark) (defBody st_m_raw_mark) (defScope st_m_raw_mark) .none kV5 dc5 pm5 an5 cd5 ct5), sl5⟩)
    (c5 : PySem.W.codeIn K cd5 "raw_mark" = true)
    (k5 : PySem.W.keepIn K (.ref f5) = true)
    (a6 : PySem.W.nsIn K mainGlobals "seal_of" = some (some (.ref f6)))
    (l6 : K.lookup f6 = some ⟨oc6, od6, .func (PySem.W.fnOf "seal_of" "seal_of" (defArgs st_m_seal_of) (defBody st_m_seal_of) (defScope st_m_seal_of) .none kV6 dc6 pm6 an6 cd6 ct6), sl6⟩)
    (c6 : PySem.W.codeIn K cd6 "seal_of" = true)
    (k6 : PySem.W.keepIn K (.ref f6) = true)
    (a7 : PySem.W.nsIn K mainGlobals "check_row" = some (some (.ref f7)))
    (l7 : K.lookup f7 = some ⟨oc7, od7, .func (PySem.W.fnOf "check_row" "check_row" (defArgs st_m_check_row) (defBody st_m_check_row) (defScope st_m_check_row) .none kV7 dc7 pm7 an7 cd7 ct7), sl7⟩)
    (c7 : PySem.W.codeIn K cd7 "check_row" = true)
    (k7 : PySem.W.keepIn K (.ref f7) = true)
    (a8 : PySem.W.findIn K (.ref C_RowReader) "__init__" = some (some (.ref f8)))
    (i8 : PySem.W.isFn K (.ref f8) = true)
    (l8 : K.lookup f8 = some ⟨oc8, od8, .func (PySem.W.fnOf "__init__" "RowReader.__init__" (defArgs st_m_RowReader___init__) (defBody st_m_RowReader___init__) (defScope st_m_RowReader___init__) .none kV8 dc8 pm8 an8 cd8 ct8), sl8⟩)
    (c8 : PySem.W.codeIn K cd8 "RowReader.__init__" = true)
    (k8 : PySem.W.keepIn K (.ref f8) = true)
    (a9 : PySem.W.findIn K (.ref C_RowReader) "next_byte" = some (some (.ref f9)))
    (i9 : PySem.W.isFn K (.ref f9) = true)
    (l9 : K.lookup f9 = some ⟨oc9, od9, .func (PySem.W.fnOf "next_byte" "RowReader.next_byte" (defArgs st_m_RowReader_next_byte) (defBody st_m_RowReader_next_byte) (defScope st_m_RowReader_next_byte) .none kV9 dc9 pm9 an9 cd9 ct9), sl9⟩)
    (c9 : PySem.W.codeIn K cd9 "RowReader.next_byte" = true)
    (k9 : PySem.W.keepIn K (.ref f9) = true)
    (a10 : PySem.W.findIn K (.ref C_RowReader) "read_whole" = some (some (.ref f10)))
    (i10 : PySem.W.isFn K (.ref f10) = true)
    (l10 : K.lookup f10 = some ⟨oc10, od10, .func (PySem.W.fnOf "read_whole" "RowReader.read_whole" (defArgs st_m_RowReader_read_whole) (defBody st_m_RowReader_read_whole) (defScope st_m_RowReader_read_whole) .none kV10 dc10 pm10 an10 cd10 ct10), sl10⟩)
    (c10 : PySem.W.codeIn K cd10 "RowReader.read_whole" = true)
    (k10 : PySem.W.keepIn K (.ref f10) = true)
    (a11 : PySem.W.nsIn K mainGlobals "is_sign" = some (some (.ref f11)))
    (l11 : K.lookup f11 = some ⟨oc11, od11, .func (PySem.W.fnOf "is_sign" "is_sign" (defArgs st_m_is_sign) (defBody st_m_is_sign) (defScope st_m_is_sign) .none kV11 dc11 pm11 an11 cd11 ct11), sl11⟩)
    (c11 : PySem.W.codeIn K cd11 "is_sign" = true)
    (k11 : PySem.W.keepIn K (.ref f11) = true)
    (a12 : PySem.W.findIn K (.ref C_RowReader) "read_string" = some (some (.ref f12)))
    (i12 : PySem.W.isFn K (.ref f12) = true)
    (l12 : K.lookup f12 = some ⟨oc12, od12, .func (PySem.W.fnOf "read_string" "RowReader.read_string" (defArgs st_m_RowReader_read_string) (defBody st_m_RowReader_read_string) (defScope st_m_RowReader_read_string) .none kV12 dc12 pm12 an12 cd12 ct12), sl12⟩)
    (c12 : PySem.W.codeIn K cd12 "RowReader.read_string" = true)
    (k12 : PySem.W.keepIn K (.ref f12) = true)
    (a13 : PySem.W.findIn K (.ref C_RowReader) "read_several" = some (some (.ref f13)))
    (i13 : PySem.W.isFn K (.ref f13) = true)
    (l13 : K.lookup f13 = some ⟨oc13, od13, .func (PySem.W.fnOf "read_several" "RowReader.read_several" (defArgs st_m_RowReader_read_several) (defBody st_m_RowReader_read_several) (defScope st_m_RowReader_read_several) .none kV13 dc13 pm13 an13 cd13 ct13), sl13⟩)
    (c13 : PySem.W.codeIn K cd13 "RowReader.read_several" = true)
    (k13 : PySem.W.keepIn K (.ref f13) = true)
    (a14 : PySem.W.findIn K (.ref C_RowReader) "read_parcel" = some (some (.ref f14)))
    (i14 : PySem.W.isFn K (.ref f14) = true)
    (l14 : K.lookup f14 = some ⟨oc14, od14, .func (PySem.W.fnOf "read_parcel" "RowReader.read_parcel" (defArgs st_m_RowReader_read_parcel) (defBody st_m_RowReader_read_parcel) (defScope st_m_RowReader_read_parcel) .none kV14 dc14 pm14 an14 cd14 ct14), sl14⟩)
    (c14 : PySem.W.codeIn K cd14 "RowReader.read_parcel" = true)
    (k14 : PySem.W.keepIn K (.ref f14) = true)
    (a15 : PySem.W.nsIn K mainGlobals "parcel_of" = some (some (.ref f15)))
    (l15 : K.lookup f15 = some ⟨oc15, od15, .func (PySem.W.fnOf "parcel_of" "parcel_of" (defArgs st_m_parcel_of) (defBody st_m_parcel_of) (defScope st_m_parcel_of) .none kV15 dc15 pm15 an15 cd15 ct15), sl15⟩)
    (c15 : PySem.W.codeIn K cd15 "parcel_of" = true)
    (k15 : PySem.W.keepIn K (.ref f15) = true)
    (a16 : PySem.W.nsIn K mainGlobals "unsealed" = some (some (.ref f16)))
    (l16 : K.lookup f16 = some ⟨oc16, od16, .func (PySem.W.fnOf "unsealed" "unsealed" (defArgs st_m_unsealed) (defBody st_m_unsealed) (defScope st_m_unsealed) .none kV16 dc16 pm16 an16 cd16 ct16), sl16⟩)
    (c16 : PySem.W.codeIn K cd16 "unsealed" = true)
    (k16 : PySem.W.keepIn K (.ref f16) = true)
    (a17 : PySem.W.nsIn K mainGlobals "_law_mark" = some (some (.ref f17)))
    (l17 : K.lookup f17 = some ⟨oc17, od17, .func (PySem.W.fnOf "_law_mark" "_law_mark" (defArgs st_m_law_mark) (defBody st_m_law_mark) (defScope st_m_law_mark) .none kV17 dc17 pm17 an17 cd17 ct17), sl17⟩)
    (c17 : PySem.W.codeIn K cd17 "_law_mark" = true)
    (k17 : PySem.W.keepIn K (.ref f17) = true)
    (a18 : PySem.W.nsIn K mainGlobals "_law_sealed" = some (some (.ref f18)))
    (l18 : K.lookup f18 = some ⟨oc18, od18, .func (PySem.W.fnOf "_law_sealed" "_law_sealed" (defArgs st_m_law_sealed) (defBody st_m_law_sealed) (defScope st_m_law_sealed) .none kV18 dc18 pm18 an18 cd18 ct18), sl18⟩)
    (c18 : PySem.W.codeIn K cd18 "_law_sealed" = true)
    (k18 : PySem.W.keepIn K (.ref f18) = true)
    (a19 : PySem.W.nsIn K mainGlobals "_law_whole" = some (some (.ref f19)))
    (l19 : K.lookup f19 = some ⟨oc19, od19, .func (PySem.W.fnOf "_law_whole" "_law_whole" (defArgs st_m_law_whole) (defBody st_m_law_whole) (defScope st_m_law_whole) .none kV19 dc19 pm19 an19 cd19 ct19), sl19⟩)
    (c19 : PySem.W.codeIn K cd19 "_law_whole" = true)
    (k19 : PySem.W.keepIn K (.ref f19) = true)
    (a20 : PySem.W.nsIn K mainGlobals "_law_bytes" = some (some (.ref f20)))
    (l20 : K.lookup f20 = some ⟨oc20, od20, .func (PySem.W.fnOf "_law_bytes" "_law_bytes" (defArgs st_m_law_bytes) (defBody st_m_law_bytes) (defScope st_m_law_bytes) .none kV20 dc20 pm20 an20 cd20 ct20), sl20⟩)
    (c20 : PySem.W.codeIn K cd20 "_law_bytes" = true)
    (k20 : PySem.W.keepIn K (.ref f20) = true)
    (a21 : PySem.W.nsIn K mainGlobals "_law_same" = some (some (.ref f21)))
    (l21 : K.lookup f21 = some ⟨oc21, od21, .func (PySem.W.fnOf "_law_same" "_law_same" (defArgs st_m_law_same) (defBody st_m_law_same) (defScope st_m_law_same) .none kV21 dc21 pm21 an21 cd21 ct21), sl21⟩)
    (c21 : PySem.W.codeIn K cd21 "_law_same" = true)
    (k21 : PySem.W.keepIn K (.ref f21) = true)
    (a22 : PySem.W.nsIn K mainGlobals "_law_is" = some (some (.ref f22)))
    (l22 : K.lookup f22 = some ⟨oc22, od22, .func (PySem.W.fnOf "_law_is" "_law_is" (defArgs st_m_law_is) (defBody st_m_law_is) (defScope st_m_law_is) .none kV22 dc22 pm22 an22 cd22 ct22), sl22⟩)
    (c22 : PySem.W.codeIn K cd22 "_law_is" = true)
    (k22 : PySem.W.keepIn K (.ref f22) = true)
    (a23 : PySem.W.nsIn K mainGlobals "is_short_string" = some (some (.ref f23)))
    (l23 : K.lookup f23 = some ⟨oc23, od23, .func (PySem.W.fnOf "is_short_string" "is_short_string" (defArgs st_m_is_short_string) (defBody st_m_is_short_string) (defScope st_m_is_short_string) .none kV23 dc23 pm23 an23 cd23 ct23), sl23⟩)
    (c23 : PySem.W.codeIn K cd23 "is_short_string" = true)
    (k23 : PySem.W.keepIn K (.ref f23) = true)
    (a24 : PySem.W.nsIn K mainGlobals "is_parcel_deep" = some (some (.ref f24)))
    (l24 : K.lookup f24 = some ⟨oc24, od24, .func (PySem.W.fnOf "is_parcel_deep" "is_parcel_deep" (defArgs st_m_is_parcel_deep) (defBody st_m_is_parcel_deep) (defScope st_m_is_parcel_deep) .none kV24 dc24 pm24 an24 cd24 ct24), sl24⟩)
    (c24 : PySem.W.codeIn K cd24 "is_parcel_deep" = true)
    (k24 : PySem.W.keepIn K (.ref f24) = true)
    (a25 : PySem.W.nsIn K mainGlobals "is_parcel" = some (some (.ref f25)))
    (l25 : K.lookup f25 = some ⟨oc25, od25, .func (PySem.W.fnOf "is_parcel" "is_parcel" (defArgs st_m_is_parcel) (defBody st_m_is_parcel) (defScope st_m_is_parcel) .none kV25 dc25 pm25 an25 cd25 ct25), sl25⟩)
    (c25 : PySem.W.codeIn K cd25 "is_parcel" = true)
    (k25 : PySem.W.keepIn K (.ref f25) = true)
    (a26 : PySem.W.nsIn K mainGlobals "whole" = some (some (.ref f26)))
    (l26 : K.lookup f26 = some ⟨oc26, od26, .func (PySem.W.fnOf "whole" "whole" (defArgs st_m_whole) (defBody st_m_whole) (defScope st_m_whole) .none kV26 dc26 pm26 an26 cd26 ct26), sl26⟩)
    (c26 : PySem.W.codeIn K cd26 "whole" = true)
    (k26 : PySem.W.keepIn K (.ref f26) = true)
    (a27 : PySem.W.nsIn K mainGlobals "bytes_of" = some (some (.ref f27)))
    (l27 : K.lookup f27 = some ⟨oc27, od27, .func (PySem.W.fnOf "bytes_of" "bytes_of" (defArgs st_m_bytes_of) (defBody st_m_bytes_of) (defScope st_m_bytes_of) .none kV27 dc27 pm27 an27 cd27 ct27), sl27⟩)
    (c27 : PySem.W.codeIn K cd27 "bytes_of" = true)
    (k27 : PySem.W.keepIn K (.ref f27) = true)
    (a28 : PySem.W.nsIn K mainGlobals "row_of" = some (some (.ref f28)))
    (l28 : K.lookup f28 = some ⟨oc28, od28, .func (PySem.W.fnOf "row_of" "row_of" (defArgs st_m_row_of) (defBody st_m_row_of) (defScope st_m_row_of) .none kV28 dc28 pm28 an28 cd28 ct28), sl28⟩)
    (c28 : PySem.W.codeIn K cd28 "row_of" = true)
    (k28 : PySem.W.keepIn K (.ref f28) = true)
    (a29 : PySem.W.nsIn K mainGlobals "sealed" = some (some (.ref f29)))
    (l29 : K.lookup f29 = some ⟨oc29, od29, .func (PySem.W.fnOf "sealed" "sealed" (defArgs st_m_sealed) (defBody st_m_sealed) (defScope st_m_sealed) .none kV29 dc29 pm29 an29 cd29 ct29), sl29⟩)
    (c29 : PySem.W.codeIn K cd29 "sealed" = true)
    (k29 : PySem.W.keepIn K (.ref f29) = true)
    (a30 : PySem.W.nsIn K mainGlobals "mark" = some (some (.ref f30)))
    (l30 : K.lookup f30 = some ⟨oc30, od30, .func (PySem.W.fnOf "mark" "mark" (defArgs st_m_mark) (defBody st_m_mark) (defScope st_m_mark) .none kV30 dc30 pm30 an30 cd30 ct30), sl30⟩)
    (c30 : PySem.W.codeIn K cd30 "mark" = true)
    (k30 : PySem.W.keepIn K (.ref f30) = true)
    (a31 : PySem.W.nsIn K mainGlobals "_law_read_whole" = some (some (.ref f31)))
    (l31 : K.lookup f31 = some ⟨oc31, od31, .func (PySem.W.fnOf "_law_read_whole" "_law_read_whole" (defArgs st_m_law_read_whole) (defBody st_m_law_read_whole) (defScope st_m_law_read_whole) .none kV31 dc31 pm31 an31 cd31 ct31), sl31⟩)
    (c31 : PySem.W.codeIn K cd31 "_law_read_whole" = true)
    (k31 : PySem.W.keepIn K (.ref f31) = true)
    (a32 : PySem.W.nsIn K mainGlobals "_law_sign" = some (some (.ref f32)))
    (l32 : K.lookup f32 = some ⟨oc32, od32, .func (PySem.W.fnOf "_law_sign" "_law_sign" (defArgs st_m_law_sign) (defBody st_m_law_sign) (defScope st_m_law_sign) .none kV32 dc32 pm32 an32 cd32 ct32), sl32⟩)
    (c32 : PySem.W.codeIn K cd32 "_law_sign" = true)
    (k32 : PySem.W.keepIn K (.ref f32) = true)
    (a33 : PySem.W.nsIn K mainGlobals "_law_read_string" = some (some (.ref f33)))
    (l33 : K.lookup f33 = some ⟨oc33, od33, .func (PySem.W.fnOf "_law_read_string" "_law_read_string" (defArgs st_m_law_read_string) (defBody st_m_law_read_string) (defScope st_m_law_read_string) .none kV33 dc33 pm33 an33 cd33 ct33), sl33⟩)
    (c33 : PySem.W.codeIn K cd33 "_law_read_string" = true)
    (k33 : PySem.W.keepIn K (.ref f33) = true)
    (a34 : PySem.W.nsIn K mainGlobals "_law_read" = some (some (.ref f34)))
    (l34 : K.lookup f34 = some ⟨oc34, od34, .func (PySem.W.fnOf "_law_read" "_law_read" (defArgs st_m_law_read) (defBody st_m_law_read) (defScope st_m_law_read) .none kV34 dc34 pm34 an34 cd34 ct34), sl34⟩)
    (c34 : PySem.W.codeIn K cd34 "_law_read" = true)
    (k34 : PySem.W.keepIn K (.ref f34) = true)
    (a35 : PySem.W.nsIn K mainGlobals "_law_told" = some (some (.ref f35)))
    (l35 : K.lookup f35 = some ⟨oc35, od35, .func (PySem.W.fnOf "_law_told" "_law_told" (defArgs st_m_law_told) (defBody st_m_law_told) (defScope st_m_law_told) .none kV35 dc35 pm35 an35 cd35 ct35), sl35⟩)
    (c35 : PySem.W.codeIn K cd35 "_law_told" = true)
    (k35 : PySem.W.keepIn K (.ref f35) = true)
    (a36 : PySem.W.nsIn K mainGlobals "_law_opened" = some (some (.ref f36)))
    (l36 : K.lookup f36 = some ⟨oc36, od36, .func (PySem.W.fnOf "_law_opened" "_law_opened" (defArgs st_m_law_opened) (defBody st_m_law_opened) (defScope st_m_law_opened) .none kV36 dc36 pm36 an36 cd36 ct36), sl36⟩)
    (c36 : PySem.W.codeIn K cd36 "_law_opened" = true)
    (k36 : PySem.W.keepIn K (.ref f36) = true)
    (a37 : PySem.W.nsIn K mainGlobals "law" = some (some (.ref f37)))
    (l37 : K.lookup f37 = some ⟨oc37, od37, .func (PySem.W.fnOf "law" "law" (defArgs st_m_law) (defBody st_m_law) (defScope st_m_law) .none kV37 dc37 pm37 an37 cd37 ct37), sl37⟩)
    (c37 : PySem.W.codeIn K cd37 "law" = true)
    (k37 : PySem.W.keepIn K (.ref f37) = true)
    (b_abs : PySem.W.nsIn K mainGlobals "abs" = some none)
    (b_all : PySem.W.nsIn K mainGlobals "all" = some none)
    (b_bool : PySem.W.nsIn K mainGlobals "bool" = some none)
    (b_int : PySem.W.nsIn K mainGlobals "int" = some none)
    (b_isinstance : PySem.W.nsIn K mainGlobals "isinstance" = some none)
    (b_len : PySem.W.nsIn K mainGlobals "len" = some none)
    (b_list : PySem.W.nsIn K mainGlobals "list" = some none)
    (b_min : PySem.W.nsIn K mainGlobals "min" = some none)
    (b_ord : PySem.W.nsIn K mainGlobals "ord" = some none)
    (b_range : PySem.W.nsIn K mainGlobals "range" = some none)
    (b_repr : PySem.W.nsIn K mainGlobals "repr" = some none)
    (b_str : PySem.W.nsIn K mainGlobals "str" = some none)
    (b_sum : PySem.W.nsIn K mainGlobals "sum" = some none)
    (b_tuple : PySem.W.nsIn K mainGlobals "tuple" = some none)
    (b_zip : PySem.W.nsIn K mainGlobals "zip" = some none)
    (v_BASE : PySem.W.nsIn K mainGlobals "BASE" = some (some (.int 128 t_BASE)))
    (v_BELOW : PySem.W.nsIn K mainGlobals "BELOW" = some (some (.int 4 t_BELOW)))
    (v_BYTES : PySem.W.nsIn K mainGlobals "BYTES" = some (some (.int 256 t_BYTES)))
    (v_FIRST_SIGN : PySem.W.nsIn K mainGlobals "FIRST_SIGN" = some (some (.int 32 t_FIRST_SIGN)))
    (v_LAST_SIGN : PySem.W.nsIn K mainGlobals "LAST_SIGN" = some (some (.int 126 t_LAST_SIGN)))
    (v_MODULUS : PySem.W.nsIn K mainGlobals "MODULUS" = some (some (.int 2305843009213693951 t_MODULUS)))
    (v_MOST_DEEP : PySem.W.nsIn K mainGlobals "MOST_DEEP" = some (some (.int 20 t_MOST_DEEP)))
    (v_MOST_SIGNS : PySem.W.nsIn K mainGlobals "MOST_SIGNS" = some (some (.int 20 t_MOST_SIGNS)))
    (v_MULTIPLIER : PySem.W.nsIn K mainGlobals "MULTIPLIER" = some (some (.int 1000003 t_MULTIPLIER)))
    (v_NO : PySem.W.nsIn K mainGlobals "NO" = some (some (.int 1 t_NO)))
    (v_NOTHING : PySem.W.nsIn K mainGlobals "NOTHING" = some (some (.int 0 t_NOTHING)))
    (v_NO_SIGN : PySem.W.nsIn K mainGlobals "NO_SIGN" = some (some (.int 37 t_NO_SIGN)))
    (v_NUMBER : PySem.W.nsIn K mainGlobals "NUMBER" = some (some (.int 3 t_NUMBER)))
    (v_SEAL_BYTES : PySem.W.nsIn K mainGlobals "SEAL_BYTES" = some (some (.int 4 t_SEAL_BYTES)))
    (v_SEVERAL : PySem.W.nsIn K mainGlobals "SEVERAL" = some (some (.int 6 t_SEVERAL)))
    (v_SIGNS : PySem.W.nsIn K mainGlobals "SIGNS" = some (some (.str " !\"#$ &'()*+,-./0123456789:;<=>?@ABCDEFGHIJKLMNOPQRSTUVWXYZ[\\]^_`abcdefghijklmnopqrstuvwxyz{|}~" t_SIGNS)))
    (v_STRING : PySem.W.nsIn K mainGlobals "STRING" = some (some (.int 5 t_STRING)))
    (v_YES : PySem.W.nsIn K mainGlobals "YES" = some (some (.int 2 t_YES)))
    (a_NoParcel : PySem.W.nsIn K mainGlobals "NoParcel" = some (some (.ref E_NoParcel)))
    (x_NoParcel : PySem.W.excIn K E_NoParcel [.type "ValueError", .type "Exception", .type "BaseException", .type "object"] "ValueError.__new__" = true)
    (k_NoParcel : PySem.W.keepIn K (.ref E_NoParcel) = true)
    (s_NoParcel : PySem.W.subIn K (.ref E_NoParcel) (.type "BaseException") = some true)
    (t_NoParcel : PySem.W.typeIn K (.ref E_NoParcel) = some (.type "type"))
    (a_NoRow : PySem.W.nsIn K mainGlobals "NoRow" = some (some (.ref E_NoRow)))
    (x_NoRow : PySem.W.excIn K E_NoRow [.type "ValueError", .type "Exception", .type "BaseException", .type "object"] "ValueError.__new__" = true)
    (k_NoRow : PySem.W.keepIn K (.ref E_NoRow) = true)
    (s_NoRow : PySem.W.subIn K (.ref E_NoRow) (.type "BaseException") = some true)
    (t_NoRow : PySem.W.typeIn K (.ref E_NoRow) = some (.type "type"))
    (a_BadRow : PySem.W.nsIn K mainGlobals "BadRow" = some (some (.ref E_BadRow)))
    (s_BadRow : PySem.W.subIn K (.ref E_BadRow) (.type "BaseException") = some true)
    (t_BadRow : PySem.W.typeIn K (.ref E_BadRow) = some (.type "type"))
    (q_BadRow : PySem.W.isClsIn K E_BadRow = true)
    (e_BadRow_BadRow : PySem.W.subIn K (.ref E_BadRow) (.ref E_BadRow) = some true)
    (xL_BadRow : K.lookup E_BadRow = some (excClassObj nm_BadRow q_q_BadRow E_BadRow NN_BadRow bs_BadRow [.ref E_QuietError, .type "ValueError", .type "Exception", .type "BaseException", .type "object"] true sn_BadRow sub_BadRow ab_BadRow col_BadRow dd_BadRow m0_BadRow m1_BadRow m2_BadRow m3_BadRow m5_BadRow "ValueError.__new__"))
    (sa_BadRow : PySem.W.findIn K (.ref E_BadRow) "__setattr__" = some (some (.builtin "object.__setattr__")))
    (ga_BadRow : PySem.W.findIn K (.ref E_BadRow) "__getattribute__" = some (some (.builtin "BaseException.__getattribute__")))
    (gg_BadRow : PySem.W.findIn K (.ref E_BadRow) "__getattr__" = some none)
    (nb_BadRow : PySem.W.findIn K (.ref E_BadRow) "place" = some none)
    (ai_BadRow : PySem.W.findIn K (.ref E_BadRow) "__init__" = some (some (.ref fI_BadRow)))
    (ti_BadRow : PySem.W.typeIn K (.ref fI_BadRow) = some (.type "function"))
    (li_BadRow : K.lookup fI_BadRow = some ⟨oc_BadRow, od_BadRow, .func (PySem.W.fnOf "__init__" "BadRow.__init__" (PySem.X_place.iA ⟨10, 17, 10, 21⟩ ⟨10, 23, 10, 28⟩) (PySem.X_place.iB ⟨11, 8, 11, 12⟩ ⟨11, 8, 11, 18⟩ ⟨11, 21, 11, 26⟩ ⟨11, 8, 11, 26⟩) PySem.X_place.iS .none .none dc_BadRow pm_BadRow an_BadRow cd_BadRow ct_BadRow), sl_BadRow⟩)
    (ci_BadRow : PySem.W.codeIn K cd_BadRow "BadRow.__init__" = true)
    (k_BadRow : PySem.W.keepIn K (.ref E_BadRow) = true)
    (hC_BadRow : PySem.W.hasDictIn K E_BadRow = true)
    (sC_BadRow : PySem.W.subIn K (.ref E_BadRow) (.ref E_BadRow) = some true)
    : ∃ fd : FuncData, (∀ (s : Shared) (v : Value), BindsTo s fd ⟨[v], []⟩ [("_law_script", v)]) ∧ ∀ base : Heap, K.In base → base.Ns mainGlobals mg → FnOk P w K mg base (L2.CX P w) 87 fa fd ["_law_script"] (spLaw K) := by
  have e := hfa.symm.trans (PySem.W.mg_of X G a37)
  cases e
  have cls_RowReader : Cls K C_RowReader := ⟨pg_RowReader, hd_RowReader, po_RowReader, sa_RowReader⟩
  have T : Txt K mg := {
    b_abs := PySem.W.mg_none_of X G b_abs
    b_all := PySem.W.mg_none_of X G b_all
    b_bool := PySem.W.mg_none_of X G b_bool
    b_int := PySem.W.mg_none_of X G b_int
    b_isinstance := PySem.W.mg_none_of X G b_isinstance
    b_len := PySem.W.mg_none_of X G b_len
    b_list := PySem.W.mg_none_of X G b_list
    b_min := PySem.W.mg_none_of X G b_min
    b_ord := PySem.W.mg_none_of X G b_ord
    b_range := PySem.W.mg_none_of X G b_range
    b_repr := PySem.W.mg_none_of X G b_repr
    b_str := PySem.W.mg_none_of X G b_str
    b_sum := PySem.W.mg_none_of X G b_sum
    b_tuple := PySem.W.mg_none_of X G b_tuple
    b_zip := PySem.W.mg_none_of X G b_zip
    c_BASE := ⟨_, PySem.W.mg_of X G v_BASE⟩
    c_BELOW := ⟨_, PySem.W.mg_of X G v_BELOW⟩
    c_BYTES := ⟨_, PySem.W.mg_of X G v_BYTES⟩
    c_FIRST_SIGN := ⟨_, PySem.W.mg_of X G v_FIRST_SIGN⟩
    c_LAST_SIGN := ⟨_, PySem.W.mg_of X G v_LAST_SIGN⟩
    c_MODULUS := ⟨_, PySem.W.mg_of X G v_MODULUS⟩
    c_MOST_DEEP := ⟨_, PySem.W.mg_of X G v_MOST_DEEP⟩
    c_MOST_SIGNS := ⟨_, PySem.W.mg_of X G v_MOST_SIGNS⟩
    c_MULTIPLIER := ⟨_, PySem.W.mg_of X G v_MULTIPLIER⟩
    c_NO := ⟨_, PySem.W.mg_of X G v_NO⟩
    c_NOTHING := ⟨_, PySem.W.mg_of X G v_NOTHING⟩
    c_NO_SIGN := ⟨_, PySem.W.mg_of X G v_NO_SIGN⟩
    c_NUMBER := ⟨_, PySem.W.mg_of X G v_NUMBER⟩
    c_SEAL_BYTES := ⟨_, PySem.W.mg_of X G v_SEAL_BYTES⟩
    c_SEVERAL := ⟨_, PySem.W.mg_of X G v_SEVERAL⟩
    c_SIGNS := ⟨_, PySem.W.mg_of X G v_SIGNS⟩
    c_STRING := ⟨_, PySem.W.mg_of X G v_STRING⟩
    c_YES := ⟨_, PySem.W.mg_of X G v_YES⟩
    f_RowReader_at := ⟨⟨C_RowReader, PySem.W.mg_of X G a_RowReader, cls_RowReader, n_RowReader_at⟩⟩
    f_RowReader_row := ⟨⟨C_RowReader, PySem.W.mg_of X G a_RowReader, cls_RowReader, n_RowReader_row⟩⟩
    e_NoParcel := ⟨⟨E_NoParcel, PySem.W.mg_of X G a_NoParcel, x_NoParcel, k_NoParcel, s_NoParcel, t_NoParcel⟩⟩
    e_NoRow := ⟨⟨E_NoRow, PySem.W.mg_of X G a_NoRow, x_NoRow, k_NoRow, s_NoRow, t_NoRow⟩⟩
    low_BadRow := ⟨E_BadRow, fI_BadRow, { gC := PySem.W.mg_of X G a_BadRow, cls := ⟨nm_BadRow, q_q_BadRow, NN_BadRow, bs_BadRow, _, sn_BadRow, sub_BadRow, ab_BadRow, col_BadRow, dd_BadRow, m0_BadRow, m1_BadRow, m2_BadRow, m3_BadRow, m5_BadRow, xL_BadRow, by first | rfl | decide +kernel⟩, sa := sa_BadRow, ga := ga_BadRow, gg := gg_BadRow, noN := nb_BadRow, iC := ai_BadRow, tC := ti_BadRow, kC := k_BadRow, exC := s_BadRow, tyC := t_BadRow, hdC := hC_BadRow, te := exm_of s_BadRow q_BadRow t_BadRow sC_BadRow, fn := ⟨_, _, _, _, _, _, _, _, _, _, _, _, _, _, li_BadRow, ci_BadRow⟩ }⟩
    h_BadRow_0 := ⟨E_BadRow, PySem.W.mg_of X G a_BadRow, fun p hp => by
      simp only [List.mem_cons, List.not_mem_nil, or_false] at hp
      rcases hp with rfl
      · exact ⟨E_BadRow, PySem.W.mg_of X G a_BadRow, exm_of s_BadRow q_BadRow t_BadRow e_BadRow_BadRow⟩⟩ }
  have F0 := fun_mk (st := st_m_law_pool) l0 c0 k0
  have B0 := F0.binds (ps := ["_law_script"]) fun _ _ _ _ _ _ us hl => match us, hl with | [_], _ => rfl
  have F1 := fun_mk (st := st_m_law_draw) l1 c1 k1
  have B1 := F1.binds (ps := ["_law_pool_here", "_law_many"]) fun _ _ _ _ _ _ us hl => match us, hl with | [_, _], _ => rfl
  have F2 := fun_mk (st := st_m_law_number) l2 c2 k2
  have B2 := F2.binds (ps := ["_law_pool_here"]) fun _ _ _ _ _ _ us hl => match us, hl with | [_], _ => rfl
  have F3 := fun_mk (st := st_m_law_parcel) l3 c3 k3
  have B3 := F3.binds (ps := ["_law_pool_here", "_law_deep"]) fun _ _ _ _ _ _ us hl => match us, hl with | [_, _], _ => rfl
  have F4 := fun_mk (st := st_m_is_row) l4 c4 k4
  have B4 := F4.binds (ps := ["thing"]) fun _ _ _ _ _ _ us hl => match us, hl with | [_], _ => rfl
  have F5 := fun_mk (st := st_m_raw_mark) l5 c5 k5
  have B5 := F5.binds (ps := ["row"]) fun _ _ _ _ _ _ us hl => match us, hl with | [_], _ => rfl
  have F6 := fun_mk (st := st_m_seal_of) l6 c6 k6
  have B6 := F6.binds (ps := ["row"]) fun _ _ _ _ _ _ us hl => match us, hl with | [_], _ => rfl
  have F7 := fun_mk (st := st_m_check_row) l7 c7 k7
  have B7 := F7.binds (ps := ["thing"]) fun _ _ _ _ _ _ us hl => match us, hl with | [_], _ => rfl
  have F8 := fun_mk (st := st_m_RowReader___init__) l8 c8 k8
  have B8 := F8.binds (ps := ["self", "row"]) fun _ _ _ _ _ _ us hl => match us, hl with | [_, _], _ => rfl
  have F9 := fun_mk (st := st_m_RowReader_next_byte) l9 c9 k9
  have B9 := F9.binds (ps := ["self"]) fun _ _ _ _ _ _ us hl => match us, hl with | [_], _ => rfl
  have F10 := fun_mk (st := st_m_RowReader_read_whole) l10 c10 k10
  have B10 := F10.binds (ps := ["self"]) fun _ _ _ _ _ _ us hl => match us, hl with | [_], _ => rfl
  have F11 := fun_mk (st := st_m_is_sign) l11 c11 k11
  have B11 := F11.binds (ps := ["number"]) fun _ _ _ _ _ _ us hl => match us, hl with | [_], _ => rfl
  have F12 := fun_mk (st := st_m_RowReader_read_string) l12 c12 k12
  have B12 := F12.binds (ps := ["self"]) fun _ _ _ _ _ _ us hl => match us, hl with | [_], _ => rfl
  have F13 := fun_mk (st := st_m_RowReader_read_several) l13 c13 k13
  have B13 := F13.binds (ps := ["self", "left"]) fun _ _ _ _ _ _ us hl => match us, hl with | [_, _], _ => rfl
  have F14 := fun_mk (st := st_m_RowReader_read_parcel) l14 c14 k14
  have B14 := F14.binds (ps := ["self", "left"]) fun _ _ _ _ _ _ us hl => match us, hl with | [_, _], _ => rfl
  have F15 := fun_mk (st := st_m_parcel_of) l15 c15 k15
  have B15 := F15.binds (ps := ["row"]) fun _ _ _ _ _ _ us hl => match us, hl with | [_], _ => rfl
  have F16 := fun_mk (st := st_m_unsealed) l16 c16 k16
  have B16 := F16.binds (ps := ["row"]) fun _ _ _ _ _ _ us hl => match us, hl with | [_], _ => rfl
  have F17 := fun_mk (st := st_m_law_mark) l17 c17 k17
  have B17 := F17.binds (ps := ["_law_row"]) fun _ _ _ _ _ _ us hl => match us, hl with | [_], _ => rfl
  have F18 := fun_mk (st := st_m_law_sealed) l18 c18 k18
  have B18 := F18.binds (ps := ["_law_row"]) fun _ _ _ _ _ _ us hl => match us, hl with | [_], _ => rfl
  have F19 := fun_mk (st := st_m_law_whole) l19 c19 k19
  have B19 := F19.binds (ps := ["_law_number_here"]) fun _ _ _ _ _ _ us hl => match us, hl with | [_], _ => rfl
  have F20 := fun_mk (st := st_m_law_bytes) l20 c20 k20
  have B20 := F20.binds (ps := ["_law_parcel_here"]) fun _ _ _ _ _ _ us hl => match us, hl with | [_], _ => rfl
  have F21 := fun_mk (st := st_m_law_same) l21 c21 k21
  have B21 := F21.binds (ps := ["_law_one", "_law_other"]) fun _ _ _ _ _ _ us hl => match us, hl with | [_, _], _ => rfl
  have F22 := fun_mk (st := st_m_law_is) l22 c22 k22
  have B22 := F22.binds (ps := ["_law_told_here", "_law_due"]) fun _ _ _ _ _ _ us hl => match us, hl with | [_, _], _ => rfl
  have F23 := fun_mk (st := st_m_is_short_string) l23 c23 k23
  have B23 := F23.binds (ps := ["thing"]) fun _ _ _ _ _ _ us hl => match us, hl with | [_], _ => rfl
  have F24 := fun_mk (st := st_m_is_parcel_deep) l24 c24 k24
  have B24 := F24.binds (ps := ["thing", "left"]) fun _ _ _ _ _ _ us hl => match us, hl with | [_, _], _ => rfl
  have F25 := fun_mk (st := st_m_is_parcel) l25 c25 k25
  have B25 := F25.binds (ps := ["thing"]) fun _ _ _ _ _ _ us hl => match us, hl with | [_], _ => rfl
  have F26 := fun_mk (st := st_m_whole) l26 c26 k26
  have B26 := F26.binds (ps := ["number"]) fun _ _ _ _ _ _ us hl => match us, hl with | [_], _ => rfl
  have F27 := fun_mk (st := st_m_bytes_of) l27 c27 k27
  have B27 := F27.binds (ps := ["parcel"]) fun _ _ _ _ _ _ us hl => match us, hl with | [_], _ => rfl
  have F28 := fun_mk (st := st_m_row_of) l28 c28 k28
  have B28 := F28.binds (ps := ["parcel"]) fun _ _ _ _ _ _ us hl => match us, hl with | [_], _ => rfl
  have F29 := fun_mk (st := st_m_sealed) l29 c29 k29
  have B29 := F29.binds (ps := ["parcel"]) fun _ _ _ _ _ _ us hl => match us, hl with | [_], _ => rfl
  have F30 := fun_mk (st := st_m_mark) l30 c30 k30
  have B30 := F30.binds (ps := ["row"]) fun _ _ _ _ _ _ us hl => match us, hl with | [_], _ => rfl
  have F31 := fun_mk (st := st_m_law_read_whole) l31 c31 k31
  have B31 := F31.binds (ps := ["_law_row", "_law_at"]) fun _ _ _ _ _ _ us hl => match us, hl with | [_, _], _ => rfl
  have F32 := fun_mk (st := st_m_law_sign) l32 c32 k32
  have B32 := F32.binds (ps := ["_law_byte"]) fun _ _ _ _ _ _ us hl => match us, hl with | [_], _ => rfl
  have F33 := fun_mk (st := st_m_law_read_string) l33 c33 k33
  have B33 := F33.binds (ps := ["_law_row", "_law_begin", "_law_many", "_law_here"]) fun _ _ _ _ _ _ us hl => match us, hl with | [_, _, _, _], _ => rfl
  have F34 := fun_mk (st := st_m_law_read) l34 c34 k34
  have B34 := F34.binds (ps := ["_law_row", "_law_at", "_law_left"]) fun _ _ _ _ _ _ us hl => match us, hl with | [_, _, _], _ => rfl
  have F35 := fun_mk (st := st_m_law_told) l35 c35 k35
  have B35 := F35.binds (ps := ["_law_row"]) fun _ _ _ _ _ _ us hl => match us, hl with | [_], _ => rfl
  have F36 := fun_mk (st := st_m_law_opened) l36 c36 k36
  have B36 := F36.binds (ps := ["_law_row"]) fun _ _ _ _ _ _ us hl => match us, hl with | [_], _ => rfl
  have F37 := fun_mk (st := st_m_law) l37 c37 k37
  have B37 := F37.binds (ps := ["_law_script"]) fun _ _ _ _ _ _ us hl => match us, hl with | [_], _ => rfl
  refine ⟨PySem.W.fnOf "law" "law" (defArgs st_m_law) (defBody st_m_law) (defScope st_m_law) .none kV37 dc37 pm37 an37 cd37 ct37, fun s v => .of_eq rfl, fun base _ _ => ?_⟩
  have D_m_law_whole : DefAt P w K mg base 1 "_law_whole" 1 KR.m_law_whole := ⟨⟨_, _, _, rfl, PySem.W.mg_of X G a19, k19, B19, (ok_m_law_whole F19 T )⟩⟩
  have D_m_law_bytes : DefAt P w K mg base 42 "_law_bytes" 1 (KR.m_law_bytes 40) := ⟨⟨_, _, _, rfl, PySem.W.mg_of X G a20, k20, B20, ((ok_m_law_bytes F20 T (PySem.W.mg_of X G a20) B20 D_m_law_whole 40).mono (by decide))⟩⟩
  have D_m_law_draw : DefAt P w K mg base 1 "_law_draw" 2 KR.m_law_draw := ⟨⟨_, _, _, rfl, PySem.W.mg_of X G a1, k1, B1, (ok_m_law_draw F1 T )⟩⟩
  have D_m_law_is : DefAt P w K mg base 41 "_law_is" 2 (KR.m_law_is 40) := ⟨⟨_, _, _, rfl, PySem.W.mg_of X G a22, k22, B22, ((ok_m_law_is F22 T (PySem.W.mg_of X G a22) B22  40).mono (by decide))⟩⟩
  have D_m_law_mark : DefAt P w K mg base 1 "_law_mark" 1 KR.m_law_mark := ⟨⟨_, _, _, rfl, PySem.W.mg_of X G a17, k17, B17, (ok_m_law_mark F17 T )⟩⟩
  have D_m_law_sealed : DefAt P w K mg base 2 "_law_sealed" 1 KR.m_law_sealed := ⟨⟨_, _, _, rfl, PySem.W.mg_of X G a18, k18, B18, (ok_m_law_sealed F18 T D_m_law_mark)⟩⟩
  have D_m_law_sign : DefAt P w K mg base 1 "_law_sign" 1 KR.m_law_sign := ⟨⟨_, _, _, rfl, PySem.W.mg_of X G a32, k32, B32, (ok_m_law_sign F32 T )⟩⟩
  have D_m_law_read_string : DefAt P w K mg base 2 "_law_read_string" 4 KR.m_law_read_string := ⟨⟨_, _, _, rfl, PySem.W.mg_of X G a33, k33, B33, (ok_m_law_read_string F33 T D_m_law_sign)⟩⟩
  have D_m_law_read_whole : DefAt P w K mg base 1 "_law_read_whole" 2 KR.m_law_read_whole := ⟨⟨_, _, _, rfl, PySem.W.mg_of X G a31, k31, B31, (ok_m_law_read_whole F31 T )⟩⟩
  have D_m_law_read : DefAt P w K mg base 43 "_law_read" 3 (KR.m_law_read 40) := ⟨⟨_, _, _, rfl, PySem.W.mg_of X G a34, k34, B34, ((ok_m_law_read F34 T (PySem.W.mg_of X G a34) B34 D_m_law_read_string D_m_law_read_whole 40).mono (by decide))⟩⟩
  have D_m_law_told : DefAt P w K mg base 44 "_law_told" 1 KR.m_law_told := ⟨⟨_, _, _, rfl, PySem.W.mg_of X G a35, k35, B35, (ok_m_law_told F35 T D_m_law_read)⟩⟩
  have D_m_law_opened : DefAt P w K mg base 45 "_law_opened" 1 KR.m_law_opened := ⟨⟨_, _, _, rfl, PySem.W.mg_of X G a36, k36, B36, (ok_m_law_opened F36 T D_m_law_sealed D_m_law_told)⟩⟩
  have D_m_law_number : DefAt P w K mg base 2 "_law_number" 1 KR.m_law_number := ⟨⟨_, _, _, rfl, PySem.W.mg_of X G a2, k2, B2, (ok_m_law_number F2 T D_m_law_draw)⟩⟩
  have D_m_law_parcel : DefAt P w K mg base 9 "_law_parcel" 2 (KR.m_law_parcel 6) := ⟨⟨_, _, _, rfl, PySem.W.mg_of X G a3, k3, B3, ((ok_m_law_parcel F3 T (PySem.W.mg_of X G a3) B3 D_m_law_draw D_m_law_number 6).mono (by decide))⟩⟩
  have D_m_law_pool : DefAt P w K mg base 1 "_law_pool" 1 KR.m_law_pool := ⟨⟨_, _, _, rfl, PySem.W.mg_of X G a0, k0, B0, (ok_m_law_pool F0 T )⟩⟩
  have D_m_law_same : DefAt P w K mg base 41 "_law_same" 2 (KR.m_law_same 40) := ⟨⟨_, _, _, rfl, PySem.W.mg_of X G a21, k21, B21, ((ok_m_law_same F21 T (PySem.W.mg_of X G a21) B21  40).mono (by decide))⟩⟩
  have D_m_is_row : DefAt P w K mg base 1 "is_row" 1 KR.m_is_row := ⟨⟨_, _, _, rfl, PySem.W.mg_of X G a4, k4, B4, (ok_m_is_row F4 T )⟩⟩
  have D_m_check_row : DefAt P w K mg base 2 "check_row" 1 KR.m_check_row := ⟨⟨_, _, _, rfl, PySem.W.mg_of X G a7, k7, B7, (ok_m_check_row F7 T D_m_is_row)⟩⟩
  have D_m_raw_mark : DefAt P w K mg base 1 "raw_mark" 1 KR.m_raw_mark := ⟨⟨_, _, _, rfl, PySem.W.mg_of X G a5, k5, B5, (ok_m_raw_mark F5 T )⟩⟩
  have D_m_mark : DefAt P w K mg base 3 "mark" 1 KR.m_mark := ⟨⟨_, _, _, rfl, PySem.W.mg_of X G a30, k30, B30, (ok_m_mark F30 T D_m_check_row D_m_raw_mark)⟩⟩
  have D_m_whole : DefAt P w K mg base 1 "whole" 1 KR.m_whole := ⟨⟨_, _, _, rfl, PySem.W.mg_of X G a26, k26, B26, (ok_m_whole F26 T )⟩⟩
  have D_m_bytes_of : DefAt P w K mg base 42 "bytes_of" 1 (KR.m_bytes_of 40) := ⟨⟨_, _, _, rfl, PySem.W.mg_of X G a27, k27, B27, ((ok_m_bytes_of F27 T (PySem.W.mg_of X G a27) B27 D_m_whole 40).mono (by decide))⟩⟩
  have D_m_is_sign : DefAt P w K mg base 1 "is_sign" 1 KR.m_is_sign := ⟨⟨_, _, _, rfl, PySem.W.mg_of X G a11, k11, B11, (ok_m_is_sign F11 T )⟩⟩
  have D_m_is_short_string : DefAt P w K mg base 2 "is_short_string" 1 KR.m_is_short_string := ⟨⟨_, _, _, rfl, PySem.W.mg_of X G a23, k23, B23, (ok_m_is_short_string F23 T D_m_is_sign)⟩⟩
  have D_m_is_parcel_deep : DefAt P w K mg base 43 "is_parcel_deep" 2 (KR.m_is_parcel_deep 40) := ⟨⟨_, _, _, rfl, PySem.W.mg_of X G a24, k24, B24, ((ok_m_is_parcel_deep F24 T (PySem.W.mg_of X G a24) B24 D_m_is_short_string 40).mono (by decide))⟩⟩
  have D_m_is_parcel : DefAt P w K mg base 44 "is_parcel" 1 KR.m_is_parcel := ⟨⟨_, _, _, rfl, PySem.W.mg_of X G a25, k25, B25, (ok_m_is_parcel F25 T D_m_is_parcel_deep)⟩⟩
  have D_m_row_of : DefAt P w K mg base 45 "row_of" 1 KR.m_row_of := ⟨⟨_, _, _, rfl, PySem.W.mg_of X G a28, k28, B28, (ok_m_row_of F28 T D_m_bytes_of D_m_is_parcel)⟩⟩
  have D_m_seal_of : DefAt P w K mg base 2 "seal_of" 1 KR.m_seal_of := ⟨⟨_, _, _, rfl, PySem.W.mg_of X G a6, k6, B6, (ok_m_seal_of F6 T D_m_raw_mark)⟩⟩
  have D_m_sealed : DefAt P w K mg base 46 "sealed" 1 KR.m_sealed := ⟨⟨_, _, _, rfl, PySem.W.mg_of X G a29, k29, B29, (ok_m_sealed F29 T D_m_row_of D_m_seal_of)⟩⟩
  have D_m_RowReader___init__ : MakeAt P w K mg base 1 "RowReader" 1 KR.m_RowReader___init__ := ⟨⟨_, _, _, _, rfl, PySem.W.mg_of X G a_RowReader, ⟨mk_RowReader, a8, i8, kc_RowReader⟩, B8, (ok_m_RowReader___init__ F8 T )⟩⟩
  have D_m_RowReader_next_byte : MethAt P w K mg base 2 "RowReader" "next_byte" 1 KR.m_RowReader_next_byte := ⟨⟨_, _, _, _, rfl, PySem.W.mg_of X G a_RowReader, cls_RowReader, ⟨a9, i9, k9⟩, B9, (ok_m_RowReader_next_byte F9 T )⟩⟩
  have D_m_RowReader_read_whole : MethAt P w K mg base 2 "RowReader" "read_whole" 1 KR.m_RowReader_read_whole := ⟨⟨_, _, _, _, rfl, PySem.W.mg_of X G a_RowReader, cls_RowReader, ⟨a10, i10, k10⟩, B10, (ok_m_RowReader_read_whole F10 T )⟩⟩
  have D_m_RowReader_read_string : MethAt P w K mg base 3 "RowReader" "read_string" 1 KR.m_RowReader_read_string := ⟨⟨_, _, _, _, rfl, PySem.W.mg_of X G a_RowReader, cls_RowReader, ⟨a12, i12, k12⟩, B12, (ok_m_RowReader_read_string F12 T D_m_RowReader_next_byte D_m_RowReader_read_whole D_m_is_sign)⟩⟩
  have D_m_RowReader_read_parcel : MethAt P w K mg base 84 "RowReader" "read_parcel" 2 (KR.m_RowReader_read_parcel 40) := ⟨⟨_, _, _, _, rfl, PySem.W.mg_of X G a_RowReader, cls_RowReader, ⟨a14, i14, k14⟩, B14, ((ok_m_RowReader_read_parcel F14 T (PySem.W.mg_of X G a_RowReader) cls_RowReader ⟨a14, i14, k14⟩ F13 B13 ⟨a13, i13, k13⟩ B14 D_m_RowReader_next_byte D_m_RowReader_read_string D_m_RowReader_read_whole 40).mono (by decide))⟩⟩
  have D_m_parcel_of : DefAt P w K mg base 85 "parcel_of" 1 KR.m_parcel_of := ⟨⟨_, _, _, rfl, PySem.W.mg_of X G a15, k15, B15, (ok_m_parcel_of F15 T D_m_RowReader___init__ D_m_RowReader_read_parcel D_m_check_row)⟩⟩
  have D_m_unsealed : DefAt P w K mg base 86 "unsealed" 1 KR.m_unsealed := ⟨⟨_, _, _, rfl, PySem.W.mg_of X G a16, k16, B16, (ok_m_unsealed F16 T D_m_is_row D_m_parcel_of D_m_seal_of)⟩⟩
  exact fn_law (ok_m_law F37 T D_m_law_bytes D_m_law_draw D_m_law_is D_m_law_mark D_m_law_opened D_m_law_parcel D_m_law_pool D_m_law_same D_m_law_sealed D_m_mark D_m_sealed D_m_unsealed) fun ns hl => law_ok ns
end K44
open PySem PySem.W PyProof.Rows in
set_option maxRecDepth 100000 in
set_option maxHeartbeats 0 in
theorem PySem.Challenge.cw_knownquiet_k44_whole_seals_of_rows_holds : PySem.Challenge.rw_knownquiet_k44_whole_seals_of_rows.Holds := by
  w_on; o_law; k_head; (case hw => w_witness2)
  k_fill
  refine Mp.walk_mp (l := PySem.Challenge.rw_knownquiet_k44_whole_seals_of_rows) (k := 87) (x := "_law_script") rfl rfl ⟨rfl, by decide, by decide⟩ (fun w h Y => PySem.W.kIn_of Y) ?F
  case F =>
    intro w mg fa h KX G hmg
    refine' K44.all_mk KX G hmg ?a_RowReader ?pg_RowReader ?hd_RowReader ?po_RowReader ?sa_RowReader ?mk_RowReader ?kc_RowReader ?n_RowReader_at ?n_RowReader_row ?a0 ?l0 ?c0 ?k0 ?a1 ?l1 ?c1 ?k1 ?a2 ?l2 ?c2 ?k2 ?a3 ?l3 ?c3 ?k3 ?a4 ?l4 ?c4 ?k4 ?a5 ?l5 ?c5 ?k5 ?a6 ?l6 ?c6 ?k6 ?a7 ?l7 ?c7 ?k7 ?a8 ?i8 ?l8 ?c8 ?k8 ?a9 ?i9 ?l9 ?c9 ?k9 ?a10 ?i10 ?l10 ?c10 ?k10 ?a11 ?l11 ?c11 ?k11 ?a12 ?i12 ?l12 ?c12 ?k12 ?a13 ?i13 ?l13 ?c13 ?k13 ?a14 ?i14 ?l14 ?c14 ?k14 ?a15 ?l15 ?c15 ?k15 ?a16 ?l16 ?c16 ?k16 ?a17 ?l17 ?c17 ?k17 ?a18 ?l18 ?c18 ?k18 ?a19 ?l19 ?c19 ?k19 ?a20 ?l20 ?c20 ?k20 ?a21 ?l21 ?c21 ?k21 ?a22 ?l22 ?c22 ?k22 ?a23 ?l23 ?c23 ?k23 ?a24 ?l24 ?c24 ?k24 ?a25 ?l25 ?c25 ?k25 ?a26 ?l26 ?c26 ?k26 ?a27 ?l27 ?c27 ?k27 ?a28 ?l28 ?c28 ?k28 ?a29 ?l29 ?c29 ?k29 ?a30 ?l30 ?c30 ?k30 ?a31 ?l31 ?c31 ?k31 ?a32 ?l32 ?c32 ?k32 ?a33 ?l33 ?c33 ?k33 ?a34 ?l34 ?c34 ?k34 ?a35 ?l35 ?c35 ?k35 ?a36 ?l36 ?c36 ?k36 ?a37 ?l37 ?c37 ?k37 ?b_abs ?b_all ?b_bool ?b_int ?b_isinstance ?b_len ?b_list ?b_min ?b_ord ?b_range ?b_repr ?b_str ?b_sum ?b_tuple ?b_zip ?v_BASE ?v_BELOW ?v_BYTES ?v_FIRST_SIGN ?v_LAST_SIGN ?v_MODULUS ?v_MOST_DEEP ?v_MOST_SIGNS ?v_MULTIPLIER ?v_NO ?v_NOTHING ?v_NO_SIGN ?v_NUMBER ?v_SEAL_BYTES ?v_SEVERAL ?v_SIGNS ?v_STRING ?v_YES ?a_NoParcel ?x_NoParcel ?k_NoParcel ?s_NoParcel ?t_NoParcel ?a_NoRow ?x_NoRow ?k_NoRow ?s_NoRow ?t_NoRow ?a_BadRow ?s_BadRow ?t_BadRow ?q_BadRow ?e_BadRow_BadRow ?xL_BadRow ?sa_BadRow ?ga_BadRow ?gg_BadRow ?nb_BadRow ?ai_BadRow ?ti_BadRow ?li_BadRow ?ci_BadRow ?k_BadRow ?hC_BadRow ?sC_BadRow
    (case a_RowReader => k_is)
    (case pg_RowReader => k_is)
    (case hd_RowReader => k_is)
    (case po_RowReader => k_is)
    (case sa_RowReader => k_is)
    (case mk_RowReader => k_is)
    (case kc_RowReader => k_is)
    (case n_RowReader_at => k_is)
    (case n_RowReader_row => k_is)
    (case a0 => k_is)
    (case l0 => k_is)
    (case c0 => k_is)
    (case k0 => k_is)
    (case a1 => k_is)
    (case l1 => k_is)
    (case c1 => k_is)
    (case k1 => k_is)
    (case a2 => k_is)
    (case l2 => k_is)
    (case c2 => k_is)
    (case k2 => k_is)
    (case a3 => k_is)
    (case l3 => k_is)
    (case c3 => k_is)
    (case k3 => k_is)
    (case a4 => k_is)
    (case l4 => k_is)
    (case c4 => k_is)
    (case k4 => k_is)
    (case a5 => k_is)
    (case l5 => k_is)
    (case c5 => k_is)
    (case k5 => k_is)
    (case a6 => k_is)
    (case l6 => k_is)
    (case c6 => k_is)
    (case k6 => k_is)
    (case a7 => k_is)
    (case l7 => k_is)
    (case c7 => k_is)
    (case k7 => k_is)
    (case a8 => k_is)
    (case i8 => k_is)
    (case l8 => k_is)
    (case c8 => k_is)
    (case k8 => k_is)
    (case a9 => k_is)
    (case i9 => k_is)
    (case l9 => k_is)
    (case c9 => k_is)
    (case k9 => k_is)
    (case a10 => k_is)
    (case i10 => k_is)
    (case l10 => k_is)
    (case c10 => k_is)
    (case k10 => k_is)
    (case a11 => k_is)
    (case l11 => k_is)
    (case c11 => k_is)
    (case k11 => k_is)
    (case a12 => k_is)
    (case i12 => k_is)
    (case l12 => k_is)
    (case c12 => k_is)
    (case k12 => k_is)
    (case a13 => k_is)
    (case i13 => k_is)
    (case l13 => k_is)
    (case c13 => k_is)
    (case k13 => k_is)
    (case a14 => k_is)
    (case i14 => k_is)
    (case l14 => k_is)
    (case c14 => k_is)
    (case k14 => k_is)
    (case a15 => k_is)
    (case l15 => k_is)
    (case c15 => k_is)
    (case k15 => k_is)
    (case a16 => k_is)
    (case l16 => k_is)
    (case c16 => k_is)
    (case k16 => k_is)
    (case a17 => k_is)
    (case l17 => k_is)
    (case c17 => k_is)
    (case k17 => k_is)
    (case a18 => k_is)
    (case l18 => k_is)
    (case c18 => k_is)
    (case k18 => k_is)
    (case a19 => k_is)
    (case l19 => k_is)
    (case c19 => k_is)
    (case k19 => k_is)
    (case a20 => k_is)
    (case l20 => k_is)
    (case c20 => k_is)
    (case k20 => k_is)
    (case a21 => k_is)
    (case l21 => k_is)
    (case c21 => k_is)
    (case k21 => k_is)
    (case a22 => k_is)
    (case l22 => k_is)
    (case c22 => k_is)
    (case k22 => k_is)
    (case a23 => k_is)
    (case l23 => k_is)
    (case c23 => k_is)
    (case k23 => k_is)
    (case a24 => k_is)
    (case l24 => k_is)
    (case c24 => k_is)
    (case k24 => k_is)
    (case a25 => k_is)
    (case l25 => k_is)
    (case c25 => k_is)
    (case k25 => k_is)
    (case a26 => k_is)
    (case l26 => k_is)
    (case c26 => k_is)
    (case k26 => k_is)
    (case a27 => k_is)
    (case l27 => k_is)
    (case c27 => k_is)
    (case k27 => k_is)
    (case a28 => k_is)
    (case l28 => k_is)
    (case c28 => k_is)
    (case k28 => k_is)
    (case a29 => k_is)
    (case l29 => k_is)
    (case c29 => k_is)
    (case k29 => k_is)
    (case a30 => k_is)
    (case l30 => k_is)
    (case c30 => k_is)
    (case k30 => k_is)
    (case a31 => k_is)
    (case l31 => k_is)
    (case c31 => k_is)
    (case k31 => k_is)
    (case a32 => k_is)
    (case l32 => k_is)
    (case c32 => k_is)
    (case k32 => k_is)
    (case a33 => k_is)
    (case l33 => k_is)
    (case c33 => k_is)
    (case k33 => k_is)
    (case a34 => k_is)
    (case l34 => k_is)
    (case c34 => k_is)
    (case k34 => k_is)
    (case a35 => k_is)
    (case l35 => k_is)
    (case c35 => k_is)
    (case k35 => k_is)
    (case a36 => k_is)
    (case l36 => k_is)
    (case c36 => k_is)
    (case k36 => k_is)
    (case a37 => k_is)
    (case l37 => k_is)
    (case c37 => k_is)
    (case k37 => k_is)
    (case b_abs => k_is)
    (case b_all => k_is)
    (case b_bool => k_is)
    (case b_int => k_is)
    (case b_isinstance => k_is)
    (case b_len => k_is)
    (case b_list => k_is)
    (case b_min => k_is)
    (case b_ord => k_is)
    (case b_range => k_is)
    (case b_repr => k_is)
    (case b_str => k_is)
    (case b_sum => k_is)
    (case b_tuple => k_is)
    (case b_zip => k_is)
    (case v_BASE => k_is)
    (case v_BELOW => k_is)
    (case v_BYTES => k_is)
    (case v_FIRST_SIGN => k_is)
    (case v_LAST_SIGN => k_is)
    (case v_MODULUS => k_is)
    (case v_MOST_DEEP => k_is)
    (case v_MOST_SIGNS => k_is)
    (case v_MULTIPLIER => k_is)
    (case v_NO => k_is)
    (case v_NOTHING => k_is)
    (case v_NO_SIGN => k_is)
    (case v_NUMBER => k_is)
    (case v_SEAL_BYTES => k_is)
    (case v_SEVERAL => k_is)
    (case v_SIGNS => k_is)
    (case v_STRING => k_is)
    (case v_YES => k_is)
    (case a_NoParcel => k_is)
    (case x_NoParcel => k_exc)
    (case k_NoParcel => k_is)
    (case s_NoParcel => k_is)
    (case t_NoParcel => k_is)
    (case a_NoRow => k_is)
    (case x_NoRow => k_exc)
    (case k_NoRow => k_is)
    (case s_NoRow => k_is)
    (case t_NoRow => k_is)
    (case a_BadRow => k_is)
    (case s_BadRow => k_is)
    (case t_BadRow => k_is)
    (case q_BadRow => k_is)
    (case e_BadRow_BadRow => first | rfl | k_is)
    (case xL_BadRow => k_is)
    (case sa_BadRow => k_is)
    (case ga_BadRow => k_is)
    (case gg_BadRow => k_is)
    (case nb_BadRow => k_is)
    (case ai_BadRow => k_is)
    (case ti_BadRow => k_is)
    (case li_BadRow => k_is)
    (case ci_BadRow => k_is)
    (case k_BadRow => k_is)
    (case hC_BadRow => k_is)
    (case sC_BadRow => first | rfl | k_is)
#print axioms PySem.Challenge.cw_knownquiet_k44_whole_seals_of_rows_holds

