import PyProof.Rows.All
import Wide.All
import OpenK.AllK
import Wide.FinOn
import HandS.ForMost
import HandS.ForExc
import HandS.TryMany
import HandS.Zip
import HandS.TupAny
import HandS.TupMul
import HandS.IsInst
import HandS.More
import HandS.Small
import HandS.Ends
import HandS.List
import HandS.Dict
import HandS.Style
import KE.GoesMore
import HandS.OwnEq
import HandS.SortRule
import HandS.TupSets
import HandS.Conv
import HandS.DictTup
import PySem.Challenge.RW_knownquiet_k04_whole_runs_in_any_order_d
set_option Elab.async false
set_option linter.all false
/-! Mp1: values, stores, and what each construct does, in plain Lean. -/
namespace Mp
open PySem (Str)
abbrev Key := L2.Key
/-- a dict's value at a key -/
def valL {κ α : Type} [DecidableEq κ] : List (κ × α) → κ → Option α
  | [], _ => none
  | p :: r, k => if p.1 = k then some p.2 else valL r k
/-- a value: tuples are pure; a list, dict, instance stands in the store by its number; fl: the script's own list -/
inductive Val where
  | non | bl (b : Bool) | int (i : Int) | str (x : Str) | tup (vs : List Val) | ref (i : Nat) | fl (ns : List Int)
inductive Ob where
  | lst (xs : List Val)
  | dK (kvs : List (Key × Val))
  | dT (kvs : List (List Key × Val))
  | ins (c : Str) (fs : List (Str × Val))
abbrev Store := List Ob
structure Ex where
  cls : Str
  fs : List (Str × Val)
inductive R (α : Type) where
  | ok (a : α) (S : Store)
  | exn (e : Ex) (S : Store)
  | bad
/-- a result's type that names what simp is to leave alone -/
abbrev Dep {γ : Sort u} (_ : γ) (β : Type) : Type := β
def R.bind {α β : Type} (r : R α) (k : α → Store → R β) : Dep k (R β) := match r with
  | .ok a S => k a S
  | .exn e S => .exn e S
  | .bad => .bad
@[simp] theorem R.bind_ok {α β : Type} (a : α) (S : Store) (k : α → Store → R β) : (R.ok a S).bind k = k a S := rfl
@[simp] theorem R.bind_exn {α β : Type} (e : Ex) (S : Store) (k : α → Store → R β) : (R.exn e S : R α).bind k = .exn e S := rfl
@[simp] theorem R.bind_bad {α β : Type} (k : α → Store → R β) : (R.bad : R α).bind k = .bad := rfl
/-- a choice whose branches simp leaves alone -/
def bite {α : Type} (b : Bool) (x y : α) : Dep x (Dep y α) := match b with
  | true => x
  | false => y
@[simp] theorem bite_true {α : Type} (x y : α) : bite true x y = x := rfl
@[simp] theorem bite_false {α : Type} (x y : α) : bite false x y = y := rfl
theorem bite_pos {α : Type} {b : Bool} {x y : α} (h : b = true) : bite b x y = x := by rw [h]; rfl
theorem bite_neg {α : Type} {b : Bool} {x y : α} (h : b = false) : bite b x y = y := by rw [h]; rfl

def noExn {α : Type} (r : R α) : R α := match r with
  | .exn _ _ => .bad
  | r => r
@[simp] theorem noExn_ok {α : Type} (a : α) (S : Store) : noExn (R.ok a S) = .ok a S := rfl
@[simp] theorem noExn_bad {α : Type} : noExn (R.bad : R α) = .bad := rfl
abbrev Loc := List (Option Val)
abbrev ME := Loc → Store → R Val
abbrev MA := Loc → Store → R (List Val)
abbrev MT := Loc → Store → R Bool
abbrev Fn := List Val → Store → R Val
abbrev P1 := Val → Store → R Val
abbrev P2 := Val → Val → Store → R Val

/-! ### expressions -/
def getL (L : Loc) (i : Nat) (S : Store) : R Val := match L[i]? with
  | some (some v) => .ok v S
  | _ => .bad
@[simp] theorem getL_some {L : Loc} {i : Nat} {S : Store} {v : Val} (h : L[i]? = some (some v)) : getL L i S = .ok v S := by unfold getL; rw [h]
@[simp] theorem getL_zero {v : Val} {r : Loc} {S : Store} : getL (some v :: r) 0 S = .ok v S := rfl
@[simp] theorem getL_succ {o : Option Val} {r : Loc} {S : Store} {n : Nat} : getL (o :: r) (n + 1) S = getL r n S := rfl
def mC (v : Val) : ME := fun _ S => .ok v S
def mV (i : Nat) : ME := fun L S => getL L i S
def m1 (p : P1) (a : ME) : ME := fun L S => (a L S).bind fun x S1 => noExn (p x S1)
def m2 (p : P2) (a b : ME) : ME := fun L S => (a L S).bind fun x S1 => (b L S1).bind fun y S2 => noExn (p x y S2)
def aNil : MA := fun _ S => .ok [] S
def aCons (a : ME) (r : MA) : MA := fun L S => (a L S).bind fun x S1 => (r L S1).bind fun xs S2 => .ok (x :: xs) S2
/-- a call of a def; of a built-in -/
def mA (f : Fn) (a : MA) : ME := fun L S => (a L S).bind f
def mB (f : Fn) (a : MA) : ME := fun L S => (a L S).bind fun vs S1 => noExn (f vs S1)
def LIM : Nat := 16777216
def fTup : Fn := fun vs S => bite (decide (vs.length ≤ LIM)) (.ok (.tup vs) S) .bad
def fLst : Fn := fun vs S => bite (decide (vs.length ≤ LIM)) (.ok (.ref S.length) (S ++ [.lst vs])) .bad
def mTup (a : MA) : ME := mB fTup a
def mLst (a : MA) : ME := mB fLst a
def mDK : ME := fun _ S => .ok (.ref S.length) (S ++ [.dK []])
def mDT : ME := fun _ S => .ok (.ref S.length) (S ++ [.dT []])
def isT (v : Val) (S : Store) : R Bool := match v with
  | .bl b => .ok b S
  | _ => .bad
@[simp] theorem isT_bl (b : Bool) (S : Store) : isT (.bl b) S = .ok b S := rfl
/-- a test: a value that is True or False -/
def tV (e : ME) : MT := fun L S => (e L S).bind isT
def tAnd (a b : MT) : MT := fun L S => (a L S).bind fun c S1 => bite c (b L S1) (.ok false S1)
def tOr (a b : MT) : MT := fun L S => (a L S).bind fun c S1 => bite c (.ok true S1) (b L S1)
def tNot (a : MT) : MT := fun L S => (a L S).bind fun c S1 => .ok (!c) S1
def mIf (c : MT) (a b : ME) : ME := fun L S => (c L S).bind fun t S1 => bite t (a L S1) (b L S1)
/-- and, or, not as values; all but the last one True or False -/
def mAnd (a b : ME) : ME := fun L S => (a L S).bind fun x S1 => (isT x S1).bind fun c S2 => bite c (b L S2) (.ok (.bl false) S2)
def mOr (a b : ME) : ME := fun L S => (a L S).bind fun x S1 => (isT x S1).bind fun c S2 => bite c (.ok (.bl true) S2) (b L S2)
def mNot (a : ME) : ME := fun L S => (a L S).bind fun x S1 => (isT x S1).bind fun c S2 => .ok (.bl (!c)) S2
/-- a < b < c -/
def mChain (p q : P2) (a b c : ME) : ME := fun L S => (a L S).bind fun x S1 => (b L S1).bind fun y S2 => (noExn (p x y S2)).bind fun z S3 => (isT z S3).bind fun t S4 =>
  bite t ((c L S4).bind fun u S5 => noExn (q y u S5)) (.ok (.bl false) S4)

/-! ### instances -/
def insAt (v : Val) (S : Store) : Option (Str × List (Str × Val)) := match v with
  | .ref i => match S[i]? with
    | some (.ins c fs) => some (c, fs)
    | _ => none
  | _ => none
/-- o.f, o an instance of the class c -/
def getF (c f : Str) : P1 := fun v S => match insAt v S with
  | some (c', fs) => bite (decide (c' = c)) (match fs.lookup f with
    | some w => .ok w S
    | none => .bad) .bad
  | none => .bad
/-- fs with f set: in place, or behind -/
def setF (f : Str) (v : Val) : List (Str × Val) → List (Str × Val)
  | [] => [(f, v)]
  | p :: r => if p.1 = f then (f, v) :: r else p :: setF f v r
/-- o.m(..), o an instance of the class c -/
def mMeth (c : Str) (m : Str) (f : Fn) (o : ME) (a : MA) : ME := fun L S => (o L S).bind fun x S1 => match insAt x S1 with
  | some (c', fs) => bite (decide (c' = c) && (fs.lookup m).isNone) ((a L S1).bind fun vs S2 => f (x :: vs) S2) .bad
  | none => .bad
def isNon (x : Val) : Bool := match x with
  | .non => true
  | _ => false
/-- C(..): the new instance, then its __init__ -/
def fMake (c : Str) (f : Fn) : Fn := fun vs S => (f (.ref S.length :: vs) (S ++ [.ins c []])).bind fun r S2 => bite (isNon r) (.ok (.ref S.length) S2) .bad

/-! ### statements -/
inductive F where
  | nx (L : Loc) (S : Store)
  | rt (v : Val) (S : Store)
  | bk (L : Loc) (S : Store)
  | ct (L : Loc) (S : Store)
  | exn (e : Ex) (L : Loc) (S : Store)
  | bad
abbrev MS := Loc → Store → F
/-- behind an expression: at the locals L -/
def thenF {α : Type} (L : Loc) (r : R α) (k : α → Store → F) : Dep L (Dep k F) := match r with
  | .ok a S => k a S
  | .exn e S => .exn e L S
  | .bad => .bad
@[simp] theorem thenF_ok {α : Type} (L : Loc) (a : α) (S : Store) (k : α → Store → F) : thenF L (.ok a S) k = k a S := rfl
@[simp] theorem thenF_exn {α : Type} (L : Loc) (e : Ex) (S : Store) (k : α → Store → F) : thenF L (.exn e S) k = .exn e L S := rfl
@[simp] theorem thenF_bad {α : Type} (L : Loc) (k : α → Store → F) : thenF L .bad k = .bad := rfl
def F.andThen (r : F) (k : Loc → Store → F) : Dep k F := match r with
  | .nx L S => k L S
  | r => r
@[simp] theorem F.andThen_nx (L : Loc) (S : Store) (k : Loc → Store → F) : (F.nx L S).andThen k = k L S := rfl
@[simp] theorem F.andThen_rt (v : Val) (S : Store) (k : Loc → Store → F) : (F.rt v S).andThen k = .rt v S := rfl
@[simp] theorem F.andThen_bk (L : Loc) (S : Store) (k : Loc → Store → F) : (F.bk L S).andThen k = .bk L S := rfl
@[simp] theorem F.andThen_ct (L : Loc) (S : Store) (k : Loc → Store → F) : (F.ct L S).andThen k = .ct L S := rfl
@[simp] theorem F.andThen_exn (e : Ex) (L : Loc) (S : Store) (k : Loc → Store → F) : (F.exn e L S).andThen k = .exn e L S := rfl
@[simp] theorem F.andThen_bad (k : Loc → Store → F) : F.bad.andThen k = .bad := rfl
def sNx : MS := fun L S => .nx L S
def sSeq (a b : MS) : MS := fun L S => (a L S).andThen b
def sRet (e : ME) : MS := fun L S => thenF L (e L S) fun v S1 => .rt v S1
def sRetN : MS := fun _ S => .rt .non S
def sExpr (e : ME) : MS := fun L S => thenF L (e L S) fun _ S1 => .nx L S1
def sIf (c : MT) (a b : MS) : MS := fun L S => thenF L (c L S) fun t S1 => bite t (a L S1) (b L S1)
def sBrk : MS := fun L S => .bk L S
def sCnt : MS := fun L S => .ct L S
def sBad : MS := fun _ _ => .bad
/-- targets -/
abbrev MG := Val → Loc → Store → R Loc
def gN (i : Nat) : MG := fun v L S => .ok (L.set i (some v)) S
abbrev MGs := List Val → Loc → Store → R Loc
def gsNil : MGs := fun vs L S => match vs with
  | [] => .ok L S
  | _ => .bad
def gsCons (g : MG) (r : MGs) : MGs := fun vs L S => match vs with
  | v :: vs => (g v L S).bind fun L1 S1 => r vs L1 S1
  | [] => .bad
def gTup (g : MGs) : MG := fun v L S => match v with
  | .tup vs => g vs L S
  | _ => .bad
def gSub (o i : ME) (p : Val → Val → Val → Store → R Unit) : MG := fun v L S => (o L S).bind fun x S1 => (i L S1).bind fun y S2 => (noExn (p x y v S2)).bind fun _ S3 => .ok L S3
def sAsg (e : ME) (g : MG) : MS := fun L S => thenF L (e L S) fun v S1 => thenF L (noExn (g v L S1)) fun L1 S2 => .nx L1 S2
/-- x op= e, x the local i -/
def sAug (i : Nat) (e : ME) (p : P2) : MS := fun L S => thenF L (getL L i S) fun x S0 => thenF L (e L S0) fun y S1 => thenF L (noExn (p x y S1)) fun z S2 => .nx (L.set i (some z)) S2
/-- o.f = e -/
def putFld (c f : Str) (v : Val) (x : Val) (S : Store) : R Unit := match x with
  | .ref i => match S[i]? with
    | some (.ins c' fs) => bite (decide (c' = c) && decide (fs.length < 1000)) (.ok () (S.set i (.ins c (setF f v fs)))) .bad
    | _ => .bad
  | _ => .bad
def sFld (c f : Str) (o e : ME) : MS := fun L S => thenF L (e L S) fun v S1 => thenF L (o L S1) fun x S2 => thenF L (noExn (putFld c f v x S2)) fun _ S3 => .nx L S3
/-- o.f op= e -/
def sFldAug (c f : Str) (o e : ME) (p : P2) : MS := fun L S => thenF L (o L S) fun x S1 => thenF L (noExn (getF c f x S1)) fun y S2 => thenF L (e L S2) fun z S3 => thenF L (noExn (p y z S3)) fun u S4 =>
  thenF L (noExn (putFld c f u x S4)) fun _ S5 => .nx L S5
/-- o[i] op= e -/
def sSubAug (o i e : ME) (g : P2) (p : P2) (q : Val → Val → Val → Store → R Unit) : MS := fun L S => thenF L (o L S) fun x S1 => thenF L (i L S1) fun y S2 => thenF L (noExn (g x y S2)) fun z S3 => thenF L (e L S3) fun u S4 =>
  thenF L (noExn (p z u S4)) fun t S5 => thenF L (noExn (q x y t S5)) fun _ S6 => .nx L S6

/-! ### loops -/
/-- what a loop walks: the items, and what must stay meanwhile -/
structure It where
  items : List Val
  keep : Store → Prop
/-- a gate: what does not hold leads nowhere -/
noncomputable def gate (p : Prop) {α : Type} (x y : α) : Dep x (Dep y α) := open Classical in if p then x else y
theorem gate_pos {p : Prop} {α : Type} {x y : α} (h : p) : gate p x y = x := by unfold gate; rw [if_pos h]
theorem gate_neg {p : Prop} {α : Type} {x y : α} (h : ¬ p) : gate p x y = y := by unfold gate; rw [if_neg h]
@[simp] theorem gate_true {α : Type} {x y : α} : gate True x y = x := gate_pos trivial
abbrev MI := Loc → Store → R It
/-- a turn's end: on, or out -/
def turn (r : F) (on : Loc → Store → F) : Dep on F := match r with
  | .nx L S => on L S
  | .ct L S => on L S
  | .bk L S => .nx L S
  | r => r
@[simp] theorem turn_nx (L : Loc) (S : Store) (k : Loc → Store → F) : turn (.nx L S) k = k L S := rfl
@[simp] theorem turn_ct (L : Loc) (S : Store) (k : Loc → Store → F) : turn (.ct L S) k = k L S := rfl
@[simp] theorem turn_bk (L : Loc) (S : Store) (k : Loc → Store → F) : turn (.bk L S) k = .nx L S := rfl
@[simp] theorem turn_rt (v : Val) (S : Store) (k : Loc → Store → F) : turn (.rt v S) k = .rt v S := rfl
@[simp] theorem turn_exn (e : Ex) (L : Loc) (S : Store) (k : Loc → Store → F) : turn (.exn e L S) k = .exn e L S := rfl
@[simp] theorem turn_bad (k : Loc → Store → F) : turn .bad k = .bad := rfl
noncomputable def forLoop (keep : Store → Prop) (g : MG) (b : MS) : List Val → MS
  | [], L, S => gate (keep S) (.nx L S) .bad
  | x :: xs, L, S => gate (keep S) (turn (thenF L (noExn (g x L S)) fun L1 S1 => b L1 S1) (forLoop keep g b xs)) .bad
noncomputable def sFor (i : MI) (g : MG) (b : MS) : MS := fun L S => thenF L (i L S) fun J S1 => forLoop J.keep g b J.items L S1
/-- what is walked: a list as it stands, a tuple, the script, a text -/
def itOf (v : Val) (S : Store) : R It := match v with
  | .ref i => match S[i]? with
    | some (.lst xs) => .ok ⟨xs, fun S' => S'[i]? = some (.lst xs)⟩ S
    | _ => .bad
  | .tup vs => .ok ⟨vs, fun _ => True⟩ S
  | .fl ns => .ok ⟨ns.map Val.int, fun _ => True⟩ S
  | .str x => .ok ⟨x.cps.toList.map fun c => .str ⟨#[c]⟩, fun _ => True⟩ S
  | _ => .bad
def iV (e : ME) : MI := fun L S => (e L S).bind itOf
def rangeL (lo : Int) (n : Nat) : List Val := (List.range n).map fun i => .int (lo + (i : Nat))
def BIG : Int := 4611686018427387904
noncomputable def rngOf1 (vs : List Val) (S : Store) : R It := match vs with
  | [.int j] => gate (-BIG ≤ j ∧ j < BIG) (.ok ⟨rangeL 0 j.toNat, fun _ => True⟩ S) .bad
  | _ => .bad
noncomputable def rngOf2 (vs : List Val) (S : Store) : R It := match vs with
  | [.int i, .int j] => gate (-BIG ≤ i ∧ i < BIG ∧ -BIG ≤ j ∧ j < BIG) (.ok ⟨rangeL i (j - i).toNat, fun _ => True⟩ S) .bad
  | _ => .bad
noncomputable def iRng1 (a : MA) : MI := fun L S => (a L S).bind rngOf1
noncomputable def iRng2 (a : MA) : MI := fun L S => (a L S).bind rngOf2
/-- a list or a tuple: its items, and what must stay -/
def seqOf (v : Val) (S : Store) : Option (Bool × List Val × (Store → Prop)) := match v with
  | .ref i => match S[i]? with
    | some (.lst xs) => some (true, xs, fun S' => S'[i]? = some (.lst xs))
    | _ => none
  | .tup vs => some (false, vs, fun _ => True)
  | .fl ns => some (true, ns.map Val.int, fun _ => True)
  | _ => none
def enumL (xs : List Val) : List Val := (List.range xs.length).zipWith (fun i x => .tup [.int (i : Nat), x]) xs
def enumOf (vs : List Val) (S : Store) : R It := match vs with
  | [v] => match seqOf v S with
    | some (_, xs, k) => .ok ⟨enumL xs, k⟩ S
    | none => .bad
  | _ => .bad
def iEnum (a : MA) : MI := fun L S => (a L S).bind enumOf
def zipOf (vs : List Val) (S : Store) : R It := match vs with
  | [v, w] => match seqOf v S, seqOf w S with
    | some (b, xs, k), some (c, ys, l) => bite (b == c) (.ok ⟨List.zipWith (fun x y => .tup [x, y]) xs ys, fun S' => k S' ∧ l S'⟩ S) .bad
    | _, _ => .bad
  | _ => .bad
def iZip (a : MA) : MI := fun L S => (a L S).bind zipOf
def whileLoop (c : MT) (b : MS) : Nat → MS
  | 0, _, _ => .bad
  | n + 1, L, S => thenF L (c L S) fun t S1 => bite t (turn (b L S1) (whileLoop c b n)) (.nx L S1)
def MANY : Nat := 1000000000000
def sWhile (c : MT) (b : MS) : MS := fun L S => whileLoop c b MANY L S
/-- a comprehension: the items one by one, in a frame of its own (the names vs are its own) -/
def wipeL (L : Loc) : List Nat → Loc
  | [] => L
  | i :: r => (wipeL L r).set i none
noncomputable def lcLoop (keep : Store → Prop) (L : Loc) (g : MG) (c : MT) (e : ME) : List Val → List Val → Store → R (List Val)
  | [], acc, S => gate (keep S) (.ok acc S) .bad
  | x :: xs, acc, S => gate (keep S) ((noExn (g x L S)).bind fun L1 S1 => (noExn (c L1 S1)).bind fun t S2 =>
      bite t ((noExn (e L1 S2)).bind fun v S3 => bite (decide (acc.length < LIM)) (lcLoop keep L g c e xs (acc ++ [v]) S3) .bad) (lcLoop keep L g c e xs acc S2)) .bad
noncomputable def mLc (i : MI) (vs : List Nat) (g : MG) (c : MT) (e : ME) : ME := fun L S => (i L S).bind fun J S1 => (lcLoop J.keep (wipeL L vs) g c e J.items [] S1).bind fun ws S2 => .ok (.ref S2.length) (S2 ++ [.lst ws])
def tYes : MT := fun _ S => .ok true S

/-! ### defs, errors -/
def startL (n : Nat) (vs : List Val) : Loc := vs.map some ++ List.replicate (n - vs.length) none
def endF (r : F) : R Val := match r with
  | .nx _ S => .ok .non S
  | .rt v S => .ok v S
  | .exn e _ S => .exn e S
  | _ => .bad
@[simp] theorem endF_nx (L : Loc) (S : Store) : endF (.nx L S) = .ok .non S := rfl
@[simp] theorem endF_rt (v : Val) (S : Store) : endF (.rt v S) = .ok v S := rfl
@[simp] theorem endF_exn (e : Ex) (L : Loc) (S : Store) : endF (.exn e L S) = .exn e S := rfl
@[simp] theorem endF_bad : endF .bad = .bad := rfl
/-- a def of n names, np of them parameters -/
def fDef (n np : Nat) (b : MS) : Fn := fun vs S => bite (decide (vs.length = np)) (endF (b (startL n vs) S)) .bad
def sRaise (c : Str) (fs : List Str) (a : MA) : MS := fun L S => thenF L (a L S) fun vs S1 => .exn ⟨c, fs.zip vs⟩ L S1
/-- an except clause: the errors' classes that may come here, whether it names them; the suite -/
structure Hd where
  names : List (Str × Bool)
  suite : Ex → MS
def noExnF (r : F) : F := match r with
  | .exn _ _ _ => .bad
  | r => r
@[simp] theorem noExnF_nx (L : Loc) (S : Store) : noExnF (.nx L S) = .nx L S := rfl
@[simp] theorem noExnF_rt (v : Val) (S : Store) : noExnF (.rt v S) = .rt v S := rfl
@[simp] theorem noExnF_bad : noExnF .bad = .bad := rfl
def handle (D : List Hd) (e : Ex) (L : Loc) (S : Store) : F := match D with
  | [] => .exn e L S
  | h :: r => match h.names.lookup e.cls with
    | some b => bite b (noExnF (h.suite e L S)) (handle r e L S)
    | none => .bad
def sTry (b : MS) (D : List Hd) : MS := fun L S => match b L S with
  | .exn e L1 S1 => handle D e L1 S1
  | r => r
end Mp

/-! Mp1c: the tuples that may be the module's own (never a dict's key). -/
namespace Mp
def ownC : List Val → Bool
  | [] => true
  | [.str _, .str _, .str _] => true
  | _ => false
@[simp] theorem ownC_pair (i j : Int) : ownC [.int i, .int j] = false := by unfold ownC; rfl
@[simp] theorem ownC_three (i j k : Int) : ownC [.int i, .int j, .int k] = false := by unfold ownC; rfl
end Mp

set_option maxRecDepth 100000
set_option maxHeartbeats 2000000
/-! Mp2: how values and stores lie in the layer's heap; the judgements. -/
namespace Mp
open PySem PySem.Spec L2
abbrev Rho := Nat → Addr
/-- a list that stands still: frozen, or of the written part -/
def FzL (K : PySem.W.Frag) (H : Hp) (a : Addr) (xs : List V) : Prop := (∃ o, H a = some (.frz o (.lst xs))) ∨
  ∃ (o : Obj) (its : Array Value) (n : Nat), K.lookup a = some o ∧ o.cls = .type "list" ∧ o.dict = none ∧ o.data = .seq its n ∧ its.size ≤ sizeLine ∧ Vals xs its.toList
/-- a tuple: tracked, or the module's own -/
def TupA (K : PySem.W.Frag) (H : Hp) (a : Addr) (vs : List Val) (xs : List V) : Prop := H a = some (.tup xs) ∨ (ownC vs = true ∧ SqT K H a xs)
theorem TupA.sq {K : PySem.W.Frag} {H : Hp} {a : Addr} {vs : List Val} {xs : List V} (h : TupA K H a vs xs) : SqT K H a xs := h.elim (fun h => .inl (.inl h)) (·.2)
mutual
def VR (K : PySem.W.Frag) (ρ : Rho) (n : Nat) (H : Hp) : Val → V → Prop
  | .non, u => u = .non
  | .bl b, u => u = .bl b
  | .int i, u => u = .int i
  | .str x, u => u = .str x
  | .tup vs, u => ∃ a xs, u = .ref a ∧ TupA K H a vs xs ∧ VRs K ρ n H vs xs
  | .ref i, u => i < n ∧ u = .ref (ρ i)
  | .fl ns, u => ∃ a, u = .ref a ∧ FzL K H a (ns.map V.int)
def VRs (K : PySem.W.Frag) (ρ : Rho) (n : Nat) (H : Hp) : List Val → List V → Prop
  | [], us => us = []
  | v :: vs, us => ∃ u r, us = u :: r ∧ VR K ρ n H v u ∧ VRs K ρ n H vs r
end
/-- pairs with equal firsts -/
def KR {κ : Type} (K : PySem.W.Frag) (ρ : Rho) (n : Nat) (H : Hp) (l : List (κ × Val)) (m : List (κ × V)) : Prop := l.map (·.1) = m.map (·.1) ∧ VRs K ρ n H (l.map (·.2)) (m.map (·.2))
def OR (K : PySem.W.Frag) (mg : Str → Option Value) (ρ : Rho) (n : Nat) (H : Hp) (a : Addr) : Ob → Prop
  | .lst xs => ∃ us, H a = some (.lst us) ∧ VRs K ρ n H xs us
  | .dK kvs => ∃ us, H a = some (.dK us) ∧ KR K ρ n H kvs us
  | .dT kvs => ∃ us, H a = some (.dT us) ∧ KR K ρ n H kvs us
  | .ins c fs => ∃ C dx us, mg c = some (.ref C) ∧ H a = some (.ins C dx us) ∧ KR K ρ n H fs us
structure SR (K : PySem.W.Frag) (mg : Str → Option Value) (ρ : Rho) (S : Store) (H : Hp) : Prop where
  ob : ∀ i o, S[i]? = some o → OR K mg ρ S.length H (ρ i) o
  inj : ∀ i j, i < S.length → j < S.length → ρ i = ρ j → i = j
structure Ext (ρ : Rho) (S : Store) (H : Hp) (ρ' : Rho) (S' : Store) (H' : Hp) : Prop where
  rho : ∀ i, i < S.length → ρ' i = ρ i
  le : S.length ≤ S'.length
  fresh : ∀ i, S.length ≤ i → i < S'.length → H (ρ' i) = none
  frame : ∀ a o, H a = some o → (∀ i, i < S.length → ρ i ≠ a) → H' a = some o
def LR (K : PySem.W.Frag) (ρ : Rho) (n : Nat) (H : Hp) (L : Loc) (σ : St) : Prop := L.length = σ.length ∧ ∀ (i : Nat) (v : Val), L[i]? = some (some v) → ∃ u, σ[i]? = some (some u) ∧ VR K ρ n H v u
def XR (K : PySem.W.Frag) (mg : Str → Option Value) (ρ : Rho) (n : Nat) (H : Hp) (e : Ex) (cls : Value) (d : Option Addr) : Prop :=
  (∃ C, mg e.cls = some (.ref C) ∧ cls = .ref C) ∧ (e.fs ≠ [] → ∃ dd us, d = some dd ∧ H dd = some (.xd us) ∧ KR K ρ n H e.fs us)

section
variable {K : PySem.W.Frag} {mg : Str → Option Value} {ρ ρ' ρ1 ρ2 : Rho} {S S' S1 S2 : Store} {H H' H1 H2 : Hp} {n : Nat}
/-- the kinds of objects of a store -/
def obKind : HO → Bool
  | .lst _ => true | .dK _ => true | .dT _ => true | .ins _ _ _ => true | _ => false
theorem OR.kind {a : Addr} {o : Ob} (h : OR K mg ρ n H a o) : ∃ u, H a = some u ∧ obKind u = true := by
  cases o with
  | lst xs => obtain ⟨us, e, _⟩ := h; exact ⟨_, e, rfl⟩
  | dK xs => obtain ⟨us, e, _⟩ := h; exact ⟨_, e, rfl⟩
  | dT xs => obtain ⟨us, e, _⟩ := h; exact ⟨_, e, rfl⟩
  | ins c fs => obtain ⟨C, dx, us, _, e, _⟩ := h; exact ⟨_, e, rfl⟩
theorem SR.kind (s : SR K mg ρ S H) {i : Nat} (hi : i < S.length) : ∃ u, H (ρ i) = some u ∧ obKind u = true := (s.ob i S[i] (by simp [hi])).kind
theorem SR.ne (s : SR K mg ρ S H) {a : Addr} {u : HO} (e : H a = some u) (k : obKind u = false) : ∀ i, i < S.length → ρ i ≠ a := fun i hi z => by
  obtain ⟨v, q, kv⟩ := s.kind hi
  rw [z, e] at q
  cases q
  rw [k] at kv; cases kv
theorem SR.ne_none (s : SR K mg ρ S H) {a : Addr} (e : H a = none) : ∀ i, i < S.length → ρ i ≠ a := fun i hi z => by
  obtain ⟨v, q, kv⟩ := s.kind hi
  rw [z, e] at q
  cases q
theorem Ext.refl (ρ : Rho) (S : Store) (H : Hp) : Ext ρ S H ρ S H := ⟨fun _ _ => rfl, Nat.le_refl _, fun i h1 h2 => absurd h2 (Nat.not_lt.mpr h1), fun _ _ h _ => h⟩
theorem Ext.trans (s1 : SR K mg ρ1 S1 H1) (a : Ext ρ S H ρ1 S1 H1) (b : Ext ρ1 S1 H1 ρ2 S2 H2) : Ext ρ S H ρ2 S2 H2 where
  rho := fun i hi => (b.rho i (Nat.lt_of_lt_of_le hi a.le)).trans (a.rho i hi)
  le := Nat.le_trans a.le b.le
  fresh := fun i h1 h2 => by
    by_cases hi : i < S1.length
    · rw [b.rho i hi]; exact a.fresh i h1 hi
    · have z := b.fresh i (Nat.le_of_not_lt hi) h2
      cases q : H (ρ2 i) with
      | none => rfl
      | some o =>
        by_cases hw : ∀ j, j < S.length → ρ j ≠ ρ2 i
        · rw [a.frame _ _ q hw] at z; cases z
        · exfalso
          apply hw
          intro j hj e
          have hj1 := Nat.lt_of_lt_of_le hj a.le
          obtain ⟨u, qu, _⟩ := s1.kind hj1
          rw [a.rho j hj, e, z] at qu
          cases qu
  frame := fun c o h hn => b.frame c o (a.frame c o h hn) fun i hi z => by
    by_cases h0 : i < S.length
    · exact hn i h0 ((a.rho i h0).symm.trans z)
    · have := a.fresh i (Nat.le_of_not_lt h0) hi
      rw [z, h] at this; cases this
/-- a tuple is kept -/
theorem Ext.tup (s : SR K mg ρ S H) (e : Ext ρ S H ρ' S' H') {a : Addr} {xs : List V} (h : SqT K H a xs) : SqT K H' a xs := by
  rcases h with (h | ⟨o, h⟩) | h
  · exact .inl (.inl (e.frame _ _ h (s.ne h rfl)))
  · exact .inl (.inr ⟨o, e.frame _ _ h (s.ne h rfl)⟩)
  · exact .inr h
theorem Ext.tupA (s : SR K mg ρ S H) (e : Ext ρ S H ρ' S' H') {a : Addr} {vs : List Val} {xs : List V} (h : TupA K H a vs xs) : TupA K H' a vs xs := by
  rcases h with h | ⟨c, h⟩
  · exact .inl (e.frame _ _ h (s.ne h rfl))
  · exact .inr ⟨c, e.tup s h⟩
theorem Ext.fz (s : SR K mg ρ S H) (e : Ext ρ S H ρ' S' H') {a : Addr} {xs : List V} (h : FzL K H a xs) : FzL K H' a xs := by
  rcases h with ⟨o, h⟩ | h
  · exact .inl ⟨o, e.frame _ _ h (s.ne h rfl)⟩
  · exact .inr h
theorem FzL.seq {a : Addr} {xs : List V} (h : FzL K H a xs) : SqL K H a xs := by
  rcases h with ⟨o, h⟩ | h
  · exact .inl (.inr ⟨o, h⟩)
  · exact .inr h
mutual
theorem VR.ext (s : SR K mg ρ S H) (e : Ext ρ S H ρ' S' H') : ∀ (v : Val) (u : V), VR K ρ S.length H v u → VR K ρ' S'.length H' v u
  | .non, u, h => by simpa [VR] using h
  | .bl b, u, h => by simpa [VR] using h
  | .int b, u, h => by simpa [VR] using h
  | .str b, u, h => by simpa [VR] using h
  | .tup vs, u, h => by
    simp only [VR] at h ⊢
    obtain ⟨a, xs, e1, q, r⟩ := h
    exact ⟨a, xs, e1, e.tupA s q, VRs.ext s e vs xs r⟩
  | .ref i, u, h => by
    simp only [VR] at h ⊢
    exact ⟨Nat.lt_of_lt_of_le h.1 e.le, by rw [e.rho i h.1]; exact h.2⟩
  | .fl ns, u, h => by
    simp only [VR] at h ⊢
    obtain ⟨a, e1, q⟩ := h
    exact ⟨a, e1, e.fz s q⟩
theorem VRs.ext (s : SR K mg ρ S H) (e : Ext ρ S H ρ' S' H') : ∀ (vs : List Val) (us : List V), VRs K ρ S.length H vs us → VRs K ρ' S'.length H' vs us
  | [], us, h => by simpa [VRs] using h
  | v :: vs, us, h => by
    simp only [VRs] at h ⊢
    obtain ⟨u, r, e1, h1, h2⟩ := h
    exact ⟨u, r, e1, VR.ext s e v u h1, VRs.ext s e vs r h2⟩
end
theorem KR.ext {κ : Type} (s : SR K mg ρ S H) (e : Ext ρ S H ρ' S' H') {l : List (κ × Val)} {m : List (κ × V)} (h : KR K ρ S.length H l m) : KR K ρ' S'.length H' l m := ⟨h.1, VRs.ext s e _ _ h.2⟩
theorem LR.ext (s : SR K mg ρ S H) (e : Ext ρ S H ρ' S' H') {L : Loc} {σ : St} (h : LR K ρ S.length H L σ) : LR K ρ' S'.length H' L σ :=
  ⟨h.1, fun i v q => by obtain ⟨u, q1, q2⟩ := h.2 i v q; exact ⟨u, q1, VR.ext s e v u q2⟩⟩
theorem VRs.length : ∀ {vs : List Val} {us : List V}, VRs K ρ n H vs us → vs.length = us.length
  | [], us, h => by simp only [VRs] at h; rw [h]; rfl
  | v :: vs, us, h => by
    simp only [VRs] at h
    obtain ⟨u, r, rfl, _, h2⟩ := h
    simp [VRs.length h2]
theorem VRs.get : ∀ {vs : List Val} {us : List V} {i : Nat} {v : Val}, VRs K ρ n H vs us → vs[i]? = some v → ∃ u, us[i]? = some u ∧ VR K ρ n H v u
  | [], us, i, v, h, e => by simp at e
  | w :: vs, us, i, v, h, e => by
    simp only [VRs] at h
    obtain ⟨u, r, rfl, h1, h2⟩ := h
    cases i with
    | zero => simp at e; subst e; exact ⟨u, by simp, h1⟩
    | succ j => 
      obtain ⟨u', q1, q2⟩ := VRs.get h2 (by simpa using e)
      exact ⟨u', by simpa using q1, q2⟩
theorem VRs.append : ∀ {vs ws : List Val} {us xs : List V}, VRs K ρ n H vs us → VRs K ρ n H ws xs → VRs K ρ n H (vs ++ ws) (us ++ xs)
  | [], ws, us, xs, h, h' => by simp only [VRs] at h; subst h; simpa using h'
  | v :: vs, ws, us, xs, h, h' => by
    simp only [VRs] at h
    obtain ⟨u, r, rfl, h1, h2⟩ := h
    show VRs K ρ n H (v :: (vs ++ ws)) (u :: (r ++ xs))
    simp only [VRs]
    exact ⟨u, _, rfl, h1, VRs.append h2 h'⟩
theorem VRs.set : ∀ {vs : List Val} {us : List V} {v : Val} {u : V} (i : Nat), VR K ρ n H v u → VRs K ρ n H vs us → VRs K ρ n H (vs.set i v) (us.set i u)
  | [], us, v, u, i, hv, h => by simp only [VRs] at h; subst h; simp [VRs]
  | w :: vs, us, v, u, i, hv, h => by
    simp only [VRs] at h
    obtain ⟨u0, r, rfl, h1, h2⟩ := h
    cases i with
    | zero => simp only [List.set_cons_zero, VRs]; exact ⟨_, _, rfl, hv, h2⟩
    | succ j => simp only [List.set_cons_succ, VRs]; exact ⟨_, _, rfl, h1, VRs.set j hv h2⟩
theorem VRs.take : ∀ {vs : List Val} {us : List V} (k : Nat), VRs K ρ n H vs us → VRs K ρ n H (vs.take k) (us.take k)
  | _, _, 0, h => by simp [VRs]
  | [], us, k + 1, h => by simp only [VRs] at h; subst h; simp [VRs]
  | v :: vs, us, k + 1, h => by
    simp only [VRs] at h
    obtain ⟨u, r, rfl, h1, h2⟩ := h
    simp only [List.take_succ_cons, VRs]
    exact ⟨_, _, rfl, h1, VRs.take k h2⟩
theorem VRs.drop : ∀ {vs : List Val} {us : List V} (k : Nat), VRs K ρ n H vs us → VRs K ρ n H (vs.drop k) (us.drop k)
  | _, _, 0, h => by simpa using h
  | [], us, k + 1, h => by simp only [VRs] at h; subst h; simp [VRs]
  | v :: vs, us, k + 1, h => by
    simp only [VRs] at h
    obtain ⟨u, r, rfl, h1, h2⟩ := h
    simpa using VRs.drop k h2
theorem VRs.eraseIdx : ∀ {vs : List Val} {us : List V} (k : Nat), VRs K ρ n H vs us → VRs K ρ n H (vs.eraseIdx k) (us.eraseIdx k)
  | [], us, k, h => by simp only [VRs] at h; subst h; simp [VRs]
  | v :: vs, us, 0, h => by
    simp only [VRs] at h
    obtain ⟨u, r, rfl, h1, h2⟩ := h
    simpa using h2
  | v :: vs, us, k + 1, h => by
    simp only [VRs] at h
    obtain ⟨u, r, rfl, h1, h2⟩ := h
    simp only [List.eraseIdx_cons_succ, VRs]
    exact ⟨_, _, rfl, h1, VRs.eraseIdx k h2⟩
theorem VRs.rep {vs : List Val} {us : List V} (h : VRs K ρ n H vs us) : ∀ k : Nat, VRs K ρ n H (List.replicate k vs).flatten (List.replicate k us).flatten
  | 0 => by simp [VRs]
  | k + 1 => by
    rw [List.replicate_succ, List.replicate_succ, List.flatten_cons, List.flatten_cons]
    exact h.append (VRs.rep h k)
theorem VRs.ints : ∀ {ns : List Int} {us : List V}, VRs K ρ n H (ns.map Val.int) us → us = ns.map V.int
  | [], us, h => by simpa [VRs] using h
  | i :: ns, us, h => by
    simp only [List.map_cons, VRs, VR] at h
    obtain ⟨u, r, rfl, rfl, h2⟩ := h
    rw [VRs.ints h2]; rfl
theorem VRs.of_ints : ∀ (ns : List Int), VRs K ρ n H (ns.map Val.int) (ns.map V.int)
  | [] => by simp [VRs]
  | i :: ns => by simp only [List.map_cons, VRs, VR]; exact ⟨_, _, rfl, rfl, VRs.of_ints ns⟩
theorem VRs.bls : ∀ {ns : List Bool} {us : List V}, VRs K ρ n H (ns.map Val.bl) us → us = ns.map V.bl
  | [], us, h => by simpa [VRs] using h
  | i :: ns, us, h => by
    simp only [List.map_cons, VRs, VR] at h
    obtain ⟨u, r, rfl, rfl, h2⟩ := h
    rw [VRs.bls h2]; rfl
theorem VRs.nil : VRs K ρ n H [] [] := by simp [VRs]
theorem VRs.cons {v : Val} {u : V} {vs : List Val} {us : List V} (h : VR K ρ n H v u) (hs : VRs K ρ n H vs us) : VRs K ρ n H (v :: vs) (u :: us) := by simp only [VRs]; exact ⟨_, _, rfl, h, hs⟩
theorem VRs.nil_of {us : List V} (h : VRs K ρ n H [] us) : us = [] := by simpa [VRs] using h
theorem VRs.cons_of {v : Val} {vs : List Val} {us : List V} (h : VRs K ρ n H (v :: vs) us) : ∃ u r, us = u :: r ∧ VR K ρ n H v u ∧ VRs K ρ n H vs r := by simpa only [VRs] using h
theorem VRs.one {v : Val} {us : List V} (h : VRs K ρ n H [v] us) : ∃ u, us = [u] ∧ VR K ρ n H v u := by
  obtain ⟨u, r, rfl, h1, h2⟩ := h.cons_of
  rw [h2.nil_of]; exact ⟨u, rfl, h1⟩
theorem VRs.two {v w : Val} {us : List V} (h : VRs K ρ n H [v, w] us) : ∃ u x, us = [u, x] ∧ VR K ρ n H v u ∧ VR K ρ n H w x := by
  obtain ⟨u, r, rfl, h1, h2⟩ := h.cons_of
  obtain ⟨x, rfl, h3⟩ := h2.one
  exact ⟨u, x, rfl, h1, h3⟩

/-- a new tuple, or another thing that no store holds -/
theorem Ext.side {p : Addr} {o : HO} (hp : H p = none) : Ext ρ S H ρ S (upd H p o) :=
  ⟨fun _ _ => rfl, Nat.le_refl _, fun i h1 h2 => absurd h2 (Nat.not_lt.mpr h1), fun a u h _ => by rw [upd_ne (ne_of_none h hp)]; exact h⟩
theorem SR.of_same (s : SR K mg ρ S H) (e : Ext ρ S H ρ S H') (h : ∀ i, i < S.length → H' (ρ i) = H (ρ i)) : SR K mg ρ S H' where
  ob := fun i o q => by
    have hi : i < S.length := (List.getElem?_eq_some_iff.mp q).1
    have z := s.ob i o q
    cases o with
    | lst xs => obtain ⟨us, a, b⟩ := z; exact ⟨us, by rw [h i hi]; exact a, VRs.ext s e _ _ b⟩
    | dK xs => obtain ⟨us, a, b⟩ := z; exact ⟨us, by rw [h i hi]; exact a, KR.ext s e b⟩
    | dT xs => obtain ⟨us, a, b⟩ := z; exact ⟨us, by rw [h i hi]; exact a, KR.ext s e b⟩
    | ins c fs => obtain ⟨C, dx, us, m, a, b⟩ := z; exact ⟨C, dx, us, m, by rw [h i hi]; exact a, KR.ext s e b⟩
  inj := s.inj
theorem SR.side (s : SR K mg ρ S H) {p : Addr} {o : HO} (hp : H p = none) : SR K mg ρ S (upd H p o) :=
  s.of_same (Ext.side hp) fun i hi => upd_ne (s.ne_none hp i hi)
/-- a new object of the store -/
def newRho (ρ : Rho) (n : Nat) (p : Addr) : Rho := fun i => if i = n then p else ρ i
theorem newRho_same {p : Addr} : newRho ρ n p n = p := by unfold newRho; rw [if_pos rfl]
theorem newRho_ne {p : Addr} {i : Nat} (h : i ≠ n) : newRho ρ n p i = ρ i := by unfold newRho; rw [if_neg h]
theorem Ext.new {p : Addr} {o : HO} {b : Ob} (hp : H p = none) : Ext ρ S H (newRho ρ S.length p) (S ++ [b]) (upd H p o) where
  rho := fun i hi => newRho_ne (Nat.ne_of_lt hi)
  le := by simp
  fresh := fun i h1 h2 => by
    have : i = S.length := by simp at h2; omega
    subst this
    rw [newRho_same]; exact hp
  frame := fun a u h _ => by rw [upd_ne (ne_of_none h hp)]; exact h
/-- the store one longer, the heap larger elsewhere too (H2 ⊇ H) -/
theorem SR.grow {p : Addr} {b : Ob} (s : SR K mg ρ S H) (hp : ∀ i, i < S.length → ρ i ≠ p) (e : Ext ρ S H (newRho ρ S.length p) (S ++ [b]) H') (h : ∀ i, i < S.length → H' (ρ i) = H (ρ i))
    (new : OR K mg (newRho ρ S.length p) (S ++ [b]).length H' p b) : SR K mg (newRho ρ S.length p) (S ++ [b]) H' where
  ob := fun i o q => by
    by_cases hi : i < S.length
    · rw [List.getElem?_append_left hi] at q
      have z := s.ob i o q
      rw [newRho_ne (Nat.ne_of_lt hi)]
      cases o with
      | lst xs => obtain ⟨us, a, c⟩ := z; exact ⟨us, by rw [h i hi]; exact a, VRs.ext s e _ _ c⟩
      | dK xs => obtain ⟨us, a, c⟩ := z; exact ⟨us, by rw [h i hi]; exact a, KR.ext s e c⟩
      | dT xs => obtain ⟨us, a, c⟩ := z; exact ⟨us, by rw [h i hi]; exact a, KR.ext s e c⟩
      | ins c0 fs => obtain ⟨C, dx, us, m, a, c⟩ := z; exact ⟨C, dx, us, m, by rw [h i hi]; exact a, KR.ext s e c⟩
    · have hl : i < (S ++ [b]).length := (List.getElem?_eq_some_iff.mp q).1
      have : i = S.length := by simp at hl; omega
      subst this
      rw [newRho_same]
      simp at q
      subst q
      exact new
  inj := fun i j hi hj z => by
    simp at hi hj
    by_cases h1 : i = S.length
    · by_cases h2 : j = S.length
      · rw [h1, h2]
      · rw [h1, newRho_same, newRho_ne h2] at z
        exact absurd z.symm (hp j (by omega))
    · by_cases h2 : j = S.length
      · rw [h2, newRho_same, newRho_ne h1] at z
        exact absurd z (hp i (by omega))
      · rw [newRho_ne h1, newRho_ne h2] at z
        exact s.inj i j (by omega) (by omega) z
theorem SR.new {p : Addr} {o : HO} {b : Ob} (s : SR K mg ρ S H) (hp : H p = none) (new : OR K mg (newRho ρ S.length p) (S ++ [b]).length (upd H p o) p b) : SR K mg (newRho ρ S.length p) (S ++ [b]) (upd H p o) :=
  s.grow (s.ne_none hp) (Ext.new hp) (fun i hi => upd_ne (s.ne_none hp i hi)) new
/-- an object of the store is another one now -/
theorem Ext.put {i : Nat} {o : HO} {b : Ob} (hi : i < S.length) : Ext ρ S H ρ (S.set i b) (upd H (ρ i) o) where
  rho := fun _ _ => rfl
  le := by simp
  fresh := fun j h1 h2 => by simp at h2; omega
  frame := fun a u h hn => by rw [upd_ne (Ne.symm (hn i hi))]; exact h
theorem SR.put {i : Nat} {o : HO} {b : Ob} (s : SR K mg ρ S H) (hi : i < S.length) (new : OR K mg ρ S.length (upd H (ρ i) o) (ρ i) b) : SR K mg ρ (S.set i b) (upd H (ρ i) o) where
  ob := fun j u q => by
    have e : Ext ρ S H ρ (S.set i b) (upd H (ρ i) o) := Ext.put hi
    have hl : (S.set i b).length = S.length := by simp
    by_cases hj : j = i
    · subst hj
      rw [hl]
      have : u = b := by
        rw [List.getElem?_set_self hi] at q
        exact (Option.some.inj q).symm
      subst this
      exact new
    · rw [List.getElem?_set_ne (Ne.symm hj)] at q
      have hjl : j < S.length := (List.getElem?_eq_some_iff.mp q).1
      have z := s.ob j u q
      have hh : upd H (ρ i) o (ρ j) = H (ρ j) := upd_ne fun z => hj (s.inj j i hjl hi z)
      cases u with
      | lst xs => obtain ⟨us, a, c⟩ := z; exact ⟨us, by rw [hh]; exact a, VRs.ext s e _ _ c⟩
      | dK xs => obtain ⟨us, a, c⟩ := z; exact ⟨us, by rw [hh]; exact a, KR.ext s e c⟩
      | dT xs => obtain ⟨us, a, c⟩ := z; exact ⟨us, by rw [hh]; exact a, KR.ext s e c⟩
      | ins c0 fs => obtain ⟨C, dx, us, m, a, c⟩ := z; exact ⟨C, dx, us, m, by rw [hh]; exact a, KR.ext s e c⟩
  inj := fun a c ha hc => by
    simp at ha hc
    exact s.inj a c ha hc
end

/-! ### what is wanted of an end -/
abbrev Rel (α β : Type) := Rho → Store → Hp → α → β → Prop
def Post {α β : Type} (K : PySem.W.Frag) (mg : Str → Option Value) (rel : Rel α β) (W : WX) (ρ : Rho) (S : Store) (H : Hp) (σ : St) (r : R α) (Q : β → Hp → Prop) : Prop := match r with
  | .ok a S' => ∀ ρ' H' u, Ext ρ S H ρ' S' H' → SR K mg ρ' S' H' → rel ρ' S' H' a u → Q u H'
  | .exn e S' => ∀ ρ' H' cls d, Ext ρ S H ρ' S' H' → SR K mg ρ' S' H' → XR K mg ρ' S'.length H' e cls d → W cls d σ H'
  | .bad => False
def relV (K : PySem.W.Frag) : Rel Val V := fun ρ S H a u => VR K ρ S.length H a u
def relVs (K : PySem.W.Frag) : Rel (List Val) (List V) := fun ρ S H a u => VRs K ρ S.length H a u
def relB : Rel Bool Bool := fun _ _ _ a b => b = a
def relL (K : PySem.W.Frag) : Rel Loc St := fun ρ S H a u => LR K ρ S.length H a u
section
variable {K : PySem.W.Frag} {mg : Str → Option Value} {ρ ρ1 : Rho} {S S1 : Store} {H H1 : Hp} {σ : St} {W : WX} {α β γ δ : Type} {rel : Rel α β} {rel1 : Rel γ δ}
theorem Post.mono {r : R α} {Q Q' : β → Hp → Prop} (h : Post K mg rel W ρ S H σ r Q) (hq : ∀ u H', Q u H' → Q' u H') : Post K mg rel W ρ S H σ r Q' := by
  cases r with
  | ok a S' => exact fun ρ' H' u e s v => hq _ _ (h ρ' H' u e s v)
  | exn e S' => exact h
  | bad => exact h
theorem Post.step {r : R α} {Q : β → Hp → Prop} (s1 : SR K mg ρ1 S1 H1) (e : Ext ρ S H ρ1 S1 H1) (h : Post K mg rel W ρ S H σ r Q) : Post K mg rel W ρ1 S1 H1 σ r Q := by
  cases r with
  | ok a S' => exact fun ρ' H' u e' s v => h ρ' H' u (Ext.trans s1 e e') s v
  | exn x S' => exact fun ρ' H' c d e' s v => h ρ' H' c d (Ext.trans s1 e e') s v
  | bad => exact h
/-- behind the first part -/
theorem Post.bind {r : R γ} {k : γ → Store → R α} {Q : β → Hp → Prop} (h : Post K mg rel W ρ S H σ (r.bind k) Q) :
    Post K mg rel1 W ρ S H σ r fun u H1 => ∃ ρ1 S1 a, r = .ok a S1 ∧ Ext ρ S H ρ1 S1 H1 ∧ SR K mg ρ1 S1 H1 ∧ rel1 ρ1 S1 H1 a u ∧ Post K mg rel W ρ1 S1 H1 σ (k a S1) Q := by
  cases r with
  | ok a S1 => exact fun ρ1 H1 u e s v => ⟨ρ1, S1, a, rfl, e, s, v, Post.step s e h⟩
  | exn x S' => exact h
  | bad => exact h
/-- no exception: the wish does not matter -/
theorem Post.noExn {r : R α} {Q : β → Hp → Prop} (h : Post K mg rel W ρ S H σ (noExn r) Q) (W' : WX) : Post K mg rel W' ρ S H σ r Q := by
  cases r with
  | ok a S' => exact h
  | exn x S' => exact False.elim h
  | bad => exact h
end
/-! ### the judgements -/
def TEm (K : PySem.W.Frag) (mg : Str → Option Value) (W : WX) (m : ME) : TE := fun σ H Q => ∃ ρ S L, SR K mg ρ S H ∧ LR K ρ S.length H L σ ∧ Post K mg (relV K) W ρ S H σ (m L S) Q
def TAm (K : PySem.W.Frag) (mg : Str → Option Value) (W : WX) (m : MA) : TA := fun σ H Q => ∃ ρ S L, SR K mg ρ S H ∧ LR K ρ S.length H L σ ∧ Post K mg (relVs K) W ρ S H σ (m L S) Q
def TTm (K : PySem.W.Frag) (mg : Str → Option Value) (W : WX) (m : MT) : TT := fun σ H Q => ∃ ρ S L, SR K mg ρ S H ∧ LR K ρ S.length H L σ ∧ Post K mg relB W ρ S H σ (m L S) Q
def W0 : WX := fun _ _ _ _ => False
/-- what a target may do to the slots -/
structure Step where
  is : L2.St → L2.St → Prop
  refl : ∀ a, is a a
  trans : ∀ a b c, is a b → is b c → is a c
def anyStep : Step := ⟨fun _ _ => True, fun _ => trivial, fun _ _ _ _ _ => trivial⟩
def wipeStep (vs : List Nat) : Step := ⟨fun a b => L2.wipe b vs = L2.wipe a vs, fun _ => rfl, fun _ _ _ h h' => h'.trans h⟩
def relLP (K : PySem.W.Frag) (P : Step) (σ : L2.St) : Rel Loc L2.St := fun ρ S H a u => LR K ρ S.length H a u ∧ P.is σ u
def TGm (K : PySem.W.Frag) (mg : Str → Option Value) (P : Step) (g : MG) : TG := fun v σ H Q => ∃ ρ S L x, SR K mg ρ S H ∧ LR K ρ S.length H L σ ∧ VR K ρ S.length H x v ∧ Post K mg (relLP K P σ) W0 ρ S H σ (g x L S) Q
def TGsm (K : PySem.W.Frag) (mg : Str → Option Value) (P : Step) (g : MGs) : TGs := fun v σ H Q => ∃ ρ S L x, SR K mg ρ S H ∧ LR K ρ S.length H L σ ∧ VRs K ρ S.length H x v ∧ Post K mg (relLP K P σ) W0 ρ S H σ (g x L S) Q
def PostF (K : PySem.W.Frag) (mg : Str → Option Value) (W : WX) (ρ : Rho) (S : Store) (H : Hp) (r : F) (D : Ends) : Prop := match r with
  | .nx L S' => ∀ ρ' H' σ', Ext ρ S H ρ' S' H' → SR K mg ρ' S' H' → LR K ρ' S'.length H' L σ' → D.nx σ' H'
  | .bk L S' => ∀ ρ' H' σ', Ext ρ S H ρ' S' H' → SR K mg ρ' S' H' → LR K ρ' S'.length H' L σ' → D.bk σ' H'
  | .ct L S' => ∀ ρ' H' σ', Ext ρ S H ρ' S' H' → SR K mg ρ' S' H' → LR K ρ' S'.length H' L σ' → D.ct σ' H'
  | .rt v S' => ∀ ρ' H' u, Ext ρ S H ρ' S' H' → SR K mg ρ' S' H' → VR K ρ' S'.length H' v u → D.rt u H'
  | .exn e L S' => ∀ ρ' H' σ' cls d, Ext ρ S H ρ' S' H' → SR K mg ρ' S' H' → LR K ρ' S'.length H' L σ' → XR K mg ρ' S'.length H' e cls d → W cls d σ' H'
  | .bad => False
def TSm (K : PySem.W.Frag) (mg : Str → Option Value) (W : WX) (m : MS) : TS := fun D σ H => ∃ ρ S L, SR K mg ρ S H ∧ LR K ρ S.length H L σ ∧ PostF K mg W ρ S H (m L S) D
abbrev PEm (X : Cx) (W : WX) (e : Expr) (m : ME) : Prop := PE X e (TEm X.K X.mg W m)
abbrev PAm (X : Cx) (W : WX) (e : List Expr) (m : MA) : Prop := PA X e (TAm X.K X.mg W m)
abbrev PTm (X : Cx) (W : WX) (e : Expr) (m : MT) : Prop := PT X e (TTm X.K X.mg W m)
abbrev PWm (X : Cx) (W : WX) (e : Expr) (m : MT) : Prop := PW X e (TTm X.K X.mg W m)
abbrev PSm (X : Cx) (W : WX) (e : Stmt) (m : MS) : Prop := PS X e (TSm X.K X.mg W m)
abbrev PSsm (X : Cx) (W : WX) (e : List Stmt) (m : MS) : Prop := PSs X e (TSm X.K X.mg W m)
abbrev PGm (X : Cx) (P : Step) (e : Expr) (m : MG) : Prop := PG X e (TGm X.K X.mg P m)
abbrev PGsm (X : Cx) (P : Step) (e : List Expr) (m : MGs) : Prop := PGs X e (TGsm X.K X.mg P m)
section
variable {X : Cx} {W : WX}
theorem PE.imp {e : Expr} {t t' : TE} (h : PE X e t) (i : ∀ σ H Q, t' σ H Q → t σ H Q) : PE X e t' := ⟨fun pins s σ H Q I q => h.run pins s σ H Q I (i σ H Q q)⟩
theorem PA.imp {e : List Expr} {t t' : TA} (h : PA X e t) (i : ∀ σ H Q, t' σ H Q → t σ H Q) : PA X e t' := ⟨fun pos pins s σ H Q I q => h.run pos pins s σ H Q I (i σ H Q q)⟩
theorem PT.imp {e : Expr} {t t' : TT} (h : PT X e t) (i : ∀ σ H Q, t' σ H Q → t σ H Q) : PT X e t' := ⟨fun pins s σ H Q I q => h.run pins s σ H Q I (i σ H Q q)⟩
theorem PW.imp {e : Expr} {t t' : TT} (h : PW X e t) (i : ∀ σ H Q, t' σ H Q → t σ H Q) : PW X e t' := ⟨fun w pins s σ H Q I q => h.run w pins s σ H Q I (i σ H Q q)⟩
theorem PS.imp {e : Stmt} {t t' : TS} (h : PS X e t) (i : ∀ D σ H, t' D σ H → t D σ H) : PS X e t' := ⟨fun pins s σ H D I q => h.run pins s σ H D I (i D σ H q)⟩
theorem PSs.imp {e : List Stmt} {t t' : TS} (h : PSs X e t) (i : ∀ D σ H, t' D σ H → t D σ H) : PSs X e t' := ⟨fun pins s σ H D I q => h.run pins s σ H D I (i D σ H q)⟩
theorem PG.imp {e : Expr} {t t' : TG} (h : PG X e t) (i : ∀ v σ H Q, t' v σ H Q → t v σ H Q) : PG X e t' := ⟨fun pins s σ H v u Q I r q => h.run pins s σ H v u Q I r (i v σ H Q q)⟩
theorem PGs.imp {e : List Expr} {t t' : TGs} (h : PGs X e t) (i : ∀ v σ H Q, t' v σ H Q → t v σ H Q) : PGs X e t' := ⟨fun pins s σ H v u Q I r q => h.run pins s σ H v u Q I r (i v σ H Q q)⟩
end
end Mp

/-! Mp3: expressions, tests, statements, targets: each combinator is right. -/
namespace Mp
open PySem PySem.Spec L2
section
variable {K : PySem.W.Frag} {mg : Str → Option Value} {W : WX}
theorem TEm.bind {γ β : Type} {rel : Rel γ β} {m : ME} {k : Val → Store → R γ} {ρ : Rho} {S : Store} {H : Hp} {L : Loc} {σ : L2.St} {Q : β → Hp → Prop} (s : SR K mg ρ S H) (l : LR K ρ S.length H L σ)
    (h : Post K mg rel W ρ S H σ ((m L S).bind k) Q) {Q' : VK} (hq : ∀ ρ1 S1 a u H1, SR K mg ρ1 S1 H1 → LR K ρ1 S1.length H1 L σ → Ext ρ S H ρ1 S1 H1 → VR K ρ1 S1.length H1 a u → Post K mg rel W ρ1 S1 H1 σ (k a S1) Q → Q' u H1) :
    TEm K mg W m σ H Q' := ⟨ρ, S, L, s, l, (Post.bind (rel1 := relV K) h).mono fun u H1 ⟨ρ1, S1, a, _, e, s1, v, q⟩ => hq ρ1 S1 a u H1 s1 (l.ext s e) e v q⟩
theorem TAm.bind {γ β : Type} {rel : Rel γ β} {m : MA} {k : List Val → Store → R γ} {ρ : Rho} {S : Store} {H : Hp} {L : Loc} {σ : L2.St} {Q : β → Hp → Prop} (s : SR K mg ρ S H) (l : LR K ρ S.length H L σ)
    (h : Post K mg rel W ρ S H σ ((m L S).bind k) Q) {Q' : List V → Hp → Prop} (hq : ∀ ρ1 S1 a u H1, SR K mg ρ1 S1 H1 → LR K ρ1 S1.length H1 L σ → Ext ρ S H ρ1 S1 H1 → VRs K ρ1 S1.length H1 a u → Post K mg rel W ρ1 S1 H1 σ (k a S1) Q → Q' u H1) :
    TAm K mg W m σ H Q' := ⟨ρ, S, L, s, l, (Post.bind (rel1 := relVs K) h).mono fun u H1 ⟨ρ1, S1, a, _, e, s1, v, q⟩ => hq ρ1 S1 a u H1 s1 (l.ext s e) e v q⟩
theorem TTm.bind {γ β : Type} {rel : Rel γ β} {m : MT} {k : Bool → Store → R γ} {ρ : Rho} {S : Store} {H : Hp} {L : Loc} {σ : L2.St} {Q : β → Hp → Prop} (s : SR K mg ρ S H) (l : LR K ρ S.length H L σ)
    (h : Post K mg rel W ρ S H σ ((m L S).bind k) Q) {Q' : Bool → Hp → Prop} (hq : ∀ ρ1 S1 a H1, SR K mg ρ1 S1 H1 → LR K ρ1 S1.length H1 L σ → Ext ρ S H ρ1 S1 H1 → Post K mg rel W ρ1 S1 H1 σ (k a S1) Q → Q' a H1) :
    TTm K mg W m σ H Q' := ⟨ρ, S, L, s, l, (Post.bind (rel1 := relB) h).mono fun u H1 ⟨ρ1, S1, a, _, e, s1, v, q⟩ => by
      have v' : u = a := v
      subst v'
      exact hq ρ1 S1 u H1 s1 (l.ext s e) e q⟩
theorem Post.here {α β : Type} {rel : Rel α β} {ρ : Rho} {S : Store} {H : Hp} {σ : L2.St} {a : α} {u : β} {Q : β → Hp → Prop} (s : SR K mg ρ S H) (h : Post K mg rel W ρ S H σ (.ok a S) Q) (r : rel ρ S H a u) : Q u H :=
  h ρ H u (Ext.refl _ _ _) s r
end
section
variable {X : Cx} {W : WX} {e a b c : Expr} {es : List Expr} {m ma mb mc : ME} {pos : Pos}
/-! ### names, constants -/
theorem e_v {i : Nat} {x : Str} (h : PE X (.Name x pos) (tVar i)) : PEm X W (.Name x pos) (mV i) := PE.imp h fun σ H Q ⟨ρ, S, L, s, l, p⟩ => by
  unfold mV getL at p
  split at p
  · rename_i v q
    obtain ⟨u, hu, r⟩ := l.2 i v q
    exact ⟨u, hu, Post.here s p r⟩
  · exact p.elim
theorem e_c {v : Val} {u : V} (h : PE X e (tC u)) (r : ∀ ρ n H, VR X.K ρ n H v u) : PEm X W e (mC v) := PE.imp h fun σ H Q ⟨ρ, S, L, s, l, p⟩ => Post.here (rel := relV X.K) s p (r _ _ _)
theorem e_int {i : Int} {j} : PEm X W (.Constant (.int i) j pos) (mC (.int i)) := e_c pe_int fun _ _ _ => by simp [VR]
theorem e_bl {i : Bool} {j} : PEm X W (.Constant (.bool i) j pos) (mC (.bl i)) := e_c pe_bl fun _ _ _ => by simp [VR]
theorem e_non {j} : PEm X W (.Constant .none j pos) (mC .non) := e_c pe_non fun _ _ _ => by simp [VR]
theorem e_str {i : Str} {j} : PEm X W (.Constant (.str i) j pos) (mC (.str i)) := e_c pe_str fun _ _ _ => by simp [VR]
/-- a constant of the module -/
theorem e_gc {x : Str} {v : Val} {u : V} {w : Value} (hg : Gl X x) (hm : X.mg x = some w) (r : RelV u w) (q : ∀ ρ n H, VR X.K ρ n H v u) (hd : (x == ("__debug__" : Str)) = false := by decide) : PEm X W (.Name x pos) (mC v) := e_c (pe_glob hg hm r hd) q
theorem e_bad : PE X e (fun _ _ _ => False) := ⟨fun _ _ _ _ _ _ h => h.elim⟩
/-! ### operators -/
def rP1 (X : Cx) (p : P1) : V → Hp → VK → Prop := fun u H Q => ∃ ρ S x, SR X.K X.mg ρ S H ∧ VR X.K ρ S.length H x u ∧ Post X.K X.mg (relV X.K) W0 ρ S H [] (p x S) Q
def rP2 (X : Cx) (p : P2) : R2 := fun u w H Q => ∃ ρ S x y, SR X.K X.mg ρ S H ∧ VR X.K ρ S.length H x u ∧ VR X.K ρ S.length H y w ∧ Post X.K X.mg (relV X.K) W0 ρ S H [] (p x y S) Q
def rF (X : Cx) (f : Fn) : List V → Hp → VK → Prop := fun us H Q => ∃ ρ S xs, SR X.K X.mg ρ S H ∧ VRs X.K ρ S.length H xs us ∧ Post X.K X.mg (relV X.K) W0 ρ S H [] (f xs S) Q
theorem Post.sig {α β : Type} {K : PySem.W.Frag} {mg : Str → Option Value} {rel : Rel α β} {ρ : Rho} {S : Store} {H : Hp} {σ σ' : L2.St} {r : R α} {Q : β → Hp → Prop} (h : Post K mg rel W0 ρ S H σ r Q) : Post K mg rel W0 ρ S H σ' r Q := by
  cases r with
  | ok a S' => exact h
  | exn x S' => exact h
  | bad => exact h
theorem m1_of {p : P1} {σ : L2.St} {H : Hp} {Q : VK} (h : TEm X.K X.mg W (m1 p m) σ H Q) : TEm X.K X.mg W m σ H fun u H1 => rP1 X p u H1 Q := by
  obtain ⟨ρ, S, L, s, l, h⟩ := h
  exact TEm.bind s l h fun ρ1 S1 x u H1 s1 l1 e v q => ⟨ρ1, S1, x, s1, v, (Post.noExn q W0).sig⟩
theorem m2_of {p : P2} {σ : L2.St} {H : Hp} {Q : VK} (h : TEm X.K X.mg W (m2 p ma mb) σ H Q) : tOp (rP2 X p) (TEm X.K X.mg W ma) (TEm X.K X.mg W mb) σ H Q := by
  obtain ⟨ρ, S, L, s, l, h⟩ := h
  exact TEm.bind s l h fun ρ1 S1 x u H1 s1 l1 e v q => TEm.bind s1 l1 q fun ρ2 S2 y w H2 s2 l2 e2 v2 q2 => ⟨ρ2, S2, x, y, s2, VR.ext s1 e2 _ _ v, v2, (Post.noExn q2 W0).sig⟩
abbrev OpS (X : Cx) (f : Value → Value → Sem Value) (p : P2) : Prop := OpR X f (rP2 X p)
theorem OpR.imp {f : Value → Value → Sem Value} {r r' : R2} (h : OpR X f r) (i : ∀ u w H Q, r' u w H Q → r u w H Q) : OpR X f r' := fun pins s σ H x y v u Q I rx ry q => h pins s σ H x y v u Q I rx ry (i _ _ _ _ q)
theorem CallR.imp {f : Value} {r r' : List V → Hp → VK → Prop} (h : CallR X f r) (i : ∀ us H Q, r' us H Q → r us H Q) : CallR X f r' := fun pins s σ H xs us Q I rx q => h pins s σ H xs us Q I rx (i _ _ _ q)
theorem e_op {op : Operator} {p : P2} (ho : OpS X (binaryOp op) p) (ha : PEm X W a ma) (hb : PEm X W b mb) : PEm X W (.BinOp a op b pos) (m2 p ma mb) := PE.imp (pe_op ho ha hb) fun _ _ _ => m2_of
theorem e_cmp {op : CmpOp} {p : P2} (ho : OpS X (compareOp op) p) (ha : PEm X W a ma) (hb : PEm X W b mb) (hm : behindInMarks op b = false) : PEm X W (.Compare a [op] [b] pos) (m2 p ma mb) := PE.imp (pe_cmpR ho ha hb hm) fun _ _ _ => m2_of
theorem e_un {op : UnaryOp} {p : P1} (ho : UnR X (unaryOp op) (rP1 X p)) (ha : PEm X W a ma) : PEm X W (.UnaryOp op a pos) (m1 p ma) := PE.imp (pe_un ho ha) fun _ _ _ => m1_of
theorem isT_of {K : PySem.W.Frag} {mg : Str → Option Value} {α β : Type} {rel : Rel α β} {ρ : Rho} {S : Store} {H : Hp} {σ : L2.St} {x : Val} {u : V} {k : Bool → Store → R α} {Q : β → Hp → Prop} (v : VR K ρ S.length H x u) (h : Post K mg rel W ρ S H σ ((isT x S).bind k) Q) :
    ∃ b, u = .bl b ∧ Post K mg rel W ρ S H σ (k b S) Q := by
  cases x with
  | bl b => exact ⟨b, by simpa [VR] using v, h⟩
  | _ => exact h.elim
theorem e_chain {op op' : CmpOp} {p q : P2} (ho : OpS X (compareOp op) p) (ho' : OpS X (compareOp op') q) (ha : PEm X W a ma) (hb : PEm X W b mb) (hc : PEm X W c mc)
    (hm : lastMarks [op, op'] [b, c] = false := by with_unfolding_all rfl) : PEm X W (.Compare a [op, op'] [b, c] pos) (mChain p q ma mb mc) := PE.imp (pe_chain ho ho' ha hb hc hm) fun σ H Q h => by
  obtain ⟨ρ, S, L, s, l, h⟩ := h
  refine TEm.bind s l h fun ρ1 S1 x u H1 s1 l1 e v h => TEm.bind s1 l1 h fun ρ2 S2 y w H2 s2 l2 e2 v2 h => ?_
  have h := (Post.bind (rel1 := relV X.K) h)
  refine ⟨ρ2, S2, x, y, s2, VR.ext s1 e2 _ _ v, v2, (Post.noExn h W0).sig.mono ?_⟩
  rintro z H3 ⟨ρ3, S3, zz, hzz, e3, s3, v3, h⟩
  obtain ⟨t, ez, h⟩ := isT_of v3 h
  refine ⟨t, ez, ?_⟩
  have l3 := l2.ext s2 e3
  cases t with
  | true =>
    refine iteT (TEm.bind s3 l3 h fun ρ4 S4 zc w4 H4 s4 l4 e4 v4 h => ?_)
    exact ⟨ρ4, S4, y, zc, s4, VR.ext s3 e4 _ _ (VR.ext s2 e3 _ _ v2), v4, (Post.noExn h W0).sig⟩
  | false => exact iteF (Post.here (rel := relV X.K) s3 h (by simp [relV, VR]))
/-! ### arguments, displays -/
theorem a_nil : PAm X W [] aNil := PA.imp pa_nil fun σ H Q ⟨ρ, S, L, s, l, h⟩ => Post.here (rel := relVs X.K) s h VRs.nil
theorem a_cons {ma : MA} (he : PEm X W e m) (ha : PAm X W es ma) (hs : starEach (e :: es) X.env = (false, eval e X.env) :: starEach es X.env := by rfl) : PAm X W (e :: es) (aCons m ma) := PA.imp (pa_cons he ha hs) fun σ H Q h => by
  obtain ⟨ρ, S, L, s, l, h⟩ := h
  refine TEm.bind s l h fun ρ1 S1 x u H1 s1 l1 e v h => TAm.bind s1 l1 h fun ρ2 S2 y w H2 s2 l2 e2 v2 h => ?_
  exact Post.here (rel := relVs X.K) s2 h (VRs.cons (VR.ext s1 e2 _ _ v) v2)
theorem mB_of {f : Fn} {ma : MA} {σ : L2.St} {H : Hp} {Q : VK} (h : TEm X.K X.mg W (mB f ma) σ H Q) : tCB (rF X f) (TAm X.K X.mg W ma) σ H Q := by
  obtain ⟨ρ, S, L, s, l, h⟩ := h
  exact TAm.bind s l h fun ρ1 S1 x u H1 s1 l1 e v q => ⟨ρ1, S1, x, s1, v, (Post.noExn q W0).sig⟩
theorem lim_eq : LIM = sizeLine := by rw [sizeLine_eq]; rfl
theorem fTup_of {us : List V} {H : Hp} {Q : VK} (h : rF X fTup us H Q) : us.length ≤ sizeLine ∧ ∀ p, H p = none → Q (.ref p) (upd H p (.tup us)) := by
  obtain ⟨ρ, S, xs, s, v, h⟩ := h
  unfold fTup at h
  by_cases hz : xs.length ≤ LIM
  · rw [bite_pos (decide_eq_true hz)] at h
    refine ⟨by rw [← v.length, ← lim_eq]; exact hz, fun p hp => h ρ _ _ (Ext.side hp) (s.side hp) ?_⟩
    simp only [relV, VR]
    exact ⟨p, us, rfl, .inl upd_same, VRs.ext s (Ext.side hp) _ _ v⟩
  · rw [bite_neg (decide_eq_false hz)] at h
    exact h.elim
theorem fLst_of {us : List V} {H : Hp} {Q : VK} (h : rF X fLst us H Q) : us.length ≤ sizeLine ∧ ∀ p, H p = none → Q (.ref p) (upd H p (.lst us)) := by
  obtain ⟨ρ, S, xs, s, v, h⟩ := h
  unfold fLst at h
  by_cases hz : xs.length ≤ LIM
  · rw [bite_pos (decide_eq_true hz)] at h
    refine ⟨by rw [← v.length, ← lim_eq]; exact hz, fun p hp => h _ _ _ (Ext.new hp) (s.new hp ⟨us, upd_same, VRs.ext s (Ext.new hp) _ _ v⟩) ?_⟩
    simp only [relV, VR, newRho_same]
    exact ⟨by simp, trivial⟩
  · rw [bite_neg (decide_eq_false hz)] at h
    exact h.elim
theorem e_tup {ma : MA} {x1} (h : PAm X W es ma) : PEm X W (.Tuple es x1 pos) (mTup ma) := PE.imp (pe_tup h) fun σ H Q q => by
  obtain ⟨ρ, S, L, s, l, p⟩ := mB_of q
  exact ⟨ρ, S, L, s, l, p.mono fun us H1 r => fTup_of r⟩
theorem e_lst {ma : MA} (h : PAm X W es ma) : PEm X W (.List es pos) (mLst ma) := PE.imp (pe_lst h) fun σ H Q q => by
  obtain ⟨ρ, S, L, s, l, p⟩ := mB_of q
  exact ⟨ρ, S, L, s, l, p.mono fun us H1 r => fLst_of r⟩
theorem new_of {o : HO} {b : Ob} {H : Hp} {ρ : Rho} {S : Store} {σ : L2.St} {Q : VK} (s : SR X.K X.mg ρ S H) (h : Post X.K X.mg (relV X.K) W ρ S H σ (.ok (.ref S.length) (S ++ [b])) Q)
    (hb : ∀ p, H p = none → OR X.K X.mg (newRho ρ S.length p) (S ++ [b]).length (upd H p o) p b) : ∀ p, H p = none → Q (.ref p) (upd H p o) := fun p hp => by
  refine h _ _ _ (Ext.new hp) (s.new hp (hb p hp)) ?_
  simp only [relV, VR, newRho_same]
  exact ⟨by simp, trivial⟩
theorem e_dk : PEm X W (.Dict [] [] pos) mDK := PE.imp pe_dnewK fun σ H Q ⟨ρ, S, L, s, l, h⟩ => new_of s h fun p hp => ⟨[], upd_same, rfl, by simp [VRs]⟩
theorem e_dt : PEm X W (.Dict [] [] pos) mDT := PE.imp pe_dnewT fun σ H Q ⟨ρ, S, L, s, l, h⟩ => new_of s h fun p hp => ⟨[], upd_same, rfl, by simp [VRs]⟩
/-! ### tests -/
theorem t_v (he : PEm X W e m) (hp : ∀ whole, isTrue e X.env whole = (do let v ← whole; standAt e.pos; holding [v] (truthy v)) := by intro _; rfl) : PTm X W e (tV m) := PT.imp (pt_val he hp) fun σ H Q h => by
  obtain ⟨ρ, S, L, s, l, h⟩ := h
  refine TEm.bind s l h fun ρ1 S1 x u H1 s1 l1 e v h => ?_
  cases x with
  | bl b => exact ⟨b, by simpa [VR] using v, Post.here (rel := relB) s1 h rfl⟩
  | _ => exact h.elim
theorem t_cmp {op : CmpOp} {p : P2} (ho : OpS X (compareOp op) p) (ha : PEm X W a ma) (hb : PEm X W b mb) (hm : behindInMarks op b = false) : PTm X W (.Compare a [op] [b] pos) (tV (m2 p ma mb)) := PT.imp (pt_cmpR ho ha hb hm) fun σ H Q h => by
  obtain ⟨ρ, S, L, s, l, h⟩ := h
  refine m2_of ⟨ρ, S, L, s, l, (Post.bind (rel1 := relV X.K) h).mono ?_⟩
  rintro u H1 ⟨ρ1, S1, x, _, e1, s1, v, h⟩
  cases x with
  | bl b => exact ⟨b, by simpa [VR, relV] using v, Post.here (rel := relB) s1 h rfl⟩
  | _ => exact h.elim
theorem t_chain {op op' : CmpOp} {p q : P2} (ho : OpS X (compareOp op) p) (ho' : OpS X (compareOp op') q) (ha : PEm X W a ma) (hb : PEm X W b mb) (hc : PEm X W c mc)
    (hm : lastMarks [op, op'] [b, c] = false := by with_unfolding_all rfl) : PTm X W (.Compare a [op, op'] [b, c] pos) (tV (mChain p q ma mb mc)) := PT.imp (pt_chain ho ho' ha hb hc hm) fun σ H Q h => by
  obtain ⟨ρ, S, L, s, l, h⟩ := h
  have h := (Post.bind (rel1 := relV X.K) h)
  refine TEm.bind s l h fun ρ1 S1 x u H1 s1 l1 e v h => TEm.bind s1 l1 h fun ρ2 S2 y w H2 s2 l2 e2 v2 h => ?_
  have h := (Post.bind (rel1 := relV X.K) h)
  refine ⟨ρ2, S2, x, y, s2, VR.ext s1 e2 _ _ v, v2, (Post.noExn h W0).sig.mono ?_⟩
  rintro z H3 ⟨ρ3, S3, zz, hzz, e3, s3, v3, h⟩
  obtain ⟨t, ez, h⟩ := isT_of v3 h
  refine ⟨t, ez, ?_⟩
  have l3 := l2.ext s2 e3
  cases t with
  | true =>
    refine iteT (TEm.bind s3 l3 h fun ρ4 S4 zc w4 H4 s4 l4 e4 v4 h => ?_)
    refine ⟨ρ4, S4, y, zc, s4, VR.ext s3 e4 _ _ (VR.ext s2 e3 _ _ v2), v4, (Post.noExn h W0).sig.mono ?_⟩
    rintro u H1 ⟨ρ1, S1, x, _, e1, s1, v, h⟩
    cases x with
    | bl b => exact ⟨b, by simpa [VR, relV] using v, Post.here (rel := relB) s1 h rfl⟩
    | _ => exact h.elim
  | false =>
    have q := Post.here (rel := relV X.K) (u := .bl false) s3 h (by simp [relV, VR])
    obtain ⟨ρ5, S5, a5, e5, _, s5, v5, h5⟩ := q
    refine iteF ⟨false, rfl, ?_⟩
    cases a5 with
    | bl b =>
      have : V.bl false = V.bl b := by simpa [VR, relV] using v5
      cases this
      exact Post.here (rel := relB) s5 h5 rfl
    | _ => exact h5.elim
theorem t_and1 {ma : MT} (ha : PTm X W a ma) : PWm X W (.BoolOp .And [a] pos) ma := pw_and1 ha
theorem t_or1 {ma : MT} (ha : PTm X W a ma) : PWm X W (.BoolOp .Or [a] pos) ma := pw_or1 ha
theorem t_and {ma mb : MT} (ha : PTm X W a ma) (hb : PWm X W (.BoolOp .And (b :: es) pos) mb) : PWm X W (.BoolOp .And (a :: b :: es) pos) (Mp.tAnd ma mb) := PW.imp (pw_and ha hb) fun σ H Q h => by
  obtain ⟨ρ, S, L, s, l, h⟩ := h
  refine TTm.bind s l h fun ρ1 S1 c H1 s1 l1 e h => ?_
  cases c with
  | true => exact iteT ⟨ρ1, S1, L, s1, l1, h⟩
  | false => exact iteF (Post.here (rel := relB) s1 h rfl)
theorem t_or {ma mb : MT} (ha : PTm X W a ma) (hb : PWm X W (.BoolOp .Or (b :: es) pos) mb) : PWm X W (.BoolOp .Or (a :: b :: es) pos) (Mp.tOr ma mb) := PW.imp (pw_or ha hb) fun σ H Q h => by
  obtain ⟨ρ, S, L, s, l, h⟩ := h
  refine TTm.bind s l h fun ρ1 S1 c H1 s1 l1 e h => ?_
  cases c with
  | true => exact iteT (Post.here (rel := relB) s1 h rfl)
  | false => exact iteF ⟨ρ1, S1, L, s1, l1, h⟩
theorem t_not {ma : MT} (ha : PTm X W a ma) : PTm X W (.UnaryOp .Not a pos) (Mp.tNot ma) := PT.imp (pt_not ha) fun σ H Q h => by
  obtain ⟨ρ, S, L, s, l, h⟩ := h
  exact TTm.bind s l h fun ρ1 S1 c H1 s1 l1 e h => Post.here (rel := relB) s1 h rfl
theorem e_if {mc : MT} (hc : PTm X W c mc) (ha : PEm X W a ma) (hb : PEm X W b mb) : PEm X W (.IfExp c a b pos) (mIf mc ma mb) := PE.imp (pe_ifExp hc ha hb) fun σ H Q h => by
  obtain ⟨ρ, S, L, s, l, h⟩ := h
  refine TTm.bind s l h fun ρ1 S1 c H1 s1 l1 e h => ?_
  cases c with
  | true => exact iteT ⟨ρ1, S1, L, s1, l1, h⟩
  | false => exact iteF ⟨ρ1, S1, L, s1, l1, h⟩
theorem e_one {op} (h : PEm X W a ma) : PEm X W (.BoolOp op [a] pos) ma := pe_one h
theorem e_and (ha : PEm X W a ma) (hb : PEm X W (.BoolOp .And (b :: es) pos) mb) : PEm X W (.BoolOp .And (a :: b :: es) pos) (mAnd ma mb) := PE.imp (pe_and ha hb) fun σ H Q h => by
  obtain ⟨ρ, S, L, s, l, h⟩ := h
  refine TEm.bind s l h fun ρ1 S1 x u H1 s1 l1 e v h => ?_
  obtain ⟨t, ez, h⟩ := isT_of v h
  refine ⟨t, ez, ?_⟩
  cases t with
  | true => exact iteT ⟨ρ1, S1, L, s1, l1, h⟩
  | false => exact iteF (Post.here (rel := relV X.K) s1 h (by simp [relV, VR]))
theorem e_or (ha : PEm X W a ma) (hb : PEm X W (.BoolOp .Or (b :: es) pos) mb) : PEm X W (.BoolOp .Or (a :: b :: es) pos) (mOr ma mb) := PE.imp (pe_or ha hb) fun σ H Q h => by
  obtain ⟨ρ, S, L, s, l, h⟩ := h
  refine TEm.bind s l h fun ρ1 S1 x u H1 s1 l1 e v h => ?_
  obtain ⟨t, ez, h⟩ := isT_of v h
  refine ⟨t, ez, ?_⟩
  cases t with
  | true => exact iteT (Post.here (rel := relV X.K) s1 h (by simp [relV, VR]))
  | false => exact iteF ⟨ρ1, S1, L, s1, l1, h⟩
theorem e_not (ha : PEm X W a ma) : PEm X W (.UnaryOp .Not a pos) (mNot ma) := PE.imp (pe_not ha) fun σ H Q h => by
  obtain ⟨ρ, S, L, s, l, h⟩ := h
  refine TEm.bind s l h fun ρ1 S1 x u H1 s1 l1 e v h => ?_
  obtain ⟨t, ez, h⟩ := isT_of v h
  exact ⟨t, ez, Post.here (rel := relV X.K) s1 h (by simp [relV, VR])⟩
end

/-! ### statements -/
section
variable {K : PySem.W.Frag} {mg : Str → Option Value} {W : WX}
theorem PostF.mono {ρ : Rho} {S : Store} {H : Hp} {r : F} {D D' : Ends} (h : PostF K mg W ρ S H r D) (h1 : ∀ σ H, D.nx σ H → D'.nx σ H) (h2 : ∀ u H, D.rt u H → D'.rt u H) (h3 : ∀ σ H, D.bk σ H → D'.bk σ H) (h4 : ∀ σ H, D.ct σ H → D'.ct σ H) : PostF K mg W ρ S H r D' := by
  cases r with
  | nx L S' => exact fun ρ' H' σ' e s l => h1 _ _ (h ρ' H' σ' e s l)
  | bk L S' => exact fun ρ' H' σ' e s l => h3 _ _ (h ρ' H' σ' e s l)
  | ct L S' => exact fun ρ' H' σ' e s l => h4 _ _ (h ρ' H' σ' e s l)
  | rt v S' => exact fun ρ' H' σ' e s l => h2 _ _ (h ρ' H' σ' e s l)
  | exn e L S' => exact h
  | bad => exact h
theorem PostF.step {ρ ρ1 : Rho} {S S1 : Store} {H H1 : Hp} {r : F} {D : Ends} (s1 : SR K mg ρ1 S1 H1) (e : Ext ρ S H ρ1 S1 H1) (h : PostF K mg W ρ S H r D) : PostF K mg W ρ1 S1 H1 r D := by
  cases r with
  | nx L S' => exact fun ρ' H' σ' e' s l => h ρ' H' σ' (Ext.trans s1 e e') s l
  | bk L S' => exact fun ρ' H' σ' e' s l => h ρ' H' σ' (Ext.trans s1 e e') s l
  | ct L S' => exact fun ρ' H' σ' e' s l => h ρ' H' σ' (Ext.trans s1 e e') s l
  | rt v S' => exact fun ρ' H' σ' e' s l => h ρ' H' σ' (Ext.trans s1 e e') s l
  | exn x L S' => exact fun ρ' H' σ' c d e' s l => h ρ' H' σ' c d (Ext.trans s1 e e') s l
  | bad => exact h
/-- behind an expression -/
theorem PostF.then {α β : Type} {rel : Rel α β} {ρ : Rho} {S : Store} {H : Hp} {L : Loc} {σ : L2.St} {r : R α} {k : α → Store → F} {D : Ends} (s : SR K mg ρ S H) (l : LR K ρ S.length H L σ) (h : PostF K mg W ρ S H (thenF L r k) D) :
    Post K mg rel W ρ S H σ r fun u H1 => ∃ ρ1 S1 a, r = .ok a S1 ∧ Ext ρ S H ρ1 S1 H1 ∧ SR K mg ρ1 S1 H1 ∧ rel ρ1 S1 H1 a u ∧ PostF K mg W ρ1 S1 H1 (k a S1) D := by
  cases r with
  | ok a S1 => exact fun ρ1 H1 u e s v => ⟨ρ1, S1, a, rfl, e, s, v, PostF.step s e h⟩
  | exn x S' => exact fun ρ' H' cls d e s' q => h ρ' H' σ cls d e s' (l.ext s e) q
  | bad => exact h
theorem TEm.then {m : ME} {k : Val → Store → F} {ρ : Rho} {S : Store} {H : Hp} {L : Loc} {σ : L2.St} {D : Ends} (s : SR K mg ρ S H) (l : LR K ρ S.length H L σ) (h : PostF K mg W ρ S H (thenF L (m L S) k) D)
    {Q' : VK} (hq : ∀ ρ1 S1 a u H1, SR K mg ρ1 S1 H1 → LR K ρ1 S1.length H1 L σ → Ext ρ S H ρ1 S1 H1 → VR K ρ1 S1.length H1 a u → PostF K mg W ρ1 S1 H1 (k a S1) D → Q' u H1) : TEm K mg W m σ H Q' :=
  ⟨ρ, S, L, s, l, (PostF.then (rel := relV K) s l h).mono fun u H1 ⟨ρ1, S1, a, _, e, s1, v, q⟩ => hq ρ1 S1 a u H1 s1 (l.ext s e) e v q⟩
theorem TTm.then {m : MT} {k : Bool → Store → F} {ρ : Rho} {S : Store} {H : Hp} {L : Loc} {σ : L2.St} {D : Ends} (s : SR K mg ρ S H) (l : LR K ρ S.length H L σ) (h : PostF K mg W ρ S H (thenF L (m L S) k) D)
    {Q' : Bool → Hp → Prop} (hq : ∀ ρ1 S1 a H1, SR K mg ρ1 S1 H1 → LR K ρ1 S1.length H1 L σ → Ext ρ S H ρ1 S1 H1 → PostF K mg W ρ1 S1 H1 (k a S1) D → Q' a H1) : TTm K mg W m σ H Q' :=
  ⟨ρ, S, L, s, l, (PostF.then (rel := relB) s l h).mono fun u H1 ⟨ρ1, S1, a, _, e, s1, v, q⟩ => by
    have v' : u = a := v
    subst v'
    exact hq ρ1 S1 u H1 s1 (l.ext s e) e q⟩
theorem PostF.nxHere {ρ : Rho} {S : Store} {H : Hp} {L : Loc} {σ : L2.St} {D : Ends} (s : SR K mg ρ S H) (l : LR K ρ S.length H L σ) (h : PostF K mg W ρ S H (.nx L S) D) : D.nx σ H := h ρ H σ (Ext.refl _ _ _) s l
end
section
variable {X : Cx} {W : WX} {e a b c : Expr} {es : List Expr} {m ma mb mc : ME} {pos : Pos} {st : Stmt} {sts rest : List Stmt} {k k1 k2 : MS}
theorem s_nil : PSsm X W [] sNx := PSs.imp pss_nil fun D σ H ⟨ρ, S, L, s, l, h⟩ => PostF.nxHere s l h
theorem s_cons (h1 : PSm X W st k1) (h2 : PSsm X W rest k2) : PSsm X W (st :: rest) (sSeq k1 k2) := PSs.imp (pss_cons h1 h2) fun D σ H h => by
  obtain ⟨ρ, S, L, s, l, h⟩ := h
  refine ⟨ρ, S, L, s, l, ?_⟩
  unfold sSeq at h
  cases q : k1 L S with
  | nx L1 S1 => rw [q] at h; exact fun ρ' H' σ' e s' l' => ⟨ρ', S1, L1, s', l', PostF.step s' e h⟩
  | bk L1 S1 => rw [q] at h; exact h
  | ct L1 S1 => rw [q] at h; exact h
  | rt L1 S1 => rw [q] at h; exact h
  | exn x L1 S1 => rw [q] at h; exact h
  | bad => rw [q] at h; exact h
theorem s_one (h1 : PSm X W st k1) : PSsm X W [st] k1 := pss_one h1
theorem s_pass : PSm X W (.Pass pos) sNx := PS.imp ps_pass fun D σ H ⟨ρ, S, L, s, l, h⟩ => PostF.nxHere s l h
theorem s_brk : PSm X W (.Break pos) sBrk := PS.imp ps_break fun D σ H ⟨ρ, S, L, s, l, h⟩ => h ρ H σ (Ext.refl _ _ _) s l
theorem s_cnt : PSm X W (.Continue pos) sCnt := PS.imp ps_continue fun D σ H ⟨ρ, S, L, s, l, h⟩ => h ρ H σ (Ext.refl _ _ _) s l
theorem s_bad : PSm X W st sBad := PS.imp ps_never fun D σ H ⟨ρ, S, L, s, l, h⟩ => h
theorem s_expr (he : PEm X W e m) (hs : swapsWith e none pos.line X.env = pure false := by rfl) : PSm X W (.Expr e pos) (sExpr m) := PS.imp (ps_expr he hs) fun D σ H ⟨ρ, S, L, s, l, h⟩ =>
  TEm.then s l h fun ρ1 S1 x u H1 s1 l1 e v h => PostF.nxHere s1 l1 h
theorem s_ret (he : PEm X W e m) : PSm X W (.Return (some e) pos) (sRet m) := PS.imp (ps_ret he) fun D σ H ⟨ρ, S, L, s, l, h⟩ =>
  TEm.then s l h fun ρ1 S1 x u H1 s1 l1 e v h => h ρ1 H1 u (Ext.refl _ _ _) s1 v
theorem s_retN : PSm X W (.Return none pos) sRetN := PS.imp ps_retN fun D σ H ⟨ρ, S, L, s, l, h⟩ => h ρ H .non (Ext.refl _ _ _) s (by simp [VR])
theorem s_if {mc : MT} (hc : PTm X W c mc) (h1 : PSsm X W sts k1) (h2 : PSsm X W rest k2) : PSm X W (.If c sts rest pos) (sIf mc k1 k2) := PS.imp (ps_if hc h1 h2) fun D σ H ⟨ρ, S, L, s, l, h⟩ =>
  TTm.then s l h fun ρ1 S1 b H1 s1 l1 e h => by
    cases b with
    | true => exact iteT ⟨ρ1, S1, L, s1, l1, h⟩
    | false => exact iteF ⟨ρ1, S1, L, s1, l1, h⟩
/-! ### targets, stores -/
theorem LR.set {K : PySem.W.Frag} {ρ : Rho} {n : Nat} {H : Hp} {L : Loc} {σ : L2.St} {v : Val} {u : V} {i : Nat} (l : LR K ρ n H L σ) (r : VR K ρ n H v u) : LR K ρ n H (L.set i (some v)) (σ.set i (some u)) := by
  refine ⟨by simp [l.1], fun j w q => ?_⟩
  by_cases hj : j = i
  · subst hj
    have hl : j < L.length := by
      have := (List.getElem?_eq_some_iff.mp q).1
      simpa using this
    rw [List.getElem?_set_self hl] at q
    cases q
    exact ⟨u, List.getElem?_set_self (by rw [← l.1]; exact hl), r⟩
  · rw [List.getElem?_set_ne (Ne.symm hj)] at q
    obtain ⟨u', h1, h2⟩ := l.2 j w q
    exact ⟨u', by rw [List.getElem?_set_ne (Ne.symm hj)]; exact h1, h2⟩
theorem LR.wipe {K : PySem.W.Frag} {ρ : Rho} {n : Nat} {H : Hp} {L : Loc} {σ : L2.St} (l : LR K ρ n H L σ) : ∀ vs : List Nat, LR K ρ n H (wipeL L vs) (wipe σ vs)
  | [] => l
  | i :: r => by
    have ih := LR.wipe l r
    have e1 : L2.wipe σ (i :: r) = (L2.wipe σ r).set i none := rfl
    rw [e1]
    refine ⟨by simp only [wipeL]; simpa using ih.1, fun j w q => ?_⟩
    simp only [wipeL] at q
    by_cases hj : j = i
    · subst hj
      have hl : j < (wipeL L r).length := by
        have := (List.getElem?_eq_some_iff.mp q).1
        simpa using this
      rw [List.getElem?_set_self hl] at q
      cases q
    · rw [List.getElem?_set_ne (Ne.symm hj)] at q
      obtain ⟨u', h1, h2⟩ := ih.2 j w q
      exact ⟨u', by rw [List.getElem?_set_ne (Ne.symm hj)]; exact h1, h2⟩
theorem wipe_set {i : Nat} {u : Option V} : ∀ {vs : List Nat} {σ : L2.St}, i ∈ vs → L2.wipe (σ.set i u) vs = L2.wipe σ vs
  | [], _, h => absurd h (by simp)
  | j :: r, σ, h => by
    show (L2.wipe (σ.set i u) r).set j none = (L2.wipe σ r).set j none
    by_cases hr : i ∈ r
    · rw [wipe_set hr]
    · have hj : i = j := by
        rcases List.mem_cons.mp h with h | h
        · exact h
        · exact absurd h hr
      subst hj
      have : ∀ (r : List Nat) (σ : L2.St), i ∉ r → L2.wipe (σ.set i u) r = (L2.wipe σ r).set i u := by
        intro r
        induction r with
        | nil => intro σ _; rfl
        | cons a r ih =>
          intro σ hn
          have h1 : i ≠ a := fun e => hn (by simp [e])
          have h2 : i ∉ r := fun e => hn (by simp [e])
          show (L2.wipe (σ.set i u) r).set a none = ((L2.wipe σ r).set a none).set i u
          rw [ih σ h2, List.set_comm _ _ h1]
      rw [this r σ hr, List.set_set]
variable {P : Step}
theorem g_name {i : Nat} {x : Str} (h : PG X (.Name x pos) (gName i)) (hP : ∀ σ u, P.is σ (σ.set i u)) : PGm X P (.Name x pos) (gN i) := PG.imp h fun v σ H Q ⟨ρ, S, L, x, s, l, r, h⟩ => Post.here (rel := relLP X.K P σ) s h ⟨l.set r, hP _ _⟩
theorem hp_any {i : Nat} : ∀ σ u, anyStep.is σ (σ.set i u) := fun _ _ => trivial
theorem hp_wipe {i : Nat} {vs : List Nat} (h : i ∈ vs) : ∀ σ u, (wipeStep vs).is σ (σ.set i u) := fun _ _ => wipe_set h
theorem gs_nil : PGsm X P [] gsNil := PGs.imp pgs_nil fun v σ H Q ⟨ρ, S, L, x, s, l, r, h⟩ => by
  cases x with
  | nil => exact ⟨r.nil_of, Post.here (rel := relLP X.K P σ) s h ⟨l, P.refl _⟩⟩
  | cons y ys => exact h.elim
theorem TGm.bind {K : PySem.W.Frag} {mg : Str → Option Value} {γ β : Type} {rel : Rel γ β} {g : MG} {k : Loc → Store → R γ} {ρ : Rho} {S : Store} {H : Hp} {L : Loc} {σ : L2.St} {x : Val} {v : V} {Q : β → Hp → Prop} (s : SR K mg ρ S H) (l : LR K ρ S.length H L σ) (r : VR K ρ S.length H x v)
    (h : Post K mg rel W0 ρ S H σ ((g x L S).bind k) Q) {Q' : L2.St → Hp → Prop} (hq : ∀ ρ1 S1 L1 σ1 H1, SR K mg ρ1 S1 H1 → LR K ρ1 S1.length H1 L1 σ1 → P.is σ σ1 → Ext ρ S H ρ1 S1 H1 → Post K mg rel W0 ρ1 S1 H1 σ (k L1 S1) Q → Q' σ1 H1) :
    TGm K mg P g v σ H Q' := ⟨ρ, S, L, x, s, l, r, (Post.bind (rel1 := relLP K P σ) h).mono fun u H1 ⟨ρ1, S1, a, _, e, s1, v, q⟩ => hq ρ1 S1 a u H1 s1 v.1 v.2 e q⟩
theorem Post.rel {α β : Type} {K : PySem.W.Frag} {mg : Str → Option Value} {rel rel' : Rel α β} {W : WX} {ρ : Rho} {S : Store} {H : Hp} {σ : L2.St} {r : R α} {Q : β → Hp → Prop} (h : Post K mg rel W ρ S H σ r Q) (hr : ∀ ρ S H a u, rel' ρ S H a u → rel ρ S H a u) : Post K mg rel' W ρ S H σ r Q := by
  cases r with
  | ok a S' => exact fun ρ' H' u e s v => h ρ' H' u e s (hr _ _ _ _ _ v)
  | exn x S' => exact h
  | bad => exact h
theorem gs_cons {g : MG} {r : MGs} (h1 : PGm X P e g) (h2 : PGsm X P es r) (hs : (assignEach (e :: es) X.env).map (·.2) = assign e X.env :: (assignEach es X.env).map (·.2) := by rfl) : PGsm X P (e :: es) (gsCons g r) := PGs.imp (pgs_cons h1 h2 hs) fun v σ H Q ⟨ρ, S, L, x, s, l, r, h⟩ => by
  cases x with
  | nil => exact h.elim
  | cons y ys =>
    obtain ⟨u, us, e1, r1, r2⟩ := r.cons_of
    refine ⟨u, us, e1, TGm.bind s l r1 h fun ρ1 S1 L1 σ1 H1 s1 l1 p1 e h => ?_⟩
    exact ⟨ρ1, S1, L1, ys, s1, l1, VRs.ext s e _ _ r2, h.sig.rel fun _ _ _ _ _ q => ⟨q.1, P.trans _ _ _ p1 q.2⟩⟩
/-- a, b = a tuple: what is unpacked has just that length -/
theorem g_tup {r : MGs} {kk : Nat} {n : Nat} (hc : X.calm = true) (h : PGsm X P es r) (hl : ∀ vs L S, vs.length ≠ n → r vs L S = .bad) (hn : (assignEach es X.env).length = n := by rfl) (hst : (assignEach es X.env).findIdx? (·.1) = none := by rfl) :
    PGm X P (.Tuple es kk pos) (Mp.gTup r) := PG.imp (pg_tup hc h hn hst) fun v σ H Q ⟨ρ, S, L, x, s, l, rr, h⟩ => by
  cases x with
  | tup vs =>
    simp only [VR] at rr
    obtain ⟨a, xs, e1, q, r2⟩ := rr
    have hlen : vs.length = n := by
      by_cases z : vs.length = n
      · exact z
      · have h' : Post X.K X.mg (relLP X.K P σ) W0 ρ S H σ (r vs L S) Q := h
        rw [hl vs L S z] at h'
        exact h'.elim
    exact ⟨a, xs, e1, q.sq, by rw [← r2.length]; exact hlen, ρ, S, L, vs, s, l, r2, h⟩
  | _ => exact h.elim
theorem gsl_nil : ∀ vs L S, vs.length ≠ 0 → gsNil vs L S = .bad := fun vs L S h => by cases vs with
  | nil => exact absurd rfl h
  | cons => rfl
theorem gsl_cons {g : MG} {r : MGs} {n : Nat} (hr : ∀ vs L S, vs.length ≠ n → r vs L S = .bad) (hg : ∀ v L S e S', g v L S ≠ .exn e S') : ∀ vs L S, vs.length ≠ n + 1 → gsCons g r vs L S = .bad := fun vs L S h => by
  cases vs with
  | nil => rfl
  | cons v vs =>
    show (g v L S).bind _ = _
    cases q : g v L S with
    | ok a S1 => exact hr vs a S1 (by simp at h; exact h)
    | exn e S1 => exact absurd q (hg v L S e S1)
    | bad => rfl
theorem gN_ne {i : Nat} : ∀ v L S e S', gN i v L S ≠ .exn e S' := fun _ _ _ _ _ h => by cases h
theorem gTup_ne {r : MGs} (h : ∀ vs L S e S', r vs L S ≠ .exn e S') : ∀ v L S e S', Mp.gTup r v L S ≠ .exn e S' := fun v L S e S' q => by
  cases v with
  | tup vs => exact h vs L S e S' q
  | _ => cases q
/-- a store at o[i]: by values -/
def rSet (X : Cx) (p : Val → Val → Val → Store → R Unit) : TSet := fun o i v H Q => ∃ ρ S x y z, SR X.K X.mg ρ S H ∧ VR X.K ρ S.length H x o ∧ VR X.K ρ S.length H y i ∧ VR X.K ρ S.length H z v ∧ Post X.K X.mg (fun _ _ _ (_ : Unit) (_ : Unit) => True) W0 ρ S H [] (p x y z S) fun _ H' => Q H'
theorem g_sub {o i : Expr} {mo mi : ME} {p : Val → Val → Val → Store → R Unit} (ho : PEm X W0 o mo) (hi : PEm X W0 i mi) (hs : PSet X (rSet X p))
    (ha : ∀ v, assign (.Subscript o i pos) X.env v = (do
      let ov ← holding [v] (eval o X.env)
      let iv ← holding [v, ov] (eval i X.env)
      standAt pos
      holding [v, ov, iv] (setItem ov iv v)
      release [v, ov, iv] []) := by intro _; rfl) : PGm X P (.Subscript o i pos) (Mp.gSub mo mi p) := PG.imp (pg_sub ho hi hs ha) fun v σ H Q ⟨ρ, S, L, x, s, l, r, h⟩ => by
  refine TEm.bind s l h fun ρ1 S1 x1 u1 H1 s1 l1 e1 v1 h => TEm.bind s1 l1 h fun ρ2 S2 x2 u2 H2 s2 l2 e2 v2 h => ?_
  refine ⟨ρ2, S2, x1, x2, x, s2, VR.ext s1 e2 _ _ v1, v2, VR.ext s1 e2 _ _ (VR.ext s e1 _ _ r), ?_⟩
  have h := Post.bind (rel1 := fun _ _ _ (_ : Unit) (_ : Unit) => True) h
  refine (Post.noExn h W0).sig.mono ?_
  rintro u H3 ⟨ρ3, S3, a3, _, e3, s3, _, h⟩
  exact Post.here (rel := relLP X.K P σ) s3 h ⟨l2.ext s2 e3, P.refl _⟩
theorem PostF.thenN {α : Type} {K : PySem.W.Frag} {mg : Str → Option Value} {ρ : Rho} {S : Store} {H : Hp} {L : Loc} {r : R α} {k : α → Store → F} {D : Ends} (h : PostF K mg W ρ S H (thenF L (noExn r) k) D) : PostF K mg W ρ S H (thenF L (noExn r) k) D ∧ ∀ e S', r ≠ .exn e S' := by
  refine ⟨h, fun e S' q => ?_⟩
  rw [q] at h
  exact h.elim
/-- behind a part that raises nothing -/
theorem PostF.quiet {α β : Type} {K : PySem.W.Frag} {mg : Str → Option Value} {rel : Rel α β} {ρ : Rho} {S : Store} {H : Hp} {L : Loc} {σ : L2.St} {r : R α} {k : α → Store → F} {D : Ends} (h : PostF K mg W ρ S H (thenF L (noExn r) k) D) :
    Post K mg rel W0 ρ S H σ r fun u H1 => ∃ ρ1 S1 a, r = .ok a S1 ∧ Ext ρ S H ρ1 S1 H1 ∧ SR K mg ρ1 S1 H1 ∧ rel ρ1 S1 H1 a u ∧ PostF K mg W ρ1 S1 H1 (k a S1) D := by
  cases r with
  | ok a S1 => exact fun ρ1 H1 u e s v => ⟨ρ1, S1, a, rfl, e, s, v, PostF.step s e h⟩
  | exn x S' => exact h.elim
  | bad => exact h
theorem asg_of {g : MG} {D : Ends} {σ : L2.St} {H : Hp} (h : TSm X.K X.mg W (sAsg m g) D σ H) : tAsg (TEm X.K X.mg W m) (TGm X.K X.mg anyStep g) D σ H := by
  obtain ⟨ρ, S, L, s, l, h⟩ := h
  refine TEm.then s l h fun ρ1 S1 x u H1 s1 l1 e1 v h => ⟨ρ1, S1, L, x, s1, l1, v, ?_⟩
  refine (PostF.quiet (rel := relLP X.K anyStep σ) h).mono ?_
  rintro σ2 H2 ⟨ρ2, S2, L2, _, e2, s2, l2, h⟩
  exact PostF.nxHere s2 l2.1 h
theorem s_asg {tg : Expr} {g : MG} (he : PEm X W e m) (hg : PGm X anyStep tg g) (hs : swapsWithSole [tg] e pos.line X.env = pure false := by rfl) (hw : swappedStores [tg] e X.env = pure none := by rfl)
    (h1 : (assignEach [tg] X.env).map (·.2) = [assign tg X.env] := by rfl) : PSm X W (.Assign [tg] e pos) (sAsg m g) := PS.imp (ps_asg he hg hs hw h1) fun _ _ _ => asg_of
/-- x = e -/
theorem s_set {i : Nat} {x : Str} {pos' : Pos} (hN : X.N.Nodup) (hi : X.N[i]? = some x) (hx : L2.Loc X.env.scope x) (he : PEm X W e m) (hs : swapsWith e (some (.Name x pos')) pos.line X.env = pure false := by rfl) (hf : X.fn x = true ∨ X.env.scope.names.lookup x = some .local := by first | exact .inl rfl | exact .inr rfl | assumption) :
    PSm X W (.Assign [.Name x pos'] e pos) (sAsg m (gN i)) := PS.imp (ps_set hN hi hx he hs hf) fun D σ H ⟨ρ, S, L, s, l, h⟩ =>
  TEm.then s l h fun ρ1 S1 x u H1 s1 l1 e1 v h => PostF.nxHere s1 (l1.set v) h
def rIp (X : Cx) (p : P2) : TIp := rP2 X p
/-- x op= e -/
theorem s_aug {i : Nat} {x : Str} {op : Operator} {p : P2} {pos' : Pos} (hN : X.N.Nodup) (hi : X.N[i]? = some x) (hx : L2.Loc X.env.scope x) (he : PEm X W e m) (ho : OpS X (inplaceOp op) p) (hf : X.fn x = true ∨ X.env.scope.names.lookup x = some .local := by first | exact .inl rfl | exact .inr rfl | assumption) :
    PSm X W (.AugAssign (.Name x pos') op e pos) (sAug i m p) := PS.imp (ps_aug (ti := rP2 X p) hN hi hx he ho hf) fun D σ H ⟨ρ, S, L, s, l, h⟩ => by
  have h' : PostF X.K X.mg W ρ S H (thenF L (getL L i S) fun x S0 => thenF L (m L S0) fun y S1 => thenF L (noExn (p x y S1)) fun z S2 => .nx (L.set i (some z)) S2) D := h
  unfold getL at h'
  split at h'
  · rename_i v q
    obtain ⟨u, hu, r⟩ := l.2 i v q
    refine ⟨u, hu, TEm.then s l h' fun ρ1 S1 y w H1 s1 l1 e1 v1 h => ⟨ρ1, S1, v, y, s1, VR.ext s e1 _ _ r, v1, ?_⟩⟩
    refine (PostF.quiet (rel := relV X.K) h).mono ?_
    rintro z H2 ⟨ρ2, S2, z2, _, e2, s2, v2, h⟩
    exact PostF.nxHere s2 ((l1.ext s1 e2).set v2) h
  · exact h'.elim
end
end Mp

/-! Mp4: instances, calls, loops, comprehensions, raise, try, defs. -/
namespace Mp
open PySem PySem.Spec L2
section
variable {K : PySem.W.Frag} {mg : Str → Option Value} {ρ : Rho} {S : Store} {H : Hp} {n : Nat}
theorem KR.lookup {f : Str} : ∀ {l : List (Str × Val)} {m : List (Str × V)}, KR K ρ n H l m → match l.lookup f, m.lookup f with
    | some v, some u => VR K ρ n H v u
    | none, none => True
    | _, _ => False
  | [], m, h => by
    have : m = [] := by have := h.1; simpa using this.symm
    subst this
    simp [List.lookup]
  | (g, v) :: l, m, h => by
    obtain ⟨h1, h2⟩ := h
    cases m with
    | nil => simp at h1
    | cons p m =>
      obtain ⟨g', u⟩ := p
      simp only [List.map_cons, List.cons.injEq] at h1
      obtain ⟨rfl, h1⟩ := h1
      simp only [List.map_cons] at h2
      obtain ⟨u0, r, e, h2, h3⟩ := h2.cons_of
      cases e
      have ih := KR.lookup (f := f) (l := l) (m := m) ⟨h1, h3⟩
      by_cases q : f = g
      · subst q
        simp only [List.lookup, beq_self_eq_true]
        exact h2
      · have : (f == g) = false := by simpa using q
        simp only [List.lookup, this]
        exact ih
theorem KR.set {f : Str} {v : Val} {u : V} (hv : VR K ρ n H v u) : ∀ {l : List (Str × Val)} {m : List (Str × V)}, KR K ρ n H l m → KR K ρ n H (setF f v l) (putF f u m)
  | [], m, h => by
    have : m = [] := by have := h.1; simpa using this.symm
    subst this
    exact ⟨rfl, by show VRs K ρ n H [v] [u]; exact VRs.cons hv VRs.nil⟩
  | (g, w) :: l, m, h => by
    obtain ⟨h1, h2⟩ := h
    cases m with
    | nil => simp at h1
    | cons p m =>
      obtain ⟨g', x⟩ := p
      simp only [List.map_cons, List.cons.injEq] at h1
      obtain ⟨rfl, h1⟩ := h1
      simp only [List.map_cons] at h2
      obtain ⟨u0, r, e, h2, h3⟩ := h2.cons_of
      cases e
      have ih := KR.set (f := f) hv (l := l) (m := m) ⟨h1, h3⟩
      by_cases q : g = f
      · have e1 : setF f v ((g, w) :: l) = (f, v) :: l := by simp [setF, q]
        have e2 : putF f u ((g, x) :: m) = (f, u) :: m := by simp [putF, q]
        rw [e1, e2]
        exact ⟨by simp [h1], by simp only [List.map_cons]; exact VRs.cons hv h3⟩
      · have e1 : setF f v ((g, w) :: l) = (g, w) :: setF f v l := by simp [setF, q]
        have e2 : putF f u ((g, x) :: m) = (g, x) :: putF f u m := by simp [putF, q]
        rw [e1, e2]
        exact ⟨by simp [ih.1], by simp only [List.map_cons]; exact VRs.cons h2 ih.2⟩
theorem KR.len {κ : Type} {l : List (κ × Val)} {m : List (κ × V)} (h : KR K ρ n H l m) : l.length = m.length := by
  have := congrArg List.length h.1
  simpa using this
/-- an instance's place -/
theorem insAt_of (s : SR K mg ρ S H) {x : Val} {u : V} {c : Str} {fs : List (Str × Val)} (r : VR K ρ S.length H x u) (h : insAt x S = some (c, fs)) :
    ∃ i C dx us, x = .ref i ∧ i < S.length ∧ S[i]? = some (.ins c fs) ∧ u = .ref (ρ i) ∧ mg c = some (.ref C) ∧ H (ρ i) = some (.ins C dx us) ∧ KR K ρ S.length H fs us := by
  cases x with
  | ref i =>
    simp only [VR] at r
    simp only [insAt] at h
    split at h
    · rename_i c' fs' q
      cases h
      obtain ⟨C, dx, us, h1, h2, h3⟩ := s.ob i _ q
      exact ⟨i, C, dx, us, rfl, r.1, q, r.2, h1, h2, h3⟩
    · cases h
  | _ => cases h
end
section
variable {X : Cx} {W : WX} {e a b c : Expr} {es : List Expr} {m ma mb mc : ME} {pos : Pos} {cn f : Str} {C : Addr}
/-- e.f -/
theorem e_fld (hm : X.mg cn = some (.ref C)) (hc : Cls X.K C) (hn : NoAttr X.K C f) (he : PEm X W e m) (hb : attributeBase e f X.env (eval e X.env) = eval e X.env := by rfl) : PEm X W (.Attribute e f pos) (m1 (getF cn f) m) := PE.imp (pe_fld he hb) fun σ H Q h => by
  obtain ⟨ρ, S, L, s, l, p⟩ := m1_of h
  refine ⟨ρ, S, L, s, l, p.mono fun u H1 ⟨ρ1, S1, x, s1, v, q⟩ => ?_⟩
  unfold getF at q
  split at q
  · rename_i c' fs qi
    obtain ⟨i, C', dx, us, rfl, hi, hs, rfl, g1, g2, g3⟩ := insAt_of s1 v qi
    by_cases hcn : c' = cn
    · subst hcn
      rw [bite_pos (by simp)] at q
      rw [hm] at g1
      cases g1
      have lk := g3.lookup (f := f)
      split at lk
      · rename_i v' u' e1 e2
        rw [e1] at q
        exact ⟨_, C, dx, us, u', rfl, g2, hc, hn, e2, Post.here (rel := relV X.K) s1 q lk⟩
      · rename_i e1 e2
        rw [e1] at q
        exact q.elim
      · exact lk.elim
    · rw [bite_neg (by simpa using hcn)] at q
      exact q.elim
  · exact q.elim
/-- o.f = e -/
theorem put_of {σ : L2.St} {ρ : Rho} {S : Store} {H : Hp} {x : Val} {u : V} {y : Val} {w : V} {L : Loc} {D : Ends} (hm : X.mg cn = some (.ref C)) (s : SR X.K X.mg ρ S H) (l : LR X.K ρ S.length H L σ) (r : VR X.K ρ S.length H x u) (ry : VR X.K ρ S.length H y w)
    (h : PostF X.K X.mg W ρ S H (thenF L (noExn (putFld cn f y x S)) fun _ S3 => .nx L S3) D) : ∃ a dx us, u = .ref a ∧ H a = some (.ins C dx us) ∧ us.length < 1000 ∧ D.nx σ (upd H a (.ins C dx (putF f w us))) := by
  cases x with
  | ref i =>
    simp only [putFld] at h
    split at h
    · rename_i c' fs q
      obtain ⟨C', dx, us, g1, g2, g3⟩ := s.ob i _ q
      have hi : i < S.length := (List.getElem?_eq_some_iff.mp q).1
      by_cases hcn : c' = cn
      · subst hcn
        rw [hm] at g1
        cases g1
        by_cases hl : fs.length < 1000
        · rw [bite_pos (by simp [hl])] at h
          simp only [VR] at r
          refine ⟨ρ i, dx, us, r.2, g2, by rw [← g3.len]; exact hl, ?_⟩
          have e : Ext ρ S H ρ (S.set i (.ins c' (setF f y fs))) (upd H (ρ i) (.ins C dx (putF f w us))) := Ext.put hi
          have s' : SR X.K X.mg ρ (S.set i (.ins c' (setF f y fs))) (upd H (ρ i) (.ins C dx (putF f w us))) := s.put hi ⟨C, dx, _, hm, upd_same, by
            have := KR.ext s e (g3.set (f := f) ry)
            simpa using this⟩
          exact h ρ _ σ e s' (l.ext s e)
        · rw [bite_neg (by simp [hl])] at h
          exact h.elim
      · rw [bite_neg (by simp [hcn])] at h
        exact h.elim
    · exact h.elim
  | _ => exact h.elim
theorem s_fld {o value : Expr} {mo mv : ME} {pos' : Pos} (hm : X.mg cn = some (.ref C)) (hc : Cls X.K C) (hn : NoAttr X.K C f) (ho : PEm X W o mo) (hv : PEm X W value mv) (hs : swapsWith value (some (.Attribute o f pos')) pos.line X.env = pure false := by rfl) :
    PSm X W (.Assign [.Attribute o f pos'] value pos) (Mp.sFld cn f mo mv) := PS.imp (ps_fld ho hv hs) fun D σ H ⟨ρ, S, L, s, l, h⟩ =>
  TEm.then s l h fun ρ1 S1 y w H1 s1 l1 e1 v1 h => TEm.then s1 l1 h fun ρ2 S2 x u H2 s2 l2 e2 v2 h => by
    obtain ⟨a, dx, us, rfl, g2, g3, g4⟩ := put_of hm s2 l2 v2 (VR.ext s1 e2 _ _ v1) h
    exact ⟨a, C, dx, us, rfl, g2, hc, hn, g3, g4⟩
theorem s_fldAug {o value : Expr} {mo mv : ME} {tpos : Pos} {op : Operator} {p : P2} (hm : X.mg cn = some (.ref C)) (hc : Cls X.K C) (hn : NoAttr X.K C f) (ho : PEm X W o mo) (hv : PEm X W value mv) (hop : OpS X (inplaceOp op) p) :
    PSm X W (.AugAssign (.Attribute o f tpos) op value pos) (Mp.sFldAug cn f mo mv p) := PS.imp (ps_fldaug ho hv (show InOp X op (rP2 X p) from fun pins s σ H x y u v Q I rx ry q => hop pins s σ H x y u v Q I rx ry q)) fun D σ H ⟨ρ, S, L, s, l, h⟩ =>
  TEm.then s l h fun ρ1 S1 x u H1 s1 l1 e1 v1 h => by
    have h := PostF.quiet (rel := relV X.K) (σ := σ) h
    unfold getF at h
    split at h
    · rename_i c' fs qi
      obtain ⟨i, C', dx, us, rfl, hi, hs, rfl, g1, g2, g3⟩ := insAt_of s1 v1 qi
      by_cases hcn : c' = cn
      · subst hcn
        rw [bite_pos (by simp)] at h
        rw [hm] at g1
        cases g1
        have lk := g3.lookup (f := f)
        split at lk
        · rename_i v' u' q1 q2
          rw [q1] at h
          obtain ⟨ρ2, S2, y2, e2, e2', s2, v2, h⟩ := Post.here (rel := relV X.K) s1 h lk
          cases e2
          have l2 := l1.ext s1 e2'
          refine ⟨_, C, dx, us, u', rfl, g2, hc, hn, q2, TEm.then s2 l2 h fun ρ3 S3 z w H3 s3 l3 e3 v3 h => ?_⟩
          refine ⟨ρ3, S3, v', z, s3, VR.ext s2 e3 _ _ v2, v3, (PostF.quiet (rel := relV X.K) h).mono ?_⟩
          rintro t H4 ⟨ρ4, S4, t4, _, e4, s4, v4, h⟩
          have r4 := VR.ext s3 e4 _ _ (VR.ext s2 e3 _ _ (VR.ext s1 e2' _ _ v1))
          obtain ⟨a, dx', us', ea, g2', g3', g4'⟩ := put_of (σ := σ) hm s4 (l3.ext s3 e4) r4 v4 h
          cases ea
          exact ⟨dx', us', g2', g3', g4'⟩
        · rename_i q1 q2
          rw [q1] at h
          exact h.elim
        · exact lk.elim
      · rw [bite_neg (by simpa using hcn)] at h
        exact h.elim
    · exact h.elim
/-! ### defs and their calls -/
/-- the promise of a def that does what f says -/
def spM (K : PySem.W.Frag) (mg : Str → Option Value) (np : Nat) (f : Fn) : Sp := fun us H Q E => ∃ ρ S vs, vs.length = np ∧ SR K mg ρ S H ∧ VRs K ρ S.length H vs us ∧ Post K mg (relV K) (fun cls d _ H' => E cls d H') ρ S H [] (f vs S) Q
theorem Post.wish {α β : Type} {K : PySem.W.Frag} {mg : Str → Option Value} {rel : Rel α β} {ρ : Rho} {S : Store} {H : Hp} {σ σ' : L2.St} {W W' : WX} {r : R α} {Q : β → Hp → Prop} (h : Post K mg rel W ρ S H σ r Q) (w : ∀ cls d H', W cls d σ H' → W' cls d σ' H') : Post K mg rel W' ρ S H σ' r Q := by
  cases r with
  | ok a S' => exact h
  | exn x S' => exact fun ρ' H' c d e s q => w _ _ _ (h ρ' H' c d e s q)
  | bad => exact h
/-- what is known of a def at a name of the module -/
structure DefAt (P : Program) (w : World) (K : PySem.W.Frag) (mg : Str → Option Value) (base : Heap) (k : Nat) (x : Str) (np : Nat) (f : Fn) : Prop where
  ex : ∃ fa fd ps, ps.length = np ∧ mg x = some (.ref fa) ∧ PySem.W.keepIn K (.ref fa) = true ∧ Binds K fd ps [] ∧ FnOk P w K mg base (L2.CX P w) k fa fd ps (spM K mg np f)
theorem fn_len {f : Fn} {np : Nat} (hf : ∀ vs S, vs.length ≠ np → f vs S = .bad) {K : PySem.W.Frag} {mg : Str → Option Value} {ρ : Rho} {S : Store} {H : Hp} {σ : L2.St} {W : WX} {vs : List Val} {Q : VK} (h : Post K mg (relV K) W ρ S H σ (f vs S) Q) : vs.length = np := by
  by_cases z : vs.length = np
  · exact z
  · rw [hf vs S z] at h
    exact h.elim
theorem fDef_len {n np : Nat} {b : MS} : ∀ vs S, vs.length ≠ np → fDef n np b vs S = .bad := fun vs S h => by
  unfold fDef
  rw [bite_neg (by simpa using h)]
theorem call_of {σ : L2.St} {H : Hp} {Q : VK} {a : MA} {g : Fn} {np : Nat} (hg : ∀ vs S, vs.length ≠ np → g vs S = .bad) (h : TEm X.K X.mg W (mA g a) σ H Q) : tCallS (spM X.K X.mg np g) (WE W) (TAm X.K X.mg W a) σ H Q := by
  obtain ⟨ρ, S, L, s, l, h⟩ := h
  exact TAm.bind s l h fun ρ1 S1 vs us H1 s1 l1 e v q => ⟨ρ1, S1, vs, fn_len hg q, s1, v, q.wish fun _ _ _ z => z⟩
theorem e_call {x : Str} {k np : Nat} {g : Fn} {a : MA} {p : Pos} (D : DefAt X.prog X.w X.K X.mg X.base k x np g) (hl : ∀ vs S, vs.length ≠ np → g vs S = .bad) (tk : Takes X W) (hr : Room k X.A) (hg : Gl X x) (ha : PAm X W (e :: es) a) (hdb : (x == ("__debug__" : Str)) = false := by decide)
    (he : starEach (e :: es) X.env = (false, eval e X.env) :: starEach es X.env := by rfl) (hpl : (backTo pos (starEach es X.env)).any (·.1) = false := by rfl) : PEm X W (.Call (.Name x p) (e :: es) [] pos) (mA g a) := by
  obtain ⟨fa, fd, ps, hp, hm, kp, hb, G⟩ := D.ex
  exact PE.imp (pe_callS G hr hg hm kp hb (fun σ => passAt tk σ) ha hdb he hpl) fun σ H Q h => call_of hl h
theorem e_call0 {x : Str} {k : Nat} {g : Fn} {p : Pos} (D : DefAt X.prog X.w X.K X.mg X.base k x 0 g) (tk : Takes X W) (hr : Room k X.A) (hg : Gl X x) (hdb : (x == ("__debug__" : Str)) = false := by decide) : PEm X W (.Call (.Name x p) [] [] pos) (mA g aNil) := by
  obtain ⟨fa, fd, ps, hp, hm, kp, hb, G⟩ := D.ex
  refine ⟨fun pins s σ H Q I h => ?_⟩
  obtain ⟨ρ, S, L, sr, l, h⟩ := h
  refine wpAny_Call_Name_kw (ld_glob I hg hm ?_ hdb)
  exact PySem.W.callWith_K0 I.kIn kp (run_fnS (us := []) (vs := []) (E := fun σ => WE W σ) G hr hb (passAt tk σ) I .nil ⟨ρ, S, [], rfl, sr, VRs.nil, h.wish fun _ _ _ z => z⟩)
/-- what is known of a method -/
structure MethAt (P : Program) (w : World) (K : PySem.W.Frag) (mg : Str → Option Value) (base : Heap) (k : Nat) (cn m : Str) (np : Nat) (f : Fn) : Prop where
  ex : ∃ C fa fd ps, ps.length = np ∧ mg cn = some (.ref C) ∧ Cls K C ∧ Meth K C m fa ∧ Binds K fd ps [] ∧ FnOk P w K mg base (L2.CX P w) k fa fd ps (spM K mg np f)
theorem meth_of {σ : L2.St} {ρ : Rho} {S : Store} {H : Hp} {x : Val} {u : V} {mn : Str} {C : Addr} {a : MA} {L : Loc} {Q : VK} {g : Fn} (hm : X.mg cn = some (.ref C)) (s : SR X.K X.mg ρ S H) (l : LR X.K ρ S.length H L σ) (r : VR X.K ρ S.length H x u)
    (h : Post X.K X.mg (relV X.K) W ρ S H σ (match insAt x S with
      | some (c', fs) => bite (decide (c' = cn) && (fs.lookup mn).isNone) ((a L S).bind fun vs S2 => g (x :: vs) S2) .bad
      | none => .bad) Q) : ∃ i dx us, x = .ref i ∧ u = .ref (ρ i) ∧ H (ρ i) = some (.ins C dx us) ∧ us.lookup mn = none ∧ Post X.K X.mg (relV X.K) W ρ S H σ ((a L S).bind fun vs S2 => g (x :: vs) S2) Q := by
  split at h
  · rename_i c' fs qi
    obtain ⟨i, C', dx, us, rfl, hi, hs, rfl, g1, g2, g3⟩ := insAt_of s r qi
    by_cases hcn : c' = cn
    · subst hcn
      rw [hm] at g1
      cases g1
      have lk := g3.lookup (f := mn)
      split at lk
      · rename_i v' u' q1 q2
        rw [bite_neg (by simp [q1])] at h
        exact h.elim
      · rename_i q1 q2
        rw [bite_pos (by simp [q1])] at h
        exact ⟨i, dx, us, rfl, rfl, g2, q2, h⟩
      · exact lk.elim
    · rw [bite_neg (by simp [hcn])] at h
      exact h.elim
  · exact h.elim
theorem e_meth {o : Expr} {mo : ME} {mn : Str} {k np : Nat} {g : Fn} {a : MA} {apos : Pos} {pl : Sem Bool} (D : MethAt X.prog X.w X.K X.mg X.base k cn mn np g) (hl : ∀ vs S, vs.length ≠ np → g vs S = .bad) (tk : Takes X W) (hr : Room k X.A) (ho : PEm X W o mo) (ha : PAm X W (e :: es) a)
    (hst : starEach (e :: es) X.env = (false, eval e X.env) :: starEach es X.env := by rfl) (hpl : (backTo pos (starEach es X.env)).any (·.1) = false := by rfl)
    (ht : eval (.Call (.Attribute o mn apos) (e :: es) [] pos) X.env = (do
      let ov ← eval o X.env
      standAt apos.atName
      let (f, first) ← holding [ov] (getMethod ov mn pl)
      callWith pos f first (backTo pos (starEach (e :: es) X.env)) (backToKw pos (keywordEach [] X.env))) := by rfl) : PEm X W (.Call (.Attribute o mn apos) (e :: es) [] pos) (mMeth cn mn g mo a) := by
  obtain ⟨C, fa, fd, ps, hp, hm, hc, hme, hb, G⟩ := D.ex
  refine ⟨fun pins s σ H Q I h => ?_⟩
  obtain ⟨ρ, S, L, sr, l, h⟩ := h
  have h := Post.bind (rel1 := relV X.K) h
  refine PySem.W.methodCall_KW (pl := pl) (thn (ho.run pins s σ H _ I ⟨ρ, S, L, sr, l, h⟩) fun u s1 hh => ?_) ht
  obtain ⟨x, H1, I1, rx, ρ1, S1, xv, _, e1, s1r, v1, h⟩ := hh
  have l1 := l.ext sr e1
  obtain ⟨i, dx, us, rfl, rfl, g2, g3, h⟩ := meth_of (W := W) hm s1r l1 v1 h
  obtain rfl : u = Value.ref (ρ1 i) := rx
  refine getmeth_ok I1 g2 hc hme g3 ?_
  have h := Post.bind (rel1 := relVs X.K) h
  refine PySem.W.callWith_K (first := [.ref (ρ1 i)]) (h₀ := X.base) I.ok.mod.kin hme.kp (thn (ha.run pos pins s1 σ H1 _ I1 ⟨ρ1, S1, L, s1r, l1, h⟩) fun us2 s2 hh => ?_) hst hpl
  obtain ⟨vs, H2, I2, r, ρ2, S2, xs, _, e2, s2r, v2, h⟩ := hh
  refine ⟨I2.kIn, ?_⟩
  have hx := VR.ext s1r e2 _ _ v1
  exact run_fnS (us := .ref (ρ1 i) :: us2) (vs := .ref (ρ1 i) :: vs) (E := fun σ => WE W σ) G hr hb (passAt tk σ) I2 (.cons rfl r) ⟨ρ2, S2, _, fn_len hl h, s2r, VRs.cons hx v2, h.wish fun _ _ _ z => z⟩
theorem e_meth0 {o : Expr} {mo : ME} {mn : Str} {k : Nat} {g : Fn} {apos : Pos} {pl : Sem Bool} (D : MethAt X.prog X.w X.K X.mg X.base k cn mn 1 g) (hl : ∀ vs S, vs.length ≠ 1 → g vs S = .bad) (tk : Takes X W) (hr : Room k X.A) (ho : PEm X W o mo)
    (ht : eval (.Call (.Attribute o mn apos) [] [] pos) X.env = (do
      let ov ← eval o X.env
      standAt apos.atName
      let (f, first) ← holding [ov] (getMethod ov mn pl)
      callWith pos f first (backTo pos (starEach [] X.env)) (backToKw pos (keywordEach [] X.env))) := by rfl) : PEm X W (.Call (.Attribute o mn apos) [] [] pos) (mMeth cn mn g mo aNil) := by
  obtain ⟨C, fa, fd, ps, hp, hm, hc, hme, hb, G⟩ := D.ex
  refine ⟨fun pins s σ H Q I h => ?_⟩
  obtain ⟨ρ, S, L, sr, l, h⟩ := h
  have h := Post.bind (rel1 := relV X.K) h
  refine PySem.W.methodCall_KW (pl := pl) (thn (ho.run pins s σ H _ I ⟨ρ, S, L, sr, l, h⟩) fun u s1 hh => ?_) ht
  obtain ⟨x, H1, I1, rx, ρ1, S1, xv, _, e1, s1r, v1, h⟩ := hh
  have l1 := l.ext sr e1
  obtain ⟨i, dx, us, rfl, rfl, g2, g3, h⟩ := meth_of (W := W) hm s1r l1 v1 h
  obtain rfl : u = Value.ref (ρ1 i) := rx
  refine getmeth_ok I1 g2 hc hme g3 ?_
  exact PySem.W.callWith_K0 (first := [.ref (ρ1 i)]) I1.kIn hme.kp (run_fnS (us := [.ref (ρ1 i)]) (vs := [.ref (ρ1 i)]) (E := fun σ => WE W σ) G hr hb (passAt tk σ) I1 (.cons rfl .nil) ⟨ρ1, S1, _, rfl, s1r, VRs.cons v1 VRs.nil, h.wish fun _ _ _ z => z⟩)
/-- what is known of a class with an __init__ -/
structure MakeAt (P : Program) (w : World) (K : PySem.W.Frag) (mg : Str → Option Value) (base : Heap) (k : Nat) (cn : Str) (np : Nat) (f : Fn) : Prop where
  ex : ∃ C fa fd ps, ps.length = np + 1 ∧ mg cn = some (.ref C) ∧ Mk K C fa ∧ Binds K fd ps [] ∧ FnOk P w K mg base (L2.CX P w) k fa fd ps (spM K mg (np + 1) f)
/-- like run_make, what is raised wished for at the slots -/
theorem run_makeS {CX : CXT} {k : Nat} {f : Addr} {fd : FuncData} {ps : List Str} {sp : Sp} {E : L2.St → XK} {pins : List (Addr × Obj)} {σ : L2.St} {H : Hp} {s : Shared} {Q : VK} {us : List Value} {vs : List V} (M : Mk X.K C f) (F : FnOk X.prog X.w X.K X.mg X.base CX k f fd ps sp) (hr : Room (k + 1) X.A) (hb : Binds X.K fd ps [])
    (hx : PassesAt CX X σ (E σ)) (I : Inv X pins σ H s) (r : Vals vs us)
    (h : ∀ x dx, H x = none → H dx = none → dx ≠ x → sp (.ref x :: vs) (upd (upd H dx (.own x)) x (.ins C dx [])) (fun v H2 => v = .non ∧ Q (.ref x) H2) (E σ)) :
    wpAny (model X.prog X.w) X.A (call (.ref C) us) (EP X pins σ Q) X.xe s := by
  have hq := h (s.heap.objs.size + 1) s.heap.objs.size (I.hok.fresh (Nat.le_succ _)) (I.hok.fresh (Nat.le_refl _)) (Nat.ne_of_lt (Nat.lt_succ_self _))
  have I2 := Inv.made (C := C) I
  have r2 : Vals (V.ref (s.heap.objs.size + 1) :: vs) (Value.ref (s.heap.objs.size + 1) :: us) := .cons rfl r
  have hl : (Value.ref (s.heap.objs.size + 1) :: us ++ []).length = ps.length := by
    have e := r2.length
    rw [F.len _ _ _ _ hq] at e
    rw [List.append_nil]
    exact e.symm
  have hb' := hb _ (Value.ref (s.heap.objs.size + 1) :: us) I2.kIn hl
  rw [List.append_nil] at hb'
  refine wpAny_call (make_map (f := f) I.kIn M.makes M.init (beq_iff_eq.mp M.fn) (codeAny_mono (F.run _ X.stack _ _ ⟨Value.ref (s.heap.objs.size + 1) :: us, []⟩ (Value.ref (s.heap.objs.size + 1) :: us) _ _ (E σ) (hr.make C us [])
    (I2.env0.make C us []) hb' r2 hq) fun r s' hq' => ?_))
  cases r with
  | error e => exact hx pins _ _ e s' I2 hq'
  | ok fl =>
    cases fl with
    | ret u =>
      obtain ⟨v, H', I3, rv, ev, q3⟩ := I2.after hq'
      subst ev
      exact ⟨rv, ⟨V.ref (s.heap.objs.size + 1), H', I3, rfl, q3⟩⟩
    | next => exact False.elim hq'
    | brk => exact False.elim hq'
    | cont => exact False.elim hq'
theorem make_of {σ : L2.St} {ρ : Rho} {S : Store} {H : Hp} {vs : List Val} {us : List V} {Q : VK} {g : Fn} {np : Nat} (hm : X.mg cn = some (.ref C)) (hl : ∀ vs S, vs.length ≠ np + 1 → g vs S = .bad) (s : SR X.K X.mg ρ S H) (v : VRs X.K ρ S.length H vs us)
    (h : Post X.K X.mg (relV X.K) W ρ S H σ (fMake cn g vs S) Q) : ∀ x dx, H x = none → H dx = none → dx ≠ x → spM X.K X.mg (np + 1) g (.ref x :: us) (upd (upd H dx (.own x)) x (.ins C dx [])) (fun v H2 => v = .non ∧ Q (.ref x) H2) (fun cls d H' => W cls d σ H') := by
  intro x dx hx hdx hne
  have sd : SR X.K X.mg ρ S (upd H dx (.own x)) := s.side hdx
  have ed : Ext ρ S H ρ S (upd H dx (.own x)) := Ext.side hdx
  have hx' : upd H dx (.own x) x = none := by rw [upd_ne (Ne.symm hne)]; exact hx
  have s1 : SR X.K X.mg (newRho ρ S.length x) (S ++ [.ins cn []]) (upd (upd H dx (.own x)) x (.ins C dx [])) := sd.new hx' ⟨C, dx, [], hm, upd_same, rfl, by simp [VRs]⟩
  have e1 : Ext ρ S (upd H dx (.own x)) (newRho ρ S.length x) (S ++ [.ins cn []]) (upd (upd H dx (.own x)) x (.ins C dx [])) := Ext.new hx'
  have e2 := Ext.trans sd ed e1
  have hn : (S ++ [Ob.ins cn []]).length = S.length + 1 := by simp
  have h2 : Post X.K X.mg (relV X.K) W (newRho ρ S.length x) (S ++ [.ins cn []]) (upd (upd H dx (.own x)) x (.ins C dx [])) σ (fMake cn g vs S) Q := h.step s1 e2
  unfold fMake at h2
  have h3 := Post.bind (rel1 := relV X.K) h2
  have v0 : VR X.K (newRho ρ S.length x) (S ++ [Ob.ins cn []]).length (upd (upd H dx (.own x)) x (.ins C dx [])) (.ref S.length) (.ref x) := by
    simp only [VR, newRho_same]; exact ⟨by simp, trivial⟩
  refine ⟨_, _, _, fn_len hl h3, s1, VRs.cons v0 (VRs.ext s e2 _ _ v), (h3.wish fun _ _ _ z => z).mono ?_⟩
  rintro w H2 ⟨ρ2, S2, a, _, e3, s2, v2, h4⟩
  cases a with
  | non =>
    refine ⟨by simpa [relV, VR] using v2, ?_⟩
    refine Post.here (rel := relV X.K) s2 h4 ?_
    exact VR.ext s1 e3 _ _ v0
  | _ => exact h4.elim
theorem e_make {k np : Nat} {g : Fn} {a : MA} {p : Pos} (D : MakeAt X.prog X.w X.K X.mg X.base k cn np g) (hl : ∀ vs S, vs.length ≠ np + 1 → g vs S = .bad) (tk : Takes X W) (hr : Room (k + 1) X.A) (hg : Gl X cn) (ha : PAm X W (e :: es) a) (hdb : (cn == ("__debug__" : Str)) = false := by decide)
    (he : starEach (e :: es) X.env = (false, eval e X.env) :: starEach es X.env := by rfl) (hpl : (backTo pos (starEach es X.env)).any (·.1) = false := by rfl) : PEm X W (.Call (.Name cn p) (e :: es) [] pos) (mA (fMake cn g) a) := by
  obtain ⟨C, fa, fd, ps, hp, hm, M, hb, G⟩ := D.ex
  refine ⟨fun pins s σ H Q I h => ?_⟩
  obtain ⟨ρ, S, L, sr, l, h⟩ := h
  refine wpAny_Call_Name_kw (ld_glob I hg hm ?_ hdb)
  have h := Post.bind (rel1 := relVs X.K) h
  refine PySem.W.callWith_K (h₀ := X.base) I.ok.mod.kin M.kp (thn (ha.run pos pins s σ H _ I ⟨ρ, S, L, sr, l, h⟩) fun us s1 hh => ?_) he hpl
  obtain ⟨vs, H1, I1, r, ρ1, S1, xs, _, e1, s1r, v1, h⟩ := hh
  exact ⟨I1.kIn, run_makeS (E := fun σ => WE W σ) M G hr hb (passAt tk σ) I1 r (make_of hm hl s1r v1 h)⟩
theorem e_make0 {k : Nat} {g : Fn} {p : Pos} (D : MakeAt X.prog X.w X.K X.mg X.base k cn 0 g) (hl : ∀ vs S, vs.length ≠ 1 → g vs S = .bad) (tk : Takes X W) (hr : Room (k + 1) X.A) (hg : Gl X cn) (hdb : (cn == ("__debug__" : Str)) = false := by decide) : PEm X W (.Call (.Name cn p) [] [] pos) (mA (fMake cn g) aNil) := by
  obtain ⟨C, fa, fd, ps, hp, hm, M, hb, G⟩ := D.ex
  refine ⟨fun pins s σ H Q I h => ?_⟩
  obtain ⟨ρ, S, L, sr, l, h⟩ := h
  refine wpAny_Call_Name_kw (ld_glob I hg hm ?_ hdb)
  exact PySem.W.callWith_K0 I.kIn M.kp (run_makeS (E := fun σ => WE W σ) (us := []) (vs := []) M G hr hb (passAt tk σ) I .nil (make_of (vs := []) hm hl sr VRs.nil h))
/-- a built-in by its name; a built-in class -/
theorem e_blt {x : Str} {id : String} {g : Fn} {a : MA} {p : Pos} (hc : CallR X (.builtin id) (rF X g)) (hg : Gl X x) (hm : X.mg x = none) (hv : bootBuiltins x = some (.builtin id)) (ha : PAm X W (e :: es) a) (hn : x ≠ "__name__" := by decide) (hdb : (x == ("__debug__" : Str)) = false := by decide)
    (he : starEach (e :: es) X.env = (false, eval e X.env) :: starEach es X.env := by rfl) (hpl : (backTo pos (starEach es X.env)).any (·.1) = false := by rfl) : PEm X W (.Call (.Name x p) (e :: es) [] pos) (mB g a) := PE.imp (pe_callB hc hg hm hv ha hn hdb he hpl) fun _ _ _ => mB_of
theorem e_ty {x : Str} {T : String} {g : Fn} {a : MA} {p : Pos} (hc : CallR X (.type T) (rF X g)) (hg : Gl X x) (hm : X.mg x = none) (hv : bootBuiltins x = some (.type T)) (ha : PAm X W (e :: es) a) (hn : x ≠ "__name__" := by decide) (hdb : (x == ("__debug__" : Str)) = false := by decide)
    (he : starEach (e :: es) X.env = (false, eval e X.env) :: starEach es X.env := by rfl) (hpl : (backTo pos (starEach es X.env)).any (·.1) = false := by rfl) : PEm X W (.Call (.Name x p) (e :: es) [] pos) (mB g a) := PE.imp (pe_callTy hc hg hm hv ha hn hdb he hpl) fun _ _ _ => mB_of
end
end Mp

/-! Mp5: loops, comprehensions, raise, try, defs. -/
namespace Mp
open PySem PySem.Spec L2
/-- what is walked: the layer's turns are the items, one by one, as long as what is to be kept is kept -/
def ItR (K : PySem.W.Frag) (mg : Str → Option Value) : Rel It L2.It := fun ρ0 S0 H0 it J => ∀ ρ S H, Ext ρ0 S0 H0 ρ S H → SR K mg ρ S H → it.keep S → ∀ i : Nat,
  (∀ x, it.items[i]? = some x → J.go i H ∧ ∀ u H', J.yld i H u H' → Ext ρ S H ρ S H' ∧ SR K mg ρ S H' ∧ VR K ρ S.length H' x u) ∧ (it.items[i]? = none → J.stop i H)
def TIm (K : PySem.W.Frag) (mg : Str → Option Value) (W : WX) (mi : MI) : TI := fun σ H R => ∃ ρ S L, SR K mg ρ S H ∧ LR K ρ S.length H L σ ∧ Post K mg (ItR K mg) W ρ S H σ (mi L S) R
abbrev PIm (X : Cx) (W : WX) (tg e : Expr) (mi : MI) : Prop := PI X tg e (TIm X.K X.mg W mi)
theorem PI.imp {X : Cx} {tg e : Expr} {t t' : TI} (h : PI X tg e t) (i : ∀ σ H R, t' σ H R → t σ H R) : PI X tg e t' := ⟨fun pins s σ H R I q => h.run pins s σ H R I (i σ H R q)⟩
section
variable {X : Cx} {W : WX} {e a b c : Expr} {es : List Expr} {m ma mb mc : ME} {pos : Pos} {st : Stmt} {sts rest : List Stmt} {k k1 k2 : MS}
theorem Ext.keepEq {ρ ρ' : Rho} {S S' : Store} {H H' : Hp} (e : Ext ρ S H ρ' S' H') {i : Nat} (hi : i < S.length) : ρ' i = ρ i := e.rho i hi
theorem SR.lst {K : PySem.W.Frag} {mg : Str → Option Value} {ρ : Rho} {S : Store} {H : Hp} (s : SR K mg ρ S H) {i : Nat} {xs : List Val} (q : S[i]? = some (.lst xs)) : ∃ us, H (ρ i) = some (.lst us) ∧ VRs K ρ S.length H xs us := s.ob i _ q
theorem SqL.inj_of {K : PySem.W.Frag} {X : Cx} {pins : List (Addr × Obj)} {σ : L2.St} {H : Hp} {s : Shared} : True := trivial
/-- the walk by values: iter(v) -/
theorem i_val {tg : Expr} (hl : PEm X W e m) : PIm X W tg e (iV m) := by
  refine ⟨fun pins s σ H R I h => ?_⟩
  obtain ⟨ρ, S, L, sr, l, h⟩ := h
  refine thn (hl.run pins s σ H _ I ⟨ρ, S, L, sr, l, Post.bind (rel1 := relV X.K) h⟩) fun v s1 hh => ?_
  obtain ⟨x, H1, I1, r1, ρ1, S1, xv, _, e1, s1r, v1, h⟩ := hh
  have one : ∀ {fp : Addr}, fp = s1.heap.objs.size → FpOk X pins H1 fp := fun {fp} z => by
    subst z
    exact I1.fpOk (Nat.le_refl _) (I1.hok.fresh (Nat.le_refl _))
  have onlist : ∀ {ad : Addr} {us : List V} {xs : List Val} {kp : Store → Prop}, SqL X.K H1 ad us → r1 = r1 → x = .ref ad → 
      (∀ ρ S H, Ext ρ1 S1 H1 ρ S H → SR X.K X.mg ρ S H → kp S → ∃ us, SqL X.K H ad us ∧ VRs X.K ρ S.length H xs us) → Post X.K X.mg (ItR X.K X.mg) W ρ1 S1 H1 σ (.ok ⟨xs, kp⟩ S1) R → wpAny (model X.prog X.w) X.A (pyIter v) (PIE X pins σ tg R) X.xe s1 := by
    intro ad us xs kp hq _ ex hk hp
    subst ex
    cases r1
    obtain ⟨its, rv, p, hz⟩ := I1.list hq
    refine wpAny_pyIter_list p.isList ?_
    have q := Post.here (u := Itl X.K ad) s1r hp (fun ρ S H e s kpS i => by
      obtain ⟨us', hs', vs'⟩ := hk ρ S H e s kpS
      refine ⟨fun x hx => ?_, fun hx => ⟨us', hs', ?_⟩⟩
      · obtain ⟨u, hu, ru⟩ := vs'.get hx
        refine ⟨⟨us', u, hs', hu⟩, fun u2 H2 y => ?_⟩
        obtain ⟨eH, y⟩ := y
        subst eH
        have := y us' hs'
        rw [hu] at this
        cases this
        exact ⟨Ext.refl _ _ _, s, ru⟩
      · have := List.getElem?_eq_none_iff.mp hx
        rw [← vs'.length]
        exact this)
    refine ⟨s1.heap.objs.size, [s1.heap.objs.size], _, _, H1, rfl, I1.kept (t' := s1.toks) fun b o e => Heap.get?_push_of_some _ e, turn_list ad _, ⟨_, Heap.get?_push_size _ rfl, rfl, rfl⟩, fun b hb => one (by simpa using hb), q⟩
  cases xv with
  | ref i =>
    simp only [itOf] at h
    split at h
    · rename_i xs q
      obtain ⟨us, g1, g2⟩ := s1r.lst q
      have hi : i < S1.length := (List.getElem?_eq_some_iff.mp q).1
      have v1' : i < S1.length ∧ x = .ref (ρ1 i) := by simpa [relV, VR] using v1
      refine onlist (SqL.of g1) rfl v1'.2 (fun ρ S H e s kpS => ?_) h
      obtain ⟨us', g1', g2'⟩ := s.lst kpS
      rw [e.rho i hi] at g1'
      exact ⟨us', SqL.of g1', g2'⟩
    · exact h.elim
  | fl ns =>
    have v1' : ∃ a, x = .ref a ∧ FzL X.K H1 a (ns.map V.int) := by simpa [relV, VR] using v1
    obtain ⟨ad, ex, hf⟩ := v1'
    exact onlist hf.seq rfl ex (fun ρ S H e s _ => ⟨_, (e.fz s1r hf).seq, VRs.of_ints ns⟩) h
  | tup vs =>
    have v1' : ∃ a us, x = .ref a ∧ TupA X.K H1 a vs us ∧ VRs X.K ρ1 S1.length H1 vs us := by simpa [relV, VR] using v1
    obtain ⟨ad, us, ex, hq, hvs⟩ := v1'
    replace hq := hq.sq
    subst ex
    cases r1
    obtain ⟨its, rv, p, hz⟩ := I1.tuple hq
    refine wpAny_pyIter_tuple (show s1.heap.IsTuple ad its.toArray from p) ?_
    have q := Post.here (u := Itt X.K ad) s1r h (fun ρ S H e s _ i => by
      have hs' := e.tup s1r hq
      have vs' := VRs.ext s1r e _ _ hvs
      refine ⟨fun x hx => ?_, fun hx => ⟨us, hs', ?_⟩⟩
      · obtain ⟨u, hu, ru⟩ := vs'.get hx
        refine ⟨⟨us, u, hs', hu⟩, fun u2 H2 y => ?_⟩
        obtain ⟨eH, y⟩ := y
        subst eH
        have := y us hs'
        rw [hu] at this
        cases this
        exact ⟨Ext.refl _ _ _, s, ru⟩
      · have := List.getElem?_eq_none_iff.mp hx
        rw [← vs'.length]
        exact this)
    exact ⟨s1.heap.objs.size, [s1.heap.objs.size], _, _, H1, rfl, I1.kept (t' := s1.toks) fun b o e => Heap.get?_push_of_some _ e, turn_tuple ad _, ⟨_, Heap.get?_push_size _ rfl, rfl, rfl⟩, fun b hb => one (by simpa using hb), q⟩
  | str z =>
    have v1' : x = .str z := by simpa [relV, VR] using v1
    subst v1'
    obtain ⟨t, rfl⟩ := r1
    have q := Post.here (u := Its z) s1r h (fun ρ S H e s _ i => by
      refine ⟨fun x hx => ?_, fun hx => ?_⟩
      · rw [List.getElem?_map] at hx
        cases hc : z.cps.toList[i]? with
        | none => rw [hc] at hx; cases hx
        | some cc =>
          rw [hc] at hx
          cases hx
          have hlt := (List.getElem?_eq_some_iff.mp hc).1
          refine ⟨(by show i < z.cps.size; simpa using hlt), fun u2 H2 y => ?_⟩
          obtain ⟨eH, c', hc', eu⟩ := y
          subst eH
          have e3 : z.cps[i]? = some cc := by rw [← Array.getElem?_toList]; exact hc
          rw [e3] at hc'
          cases hc'
          subst eu
          exact ⟨Ext.refl _ _ _, s, by simp [VR]⟩
      · have := List.getElem?_eq_none_iff.mp hx
        show z.cps.size ≤ i
        simpa using this)
    cases ha : z.cps.all (· < 128)
    · exact wpAny_pyIter_wide ha (pi_one (tk := s1.toks) I1 _ (turn_str _ z t "str_iterator" (.inr rfl)) ⟨_, Heap.get?_push_size _ rfl, rfl, rfl⟩ q)
    · exact wpAny_pyIter_ascii ha (pi_one (tk := s1.toks) I1 _ (turn_str _ z t "str_ascii_iterator" (.inl rfl)) ⟨_, Heap.get?_push_size _ rfl, rfl, rfl⟩ q)
  | _ => exact h.elim
/-! ### for, while -/
theorem for_of {mi : MI} {g : MG} {D : Ends} {σ : L2.St} {H : Hp} (h : TSm X.K X.mg W (Mp.sFor mi g k) D σ H) : tFor (TIm X.K X.mg W mi) (TGm X.K X.mg anyStep g) (TSm X.K X.mg W k) D σ H := by
  obtain ⟨ρ, S, L, s, l, h⟩ := h
  refine ⟨ρ, S, L, s, l, (PostF.then (rel := ItR X.K X.mg) s l h).mono ?_⟩
  rintro J H1 ⟨ρ1, S1, it, _, e1, s1, hJ, h⟩
  have l1 := l.ext s e1
  refine ⟨fun i n σ' H' => i + n = it.items.length ∧ ∃ ρ2 S2 L2, Ext ρ1 S1 H1 ρ2 S2 H' ∧ SR X.K X.mg ρ2 S2 H' ∧ LR X.K ρ2 S2.length H' L2 σ' ∧ PostF X.K X.mg W ρ2 S2 H' (forLoop it.keep g k (it.items.drop i) L2 S2) D,
    ⟨it.items.length, by simp, ρ1, S1, L, Ext.refl _ _ _, s1, l1, by simpa using h⟩, ?_⟩
  rintro i n σ2 H2 ⟨hn, ρ2, S2, L2, e2, s2, l2, h⟩
  cases hd : it.items.drop i with
  | nil =>
    rw [hd] at h
    unfold forLoop at h
    by_cases kp : it.keep S2
    · rw [gate_pos kp] at h
      have hx : it.items[i]? = none := by
        have := congrArg List.length hd
        simp at this
        simp
        omega
      exact .inl ⟨(hJ ρ2 S2 H2 e2 s2 kp i).2 hx, PostF.nxHere s2 l2 h⟩
    · rw [gate_neg kp] at h
      exact h.elim
  | cons x xs =>
    rw [hd] at h
    unfold forLoop at h
    have hx : it.items[i]? = some x := by
      have : (it.items.drop i)[0]? = some x := by rw [hd]; rfl
      simpa using this
    have hlt := (List.getElem?_eq_some_iff.mp hx).1
    have hxs : it.items.drop (i + 1) = xs := by
      have : (it.items.drop i).drop 1 = xs := by rw [hd]; rfl
      rw [List.drop_drop] at this
      exact this
    by_cases kp : it.keep S2
    · rw [gate_pos kp] at h
      obtain ⟨go, yl⟩ := (hJ ρ2 S2 H2 e2 s2 kp i).1 x hx
      refine .inr ⟨go, fun σ' H' => i + 1 + (n - 1) = it.items.length ∧ ∃ ρ3 S3 L3, Ext ρ1 S1 H1 ρ3 S3 H' ∧ SR X.K X.mg ρ3 S3 H' ∧ LR X.K ρ3 S3.length H' L3 σ' ∧ PostF X.K X.mg W ρ3 S3 H' (forLoop it.keep g k (it.items.drop (i + 1)) L3 S3) D,
        fun σ' H' q => ⟨n - 1, by omega, q⟩, fun u H' y => ?_⟩
      obtain ⟨ey, sy, vy⟩ := yl u H' y
      have ly := l2.ext s2 ey
      have e2y := Ext.trans s2 e2 ey
      refine ⟨ρ2, S2, L2, x, sy, ly, vy, ?_⟩
      cases hg : g x L2 S2 with
      | ok L3 S3 =>
        rw [hg] at h
        intro ρ3 H3 σ3 e3 s3 ⟨l3, _⟩
        refine ⟨ρ3, S3, L3, s3, l3, ?_⟩
        have h' : PostF X.K X.mg W ρ2 S2 H2 (turn (k L3 S3) (forLoop it.keep g k xs)) D := h
        cases hk : k L3 S3 with
        | nx L4 S4 =>
          rw [hk] at h'
          exact fun ρ4 H4 σ4 e4 s4 l4 => ⟨by omega, ρ4, S4, L4, Ext.trans s3 (Ext.trans sy e2y e3) e4, s4, l4, by rw [hxs]; exact PostF.step s4 (Ext.trans s3 (Ext.trans sy ey e3) e4) h'⟩
        | ct L4 S4 =>
          rw [hk] at h'
          exact fun ρ4 H4 σ4 e4 s4 l4 => ⟨by omega, ρ4, S4, L4, Ext.trans s3 (Ext.trans sy e2y e3) e4, s4, l4, by rw [hxs]; exact PostF.step s4 (Ext.trans s3 (Ext.trans sy ey e3) e4) h'⟩
        | bk L4 S4 =>
          rw [hk] at h'
          exact fun ρ4 H4 σ4 e4 s4 l4 => h' ρ4 H4 σ4 (Ext.trans s3 (Ext.trans sy ey e3) e4) s4 l4
        | rt v S4 =>
          rw [hk] at h'
          exact fun ρ4 H4 σ4 e4 s4 l4 => h' ρ4 H4 σ4 (Ext.trans s3 (Ext.trans sy ey e3) e4) s4 l4
        | exn x4 L4 S4 =>
          rw [hk] at h'
          exact fun ρ4 H4 σ4 c d e4 s4 l4 q4 => h' ρ4 H4 σ4 c d (Ext.trans s3 (Ext.trans sy ey e3) e4) s4 l4 q4
        | bad =>
          rw [hk] at h'
          exact h'.elim
      | exn x4 S3 =>
        rw [hg] at h
        exact h.elim
      | bad =>
        rw [hg] at h
        exact h.elim
    · rw [gate_neg kp] at h
      exact h.elim
theorem s_for {tg iter : Expr} {mi : MI} {g : MG} (hp : PassesOwn (model X.prog X.w) X.A X.env X.xe) (hc : X.calm = true) (hi : PIm X W tg iter mi) (hg : PGm X anyStep tg g) (hb : PSsm X W sts k)
    (hs : ∀ x, foldedSetIterable iter X.env x = pure x := by intro _; rfl) : PSm X W (.For tg iter sts [] pos) (Mp.sFor mi g k) := PS.imp (ps_for hp hc hi hg hb hs) fun _ _ _ => for_of
theorem while_of {mc : MT} {D : Ends} {σ : L2.St} {H : Hp} (h : TSm X.K X.mg W (Mp.sWhile mc k) D σ H) : tWhile (TTm X.K X.mg W mc) (TSm X.K X.mg W k) D σ H := by
  obtain ⟨ρ, S, L, s, l, h⟩ := h
  refine ⟨fun n σ' H' => ∃ ρ2 S2 L2, SR X.K X.mg ρ2 S2 H' ∧ LR X.K ρ2 S2.length H' L2 σ' ∧ PostF X.K X.mg W ρ2 S2 H' (whileLoop mc k n L2 S2) D, ⟨MANY, ρ, S, L, s, l, h⟩, ?_⟩
  rintro n σ2 H2 ⟨ρ2, S2, L2, s2, l2, h⟩
  cases n with
  | zero => exact h.elim
  | succ n =>
    refine TTm.then s2 l2 h fun ρ3 S3 b H3 s3 l3 e3 h => ?_
    cases b with
    | false => exact iteF (PostF.nxHere s3 l3 h)
    | true =>
      refine iteT ⟨fun σ' H' => ∃ ρ2 S2 L2, SR X.K X.mg ρ2 S2 H' ∧ LR X.K ρ2 S2.length H' L2 σ' ∧ PostF X.K X.mg W ρ2 S2 H' (whileLoop mc k n L2 S2) D, fun σ' H' q => ⟨n, Nat.lt_succ_self n, q⟩, ρ3, S3, L2, s3, l3, ?_⟩
      have h' : PostF X.K X.mg W ρ3 S3 H3 (turn (k L2 S3) (whileLoop mc k n)) D := h
      cases hk : k L2 S3 with
      | nx L4 S4 => rw [hk] at h'; exact fun ρ4 H4 σ4 e4 s4 l4 => ⟨ρ4, S4, L4, s4, l4, PostF.step s4 e4 h'⟩
      | ct L4 S4 => rw [hk] at h'; exact fun ρ4 H4 σ4 e4 s4 l4 => ⟨ρ4, S4, L4, s4, l4, PostF.step s4 e4 h'⟩
      | bk L4 S4 => rw [hk] at h'; exact h'
      | rt v S4 => rw [hk] at h'; exact h'
      | exn x L4 S4 => rw [hk] at h'; exact h'
      | bad => rw [hk] at h'; exact h'.elim
theorem s_while {mc : MT} (hp : PassesOwn (model X.prog X.w) X.A X.env X.xe) (hc : PTm X W c mc) (hb : PSsm X W sts k) : PSm X W (.While c sts [] pos) (Mp.sWhile mc k) := PS.imp (ps_while hp hc hb) fun _ _ _ => while_of
/-! ### comprehensions -/
theorem Post.bind0 {γ β : Type} {rel : Rel γ β} {α δ : Type} {rel1 : Rel α δ} {K : PySem.W.Frag} {mg : Str → Option Value} {ρ : Rho} {S : Store} {H : Hp} {σ σ' : L2.St} {r : R α} {k : α → Store → R γ} {Q : β → Hp → Prop} (h : Post K mg rel W ρ S H σ ((Mp.noExn r).bind k) Q) :
    Post K mg rel1 W0 ρ S H σ' r fun u H1 => ∃ ρ1 S1 a, r = .ok a S1 ∧ Ext ρ S H ρ1 S1 H1 ∧ SR K mg ρ1 S1 H1 ∧ rel1 ρ1 S1 H1 a u ∧ Post K mg rel W ρ1 S1 H1 σ (k a S1) Q := by
  cases r with
  | ok a S1 => exact fun ρ1 H1 u e s v => ⟨ρ1, S1, a, rfl, e, s, v, Post.step s e h⟩
  | exn x S' => exact h.elim
  | bad => exact h
/-- an object beside the store: it stays where it is -/
theorem Ext.stay {ρ ρ' : Rho} {S S' : Store} {H H' : Hp} (e : Ext ρ S H ρ' S' H') {D : Addr} {o : HO} (h : H D = some o) (hn : ∀ i, i < S.length → ρ i ≠ D) : H' D = some o ∧ ∀ i, i < S'.length → ρ' i ≠ D := by
  refine ⟨e.frame _ _ h hn, fun i hi z => ?_⟩
  by_cases q : i < S.length
  · exact hn i q ((e.rho i q).symm.trans z)
  · have := e.fresh i (Nat.le_of_not_lt q) hi
    rw [z, h] at this
    cases this
/-- the object beside the store is changed: values do not lean on it -/
theorem SqT.beside {K : PySem.W.Frag} {H : Hp} {D : Addr} {us us' : List V} (h : H D = some (.lst us)) {a : Addr} {xs : List V} (q : SqT K H a xs) : SqT K (upd H D (.lst us')) a xs := by
  rcases q with (q | ⟨o, q⟩) | q
  · exact .inl (.inl (by rw [upd_ne (ne_of q h (by intro z; cases z))]; exact q))
  · exact .inl (.inr ⟨o, by rw [upd_ne (ne_of q h (by intro z; cases z))]; exact q⟩)
  · exact .inr q
theorem TupA.beside {K : PySem.W.Frag} {H : Hp} {D : Addr} {us us' : List V} (h : H D = some (.lst us)) {a : Addr} {vs : List Val} {xs : List V} (q : TupA K H a vs xs) : TupA K (upd H D (.lst us')) a vs xs := by
  rcases q with q | ⟨c, q⟩
  · exact .inl (by rw [upd_ne (ne_of q h (by intro z; cases z))]; exact q)
  · exact .inr ⟨c, SqT.beside h q⟩
theorem FzL.beside {K : PySem.W.Frag} {H : Hp} {D : Addr} {us us' : List V} (h : H D = some (.lst us)) {a : Addr} {xs : List V} (q : FzL K H a xs) : FzL K (upd H D (.lst us')) a xs := by
  rcases q with ⟨o, q⟩ | q
  · exact .inl ⟨o, by rw [upd_ne (ne_of q h (by intro z; cases z))]; exact q⟩
  · exact .inr q
mutual
theorem VR.beside {K : PySem.W.Frag} {ρ : Rho} {n : Nat} {H : Hp} {D : Addr} {us us' : List V} (h : H D = some (.lst us)) : ∀ (v : Val) (u : V), VR K ρ n H v u → VR K ρ n (upd H D (.lst us')) v u
  | .non, u, q => by simpa [VR] using q
  | .bl b, u, q => by simpa [VR] using q
  | .int b, u, q => by simpa [VR] using q
  | .str b, u, q => by simpa [VR] using q
  | .ref b, u, q => by simpa [VR] using q
  | .tup vs, u, q => by
    simp only [VR] at q ⊢
    obtain ⟨a, xs, e1, q, r⟩ := q
    exact ⟨a, xs, e1, TupA.beside h q, VRs.beside h vs xs r⟩
  | .fl ns, u, q => by
    simp only [VR] at q ⊢
    obtain ⟨a, e1, q⟩ := q
    exact ⟨a, e1, FzL.beside h q⟩
theorem VRs.beside {K : PySem.W.Frag} {ρ : Rho} {n : Nat} {H : Hp} {D : Addr} {us us' : List V} (h : H D = some (.lst us)) : ∀ (v : List Val) (u : List V), VRs K ρ n H v u → VRs K ρ n (upd H D (.lst us')) v u
  | [], u, q => by simpa [VRs] using q
  | v :: vs, u, q => by
    simp only [VRs] at q ⊢
    obtain ⟨x, r, e1, h1, h2⟩ := q
    exact ⟨x, r, e1, VR.beside h v x h1, VRs.beside h vs r h2⟩
end
theorem SR.beside {K : PySem.W.Frag} {mg : Str → Option Value} {ρ : Rho} {S : Store} {H : Hp} {D : Addr} {us us' : List V} (s : SR K mg ρ S H) (h : H D = some (.lst us)) (hn : ∀ i, i < S.length → ρ i ≠ D) : SR K mg ρ S (upd H D (.lst us')) := by
  refine ⟨fun i o q => ?_, s.inj⟩
  have hi : i < S.length := (List.getElem?_eq_some_iff.mp q).1
  have hh : upd H D (.lst us') (ρ i) = H (ρ i) := upd_ne (hn i hi)
  have z := s.ob i o q
  cases o with
  | lst xs => obtain ⟨us, a, c⟩ := z; exact ⟨us, by rw [hh]; exact a, VRs.beside h _ _ c⟩
  | dK xs => obtain ⟨us, a, c⟩ := z; exact ⟨us, by rw [hh]; exact a, c.1, VRs.beside h _ _ c.2⟩
  | dT xs => obtain ⟨us, a, c⟩ := z; exact ⟨us, by rw [hh]; exact a, c.1, VRs.beside h _ _ c.2⟩
  | ins c0 fs => obtain ⟨C, dx, us, m, a, c⟩ := z; exact ⟨C, dx, us, m, by rw [hh]; exact a, c.1, VRs.beside h _ _ c.2⟩
theorem LR.beside {K : PySem.W.Frag} {ρ : Rho} {n : Nat} {H : Hp} {D : Addr} {us us' : List V} {L : Loc} {σ : L2.St} (h : H D = some (.lst us)) (l : LR K ρ n H L σ) : LR K ρ n (upd H D (.lst us')) L σ :=
  ⟨l.1, fun i v q => by obtain ⟨u, q1, q2⟩ := l.2 i v q; exact ⟨u, q1, VR.beside h v u q2⟩⟩
/-- changes beside the store, seen from the beginning (where D was not there) -/
theorem Ext.beside {ρ ρ' : Rho} {S S' : Store} {H H' : Hp} (e : Ext ρ S H ρ' S' H') {D : Addr} {o : HO} (hD : H D = none) : Ext ρ S H ρ' S' (upd H' D o) :=
  ⟨e.rho, e.le, e.fresh, fun a u h hn => by rw [upd_ne (ne_of_none h hD)]; exact e.frame a u h hn⟩
theorem lc_of {mi : MI} {g : MG} {mc : MT} {me : ME} {vs : List Nat} {σ : L2.St} {H : Hp} {Q : VK} (h : TEm X.K X.mg W (Mp.mLc mi vs g mc me) σ H Q) :
    tLc (TIm X.K X.mg W mi) (TGm X.K X.mg (wipeStep vs) g) (TTm X.K X.mg W0 mc) (TEm X.K X.mg W0 me) vs σ H Q := by
  obtain ⟨ρ, S, L, s, l, h⟩ := h
  refine ⟨ρ, S, L, s, l, (Post.bind (rel1 := ItR X.K X.mg) h).mono ?_⟩
  rintro J H1 ⟨ρ1, S1, it, _, e1, s1, hJ, h⟩ D hD
  have l1 := (l.ext s e1).wipe vs
  -- the invariant: what is made so far stands at D, beside the store
  refine ⟨fun i n H' => i + n = it.items.length ∧ ∃ ρ2 S2 acc ys, Ext ρ1 S1 H1 ρ2 S2 H' ∧ SR X.K X.mg ρ2 S2 H' ∧ (∀ j, j < S2.length → ρ2 j ≠ D) ∧ H' D = some (.lst ys) ∧ VRs X.K ρ2 S2.length H' acc ys ∧
      Post X.K X.mg (relV X.K) W ρ1 S1 H1 σ ((lcLoop it.keep (wipeL L vs) g mc me (it.items.drop i) acc S2).bind fun ws S2 => .ok (.ref S2.length) (S2 ++ [.lst ws])) Q,
    ⟨it.items.length, by simp, ρ1, S1, [], [], Ext.side hD, s1.side hD, s1.ne_none hD, upd_same, VRs.nil, by simpa using h⟩, ?_⟩
  rintro i n H2 ⟨hn, ρ2, S2, acc, ys, e2, s2, nD, gD, va, h⟩
  have l2 : LR X.K ρ2 S2.length H2 (wipeL L vs) (L2.wipe σ vs) := l1.ext s1 e2
  cases hd : it.items.drop i with
  | nil =>
    rw [hd] at h
    unfold lcLoop at h
    by_cases kp : it.keep S2
    · rw [gate_pos kp] at h
      have hx : it.items[i]? = none := by
        have := congrArg List.length hd
        simp at this
        simp
        omega
      refine .inl ⟨(hJ ρ2 S2 H2 e2 s2 kp i).2 hx, ?_⟩
      -- the list joins the store
      have hl : (S2 ++ [Ob.lst acc]).length = S2.length + 1 := by simp
      have e3 : Ext ρ2 S2 (fun b => if b = D then none else H2 b) (newRho ρ2 S2.length D) (S2 ++ [.lst acc]) H2 := by
        refine ⟨fun j hj => newRho_ne (Nat.ne_of_lt hj), by simp, fun j h1 h2 => ?_, fun a o h _ => ?_⟩
        · have : j = S2.length := by simp at h2; omega
          subst this
          rw [newRho_same]
          simp
        · by_cases q : a = D
          · simp [q] at h
          · simpa [q] using h
      have e4 : Ext ρ1 S1 H1 (newRho ρ2 S2.length D) (S2 ++ [.lst acc]) H2 := by
        refine ⟨fun j hj => (newRho_ne (Nat.ne_of_lt (Nat.lt_of_lt_of_le hj e2.le))).trans (e2.rho j hj), Nat.le_trans e2.le (by simp), fun j h1 h2 => ?_, e2.frame⟩
        by_cases q : j = S2.length
        · subst q
          rw [newRho_same]
          exact hD
        · rw [newRho_ne q]
          exact e2.fresh j h1 (by simp at h2; omega)
      have e5 : Ext ρ2 S2 H2 (newRho ρ2 S2.length D) (S2 ++ [.lst acc]) H2 ∨ True := .inr trivial
      have vmono : ∀ (v : List Val) (u : List V), VRs X.K ρ2 S2.length H2 v u → VRs X.K (newRho ρ2 S2.length D) (S2 ++ [Ob.lst acc]).length H2 v u := by
        have key : ∀ (n : Nat) (v : Val) (u : V), sizeOf v ≤ n → VR X.K ρ2 S2.length H2 v u → VR X.K (newRho ρ2 S2.length D) (S2 ++ [Ob.lst acc]).length H2 v u := by
          intro n
          induction n with
          | zero => intro v u hz; cases v <;> simp at hz
          | succ n ih =>
            intro v u hz hv
            cases v with
            | tup ws =>
              simp only [VR] at hv ⊢
              obtain ⟨a, xs, q1, q2, q3⟩ := hv
              refine ⟨a, xs, q1, q2, ?_⟩
              simp at hz
              have hz' : sizeOf ws ≤ n := by omega
              clear hz q1 q2
              induction ws generalizing xs with
              | nil => simpa [VRs] using q3
              | cons w ws ihw =>
                obtain ⟨u1, r1, rfl, h1, h2⟩ := q3.cons_of
                simp at hz'
                exact VRs.cons (ih w u1 (by omega) h1) (ihw r1 h2 (by omega))
            | ref j =>
              simp only [VR] at hv ⊢
              exact ⟨by simp; omega, by rw [newRho_ne (Nat.ne_of_lt hv.1)]; exact hv.2⟩
            | _ => simpa [VR] using hv
        intro v
        induction v with
        | nil => intro u r; simpa [VRs] using r
        | cons w ws ihw =>
          intro u r
          obtain ⟨u1, r1, rfl, h1, h2⟩ := r.cons_of
          exact VRs.cons (key _ w u1 (Nat.le_refl _) h1) (ihw r1 h2)
      have s3 : SR X.K X.mg (newRho ρ2 S2.length D) (S2 ++ [.lst acc]) H2 := by
        refine ⟨fun j o q => ?_, fun a b ha hb z => ?_⟩
        · by_cases hj : j < S2.length
          · rw [List.getElem?_append_left hj] at q
            have z := s2.ob j o q
            rw [newRho_ne (Nat.ne_of_lt hj)]
            cases o with
            | lst xs => obtain ⟨us, a, c⟩ := z; exact ⟨us, a, vmono _ _ c⟩
            | dK xs => obtain ⟨us, a, c⟩ := z; exact ⟨us, a, c.1, vmono _ _ c.2⟩
            | dT xs => obtain ⟨us, a, c⟩ := z; exact ⟨us, a, c.1, vmono _ _ c.2⟩
            | ins c0 fs => obtain ⟨C, dx, us, m, a, c⟩ := z; exact ⟨C, dx, us, m, a, c.1, vmono _ _ c.2⟩
          · have hl : j < (S2 ++ [Ob.lst acc]).length := (List.getElem?_eq_some_iff.mp q).1
            have : j = S2.length := by simp at hl; omega
            subst this
            rw [newRho_same]
            simp at q
            subst q
            exact ⟨ys, gD, vmono _ _ va⟩
        · simp at ha hb
          by_cases h1 : a = S2.length
          · by_cases h2 : b = S2.length
            · rw [h1, h2]
            · rw [h1, newRho_same, newRho_ne h2] at z
              exact absurd z.symm (nD b (by omega))
          · by_cases h2 : b = S2.length
            · rw [h2, newRho_same, newRho_ne h1] at z
              exact absurd z (nD a (by omega))
            · rw [newRho_ne h1, newRho_ne h2] at z
              exact s2.inj a b (by omega) (by omega) z
      refine h _ _ _ e4 s3 ?_
      simp only [relV, VR, newRho_same]
      exact ⟨by simp, trivial⟩
    · rw [gate_neg kp] at h
      exact h.elim
  | cons x xs =>
    rw [hd] at h
    unfold lcLoop at h
    have hx : it.items[i]? = some x := by
      have : (it.items.drop i)[0]? = some x := by rw [hd]; rfl
      simpa using this
    have hlt := (List.getElem?_eq_some_iff.mp hx).1
    have hxs : it.items.drop (i + 1) = xs := by
      have : (it.items.drop i).drop 1 = xs := by rw [hd]; rfl
      rw [List.drop_drop] at this
      exact this
    by_cases kp : it.keep S2
    · rw [gate_pos kp] at h
      obtain ⟨go, yl⟩ := (hJ ρ2 S2 H2 e2 s2 kp i).1 x hx
      refine .inr ⟨go, fun H' => i + 1 + (n - 1) = it.items.length ∧ ∃ ρ3 S3 acc' ys', Ext ρ1 S1 H1 ρ3 S3 H' ∧ SR X.K X.mg ρ3 S3 H' ∧ (∀ j, j < S3.length → ρ3 j ≠ D) ∧ H' D = some (.lst ys') ∧ VRs X.K ρ3 S3.length H' acc' ys' ∧
          Post X.K X.mg (relV X.K) W ρ1 S1 H1 σ ((lcLoop it.keep (wipeL L vs) g mc me (it.items.drop (i + 1)) acc' S3).bind fun ws S2 => .ok (.ref S2.length) (S2 ++ [.lst ws])) Q,
        fun H' q => ⟨n - 1, by omega, q⟩, fun u H' y => ?_⟩
      obtain ⟨ey, sy, vy⟩ := yl u H' y
      have ly := l2.ext s2 ey
      have e2y := Ext.trans s2 e2 ey
      obtain ⟨gDy, nDy⟩ := ey.stay gD nD
      have vay := VRs.ext s2 ey _ _ va
      refine ⟨ρ2, S2, wipeL L vs, x, sy, ly, vy, ?_⟩
      cases hg : g x (wipeL L vs) S2 with
      | ok L3 S3 =>
        rw [hg] at h
        rintro ρ3 H3 σ3 e3 s3 ⟨l3, w3⟩
        obtain ⟨gD3, nD3⟩ := e3.stay gDy nDy
        have va3 := VRs.ext sy e3 _ _ vay
        have w3' : L2.wipe σ3 vs = L2.wipe σ vs := by
          have : L2.wipe σ3 vs = L2.wipe (L2.wipe σ vs) vs := w3
          rw [this]
          have idem : ∀ (r : List Nat) (σ : L2.St), (∀ i, i ∈ r → i ∈ vs) → L2.wipe (L2.wipe σ r) vs = L2.wipe σ vs := by
            intro r
            induction r with
            | nil => intro σ _; rfl
            | cons a r ih =>
              intro σ hr
              show L2.wipe ((L2.wipe σ r).set a none) vs = _
              rw [wipe_set (hr a (by simp)), ih σ fun i hi => hr i (by simp [hi])]
          exact idem vs σ fun i hi => hi
        refine ⟨w3', ρ3, S3, L3, s3, l3, ?_⟩
        have h : Post X.K X.mg (relV X.K) W ρ1 S1 H1 σ (((Mp.noExn (mc L3 S3)).bind fun t S2 => bite t ((Mp.noExn (me L3 S2)).bind fun v S3 => bite (decide (acc.length < LIM)) (lcLoop it.keep (wipeL L vs) g mc me xs (acc ++ [v]) S3) .bad) (lcLoop it.keep (wipeL L vs) g mc me xs acc S2)).bind fun ws S2 => .ok (.ref S2.length) (S2 ++ [.lst ws])) Q := h
        cases hc : mc L3 S3 with
        | ok t S4 =>
          rw [hc] at h
          intro ρ4 H4 t' e4 s4 et
          have et' : t' = t := et
          subst et'
          obtain ⟨gD4, nD4⟩ := e4.stay gD3 nD3
          have va4 := VRs.ext s3 e4 _ _ va3
          have e14 := Ext.trans s3 (Ext.trans sy e2y e3) e4
          cases t' with
          | false => exact iteF ⟨by omega, ρ4, S4, acc, ys, e14, s4, nD4, gD4, va4, by rw [hxs]; exact h⟩
          | true =>
            refine iteT ⟨ρ4, S4, L3, s4, l3.ext s3 e4, ?_⟩
            have h : Post X.K X.mg (relV X.K) W ρ1 S1 H1 σ (((Mp.noExn (me L3 S4)).bind fun v S3 => bite (decide (acc.length < LIM)) (lcLoop it.keep (wipeL L vs) g mc me xs (acc ++ [v]) S3) .bad).bind fun ws S2 => .ok (.ref S2.length) (S2 ++ [.lst ws])) Q := h
            cases he : me L3 S4 with
            | ok v S5 =>
              rw [he] at h
              intro ρ5 H5 u5 e5 s5 v5
              obtain ⟨gD5, nD5⟩ := e5.stay gD4 nD4
              have va5 := VRs.ext s4 e5 _ _ va4
              have h : Post X.K X.mg (relV X.K) W ρ1 S1 H1 σ ((bite (decide (acc.length < LIM)) (lcLoop it.keep (wipeL L vs) g mc me xs (acc ++ [v]) S5) .bad).bind fun ws S2 => .ok (.ref S2.length) (S2 ++ [.lst ws])) Q := h
              by_cases hz : acc.length < LIM
              · rw [bite_pos (decide_eq_true hz)] at h
                refine ⟨ys, gD5, by rw [← va5.length, ← lim_eq]; exact hz, by omega, ρ5, S5, acc ++ [v], ys ++ [u5], (Ext.trans s4 e14 e5).beside hD, s5.beside gD5 nD5, nD5, upd_same, ?_, by rw [hxs]; exact h⟩
                exact VRs.append (VRs.beside gD5 _ _ va5) (VRs.cons (VR.beside gD5 _ _ v5) VRs.nil)
              · rw [bite_neg (decide_eq_false hz)] at h
                exact h.elim
            | exn e5 S5 =>
              rw [he] at h
              exact h.elim
            | bad =>
              rw [he] at h
              exact h.elim
        | exn e5 S4 =>
          rw [hc] at h
          exact h.elim
        | bad =>
          rw [hc] at h
          exact h.elim
      | exn x4 S3 =>
        rw [hg] at h
        exact h.elim
      | bad =>
        rw [hg] at h
        exact h.elim
    · rw [gate_neg kp] at h
      exact h.elim
end
end Mp

/-! Mp6: comprehensions as rules, raise, try, defs. -/
namespace Mp
open PySem PySem.Spec L2
section
variable {X : Cx} {W : WX} {e a b c : Expr} {es : List Expr} {m ma mb mc : ME} {pos : Pos} {st : Stmt} {sts rest : List Stmt} {k k1 k2 : MS}
abbrev PTsm (X : Cx) (W : WX) (es : List Expr) (m : MT) : Prop := PTs X es (TTm X.K X.mg W m)
theorem PTs.imp {es : List Expr} {t t' : TT} (h : PTs X es t) (i : ∀ σ H Q, t' σ H Q → t σ H Q) : PTs X es t' := ⟨fun pins s σ H Q I q => h.run pins s σ H Q I (i σ H Q q)⟩
theorem ts_nil : PTsm X W [] Mp.tYes := PTs.imp pts_nil fun σ H Q ⟨ρ, S, L, s, l, h⟩ => Post.here (rel := relB) s h rfl
theorem ts_one {mt : MT} (h : PTm X W c mt) : PTsm X W [c] mt := pts_one h
theorem e_lc {elt tg iter : Expr} {ifs : List Expr} {scope : Scope} {own : List (Str × Nat)} {mi : MI} {g : MG} {mc : MT} {me : ME} (hc : X.calm = true) (hN : X.N.Nodup) (hi : PIm X W tg iter mi) (ok : BlkOk X.N X.env.scope scope own)
    (hg : ∀ (s : Shared) (H : Hp) (C : Addr) (cl : List (Str × Addr)) (fp : List Addr), PGm (X.blk s H scope (compEnvC scope cl C X.env) fp) (wipeStep (own.map (·.2))) tg g)
    (ht : ∀ (s : Shared) (H : Hp) (C : Addr) (cl : List (Str × Addr)) (fp : List Addr), PTsm (X.blk s H scope (compEnvC scope cl C X.env) fp) W0 ifs mc)
    (he : ∀ (s : Shared) (H : Hp) (C : Addr) (cl : List (Str × Addr)) (fp : List Addr), PEm (X.blk s H scope (compEnvC scope cl C X.env) fp) W0 elt me) (hs : ∀ x, foldedSetIterable iter X.env x = pure x := by intro _; rfl) :
    PEm X W (.ListComp elt [⟨tg, iter, ifs, 0⟩] scope pos) (Mp.mLc mi (own.map (·.2)) g mc me) := PE.imp (pe_lc hc hN hi ok hg ht he hs) fun _ _ _ => lc_of
theorem s_setLc {i : Nat} {y : Str} {py : Pos} {elt tg iter : Expr} {ifs : List Expr} {scope : Scope} {own : List (Str × Nat)} {spos : Pos} {mi : MI} {g : MG} {mc : MT} {me : ME} (hc : X.calm = true) (hN : X.N.Nodup) (hy : X.N[i]? = some y) (hyl : X.env.scope.names.lookup y = some .local)
    (hsw : swapsWith (.ListComp elt [⟨tg, iter, ifs, 0⟩] scope pos) (some (.Name y py)) spos.line X.env = pure true) (hi : PIm X W tg iter mi) (ok : BlkOk X.N X.env.scope scope own)
    (hg : ∀ (s : Shared) (H : Hp) (C : Addr) (cl : List (Str × Addr)) (fp : List Addr), PGm (X.blk s H scope (compEnvC scope cl C X.env) fp) (wipeStep (own.map (·.2))) tg g)
    (ht : ∀ (s : Shared) (H : Hp) (C : Addr) (cl : List (Str × Addr)) (fp : List Addr), PTsm (X.blk s H scope (compEnvC scope cl C X.env) fp) W0 ifs mc)
    (he : ∀ (s : Shared) (H : Hp) (C : Addr) (cl : List (Str × Addr)) (fp : List Addr), PEm (X.blk s H scope (compEnvC scope cl C X.env) fp) W0 elt me) (hs : ∀ x, foldedSetIterable iter X.env x = pure x := by intro _; rfl) :
    PSm X W (.Assign [.Name y py] (.ListComp elt [⟨tg, iter, ifs, 0⟩] scope pos) spos) (sAsg (Mp.mLc mi (own.map (·.2)) g mc me) (gN i)) := PS.imp (ps_setLc hc hN hy hyl hsw hi ok hg ht he hs) fun D σ H h => by
  obtain ⟨ρ, S, L, s, l, h⟩ := h
  exact lc_of (TEm.then s l h fun ρ1 S1 x u H1 s1 l1 e1 v h => PostF.nxHere s1 (l1.set v) h)
/-! ### raise -/
/-- X() of an own exception class without an __init__ -/
theorem pmk0 {C : Addr} {bmB : List Value} {B newId initId : String} {x : Str} {p : Pos} (F : PySem.ExcBaseFacts B newId initId bmB) (q : PySem.W.excIn X.K C bmB newId = true) (gC : X.mg x = some (.ref C)) (kC : PySem.W.keepIn X.K (.ref C) = true) (r : Raises X (.ref C)) (hg : Gl X x)
    (hdb : (x == ("__debug__" : Str)) = false := by decide) : PMk X (.Call (.Name x p) [] [] pos) (fun _ H Q => Q (.ref C) none H) := by
  intro pins s σ H Q I h
  refine wpAny_Call_Name_kw (ld_glob I hg gC ?_ hdb)
  refine PySem.W.callWith_K0 I.kIn kC ?_
  show wpAny _ _ (call (.ref C) []) _ _ _
  obtain ⟨bm, N, nm, qn, bs, hdct, sn, sub, ab, col, dd, k0, k1, k2, k3, k5, mN, hC, hN, hni, T⟩ := exc_obj I.kIn q
  refine wpAny_call_exc_subT F T hC hN hni (fun h' e hm => ?_) (by show 0 ≤ sizeLine; exact Nat.zero_le _)
  exact mk_of I hm r h (I.hok.gone hm.new)
/-- an own error class that has no __init__ -/
structure Err0 (K : PySem.W.Frag) (mg : Str → Option Value) (x : Str) : Prop where
  ex : ∃ C, mg x = some (.ref C) ∧ PySem.W.excIn K C [.type "ValueError", .type "Exception", .type "BaseException", .type "object"] "ValueError.__new__" = true ∧ PySem.W.keepIn K (.ref C) = true ∧
    PySem.W.subIn K (.ref C) (.type "BaseException") = some true ∧ PySem.W.typeIn K (.ref C) = some (.type "type")
theorem s_raise0 {x : Str} {p : Pos} {pos2 : Pos} (hc : X.calm = true) (tk : Takes X W) (E : Err0 X.K X.mg x) (hg : Gl X x) (hdb : (x == ("__debug__" : Str)) = false := by decide) : PSm X W (.Raise (some (.Call (.Name x p) [] [] pos)) none pos2) (sRaise x [] aNil) := by
  obtain ⟨C, gC, q, kC, r1, r2⟩ := E.ex
  have r : Raises X (.ref C) := raises_own r1 r2
  refine PS.imp (ps_raise hc tk (pmk0 (PySem.F.excBase_ValueError) q gC kC r hg hdb)) fun D σ H ⟨ρ, S, L, s, l, h⟩ => ?_
  exact h ρ H σ (.ref C) none (Ext.refl _ _ _) s l ⟨⟨C, gC, rfl⟩, fun z => absurd rfl z⟩
/-! ### try -/
/-- an except clause's classes: what is known of each error class that may come -/
def HdOk (K : PySem.W.Frag) (mg : Str → Option Value) (c : Value) (U : List (Str × Bool)) : Prop := ∀ p ∈ U, ∃ C, mg p.1 = some (.ref C) ∧ PySem.W.exmOne K (.ref C) c = some p.2
theorem lookup_mem {U : List (Str × Bool)} {x : Str} {b : Bool} (h : U.lookup x = some b) : (x, b) ∈ U := by
  induction U with
  | nil => cases h
  | cons p r ih =>
    obtain ⟨y, c⟩ := p
    rw [List.lookup_cons] at h
    by_cases q : x = y
    · subst q
      simp at h
      subst h
      simp
    · have : (x == y) = false := by simpa using q
      rw [this] at h
      exact List.mem_cons_of_mem _ (ih h)
/-- the clauses, one by one -/
inductive HdsM (X : Cx) : List ExceptHandler → List (Value × (Addr → Value → Option Addr → TS)) → List Hd → Prop
  | nil : HdsM X [] [] []
  | cons {x : Str} {c : Value} {b₀ : Stmt} {suite : List Stmt} {np pos' : Pos} {hds : List ExceptHandler} {l : List (Value × (Addr → Value → Option Addr → TS))} {U : List (Str × Bool)} {ks : MS} {D : List Hd} (hc : Names X x c) (hu : HdOk X.K X.mg c U)
      (hsu : ∀ (a : Addr) (oe : Obj) (cls : Value) (d : Option Addr) (pn : List (Addr × Obj)), PSsm (X.suite a ((a, oe) :: pn)) W0 (b₀ :: suite) ks) (r : HdsM X hds l D) :
      HdsM X (.ExceptHandler (some (.Name x np)) none (b₀ :: suite) pos' :: hds) ((c, fun _ _ _ => TSm X.K X.mg W0 ks) :: l) (⟨U, fun _ => ks⟩ :: D)
theorem HdsM.ok {hds : List ExceptHandler} {l : List (Value × (Addr → Value → Option Addr → TS))} {D : List Hd} (h : HdsM X hds l D) : HdsOk X hds l := by
  induction h with
  | nil => exact .nil
  | cons hc hu hsu r ih => exact .cons hc (fun a oe cls d pn _ _ => hsu a oe cls d pn) ih
theorem PostF.noExnF {K : PySem.W.Frag} {mg : Str → Option Value} {ρ : Rho} {S : Store} {H : Hp} {r : F} {D : Ends} (h : PostF K mg W ρ S H (Mp.noExnF r) D) (W' : WX) : PostF K mg W' ρ S H r D := by
  cases r with
  | exn x L S' => exact h.elim
  | _ => exact h
theorem wMany_of {hds : List ExceptHandler} {l : List (Value × (Addr → Value → Option Addr → TS))} {D : List Hd} (hd : HdsM X hds l D) {Wout : WX} {E : Ends} {ρ : Rho} {S : Store} {H : Hp} {L : Loc} {σ : L2.St} {x : Ex} {cls : Value} {d : Option Addr}
    (s : SR X.K X.mg ρ S H) (l1 : LR X.K ρ S.length H L σ) (q : XR X.K X.mg ρ S.length H x cls d) (h : PostF X.K X.mg Wout ρ S H (handle D x L S) E) : wMany X.K Wout E l cls d σ H := by
  induction hd with
  | nil => exact h ρ H σ cls d (Ext.refl _ _ _) s l1 q
  | cons hc hu hsu r ih =>
    rename_i x' c b₀ suite np pos' hds l U ks D
    unfold handle at h
    split at h
    · rename_i b hb
      obtain ⟨C, g1, g2⟩ := hu _ (lookup_mem hb)
      obtain ⟨⟨C', g3, rfl⟩, _⟩ := q
      rw [g1] at g3
      cases g3
      refine ⟨b, g2, fun hb1 a ha => ?_, fun hb1 => ?_⟩
      · subst hb1
        exact ⟨ρ, S, L, s, l1, h.noExnF W0⟩
      · subst hb1
        exact ih h
    · exact h.elim
theorem s_try {body : List Stmt} {h₀ : ExceptHandler} {hds : List ExceptHandler} {l : List (Value × (Addr → Value → Option Addr → TS))} {D : List Hd} {kb : MS} (hs : X.stack = X.env :: X.outer) (hf : X.env.frame = some X.env.locals) (tk : Takes X W)
    (hb : ∀ (W : WX) (pn : List (Addr × Obj)) (xe : Value → Shared → Prop), Takes (X.tr pn xe) W → PassesOwn (model X.prog X.w) X.A X.env xe → PSsm (X.tr pn xe) W body kb)
    (hh : HdsM X (h₀ :: hds) l D) : PSm X W (.Try body (h₀ :: hds) [] [] pos) (sTry kb D) := PS.imp (ps_try_many hs hf tk (tb := fun W => TSm X.K X.mg W kb) hb hh.ok) fun E σ H ⟨ρ, S, L, s, l1, h⟩ => by
  refine ⟨ρ, S, L, s, l1, ?_⟩
  unfold sTry at h
  cases hk : kb L S with
  | exn x L' S' =>
    rw [hk] at h
    exact fun ρ' H' σ' cls d e s' l' q => wMany_of hh s' l' q (PostF.step s' e h)
  | nx L' S' => rw [hk] at h; exact h
  | bk L' S' => rw [hk] at h; exact h
  | ct L' S' => rw [hk] at h; exact h
  | rt L' S' => rw [hk] at h; exact h
  | bad => rw [hk] at h; exact h.elim
end
/-! ### defs -/
section
variable {P : Program} {w : World} {K : PySem.W.Frag} {mg : Str → Option Value} {base : Heap}
theorem startL_rel {ρ : Rho} {n : Nat} {H : Hp} {N : List Str} {vs : List Val} {us : List V} (h : VRs K ρ n H vs us) : LR K ρ n H (startL N.length vs) (L2.start N us) := by
  have hl := h.length
  refine ⟨by simp [startL, L2.start, hl], fun i v q => ?_⟩
  unfold startL at q
  unfold L2.start
  by_cases hi : i < vs.length
  · rw [List.getElem?_append_left (by simpa using hi)] at q
    rw [List.getElem?_append_left (by simp; omega)]
    rw [List.getElem?_map] at q ⊢
    cases hv : vs[i]? with
    | none => rw [hv] at q; cases q
    | some x =>
      rw [hv] at q
      cases q
      obtain ⟨u, h1, h2⟩ := h.get hv
      exact ⟨u, by rw [h1]; rfl, h2⟩
  · rw [List.getElem?_append_right (by simpa using hi)] at q
    rw [List.getElem?_replicate] at q
    split at q <;> cases q
theorem def_ok {x qual : Str} {st : Stmt} {f : Addr} {fd : FuncData} {N ps : List Str} {k n np : Nat} {b : MS} (F : Fun K x qual st f fd) (S : FnScope N ps (defScope st)) (hn : N.length = n) (hp : ps.length = np)
    (hb : ∀ (cdv : Value) (A : Around) (outer : List Env) (s : Shared) (H : Hp) (E : XK), Room k (A.deeper (PyProof.Rows.envOfC qual (defScope st) s.heap.objs.size f cdv)) →
      Takes (cxOf (L2.CX P w) P w K mg base N qual (defScope st) f cdv A outer s H E) (fun cls d _ H => E cls d H) →
      PassesOwn (model P w) (A.deeper (PyProof.Rows.envOfC qual (defScope st) s.heap.objs.size f cdv)) (PyProof.Rows.envOfC qual (defScope st) s.heap.objs.size f cdv) (cxOf (L2.CX P w) P w K mg base N qual (defScope st) f cdv A outer s H E).xe →
      PSsm (cxOf (L2.CX P w) P w K mg base N qual (defScope st) f cdv A outer s H E) (fun cls d _ H => E cls d H) (defBody st) b) :
    FnOk P w K mg base (L2.CX P w) (k + 1) f fd ps (spM K mg np (fDef n np b)) := by
  subst hn hp
  refine F.okX S (fun vs H Q E h => ?_) (fun cdv A outer s H vs Q E hr h => ⟨_, hb cdv A outer s H E hr (takes_of rfl rfl rfl rfl) (passes_of rfl), ?_⟩)
  · obtain ⟨ρ, S, xs, hl, _, v, _⟩ := h
    rw [← v.length]
    exact hl
  · obtain ⟨ρ, S1, xs, hl, s1, v, h⟩ := h
    refine ⟨ρ, S1, startL N.length xs, s1, startL_rel v, ?_⟩
    unfold fDef at h
    rw [bite_pos (decide_eq_true hl)] at h
    cases hk : b (startL N.length xs) S1 with
    | nx L S' => rw [hk] at h; exact fun ρ' H' σ' e s' l' => h ρ' H' .non e s' (by simp [relV, VR])
    | rt v S' => rw [hk] at h; exact h
    | exn x L S' => rw [hk] at h; exact fun ρ' H' σ' c d e s' l' q => h ρ' H' c d e s' q
    | bk L S' => rw [hk] at h; exact h.elim
    | ct L S' => rw [hk] at h; exact h.elim
    | bad => rw [hk] at h; exact h.elim
/-- a def that goes nowhere -/
theorem bad_ok {f : Addr} {fd : FuncData} {ps : List Str} {k np : Nat} (hp : ps.length = np) : FnOk P w K mg base (L2.CX P w) k f fd ps (spM K mg np fun _ _ => .bad) :=
  ⟨fun vs H Q E h => by
    obtain ⟨ρ, S, xs, hl, _, v, h⟩ := h
    exact h.elim, fun A outer s H args us vs Q E hr he hb hv hs => by
    obtain ⟨ρ, S, xs, hl, _, v, h⟩ := hs
    exact h.elim⟩
end
/-- a constant of the module that is an int, a text -/
theorem e_gi {X : Cx} {W : WX} {x : Str} {i : Int} {pos : Pos} (h : ∃ t, X.mg x = some (.int i t)) (hg : Gl X x) (hd : (x == ("__debug__" : Str)) = false := by decide) : PEm X W (.Name x pos) (mC (.int i)) := by
  obtain ⟨t, h⟩ := h
  exact e_gc (u := .int i) hg h ⟨t, rfl⟩ (fun _ _ _ => by simp [VR]) hd
theorem e_gs {X : Cx} {W : WX} {x : Str} {i : Str} {pos : Pos} (h : ∃ t, X.mg x = some (.str i t)) (hg : Gl X x) (hd : (x == ("__debug__" : Str)) = false := by decide) : PEm X W (.Name x pos) (mC (.str i)) := by
  obtain ⟨t, h⟩ := h
  exact e_gc (u := .str i) hg h ⟨t, rfl⟩ (fun _ _ _ => by simp [VR]) hd
end Mp

/-! Mp7: operators, comparisons, subscripts, built-ins, methods. -/
namespace Mp
open PySem PySem.Spec L2
/-! ### numbers -/
def iop (c : Int → Int → Bool) (g : Int → Int → Int) : P2 := fun x y S => match x, y with
  | .int i, .int j => bite (c i j) (.ok (.int (g i j)) S) .bad
  | _, _ => .bad
/-- a flag that is not worked out -/
noncomputable def cb (p : Prop) : Bool := gate p true false
theorem cb_of {p : Prop} (h : p) : cb p = true := gate_pos h
theorem of_cb {p : Prop} (h : cb p = true) : p := by
  by_cases z : p
  · exact z
  · unfold cb at h
    rw [gate_neg z] at h
    cases h
noncomputable def cmul (i j : Int) : Bool := cb ((-(2 ^ 64) < i ∧ i < 2 ^ 64) ∨ (-(2 ^ 64) < j ∧ j < 2 ^ 64))
def pSub : P2 := iop (fun _ _ => true) fun i j => i - j
noncomputable def pMulI : P2 := iop cmul fun i j => i * j
def pMod : P2 := iop (fun _ j => decide (0 < j)) fun i j => i % j
noncomputable def cdiv (j : Int) : Bool := gate (0 < j ∧ j < 1073741824) true false
noncomputable def pDiv : P2 := iop (fun _ j => cdiv j) fun i j => i / j
theorem cdiv_eq {j : Int} (h : cdiv j = true) : 0 < j ∧ j < 1073741824 := by
  by_cases z : 0 < j ∧ j < 1073741824
  · exact z
  · unfold cdiv at h
    rw [gate_neg z] at h
    cases h
def pPow : P2 := iop (fun i j => decide (0 ≤ j) && decide (j ≤ 1000000) && decide (i.natAbs < 2 ^ 64)) fun i j => i ^ j.toNat
def pNeg : P1 := fun x S => match x with
  | .int i => .ok (.int (-i)) S
  | _ => .bad
section
variable {X : Cx}
theorem iop_of {c : Int → Int → Bool} {g : Int → Int → Int} {C : Int → Int → Prop} (hc : ∀ i j, c i j = true → C i j) {u w : V} {H : Hp} {Q : VK} (h : rP2 X (iop c g) u w H Q) : rI C (fun i j => .int (g i j)) u w H Q := by
  obtain ⟨ρ, S, x, y, s, v1, v2, h⟩ := h
  unfold iop at h
  split at h
  · rename_i i j
    cases hb : c i j with
    | true =>
      rw [hb] at h
      exact ⟨i, j, by simpa [VR] using v1, by simpa [VR] using v2, hc i j hb, Post.here (rel := relV X.K) s h (by simp [relV, VR])⟩
    | false => rw [hb] at h; exact h.elim
  · exact h.elim
theorem iop_of0 {g : Int → Int → Int} {u w : V} {H : Hp} {Q : VK} (h : rP2 X (iop (fun _ _ => true) g) u w H Q) : rI0 (fun i j => .int (g i j)) u w H Q := by
  obtain ⟨i, j, h1, h2, _, h3⟩ := iop_of (C := fun _ _ => True) (fun _ _ _ => trivial) h
  exact ⟨i, j, h1, h2, h3⟩
theorem o_sub : OpS X (binaryOp .Sub) pSub := OpR.imp op_sub fun _ _ _ _ => iop_of0
theorem io_sub : OpS X (inplaceOp .Sub) pSub := OpR.imp iop_sub fun _ _ _ _ => iop_of0
theorem cmul_of {i j : Int} (h : cmul i j = true) : CMul i j := by
  replace h := of_cb h
  exact h
theorem o_mulI : OpS X (binaryOp .Mult) pMulI := OpR.imp op_mul fun _ _ _ _ => iop_of fun _ _ => cmul_of
theorem io_mulI : OpS X (inplaceOp .Mult) pMulI := OpR.imp iop_mul fun _ _ _ _ => iop_of fun _ _ => cmul_of
theorem o_mod : OpS X (binaryOp .Mod) pMod := OpR.imp op_mod fun _ _ _ _ => iop_of fun _ _ h => of_decide_eq_true h
theorem o_div : OpS X (binaryOp .FloorDiv) pDiv := OpR.imp op_fdiv fun _ _ _ _ => iop_of fun _ _ h => by simpa [CDiv] using cdiv_eq h
theorem o_pow : OpS X (binaryOp .Pow) pPow := OpR.imp op_pow fun _ _ _ _ => iop_of fun _ _ h => by
  simp only [Bool.and_eq_true, decide_eq_true_eq] at h
  exact ⟨h.1.1, h.1.2, h.2⟩
theorem u_neg : UnR X (unaryOp .USub) (rP1 X pNeg) := fun pins s σ H x v Q I rx h => by
  refine un_neg pins s σ H x v Q I rx ?_
  obtain ⟨ρ, S, x, s, v1, h⟩ := h
  unfold pNeg at h
  split at h
  · exact ⟨_, by simpa [VR] using v1, Post.here (rel := relV X.K) s h (by simp [relV, VR])⟩
  · exact h.elim
/-! ### comparisons of numbers -/
def icmp (g : Int → Int → Bool) : P2 := fun x y S => match x, y with
  | .int i, .int j => .ok (.bl (g i j)) S
  | _, _ => .bad
def pLt : P2 := icmp fun i j => decide (i < j)
def pLe : P2 := icmp fun i j => decide (i ≤ j)
def pGt : P2 := icmp fun i j => decide (j < i)
def pGe : P2 := icmp fun i j => decide (j ≤ i)
theorem icmp_of {g : Int → Int → Bool} {u w : V} {H : Hp} {Q : VK} (h : rP2 X (icmp g) u w H Q) : rI0 (fun i j => .bl (g i j)) u w H Q := by
  obtain ⟨ρ, S, x, y, s, v1, v2, h⟩ := h
  unfold icmp at h
  split at h
  · rename_i i j
    exact ⟨i, j, by simpa [VR] using v1, by simpa [VR] using v2, Post.here (rel := relV X.K) s h (by simp [relV, VR])⟩
  · exact h.elim
theorem o_lt : OpS X (compareOp .Lt) pLt := OpR.imp op_lt fun _ _ _ _ => icmp_of
theorem o_le : OpS X (compareOp .LtE) pLe := OpR.imp op_le fun _ _ _ _ => icmp_of
theorem o_gt : OpS X (compareOp .Gt) pGt := OpR.imp op_gt fun _ _ _ _ => icmp_of
theorem o_ge : OpS X (compareOp .GtE) pGe := OpR.imp op_ge fun _ _ _ _ => icmp_of
/-! ### is -/
def isC (x y : Val) : Option Bool := match y, x with
  | .non, .non => some true
  | .non, _ => some false
  | .bl b, .bl c => some (decide (c = b))
  | .bl _, _ => some false
  | _, _ => none
def pIs : P2 := fun x y S => match isC x y with
  | some b => .ok (.bl b) S
  | none => .bad
def pIsNot : P2 := fun x y S => match isC x y with
  | some b => .ok (.bl (!b)) S
  | none => .bad
theorem op_isC : OpR X (compareOp .Is) (fun x y H Q => (y = .non ∨ ∃ b, y = .bl b) ∧ Q (.bl (decide (x = y))) H) := by
  intro pins s σ H x y v u Q I rx ry h
  obtain ⟨hy, q⟩ := h
  rcases hy with rfl | ⟨b, rfl⟩
  · exact op_isN pins s σ H x _ v u Q I rx ry ⟨rfl, q⟩
  · cases ry
    have plain : plainIs v (.bool b) = true := by
      cases x <;> first
        | (cases rx; rfl)
        | (obtain ⟨t, rfl⟩ := rx; rfl)
    by_cases e : v = .bool b
    · subst e
      refine wpAny_is_self plain (fin_bl I q ?_)
      cases x with
      | bl c =>
        cases rx
        simp
      | non => cases rx
      | int i => obtain ⟨t, z⟩ := rx; cases z
      | str i => obtain ⟨t, z⟩ := rx; cases z
      | byt i => obtain ⟨t, z⟩ := rx; cases z
      | flt i => obtain ⟨t, z⟩ := rx; cases z
      | ref i => cases rx
      | ty i => cases rx
    · refine wpAny_is_other plain e (fin_bl I q ?_)
      apply decide_eq_false
      intro z
      subst z
      exact e rx
theorem op_notC : OpR X (compareOp .IsNot) (fun x y H Q => (y = .non ∨ ∃ b, y = .bl b) ∧ Q (.bl (!decide (x = y))) H) := by
  intro pins s σ H x y v u Q I rx ry h
  obtain ⟨hy, q⟩ := h
  rcases hy with rfl | ⟨b, rfl⟩
  · exact op_notN pins s σ H x _ v u Q I rx ry ⟨rfl, q⟩
  · cases ry
    have plain : plainIs v (.bool b) = true := by
      cases x <;> first
        | (cases rx; rfl)
        | (obtain ⟨t, rfl⟩ := rx; rfl)
    by_cases e : v = .bool b
    · subst e
      refine wpAny_isNot_self plain (fin_bl I q ?_)
      cases x with
      | bl c =>
        cases rx
        simp
      | non => cases rx
      | int i => obtain ⟨t, z⟩ := rx; cases z
      | str i => obtain ⟨t, z⟩ := rx; cases z
      | byt i => obtain ⟨t, z⟩ := rx; cases z
      | flt i => obtain ⟨t, z⟩ := rx; cases z
      | ref i => cases rx
      | ty i => cases rx
    · refine wpAny_isNot_other plain e (fin_bl I q ?_)
      have : decide (x = V.bl b) = false := by
        apply decide_eq_false
        intro z
        subst z
        exact e rx
      rw [this]; rfl
theorem isC_of {K : PySem.W.Frag} {ρ : Rho} {n : Nat} {H : Hp} {x y : Val} {u w : V} {b : Bool} (v1 : VR K ρ n H x u) (v2 : VR K ρ n H y w) (h : isC x y = some b) : (w = .non ∨ ∃ b, w = .bl b) ∧ decide (u = w) = b := by
  cases y with
  | non =>
    have e2 : w = .non := by simpa [VR] using v2
    subst e2
    refine ⟨.inl rfl, ?_⟩
    cases x with
    | non => simp [isC] at h; have : u = .non := by simpa [VR] using v1
             subst this; simp [← h]
    | tup vs => simp [isC] at h; simp only [VR] at v1; obtain ⟨a, xs, e, _⟩ := v1; subst e; simp [← h]
    | fl vs => simp [isC] at h; simp only [VR] at v1; obtain ⟨a, e, _⟩ := v1; subst e; simp [← h]
    | ref i => simp [isC] at h; simp only [VR] at v1; obtain ⟨a, e⟩ := v1; subst e; simp [← h]
    | bl c => simp [isC] at h; simp only [VR] at v1; subst v1; simp [← h]
    | int c => simp [isC] at h; simp only [VR] at v1; subst v1; simp [← h]
    | str c => simp [isC] at h; simp only [VR] at v1; subst v1; simp [← h]
  | bl d =>
    have e2 : w = .bl d := by simpa [VR] using v2
    subst e2
    refine ⟨.inr ⟨d, rfl⟩, ?_⟩
    cases x with
    | non => simp [isC] at h; simp only [VR] at v1; subst v1; simp [← h]
    | tup vs => simp [isC] at h; simp only [VR] at v1; obtain ⟨a, xs, e, _⟩ := v1; subst e; simp [← h]
    | fl vs => simp [isC] at h; simp only [VR] at v1; obtain ⟨a, e, _⟩ := v1; subst e; simp [← h]
    | ref i => simp [isC] at h; simp only [VR] at v1; obtain ⟨a, e⟩ := v1; subst e; simp [← h]
    | bl c => simp [isC] at h; simp only [VR] at v1; subst v1; simp [← h]
    | int c => simp [isC] at h; simp only [VR] at v1; subst v1; simp [← h]
    | str c => simp [isC] at h; simp only [VR] at v1; subst v1; simp [← h]
  | _ => simp [isC] at h
theorem o_is : OpS X (compareOp .Is) pIs := OpR.imp op_isC fun u w H Q h => by
  obtain ⟨ρ, S, x, y, s, v1, v2, h⟩ := h
  unfold pIs at h
  split at h
  · rename_i b hb
    obtain ⟨h1, h2⟩ := isC_of v1 v2 hb
    rw [h2]
    exact ⟨h1, Post.here (rel := relV X.K) s h (by simp [relV, VR])⟩
  · exact h.elim
theorem o_isNot : OpS X (compareOp .IsNot) pIsNot := OpR.imp op_notC fun u w H Q h => by
  obtain ⟨ρ, S, x, y, s, v1, v2, h⟩ := h
  unfold pIsNot at h
  split at h
  · rename_i b hb
    obtain ⟨h1, h2⟩ := isC_of v1 v2 hb
    rw [h2]
    exact ⟨h1, Post.here (rel := relV X.K) s h (by simp [relV, VR])⟩
  · exact h.elim
/-! ### ==, != -/
/-- a value as data, at most n deep -/
def toD : Nat → Store → Val → Option PyData
  | _, _, .non => some .none
  | _, _, .bl b => some (.bool b)
  | _, _, .int i => some (.int i)
  | _, _, .str x => some (.str x)
  | n + 1, S, .tup vs => (vs.mapM (toD n S)).map .tuple
  | n + 1, S, .ref i => match S[i]? with
    | some (.lst xs) => (xs.mapM (toD n S)).map .list
    | _ => none
  | _, _, _ => none
def DEEP : Nat := 70
def eqO (x y : Val) (S : Store) : Option Bool := match toD DEEP S x, toD DEEP S y with
  | some d, some e => if SeqAt.shaped d && SeqAt.shaped e then some (PyData.eqv d e) else none
  | _, _ => none
def pEq : P2 := fun x y S => match eqO x y S with
  | some b => .ok (.bl b) S
  | none => .bad
def pNe : P2 := fun x y S => match eqO x y S with
  | some b => .ok (.bl (!b)) S
  | none => .bad
theorem mapM_dp {K : PySem.W.Frag} {H : Hp} {ρ : Rho} {m : Nat} {f : Val → Option PyData} (hf : ∀ (v : Val) (u : V) (d : PyData), VR K ρ m H v u → f v = some d → Dp K H u d) :
    ∀ (vs : List Val) (us : List V) (ds : List PyData), VRs K ρ m H vs us → vs.mapM f = some ds → DpAll K H us ds
  | [], us, ds, h, e => by
    simp at e
    subst e
    rw [h.nil_of]
    exact .nil
  | v :: vs, us, ds, h, e => by
    obtain ⟨u, r, rfl, h1, h2⟩ := h.cons_of
    rw [List.mapM_cons] at e
    cases hv : f v with
    | none => rw [hv] at e; cases e
    | some d =>
      rw [hv] at e
      cases hvs : vs.mapM f with
      | none => rw [hvs] at e; cases e
      | some ds' =>
        rw [hvs] at e
        cases e
        exact .cons (hf v u d h1 hv) (mapM_dp hf vs r ds' h2 hvs)
theorem toD_of {K : PySem.W.Frag} {mg : Str → Option Value} {ρ : Rho} {S : Store} {H : Hp} (s : SR K mg ρ S H) : ∀ (n : Nat) (v : Val) (u : V) (d : PyData), VR K ρ S.length H v u → toD n S v = some d → Dp K H u d := by
  intro n
  induction n with
  | zero =>
    intro v u d h e
    cases v <;> simp [toD] at e <;> simp only [VR] at h <;> subst e
    · subst h; exact .non
    · subst h; exact .bl _
    · subst h; exact .int _
    · subst h; exact .str _
  | succ n ih =>
    intro v u d h e
    cases v with
    | non => simp [toD] at e; simp only [VR] at h; subst e h; exact .non
    | bl b => simp [toD] at e; simp only [VR] at h; subst e h; exact .bl _
    | int b => simp [toD] at e; simp only [VR] at h; subst e h; exact .int _
    | str b => simp [toD] at e; simp only [VR] at h; subst e h; exact .str _
    | fl b => simp [toD] at e
    | tup vs =>
      simp only [toD] at e
      simp only [VR] at h
      obtain ⟨a, xs, rfl, q, r⟩ := h
      cases hm : vs.mapM (toD n S) with
      | none => rw [hm] at e; cases e
      | some ds =>
        rw [hm] at e
        cases e
        exact .tup q.sq (mapM_dp (fun v u d => ih v u d) vs xs ds r hm)
    | ref i =>
      simp only [toD] at e
      simp only [VR] at h
      obtain ⟨hi, rfl⟩ := h
      split at e
      · rename_i xs q
        obtain ⟨us, g1, g2⟩ := s.lst q
        cases hm : xs.mapM (toD n S) with
        | none => rw [hm] at e; cases e
        | some ds =>
          rw [hm] at e
          cases e
          exact .lst (SqL.of g1) (mapM_dp (fun v u d => ih v u d) xs us ds g2 hm)
      · cases e
theorem eqO_of {u w : V} {H : Hp} {x y : Val} {ρ : Rho} {S : Store} {b : Bool} (s : SR X.K X.mg ρ S H) (v1 : VR X.K ρ S.length H x u) (v2 : VR X.K ρ S.length H y w) (h : eqO x y S = some b) :
    ∃ d e, Dp X.K H u d ∧ Dp X.K H w e ∧ SeqAt.shaped d = true ∧ SeqAt.shaped e = true ∧ PyData.eqv d e = b := by
  unfold eqO at h
  split at h
  · rename_i d e hd he
    split at h
    · rename_i hs
      simp only [Bool.and_eq_true] at hs
      cases h
      exact ⟨d, e, toD_of s _ _ _ _ v1 hd, toD_of s _ _ _ _ v2 he, hs.1, hs.2, rfl⟩
    · cases h
  · cases h
theorem o_eq (hu : X.A.units + 64 < cLine) : OpS X (compareOp .Eq) pEq := OpR.imp (op_eqD hu) fun u w H Q h => by
  obtain ⟨ρ, S, x, y, s, v1, v2, h⟩ := h
  unfold pEq at h
  split at h
  · rename_i b hb
    obtain ⟨d, e, h1, h2, h3, h4, h5⟩ := eqO_of s v1 v2 hb
    exact ⟨d, e, h1, h2, h3, h4, by rw [h5]; exact Post.here (rel := relV X.K) s h (by simp [relV, VR])⟩
  · exact h.elim
theorem o_ne (hu : X.A.units + 64 < cLine) : OpS X (compareOp .NotEq) pNe := OpR.imp (op_neD hu) fun u w H Q h => by
  obtain ⟨ρ, S, x, y, s, v1, v2, h⟩ := h
  unfold pNe at h
  split at h
  · rename_i b hb
    obtain ⟨d, e, h1, h2, h3, h4, h5⟩ := eqO_of s v1 v2 hb
    exact ⟨d, e, h1, h2, h3, h4, by rw [h5]; exact Post.here (rel := relV X.K) s h (by simp [relV, VR])⟩
  · exact h.elim
/-! ### + of numbers, texts, tuples, lists; * of lists and tuples -/
def newL (xs : List Val) (S : Store) : R Val := .ok (.ref S.length) (S ++ [.lst xs])
def pAdd : P2 := fun x y S => match x, y with
  | .int i, .int j => .ok (.int (i + j)) S
  | .str a, .str b => bite (decide (a.length + b.length ≤ LIM)) (.ok (.str (a ++ b)) S) .bad
  | .tup a, .tup b => bite (decide (a.length + b.length ≤ LIM)) (.ok (.tup (a ++ b)) S) .bad
  | .ref i, .ref j => match S[i]?, S[j]? with
    | some (.lst a), some (.lst b) => bite (decide (a.length + b.length ≤ LIM)) (newL (a ++ b) S) .bad
    | _, _ => .bad
  | _, _ => .bad
theorem tup_new {K : PySem.W.Frag} {mg : Str → Option Value} {ρ : Rho} {S : Store} {H : Hp} {σ : L2.St} {vs : List Val} {us : List V} {Q : VK} (s : SR K mg ρ S H) (h : Post K mg (relV K) W0 ρ S H σ (.ok (.tup vs) S) Q) (r : VRs K ρ S.length H vs us) : ∀ p, H p = none → Q (.ref p) (upd H p (.tup us)) := fun p hp => by
  refine h ρ _ _ (Ext.side hp) (s.side hp) ?_
  simp only [relV, VR]
  exact ⟨p, us, rfl, .inl upd_same, VRs.ext s (Ext.side hp) _ _ r⟩
theorem lst_new {σ : L2.St} {ρ : Rho} {S : Store} {H : Hp} {vs : List Val} {us : List V} {Q : VK} (s : SR X.K X.mg ρ S H) (h : Post X.K X.mg (relV X.K) W0 ρ S H σ (newL vs S) Q) (r : VRs X.K ρ S.length H vs us) : ∀ p, H p = none → Q (.ref p) (upd H p (.lst us)) :=
  new_of s h fun p hp => ⟨us, upd_same, VRs.ext s (Ext.new hp) _ _ r⟩
theorem add_of {u w : V} {H : Hp} {Q : VK} (h : rP2 X pAdd u w H Q) : (rI0 fun i j => .int (i + j)) u w H Q ∨ (∃ i j, u = .str i ∧ w = .str j ∧ i.length + j.length ≤ sizeLine ∧ Q (.str (i ++ j)) H) ∨ rCatA X.K u w H Q ∨ rCat u w H Q := by
  obtain ⟨ρ, S, x, y, s, v1, v2, h⟩ := h
  unfold pAdd at h
  split at h
  · rename_i i j
    exact .inl ⟨i, j, by simpa [VR] using v1, by simpa [VR] using v2, Post.here (rel := relV X.K) s h (by simp [relV, VR])⟩
  · rename_i a b
    by_cases hz : a.length + b.length ≤ LIM
    · rw [bite_pos (decide_eq_true hz)] at h
      rw [lim_eq] at hz
      exact .inr (.inl ⟨a, b, by simpa [VR] using v1, by simpa [VR] using v2, hz, Post.here (rel := relV X.K) s h (by simp [relV, VR])⟩)
    · rw [bite_neg (decide_eq_false hz)] at h
      exact h.elim
  · rename_i a b
    by_cases hz : a.length + b.length ≤ LIM
    · rw [bite_pos (decide_eq_true hz)] at h
      rw [lim_eq] at hz
      have v1' := v1
      have v2' := v2
      simp only [VR] at v1 v2
      obtain ⟨p, xs, rfl, q1, r1⟩ := v1
      obtain ⟨p2, ys, rfl, q2, r2⟩ := v2
      refine .inr (.inr (.inl ⟨p, p2, xs, ys, rfl, rfl, q1.sq, q2.sq, by rw [← r1.length, ← r2.length]; exact hz, fun e => ?_, fun e1 e2 => ?_, fun _ _ => tup_new s h (r1.append r2)⟩))
      · have : a = [] := by
          have := r1.length
          rw [e] at this
          exact List.eq_nil_of_length_eq_zero this
        subst this
        exact Post.here (rel := relV X.K) s h (by simpa [relV] using v2')
      · have : b = [] := by
          have := r2.length
          rw [e2] at this
          exact List.eq_nil_of_length_eq_zero this
        subst this
        rw [List.append_nil] at h
        exact Post.here (rel := relV X.K) s h v1'
    · rw [bite_neg (decide_eq_false hz)] at h
      exact h.elim
  · rename_i i j
    split at h
    · rename_i a b qa qb
      by_cases hz : a.length + b.length ≤ LIM
      · rw [bite_pos (decide_eq_true hz)] at h
        rw [lim_eq] at hz
        obtain ⟨us, g1, g2⟩ := s.lst qa
        obtain ⟨ws, g3, g4⟩ := s.lst qb
        simp only [VR] at v1 v2
        exact .inr (.inr (.inr ⟨ρ i, ρ j, us, ws, v1.2, v2.2, g1, g3, by rw [← g2.length, ← g4.length]; exact hz, lst_new s h (g2.append g4)⟩))
      · rw [bite_neg (decide_eq_false hz)] at h
        exact h.elim
    · exact h.elim
  · exact h.elim
theorem o_add : OpS X (binaryOp .Add) pAdd := OpR.imp (op_add.or (op_add_str.or (op_catA.or op_cat))) fun _ _ _ _ h => add_of h
def pAddI : P2 := iop (fun _ _ => true) fun i j => i + j
theorem io_addI : OpS X (inplaceOp .Add) pAddI := OpR.imp iop_add fun _ _ _ _ => iop_of0
/-! ### subscripts -/
def keyOf (v : Val) : Option Key := match v with
  | .int i => some (.inl i)
  | .str x => some (.inr x)
  | _ => none
def keysOf : List Val → Option (List Key)
  | [] => some []
  | v :: vs => match keyOf v, keysOf vs with
    | some k, some ks => some (k :: ks)
    | _, _ => none
theorem keyOf_of {K : PySem.W.Frag} {ρ : Rho} {n : Nat} {H : Hp} {v : Val} {u : V} {k : Key} (r : VR K ρ n H v u) (h : keyOf v = some k) : u = kV k := by
  cases v with
  | int i => simp [keyOf] at h; subst h; simpa [VR, kV] using r
  | str i => simp [keyOf] at h; subst h; simpa [VR, kV] using r
  | _ => simp [keyOf] at h
theorem keysOf_of {K : PySem.W.Frag} {ρ : Rho} {n : Nat} {H : Hp} : ∀ {vs : List Val} {us : List V} {ks : List Key}, VRs K ρ n H vs us → keysOf vs = some ks → us = ks.map kV
  | [], us, ks, r, h => by simp [keysOf] at h; subst h; exact r.nil_of
  | v :: vs, us, ks, r, h => by
    obtain ⟨u, r', rfl, h1, h2⟩ := r.cons_of
    simp only [keysOf] at h
    split at h
    · rename_i k ks' hk hks
      cases h
      rw [keyOf_of h1 hk, keysOf_of h2 hks]
      rfl
    · cases h
/-- a tuple as a key; the module's own tuples are none -/
def tkey (ks : List Val) : Option (List Key) := match ownC ks with
  | true => none
  | false => keysOf ks
theorem tkey_of {K : PySem.W.Frag} {ρ : Rho} {n : Nat} {H : Hp} {ks : List Val} {u : V} {k : List Key} (r : VR K ρ n H (.tup ks) u) (h : tkey ks = some k) : ∃ b, u = .ref b ∧ H b = some (.tup (k.map kV)) := by
  simp only [VR] at r
  obtain ⟨b, us, rfl, q, r⟩ := r
  unfold tkey at h
  split at h
  · cases h
  · rename_i hc
    rw [keysOf_of r h] at q
    rcases q with q | ⟨q, _⟩
    · exact ⟨b, rfl, q⟩
    · rw [hc] at q; cases q
def pIx : P2 := fun x y S => match x, y with
  | .tup vs, .int i => match atI vs i with
    | some v => .ok v S
    | none => .bad
  | .fl ns, .int i => match atI ns i with
    | some v => .ok (.int v) S
    | none => .bad
  | .str z, .int i => match atI z.cps.toList i with
    | some c => bite (decide (z.length ≤ LIM)) (.ok (.str ⟨#[c]⟩) S) .bad
    | none => .bad
  | .ref a, .int i => match S[a]? with
    | some (.lst vs) => match atI vs i with
      | some v => .ok v S
      | none => .bad
    | some (.dK kvs) => match valL kvs (.inl i) with
      | some v => .ok v S
      | none => .bad
    | _ => .bad
  | .ref a, .str k => match S[a]? with
    | some (.dK kvs) => match valL kvs (.inr k) with
      | some v => .ok v S
      | none => .bad
    | _ => .bad
  | .ref a, .tup ks => match S[a]? with
    | some (.dT kvs) => match tkey ks with
      | some k => match valL kvs k with
        | some v => .ok v S
        | none => .bad
      | none => .bad
    | _ => .bad
  | _, _ => .bad
theorem atI_rel {K : PySem.W.Frag} {ρ : Rho} {n : Nat} {H : Hp} {vs : List Val} {us : List V} {i : Int} {v : Val} (r : VRs K ρ n H vs us) (h : atI vs i = some v) : ∃ u, atI us i = some u ∧ VR K ρ n H v u := by
  unfold atI at h ⊢
  rw [← r.length]
  cases hi : ixN vs.length i with
  | none => rw [hi] at h; cases h
  | some j =>
    rw [hi] at h
    obtain ⟨u, h1, h2⟩ := r.get (show vs[j]? = some v from h)
    exact ⟨u, h1, h2⟩
theorem atI_map {α β : Type} {f : α → β} {xs : List α} {i : Int} {v : α} (h : atI xs i = some v) : atI (xs.map f) i = some (f v) := by
  unfold atI at h ⊢
  rw [List.length_map]
  cases hi : ixN xs.length i with
  | none => rw [hi] at h; cases h
  | some j =>
    rw [hi] at h
    show (xs.map f)[j]? = some (f v)
    rw [List.getElem?_map, show xs[j]? = some v from h]
    rfl
/-- a dict's value at a key, as the layer says it -/
theorem valV_lookup {κ : Type} [DecidableEq κ] {K : PySem.W.Frag} {ρ : Rho} {n : Nat} {H : Hp} {k : κ} : ∀ {l : List (κ × Val)} {m : List (κ × V)}, KR K ρ n H l m → match valL l k, valV m k with
    | some v, some u => VR K ρ n H v u
    | none, none => True
    | _, _ => False
  | [], m, h => by
    have : m = [] := by have := h.1; simpa using this.symm
    subst this
    simp [valL, valV]
  | (g, v) :: l, m, h => by
    obtain ⟨h1, h2⟩ := h
    cases m with
    | nil => simp at h1
    | cons p m =>
      obtain ⟨g', u⟩ := p
      simp only [List.map_cons, List.cons.injEq] at h1
      obtain ⟨rfl, h1⟩ := h1
      simp only [List.map_cons] at h2
      obtain ⟨u0, r, e, h2, h3⟩ := h2.cons_of
      cases e
      have ih := valV_lookup (k := k) (l := l) (m := m) ⟨h1, h3⟩
      by_cases q : k = g
      · subst q
        rw [valV_pos rfl]
        simp only [valL, if_true]
        exact h2
      · rw [valV_neg (p := (g, u)) (fun z => q z.symm)]
        simp only [valL, if_neg (fun z => q z.symm : ¬ g = k)]
        exact ih
def rIxD : R2 := fun x y H Q => ∃ a v, x = .ref a ∧ DGet H a y (some v) ∧ Q v H
theorem ix_dict (hu : X.A.units + 1 < cLine) : IxR X rIxD := by
  intro value slice pins s σ H x y v u Q I rx ry h hs
  obtain ⟨a, w, rfl, g, q⟩ := h
  obtain rfl : v = Value.ref a := rx
  have hT : s.TypeIs (.ref a) "dict" := dict_typeIs I g
  have h₂ : wpAny (model X.prog X.w) X.A (getItem (.ref a) u) (EP X pins σ Q) X.xe s := d_getItem hu I g ry fun w' s' I' r' => ⟨w, H, I', r', q⟩
  unfold PyProof.Rows.subscriptTail
  refine wpAny_bind ?_
  rw [getitemInPython_of_ne hT.not_modules]
  refine wpAny_bind (wpAny_specialOf hT PySem.F.slot_dict_getitem.lookup ?_)
  have fin : wpAny (model X.prog X.w) X.A (subscripted slice false (.ref a) u) (fun r s₃ => wpAny (model X.prog X.w) X.A (letTemporaryGo value (.ref a) r >>= fun _ => pure r) (EP X pins σ Q) X.xe s₃) X.xe s := by
    rw [hs]
    exact wpAny_operating (wpAny_mono h₂ (fun r s₃ h₃ => wpAny_bind (wpAny_letTemporaryGo (wpAny_pure h₃))) fun _ _ x => x)
  first
    | exact wpAny_pure (wpAny_bind fin)
    | exact wpAny_bind (wpAny_pure (wpAny_bind fin))
    | exact wpAny_bind fin
theorem dk_get {ρ : Rho} {S : Store} {H : Hp} {a : Nat} {kvs : List (Key × Val)} {k : Key} {v : Val} (s : SR X.K X.mg ρ S H) (q : S[a]? = some (.dK kvs)) (hk : valL kvs k = some v) : ∃ u, DGet H (ρ a) (kV k) (some u) ∧ VR X.K ρ S.length H v u := by
  obtain ⟨us, g1, g2⟩ := s.ob a _ q
  have lk := valV_lookup (k := k) g2
  rw [hk] at lk
  cases hv : valV us k with
  | none => rw [hv] at lk; exact lk.elim
  | some u =>
    rw [hv] at lk
    exact ⟨u, by rw [← hv]; exact DGet.k g1, lk⟩
theorem ix_of {u w : V} {H : Hp} {Q : VK} (h : rP2 X pIx u w H Q) : rIx X.K u w H Q ∨ rIxD u w H Q := by
  obtain ⟨ρ, S, x, y, s, v1, v2, h⟩ := h
  unfold pIx at h
  split at h
  · rename_i vs i
    split at h
    · rename_i v hv
      simp only [VR] at v1 v2
      obtain ⟨a, xs, rfl, q, r⟩ := v1
      obtain ⟨u', h1, h2⟩ := atI_rel r hv
      exact .inl (.inr (.inl ⟨a, xs, i, u', rfl, v2, q.sq, h1, Post.here (rel := relV X.K) s h h2⟩))
    · exact h.elim
  · rename_i ns i
    split at h
    · rename_i v hv
      simp only [VR] at v1 v2
      obtain ⟨a, rfl, q⟩ := v1
      exact .inl (.inl ⟨a, _, i, .int v, rfl, v2, q.seq, atI_map hv, Post.here (rel := relV X.K) s h (by simp [relV, VR])⟩)
    · exact h.elim
  · rename_i z i
    split at h
    · rename_i c hc
      by_cases hz : z.length ≤ LIM
      · rw [bite_pos (decide_eq_true hz)] at h
        rw [lim_eq] at hz
        simp only [VR] at v1 v2
        exact .inl (.inr (.inr ⟨z, i, c, v1, v2, hz, hc, Post.here (rel := relV X.K) s h (by simp [relV, VR])⟩))
      · rw [bite_neg (decide_eq_false hz)] at h
        exact h.elim
    · exact h.elim
  · rename_i a i
    simp only [VR] at v1 v2
    obtain ⟨ha, rfl⟩ := v1
    subst v2
    split at h
    · rename_i vs q
      split at h
      · rename_i v hv
        obtain ⟨us, g1, g2⟩ := s.lst q
        obtain ⟨u', h1, h2⟩ := atI_rel g2 hv
        exact .inl (.inl ⟨_, us, i, u', rfl, rfl, SqL.of g1, h1, Post.here (rel := relV X.K) s h h2⟩)
      · exact h.elim
    · rename_i kvs q
      split at h
      · rename_i v hv
        obtain ⟨u', h1, h2⟩ := dk_get s q hv
        exact .inr ⟨_, u', rfl, h1, Post.here (rel := relV X.K) s h h2⟩
      · exact h.elim
    · exact h.elim
  · rename_i a i
    simp only [VR] at v1 v2
    obtain ⟨ha, rfl⟩ := v1
    subst v2
    split at h
    · rename_i kvs q
      split at h
      · rename_i v hv
        obtain ⟨u', h1, h2⟩ := dk_get s q hv
        exact .inr ⟨_, u', rfl, h1, Post.here (rel := relV X.K) s h h2⟩
      · exact h.elim
    · exact h.elim
  · rename_i a ks
    have v1' := v1
    simp only [VR] at v1'
    obtain ⟨ha, rfl⟩ := v1'
    split at h
    · rename_i kvs q
      split at h
      · rename_i k hk
        split at h
        · rename_i v hv
          obtain ⟨b, rfl, hb⟩ := tkey_of v2 hk
          obtain ⟨us, g1, g2⟩ := s.ob a _ q
          have lk := valV_lookup (k := k) g2
          rw [hv] at lk
          cases hv' : valV us k with
          | none => rw [hv'] at lk; exact lk.elim
          | some u' =>
            rw [hv'] at lk
            exact .inr ⟨_, u', rfl, by rw [← hv']; exact DGet.t g1 hb, Post.here (rel := relV X.K) s h lk⟩
        · exact h.elim
      · exact h.elim
    · exact h.elim
  · exact h.elim
theorem e_ix {W : WX} {a b : Expr} {ma mb : ME} {pos : Pos} (hu : X.A.units + 1 < cLine) (ha : PEm X W a ma) (hb : PEm X W b mb) (hs : PlainIx b := by intro _ _; rfl) : PEm X W (.Subscript a b pos) (m2 pIx ma mb) :=
  PE.imp (pe_ix (r := rP2 X pIx) (fun value slice pins s σ H x y v u Q I rx ry h hs => (ix_seq.or (ix_dict hu)) value slice pins s σ H x y v u Q I rx ry (ix_of h) hs) ha hb hs) fun _ _ _ => m2_of
/-! ### slices -/
def cutL {α : Type} (xs : List α) (lo hi : Option Int) : List α := (xs.drop (HT.sIx xs.length 0 lo)).take (HT.sIx xs.length xs.length hi - HT.sIx xs.length 0 lo)
def partV (v : Option Val) : Option (Option Int) := match v with
  | none => some none
  | some (.int i) => some (some i)
  | _ => none
/-- x[lo:hi] -/
def pSl (x : Val) (lo hi : Option Int) (S : Store) : R Val := match x with
  | .tup vs => .ok (.tup (cutL vs lo hi)) S
  | .fl ns => newL ((cutL ns lo hi).map Val.int) S
  | .ref a => match S[a]? with
    | some (.lst vs) => newL (cutL vs lo hi) S
    | _ => .bad
  | _ => .bad
abbrev MO := Loc → Store → R (Option Int)
def oNo : MO := fun _ S => .ok none S
def oSome (e : ME) : MO := fun L S => (e L S).bind fun v S1 => match v with
  | .int i => .ok (some i) S1
  | _ => .bad
def mSl (e : ME) (lo hi : MO) : ME := fun L S => (e L S).bind fun x S1 => (lo L S1).bind fun l S2 => (hi L S2).bind fun h S3 => noExn (pSl x l h S3)
def relO : Rel (Option Int) (Option Int) := fun _ _ _ a b => b = a
def TOm (K : PySem.W.Frag) (mg : Str → Option Value) (W : WX) (m : MO) : TO := fun σ H Q => ∃ ρ S L, SR K mg ρ S H ∧ LR K ρ S.length H L σ ∧ Post K mg relO W ρ S H σ (m L S) Q
abbrev POm (X : Cx) (W : WX) (e : Option Expr) (m : MO) : Prop := PO X e (TOm X.K X.mg W m)
theorem PO.imp {e : Option Expr} {t t' : TO} (h : PO X e t) (i : ∀ σ H Q, t' σ H Q → t σ H Q) : PO X e t' := ⟨fun pins s σ H Q I q => h.run pins s σ H Q I (i σ H Q q)⟩
theorem o_no {W : WX} : POm X W none oNo := PO.imp po_none fun σ H Q ⟨ρ, S, L, s, l, h⟩ => Post.here (rel := relO) s h rfl
theorem o_some {W : WX} {e : Expr} {m : ME} (h : PEm X W e m) : POm X W (some e) (oSome m) := PO.imp (po_some h) fun σ H Q ⟨ρ, S, L, s, l, h⟩ => by
  refine TEm.bind s l h fun ρ1 S1 x u H1 s1 l1 e v h => ?_
  cases x with
  | int i => exact ⟨i, by simpa [VR] using v, Post.here (rel := relO) s1 h rfl⟩
  | _ => exact h.elim
theorem cutV_rel {K : PySem.W.Frag} {ρ : Rho} {n : Nat} {H : Hp} {vs : List Val} {us : List V} (r : VRs K ρ n H vs us) (lo hi : Option Int) : VRs K ρ n H (cutL vs lo hi) (cutV us lo hi) := by
  unfold cutL cutV
  rw [← r.length]
  exact (r.drop _).take _
theorem cutV_map {ns : List Int} {lo hi : Option Int} : cutV (ns.map V.int) lo hi = (cutL ns lo hi).map V.int := by
  unfold cutL cutV
  simp [List.map_take, List.map_drop]
def rSlM (X : Cx) : V → Option Int → Option Int → Hp → VK → Prop := fun u lo hi H Q => ∃ ρ S x, SR X.K X.mg ρ S H ∧ VR X.K ρ S.length H x u ∧ Post X.K X.mg (relV X.K) W0 ρ S H [] (pSl x lo hi S) Q
theorem sl_of {u : V} {lo hi : Option Int} {H : Hp} {Q : VK} (h : rSlM X u lo hi H Q) : rSlL X.K u lo hi H Q ∨ rSlA X.K u lo hi H Q := by
  obtain ⟨ρ, S, x, s, v1, h⟩ := h
  unfold pSl at h
  split at h
  · rename_i vs
    have v1' := v1
    simp only [VR] at v1
    obtain ⟨a, xs, rfl, q, r⟩ := v1
    refine .inr ⟨a, xs, rfl, q.sq, fun e => ?_, fun _ => tup_new s h (cutV_rel r lo hi)⟩
    have : cutL vs lo hi = vs := by
      unfold cutL
      rw [r.length, e.1, e.2]
      simp
      rw [← r.length, List.take_length]
    rw [this] at h
    exact Post.here (rel := relV X.K) s h v1'
  · rename_i ns
    simp only [VR] at v1
    obtain ⟨a, rfl, q⟩ := v1
    refine .inl ⟨a, _, rfl, q.seq, ?_⟩
    rw [cutV_map]
    exact lst_new s h (VRs.of_ints _)
  · rename_i a
    simp only [VR] at v1
    obtain ⟨ha, rfl⟩ := v1
    split at h
    · rename_i vs q
      obtain ⟨us, g1, g2⟩ := s.lst q
      exact .inl ⟨_, us, rfl, SqL.of g1, lst_new s h (cutV_rel g2 lo hi)⟩
    · exact h.elim
  · exact h.elim
theorem TOm.bind {K : PySem.W.Frag} {mg : Str → Option Value} {W : WX} {γ β : Type} {rel : Rel γ β} {m : MO} {k : Option Int → Store → R γ} {ρ : Rho} {S : Store} {H : Hp} {L : Loc} {σ : L2.St} {Q : β → Hp → Prop} (s : SR K mg ρ S H) (l : LR K ρ S.length H L σ)
    (h : Post K mg rel W ρ S H σ ((m L S).bind k) Q) {Q' : Option Int → Hp → Prop} (hq : ∀ ρ1 S1 a H1, SR K mg ρ1 S1 H1 → LR K ρ1 S1.length H1 L σ → Ext ρ S H ρ1 S1 H1 → Post K mg rel W ρ1 S1 H1 σ (k a S1) Q → Q' a H1) :
    TOm K mg W m σ H Q' := ⟨ρ, S, L, s, l, (Post.bind (rel1 := relO) h).mono fun u H1 ⟨ρ1, S1, a, _, e, s1, v, q⟩ => by
      have v' : u = a := v
      subst v'
      exact hq ρ1 S1 u H1 s1 (l.ext s e) e q⟩
theorem e_sl {W : WX} {e : Expr} {m : ME} {lo hi : Option Expr} {ml mh : MO} {p2 pos : Pos} (he : PEm X W e m) (hl : POm X W lo ml) (hh : POm X W hi mh) : PEm X W (.Subscript e (.Slice lo hi none p2) pos) (mSl m ml mh) :=
  PE.imp (pe_slice (r := rSlM X) (fun pins s σ H x v vl vu lo hi sl Q I rx hs pl pu h => (sl_list.or sl_tupA) pins s σ H x v vl vu lo hi sl Q I rx hs pl pu (sl_of h)) he hl hh) fun σ H Q ⟨ρ, S, L, s, l, h⟩ =>
    TEm.bind s l h fun ρ1 S1 x u H1 s1 l1 e1 v h => TOm.bind s1 l1 h fun ρ2 S2 lo H2 s2 l2 e2 h => TOm.bind s2 l2 h fun ρ3 S3 hi H3 s3 l3 e3 h =>
      ⟨ρ3, S3, x, s3, VR.ext s2 e3 _ _ (VR.ext s1 e2 _ _ v), (Post.noExn h W0).sig⟩
end
end Mp

/-! Mp8: stores by place, in, len, isinstance, built-ins, methods, walks. -/
namespace Mp
open PySem PySem.Spec L2
section
variable {X : Cx}
/-! ### o[i] = v -/
def putL {κ α : Type} [DecidableEq κ] (l : List (κ × α)) (k : κ) (v : α) : List (κ × α) := if l.any fun p => decide (p.1 = k) then l.map fun p => if p.1 = k then (p.1, v) else p else l ++ [(k, v)]
def pSet (x y v : Val) (S : Store) : R Unit := match x with
  | .ref a => match S[a]? with
    | some (.lst vs) => match y with
      | .int i => match ixN vs.length i with
        | some j => .ok () (S.set a (.lst (vs.set j v)))
        | none => .bad
      | _ => .bad
    | some (.dK kvs) => match keyOf y with
      | some k => bite (decide (kvs.length < LIM)) (.ok () (S.set a (.dK (putL kvs k v)))) .bad
      | none => .bad
    | some (.dT kvs) => match y with
      | .tup ks => match tkey ks with
        | some k => bite (decide (kvs.length < LIM)) (.ok () (S.set a (.dT (putL kvs k v)))) .bad
        | none => .bad
      | _ => .bad
    | _ => .bad
  | _ => .bad
theorem KR.put {κ : Type} [DecidableEq κ] {K : PySem.W.Frag} {ρ : Rho} {n : Nat} {H : Hp} {k : κ} {v : Val} {u : V} {l : List (κ × Val)} {m : List (κ × V)} (h : KR K ρ n H l m) (hv : VR K ρ n H v u) : KR K ρ n H (putL l k v) (putK m k u) := by
  have hany : (l.any fun p => decide (p.1 = k)) = m.any fun p => decide (p.1 = k) := by
    have e : ∀ {α : Type} (l : List (κ × α)), (l.any fun p => decide (p.1 = k)) = (l.map (·.1)).any fun x => decide (x = k) := fun l => by rw [List.any_map]; rfl
    rw [e, e, h.1]
  unfold putL putK
  rw [hany]
  split
  · refine ⟨?_, ?_⟩
    · have e : ∀ {α : Type} (w : α) (l : List (κ × α)), (l.map fun p => if p.1 = k then (p.1, w) else p).map (·.1) = l.map (·.1) := fun w l => by
        rw [List.map_map]
        apply List.map_congr_left
        intro p _
        show (if p.1 = k then (p.1, w) else p).1 = p.1
        split <;> rfl
      rw [e, e, h.1]
    · rename_i hsome
      clear hany hsome
      induction l generalizing m with
      | nil =>
        have : m = [] := by have := h.1; simpa using this.symm
        subst this
        simp [VRs]
      | cons p l ih =>
        cases m with
        | nil => have := h.1; simp at this
        | cons q m =>
          obtain ⟨h1, h2⟩ := h
          simp only [List.map_cons, List.cons.injEq] at h1
          simp only [List.map_cons] at h2 ⊢
          obtain ⟨u0, r, e, h3, h4⟩ := h2.cons_of
          cases e
          refine VRs.cons ?_ (ih ⟨h1.2, h4⟩)
          rw [h1.1]
          by_cases hk : q.1 = k
          · rw [if_pos hk, if_pos hk]; exact hv
          · rw [if_neg hk, if_neg hk]; exact h3
  · exact ⟨by simp [h.1], by simp only [List.map_append, List.map_cons, List.map_nil]; exact h.2.append (VRs.cons hv VRs.nil)⟩
theorem PSet.imp {t t' : TSet} (h : PSet X t) (i : ∀ o j v H Q, t' o j v H Q → t o j v H Q) : PSet X t' := fun pins s σ H o j v ov iv u Q I r1 r2 r3 q => h pins s σ H o j v ov iv u Q I r1 r2 r3 (i _ _ _ _ _ q)
theorem PSet.or {t t' : TSet} (h : PSet X t) (h' : PSet X t') : PSet X (fun o j v H Q => t o j v H Q ∨ t' o j v H Q) := fun pins s σ H o j v ov iv u Q I r1 r2 r3 q => by
  rcases q with q | q
  · exact h pins s σ H o j v ov iv u Q I r1 r2 r3 q
  · exact h' pins s σ H o j v ov iv u Q I r1 r2 r3 q
theorem set_of {o i v : V} {H : Hp} {Q : Hp → Prop} (h : rSet X pSet o i v H Q) : rSetL o i v H Q ∨ rSetD o i v H Q := by
  obtain ⟨ρ, S, x, y, z, s, v1, v2, v3, h⟩ := h
  unfold pSet at h
  split at h
  · rename_i a
    simp only [VR] at v1
    obtain ⟨ha, rfl⟩ := v1
    split at h
    · rename_i vs q
      obtain ⟨us, g1, g2⟩ := s.lst q
      split at h
      · rename_i i'
        split at h
        · rename_i j hj
          refine .inl ⟨ρ a, us, i', j, rfl, by simpa [VR] using v2, g1, by rw [← g2.length]; exact hj, ?_⟩
          have e : Ext ρ S H ρ (S.set a (.lst (vs.set j z))) (upd H (ρ a) (.lst (us.set j v))) := Ext.put ha
          refine h ρ _ () e (s.put ha ⟨_, upd_same, ?_⟩) trivial
          have := VRs.ext s e _ _ (VRs.set j v3 g2)
          simpa using this
        · exact h.elim
      · exact h.elim
    · rename_i kvs q
      split at h
      · rename_i k hk
        by_cases hz : kvs.length < LIM
        · rw [bite_pos (decide_eq_true hz)] at h
          rw [lim_eq] at hz
          obtain ⟨us, g1, g2⟩ := s.ob a _ q
          have ek := keyOf_of v2 hk
          subst ek
          refine .inr ⟨ρ a, _, rfl, DPut.k g1 (by rw [← g2.len]; exact hz), ?_⟩
          have e : Ext ρ S H ρ (S.set a (.dK (putL kvs k z))) (upd H (ρ a) (.dK (putK us k v))) := Ext.put ha
          refine h ρ _ () e (s.put ha ⟨_, upd_same, ?_⟩) trivial
          have := KR.ext s e (g2.put (k := k) v3)
          simpa using this
        · rw [bite_neg (decide_eq_false hz)] at h
          exact h.elim
      · exact h.elim
    · rename_i kvs q
      split at h
      · rename_i ks
        split at h
        · rename_i k hk
          by_cases hz : kvs.length < LIM
          · rw [bite_pos (decide_eq_true hz)] at h
            rw [lim_eq] at hz
            obtain ⟨us, g1, g2⟩ := s.ob a _ q
            obtain ⟨b, rfl, hb⟩ := tkey_of v2 hk
            refine .inr ⟨ρ a, _, rfl, DPut.t g1 hb (by rw [← g2.len]; exact hz), ?_⟩
            have e : Ext ρ S H ρ (S.set a (.dT (putL kvs k z))) (upd H (ρ a) (.dT (putK us k v))) := Ext.put ha
            refine h ρ _ () e (s.put ha ⟨_, upd_same, ?_⟩) trivial
            have := KR.ext s e (g2.put (k := k) v3)
            simpa using this
          · rw [bite_neg (decide_eq_false hz)] at h
            exact h.elim
        · exact h.elim
      · exact h.elim
    · exact h.elim
  · exact h.elim
theorem st_set (hu : X.A.units + 1 < cLine) : PSet X (rSet X pSet) := PSet.imp (PSet.or set_list (set_dict hu)) fun _ _ _ _ _ h => set_of h
/-! ### in -/
def inO (x y : Val) (S : Store) : Option Bool := match y with
  | .ref a => match S[a]? with
    | some (.dK kvs) => match keyOf x with
      | some k => some (valL kvs k).isSome
      | none => none
    | some (.lst vs) => match toD DEEP S x, vs.mapM (toD (DEEP - 1) S) with
      | some d, some ds => if SeqAt.shaped d && SeqAt.shaped (.list ds) then some (ds.any fun z => PyData.eqv z d) else none
      | _, _ => none
    | _ => none
  | _ => none
/-! ### len -/
def lenO (x : Val) (S : Store) : Option Nat := match x with
  | .tup vs => some vs.length
  | .fl ns => some ns.length
  | .str z => if z.length ≤ LIM then some z.length else none
  | .ref a => match S[a]? with
    | some (.lst vs) => some vs.length
    | some (.dK kvs) => some kvs.length
    | _ => none
  | _ => none
def one (f : Val → Store → R Val) : Fn := fun vs S => match vs with
  | [v] => f v S
  | _ => .bad
def fLen : Fn := one fun v S => match lenO v S with
  | some n => .ok (.int n) S
  | none => .bad
theorem one_of {f : Val → Store → R Val} {us : List V} {H : Hp} {Q : VK} (h : rF X (one f) us H Q) : ∃ u, us = [u] ∧ rP1 X f u H Q := by
  obtain ⟨ρ, S, xs, s, v, h⟩ := h
  unfold one at h
  split at h
  · rename_i x
    obtain ⟨u, rfl, r⟩ := v.one
    exact ⟨u, rfl, ρ, S, x, s, r, h⟩
  · exact h.elim
theorem call_lenD : CallR X (.builtin "len") (fun xs H Q => ∃ a kvs, xs = [.ref a] ∧ H a = some (.dK kvs) ∧ Q (.int kvs.length) H) := by
  intro pins s σ H xs us Q I r h
  obtain ⟨a, kvs, rfl, e, q⟩ := h
  obtain rfl := Vals.ref1 r
  exact d_len I (.inl e) fun t s' I' => ⟨.int kvs.length, H, I', ⟨t, rfl⟩, q⟩
theorem len_of {us : List V} {H : Hp} {Q : VK} (h : rF X fLen us H Q) : (∃ x n, us = [x] ∧ LenV X.K x H n ∧ Q (.int n) H) ∨ (∃ a kvs, us = [.ref a] ∧ H a = some (.dK kvs) ∧ Q (.int kvs.length) H) := by
  replace h := one_of h
  obtain ⟨u, rfl, ρ, S, x, s, v, h⟩ := h
  dsimp only at h
  split at h
  · rename_i n hn
    have q : Q (.int n) H := Post.here (rel := relV X.K) s h (by simp [relV, VR])
    unfold lenO at hn
    split at hn
    · rename_i vs
      cases hn
      simp only [VR] at v
      obtain ⟨a, xs, rfl, h1, h2⟩ := v
      exact .inl ⟨_, _, rfl, .inr ⟨xs, h1.sq, h2.length⟩, q⟩
    · rename_i ns
      cases hn
      simp only [VR] at v
      obtain ⟨a, rfl, h1⟩ := v
      exact .inl ⟨_, _, rfl, .inl ⟨_, h1.seq, by simp⟩, q⟩
    · rename_i z
      split at hn
      · rename_i hz
        cases hn
        rw [lim_eq] at hz
        simp only [VR] at v
        subst v
        exact .inl ⟨_, _, rfl, ⟨hz, rfl⟩, q⟩
      · cases hn
    · rename_i a
      simp only [VR] at v
      obtain ⟨ha, rfl⟩ := v
      split at hn
      · rename_i vs e
        cases hn
        obtain ⟨us, g1, g2⟩ := s.lst e
        exact .inl ⟨_, _, rfl, .inl ⟨us, SqL.of g1, g2.length⟩, q⟩
      · rename_i kvs e
        cases hn
        obtain ⟨us, g1, g2⟩ := s.ob a _ e
        rw [g2.len] at q
        exact .inr ⟨_, us, rfl, g1, q⟩
      · cases hn
    · cases hn
  · exact h.elim
theorem c_len : CallR X (.builtin "len") (rF X fLen) := CallR.imp (call_len.or call_lenD) fun _ _ _ h => len_of h
/-! ### int(n), list(xs), tuple(xs), abs, max, min of two, ord -/
def fInt : Fn := one fun v S => match v with
  | .int i => .ok (.int i) S
  | .bl b => .ok (.int (if b then 1 else 0)) S
  | _ => .bad
theorem c_int : CallR X (.type "int") (rF X fInt) := CallR.imp call_int1 fun us H Q h => by
  replace h := one_of h
  obtain ⟨u, rfl, ρ, S, x, s, v, h⟩ := h
  dsimp only at h
  split at h
  · simp only [VR] at v; subst v
    exact .inl ⟨_, rfl, Post.here (rel := relV X.K) s h (by simp [relV, VR])⟩
  · simp only [VR] at v; subst v
    exact .inr ⟨_, rfl, Post.here (rel := relV X.K) s h (by simp [relV, VR])⟩
  · exact h.elim
def fAbs : Fn := one fun v S => match v with
  | .int i => .ok (.int (if i < 0 then -i else i)) S
  | _ => .bad
theorem c_abs : CallR X (.builtin "abs") (rF X fAbs) := CallR.imp call_abs fun us H Q h => by
  replace h := one_of h
  obtain ⟨u, rfl, ρ, S, x, s, v, h⟩ := h
  dsimp only at h
  split at h
  · simp only [VR] at v; subst v
    exact ⟨_, rfl, Post.here (rel := relV X.K) s h (by simp [relV, VR])⟩
  · exact h.elim
def two (f : Int → Int → Int) : Fn := fun vs S => match vs with
  | [.int i, .int j] => .ok (.int (f i j)) S
  | _ => .bad
theorem two_of {f : Int → Int → Int} {us : List V} {H : Hp} {Q : VK} (h : rF X (two f) us H Q) : ∃ i j, us = [.int i, .int j] ∧ Q (.int (f i j)) H := by
  obtain ⟨ρ, S, xs, s, v, h⟩ := h
  unfold two at h
  split at h
  · obtain ⟨u, w, rfl, r1, r2⟩ := v.two
    simp only [VR] at r1 r2
    subst r1 r2
    exact ⟨_, _, rfl, Post.here (rel := relV X.K) s h (by simp [relV, VR])⟩
  · exact h.elim
def fMax : Fn := two fun i j => if j > i then j else i
def fMin : Fn := two fun i j => if j < i then j else i
theorem c_max (hc : X.calm = true) : CallR X (.builtin "max") (rF X fMax) := CallR.imp (call_max2 hc) fun us H Q h => two_of h
theorem c_min (hc : X.calm = true) : CallR X (.builtin "min") (rF X fMin) := CallR.imp (call_min2 hc) fun us H Q h => two_of h
def itemsO (x : Val) (S : Store) : Option (List Val) := match x with
  | .tup vs => some vs
  | .fl ns => some (ns.map Val.int)
  | .ref a => match S[a]? with
    | some (.lst vs) => some vs
    | _ => none
  | _ => none
theorem items_of {ρ : Rho} {S : Store} {H : Hp} {x : Val} {u : V} {vs : List Val} (s : SR X.K X.mg ρ S H) (v : VR X.K ρ S.length H x u) (h : itemsO x S = some vs) : ∃ a us, u = .ref a ∧ (SqL X.K H a us ∨ SqT X.K H a us) ∧ VRs X.K ρ S.length H vs us := by
  unfold itemsO at h
  split at h
  · cases h
    simp only [VR] at v
    obtain ⟨a, xs, rfl, h1, h2⟩ := v
    exact ⟨a, xs, rfl, .inr h1.sq, h2⟩
  · cases h
    simp only [VR] at v
    obtain ⟨a, rfl, h1⟩ := v
    exact ⟨a, _, rfl, .inl h1.seq, VRs.of_ints _⟩
  · rename_i a
    simp only [VR] at v
    obtain ⟨ha, rfl⟩ := v
    split at h
    · rename_i vs' e
      cases h
      obtain ⟨us, g1, g2⟩ := s.lst e
      exact ⟨_, us, rfl, .inl (SqL.of g1), g2⟩
    · cases h
  · cases h
def fList : Fn := one fun v S => match itemsO v S with
  | some vs => newL vs S
  | none => .bad
theorem c_list : CallR X (.type "list") (rF X fList) := CallR.imp call_list_of fun us H Q h => by
  replace h := one_of h
  obtain ⟨u, rfl, ρ, S, x, s, v, h⟩ := h
  dsimp only at h
  split at h
  · rename_i vs e
    obtain ⟨a, us, rfl, h1, h2⟩ := items_of s v e
    exact ⟨a, us, rfl, h1, lst_new s h h2⟩
  · exact h.elim
def fTuple : Fn := one fun v S => match itemsO v S with
  | some vs => .ok (.tup vs) S
  | none => .bad
theorem c_tuple : CallR X (.type "tuple") (rF X fTuple) := CallR.imp call_tuple_of fun us H Q h => by
  replace h := one_of h
  obtain ⟨u, rfl, ρ, S, x, s, v, h⟩ := h
  dsimp only at h
  split at h
  · rename_i vs e
    unfold itemsO at e
    split at e
    · cases e
      have v' := v
      simp only [VR] at v
      obtain ⟨a, xs, rfl, h1, h2⟩ := v
      exact ⟨a, xs, rfl, .inr ⟨h1.sq, Post.here (rel := relV X.K) s h v'⟩⟩
    · cases e
      simp only [VR] at v
      obtain ⟨a, rfl, h1⟩ := v
      exact ⟨a, _, rfl, .inl ⟨h1.seq, tup_new s h (VRs.of_ints _)⟩⟩
    · rename_i a
      simp only [VR] at v
      obtain ⟨ha, rfl⟩ := v
      split at e
      · rename_i vs' e'
        cases e
        obtain ⟨us, g1, g2⟩ := s.lst e'
        exact ⟨_, us, rfl, .inl ⟨SqL.of g1, tup_new s h g2⟩⟩
      · cases e
    · cases e
  · exact h.elim
/-! ### isinstance -/
/-- the name of a value's type (an instance has none here) -/
def tyName (v : Val) (S : Store) : Option String := match v with
  | .non => some "NoneType"
  | .bl _ => some "bool"
  | .int _ => some "int"
  | .str _ => some "str"
  | .tup _ => some "tuple"
  | .fl _ => some "list"
  | .ref a => match S[a]? with
    | some (.lst _) => some "list"
    | some (.dK _) => some "dict"
    | some (.dT _) => some "dict"
    | _ => none
/-- is a value of the type t one of T -/
def subTy (t T : String) : Bool := t == T || (t == "bool" && T == "int")
def pIsT (T : String) : P1 := fun v S => match tyName v S with
  | some t => .ok (.bl (subTy t T)) S
  | none => .bad
def pIsAny (Ts : List String) : P1 := fun v S => match tyName v S with
  | some t => .ok (.bl (Ts.any (subTy t))) S
  | none => .bad
theorem ty_of {ρ : Rho} {S : Store} {H : Hp} {x : Val} {u : V} {t : String} (s : SR X.K X.mg ρ S H) (v : VR X.K ρ S.length H x u) (h : tyName x S = some t) : TyX X.K H u (.type t) := by
  unfold tyName at h
  split at h
  · cases h; simp only [VR] at v; subst v; exact .base .non
  · cases h; simp only [VR] at v; subst v; exact .base (.bl _)
  · cases h; simp only [VR] at v; subst v; exact .base (.int _)
  · cases h; simp only [VR] at v; subst v; exact .base (.str _)
  · cases h
    simp only [VR] at v
    obtain ⟨a, xs, rfl, h0, _⟩ := v
    rcases h0.sq with (h1 | ⟨o, h1⟩) | ⟨o, its, n, h1, h2, _⟩
    · exact .base (.tup h1)
    · exact .fTuple h1
    · exact .kTuple h1 h2
  · cases h
    simp only [VR] at v
    obtain ⟨a, rfl, ⟨o, h1⟩ | ⟨o, its, n, h1, h2, _⟩⟩ := v
    · exact .base (.frz h1)
    · exact .kList h1 h2
  · rename_i a
    simp only [VR] at v
    obtain ⟨ha, rfl⟩ := v
    split at h
    · rename_i vs e
      cases h
      obtain ⟨us, g1, g2⟩ := s.lst e
      exact .base (.lst g1)
    · rename_i vs e
      cases h
      obtain ⟨us, g1, g2⟩ := s.ob a _ e
      exact .base (.dK g1)
    · rename_i vs e
      cases h
      obtain ⟨us, g1, g2⟩ := s.ob a _ e
      exact .base (.dT g1)
    · cases h
def tyNames : List String := ["NoneType", "bool", "int", "str", "tuple", "list", "dict"]
def tyTests : List String := ["bool", "int", "str", "tuple", "list", "dict"]
theorem tyName_mem {v : Val} {S : Store} {t : String} (h : tyName v S = some t) : t ∈ tyNames := by
  unfold tyName at h
  split at h
  all_goals first
    | (cases h; decide)
    | (split at h <;> first | (cases h; decide) | cases h)
theorem kit_all : (tyNames.all fun t => tyTests.all fun T => kitB t T == some (subTy t T)) = true := by decide +kernel
theorem kit_one {K : PySem.W.Frag} {t T : String} (ht : t ∈ tyNames) (hT : T ∈ tyTests) : PySem.W.kitOne K (.type t) (.type T) = some (subTy t T) := by
  have := List.all_eq_true.mp (List.all_eq_true.mp kit_all t ht) T hT
  exact kit_ty (by simpa using this)
/-- isinstance(x, T), T a built-in class -/
theorem e_isT {W : WX} {a : Expr} {ma : ME} {p pos p2 : Pos} {T : Str} {Tn : String} (hg : Gl X "isinstance") (hm : X.mg "isinstance" = none) (ha : PEm X W a ma) (hgT : Gl X T) (hmT : X.mg T = none) (hvT : bootBuiltins T = some (.type Tn)) (hT : Tn ∈ tyTests)
    (hn : T ≠ "__name__" := by decide) (hd : (T == ("__debug__" : Str)) = false := by decide)
    (hs1 : starEach [a, .Name T p2] X.env = (false, eval a X.env) :: starEach [.Name T p2] X.env := by rfl) (hs2 : starEach [.Name T p2] X.env = (false, eval (.Name T p2) X.env) :: starEach [] X.env := by rfl) (hpl : (backTo pos (starEach [.Name T p2] X.env)).any (·.1) = false := by rfl) :
    PEm X W (.Call (.Name "isinstance" p) [a, .Name T p2] [] pos) (m1 (pIsT Tn) ma) :=
  PE.imp (pe_callB call_isi hg hm (by decide +kernel) (pa_cons ha (pa_cons (pe_bltn (v := .ty Tn) hgT hmT hvT rfl hn hd) pa_nil hs2) hs1) (by decide) (by decide) hs1 hpl) fun σ H Q h => by
    obtain ⟨ρ, S, L, s, l, h⟩ := h
    refine TEm.bind s l h fun ρ1 S1 x u H1 s1 l1 e v h => ?_
    have h := (Post.noExn h W0).sig (σ' := σ)
    unfold pIsT at h
    split at h
    · rename_i t ht
      exact ⟨u, .ty Tn, .type t, .type Tn, subTy t Tn, rfl, .ty Tn, ty_of s1 v ht, kit_one (tyName_mem ht) hT, Post.here (rel := relV X.K) s1 h (by simp [relV, VR])⟩
    · exact h.elim
end
end Mp

/-! Mp9: in, methods, sorted, walks over ranges, enumerate, zip. -/
namespace Mp
open PySem PySem.Spec L2
section
variable {X : Cx}
/-! ### in, not in -/
def flatL (v : Val) : Option V := match v with
  | .non => some .non
  | .bl b => some (.bl b)
  | .int i => some (.int i)
  | .str x => some (.str x)
  | _ => none
def inF (x y : Val) (S : Store) : Option Bool := match y with
  | .ref a => match S[a]? with
    | some (.dK kvs) => match keyOf x with
      | some k => some (valL kvs k).isSome
      | none => none
    | some (.lst vs) => match flatL x, vs.mapM flatL with
      | some u, some us => some (inV u us)
      | _, _ => none
    | some (.dT kvs) => match x with
      | .tup ks => match tkey ks with
        | some k => some (valL kvs k).isSome
        | none => none
      | _ => none
    | _ => none
  | .tup vs => match flatL x, vs.mapM flatL with
    | some u, some us => some (inV u us)
    | _, _ => none
  | _ => none
def pIn : P2 := fun x y S => match inF x y S with
  | some b => .ok (.bl b) S
  | none => .bad
def pNotIn : P2 := fun x y S => match inF x y S with
  | some b => .ok (.bl (!b)) S
  | none => .bad
theorem flat_of {K : PySem.W.Frag} {ρ : Rho} {n : Nat} {H : Hp} {x : Val} {u w : V} (v : VR K ρ n H x u) (h : flatL x = some w) : u = w ∧ flatV w = true := by
  cases x with
  | non => simp [flatL] at h; simp only [VR] at v; subst h v; exact ⟨rfl, rfl⟩
  | bl b => simp [flatL] at h; simp only [VR] at v; subst h v; exact ⟨rfl, rfl⟩
  | int b => simp [flatL] at h; simp only [VR] at v; subst h v; exact ⟨rfl, rfl⟩
  | str b => simp [flatL] at h; simp only [VR] at v; subst h v; exact ⟨rfl, rfl⟩
  | _ => simp [flatL] at h
theorem flats_of {K : PySem.W.Frag} {ρ : Rho} {n : Nat} {H : Hp} : ∀ {xs : List Val} {us ws : List V}, VRs K ρ n H xs us → xs.mapM flatL = some ws → us = ws ∧ ws.all flatV = true
  | [], us, ws, v, h => by simp at h; subst h; exact ⟨v.nil_of, rfl⟩
  | x :: xs, us, ws, v, h => by
    obtain ⟨u, r, rfl, h1, h2⟩ := v.cons_of
    rw [List.mapM_cons] at h
    cases hx : flatL x with
    | none => rw [hx] at h; cases h
    | some d =>
      rw [hx] at h
      cases hxs : xs.mapM flatL with
      | none => rw [hxs] at h; cases h
      | some ds =>
        rw [hxs] at h
        cases h
        obtain ⟨e1, f1⟩ := flat_of h1 hx
        obtain ⟨e2, f2⟩ := flats_of h2 hxs
        subst e1 e2
        exact ⟨rfl, by simp [f1, f2]⟩
def rInK (neg : Bool) : R2 := fun x y H Q => ∃ a o, y = .ref a ∧ DGet H a x o ∧ Q (.bl (if neg then !o.isSome else o.isSome)) H
theorem op_inK (hu : X.A.units + 1 < cLine) : OpR X (compareOp .In) (rInK false) := by
  intro pins s σ H x y v u Q I rx ry h
  obtain ⟨a, o, rfl, g, q⟩ := h
  obtain rfl : u = Value.ref a := ry
  exact d_in hu I g rx fun s' I' => ⟨.bl o.isSome, H, I', rfl, q⟩
theorem op_notInK (hu : X.A.units + 1 < cLine) : OpR X (compareOp .NotIn) (rInK true) := by
  intro pins s σ H x y v u Q I rx ry h
  obtain ⟨a, o, rfl, g, q⟩ := h
  obtain rfl : u = Value.ref a := ry
  exact d_notIn hu I g rx fun s' I' => ⟨.bl (!o.isSome), H, I', rfl, q⟩
theorem inF_of {neg : Bool} {u w : V} {H : Hp} {Q : VK} {ρ : Rho} {S : Store} {x y : Val} {b : Bool} (s : SR X.K X.mg ρ S H) (v1 : VR X.K ρ S.length H x u) (v2 : VR X.K ρ S.length H y w) (hb : inF x y S = some b) (q : Q (.bl (if neg then !b else b)) H) : rIn X.K neg u w H Q ∨ rInK neg u w H Q := by
  unfold inF at hb
  split at hb
  · rename_i a
    simp only [VR] at v2
    obtain ⟨ha, rfl⟩ := v2
    split at hb
    · rename_i kvs e
      split at hb
      · rename_i k hk
        cases hb
        obtain ⟨us, g1, g2⟩ := s.ob a _ e
        have ek := keyOf_of v1 hk
        subst ek
        have lk := valV_lookup (k := k) g2
        have : (valL kvs k).isSome = (valV us k).isSome := by
          cases h1 : valL kvs k <;> cases h2 : valV us k <;> rw [h1, h2] at lk <;> first | rfl | exact lk.elim
        rw [this] at q
        exact .inr ⟨_, _, rfl, DGet.k g1, q⟩
      · cases hb
    · rename_i vs e
      split at hb
      · rename_i d ds hd hds
        cases hb
        obtain ⟨us, g1, g2⟩ := s.lst e
        obtain ⟨e1, f1⟩ := flat_of v1 hd
        obtain ⟨e2, f2⟩ := flats_of g2 hds
        subst e1 e2
        exact .inl ⟨_, _, rfl, .inl (SqL.of g1), f1, f2, q⟩
      · cases hb
    · rename_i kvs e
      split at hb
      · rename_i ks
        split at hb
        · rename_i k hk
          cases hb
          obtain ⟨us, g1, g2⟩ := s.ob a _ e
          obtain ⟨b, rfl, hb⟩ := tkey_of v1 hk
          have lk := valV_lookup (k := k) g2
          have : (valL kvs k).isSome = (valV us k).isSome := by
            cases h1 : valL kvs k <;> cases h2 : valV us k <;> rw [h1, h2] at lk <;> first | rfl | exact lk.elim
          rw [this] at q
          exact .inr ⟨_, _, rfl, DGet.t g1 hb, q⟩
        · cases hb
      · cases hb
    · cases hb
  · rename_i vs
    simp only [VR] at v2
    obtain ⟨a, xs, rfl, g1, g2⟩ := v2
    split at hb
    · rename_i d ds hd hds
      cases hb
      obtain ⟨e1, f1⟩ := flat_of v1 hd
      obtain ⟨e2, f2⟩ := flats_of g2 hds
      subst e1 e2
      exact .inl ⟨_, _, rfl, .inr g1.sq, f1, f2, q⟩
    · cases hb
  · cases hb
theorem o_in (hu : X.A.units + 1 < cLine) : OpS X (compareOp .In) pIn := OpR.imp (op_in_seq.or (op_inK hu)) fun u w H Q h => by
  obtain ⟨ρ, S, x, y, s, v1, v2, h⟩ := h
  unfold pIn at h
  split at h
  · rename_i b hb
    exact inF_of (neg := false) s v1 v2 hb (Post.here (rel := relV X.K) s h (by simp [relV, VR]))
  · exact h.elim
theorem o_notIn (hu : X.A.units + 1 < cLine) : OpS X (compareOp .NotIn) pNotIn := OpR.imp (op_notIn_seq.or (op_notInK hu)) fun u w H Q h => by
  obtain ⟨ρ, S, x, y, s, v1, v2, h⟩ := h
  unfold pNotIn at h
  split at h
  · rename_i b hb
    exact inF_of (neg := true) s v1 v2 hb (Post.here (rel := relV X.K) s h (by simp [relV, VR]))
  · exact h.elim
/-! ### methods of built-in types -/
abbrev Mt := Val → List Val → Store → R Val
def isTy (T : String) (v : Val) (S : Store) : Bool := match v with
  | .ref a => match S[a]? with
    | some (.lst _) => T == "list"
    | some (.dK _) => T == "dict"
    | some (.dT _) => T == "dict"
    | _ => false
  | .fl _ => T == "list"
  | .str _ => T == "str"
  | _ => false
/-- o.m(..), o of the built-in class T -/
def mBM (T : String) (f : Mt) (o : ME) (a : MA) : ME := fun L S => (o L S).bind fun x S1 => bite (isTy T x S1) ((a L S1).bind fun vs S2 => noExn (f x vs S2)) .bad
def rM (X : Cx) (f : Mt) : V → List V → Hp → VK → Prop := fun u us H Q => ∃ ρ S x xs, SR X.K X.mg ρ S H ∧ VR X.K ρ S.length H x u ∧ VRs X.K ρ S.length H xs us ∧ Post X.K X.mg (relV X.K) W0 ρ S H [] (f x xs S) Q
theorem isTy_of {T : String} {ρ : Rho} {S : Store} {H : Hp} {x : Val} {u : V} (s : SR X.K X.mg ρ S H) (v : VR X.K ρ S.length H x u) (h : isTy T x S = true) : tyV X.K T u H := by
  unfold isTy at h
  split at h
  · rename_i a
    simp only [VR] at v
    obtain ⟨ha, rfl⟩ := v
    split at h
    · rename_i vs e
      obtain ⟨us, g1, g2⟩ := s.lst e
      exact .inl ⟨by simpa using h, us, SqL.of g1⟩
    · rename_i vs e
      obtain ⟨us, g1, g2⟩ := s.ob a _ e
      exact .inr (.inr (.inl ⟨by simpa using h, .inl ⟨us, g1⟩⟩))
    · rename_i vs e
      obtain ⟨us, g1, g2⟩ := s.ob a _ e
      exact .inr (.inr (.inl ⟨by simpa using h, .inr ⟨us, g1⟩⟩))
    · cases h
  · simp only [VR] at v
    obtain ⟨a, rfl, h1⟩ := v
    exact .inl ⟨by simpa using h, _, h1.seq⟩
  · simp only [VR] at v
    subst v
    show T = "str"
    simpa using h
  · cases h
theorem MtR.imp {id : String} {r r' : V → List V → Hp → VK → Prop} (h : MtR X id r) (i : ∀ u us H Q, r' u us H Q → r u us H Q) : MtR X id r' := fun pins s σ H x xs v us Q I rx rs q => h pins s σ H x xs v us Q I rx rs (i _ _ _ _ q)
variable {W : WX} {o e : Expr} {es : List Expr} {mo : ME} {ma : MA} {name : Str} {apos cpos pos : Pos} {T id : String} {f : Mt}
theorem bm_of {σ : L2.St} {H : Hp} {Q : VK} (h : TEm X.K X.mg W (mBM T f mo ma) σ H Q) : TEm X.K X.mg W mo σ H fun x H1 => tyV X.K T x H1 ∧ TAm X.K X.mg W ma σ H1 fun xs H2 => rM X f x xs H2 Q := by
  obtain ⟨ρ, S, L, s, l, h⟩ := h
  refine TEm.bind s l h fun ρ1 S1 x u H1 s1 l1 e v h => ?_
  cases ht : isTy T x S1 with
  | false => rw [ht] at h; exact h.elim
  | true =>
    rw [ht] at h
    exact ⟨isTy_of s1 v ht, TAm.bind s1 l1 h fun ρ2 S2 xs us H2 s2 l2 e2 v2 h => ⟨ρ2, S2, x, xs, s2, VR.ext s1 e2 _ _ v, v2, (Post.noExn h W0).sig⟩⟩
theorem e_bm (pa : PlainAttrs T) (slot : Slot T name id) (hty : typeOf (.builtin id) = pure (.type "method_descriptor")) (hm : MtR X id (rM X f)) (ho : PEm X W o mo) (ha : PAm X W (e :: es) ma)
    (hbase : attributeBase o name X.env (eval o X.env) = eval o X.env := by rfl)
    (hfew : ((backTo cpos (starEach (e :: es) X.env)).all (fun x => !x.1) && (backToKw cpos (keywordEach [] X.env)).all (fun x => x.1.isSome)
      && decide ((e :: es).length + ([] : List Keyword).length + (if ([] : List Keyword).isEmpty then 0 else 1) < 30)) = true := by rfl)
    (hline : (apos.endLine == cpos.line) = true := by rfl) (hs : starEach (e :: es) X.env = (false, eval e X.env) :: starEach es X.env := by rfl) (hplain : (backTo cpos (starEach es X.env)).any (·.1) = false := by rfl) :
    PEm X W (.Call (.Attribute o name apos) (e :: es) [] cpos) (mBM T f mo ma) := PE.imp (pe_bm pa slot hty hm ho ha hbase hfew hline hs hplain) fun _ _ _ => bm_of
theorem e_bm0 (pa : PlainAttrs T) (slot : Slot T name id) (hty : typeOf (.builtin id) = pure (.type "method_descriptor")) (hm : MtR X id (rM X f)) (ho : PEm X W o mo)
    (hbase : attributeBase o name X.env (eval o X.env) = eval o X.env := by rfl) (hline : (apos.endLine == cpos.line) = true := by rfl) : PEm X W (.Call (.Attribute o name apos) [] [] cpos) (mBM T f mo aNil) := PE.imp (pe_bm0 pa slot hty hm ho hbase hline) fun σ H Q h => by
  obtain ⟨ρ, S, L, s, l, h⟩ := bm_of h
  refine ⟨ρ, S, L, s, l, h.mono fun x H1 ⟨ty, ρ1, S1, L1, s1, l1, h1⟩ => ⟨ty, ?_⟩⟩
  exact Post.here (rel := relVs X.K) s1 h1 VRs.nil
def fAppend : Mt := fun x vs S => match x, vs with
  | .ref a, [v] => match S[a]? with
    | some (.lst xs) => bite (decide (xs.length < LIM)) (.ok .non (S.set a (.lst (xs ++ [v])))) .bad
    | _ => .bad
  | _, _ => .bad
theorem m_append : MtR X "list.append" (rM X fAppend) := MtR.imp mt_append fun u us H Q h => by
  obtain ⟨ρ, S, x, xs, s, v1, v2, h⟩ := h
  unfold fAppend at h
  split at h
  · rename_i a v
    obtain ⟨u1, rfl, r1⟩ := v2.one
    simp only [VR] at v1
    obtain ⟨ha, rfl⟩ := v1
    split at h
    · rename_i ys q
      obtain ⟨ws, g1, g2⟩ := s.lst q
      by_cases hz : ys.length < LIM
      · rw [bite_pos (decide_eq_true hz)] at h
        rw [lim_eq] at hz
        refine ⟨ρ a, ws, u1, rfl, rfl, g1, by rw [← g2.length]; exact hz, ?_⟩
        have e : Ext ρ S H ρ (S.set a (.lst (ys ++ [v]))) (upd H (ρ a) (.lst (ws ++ [u1]))) := Ext.put ha
        refine h ρ _ _ e (s.put ha ⟨_, upd_same, ?_⟩) (by simp [relV, VR])
        have := VRs.ext s e _ _ (g2.append (VRs.cons r1 VRs.nil))
        simpa using this
      · rw [bite_neg (decide_eq_false hz)] at h
        exact h.elim
    · exact h.elim
  · exact h.elim
def fExtend : Mt := fun x vs S => match x, vs with
  | .ref a, [.ref b] => match S[a]?, S[b]? with
    | some (.lst xs), some (.lst ys) => bite (decide (xs.length + ys.length ≤ LIM)) (.ok .non (S.set a (.lst (xs ++ ys)))) .bad
    | _, _ => .bad
  | _, _ => .bad
theorem m_extend : MtR X "list.extend" (rM X fExtend) := MtR.imp mt_extend fun u us H Q h => by
  obtain ⟨ρ, S, x, xs, s, v1, v2, h⟩ := h
  unfold fExtend at h
  split at h
  · rename_i a b
    obtain ⟨u1, rfl, r1⟩ := v2.one
    simp only [VR] at v1 r1
    obtain ⟨ha, rfl⟩ := v1
    obtain ⟨hb, rfl⟩ := r1
    split at h
    · rename_i ys zs q q2
      obtain ⟨ws, g1, g2⟩ := s.lst q
      obtain ⟨ws2, g3, g4⟩ := s.lst q2
      by_cases hz : ys.length + zs.length ≤ LIM
      · rw [bite_pos (decide_eq_true hz)] at h
        rw [lim_eq] at hz
        refine ⟨ρ a, ρ b, ws, ws2, rfl, rfl, g1, g3, by rw [← g2.length, ← g4.length]; exact hz, ?_⟩
        have e : Ext ρ S H ρ (S.set a (.lst (ys ++ zs))) (upd H (ρ a) (.lst (ws ++ ws2))) := Ext.put ha
        refine h ρ _ _ e (s.put ha ⟨_, upd_same, ?_⟩) (by simp [relV, VR])
        have := VRs.ext s e _ _ (g2.append g4)
        simpa using this
      · rw [bite_neg (decide_eq_false hz)] at h
        exact h.elim
    · exact h.elim
  · exact h.elim
def fPopAt : Mt := fun x vs S => match x, vs with
  | .ref a, [.int i] => match S[a]? with
    | some (.lst xs) => match ixN xs.length i with
      | some k => match xs[k]? with
        | some y => bite (decide (-(2 ^ 63) ≤ i) && decide (i < 2 ^ 63)) (.ok y (S.set a (.lst (xs.eraseIdx k)))) .bad
        | none => .bad
      | none => .bad
    | _ => .bad
  | _, _ => .bad
theorem m_popAt : MtR X "list.pop" (rM X fPopAt) := MtR.imp mt_popAt fun u us H Q h => by
  obtain ⟨ρ, S, x, xs, s, v1, v2, h⟩ := h
  unfold fPopAt at h
  split at h
  · rename_i a i
    obtain ⟨u1, rfl, r1⟩ := v2.one
    simp only [VR] at v1 r1
    obtain ⟨ha, rfl⟩ := v1
    subst r1
    split at h
    · rename_i ys q
      obtain ⟨ws, g1, g2⟩ := s.lst q
      split at h
      · rename_i k hk
        split at h
        · rename_i y hy
          cases hz : (decide (-(2 ^ 63) ≤ i) && decide (i < 2 ^ 63)) with
          | false => rw [hz] at h; exact h.elim
          | true =>
            rw [hz] at h
            simp only [Bool.and_eq_true, decide_eq_true_eq] at hz
            obtain ⟨u2, hu2, r2⟩ := g2.get hy
            refine ⟨ρ a, ws, i, k, u2, rfl, rfl, g1, hz.1, hz.2, by rw [← g2.length]; exact (ixN_seq hk).1, hu2, ?_⟩
            have e : Ext ρ S H ρ (S.set a (.lst (ys.eraseIdx k))) (upd H (ρ a) (.lst (ws.eraseIdx k))) := Ext.put ha
            refine h ρ _ _ e (s.put ha ⟨_, upd_same, ?_⟩) ?_
            · have := VRs.ext s e _ _ (g2.eraseIdx k)
              simpa using this
            · have := VR.ext s e _ _ r2
              simpa [relV] using this
        · exact h.elim
      · exact h.elim
    · exact h.elim
  · exact h.elim
/-- d.pop(k), k there -/
def dropL {κ α : Type} [DecidableEq κ] (l : List (κ × α)) (k : κ) : List (κ × α) := l.filter fun p => decide (p.1 ≠ k)
def fDPop : Mt := fun x vs S => match x, vs with
  | .ref a, [v] => match S[a]? with
    | some (.dK kvs) => match keyOf v with
      | some k => match valL kvs k with
        | some y => .ok y (S.set a (.dK (dropL kvs k)))
        | none => .bad
      | none => .bad
    | _ => .bad
  | _, _ => .bad
theorem KR.drop {κ : Type} [DecidableEq κ] {K : PySem.W.Frag} {ρ : Rho} {n : Nat} {H : Hp} {k : κ} : ∀ {l : List (κ × Val)} {m : List (κ × V)}, KR K ρ n H l m → KR K ρ n H (dropL l k) (dropK m k)
  | [], m, h => by
    have : m = [] := by have := h.1; simpa using this.symm
    subst this
    exact ⟨rfl, by simp [dropL, dropK, VRs]⟩
  | (g, v) :: l, m, h => by
    obtain ⟨h1, h2⟩ := h
    cases m with
    | nil => simp at h1
    | cons p m =>
      obtain ⟨g', u⟩ := p
      simp only [List.map_cons, List.cons.injEq] at h1
      obtain ⟨rfl, h1⟩ := h1
      simp only [List.map_cons] at h2
      obtain ⟨u0, r, e, h2, h3⟩ := h2.cons_of
      cases e
      have ih := KR.drop (k := k) (l := l) (m := m) ⟨h1, h3⟩
      by_cases q : g = k
      · have e1 : dropL ((g, v) :: l) k = dropL l k := by unfold dropL; rw [List.filter_cons_of_neg (by simp [q])]
        have e2 : dropK ((g, u) :: m) k = dropK m k := by unfold dropK; rw [List.filter_cons_of_neg (by simp [q])]
        rw [e1, e2]; exact ih
      · have e1 : dropL ((g, v) :: l) k = (g, v) :: dropL l k := by unfold dropL; rw [List.filter_cons_of_pos (by simp [q])]
        have e2 : dropK ((g, u) :: m) k = (g, u) :: dropK m k := by unfold dropK; rw [List.filter_cons_of_pos (by simp [q])]
        rw [e1, e2]
        exact ⟨by simp [ih.1], by simp only [List.map_cons]; exact VRs.cons h2 ih.2⟩
theorem e_dpop (ho : PEm X W o mo) {me : ME} (he : PEm X W e me) (m : M1 X o "pop" apos e cpos) : PEm X W (.Call (.Attribute o "pop" apos) [e] [] cpos) (mBM "dict" fDPop mo (aCons me aNil)) := PE.imp (pe_dpop1 ho he m) fun σ H Q h => by
  obtain ⟨ρ, S, L, s, l, h⟩ := h
  refine TEm.bind s l h fun ρ1 S1 x u H1 s1 l1 e1 v h => ?_
  cases ht : isTy "dict" x S1 with
  | false => rw [ht] at h; exact h.elim
  | true =>
    rw [ht] at h
    have hd := isTy_of s1 v ht
    -- the receiver is a dict
    have isd : ∃ b a, x = .ref b ∧ u = .ref a ∧ IsD H1 a := by
      cases x with
      | ref i =>
        simp only [isTy] at ht
        simp only [VR] at v
        obtain ⟨hi, rfl⟩ := v
        split at ht
        · cases ht
        · rename_i kvs q
          obtain ⟨us, g1, g2⟩ := s1.ob i _ q
          exact ⟨i, _, rfl, rfl, .inl ⟨us, .inl g1⟩⟩
        · rename_i kvs q
          obtain ⟨us, g1, g2⟩ := s1.ob i _ q
          exact ⟨i, _, rfl, rfl, .inr ⟨us, .inl g1⟩⟩
        · cases ht
      | fl ns => cases ht
      | str z => cases ht
      | _ => cases ht
    obtain ⟨b, a, rfl, rfl, hda⟩ := isd
    refine ⟨a, rfl, hda, ?_⟩
    have h : Post X.K X.mg (relV X.K) W ρ1 S1 H1 σ (((me L S1).bind fun y S2 => (R.ok [] S2).bind fun ys S3 => R.ok (y :: ys) S3).bind fun vs S2 => noExn (fDPop (.ref b) vs S2)) Q := h
    have h' : Post X.K X.mg (relV X.K) W ρ1 S1 H1 σ ((me L S1).bind fun y S2 => noExn (fDPop (.ref b) [y] S2)) Q := by
      cases hm : me L S1 <;> rw [hm] at h <;> exact h
    refine TEm.bind s1 l1 h' fun ρ2 S2 y w H2 s2 l2 e2 v2 h => ?_
    have h := (Post.noExn h W0).sig (σ' := σ)
    have v' := VR.ext s1 e2 _ _ v
    simp only [VR] at v'
    obtain ⟨hb, eb⟩ := v'
    cases eb
    have h : Post X.K X.mg (relV X.K) W0 ρ2 S2 H2 σ (match S2[b]? with
      | some (.dK kvs) => match keyOf y with
        | some k => match valL kvs k with
          | some y => .ok y (S2.set b (.dK (dropL kvs k)))
          | none => .bad
        | none => .bad
      | _ => .bad) Q := h
    split at h
    · rename_i kvs q
      split at h
      · rename_i k hk
        split at h
        · rename_i val hval
          obtain ⟨us, g1, g2⟩ := s2.ob b _ q
          have ek := keyOf_of v2 hk
          subst ek
          have lk := valV_lookup (k := k) g2
          rw [hval] at lk
          cases hv : valV us k with
          | none => rw [hv] at lk; exact lk.elim
          | some u' =>
            rw [hv] at lk
            refine ⟨us, k, u', g1, rfl, hv, ?_⟩
            have e : Ext ρ2 S2 H2 ρ2 (S2.set b (.dK (dropL kvs k))) (upd H2 (ρ2 b) (.dK (dropK us k))) := Ext.put hb
            refine h ρ2 _ _ e (s2.put hb ⟨_, upd_same, ?_⟩) ?_
            · have := KR.ext s2 e (g2.drop (k := k))
              simpa using this
            · have := VR.ext s2 e _ _ lk
              simpa [relV] using this
        · exact h.elim
      · exact h.elim
    · exact h.elim
end
/-! ### walks -/
section
variable {X : Cx} {W : WX} {e a b : Expr} {es : List Expr} {m ma' : ME} {ma : MA} {tg : Expr} {p pos tpos : Pos}
theorem big_eq : BIG = 2 ^ 62 := by decide
theorem rangeL_get {lo : Int} {n i : Nat} {x : Val} (h : (rangeL lo n)[i]? = some x) : i < n ∧ x = .int (lo + (i : Nat)) := by
  unfold rangeL at h
  rw [List.getElem?_map] at h
  cases hr : (List.range n)[i]? with
  | none => rw [hr] at h; cases h
  | some j =>
    rw [hr] at h
    have hl := (List.getElem?_eq_some_iff.mp hr)
    obtain ⟨h1, h2⟩ := hl
    simp at h1 h2
    subst h2
    cases h
    exact ⟨h1, rfl⟩
theorem rng_it {K : PySem.W.Frag} {mg : Str → Option Value} {ρ : Rho} {S : Store} {H : Hp} {lo : Int} {n : Nat} : ItR K mg ρ S H ⟨rangeL lo n, fun _ => True⟩ (Itr lo n) := fun ρ S H e s _ i => by
  refine ⟨fun x hx => ?_, fun hx => ?_⟩
  · obtain ⟨h1, rfl⟩ := rangeL_get hx
    refine ⟨h1, fun u H' y => ?_⟩
    obtain ⟨eH, eu⟩ := y
    subst eH eu
    exact ⟨Ext.refl _ _ _, s, by simp [VR]⟩
  · have := List.getElem?_eq_none_iff.mp hx
    show n ≤ i
    simpa [rangeL] using this
theorem TAm.bindI {mi : MI} {k : List Val → Store → R It} {σ : L2.St} {H : Hp} {Q : L2.It → Hp → Prop} (h : TIm X.K X.mg W (fun L S => (ma L S).bind k) σ H Q) {Q' : List V → Hp → Prop}
    (hq : ∀ ρ1 S1 vs us H1, SR X.K X.mg ρ1 S1 H1 → VRs X.K ρ1 S1.length H1 vs us → Post X.K X.mg (ItR X.K X.mg) W ρ1 S1 H1 σ (k vs S1) Q → Q' us H1) : TAm X.K X.mg W ma σ H Q' := by
  obtain ⟨ρ, S, L, s, l, h⟩ := h
  exact TAm.bind s l h fun ρ1 S1 vs us H1 s1 _ _ v q => hq ρ1 S1 vs us H1 s1 v q
theorem i_rng1 (hg : Gl X "range") (hm : X.mg "range" = none) (ha : PAm X W [a] ma) (hs : starEach [a] X.env = [(false, eval a X.env)] := by rfl) : PIm X W tg (.Call (.Name "range" p) [a] [] pos) (Mp.iRng1 ma) := PI.imp (pi_range1 hg hm ha hs) fun σ H R h =>
  TAm.bindI (mi := Mp.iRng1 ma) h fun ρ1 S1 vs us H1 s1 v h => by
    unfold rngOf1 at h
    split at h
    · rename_i j
      obtain ⟨u, rfl, r⟩ := v.one
      simp only [VR] at r
      subst r
      by_cases hz : -BIG ≤ j ∧ j < BIG
      · rw [gate_pos hz] at h
        rw [big_eq] at hz
        exact ⟨j, rfl, hz.1, hz.2, Post.here (rel := ItR X.K X.mg) s1 h rng_it⟩
      · rw [gate_neg hz] at h
        exact h.elim
    · exact h.elim
theorem i_rng2 (hg : Gl X "range") (hm : X.mg "range" = none) (ha : PAm X W [a, b] ma) (hs : starEach [a, b] X.env = [(false, eval a X.env), (false, eval b X.env)] := by rfl) (hs2 : starEach [b] X.env = [(false, eval b X.env)] := by rfl) : PIm X W tg (.Call (.Name "range" p) [a, b] [] pos) (Mp.iRng2 ma) := PI.imp (pi_range2 hg hm ha hs hs2) fun σ H R h =>
  TAm.bindI (mi := Mp.iRng2 ma) h fun ρ1 S1 vs us H1 s1 v h => by
    unfold rngOf2 at h
    split at h
    · rename_i i j
      obtain ⟨u, w, rfl, r1, r2⟩ := v.two
      simp only [VR] at r1 r2
      subst r1 r2
      by_cases hz : -BIG ≤ i ∧ i < BIG ∧ -BIG ≤ j ∧ j < BIG
      · rw [gate_pos hz] at h
        rw [big_eq] at hz
        exact ⟨i, j, rfl, hz, Post.here (rel := ItR X.K X.mg) s1 h rng_it⟩
      · rw [gate_neg hz] at h
        exact h.elim
    · exact h.elim
/-- a list or a tuple that is walked, as it stands at a turn -/
def SqB (K : PySem.W.Frag) (b : Bool) (H : Hp) (a : Addr) (us : List V) : Prop := match b with
  | true => SqL K H a us
  | false => SqT K H a us
theorem seq_of {K : PySem.W.Frag} {mg : Str → Option Value} {ρ : Rho} {S : Store} {H : Hp} {x : Val} {u : V} {bb : Bool} {xs : List Val} {kp : Store → Prop} (s : SR K mg ρ S H) (v : VR K ρ S.length H x u) (h : seqOf x S = some (bb, xs, kp)) :
    ∃ a us, u = .ref a ∧ SqB K bb H a us ∧ VRs K ρ S.length H xs us ∧ ∀ ρ' S' H', Ext ρ S H ρ' S' H' → SR K mg ρ' S' H' → kp S' → ∃ us, SqB K bb H' a us ∧ VRs K ρ' S'.length H' xs us := by
  unfold seqOf at h
  split at h
  · rename_i i
    simp only [VR] at v
    obtain ⟨hi, rfl⟩ := v
    split at h
    · rename_i xs' q
      cases h
      obtain ⟨us, g1, g2⟩ := s.lst q
      refine ⟨ρ i, us, rfl, SqL.of g1, g2, fun ρ' S' H' e s' k => ?_⟩
      obtain ⟨us', g1', g2'⟩ := s'.lst k
      rw [e.rho i hi] at g1'
      exact ⟨us', SqL.of g1', g2'⟩
    · cases h
  · cases h
    simp only [VR] at v
    obtain ⟨a, us, rfl, g1, g2⟩ := v
    exact ⟨a, us, rfl, g1.sq, g2, fun ρ' S' H' e s' _ => ⟨us, e.tup s g1.sq, VRs.ext s e _ _ g2⟩⟩
  · cases h
    simp only [VR] at v
    obtain ⟨a, rfl, g1⟩ := v
    exact ⟨a, _, rfl, g1.seq, VRs.of_ints _, fun ρ' S' H' e s' _ => ⟨_, (e.fz s g1).seq, VRs.of_ints _⟩⟩
  · cases h
/-- a new pair at T -/
theorem pair_new {K : PySem.W.Frag} {mg : Str → Option Value} {ρ : Rho} {S : Store} {H : Hp} {T : Addr} {x y : Val} {u w : V} (s : SR K mg ρ S H) (hT : H T = none) (r1 : VR K ρ S.length H x u) (r2 : VR K ρ S.length H y w) :
    Ext ρ S H ρ S (upd H T (.tup [u, w])) ∧ SR K mg ρ S (upd H T (.tup [u, w])) ∧ VR K ρ S.length (upd H T (.tup [u, w])) (.tup [x, y]) (.ref T) := by
  refine ⟨Ext.side hT, s.side hT, ?_⟩
  simp only [VR]
  exact ⟨T, _, rfl, .inl upd_same, VRs.ext s (Ext.side hT) _ _ (VRs.cons r1 (VRs.cons r2 VRs.nil))⟩
theorem enumL_get {xs : List Val} {i : Nat} {z : Val} (h : (enumL xs)[i]? = some z) : ∃ x, xs[i]? = some x ∧ z = .tup [.int (i : Nat), x] := by
  unfold enumL at h
  rw [List.getElem?_zipWith] at h
  cases hx : xs[i]? with
  | none => rw [hx] at h; simp at h
  | some x =>
    have hl := (List.getElem?_eq_some_iff.mp hx).1
    rw [hx, List.getElem?_range hl] at h
    cases h
    exact ⟨x, rfl, rfl⟩
theorem i_enum {elts : List Expr} {kk : Nat} (hg : Gl X "enumerate") (hm : X.mg "enumerate" = none) (ha : PAm X W [e] ma) (hs : starEach [e] X.env = [(false, eval e X.env)] := by rfl)
    (hl : ∀ σ H R, TIm X.K X.mg W (Mp.iEnum ma) σ H R → TAm X.K X.mg W ma σ H fun vs H1 => ∃ a xs, vs = [.ref a] ∧ SqL X.K H1 a xs ∧ R (Ite X.K a) H1) : PIm X W (.Tuple elts kk tpos) (.Call (.Name "enumerate" p) [e] [] pos) (Mp.iEnum ma) :=
  PI.imp (pi_enum hg hm ha hs) fun σ H R h => hl σ H R h
theorem zipT_get {xs ys : List Val} {i : Nat} {z : Val} (h : (List.zipWith (fun x y => Val.tup [x, y]) xs ys)[i]? = some z) : ∃ x y, xs[i]? = some x ∧ ys[i]? = some y ∧ z = .tup [x, y] := by
  rw [List.getElem?_zipWith] at h
  cases hx : xs[i]? with
  | none => rw [hx] at h; simp at h
  | some x =>
    cases hy : ys[i]? with
    | none => rw [hx, hy] at h; simp at h
    | some y =>
      rw [hx, hy] at h
      cases h
      exact ⟨x, y, rfl, rfl, rfl⟩
theorem i_zip {elts : List Expr} {kk : Nat} (hg : Gl X "zip") (hm : X.mg "zip" = none) (ha : PAm X W [a, b] ma)
    (hs : starEach [a, b] X.env = (false, eval a X.env) :: starEach [b] X.env := by rfl) (hpl : (backTo pos (starEach [b] X.env)).any (·.1) = false := by rfl) : PIm X W (.Tuple elts kk tpos) (.Call (.Name "zip" p) [a, b] [] pos) (Mp.iZip ma) :=
  PI.imp (RZ.pi_zipA hg hm ha hs hpl) fun σ H R h => TAm.bindI (mi := Mp.iZip ma) h fun ρ1 S1 vs us H1 s1 v h => by
    unfold zipOf at h
    split at h
    · rename_i x y
      obtain ⟨u, w, rfl, r1, r2⟩ := v.two
      split at h
      · rename_i b1 xs k1 b2 ys k2 e1 e2
        cases hb : (b1 == b2) with
        | false => rw [hb] at h; exact h.elim
        | true =>
          rw [hb] at h
          have hb' : b1 = b2 := by simpa using hb
          subst hb'
          obtain ⟨ad, ua, rfl, g1, g2, g3⟩ := seq_of s1 r1 e1
          obtain ⟨bd, ub, rfl, q1, q2, q3⟩ := seq_of s1 r2 e2
          cases b1 with
          | true =>
            refine ⟨ad, bd, ua, ub, rfl, .inl ⟨g1, q1, Post.here (rel := ItR X.K X.mg) s1 h fun ρ S H e s ks i => ?_⟩⟩
            obtain ⟨us1, c1, c2⟩ := g3 ρ S H e s ks.1
            obtain ⟨us2, d1, d2⟩ := q3 ρ S H e s ks.2
            refine ⟨fun z hz => ?_, fun hz => ?_⟩
            · obtain ⟨x', y', hx, hy, rfl⟩ := zipT_get hz
              obtain ⟨u1, hu1, ru1⟩ := c2.get hx
              obtain ⟨u2, hu2, ru2⟩ := d2.get hy
              refine ⟨⟨us1, us2, u1, u2, c1, d1, hu1, hu2⟩, fun u H' yl => ?_⟩
              obtain ⟨T, a1, a2, eu, hT, eH, y1, y2⟩ := yl
              subst eu eH
              have z1 := y1 us1 c1
              have z2 := y2 us2 d1
              rw [hu1] at z1
              rw [hu2] at z2
              cases z1
              cases z2
              exact pair_new s hT ru1 ru2
            · refine ⟨us1, us2, c1, d1, ?_⟩
              have := List.getElem?_eq_none_iff.mp hz
              simp at this
              rw [← c2.length, ← d2.length]
              omega
          | false =>
            refine ⟨ad, bd, ua, ub, rfl, .inr ⟨g1, q1, Post.here (rel := ItR X.K X.mg) s1 h fun ρ S H e s ks i => ?_⟩⟩
            obtain ⟨us1, c1, c2⟩ := g3 ρ S H e s ks.1
            obtain ⟨us2, d1, d2⟩ := q3 ρ S H e s ks.2
            refine ⟨fun z hz => ?_, fun hz => ?_⟩
            · obtain ⟨x', y', hx, hy, rfl⟩ := zipT_get hz
              obtain ⟨u1, hu1, ru1⟩ := c2.get hx
              obtain ⟨u2, hu2, ru2⟩ := d2.get hy
              refine ⟨⟨us1, us2, u1, u2, c1, d1, hu1, hu2⟩, fun u H' yl => ?_⟩
              obtain ⟨T, a1, a2, eu, hT, eH, y1, y2⟩ := yl
              subst eu eH
              have z1 := y1 us1 c1
              have z2 := y2 us2 d1
              rw [hu1] at z1
              rw [hu2] at z2
              cases z1
              cases z2
              exact pair_new s hT ru1 ru2
            · refine ⟨us1, us2, c1, d1, ?_⟩
              have := List.getElem?_eq_none_iff.mp hz
              simp at this
              rw [← c2.length, ← d2.length]
              omega
      · exact h.elim
    · exact h.elim
/-! ### sorted(d) of a dict of ints -/
def intKeys : List (Key × Val) → Option (List Int)
  | [] => some []
  | (.inl i, _) :: r => (intKeys r).map (i :: ·)
  | (.inr _, _) :: _ => none
def insI (i : Int) : List Int → List Int
  | [] => [i]
  | j :: r => if i ≤ j then i :: j :: r else j :: insI i r
def sortI : List Int → List Int
  | [] => []
  | i :: r => insI i (sortI r)
theorem insI_perm (i : Int) : ∀ l : List Int, (insI i l).Perm (i :: l)
  | [] => List.Perm.refl _
  | j :: r => by
    unfold insI
    split
    · exact List.Perm.refl _
    · exact ((insI_perm i r).cons j).trans (List.Perm.swap i j r)
theorem sortI_perm : ∀ l : List Int, (sortI l).Perm l
  | [] => List.Perm.refl _
  | i :: r => (insI_perm i _).trans ((sortI_perm r).cons i)
theorem insI_sorted (i : Int) : ∀ l : List Int, l.Pairwise (· ≤ ·) → (insI i l).Pairwise (· ≤ ·)
  | [], _ => by simp [insI]
  | j :: r, h => by
    unfold insI
    rw [List.pairwise_cons] at h
    split
    · rename_i hij
      rw [List.pairwise_cons]
      refine ⟨fun x hx => ?_, by rw [List.pairwise_cons]; exact h⟩
      rcases List.mem_cons.mp hx with rfl | hx
      · exact hij
      · exact Int.le_trans hij (h.1 x hx)
    · rename_i hij
      rw [List.pairwise_cons]
      refine ⟨fun x hx => ?_, insI_sorted i r h.2⟩
      rcases List.mem_cons.mp ((insI_perm i r).mem_iff.mp hx) with rfl | hx
      · omega
      · exact h.1 x hx
theorem sortI_sorted : ∀ l : List Int, (sortI l).Pairwise (· ≤ ·)
  | [] => by simp [sortI]
  | i :: r => insI_sorted i _ (sortI_sorted r)
theorem sorted_unique : ∀ (l m : List Int), l.Perm m → l.Pairwise (· ≤ ·) → m.Pairwise (· ≤ ·) → l = m
  | [], m, h, _, _ => (List.nil_perm.mp h).symm
  | i :: r, [], h, _, _ => absurd h.length_eq (by simp)
  | i :: r, j :: s, h, h1, h2 => by
    rw [List.pairwise_cons] at h1 h2
    have e : i = j := by
      have a1 : i ∈ j :: s := h.mem_iff.mp (by simp)
      have a2 : j ∈ i :: r := h.mem_iff.mpr (by simp)
      rcases List.mem_cons.mp a1 with a1 | a1
      · exact a1
      · rcases List.mem_cons.mp a2 with a2 | a2
        · exact a2.symm
        · exact Int.le_antisymm (h1.1 j a2) (h2.1 i a1)
    subst e
    rw [sorted_unique r s ((List.perm_cons i).mp h) h1.2 h2.2]
theorem intKeys_of : ∀ {l : List (Key × Val)} {ks : List Int}, intKeys l = some ks → l.map (·.1) = ks.map Sum.inl
  | [], ks, h => by simp [intKeys] at h; subst h; rfl
  | (.inl i, v) :: r, ks, h => by
    simp only [intKeys] at h
    cases hr : intKeys r with
    | none => rw [hr] at h; cases h
    | some ks' =>
      rw [hr] at h
      cases h
      simp [intKeys_of hr]
  | (.inr _, _) :: _, ks, h => by simp [intKeys] at h
def fSortD : Fn := one fun v S => match v with
  | .ref a => match S[a]? with
    | some (.dK kvs) => match intKeys kvs with
      | some ks => bite (decide (ks.length < 64)) (newL ((sortI ks).map Val.int) S) .bad
      | none => .bad
    | _ => .bad
  | _ => .bad
theorem c_sortD (hc : X.calm = true) : CallR X (.builtin "sorted") (rF X fSortD) := CallR.imp (call_sortedDI hc) fun us H Q h => by
  replace h := one_of h
  obtain ⟨u, rfl, ρ, S, x, s, v, h⟩ := h
  dsimp only at h
  split at h
  · rename_i a
    simp only [VR] at v
    obtain ⟨ha, rfl⟩ := v
    split at h
    · rename_i kvs q
      split at h
      · rename_i ks hks
        by_cases hz : ks.length < 64
        · rw [bite_pos (decide_eq_true hz)] at h
          obtain ⟨us, g1, g2⟩ := s.ob a _ q
          refine ⟨ρ a, us, ks, rfl, .inl g1, by rw [← g2.1]; exact intKeys_of hks, hz, fun ys p h1 h2 hp => ?_⟩
          have : ys = sortI ks := sorted_unique _ _ (h1.trans (sortI_perm ks).symm) h2 (sortI_sorted ks)
          subst this
          exact lst_new s h (VRs.of_ints _) p hp
        · rw [bite_neg (decide_eq_false hz)] at h
          exact h.elim
      · exact h.elim
    · exact h.elim
  · exact h.elim
end
end Mp

/-! Mp10: the forms that the printer names. -/
namespace Mp
open PySem PySem.Spec L2
structure FldAt (K : PySem.W.Frag) (mg : Str → Option Value) (cn f : Str) : Prop where
  ex : ∃ C, mg cn = some (.ref C) ∧ Cls K C ∧ NoAttr K C f
section
variable {X : Cx} {W : WX} {e a b o value : Expr} {m mo mv ma mb mi me : ME} {pos pos' tpos : Pos} {cn f : Str}
theorem e_fldA (h : FldAt X.K X.mg cn f) (he : PEm X W e m) (hb : attributeBase e f X.env (eval e X.env) = eval e X.env := by rfl) : PEm X W (.Attribute e f pos) (m1 (getF cn f) m) := by
  obtain ⟨C, h1, h2, h3⟩ := h.ex
  exact e_fld h1 h2 h3 he hb
theorem s_fldA (h : FldAt X.K X.mg cn f) (ho : PEm X W o mo) (hv : PEm X W value mv) (hs : swapsWith value (some (.Attribute o f pos')) pos.line X.env = pure false := by rfl) : PSm X W (.Assign [.Attribute o f pos'] value pos) (Mp.sFld cn f mo mv) := by
  obtain ⟨C, h1, h2, h3⟩ := h.ex
  exact s_fld h1 h2 h3 ho hv hs
theorem s_fldAugA {op : Operator} {p : P2} (h : FldAt X.K X.mg cn f) (ho : PEm X W o mo) (hv : PEm X W value mv) (hop : OpS X (inplaceOp op) p) : PSm X W (.AugAssign (.Attribute o f tpos) op value pos) (Mp.sFldAug cn f mo mv p) := by
  obtain ⟨C, h1, h2, h3⟩ := h.ex
  exact s_fldAug h1 h2 h3 ho hv hop
/-- isinstance(x, (T, U)) -/
theorem e_isT2 {p p2 p3 pt : Pos} {x1} {T U : Str} {Tn Un : String} (hg : Gl X "isinstance") (hm : X.mg "isinstance" = none) (ha : PEm X W a ma) (hgT : Gl X T) (hmT : X.mg T = none) (hvT : bootBuiltins T = some (.type Tn)) (hT : Tn ∈ tyTests)
    (hgU : Gl X U) (hmU : X.mg U = none) (hvU : bootBuiltins U = some (.type Un)) (hU : Un ∈ tyTests)
    (hn : T ≠ "__name__" := by decide) (hd : (T == ("__debug__" : Str)) = false := by decide) (hn' : U ≠ "__name__" := by decide) (hd' : (U == ("__debug__" : Str)) = false := by decide)
    (hs1 : starEach [a, .Tuple [.Name T p2, .Name U p3] x1 pt] X.env = (false, eval a X.env) :: starEach [.Tuple [.Name T p2, .Name U p3] x1 pt] X.env := by rfl)
    (hs2 : starEach [.Tuple [.Name T p2, .Name U p3] x1 pt] X.env = (false, eval (.Tuple [.Name T p2, .Name U p3] x1 pt) X.env) :: starEach [] X.env := by rfl)
    (hs3 : starEach [.Name T p2, .Name U p3] X.env = (false, eval (.Name T p2) X.env) :: starEach [.Name U p3] X.env := by rfl) (hs4 : starEach [.Name U p3] X.env = (false, eval (.Name U p3) X.env) :: starEach [] X.env := by rfl)
    (hpl : (backTo pos (starEach [.Tuple [.Name T p2, .Name U p3] x1 pt] X.env)).any (·.1) = false := by rfl) :
    PEm X W (.Call (.Name "isinstance" p) [a, .Tuple [.Name T p2, .Name U p3] x1 pt] [] pos) (m1 (pIsAny [Tn, Un]) ma) :=
  PE.imp (pe_callB call_isiT hg hm (by decide +kernel) (pa_cons ha (pa_cons (pe_tup (pa_cons (pe_bltn (v := .ty Tn) hgT hmT hvT rfl hn hd) (pa_cons (pe_bltn (v := .ty Un) hgU hmU hvU rfl hn' hd') pa_nil hs4) hs3)) pa_nil hs2) hs1) (by decide) (by decide) hs1 hpl) fun σ H Q h => by
    obtain ⟨ρ, S, L, s, l, h⟩ := h
    refine TEm.bind s l h fun ρ1 S1 x u H1 s1 l1 e v h => ?_
    have h := (Post.noExn h W0).sig (σ' := σ)
    unfold pIsAny at h
    split at h
    · rename_i t ht
      refine ⟨by show 2 ≤ sizeLine; decide, fun tp htp => ?_⟩
      have e2 : Ext ρ1 S1 H1 ρ1 S1 (upd H1 tp (.tup [.ty Tn, .ty Un])) := Ext.side htp
      have s2 := s1.side (o := .tup [.ty Tn, .ty Un]) htp
      have k1 := kit_one (K := X.K) (tyName_mem ht) hT
      have k2 := kit_one (K := X.K) (tyName_mem ht) hU
      have ka : PySem.W.kitAny X.K (.type t) [.type Tn, .type Un] = some (subTy t Tn || subTy t Un) := kitAny_cons k1 (fun h1 => kitAny_cons k2 (fun h2 => by rw [h1, h2]; exact kitAny_nil) (fun h2 => by rw [h2]; simp)) (fun h1 => by rw [h1]; rfl)
      have ea : ([Tn, Un].any (subTy t)) = (subTy t Tn || subTy t Un) := by simp
      rw [ea] at h
      exact ⟨u, tp, [.ty Tn, .ty Un], .type t, [.type Tn, .type Un], _, rfl, upd_same, .cons (.ty Tn) (.cons (.ty Un) .nil), ty_of s2 (VR.ext s1 e2 _ _ v) ht, ka, h ρ1 _ _ e2 s2 (by simp [relV, VR])⟩
    · exact h.elim
/-- o[i] op= e -/
def rG (X : Cx) : V → V → Hp → VK → Prop := fun u w H Q => rP2 X pIx u w H Q
end
end Mp

/-! MpS: the combinators, applied: for simp. -/
namespace Mp
open PySem (Str)
/-! the store: read, write, one more -/
def sg (S : Store) (i : Nat) : Option Ob := S[i]?
def ss (S : Store) (i : Nat) (o : Ob) : Store := S.set i o
def sp (S : Store) (o : Ob) : Store := S ++ [o]
def sl (S : Store) : Nat := S.length
section
variable {S : Store} {i j : Nat} {o u : Ob}
theorem sg_lt (h : sg S i = some u) : i < sl S := (List.getElem?_eq_some_iff.mp h).1
@[simp] theorem sg_ss_same (h : (sg S i).isSome = true) : sg (ss S i o) i = some o := by
  cases e : sg S i with
  | none => rw [e] at h; cases h
  | some u => exact List.getElem?_set_self (sg_lt e)
@[simp] theorem sg_ss_ne (h : ¬ j = i) : sg (ss S i o) j = sg S j := List.getElem?_set_ne (Ne.symm h)
theorem sg_ss_ne' (h : ¬ i = j) : sg (ss S i o) j = sg S j := List.getElem?_set_ne h
@[simp] theorem ss_ss : ss (ss S i o) i u = ss S i u := List.set_set ..
@[simp] theorem sl_ss : sl (ss S i o) = sl S := by simp [sl, ss]
@[simp] theorem sl_sp : sl (sp S o) = sl S + 1 := by simp [sl, sp]
@[simp] theorem sg_sp_new : sg (sp S o) (sl S) = some o := by simp [sg, sp, sl]
@[simp] theorem sg_sp_old (h : (sg S i).isSome = true) : sg (sp S o) i = sg S i := by
  cases e : sg S i with
  | none => rw [e] at h; cases h
  | some u =>
    have := sg_lt e
    unfold sg sp
    rw [List.getElem?_append_left this]
    exact e
@[simp] theorem sg_sp_new' (h : i = sl S) : sg (sp S o) i = some o := by rw [h]; exact sg_sp_new
theorem sg_sp_lt (h : i < sl S) : sg (sp S o) i = sg S i := by
  unfold sg sp
  rw [List.getElem?_append_left h]
end
section
variable {L : Loc} {S : Store}
@[simp] theorem mC_app (v : Val) : mC v L S = .ok v S := rfl
@[simp] theorem mV_app (i : Nat) : mV i L S = getL L i S := rfl
@[simp] theorem m1_app (p : P1) (a : ME) : m1 p a L S = (a L S).bind fun x S1 => noExn (p x S1) := rfl
@[simp] theorem m2_app (p : P2) (a b : ME) : m2 p a b L S = (a L S).bind fun x S1 => (b L S1).bind fun y S2 => noExn (p x y S2) := rfl
@[simp] theorem aNil_app : aNil L S = .ok [] S := rfl
@[simp] theorem aCons_app (a : ME) (r : MA) : aCons a r L S = (a L S).bind fun x S1 => (r L S1).bind fun xs S2 => .ok (x :: xs) S2 := rfl
@[simp] theorem mA_app (f : Fn) (a : MA) : mA f a L S = (a L S).bind f := rfl
@[simp] theorem mB_app (f : Fn) (a : MA) : mB f a L S = (a L S).bind fun vs S1 => noExn (f vs S1) := rfl
@[simp] theorem fTup_app (vs : List Val) : fTup vs S = bite (decide (vs.length ≤ LIM)) (.ok (.tup vs) S) .bad := rfl
@[simp] theorem fLst_app (vs : List Val) : fLst vs S = bite (decide (vs.length ≤ LIM)) (.ok (.ref (sl S)) (sp S (.lst vs))) .bad := rfl
@[simp] theorem mTup_app (a : MA) : mTup a L S = mB fTup a L S := rfl
@[simp] theorem mLst_app (a : MA) : mLst a L S = mB fLst a L S := rfl
@[simp] theorem mDK_app : mDK L S = .ok (.ref (sl S)) (sp S (.dK [])) := rfl
@[simp] theorem tV_app (e : ME) : tV e L S = (e L S).bind isT := rfl
@[simp] theorem tAnd_app (a b : MT) : tAnd a b L S = (a L S).bind fun c S1 => bite c (b L S1) (.ok false S1) := rfl
@[simp] theorem tOr_app (a b : MT) : tOr a b L S = (a L S).bind fun c S1 => bite c (.ok true S1) (b L S1) := rfl
@[simp] theorem tNot_app (a : MT) : tNot a L S = (a L S).bind fun c S1 => .ok (!c) S1 := rfl
@[simp] theorem mIf_app (c : MT) (a b : ME) : mIf c a b L S = (c L S).bind fun t S1 => bite t (a L S1) (b L S1) := rfl
@[simp] theorem mAnd_app (a b : ME) : mAnd a b L S = (a L S).bind fun x S1 => (isT x S1).bind fun c S2 => bite c (b L S2) (.ok (.bl false) S2) := rfl
@[simp] theorem mOr_app (a b : ME) : mOr a b L S = (a L S).bind fun x S1 => (isT x S1).bind fun c S2 => bite c (.ok (.bl true) S2) (b L S2) := rfl
@[simp] theorem mNot_app (a : ME) : mNot a L S = (a L S).bind fun x S1 => (isT x S1).bind fun c S2 => .ok (.bl (!c)) S2 := rfl
@[simp] theorem mChain_app (p q : P2) (a b c : ME) : mChain p q a b c L S = (a L S).bind fun x S1 => (b L S1).bind fun y S2 => (noExn (p x y S2)).bind fun z S3 => (isT z S3).bind fun t S4 =>
  bite t ((c L S4).bind fun u S5 => noExn (q y u S5)) (.ok (.bl false) S4) := rfl
@[simp] theorem sNx_app : sNx L S = .nx L S := rfl
@[simp] theorem sSeq_app (a b : MS) : sSeq a b L S = (a L S).andThen b := rfl
@[simp] theorem sRet_app (e : ME) : sRet e L S = thenF L (e L S) fun v S1 => .rt v S1 := rfl
@[simp] theorem sRetN_app : sRetN L S = .rt .non S := rfl
@[simp] theorem sExpr_app (e : ME) : sExpr e L S = thenF L (e L S) fun _ S1 => .nx L S1 := rfl
@[simp] theorem sIf_app (c : MT) (a b : MS) : sIf c a b L S = thenF L (c L S) fun t S1 => bite t (a L S1) (b L S1) := rfl
@[simp] theorem sBrk_app : sBrk L S = .bk L S := rfl
@[simp] theorem sCnt_app : sCnt L S = .ct L S := rfl
@[simp] theorem gN_app (i : Nat) (v : Val) : gN i v L S = .ok (L.set i (some v)) S := rfl
@[simp] theorem gsNil_app : gsNil [] L S = .ok L S := rfl
@[simp] theorem gsCons_app (g : MG) (r : MGs) (v : Val) (vs : List Val) : gsCons g r (v :: vs) L S = (g v L S).bind fun L1 S1 => r vs L1 S1 := rfl
@[simp] theorem gTup_app (g : MGs) (vs : List Val) : gTup g (.tup vs) L S = g vs L S := rfl
@[simp] theorem gSub_app (o i : ME) (p : Val → Val → Val → Store → R Unit) (v : Val) : gSub o i p v L S = (o L S).bind fun x S1 => (i L S1).bind fun y S2 => (noExn (p x y v S2)).bind fun _ S3 => .ok L S3 := rfl
@[simp] theorem sAsg_app (e : ME) (g : MG) : sAsg e g L S = thenF L (e L S) fun v S1 => thenF L (noExn (g v L S1)) fun L1 S2 => .nx L1 S2 := rfl
@[simp] theorem sAug_app (i : Nat) (e : ME) (p : P2) : sAug i e p L S = thenF L (getL L i S) fun x S0 => thenF L (e L S0) fun y S1 => thenF L (noExn (p x y S1)) fun z S2 => .nx (L.set i (some z)) S2 := rfl
@[simp] theorem sFld_app (c f : Str) (o e : ME) : sFld c f o e L S = thenF L (e L S) fun v S1 => thenF L (o L S1) fun x S2 => thenF L (noExn (putFld c f v x S2)) fun _ S3 => .nx L S3 := rfl
@[simp] theorem sFldAug_app (c f : Str) (o e : ME) (p : P2) : sFldAug c f o e p L S = thenF L (o L S) fun x S1 => thenF L (noExn (getF c f x S1)) fun y S2 => thenF L (e L S2) fun z S3 => thenF L (noExn (p y z S3)) fun u S4 =>
  thenF L (noExn (putFld c f u x S4)) fun _ S5 => .nx L S5 := rfl
@[simp] theorem sFor_app (i : MI) (g : MG) (b : MS) : sFor i g b L S = thenF L (i L S) fun J S1 => forLoop J.keep g b J.items L S1 := rfl
@[simp] theorem sWhile_app (c : MT) (b : MS) : sWhile c b L S = whileLoop c b MANY L S := rfl
@[simp] theorem iV_app (e : ME) : iV e L S = (e L S).bind itOf := rfl
@[simp] theorem iRng1_app (a : MA) : iRng1 a L S = (a L S).bind rngOf1 := rfl
@[simp] theorem iRng2_app (a : MA) : iRng2 a L S = (a L S).bind rngOf2 := rfl
@[simp] theorem iZip_app (a : MA) : iZip a L S = (a L S).bind zipOf := rfl
@[simp] theorem tYes_app : tYes L S = .ok true S := rfl
@[simp] theorem mLc_app (i : MI) (vs : List Nat) (g : MG) (c : MT) (e : ME) : mLc i vs g c e L S = (i L S).bind fun J S1 => (lcLoop J.keep (wipeL L vs) g c e J.items [] S1).bind fun ws S2 => .ok (.ref (sl S2)) (sp S2 (.lst ws)) := rfl
@[simp] theorem fDef_app (n np : Nat) (b : MS) (vs : List Val) : fDef n np b vs S = bite (decide (vs.length = np)) (endF (b (startL n vs) S)) .bad := rfl
@[simp] theorem sRaise_app (c : Str) (fs : List Str) (a : MA) : sRaise c fs a L S = thenF L (a L S) fun vs S1 => .exn ⟨c, fs.zip vs⟩ L S1 := rfl
@[simp] theorem mSl_app (e : ME) (lo hi : MO) : mSl e lo hi L S = (e L S).bind fun x S1 => (lo L S1).bind fun l S2 => (hi L S2).bind fun h S3 => noExn (pSl x l h S3) := rfl
@[simp] theorem oNo_app : oNo L S = .ok none S := rfl
@[simp] theorem oSome_app (e : ME) : oSome e L S = (e L S).bind fun v S1 => match v with
  | .int i => .ok (some i) S1
  | _ => .bad := rfl
@[simp] theorem mBM_app (T : String) (f : Mt) (o : ME) (a : MA) : mBM T f o a L S = (o L S).bind fun x S1 => bite (isTy T x S1) ((a L S1).bind fun vs S2 => noExn (f x vs S2)) .bad := rfl
/-! primitives on known values -/
@[simp] theorem pAdd_int (i j : Int) : pAdd (.int i) (.int j) S = .ok (.int (i + j)) S := rfl
@[simp] theorem pAddI_int (i j : Int) : pAddI (.int i) (.int j) S = .ok (.int (i + j)) S := rfl
@[simp] theorem pSub_int (i j : Int) : pSub (.int i) (.int j) S = .ok (.int (i - j)) S := rfl
@[simp] theorem pMulI_int (i j : Int) : pMulI (.int i) (.int j) S = bite (cmul i j) (.ok (.int (i * j)) S) .bad := rfl
@[simp] theorem pMod_int (i j : Int) : pMod (.int i) (.int j) S = bite (decide (0 < j)) (.ok (.int (i % j)) S) .bad := rfl
@[simp] theorem pDiv_int (i j : Int) : pDiv (.int i) (.int j) S = bite (cdiv j) (.ok (.int (i / j)) S) .bad := rfl
@[simp] theorem cdiv_of {j : Int} (h0 : 0 < j) (h1 : j < 1073741824) : cdiv j = true := gate_pos ⟨h0, h1⟩
@[simp] theorem pNeg_int (i : Int) : pNeg (.int i) S = .ok (.int (-i)) S := rfl
@[simp] theorem pLt_int (i j : Int) : pLt (.int i) (.int j) S = .ok (.bl (decide (i < j))) S := rfl
@[simp] theorem pLe_int (i j : Int) : pLe (.int i) (.int j) S = .ok (.bl (decide (i ≤ j))) S := rfl
@[simp] theorem pGt_int (i j : Int) : pGt (.int i) (.int j) S = .ok (.bl (decide (j < i))) S := rfl
@[simp] theorem pGe_int (i j : Int) : pGe (.int i) (.int j) S = .ok (.bl (decide (j ≤ i))) S := rfl
@[simp] theorem pPow_int (i j : Int) : pPow (.int i) (.int j) S = bite (decide (0 ≤ j) && decide (j ≤ 1000000) && decide (i.natAbs < 2 ^ 64)) (.ok (.int (i ^ j.toNat)) S) .bad := rfl
@[simp] theorem fInt_int (i : Int) : fInt [.int i] S = .ok (.int i) S := rfl
@[simp] theorem fMax_int (i j : Int) : fMax [.int i, .int j] S = .ok (.int (if j > i then j else i)) S := rfl
theorem cmul_left {i j : Int} (h1 : -(2 ^ 64) < i) (h2 : i < 2 ^ 64) : cmul i j = true := cb_of (.inl ⟨h1, h2⟩)
theorem cmul_right {i j : Int} (h1 : -(2 ^ 64) < j) (h2 : j < 2 ^ 64) : cmul i j = true := cb_of (.inr ⟨h1, h2⟩)
@[simp] theorem ss_sp_new {S : Store} {o u : Ob} : ss (sp S o) (sl S) u = sp S u := by
  apply List.ext_getElem?
  intro i
  unfold ss sp sl
  rw [List.set_append_right _ _ (Nat.le_refl _)]
  simp
theorem pEq_int (i j : Int) : pEq (.int i) (.int j) S = .ok (.bl (decide (i = j))) S := by
  unfold pEq eqO
  simp [toD, PySem.SeqAt.shaped, PySem.PyData.canLay0, PySem.PyData.depth, PySem.PyData.eqv]
  rfl
def optR {α : Type} (o : Option α) (S : Store) : R α := match o with
  | some v => .ok v S
  | none => .bad
@[simp] theorem optR_some {α : Type} (v : α) : optR (some v) S = .ok v S := rfl
@[simp] theorem optR_none {α : Type} : (optR none S : R α) = .bad := rfl
/-- an object read at a place -/
def ixR (o : Option Ob) (i : Int) (S : Store) : R Val := match o with
  | some (.lst vs) => optR (L2.atI vs i) S
  | some (.dK kvs) => optR (valL kvs (.inl i)) S
  | _ => .bad
@[simp] theorem ixR_lst (vs : List Val) (i : Int) : ixR (some (.lst vs)) i S = optR (L2.atI vs i) S := rfl
@[simp] theorem ixR_dK (kvs : List (Key × Val)) (i : Int) : ixR (some (.dK kvs)) i S = optR (valL kvs (.inl i)) S := rfl
@[simp] theorem pIx_ref (a : Nat) (i : Int) : pIx (.ref a) (.int i) S = ixR (sg S a) i S := by
  show _ = ixR S[a]? i S
  simp only [pIx]
  unfold ixR optR
  cases S[a]? with
  | none => rfl
  | some o => cases o with
    | lst vs => dsimp only; cases L2.atI vs i <;> rfl
    | dK kvs => dsimp only; cases valL kvs (.inl i) <;> rfl
    | dT kvs => rfl
    | ins c fs => rfl
@[simp] theorem pIx_tup (vs : List Val) (i : Int) : pIx (.tup vs) (.int i) S = optR (L2.atI vs i) S := by
  simp only [pIx]
  cases L2.atI vs i <;> rfl
@[simp] theorem pIx_fl (ns : List Int) (i : Int) : pIx (.fl ns) (.int i) S = optR ((L2.atI ns i).map Val.int) S := by
  simp only [pIx]
  unfold optR
  cases L2.atI ns i <;> rfl
theorem atI_nat (vs : List α) (n : Nat) : L2.atI vs (n : Int) = vs[n]? := by
  unfold L2.atI L2.ixN
  simp
  by_cases h : n < vs.length
  · simp [h]
  · simp [h]
@[simp] theorem atI_lit (vs : List α) (n : Nat) : L2.atI vs (no_index (OfNat.ofNat n) : Int) = vs[(OfNat.ofNat n : Nat)]? := atI_nat vs n
@[simp] theorem atI_zero (vs : List α) : L2.atI vs (0 : Int) = vs[0]? := atI_nat vs 0
@[simp] theorem atI_one (vs : List α) : L2.atI vs (1 : Int) = vs[1]? := atI_nat vs 1
@[simp] theorem atI_cast (vs : List α) (n : Nat) : L2.atI vs (n : Int) = vs[n]? := atI_nat vs n
def putR (o : Option Ob) (a : Nat) (i : Int) (v : Val) (S : Store) : R Unit := match o with
  | some (.lst vs) => match L2.ixN vs.length i with
    | some j => .ok () (ss S a (.lst (vs.set j v)))
    | none => .bad
  | some (.dK kvs) => bite (decide (kvs.length < LIM)) (.ok () (ss S a (.dK (putL kvs (.inl i) v)))) .bad
  | _ => .bad
@[simp] theorem pSet_ref (a : Nat) (i : Int) (v : Val) : pSet (.ref a) (.int i) v S = putR (sg S a) a i v S := by
  show _ = putR S[a]? a i v S
  simp only [pSet]
  unfold putR
  cases S[a]? with
  | none => rfl
  | some o => cases o with
    | lst vs => dsimp only; cases L2.ixN vs.length i <;> rfl
    | dK kvs => rfl
    | dT kvs => rfl
    | ins c fs => rfl
theorem ixN_nat (n m : Nat) : L2.ixN n (m : Int) = if m < n then some m else none := by
  unfold L2.ixN
  simp
@[simp] theorem ixN_lit (n m : Nat) : L2.ixN n (no_index (OfNat.ofNat m) : Int) = if (OfNat.ofNat m : Nat) < n then some (OfNat.ofNat m : Nat) else none := ixN_nat n m
@[simp] theorem ixN_zero (n : Nat) : L2.ixN n (0 : Int) = if 0 < n then some 0 else none := ixN_nat n 0
@[simp] theorem ixN_one (n : Nat) : L2.ixN n (1 : Int) = if 1 < n then some 1 else none := ixN_nat n 1
@[simp] theorem putR_lst (vs : List Val) (a : Nat) (i : Int) (v : Val) : putR (some (.lst vs)) a i v S = match L2.ixN vs.length i with
    | some j => .ok () (ss S a (.lst (vs.set j v)))
    | none => .bad := rfl
@[simp] theorem putR_dK (kvs : List (Key × Val)) (a : Nat) (i : Int) (v : Val) : putR (some (.dK kvs)) a i v S = bite (decide (kvs.length < LIM)) (.ok () (ss S a (.dK (putL kvs (.inl i) v)))) .bad := rfl
def lenR (o : Option Ob) (S : Store) : R Val := match o with
  | some (.lst vs) => .ok (.int vs.length) S
  | some (.dK kvs) => .ok (.int kvs.length) S
  | _ => .bad
@[simp] theorem lenR_lst (vs : List Val) : lenR (some (.lst vs)) S = .ok (.int vs.length) S := rfl
@[simp] theorem lenR_dK (vs : List (Key × Val)) : lenR (some (.dK vs)) S = .ok (.int vs.length) S := rfl
@[simp] theorem fLen_ref (a : Nat) : fLen [.ref a] S = lenR (sg S a) S := by
  show _ = lenR S[a]? S
  unfold fLen one lenO lenR
  dsimp only
  cases S[a]? with
  | none => rfl
  | some o => cases o <;> rfl
@[simp] theorem fLen_tup (vs : List Val) : fLen [.tup vs] S = .ok (.int vs.length) S := rfl
@[simp] theorem fLen_fl (vs : List Int) : fLen [.fl vs] S = .ok (.int vs.length) S := rfl
@[simp] theorem pEq_int' (i j : Int) : pEq (.int i) (.int j) S = .ok (.bl (decide (i = j))) S := pEq_int i j
@[simp] theorem LIM_le {n : Nat} : (n ≤ LIM) = (n ≤ 16777216) := rfl
@[simp] theorem LIM_lt {n : Nat} : (n < LIM) = (n < 16777216) := rfl
@[simp] theorem ss_sp_new' {S : Store} {o u : Ob} {i : Nat} (h : i = sl S) : ss (sp S o) i u = sp S u := by rw [h]; exact ss_sp_new
@[simp] theorem le_a2 (n a0 a1 : Nat) : n ≤ n + a0 + a1 := by omega
@[simp] theorem nlt_a2 (n a0 a1 : Nat) : (n + a0 + a1 < n) = False := by simp only [eq_iff_iff, iff_false]; omega
@[simp] theorem lt_o2 (n : Nat) : n < n + 1 + 1 := by omega
@[simp] theorem le_a3 (n a0 a1 a2 : Nat) : n ≤ n + a0 + a1 + a2 := by omega
@[simp] theorem nlt_a3 (n a0 a1 a2 : Nat) : (n + a0 + a1 + a2 < n) = False := by simp only [eq_iff_iff, iff_false]; omega
@[simp] theorem lt_o3 (n : Nat) : n < n + 1 + 1 + 1 := by omega
@[simp] theorem le_a4 (n a0 a1 a2 a3 : Nat) : n ≤ n + a0 + a1 + a2 + a3 := by omega
@[simp] theorem nlt_a4 (n a0 a1 a2 a3 : Nat) : (n + a0 + a1 + a2 + a3 < n) = False := by simp only [eq_iff_iff, iff_false]; omega
@[simp] theorem lt_o4 (n : Nat) : n < n + 1 + 1 + 1 + 1 := by omega
@[simp] theorem le_a5 (n a0 a1 a2 a3 a4 : Nat) : n ≤ n + a0 + a1 + a2 + a3 + a4 := by omega
@[simp] theorem nlt_a5 (n a0 a1 a2 a3 a4 : Nat) : (n + a0 + a1 + a2 + a3 + a4 < n) = False := by simp only [eq_iff_iff, iff_false]; omega
@[simp] theorem lt_o5 (n : Nat) : n < n + 1 + 1 + 1 + 1 + 1 := by omega
@[simp] theorem le_a6 (n a0 a1 a2 a3 a4 a5 : Nat) : n ≤ n + a0 + a1 + a2 + a3 + a4 + a5 := by omega
@[simp] theorem nlt_a6 (n a0 a1 a2 a3 a4 a5 : Nat) : (n + a0 + a1 + a2 + a3 + a4 + a5 < n) = False := by simp only [eq_iff_iff, iff_false]; omega
@[simp] theorem lt_o6 (n : Nat) : n < n + 1 + 1 + 1 + 1 + 1 + 1 := by omega
@[simp] theorem le_a7 (n a0 a1 a2 a3 a4 a5 a6 : Nat) : n ≤ n + a0 + a1 + a2 + a3 + a4 + a5 + a6 := by omega
@[simp] theorem nlt_a7 (n a0 a1 a2 a3 a4 a5 a6 : Nat) : (n + a0 + a1 + a2 + a3 + a4 + a5 + a6 < n) = False := by simp only [eq_iff_iff, iff_false]; omega
@[simp] theorem lt_o7 (n : Nat) : n < n + 1 + 1 + 1 + 1 + 1 + 1 + 1 := by omega
@[simp] theorem le_a8 (n a0 a1 a2 a3 a4 a5 a6 a7 : Nat) : n ≤ n + a0 + a1 + a2 + a3 + a4 + a5 + a6 + a7 := by omega
@[simp] theorem nlt_a8 (n a0 a1 a2 a3 a4 a5 a6 a7 : Nat) : (n + a0 + a1 + a2 + a3 + a4 + a5 + a6 + a7 < n) = False := by simp only [eq_iff_iff, iff_false]; omega
@[simp] theorem lt_o8 (n : Nat) : n < n + 1 + 1 + 1 + 1 + 1 + 1 + 1 + 1 := by omega
/-! instances -/
def insR (o : Option Ob) : Option (Str × List (Str × Val)) := match o with
  | some (.ins c fs) => some (c, fs)
  | _ => none
@[simp] theorem insR_ins (c : Str) (fs : List (Str × Val)) : insR (some (.ins c fs)) = some (c, fs) := rfl
theorem insAt_ref (a : Nat) : insAt (.ref a) S = insR (sg S a) := by
  show insAt (.ref a) S = insR S[a]?
  simp only [insAt]
  cases S[a]? with
  | none => rfl
  | some o => cases o <;> rfl
def fldR (c f : Str) (o : Option (Str × List (Str × Val))) (S : Store) : R Val := match o with
  | some (c', fs) => bite (decide (c' = c)) (optR (fs.lookup f) S) .bad
  | none => .bad
@[simp] theorem fldR_some (c f c' : Str) (fs : List (Str × Val)) : fldR c f (some (c', fs)) S = bite (decide (c' = c)) (optR (fs.lookup f) S) .bad := rfl
@[simp] theorem getF_ref (c f : Str) (a : Nat) : getF c f (.ref a) S = fldR c f (insR (sg S a)) S := by
  unfold getF fldR
  rw [insAt_ref]
  cases insR (sg S a) with
  | none => rfl
  | some p =>
    obtain ⟨c', fs⟩ := p
    dsimp only
    unfold optR
    cases decide (c' = c) with
    | true => cases fs.lookup f <;> rfl
    | false => rfl
def putFR (c f : Str) (v : Val) (o : Option (Str × List (Str × Val))) (a : Nat) (S : Store) : R Unit := match o with
  | some (c', fs) => bite (decide (c' = c) && decide (fs.length < 1000)) (.ok () (ss S a (.ins c (setF f v fs)))) .bad
  | none => .bad
@[simp] theorem putFR_some (c f c' : Str) (v : Val) (fs : List (Str × Val)) (a : Nat) : putFR c f v (some (c', fs)) a S = bite (decide (c' = c) && decide (fs.length < 1000)) (.ok () (ss S a (.ins c (setF f v fs)))) .bad := rfl
@[simp] theorem putFld_ref (c f : Str) (v : Val) (a : Nat) : putFld c f v (.ref a) S = putFR c f v (insR (sg S a)) a S := by
  unfold putFld putFR insR
  show _ = (match (match S[a]? with
    | some (.ins c fs) => some (c, fs)
    | _ => none : Option (Str × List (Str × Val))) with
    | some (c', fs) => _
    | none => _)
  dsimp only
  cases S[a]? with
  | none => rfl
  | some o => cases o <;> rfl
def methR (c m : Str) (o : Option (Str × List (Str × Val))) (r : R Val) : Dep r (R Val) := match o with
  | some (c', fs) => bite (decide (c' = c) && (fs.lookup m).isNone) r .bad
  | none => .bad
@[simp] theorem methR_some (c m c' : Str) (fs : List (Str × Val)) (r : R Val) : methR c m (some (c', fs)) r = bite (decide (c' = c) && (fs.lookup m).isNone) r .bad := rfl
def methX (c m : Str) (f : Fn) (a : MA) (L : Loc) (x : Val) (S : Store) : R Val := match x with
  | .ref i => methR c m (insR (sg S i)) ((a L S).bind fun vs S2 => f (x :: vs) S2)
  | _ => .bad
@[simp] theorem methX_ref (c m : Str) (f : Fn) (a : MA) (i : Nat) : methX c m f a L (.ref i) S = methR c m (insR (sg S i)) ((a L S).bind fun vs S2 => f (.ref i :: vs) S2) := rfl
@[simp] theorem mMeth_app (c m : Str) (f : Fn) (o : ME) (a : MA) : mMeth c m f o a L S = (o L S).bind (methX c m f a L) := by
  unfold mMeth
  congr 1
  funext x S1
  unfold methX
  cases x with
  | ref i =>
    dsimp only
    rw [insAt_ref]
    unfold methR
    rfl
  | _ => rfl
@[simp] theorem fMake_app (c : Str) (f : Fn) (vs : List Val) : fMake c f vs S = (f (.ref (sl S) :: vs) (sp S (.ins c []))).bind fun r S2 => bite (isNon r) (.ok (.ref (sl S)) S2) .bad := rfl
@[simp] theorem isNon_non : isNon .non = true := rfl
/-! lists -/
def appR (o : Option Ob) (a : Nat) (v : Val) (S : Store) : R Val := match o with
  | some (.lst xs) => bite (decide (xs.length < LIM)) (.ok .non (ss S a (.lst (xs ++ [v])))) .bad
  | _ => .bad
@[simp] theorem appR_lst (xs : List Val) (a : Nat) (v : Val) : appR (some (.lst xs)) a v S = bite (decide (xs.length < LIM)) (.ok .non (ss S a (.lst (xs ++ [v])))) .bad := rfl
@[simp] theorem fAppend_ref (a : Nat) (v : Val) : fAppend (.ref a) [v] S = appR (sg S a) a v S := by
  show _ = appR S[a]? a v S
  simp only [fAppend]
  unfold appR
  cases S[a]? with
  | none => rfl
  | some o => cases o <;> rfl
def tyR (T : String) (o : Option Ob) : Bool := match o with
  | some (.lst _) => T == "list"
  | some (.dK _) => T == "dict"
  | some (.dT _) => T == "dict"
  | _ => false
@[simp] theorem tyR_lst (T : String) (xs : List Val) : tyR T (some (.lst xs)) = (T == "list") := rfl
@[simp] theorem tyR_dK (T : String) (xs : List (Key × Val)) : tyR T (some (.dK xs)) = (T == "dict") := rfl
@[simp] theorem isTy_ref (T : String) (a : Nat) : isTy T (.ref a) S = tyR T (sg S a) := by
  show _ = tyR T S[a]?
  simp only [isTy]
  unfold tyR
  cases S[a]? with
  | none => rfl
  | some o => cases o <;> rfl
@[simp] theorem newL_app (xs : List Val) : newL xs S = .ok (.ref (sl S)) (sp S (.lst xs)) := rfl
def slR (o : Option Ob) (lo hi : Option Int) (S : Store) : R Val := match o with
  | some (.lst vs) => newL (cutL vs lo hi) S
  | _ => .bad
@[simp] theorem slR_lst (vs : List Val) (lo hi : Option Int) : slR (some (.lst vs)) lo hi S = newL (cutL vs lo hi) S := rfl
@[simp] theorem pSl_ref (a : Nat) (lo hi : Option Int) : pSl (.ref a) lo hi S = slR (sg S a) lo hi S := by
  show _ = slR S[a]? lo hi S
  simp only [pSl]
  unfold slR
  cases S[a]? with
  | none => rfl
  | some o => cases o <;> rfl
@[simp] theorem pSl_tup (vs : List Val) (lo hi : Option Int) : pSl (.tup vs) lo hi S = .ok (.tup (cutL vs lo hi)) S := rfl
@[simp] theorem pSl_fl (vs : List Int) (lo hi : Option Int) : pSl (.fl vs) lo hi S = newL ((cutL vs lo hi).map Val.int) S := rfl
def itemsR (o : Option Ob) : Option (List Val) := match o with
  | some (.lst vs) => some vs
  | _ => none
@[simp] theorem itemsR_lst (vs : List Val) : itemsR (some (.lst vs)) = some vs := rfl
@[simp] theorem fList_ref (a : Nat) : fList [.ref a] S = (optR (itemsR (sg S a)) S).bind fun vs S => newL vs S := by
  show _ = (optR (itemsR S[a]?) S).bind _
  simp only [fList, one, itemsO]
  cases S[a]? with
  | none => rfl
  | some o => cases o <;> rfl
@[simp] theorem fList_fl (ns : List Int) : fList [.fl ns] S = newL (ns.map Val.int) S := rfl
@[simp] theorem fList_tup (vs : List Val) : fList [.tup vs] S = newL vs S := rfl
@[simp] theorem fTuple_ref (a : Nat) : fTuple [.ref a] S = (optR (itemsR (sg S a)) S).bind fun vs S => .ok (.tup vs) S := by
  show _ = (optR (itemsR S[a]?) S).bind _
  simp only [fTuple, one, itemsO]
  cases S[a]? with
  | none => rfl
  | some o => cases o <;> rfl
@[simp] theorem fTuple_tup (vs : List Val) : fTuple [.tup vs] S = .ok (.tup vs) S := rfl
def itR (o : Option Ob) (a : Nat) (S : Store) : R It := match o with
  | some (.lst xs) => .ok ⟨xs, fun S' => sg S' a = some (.lst xs)⟩ S
  | _ => .bad
@[simp] theorem itR_lst (xs : List Val) (a : Nat) : itR (some (.lst xs)) a S = .ok ⟨xs, fun S' => sg S' a = some (.lst xs)⟩ S := rfl
@[simp] theorem itOf_ref (a : Nat) : itOf (.ref a) S = itR (sg S a) a S := by
  show _ = itR S[a]? a S
  simp only [itOf]
  unfold itR
  cases S[a]? with
  | none => rfl
  | some o => cases o <;> rfl
@[simp] theorem itOf_tup (vs : List Val) : itOf (.tup vs) S = .ok ⟨vs, fun _ => True⟩ S := rfl
@[simp] theorem itOf_fl (ns : List Int) : itOf (.fl ns) S = .ok ⟨ns.map Val.int, fun _ => True⟩ S := rfl
theorem rngOf1_int (j : Int) : rngOf1 [.int j] S = gate (-BIG ≤ j ∧ j < BIG) (.ok ⟨rangeL 0 j.toNat, fun _ => True⟩ S) .bad := rfl
theorem rngOf2_int (i j : Int) : rngOf2 [.int i, .int j] S = gate (-BIG ≤ i ∧ i < BIG ∧ -BIG ≤ j ∧ j < BIG) (.ok ⟨rangeL i (j - i).toNat, fun _ => True⟩ S) .bad := rfl
/-! in, dicts -/
def inDR (o : Option Ob) (k : Key) : Option Bool := match o with
  | some (.dK kvs) => some (valL kvs k).isSome
  | _ => none
end
end Mp

set_option maxHeartbeats 4000000
/-! MpL: loops and other common lemmas, plain. -/
namespace Mp
open PySem (Str)
theorem ofString_inj {a b : String} : (Str.ofString a = Str.ofString b) = (a = b) := by
  apply propext
  refine ⟨fun h => ?_, fun h => by rw [h]⟩
  rw [PySem.Str.ofString_eq_toList, PySem.Str.ofString_eq_toList] at h
  have h1 : a.toList.map Char.toNat = b.toList.map Char.toNat := by
    have := congrArg PySem.Str.cps h
    simpa using this
  have h2 : a.toList = b.toList := by
    have inj : ∀ (l m : List Char), l.map Char.toNat = m.map Char.toNat → l = m := by
      intro l
      induction l with
      | nil => intro m hm; cases m with
        | nil => rfl
        | cons => simp at hm
      | cons c l ih => intro m hm; cases m with
        | nil => simp at hm
        | cons d m =>
          simp only [List.map_cons, List.cons.injEq] at hm
          rw [ih m hm.2]
          have : c = d := by
            apply Char.ext
            apply UInt32.toNat_inj.mp
            exact hm.1
          rw [this]
    exact inj _ _ h1
  exact String.toList_inj.mp h2
@[simp] theorem ofString_beq {a b : String} : (Str.ofString a == Str.ofString b) = decide (a = b) := by
  by_cases h : a = b
  · subst h; simp
  · rw [decide_eq_false h]
    apply beq_eq_false_iff_ne.mpr
    intro e
    rw [ofString_inj] at e
    exact h e
@[simp] theorem ofString_eq' {a b : String} : (Str.ofString a = Str.ofString b) = (a = b) := ofString_inj
/-- a loop none of whose turns leaves it -/
theorem forLoop_nx {keep : Store → Prop} {g : MG} {b : MS} (I : Nat → Loc → Store → Prop) {xs : List Val} {L : Loc} {S : Store} (h0 : I 0 L S) (hk : ∀ i L S, i ≤ xs.length → I i L S → keep S)
    (hs : ∀ i x L S, xs[i]? = some x → I i L S → ∃ L1 S1 L2 S2, g x L S = .ok L1 S1 ∧ (b L1 S1 = .nx L2 S2 ∨ b L1 S1 = .ct L2 S2) ∧ I (i + 1) L2 S2) : ∃ L' S', forLoop keep g b xs L S = .nx L' S' ∧ I xs.length L' S' := by
  have key : ∀ (ys : List Val) (i : Nat) (L : Loc) (S : Store), xs.drop i = ys → i ≤ xs.length → I i L S → ∃ L' S', forLoop keep g b ys L S = .nx L' S' ∧ I xs.length L' S' := by
    intro ys
    induction ys with
    | nil =>
      intro i L S hd hi hI
      have : xs.length ≤ i := by
        have := congrArg List.length hd
        simp at this
        omega
      have e : i = xs.length := by omega
      subst e
      exact ⟨L, S, by unfold forLoop; rw [gate_pos (hk _ _ _ (Nat.le_refl _) hI)], hI⟩
    | cons y ys ih =>
      intro i L S hd hi hI
      have hx : xs[i]? = some y := by
        have : (xs.drop i)[0]? = some y := by rw [hd]; rfl
        simpa using this
      have hlt := (List.getElem?_eq_some_iff.mp hx).1
      have hys : xs.drop (i + 1) = ys := by
        have : (xs.drop i).drop 1 = ys := by rw [hd]; rfl
        rw [List.drop_drop] at this
        exact this
      obtain ⟨L1, S1, L2, S2, h1, h2, h3⟩ := hs i y L S hx hI
      obtain ⟨L', S', h4, h5⟩ := ih (i + 1) L2 S2 hys hlt h3
      refine ⟨L', S', ?_, h5⟩
      unfold forLoop
      rw [gate_pos (hk _ _ _ hi hI), h1]
      rcases h2 with h2 | h2
      · simp [h2, h4]
      · simp [h2, h4]
  exact key xs 0 L S rfl (Nat.zero_le _) h0
theorem rangeL_len (lo : Int) (n : Nat) : (rangeL lo n).length = n := by simp [rangeL]
theorem rangeL_at {lo : Int} {n i : Nat} {x : Val} (h : (rangeL lo n)[i]? = some x) : i < n ∧ x = .int (lo + (i : Nat)) := rangeL_get h
/-- is a value a whole number (no flag) -/
def isInt (v : Val) : Bool := match v with
  | .int _ => true
  | _ => false
def withinB (v : Val) (a b : Int) : Bool := match v with
  | .int i => decide (a ≤ i) && decide (i ≤ b)
  | _ => false
theorem isInt_ty {v : Val} {S : Store} {t : String} (h : tyName v S = some t) : (subTy t "int" && !subTy t "bool") = isInt v := by
  cases v with
  | ref a =>
    simp only [tyName] at h
    split at h <;> first | (cases h; rfl) | cases h
  | _ => simp only [tyName] at h; cases h; rfl
@[simp] theorem tyName_non {S : Store} : tyName .non S = some "NoneType" := rfl
@[simp] theorem tyName_bl {S : Store} (b : Bool) : tyName (.bl b) S = some "bool" := rfl
@[simp] theorem tyName_int {S : Store} (b : Int) : tyName (.int b) S = some "int" := rfl
@[simp] theorem tyName_str {S : Store} (b : Str) : tyName (.str b) S = some "str" := rfl
@[simp] theorem tyName_tup {S : Store} (b : List Val) : tyName (.tup b) S = some "tuple" := rfl
@[simp] theorem tyName_fl {S : Store} (b : List Int) : tyName (.fl b) S = some "list" := rfl
def tyRN (o : Option Ob) : Option String := match o with
  | some (.lst _) => some "list"
  | some (.dK _) => some "dict"
  | some (.dT _) => some "dict"
  | _ => none
@[simp] theorem tyRN_lst (xs : List Val) : tyRN (some (.lst xs)) = some "list" := rfl
@[simp] theorem tyRN_dK (xs : List (Key × Val)) : tyRN (some (.dK xs)) = some "dict" := rfl
@[simp] theorem tyName_ref {S : Store} (a : Nat) : tyName (.ref a) S = tyRN (sg S a) := by
  show _ = tyRN S[a]?
  simp only [tyName]
  unfold tyRN
  cases S[a]? with
  | none => rfl
  | some o => cases o <;> rfl
theorem pIsT_of {T : String} {v : Val} {S : Store} {t : String} (h : tyName v S = some t) : pIsT T v S = .ok (.bl (subTy t T)) S := by unfold pIsT; rw [h]
/-- bite of a choice -/
theorem bite_ite {α : Type} (b : Bool) (x y : α) : bite b x y = if b = true then x else y := by cases b <;> rfl
theorem bite_ok_bl {b : Bool} {c : Bool} {S : Store} : bite b (R.ok (Val.bl c) S) (R.ok (Val.bl false) S) = .ok (.bl (b && c)) S := by cases b <;> rfl
theorem bite_ok_b {b : Bool} {c : Bool} {S : Store} : bite b (R.ok c S) (R.ok false S) = .ok (b && c) S := by cases b <;> rfl
/-! try, while -/
def tryF (D : List Hd) (r : F) : Dep D F := match r with
  | .exn e L S => handle D e L S
  | r => r
@[simp] theorem sTry_app (b : MS) (D : List Hd) (L : Loc) (S : Store) : sTry b D L S = tryF D (b L S) := by
  unfold sTry tryF
  rfl
@[simp] theorem tryF_nx (D : List Hd) (L : Loc) (S : Store) : tryF D (.nx L S) = .nx L S := rfl
@[simp] theorem tryF_rt (D : List Hd) (v : Val) (S : Store) : tryF D (.rt v S) = .rt v S := rfl
@[simp] theorem tryF_exn (D : List Hd) (e : Ex) (L : Loc) (S : Store) : tryF D (.exn e L S) = handle D e L S := rfl
def hdF (o : Option Bool) (x y : F) : Dep x (Dep y F) := match o with
  | some b => bite b (noExnF x) y
  | none => .bad
@[simp] theorem hdF_some (b : Bool) (x y : F) : hdF (some b) x y = bite b (noExnF x) y := rfl
@[simp] theorem handle_cons (h : Hd) (r : List Hd) (e : Ex) (L : Loc) (S : Store) : handle (h :: r) e L S = hdF (h.names.lookup e.cls) (h.suite e L S) (handle r e L S) := by
  conv => lhs; unfold handle
  unfold hdF
  cases h.names.lookup e.cls <;> rfl
@[simp] theorem handle_nil (e : Ex) (L : Loc) (S : Store) : handle [] e L S = .exn e L S := rfl
theorem whileLoop_step {c : MT} {b : MS} {n : Nat} {L : Loc} {S : Store} (h : 0 < n) : whileLoop c b n L S = thenF L (c L S) fun t S1 => bite t (turn (b L S1) (whileLoop c b (n - 1))) (.nx L S1) := by
  cases n with
  | zero => omega
  | succ n => rfl
theorem MANY_pos : 0 < MANY := by decide
theorem MANY_pos1 : 0 < MANY - 1 := by decide
theorem MANY_pos2 : 0 < MANY - 1 - 1 := by decide
/-! dicts -/
def inKR (o : Option Ob) (x : Val) (neg : Bool) (S : Store) : R Val := match o with
  | some (.dK kvs) => match keyOf x with
    | some k => .ok (.bl (if neg then !(valL kvs k).isSome else (valL kvs k).isSome)) S
    | none => .bad
  | some (.lst vs) => match flatL x, vs.mapM flatL with
    | some u, some us => .ok (.bl (if neg then !L2.inV u us else L2.inV u us)) S
    | _, _ => .bad
  | some (.dT kvs) => match x with
    | .tup ks => match tkey ks with
      | some k => .ok (.bl (if neg then !(valL kvs k).isSome else (valL kvs k).isSome)) S
      | none => .bad
    | _ => .bad
  | _ => .bad
@[simp] theorem inKR_dK (kvs : List (Key × Val)) (i : Int) (neg : Bool) {S : Store} : inKR (some (.dK kvs)) (.int i) neg S = .ok (.bl (if neg then !(valL kvs (.inl i)).isSome else (valL kvs (.inl i)).isSome)) S := rfl
theorem inKR_eq {S : Store} (x : Val) (a : Nat) (neg : Bool) : (match inF x (.ref a) S with
  | some b => R.ok (Val.bl (if neg then !b else b)) S
  | none => .bad) = inKR (sg S a) x neg S := by
  show _ = inKR S[a]? x neg S
  simp only [inF]
  unfold inKR
  cases S[a]? with
  | none => rfl
  | some o =>
    cases o with
    | lst vs =>
      dsimp only
      cases flatL x with
      | none => rfl
      | some u => cases vs.mapM flatL <;> rfl
    | dK kvs =>
      dsimp only
      cases keyOf x <;> rfl
    | dT kvs =>
      cases x with
      | tup ks => dsimp only; cases tkey ks <;> rfl
      | _ => rfl
    | _ => rfl
@[simp] theorem pIn_ref {S : Store} (x : Val) (a : Nat) : pIn x (.ref a) S = inKR (sg S a) x false S := by
  rw [← inKR_eq]
  unfold pIn
  rfl
@[simp] theorem pNotIn_ref {S : Store} (x : Val) (a : Nat) : pNotIn x (.ref a) S = inKR (sg S a) x true S := by
  rw [← inKR_eq]
  unfold pNotIn
  rfl
def dpopR (o : Option Ob) (a : Nat) (k : Key) (S : Store) : R Val := match o with
  | some (.dK kvs) => match valL kvs k with
    | some y => .ok y (ss S a (.dK (dropL kvs k)))
    | none => .bad
  | _ => .bad
@[simp] theorem dpopR_dK (kvs : List (Key × Val)) (a : Nat) (k : Key) {S : Store} : dpopR (some (.dK kvs)) a k S = match valL kvs k with
    | some y => .ok y (ss S a (.dK (dropL kvs k)))
    | none => .bad := rfl
@[simp] theorem fDPop_ref {S : Store} (a : Nat) (i : Int) : fDPop (.ref a) [.int i] S = dpopR (sg S a) a (.inl i) S := by
  show _ = dpopR S[a]? a (.inl i) S
  simp only [fDPop]
  unfold dpopR
  cases S[a]? with
  | none => rfl
  | some o =>
    cases o with
    | dK kvs => dsimp only [keyOf]; cases valL kvs (.inl i) <;> rfl
    | _ => rfl
def sortDR (o : Option Ob) (S : Store) : R Val := match o with
  | some (.dK kvs) => match intKeys kvs with
    | some ks => bite (decide (ks.length < 64)) (newL ((sortI ks).map Val.int) S) .bad
    | none => .bad
  | _ => .bad
@[simp] theorem sortDR_dK (kvs : List (Key × Val)) {S : Store} : sortDR (some (.dK kvs)) S = match intKeys kvs with
    | some ks => bite (decide (ks.length < 64)) (newL ((sortI ks).map Val.int) S) .bad
    | none => .bad := rfl
@[simp] theorem fSortD_ref {S : Store} (a : Nat) : fSortD [.ref a] S = sortDR (sg S a) S := by
  show _ = sortDR S[a]? S
  simp only [fSortD, one]
  unfold sortDR
  cases S[a]? with
  | none => rfl
  | some o =>
    cases o with
    | dK kvs => first
      | (dsimp only; done)
      | (cases intKeys kvs <;> rfl)
      | (dsimp only; cases intKeys kvs <;> rfl)
    | _ => rfl
/-! == -/
def listD (n : Nat) (S : Store) (o : Option Ob) : Option PySem.PyData := match o with
  | some (.lst xs) => (xs.mapM (toD n S)).map .list
  | _ => none
@[simp] theorem listD_lst (n : Nat) (S : Store) (xs : List Val) : listD n S (some (.lst xs)) = (xs.mapM (toD n S)).map .list := rfl
theorem toD_ref (n : Nat) (S : Store) (i : Nat) : toD (n + 1) S (.ref i) = listD n S (sg S i) := by
  show _ = listD n S S[i]?
  simp only [toD]
  unfold listD
  cases S[i]? with
  | none => rfl
  | some o => cases o <;> rfl
theorem toD_tup (n : Nat) (S : Store) (vs : List Val) : toD (n + 1) S (.tup vs) = (vs.mapM (toD n S)).map .tuple := by simp only [toD]
@[simp] theorem toD_int (n : Nat) (S : Store) (i : Int) : toD n S (.int i) = some (.int i) := by cases n <;> simp [toD]
@[simp] theorem toD_str (n : Nat) (S : Store) (i : Str) : toD n S (.str i) = some (.str i) := by cases n <;> simp [toD]
@[simp] theorem toD_bl (n : Nat) (S : Store) (i : Bool) : toD n S (.bl i) = some (.bool i) := by cases n <;> simp [toD]
@[simp] theorem toD_non (n : Nat) (S : Store) : toD n S .non = some .none := by cases n <;> simp [toD]
@[simp] theorem pNe_bl {S : Store} (a b : Bool) : pNe (.bl a) (.bl b) S = .ok (.bl (!(a == b))) S := by
  unfold pNe eqO
  simp [PySem.SeqAt.shaped, PySem.PyData.canLay0, PySem.PyData.depth, PySem.PyData.eqv]
@[simp] theorem pNe_int {S : Store} (a b : Int) : pNe (.int a) (.int b) S = .ok (.bl (!decide (a = b))) S := by
  unfold pNe eqO
  simp [PySem.SeqAt.shaped, PySem.PyData.canLay0, PySem.PyData.depth, PySem.PyData.eqv]
  by_cases h : a = b <;> simp [h]
theorem pEq_str {S : Store} {a b : Str} (ha : PySem.PyData.strOk a = true) (hb : PySem.PyData.strOk b = true) : pEq (.str a) (.str b) S = .ok (.bl (a == b)) S := by
  unfold pEq eqO
  simp [PySem.SeqAt.shaped, PySem.PyData.canLay0, PySem.PyData.depth, PySem.PyData.eqv, ha, hb]
@[simp] theorem pIs_non {S : Store} (v : Val) : pIs v .non S = .ok (.bl (match v with | .non => true | _ => false)) S := by
  unfold pIs isC
  cases v <;> rfl
@[simp] theorem pIs_bl {S : Store} (v : Val) (b : Bool) : pIs v (.bl b) S = .ok (.bl (match v with | .bl c => decide (c = b) | _ => false)) S := by
  unfold pIs isC
  cases v <;> rfl
/-- nothing but h (and what is new) has changed -/
def Keep (h : Nat) (S S' : Store) : Prop := sl S ≤ sl S' ∧ ∀ i, i < sl S → i ≠ h → sg S' i = sg S i
theorem Keep.refl (h : Nat) (S : Store) : Keep h S S := ⟨Nat.le_refl _, fun _ _ _ => rfl⟩
theorem Keep.trans {h : Nat} {S S1 S2 : Store} (a : Keep h S S1) (b : Keep h S1 S2) : Keep h S S2 := ⟨Nat.le_trans a.1 b.1, fun i hi hn => (b.2 i (Nat.lt_of_lt_of_le hi a.1) hn).trans (a.2 i hi hn)⟩
theorem Keep.ss (h : Nat) (S : Store) (o : Ob) : Keep h S (ss S h o) := ⟨by simp, fun i _ hn => sg_ss_ne hn⟩
theorem Keep.sp (h : Nat) (S : Store) (o : Ob) : Keep h S (sp S o) := ⟨by simp, fun i hi _ => sg_sp_lt hi⟩
end Mp

/-! Mp11: the ends: from a law's Fn to the row. -/
namespace Mp
open PySem PySem.Spec L2
/-- the law's own promise -/
def spLaw (K : PySem.W.Frag) : Sp := fun us H Q _ => ∃ (a : Addr) (ns : List Int), us = [.ref a] ∧ FzL K H a (ns.map V.int) ∧ ns.length ≤ 63 ∧ ∀ H', Q (.bl true) H'
theorem fn_law {P : Program} {w : World} {K : PySem.W.Frag} {mg : Str → Option Value} {base : Heap} {CX : CXT} {k : Nat} {fa : Addr} {fd : FuncData} {ps : List Str} {f : Fn} (F : FnOk P w K mg base CX k fa fd ps (spM K mg 1 f))
    (h : ∀ ns : List Int, ns.length ≤ 63 → ∃ S, f [.fl ns] [] = .ok (.bl true) S) : FnOk P w K mg base CX k fa fd ps (spLaw K) := F.imp fun vs H Q E ⟨a, ns, e, hz, hl, k⟩ => by
  obtain ⟨S, q⟩ := h ns hl
  subst e
  refine ⟨fun _ => 0, [], [.fl ns], rfl, ⟨fun i o h => (by simp at h), fun i j h => absurd h (by simp)⟩, ⟨_, _, rfl, ⟨a, rfl, hz⟩, rfl⟩, ?_⟩
  rw [q]
  intro ρ' H' u _ _ r
  have r' : u = .bl true := r
  rw [r']
  exact k H'
theorem walk_mp {l : PySem.W.OpenLaw} {k : Nat} {q : Program} {loose : List Str} {XP : (Str → Option Value) → Heap → Prop} {YP : World → Heap → Prop} {d : DefRec} {K : Params → PySem.W.Frag} {x : Str} (hn : l.most = some 63) (hdf : d.params.defaults = []) (hr : Room k callerA)
    (hY : ∀ (w : World) (h : Heap), YP w h → (K w.params).In h)
    (F : ∀ (w : World) (mg : Str → Option Value) (fa : Addr) (h : Heap), (K w.params).In h → h.Ns mainGlobals mg → mg d.name = some (.ref fa) →
      ∃ fd : FuncData, (∀ (s : Shared) (u : Value), BindsTo s fd ⟨[u], []⟩ [(x, u)]) ∧ ∀ base : Heap, (K w.params).In base → base.Ns mainGlobals mg → FnOk l.prog w (K w.params) mg base (L2.CX l.prog w) k fa fd [x] (spLaw (K w.params))) :
    PySem.W.WalkO q loose XP YP l.row.toRowW d [] (fun f vs => PySem.call f vs) :=
  L2.walk_of (n := 63) (k := k) (x := x) (CX := fun w => L2.CX l.prog w) (sp := fun w => spLaw (K w.params)) hn (by decide) hdf hr hY F (fun w H a ns hl hO hS => by
    refine ⟨a, ns, rfl, ?_, hl, fun _ => rfl⟩
    rcases hS with hS | hS
    · rcases hS with hS | hS
      · rcases hO a with q | ⟨o, xs, q⟩
        · rw [q] at hS; cases hS
        · rw [q] at hS; cases hS
      · exact .inl hS
    · exact .inr hS) fun _ _ _ _ _ ⟨_, _, _, _, _, _, _, _, _, _, _, _, z⟩ => z
/-- what an except clause with the class at C says of an error of class Y -/
theorem exm_of {K : PySem.W.Frag} {C Y : Addr} {b : Bool} (h1 : PySem.W.subIn K (.ref C) (.type "BaseException") = some true) (h2 : PySem.W.isClsIn K C = true) (h3 : PySem.W.typeIn K (.ref C) = some (.type "type")) (h4 : PySem.W.subIn K (.ref Y) (.ref C) = some b) :
    PySem.W.exmOne K (.ref Y) (.ref C) = some b := by
  have e1 : (PySem.W.subIn K (.ref C) (.type "BaseException") == some true) = true := by rw [h1] <;> rfl
  have e2 : ((PySem.W.clsIn K C).isSome && PySem.W.typeIn K (.ref C) == some (.type "type")) = true := by
    have h2' : (PySem.W.clsIn K C).isSome = true := h2
    rw [h2', h3] <;> rfl
  unfold PySem.W.exmOne PySem.W.kitCls
  simp only [e1, e2, if_true]
  exact h4
end Mp

/-! Mp12: more builtins. -/
namespace Mp
open PySem PySem.Spec L2
section
variable {X : Cx} {W : WX}
/-- a list's items -/
def lstO (x : Val) (S : Store) : Option (List Val) := match x with
  | .fl ns => some (ns.map Val.int)
  | .ref a => match S[a]? with
    | some (.lst vs) => some vs
    | _ => none
  | _ => none
theorem lst_of {ρ : Rho} {S : Store} {H : Hp} {x : Val} {u : V} {vs : List Val} (s : SR X.K X.mg ρ S H) (v : VR X.K ρ S.length H x u) (h : lstO x S = some vs) : ∃ a us, u = .ref a ∧ SqL X.K H a us ∧ VRs X.K ρ S.length H vs us := by
  unfold lstO at h
  split at h
  · cases h
    simp only [VR] at v
    obtain ⟨a, rfl, h1⟩ := v
    exact ⟨a, _, rfl, h1.seq, VRs.of_ints _⟩
  · rename_i a
    simp only [VR] at v
    obtain ⟨ha, rfl⟩ := v
    split at h
    · rename_i vs' e
      cases h
      obtain ⟨us, g1, g2⟩ := s.lst e
      exact ⟨_, us, rfl, SqL.of g1, g2⟩
    · cases h
  · cases h
def blsO : List Val → Option (List Bool)
  | [] => some []
  | .bl b :: r => (blsO r).map (b :: ·)
  | _ => none
def intsO : List Val → Option (List Int)
  | [] => some []
  | .int b :: r => (intsO r).map (b :: ·)
  | _ => none
theorem bls_of {K : PySem.W.Frag} {ρ : Rho} {n : Nat} {H : Hp} : ∀ {vs : List Val} {us : List V} {bs : List Bool}, VRs K ρ n H vs us → blsO vs = some bs → us = bs.map V.bl
  | [], us, bs, r, e => by
    cases e
    exact r.nil_of
  | .bl b :: vs, us, bs, r, e => by
    obtain ⟨u, q, rfl, r1, r2⟩ := r.cons_of
    simp only [blsO, Option.map_eq_some_iff] at e
    obtain ⟨cs, e1, rfl⟩ := e
    simp only [VR] at r1
    rw [r1, bls_of r2 e1]
    rfl
  | .non :: _, _, _, _, e | .int _ :: _, _, _, _, e | .str _ :: _, _, _, _, e | .tup _ :: _, _, _, _, e | .ref _ :: _, _, _, _, e | .fl _ :: _, _, _, _, e => by simp [blsO] at e
theorem ints_of {K : PySem.W.Frag} {ρ : Rho} {n : Nat} {H : Hp} : ∀ {vs : List Val} {us : List V} {bs : List Int}, VRs K ρ n H vs us → intsO vs = some bs → us = bs.map V.int
  | [], us, bs, r, e => by
    cases e
    exact r.nil_of
  | .int b :: vs, us, bs, r, e => by
    obtain ⟨u, q, rfl, r1, r2⟩ := r.cons_of
    simp only [intsO, Option.map_eq_some_iff] at e
    obtain ⟨cs, e1, rfl⟩ := e
    simp only [VR] at r1
    rw [r1, ints_of r2 e1]
    rfl
  | .non :: _, _, _, _, e | .bl _ :: _, _, _, _, e | .str _ :: _, _, _, _, e | .tup _ :: _, _, _, _, e | .ref _ :: _, _, _, _, e | .fl _ :: _, _, _, _, e => by simp [intsO] at e
/-- all(xs) of a list of flags -/
def fAll : Fn := one fun v S => match (lstO v S).bind blsO with
  | some bs => .ok (.bl (bs.all id)) S
  | none => .bad
theorem c_all (hc : X.calm = true) : CallR X (.builtin "all") (rF X fAll) := CallR.imp (cr_all hc) fun us H Q h => by
  replace h := one_of h
  obtain ⟨u, rfl, ρ, S, x, s, v, h⟩ := h
  dsimp only at h
  split at h
  · rename_i bs e
    obtain ⟨vs, e1, e2⟩ := Option.bind_eq_some_iff.mp e
    obtain ⟨a, us, rfl, h1, h2⟩ := lst_of s v e1
    cases bls_of h2 e2
    exact ⟨a, bs, rfl, h1, Post.here (rel := relV X.K) s h (by simp [relV, VR])⟩
  · exact h.elim
/-- sum(xs) of a list of integers -/
def fSum : Fn := one fun v S => match (lstO v S).bind intsO with
  | some bs => .ok (.int bs.sum) S
  | none => .bad
theorem c_sum (hc : X.calm = true) : CallR X (.builtin "sum") (rF X fSum) := CallR.imp (cr_sum hc) fun us H Q h => by
  replace h := one_of h
  obtain ⟨u, rfl, ρ, S, x, s, v, h⟩ := h
  dsimp only at h
  split at h
  · rename_i bs e
    obtain ⟨vs, e1, e2⟩ := Option.bind_eq_some_iff.mp e
    obtain ⟨a, us, rfl, h1, h2⟩ := lst_of s v e1
    cases ints_of h2 e2
    exact ⟨a, bs, rfl, h1, Post.here (rel := relV X.K) s h (by simp [relV, VR])⟩
  · exact h.elim
def maxL : List Int → Option Int
  | [] => none
  | i :: r => some (match maxL r with
    | some j => if i ≤ j then j else i
    | none => i)
theorem maxL_ge : ∀ {ns : List Int} {m : Int}, maxL ns = some m → m ∈ ns ∧ ∀ y, y ∈ ns → y ≤ m
  | [], _, h => by cases h
  | i :: r, m, h => by
    simp only [maxL, Option.some.injEq] at h
    cases q : maxL r with
    | none =>
      rw [q] at h
      dsimp only at h
      subst h
      have hr : r = [] := by
        cases r with
        | nil => rfl
        | cons j s => simp [maxL] at q
      subst hr
      exact ⟨by simp, fun y hy => by simp at hy; omega⟩
    | some j =>
      rw [q] at h
      obtain ⟨h1, h2⟩ := maxL_ge q
      dsimp only at h
      split at h
      · subst h
        exact ⟨List.mem_cons_of_mem _ h1, fun y hy => by
          rcases List.mem_cons.mp hy with rfl | hy
          · assumption
          · exact h2 y hy⟩
      · subst h
        exact ⟨by simp, fun y hy => by
          rcases List.mem_cons.mp hy with rfl | hy
          · exact Int.le_refl _
          · have := h2 y hy
            omega⟩
theorem iter_tups {prog : Program} {w : World} {A : Around} {E : Value → Shared → Prop} {s : Shared} {l : Addr} {xs : Array (Int × Tok)} {Q : Value → Shared → Prop} (hl : s.heap.IsTuple l (intItems xs))
    (h : ∀ s₂ : Shared, s₂ = { s with heap := s.heap.push { cls := .type "tuple_iterator", data := .fields #[.ref l, .int 0 0] } } →
      (s₂.heap.IsTupleIter s.heap.objs.size l 0 ∧ s₂.heap.IsTuple l (intItems xs)) → (∀ b ∈ [s.heap.objs.size, l], b < s₂.heap.objs.size) → l ≠ s.heap.objs.size → Q (.ref s.heap.objs.size) s₂) :
    wpAny (model prog w) A (pyIter (.ref l)) Q E s := by
  have lt : l < s.heap.objs.size := by
    obtain ⟨_, e, _⟩ := hl
    exact Heap.lt_size e
  refine wpAny_pyIter_tuple hl (h _ rfl ⟨⟨_, Heap.get?_push_size _ rfl, rfl, rfl⟩, hl.push _⟩ (fun b hb => ?_) (Nat.ne_of_lt lt))
  show b < (s.heap.push _).objs.size
  rw [Heap.size_push]
  simp only [List.mem_cons, List.not_mem_nil, or_false] at hb
  rcases hb with rfl | rfl
  · exact Nat.lt_succ_self _
  · exact Nat.lt_succ_of_lt lt
theorem max_intTup {prog : Program} {w : World} {A : Around} {E : Value → Shared → Prop} {s : Shared} {l : Addr} {xs : Array (Int × Tok)} {Q : Value → Shared → Prop} (hh : A.handled = none) (hl : s.heap.IsTuple l (intItems xs)) (hne : 0 < xs.size)
    (h : ∀ v h' tk, (intItems xs)[argBest (fun i j => decide (numAt xs i > numAt xs j)) (xs.size - 1)]? = some v → (∀ b o, s.heap.get? b = some o → h'.get? b = some o) → Q v { s with heap := h', toks := tk }) :
    wpAny (model prog w) A (call (.builtin "max") [.ref l]) Q E s := by
  refine call_max_walk (iter_tups hl fun s₂ e st hfp hlI => ?_)
  subst e
  refine ⟨_, _, _, _, _, _, _, rfl, Walks.tuple (A := A.in1) hh _ l hlI (intItems xs), st, hfp, by simpa [intItems] using hne, CmpOf.ints_gt (numAt xs) (fun _ _ => intItems_at), fun v h' tk hP hk => ?_⟩
  refine h v h' tk (by simpa [intItems] using hP) fun b o e => hk b o (fun hm => ?_) (Heap.get?_push_of_some _ e)
  have eb : b = s.heap.objs.size := by simpa using hm
  rw [eb] at e
  exact absurd (Heap.lt_size e) (Nat.lt_irrefl _)
open PyProof.Rows in
theorem maxT_raw {prog : Program} {w : World} {A : Around} {E : Value → Shared → Prop} {s : Shared} {l : Addr} {its : List Value} {ns : List Int} {Q : Value → Shared → Prop} (hh : A.handled = none) (hl : s.heap.IsTuple l its.toArray) (hi : PyProof.Rows.IntsAre its ns) (hne : 0 < ns.length)
    (h : ∀ h' tk M t', (∀ b o, s.heap.get? b = some o → h'.get? b = some o) → M ∈ ns → (∀ a, a ∈ ns → a ≤ M) → Q (.int M t') { s with heap := h', toks := tk }) : wpAny (model prog w) A (call (.builtin "max") [.ref l]) Q E s := by
  obtain ⟨xs, e⟩ := hi.allInts.items
  have hn : numsOf (intItems xs).toList = ns := by rw [← e]; exact hi.numsOf
  rw [nums_intItems] at hn
  subst hn
  rw [e] at hl
  have hsz : 0 < xs.size := by simpa using hne
  refine max_intTup hh hl hsz fun v h' tk hv hk => ?_
  obtain ⟨t, rfl⟩ := intItems_at hv
  obtain ⟨h1, h2⟩ := argBest_gt (numAt xs) (xs.size - 1)
  refine h h' tk _ t hk ?_ fun a ha => ?_
  · rw [numAt_eq]
    exact PySem.getD_mem (by rw [List.length_map, Array.length_toList]; omega)
  · obtain ⟨j, hj, rfl⟩ := mem_getD ha
    rw [List.length_map, Array.length_toList] at hj
    rw [← numAt_eq]
    exact h2 j (by omega)
def rMaxT (K : PySem.W.Frag) : List V → Hp → VK → Prop := fun vs H Q => ∃ (a : Addr) (ns : List Int), vs = [V.ref a] ∧ SqT K H a (ns.map V.int) ∧ 0 < ns.length ∧ ∀ m, m ∈ ns → (∀ y, y ∈ ns → y ≤ m) → Q (.int m) H
theorem cr_maxT (hc : X.calm = true) : CallR X (.builtin "max") (rMaxT X.K) := by
  intro pins s σ H vs us Q I r h
  obtain ⟨a, ns, rfl, hs, hne, q⟩ := h
  obtain ⟨its, rv, hl, _⟩ := I.tuple hs
  rw [Vals.ref1 r]
  exact maxT_raw (I.ok.hd hc) hl rv.ints hne fun h' tk m t' hk h1 h2 => ⟨.int _, H, I.kept hk, ⟨_, rfl⟩, q m h1 h2⟩
/-- max(xs) of a list or a tuple of integers -/
def fMaxL : Fn := one fun v S => match ((itemsO v S).bind intsO).bind maxL with
  | some m => .ok (.int m) S
  | none => .bad
theorem c_maxL (hc : X.calm = true) : CallR X (.builtin "max") (rF X fMaxL) := CallR.imp ((cr_max hc).or (cr_maxT hc)) fun us H Q h => by
  replace h := one_of h
  obtain ⟨u, rfl, ρ, S, x, s, v, h⟩ := h
  dsimp only at h
  split at h
  · rename_i m e
    obtain ⟨ns, e0, e3⟩ := Option.bind_eq_some_iff.mp e
    obtain ⟨vs, e1, e2⟩ := Option.bind_eq_some_iff.mp e0
    obtain ⟨a, us, rfl, h1, h2⟩ := items_of s v e1
    cases ints_of h2 e2
    obtain ⟨g1, g2⟩ := maxL_ge e3
    have fin : ∀ m', m' ∈ ns → (∀ y, y ∈ ns → y ≤ m') → Q (.int m') H := fun m' hm hy => by
      have : m' = m := Int.le_antisymm (g2 m' hm) (hy m g1)
      rw [this]
      exact Post.here (rel := relV X.K) s h (by simp [relV, VR])
    rcases h1 with h1 | h1
    · exact .inl ⟨a, ns, rfl, h1, List.length_pos_of_mem g1, fin⟩
    · exact .inr ⟨a, ns, rfl, h1, List.length_pos_of_mem g1, fin⟩
  · exact h.elim
/-- xs[::-1] of a list -/
def pRev : P1 := fun v S => match lstO v S with
  | some vs => newL vs.reverse S
  | none => .bad
theorem VRs.app {K : PySem.W.Frag} {ρ : Rho} {n : Nat} {H : Hp} : ∀ {vs ws : List Val} {us xs : List V}, VRs K ρ n H vs us → VRs K ρ n H ws xs → VRs K ρ n H (vs ++ ws) (us ++ xs)
  | [], _, us, _, h, q => by
    cases h.nil_of
    exact q
  | v :: vs, _, us, _, h, q => by
    obtain ⟨u, r, rfl, h1, h2⟩ := h.cons_of
    exact ⟨u, _, rfl, h1, VRs.app h2 q⟩
theorem VRs.rev {K : PySem.W.Frag} {ρ : Rho} {n : Nat} {H : Hp} : ∀ {vs : List Val} {us : List V}, VRs K ρ n H vs us → VRs K ρ n H vs.reverse us.reverse
  | [], us, h => by
    cases h.nil_of
    exact h
  | v :: vs, us, h => by
    obtain ⟨u, r, rfl, h1, h2⟩ := h.cons_of
    rw [List.reverse_cons, List.reverse_cons]
    exact VRs.app (VRs.rev h2) ⟨u, [], rfl, h1, rfl⟩
theorem e_rev {e : Expr} {m : ME} {k : Nat} {p1 p2 p3 pos : Pos} (he : PEm X W e m) : PEm X W (.Subscript e (.Slice none none (some (.UnaryOp .USub (.Constant (.int 1) k p1) p2)) p3) pos) (m1 pRev m) :=
  PE.imp (pe_revL he) fun σ H Q h => by
    obtain ⟨ρ, S, L, s, l, h⟩ := h
    refine TEm.bind s l h fun ρ1 S1 x u H1 s1 l1 e v h => ?_
    have h := (Post.noExn h W0).sig (σ' := [])
    unfold pRev at h
    split at h
    · rename_i vs q
      obtain ⟨a, us, rfl, h1, h2⟩ := lst_of s1 v q
      exact ⟨a, us, rfl, h1, lst_new s1 h (VRs.rev h2)⟩
    · exact h.elim
/-- dict(xs) of a list of pairs -/
def kvsO : List Val → Option (List (Key × Val))
  | [] => some []
  | .tup [.int i, v] :: r => (kvsO r).map ((.inl i, v) :: ·)
  | .tup [.str i, v] :: r => (kvsO r).map ((.inr i, v) :: ·)
  | _ => none
def mergeL (kvs : List (Key × Val)) : List (Key × Val) := kvs.foldl (fun acc kv => putL acc kv.1 kv.2) []
theorem KR.merge {K : PySem.W.Frag} {ρ : Rho} {n : Nat} {H : Hp} : ∀ {l : List (Key × Val)} {m : List (Key × V)} {a : List (Key × Val)} {b : List (Key × V)}, KR K ρ n H l m → KR K ρ n H a b → KR K ρ n H (l.foldl (fun acc kv => putL acc kv.1 kv.2) a) (m.foldl (fun acc kv => putK acc kv.1 kv.2) b)
  | [], [], a, b, _, q => q
  | [], _ :: _, _, _, h, _ => by
    have := h.1
    simp at this
  | _ :: _, [], _, _, h, _ => by
    have := h.1
    simp at this
  | (k, v) :: l, (j, u) :: m, a, b, h, q => by
    have h1 := h.1
    simp only [List.map_cons, List.cons.injEq] at h1
    obtain ⟨rfl, h1⟩ := h1
    obtain ⟨u', r, e, g1, g2⟩ := h.2.cons_of
    simp only [List.map_cons, List.cons.injEq] at e
    obtain ⟨rfl, rfl⟩ := e
    exact KR.merge (l := l) (m := m) ⟨h1, g2⟩ (q.put g1)
theorem kvs_of {K : PySem.W.Frag} {ρ : Rho} {n : Nat} {H : Hp} : ∀ {vs : List Val} {us : List V} {kvs : List (Key × Val)}, VRs K ρ n H vs us → kvsO vs = some kvs →
    ∃ (ps : List Addr) (m : List (Key × V)), us = ps.map V.ref ∧ Paired (fun p (kv : Key × V) => SqT K H p [kV kv.1, kv.2]) ps m ∧ KR K ρ n H kvs m := by
  intro vs
  induction vs with
  | nil =>
    intro us kvs r e
    cases e
    exact ⟨[], [], r.nil_of, .nil, rfl, rfl⟩
  | cons v vs ih =>
    intro us kvs r e
    obtain ⟨u, q, rfl, r1, r2⟩ := r.cons_of
    unfold kvsO at e
    split at e
    · rename_i heq
      cases heq
    · rename_i i w r' heq
      cases heq
      obtain ⟨kvs', e1, rfl⟩ := Option.map_eq_some_iff.mp e
      obtain ⟨ps, m, rfl, h1, h2⟩ := ih r2 e1
      simp only [VR] at r1
      obtain ⟨a, xs, rfl, g1, g2⟩ := r1
      obtain ⟨x, y, rfl, gx, gy⟩ := g2.two
      simp only [VR] at gx
      subst gx
      exact ⟨a :: ps, (.inl i, y) :: m, rfl, .cons g1.sq h1, by simp [h2.1], ⟨_, _, rfl, gy, h2.2⟩⟩
    · rename_i i w r' heq
      cases heq
      obtain ⟨kvs', e1, rfl⟩ := Option.map_eq_some_iff.mp e
      obtain ⟨ps, m, rfl, h1, h2⟩ := ih r2 e1
      simp only [VR] at r1
      obtain ⟨a, xs, rfl, g1, g2⟩ := r1
      obtain ⟨x, y, rfl, gx, gy⟩ := g2.two
      simp only [VR] at gx
      subst gx
      exact ⟨a :: ps, (.inr i, y) :: m, rfl, .cons g1.sq h1, by simp [h2.1], ⟨_, _, rfl, gy, h2.2⟩⟩
    · cases e
def fDict : Fn := one fun v S => match (lstO v S).bind kvsO with
  | some kvs => .ok (.ref S.length) (S ++ [.dK (mergeL kvs)])
  | none => .bad
theorem c_dict (hc : X.calm = true) : CallR X (.type "dict") (rF X fDict) := CallR.imp (call_dictP hc) fun us H Q h => by
  replace h := one_of h
  obtain ⟨u, rfl, ρ, S, x, s, v, h⟩ := h
  dsimp only at h
  split at h
  · rename_i kvs e
    obtain ⟨vs, e1, e2⟩ := Option.bind_eq_some_iff.mp e
    obtain ⟨a, us, rfl, h1, h2⟩ := lst_of s v e1
    obtain ⟨ps, m, rfl, g1, g2⟩ := kvs_of h2 e2
    exact ⟨a, ps, m, rfl, h1, g1, new_of s h fun p hp => ⟨_, upd_same, KR.ext s (Ext.new hp) (KR.merge g2 (a := []) (b := []) ⟨rfl, rfl⟩)⟩⟩
  · exact h.elim
/-- a, b = x, y -/
def sPar (i j : Nat) (a : MA) : MS := fun L S => thenF L (a L S) fun vs S1 => match vs with
  | [v, w] => .nx ((L.set i (some v)).set j (some w)) S1
  | _ => .bad
theorem s_par {i j : Nat} {x y : Str} {a b : Expr} {ma : MA} {px py pt : Pos} {kt k2 pt2} {pos : Pos} (hc : X.calm = true) (hN : X.N.Nodup) (hi : X.N[i]? = some x) (hj : X.N[j]? = some y) (hij : i ≠ j)
    (hx : X.env.scope.names.lookup x = some .local) (hy : X.env.scope.names.lookup y = some .local) (ha : PAm X W [a, b] ma)
    (hw : swappedStores [.Tuple [.Name x px, .Name y py] kt pt] (.Tuple [a, b] k2 pt2) X.env = pure (some [x, y]) := by rfl)
    (hs : swapsWithSole [.Tuple [.Name x px, .Name y py] kt pt] (.Tuple [a, b] k2 pt2) pos.line X.env = pure false := by rfl) :
    PSm X W (.Assign [.Tuple [.Name x px, .Name y py] kt pt] (.Tuple [a, b] k2 pt2) pos) (sPar i j ma) := PS.imp (ps_par hc hN hi hj hij hx hy ha hw hs) fun D σ H ⟨ρ, S, L, s, l, h⟩ => by
  refine ⟨ρ, S, L, s, l, (PostF.then (rel := relVs X.K) s l h).mono fun us H1 ⟨ρ1, S1, vs, _, e, s1, v, q⟩ => ?_⟩
  have v' : VRs X.K ρ1 S1.length H1 vs us := v
  split at q
  · obtain ⟨u, z, rfl, r1, r2⟩ := v'.two
    exact ⟨u, z, rfl, PostF.nxHere s1 (((l.ext s e).set r1).set r2) q⟩
  · exact q.elim
/-- {k: e}, k an integer that is written -/
def mD1 (k : Int) (e : ME) : ME := fun L S => (e L (S ++ [.dK []])).bind fun v S2 => match S2[S.length]? with
  | some (.dK []) => .ok (.ref S.length) (S2.set S.length (.dK [(.inl k, v)]))
  | _ => .bad
theorem e_d1 {e : Expr} {m : ME} {k : Int} {j : Nat} {p1 pos : Pos} (he : PEm X W e m) : PEm X W (.Dict [some (.Constant (.int k) j p1)] [e] pos) (mD1 k m) :=
  PE.imp (pe_disp (pps_cons pe_int he pps_nil) rfl rfl (by simp) (by simp)) fun σ H Q ⟨ρ, S, L, s, l, h⟩ p hp => by
    have e1 := Ext.new (ρ := ρ) (S := S) (o := HO.dK []) (b := Ob.dK []) hp
    have s1 := s.new (o := HO.dK []) (b := Ob.dK []) hp ⟨[], upd_same, rfl, rfl⟩
    have h1 := Post.step s1 e1 h
    have l1 := l.ext s e1
    show TEm X.K X.mg W m σ (upd H p (.dK [])) _
    refine TEm.bind s1 l1 h1 fun ρ2 S2 v u H2 s2 l2 e2 r2 h2 => ?_
    split at h2
    · rename_i q
      obtain ⟨us, g1, g2⟩ := s2.ob _ _ q
      have hr : ρ2 S.length = p := by
        rw [e2.rho _ (by simp)]
        exact newRho_same
      have hu : us = [] := by
        have := g2.len
        cases us with
        | nil => rfl
        | cons a b => simp at this
      subst hu
      have hi : S.length < S2.length := (List.getElem?_eq_some_iff.mp q).1
      have g1' := g1
      rw [hr] at g1
      refine ⟨g1, [(.inl k, u)], rfl, by simp, ?_⟩
      have em : mergeK [] [((.inl k : Key), u)] = [(.inl k, u)] := rfl
      rw [em, ← hr]
      have ex := Ext.put (ρ := ρ2) (H := H2) (S := S2) (o := HO.dK [((.inl k : Key), u)]) (b := Ob.dK [(.inl k, v)]) hi
      have hx : H2 (ρ2 S.length) = some (.dK []) := g1'
      refine h2 ρ2 _ _ ex (s2.put hi ⟨_, upd_same, rfl, u, [], rfl, ?_, rfl⟩) ?_
      · have := VR.ext s2 ex _ _ r2
        simpa using this
      · simp only [relV, VR]
        exact ⟨by simpa using hi, trivial⟩
    · exact h2.elim
/-- a name of the module: the empty tuple -/
def Tup0 (K : PySem.W.Frag) (mg : Str → Option Value) (x : Str) : Prop := ∃ (a : Addr) (o : Obj) (n : Nat), mg x = some (.ref a) ∧ K.lookup a = some o ∧ o.cls = .type "tuple" ∧ o.data = .seq #[] n
theorem e_g0 {x : Str} {pos : Pos} (h : Tup0 X.K X.mg x) (hg : Gl X x) (hd : (x == ("__debug__" : Str)) = false := by decide) : PEm X W (.Name x pos) (mC (.tup [])) := by
  obtain ⟨a, o, n, h1, h2, h3, h4⟩ := h
  refine e_gc (u := .ref a) hg h1 rfl (fun _ _ _ => ?_) hd
  simp only [VR]
  exact ⟨a, [], rfl, .inr ⟨rfl, .inr ⟨o, #[], n, h2, h3, h4, by simp, .nil⟩⟩, rfl⟩
end
end Mp

/-! MpC: what a list comprehension makes; growth. -/
namespace Mp
open PySem (Str)
def Grow (S S' : Store) : Prop := sl S ≤ sl S' ∧ ∀ i, i < sl S → sg S' i = sg S i
theorem Grow.refl (S : Store) : Grow S S := ⟨Nat.le_refl _, fun _ _ => rfl⟩
theorem Grow.trans {S S1 S2 : Store} (a : Grow S S1) (b : Grow S1 S2) : Grow S S2 := ⟨Nat.le_trans a.1 b.1, fun i hi => (b.2 i (Nat.lt_of_lt_of_le hi a.1)).trans (a.2 i hi)⟩
theorem Grow.sp (S : Store) (o : Ob) : Grow S (sp S o) := ⟨by simp, fun i hi => sg_sp_lt hi⟩
theorem Grow.keep {S S' : Store} (g : Grow S S') (h : Nat) : Keep h S S' := ⟨g.1, fun i hi _ => g.2 i hi⟩
theorem Grow.sg {S S' : Store} (g : Grow S S') {i : Nat} {o : Ob} (h : Mp.sg S i = some o) : Mp.sg S' i = some o := by rw [g.2 i (sg_lt h)]; exact h
theorem Grow.ty {S S' : Store} (g : Grow S S') {v : Val} {t : String} (h : tyName v S = some t) : tyName v S' = some t := by
  cases v with
  | ref i =>
    rw [tyName_ref] at h ⊢
    cases q : Mp.sg S i with
    | none => rw [q] at h; cases h
    | some o => rw [q] at h; rw [g.sg q]; exact h
  | _ => exact h
theorem lcLoop_inv {keep : Store → Prop} {L : Loc} {g : MG} {c : MT} {e : ME} (I : Nat → List Val → Store → Prop) {xs : List Val} {S : Store} (h0 : I 0 [] S) (hk : ∀ i acc S, i ≤ xs.length → I i acc S → keep S)
    (hs : ∀ i x acc S, xs[i]? = some x → I i acc S → ∃ L1 S1 S2, g x L S = .ok L1 S1 ∧ ((c L1 S1 = .ok true S2 ∧ ∃ v S3, e L1 S2 = .ok v S3 ∧ acc.length < LIM ∧ I (i + 1) (acc ++ [v]) S3) ∨ (c L1 S1 = .ok false S2 ∧ I (i + 1) acc S2))) :
    ∃ ws S', lcLoop keep L g c e xs [] S = .ok ws S' ∧ I xs.length ws S' := by
  have key : ∀ (ys : List Val) (i : Nat) (acc : List Val) (S : Store), xs.drop i = ys → i ≤ xs.length → I i acc S → ∃ ws S', lcLoop keep L g c e ys acc S = .ok ws S' ∧ I xs.length ws S' := by
    intro ys
    induction ys with
    | nil =>
      intro i acc S hd hi hI
      have : xs.length ≤ i := by
        have := congrArg List.length hd
        simp at this
        omega
      have e : i = xs.length := by omega
      subst e
      exact ⟨acc, S, by unfold lcLoop; rw [gate_pos (hk _ _ _ (Nat.le_refl _) hI)], hI⟩
    | cons y ys ih =>
      intro i acc S hd hi hI
      have hx : xs[i]? = some y := by
        have : (xs.drop i)[0]? = some y := by rw [hd]; rfl
        simpa using this
      have hlt := (List.getElem?_eq_some_iff.mp hx).1
      have hd' : xs.drop (i + 1) = ys := by
        have := congrArg List.tail hd
        simpa using this
      obtain ⟨L1, S1, S2, h1, h2⟩ := hs i y acc S hx hI
      rcases h2 with ⟨h2, v, S3, h3, h4, h5⟩ | ⟨h2, h5⟩
      · obtain ⟨ws, S', r1, r2⟩ := ih (i + 1) (acc ++ [v]) S3 hd' hlt h5
        refine ⟨ws, S', ?_, r2⟩
        unfold lcLoop
        rw [gate_pos (hk _ _ _ hi hI), h1, noExn_ok, R.bind_ok, h2, noExn_ok, R.bind_ok, bite_true, h3, noExn_ok, R.bind_ok, bite_pos (decide_eq_true h4)]
        exact r1
      · obtain ⟨ws, S', r1, r2⟩ := ih (i + 1) acc S2 hd' hlt h5
        refine ⟨ws, S', ?_, r2⟩
        unfold lcLoop
        rw [gate_pos (hk _ _ _ hi hI), h1, noExn_ok, R.bind_ok, h2, noExn_ok, R.bind_ok, bite_false]
        exact r1
  exact key xs 0 [] S (by simp) (Nat.zero_le _) h0
/-- no test, each item's value told by f, the store growing alone -/
theorem lcLoop_map {keep : Store → Prop} {L : Loc} {g : MG} {e : ME} {xs : List Val} {S : Store} (f : Val → Val) (hz : xs.length < LIM) (hk : ∀ S', Grow S S' → keep S')
    (hs : ∀ x S', x ∈ xs → Grow S S' → ∃ L1 S1 S2, g x L S' = .ok L1 S1 ∧ e L1 S1 = .ok (f x) S2 ∧ Grow S' S2) : ∃ S', lcLoop keep L g tYes e xs [] S = .ok (xs.map f) S' ∧ Grow S S' := by
  obtain ⟨ws, S', h1, h2, h3⟩ := lcLoop_inv (keep := keep) (L := L) (g := g) (c := tYes) (e := e) (fun i acc S' => acc = (xs.take i).map f ∧ Grow S S') (xs := xs) (S := S) ⟨rfl, Grow.refl S⟩ (fun i acc S' _ q => hk S' q.2) (fun i x acc S' hx q => by
    obtain ⟨q1, q2⟩ := q
    have hi := (List.getElem?_eq_some_iff.mp hx).1
    obtain ⟨L1, S1, S2, e1, e2, e3⟩ := hs x S' (List.mem_of_getElem? hx) q2
    refine ⟨L1, S1, S1, e1, .inl ⟨rfl, f x, S2, e2, by rw [q1, List.length_map, List.length_take]; exact Nat.lt_of_le_of_lt (Nat.min_le_right _ _) hz, ?_, q2.trans e3⟩⟩
    rw [q1, List.take_succ, hx]
    simp)
  rw [List.take_length] at h2
  exact ⟨S', by rw [h1, h2], h3⟩
theorem blsO_map (l : List Bool) : blsO (l.map Val.bl) = some l := by
  induction l with
  | nil => rfl
  | cons b r ih => simp [blsO, ih]
theorem intsO_map (l : List Int) : intsO (l.map Val.int) = some l := by
  induction l with
  | nil => rfl
  | cons b r ih => simp [intsO, ih]
theorem intsO_eq : ∀ {vs : List Val} {ns : List Int}, intsO vs = some ns → vs = ns.map Val.int
  | [], ns, h => by cases h; rfl
  | .int i :: r, ns, h => by
    simp only [intsO, Option.map_eq_some_iff] at h
    obtain ⟨l, h1, rfl⟩ := h
    rw [intsO_eq h1]
    rfl
  | .non :: _, _, h | .bl _ :: _, _, h | .str _ :: _, _, h | .tup _ :: _, _, h | .ref _ :: _, _, h | .fl _ :: _, _, h => by simp [intsO] at h
@[simp] theorem lstO_ref {S : Store} {a : Nat} : lstO (.ref a) S = match sg S a with
    | some (.lst vs) => some vs
    | _ => none := rfl
theorem fAll_ref {S : Store} {a : Nat} {bs : List Bool} (h : sg S a = some (.lst (bs.map Val.bl))) : fAll [.ref a] S = .ok (.bl (bs.all id)) S := by
  unfold fAll one
  simp [h, blsO_map]
theorem pIn_ints {S : Store} {i : Int} {ns : List Int} : pIn (.int i) (.tup (ns.map Val.int)) S = .ok (.bl (decide (i ∈ ns))) S ∧ pNotIn (.int i) (.tup (ns.map Val.int)) S = .ok (.bl (!decide (i ∈ ns))) S := by
  have e : (ns.map Val.int).mapM flatL = some (ns.map L2.V.int) := by
    induction ns with
    | nil => rfl
    | cons a r ih => rw [List.map_cons, List.mapM_cons, ih]; rfl
  have e2 : L2.inV (.int i) (ns.map L2.V.int) = decide (i ∈ ns) := by
    unfold L2.inV
    induction ns with
    | nil => rfl
    | cons a r ih =>
      rw [List.map_cons, List.any_cons, ih (by
        have := e
        rw [List.map_cons, List.mapM_cons] at this
        cases q : (r.map Val.int).mapM flatL with
        | none => rw [q] at this; cases this
        | some z =>
          rw [q] at this
          cases this
          rfl)]
      show (decide (a = i) || decide (i ∈ r)) = _
      by_cases h : a = i
      · subst h; simp
      · have h' : ¬ i = a := fun z => h z.symm
        simp [h, h']
  have f : flatL (.int i) = some (.int i) := rfl
  have q : inF (.int i) (.tup (ns.map Val.int)) S = some (decide (i ∈ ns)) := by
    simp only [inF, f, e, e2]
  unfold pIn pNotIn
  rw [q]
  exact ⟨rfl, rfl⟩
theorem cutL_drop {xs : List Val} {d : Int} (h0 : 0 ≤ d) : cutL xs (some d) none = xs.drop d.toNat := by
  unfold cutL
  have e : HT.sIx xs.length 0 (some d) = min d.toNat xs.length := by
    unfold HT.sIx
    simp only []
    rw [if_neg (by omega)]
  have e2 : HT.sIx xs.length xs.length none = xs.length := rfl
  rw [e, e2, List.take_of_length_le (by simp)]
  by_cases h : d.toNat ≤ xs.length
  · rw [Nat.min_eq_left h]
  · rw [Nat.min_eq_right (by omega), List.drop_of_length_le (Nat.le_refl _), List.drop_of_length_le (by omega)]
end Mp

/-! Mp13: what is left behind is let go of: terms whose end keeps the old objects alone. -/
namespace Mp
open PySem PySem.Spec L2
mutual
/-- no object from the n-th on is named -/
def below (n : Nat) : Val → Bool
  | .non => true
  | .bl _ => true
  | .int _ => true
  | .str _ => true
  | .fl _ => true
  | .ref i => decide (i < n)
  | .tup vs => belows n vs
def belows (n : Nat) : List Val → Bool
  | [] => true
  | v :: vs => below n v && belows n vs
end
def obBelow (n : Nat) : Ob → Bool
  | .lst xs => belows n xs
  | .dK kvs => belows n (kvs.map (·.2))
  | .dT kvs => belows n (kvs.map (·.2))
  | .ins _ fs => belows n (fs.map (·.2))
def cut (n : Nat) (S : Store) : Store := S.take n
/-- the old objects: the same, or naming old ones alone -/
def GcOk (S S' : Store) : Prop := sl S ≤ sl S' ∧ ∀ i, i < sl S → sg S' i = sg S i ∨ ∃ o, sg S' i = some o ∧ obBelow (sl S) o = true
def gcM (n : Nat) (v : Val) (S' : Store) : R Val := match v with
  | .ref k => match sg S' k with
    | some o => bite (obBelow n o) (.ok (.ref n) (sp (cut n S') o)) .bad
    | none => .bad
  | _ => .bad
def gcV (n : Nat) (v : Val) (S' : Store) : R Val := bite (below n v) (.ok v (cut n S')) (gcM n v S')
noncomputable def gcR (S : Store) (r : R Val) : R Val := match r with
  | .ok v S' => gate (GcOk S S') (gcV (sl S) v S') .bad
  | .exn e S' => gate (GcOk S S') (bite (belows (sl S) (e.fs.map (·.2))) (.exn e (cut (sl S) S')) .bad) .bad
  | .bad => .bad
def killO (n : Nat) : Option Val → Option Val
  | none => none
  | some v => bite (below n v) (some v) none
def killL (n : Nat) (L : Loc) : Loc := L.map (killO n)
noncomputable def gcS (S : Store) (r : F) : F := match r with
  | .nx L S' => gate (GcOk S S') (.nx (killL (sl S) L) (cut (sl S) S')) .bad
  | .bk L S' => gate (GcOk S S') (.bk (killL (sl S) L) (cut (sl S) S')) .bad
  | .ct L S' => gate (GcOk S S') (.ct (killL (sl S) L) (cut (sl S) S')) .bad
  | r => r
noncomputable def fG (f : Fn) : Fn := fun vs S => gcR S (f vs S)
noncomputable def mG (e : ME) : ME := fun L S => gcR S (e L S)
noncomputable def sG (b : MS) : MS := fun L S => gcS S (b L S)
theorem fG_len {f : Fn} {np : Nat} (h : ∀ vs S, vs.length ≠ np → f vs S = .bad) : ∀ vs S, vs.length ≠ np → fG f vs S = .bad := fun vs S z => by
  unfold fG
  rw [h vs S z]
  rfl
section
variable {K : PySem.W.Frag} {mg : Str → Option Value} {W : WX} {ρ ρ' : Rho} {n m n' : Nat} {H : Hp} {S S' : Store}
mutual
theorem VR.low : ∀ {v : Val} {u : V}, VR K ρ n H v u → below n v = true
  | .non, _, _ => rfl
  | .bl _, _, _ => rfl
  | .int _, _, _ => rfl
  | .str _, _, _ => rfl
  | .fl _, _, _ => rfl
  | .ref i, u, h => by
    simp only [VR] at h
    simpa [below] using h.1
  | .tup vs, u, h => by
    simp only [VR] at h
    obtain ⟨a, xs, _, _, r⟩ := h
    show belows n vs = true
    exact VRs.low r
theorem VRs.low : ∀ {vs : List Val} {us : List V}, VRs K ρ n H vs us → belows n vs = true
  | [], _, _ => rfl
  | v :: vs, us, h => by
    simp only [VRs] at h
    obtain ⟨u, r, _, h1, h2⟩ := h
    show (below n v && belows n vs) = true
    rw [VR.low h1, VRs.low h2]
    rfl
end
mutual
theorem VR.lower (hr : ∀ i, i < n → ρ' i = ρ i) (hn : n ≤ n') : ∀ {v : Val} {u : V}, VR K ρ m H v u → below n v = true → VR K ρ' n' H v u
  | .non, _, h, _ => by simpa [VR] using h
  | .bl _, _, h, _ => by simpa [VR] using h
  | .int _, _, h, _ => by simpa [VR] using h
  | .str _, _, h, _ => by simpa [VR] using h
  | .fl _, _, h, _ => by simpa [VR] using h
  | .ref i, u, h, b => by
    simp only [VR] at h ⊢
    have b' : i < n := by simpa [below] using b
    exact ⟨Nat.lt_of_lt_of_le b' hn, by rw [hr i b']; exact h.2⟩
  | .tup vs, u, h, b => by
    simp only [VR] at h ⊢
    obtain ⟨a, xs, e, q, r⟩ := h
    exact ⟨a, xs, e, q, VRs.lower hr hn r b⟩
theorem VRs.lower (hr : ∀ i, i < n → ρ' i = ρ i) (hn : n ≤ n') : ∀ {vs : List Val} {us : List V}, VRs K ρ m H vs us → belows n vs = true → VRs K ρ' n' H vs us
  | [], _, h, _ => by simpa [VRs] using h
  | v :: vs, us, h, b => by
    simp only [VRs] at h ⊢
    obtain ⟨u, r, e, h1, h2⟩ := h
    have b' : (below n v && belows n vs) = true := b
    rw [Bool.and_eq_true] at b'
    exact ⟨u, r, e, VR.lower hr hn h1 b'.1, VRs.lower hr hn h2 b'.2⟩
end
theorem OR.low {a : Addr} {o : Ob} (h : OR K mg ρ n H a o) : obBelow n o = true := by
  cases o with
  | lst xs => obtain ⟨us, _, r⟩ := h; exact VRs.low r
  | dK kvs => obtain ⟨us, _, r⟩ := h; exact VRs.low r.2
  | dT kvs => obtain ⟨us, _, r⟩ := h; exact VRs.low r.2
  | ins c fs => obtain ⟨C, dx, us, _, _, r⟩ := h; exact VRs.low r.2
theorem OR.lower (hr : ∀ i, i < n → ρ' i = ρ i) (hn : n ≤ n') {a : Addr} {o : Ob} (h : OR K mg ρ m H a o) (b : obBelow n o = true) : OR K mg ρ' n' H a o := by
  cases o with
  | lst xs => obtain ⟨us, e, r⟩ := h; exact ⟨us, e, VRs.lower hr hn r b⟩
  | dK kvs => obtain ⟨us, e, r⟩ := h; exact ⟨us, e, r.1, VRs.lower hr hn r.2 b⟩
  | dT kvs => obtain ⟨us, e, r⟩ := h; exact ⟨us, e, r.1, VRs.lower hr hn r.2 b⟩
  | ins c fs => obtain ⟨C, dx, us, q, e, r⟩ := h; exact ⟨C, dx, us, q, e, r.1, VRs.lower hr hn r.2 b⟩
theorem cut_len (h : sl S ≤ sl S') : (cut (sl S) S').length = S.length := by
  unfold cut sl at *
  rw [List.length_take]
  omega
theorem cut_get {i : Nat} (h : i < sl S) : (cut (sl S) S')[i]? = S'[i]? := by
  unfold cut
  rw [List.getElem?_take]
  simp [h]
/-- the old objects alone -/
theorem SR.cut (s : SR K mg ρ S H) {H' : Hp} (s' : SR K mg ρ' S' H') (g : GcOk S S') : SR K mg ρ' (cut (sl S) S') H' where
  ob := fun i o q => by
    have hl := cut_len g.1
    have hi : i < sl S := by
      have := (List.getElem?_eq_some_iff.mp q).1
      rw [hl] at this
      exact this
    rw [cut_get hi] at q
    have z := s'.ob i o q
    rw [hl]
    refine OR.lower (fun _ _ => rfl) (Nat.le_refl _) z ?_
    rcases g.2 i hi with e | ⟨o', e, b⟩
    · have e' : S'[i]? = S[i]? := e
      rw [e'] at q
      exact (s.ob i o q).low
    · have e' : S'[i]? = some o' := e
      rw [e'] at q
      cases q
      exact b
  inj := fun i j hi hj z => by
    rw [cut_len g.1] at hi hj
    have hl : S.length ≤ S'.length := g.1
    exact s'.inj i j (by omega) (by omega) z
theorem Ext.cut {H' : Hp} (e : Ext ρ S H ρ' S' H') (g : GcOk S S') : Ext ρ S H ρ' (cut (sl S) S') H' where
  rho := e.rho
  le := by rw [cut_len g.1]; exact Nat.le_refl _
  fresh := fun i h1 h2 => by rw [cut_len g.1] at h2; omega
  frame := e.frame
theorem Post.gc {σ : L2.St} {r : R Val} {Q : VK} (s : SR K mg ρ S H) (h : Post K mg (relV K) W ρ S H σ (gcR S r) Q) : Post K mg (relV K) W ρ S H σ r Q := by
  cases r with
  | bad => exact h
  | exn x S' =>
    intro ρ' H' c d e s' q
    have h : Post K mg (relV K) W ρ S H σ (gate (GcOk S S') (bite (belows (sl S) (x.fs.map (·.2))) (R.exn x (Mp.cut (sl S) S')) .bad) .bad) Q := h
    by_cases g : GcOk S S'
    · rw [gate_pos g] at h
      cases hb : belows (sl S) (x.fs.map (·.2)) with
      | false => rw [hb] at h; exact h.elim
      | true =>
        rw [hb] at h
        refine h ρ' H' c d (e.cut g) (s.cut s' g) ⟨q.1, fun z => ?_⟩
        obtain ⟨dd, us, e1, e2, e3⟩ := q.2 z
        rw [cut_len g.1]
        exact ⟨dd, us, e1, e2, e3.1, VRs.lower (n := sl S) (fun _ _ => rfl) (Nat.le_refl _) e3.2 hb⟩
    · rw [gate_neg g] at h
      exact h.elim
  | ok v S' =>
    intro ρ' H' u e s' q
    have h : Post K mg (relV K) W ρ S H σ (gate (GcOk S S') (gcV (sl S) v S') .bad) Q := h
    by_cases g : GcOk S S'
    · rw [gate_pos g] at h
      unfold gcV at h
      cases hb : below (sl S) v with
      | true =>
        rw [hb] at h
        refine h ρ' H' u (e.cut g) (s.cut s' g) ?_
        show VR K ρ' (Mp.cut (sl S) S').length H' v u
        rw [cut_len g.1]
        exact VR.lower (n := sl S) (fun _ _ => rfl) (Nat.le_refl _) q hb
      | false =>
        rw [hb, bite_false] at h
        cases v with
        | ref k =>
          unfold gcM at h
          dsimp only at h
          cases ho : sg S' k with
          | none => rw [ho] at h; exact h.elim
          | some o =>
            rw [ho] at h
            dsimp only at h
            cases hb2 : obBelow (sl S) o with
            | false => rw [hb2] at h; exact h.elim
            | true =>
              rw [hb2, bite_true] at h
              have hk : sl S ≤ k := by
                have : ¬ k < sl S := by simpa [below] using hb
                omega
              have hk2 : k < S'.length := sg_lt ho
              have hl := cut_len g.1
              have hl2 : (sp (Mp.cut (sl S) S') o).length = S.length + 1 := by
                unfold sp
                rw [List.length_append, hl]
                rfl
              have hsl : sl S = S.length := rfl
              have ro : ∀ i, i < S.length → newRho ρ' S.length (ρ' k) i = ρ' i := fun i hi => newRho_ne (Nat.ne_of_lt hi)
              have q' : VR K ρ' S'.length H' (.ref k) u := q
              simp only [VR] at q'
              refine h (newRho ρ' S.length (ρ' k)) H' u ⟨fun i hi => (ro i hi).trans (e.rho i hi), by rw [hl2]; omega, fun i h1 h2 => ?_, e.frame⟩ ⟨fun i o' qo => ?_, fun i j hi hj z => ?_⟩ ?_
              · rw [hl2] at h2
                have : i = S.length := by omega
                subst this
                rw [newRho_same]
                exact e.fresh k hk hk2
              · rw [hl2]
                by_cases hi : i < S.length
                · have qo' : (Mp.cut (sl S) S')[i]? = some o' := by
                    unfold sp at qo
                    rw [List.getElem?_append_left (by rw [hl]; exact hi)] at qo
                    exact qo
                  have z := (s.cut s' g).ob i o' qo'
                  rw [hl] at z
                  rw [ro i hi]
                  exact OR.lower ro (Nat.le_succ _) z z.low
                · have hi2 := (List.getElem?_eq_some_iff.mp qo).1
                  rw [hl2] at hi2
                  have : i = S.length := by omega
                  subst this
                  have : o' = o := by
                    unfold sp at qo
                    rw [List.getElem?_append_right (by rw [hl]; exact Nat.le_refl _), hl] at qo
                    simpa using qo.symm
                  subst this
                  rw [newRho_same]
                  exact OR.lower ro (Nat.le_succ _) (s'.ob k o' ho) hb2
              · rw [hl2] at hi hj
                have hle : S.length ≤ S'.length := g.1
                by_cases h1 : i = S.length
                · by_cases h2 : j = S.length
                  · rw [h1, h2]
                  · rw [h1, newRho_same, newRho_ne h2] at z
                    have := s'.inj k j hk2 (by omega) z
                    omega
                · by_cases h2 : j = S.length
                  · rw [h2, newRho_same, newRho_ne h1] at z
                    have := s'.inj i k (by omega) hk2 z
                    omega
                  · rw [newRho_ne h1, newRho_ne h2] at z
                    exact s'.inj i j (by omega) (by omega) z
              · show VR K (newRho ρ' S.length (ρ' k)) (sp (Mp.cut (sl S) S') o).length H' (.ref (sl S)) u
                simp only [VR]
                rw [hl2, hsl, newRho_same]
                exact ⟨Nat.lt_succ_self _, q'.2⟩
        | _ => exact h.elim
    · rw [gate_neg g] at h
      exact h.elim
theorem LR.kill {L : Loc} {σ : L2.St} (l : LR K ρ m H L σ) : LR K ρ n H (killL n L) σ := ⟨by unfold killL; rw [List.length_map]; exact l.1, fun i v q => by
  unfold killL at q
  rw [List.getElem?_map] at q
  cases hx : L[i]? with
  | none => rw [hx] at q; cases q
  | some x =>
    rw [hx] at q
    cases x with
    | none => cases q
    | some w =>
      simp only [Option.map_some, killO] at q
      cases hb : below n w with
      | false => rw [hb] at q; cases q
      | true =>
        rw [hb] at q
        cases q
        obtain ⟨u, e1, e2⟩ := l.2 i v hx
        exact ⟨u, e1, VR.lower (n := n) (fun _ _ => rfl) (Nat.le_refl _) e2 hb⟩⟩
theorem PostF.gc {r : F} {D : Ends} (s : SR K mg ρ S H) (h : PostF K mg W ρ S H (gcS S r) D) : PostF K mg W ρ S H r D := by
  cases r with
  | bad => exact h
  | exn x L S' => exact h
  | rt v S' => exact h
  | nx L S' =>
    have h : PostF K mg W ρ S H (gate (GcOk S S') (F.nx (killL (sl S) L) (Mp.cut (sl S) S')) .bad) D := h
    by_cases g : GcOk S S'
    · rw [gate_pos g] at h
      exact fun ρ' H' σ' e s' l => h ρ' H' σ' (e.cut g) (s.cut s' g) (by rw [cut_len g.1]; exact l.kill)
    · rw [gate_neg g] at h
      exact h.elim
  | bk L S' =>
    have h : PostF K mg W ρ S H (gate (GcOk S S') (F.bk (killL (sl S) L) (Mp.cut (sl S) S')) .bad) D := h
    by_cases g : GcOk S S'
    · rw [gate_pos g] at h
      exact fun ρ' H' σ' e s' l => h ρ' H' σ' (e.cut g) (s.cut s' g) (by rw [cut_len g.1]; exact l.kill)
    · rw [gate_neg g] at h
      exact h.elim
  | ct L S' =>
    have h : PostF K mg W ρ S H (gate (GcOk S S') (F.ct (killL (sl S) L) (Mp.cut (sl S) S')) .bad) D := h
    by_cases g : GcOk S S'
    · rw [gate_pos g] at h
      exact fun ρ' H' σ' e s' l => h ρ' H' σ' (e.cut g) (s.cut s' g) (by rw [cut_len g.1]; exact l.kill)
    · rw [gate_neg g] at h
      exact h.elim
end
section
variable {X : Cx} {W : WX} {e : Expr} {m : ME} {b : MS} {ss : List Stmt}
theorem e_G (h : PEm X W e m) : PEm X W e (mG m) := PE.imp h fun σ H Q ⟨ρ, S, L, s, l, h⟩ => ⟨ρ, S, L, s, l, h.gc s⟩
theorem s_G (h : PSsm X W ss b) : PSsm X W ss (sG b) := PSs.imp h fun D σ H ⟨ρ, S, L, s, l, h⟩ => ⟨ρ, S, L, s, l, h.gc s⟩
theorem fn_G {P : Program} {w : World} {K : PySem.W.Frag} {mg : Str → Option Value} {base : Heap} {CX : CXT} {k : Nat} {fa : Addr} {fd : FuncData} {ps : List Str} {np : Nat} {f : Fn} (F : FnOk P w K mg base CX k fa fd ps (spM K mg np f)) :
    FnOk P w K mg base CX k fa fd ps (spM K mg np (fG f)) := F.imp fun vs H Q E ⟨ρ, S, xs, hl, s, v, h⟩ => ⟨ρ, S, xs, hl, s, v, h.gc s⟩
end
/-! ### for simp -/
section
variable {S S' : Store} {n i k : Nat} {o : Ob}
section
variable {n : Nat}
@[simp] theorem below_non : below n .non = true := by unfold below; rfl
@[simp] theorem below_bl (b : Bool) : below n (.bl b) = true := by unfold below; rfl
@[simp] theorem below_int (b : Int) : below n (.int b) = true := by unfold below; rfl
@[simp] theorem below_str (b : Str) : below n (.str b) = true := by unfold below; rfl
@[simp] theorem below_fl (b : List Int) : below n (.fl b) = true := by unfold below; rfl
@[simp] theorem below_ref (i : Nat) : below n (.ref i) = decide (i < n) := by unfold below; rfl
@[simp] theorem below_tup (vs : List Val) : below n (.tup vs) = belows n vs := by conv => lhs; unfold below
@[simp] theorem belows_nil : belows n [] = true := by unfold belows; rfl
@[simp] theorem belows_cons (v : Val) (vs : List Val) : belows n (v :: vs) = (below n v && belows n vs) := by conv => lhs; unfold belows
@[simp] theorem obBelow_lst (vs : List Val) : obBelow n (.lst vs) = belows n vs := by unfold obBelow; rfl
@[simp] theorem obBelow_dK (kvs : List (Key × Val)) : obBelow n (.dK kvs) = belows n (kvs.map (·.2)) := by unfold obBelow; rfl
@[simp] theorem obBelow_dT (kvs : List (List Key × Val)) : obBelow n (.dT kvs) = belows n (kvs.map (·.2)) := by unfold obBelow; rfl
@[simp] theorem obBelow_ins (c : Str) (fs : List (Str × Val)) : obBelow n (.ins c fs) = belows n (fs.map (·.2)) := by unfold obBelow; rfl
end
@[simp] theorem lt_add_self : decide (n + k < n) = false := by simp
theorem below_le {m : Nat} (h : n ≤ m) : ∀ (v : Val), below n v = true → below m v = true
  | .non, _ => by simp
  | .bl _, _ => by simp
  | .int _, _ => by simp
  | .str _, _ => by simp
  | .fl _, _ => by simp
  | .ref i, q => by simp at q ⊢; omega
  | .tup vs, q => by
    rw [below_tup] at q ⊢
    exact belows_le h vs q
where belows_le {m : Nat} (h : n ≤ m) : ∀ (vs : List Val), belows n vs = true → belows m vs = true
  | [], _ => by simp
  | v :: vs, q => by
    rw [belows_cons, Bool.and_eq_true] at q ⊢
    exact ⟨below_le h v q.1, belows_le h vs q.2⟩
theorem belows_all (vs : List Val) : belows n vs = vs.all (below n) := by
  induction vs with
  | nil => rfl
  | cons v r ih => show (below n v && belows n r) = _; rw [ih]; rfl
theorem belows_map {α : Type} (f : α → Val) (l : List α) (h : ∀ a, a ∈ l → below n (f a) = true) : belows n (l.map f) = true := by
  rw [belows_all, List.all_map]
  exact List.all_eq_true.mpr h
@[simp] theorem belows_mapS {α : Type} (f : α → Val) (l : List α) (h : ∀ a, below n (f a) = true) : belows n (l.map f) = true := belows_map f l fun a _ => h a
@[simp] theorem belows_ints (l : List Int) : belows n (l.map Val.int) = true := belows_map _ _ fun _ _ => rfl
@[simp] theorem belows_append (a b : List Val) : belows n (a ++ b) = (belows n a && belows n b) := by rw [belows_all, belows_all, belows_all, List.all_append]
theorem belows_sub {a b : List Val} (h : belows n b = true) (s : ∀ x, x ∈ a → x ∈ b) : belows n a = true := by
  rw [belows_all, List.all_eq_true] at h ⊢
  exact fun x hx => h x (s x hx)
@[simp] theorem belows_take {vs : List Val} (h : belows n vs = true) : belows n (vs.take k) = true := belows_sub h fun _ hx => List.mem_of_mem_take hx
@[simp] theorem belows_drop {vs : List Val} (h : belows n vs = true) : belows n (vs.drop k) = true := belows_sub h fun _ hx => List.mem_of_mem_drop hx
@[simp] theorem belows_rev {vs : List Val} (h : belows n vs = true) : belows n vs.reverse = true := belows_sub h fun _ hx => List.mem_reverse.mp hx
@[simp] theorem belows_set {vs : List Val} {v : Val} (h : belows n vs = true) (hv : below n v = true) : belows n (vs.set k v) = true := by
  rw [belows_all, List.all_eq_true] at h ⊢
  intro x hx
  rcases List.mem_or_eq_of_mem_set hx with q | q
  · exact h x q
  · rw [q]; exact hv
@[simp] theorem belows_rep {v : Val} (hv : below n v = true) : belows n (List.replicate k v) = true := by
  rw [belows_all, List.all_eq_true]
  intro x hx
  rw [List.eq_of_mem_replicate hx]
  exact hv
@[simp] theorem gcOk_refl : GcOk S S := ⟨Nat.le_refl _, fun _ _ => .inl rfl⟩
@[simp] theorem gcOk_sp (h : GcOk S S') : GcOk S (sp S' o) := ⟨by have := h.1; simp; omega, fun i hi => by rw [sg_sp_lt (Nat.lt_of_lt_of_le hi h.1)]; exact h.2 i hi⟩
@[simp] theorem gcOk_ss (h : GcOk S S') (b : obBelow (sl S) o = true) : GcOk S (ss S' i o) := ⟨by rw [sl_ss]; exact h.1, fun j hj => by
  by_cases e : j = i
  · subst e
    right
    refine ⟨o, sg_ss_same ?_, b⟩
    have : j < S'.length := Nat.lt_of_lt_of_le hj h.1
    unfold sg
    simp [this]
  · rw [sg_ss_ne e]; exact h.2 j hj⟩
@[simp] theorem gcOk_ss_new (h : GcOk S S') (b : sl S ≤ i) : GcOk S (ss S' i o) := ⟨by rw [sl_ss]; exact h.1, fun j hj => by rw [sg_ss_ne (by omega)]; exact h.2 j hj⟩
@[simp] theorem gcOk_sp_sp {u : Ob} (b : obBelow (sl S + 1) o = true) : GcOk (sp S u) (sp S o) := ⟨by simp, fun i hi => by
  rw [sl_sp] at hi
  by_cases e : i = sl S
  · subst e
    exact .inr ⟨o, sg_sp_new, by rw [sl_sp]; exact b⟩
  · exact .inl (by rw [sg_sp_lt (by omega), sg_sp_lt (by omega)])⟩
def obIn (o : Option Ob) (n : Nat) : Bool := match o with
  | some o => obBelow n o
  | none => false
@[simp] theorem obIn_some (o : Ob) : obIn (some o) n = obBelow n o := by unfold obIn; rfl
@[simp] theorem gcOk_base {u : Ob} (h : GcOk S S') (b : obIn (sg S' i) (sl S) = true) : GcOk (ss S i u) S' := ⟨by rw [sl_ss]; exact h.1, fun j hj => by
  rw [sl_ss] at hj ⊢
  by_cases e : j = i
  · subst e
    cases q : sg S' j with
    | none => rw [q] at b; cases b
    | some o => rw [q] at b; exact .inr ⟨o, rfl, b⟩
  · rw [sg_ss_ne e]; exact h.2 j hj⟩
theorem gcOk_grow (g : Grow S S') : GcOk S S' := ⟨g.1, fun i hi => .inl (g.2 i hi)⟩
@[simp] theorem cut_self : cut (sl S) S = S := List.take_length
@[simp] theorem cut_ge (h : sl S ≤ n) : cut n S = S := List.take_of_length_le h
@[simp] theorem cut_sp (h : n ≤ sl S') : cut n (sp S' o) = cut n S' := List.take_append_of_le_length h
@[simp] theorem cut_ss (h : i < n) : cut n (ss S' i o) = ss (cut n S') i o := List.take_set
@[simp] theorem cut_ss_new (h : n ≤ i) : cut n (ss S' i o) = cut n S' := by
  unfold cut ss
  rw [List.take_set, List.set_eq_of_length_le]
  rw [List.length_take]
  omega
theorem cut_grow (g : Grow S S') : cut (sl S) S' = S := by
  apply List.ext_getElem?
  intro i
  by_cases hi : i < sl S
  · rw [cut_get hi]; exact g.2 i hi
  · have h1 : (cut (sl S) S').length ≤ i := by rw [cut_len g.1]; unfold sl at hi; omega
    have h2 : S.length ≤ i := by unfold sl at hi; omega
    rw [List.getElem?_eq_none h1, List.getElem?_eq_none h2]
@[simp] theorem gcR_ok (v : Val) : gcR S (.ok v S') = gate (GcOk S S') (gcV (sl S) v S') .bad := rfl
@[simp] theorem gcR_exn (e : Ex) : gcR S (.exn e S') = gate (GcOk S S') (bite (belows (sl S) (e.fs.map (·.2))) (.exn e (cut (sl S) S')) .bad) .bad := rfl
@[simp] theorem gcR_bad : gcR S .bad = .bad := rfl
@[simp] theorem gate_simp {p : Prop} {α : Type} {x y : α} (h : p) : gate p x y = x := gate_pos h
@[simp] theorem gcV_low {v : Val} (h : below n v = true) : gcV n v S' = .ok v (cut n S') := by unfold gcV; rw [h]; rfl
def gcMR (o : Option Ob) (n : Nat) (S' : Store) : R Val := match o with
  | some o => bite (obBelow n o) (.ok (.ref n) (sp (cut n S') o)) .bad
  | none => .bad
@[simp] theorem gcMR_some (o : Ob) : gcMR (some o) n S' = bite (obBelow n o) (.ok (.ref n) (sp (cut n S') o)) .bad := rfl
@[simp] theorem gcV_ref (h : n ≤ k) : gcV n (.ref k) S' = gcMR (sg S' k) n S' := by
  unfold gcV
  have : below n (.ref k) = false := by simp [below]; omega
  rw [this]
  rfl
@[simp] theorem fG_app (f : Fn) (vs : List Val) : fG f vs S = gcR S (f vs S) := rfl
@[simp] theorem mG_app (e : ME) (L : Loc) : mG e L S = gcR S (e L S) := rfl
@[simp] theorem sG_app (b : MS) (L : Loc) : sG b L S = gcS S (b L S) := rfl
@[simp] theorem gcS_nx (L : Loc) : gcS S (.nx L S') = gate (GcOk S S') (.nx (killL (sl S) L) (cut (sl S) S')) .bad := rfl
@[simp] theorem gcS_bk (L : Loc) : gcS S (.bk L S') = gate (GcOk S S') (.bk (killL (sl S) L) (cut (sl S) S')) .bad := rfl
@[simp] theorem gcS_ct (L : Loc) : gcS S (.ct L S') = gate (GcOk S S') (.ct (killL (sl S) L) (cut (sl S) S')) .bad := rfl
@[simp] theorem gcS_rt (v : Val) : gcS S (.rt v S') = .rt v S' := rfl
@[simp] theorem gcS_exn (e : Ex) (L : Loc) : gcS S (.exn e L S') = .exn e L S' := rfl
@[simp] theorem gcS_bad : gcS S .bad = .bad := rfl
@[simp] theorem killL_nil : killL n [] = [] := rfl
@[simp] theorem killL_cons (x : Option Val) (L : Loc) : killL n (x :: L) = killO n x :: killL n L := rfl
@[simp] theorem killO_none : killO n none = none := rfl
@[simp] theorem killO_some (v : Val) : killO n (some v) = bite (below n v) (some v) none := rfl
/-- a term whose end is known to grow alone, and tells no object of its own -/
theorem gcR_grow {r : R Val} {v : Val} (h : ∃ S', r = .ok v S' ∧ Grow S S') (b : below (sl S) v = true) : gcR S r = .ok v S := by
  obtain ⟨S', rfl, g⟩ := h
  rw [gcR_ok, gate_pos (gcOk_grow g), gcV_low b, cut_grow g]
end
end Mp

/-! Mp14: loops over drawn-up lists, as folds; names let go of. -/
namespace Mp
open PySem PySem.Spec L2
def kF (ks : List Nat) (r : F) : F := match r with
  | .nx L S => .nx (wipeL L ks) S
  | .bk L S => .bk (wipeL L ks) S
  | .ct L S => .ct (wipeL L ks) S
  | r => r
/-- behind the suite, these names are let go of -/
def sK (ks : List Nat) (b : MS) : MS := fun L S => kF ks (b L S)
theorem wipeL_len (L : Loc) : ∀ ks : List Nat, (wipeL L ks).length = L.length
  | [] => rfl
  | k :: r => by
    show ((wipeL L r).set k none).length = _
    rw [List.length_set, wipeL_len L r]
theorem wipeL_some (L : Loc) : ∀ (ks : List Nat) (i : Nat) (v : Val), (wipeL L ks)[i]? = some (some v) → L[i]? = some (some v)
  | [], _, _, h => h
  | k :: r, i, v, h => by
    have h : ((wipeL L r).set k none)[i]? = some (some v) := h
    rw [List.getElem?_set] at h
    split at h
    · split at h <;> cases h
    · exact wipeL_some L r i v h
section
variable {K : PySem.W.Frag} {mg : Str → Option Value} {W : WX} {ρ : Rho} {n : Nat} {H : Hp} {S : Store}
theorem LR.kills {L : Loc} {σ : L2.St} {ks : List Nat} (l : LR K ρ n H L σ) : LR K ρ n H (wipeL L ks) σ := ⟨(wipeL_len L ks).trans l.1, fun i v q => l.2 i v (wipeL_some L ks i v q)⟩
theorem PostF.kill {r : F} {D : Ends} {ks : List Nat} (h : PostF K mg W ρ S H (kF ks r) D) : PostF K mg W ρ S H r D := by
  cases r with
  | nx L S' => exact fun ρ' H' σ' e s' l => h ρ' H' σ' e s' l.kills
  | bk L S' => exact fun ρ' H' σ' e s' l => h ρ' H' σ' e s' l.kills
  | ct L S' => exact fun ρ' H' σ' e s' l => h ρ' H' σ' e s' l.kills
  | _ => exact h
end
theorem s_K {X : Cx} {W : WX} {b : MS} {ss : List Stmt} {ks : List Nat} (h : PSsm X W ss b) : PSsm X W ss (sK ks b) := PSs.imp h fun D σ H ⟨ρ, S, L, s, l, h⟩ => ⟨ρ, S, L, s, l, h.kill⟩
section
variable {S : Store} {L : Loc}
@[simp] theorem sK_app (ks : List Nat) (b : MS) : sK ks b L S = kF ks (b L S) := rfl
@[simp] theorem kF_nx (ks : List Nat) : kF ks (.nx L S) = .nx (wipeL L ks) S := rfl
@[simp] theorem kF_bk (ks : List Nat) : kF ks (.bk L S) = .bk (wipeL L ks) S := rfl
@[simp] theorem kF_ct (ks : List Nat) : kF ks (.ct L S) = .ct (wipeL L ks) S := rfl
@[simp] theorem kF_rt (ks : List Nat) (v : Val) : kF ks (.rt v S) = .rt v S := rfl
@[simp] theorem kF_exn (ks : List Nat) (e : Ex) : kF ks (.exn e L S) = .exn e L S := rfl
@[simp] theorem kF_bad (ks : List Nat) : kF ks .bad = .bad := rfl
@[simp] theorem wipeL_nil : wipeL L [] = L := rfl
@[simp] theorem wipeL_cons (k : Nat) (r : List Nat) : wipeL L (k :: r) = (wipeL L r).set k none := rfl
end
/-! ### comprehensions -/
section
variable {α : Type} {keep : Store → Prop} {L : Loc} {g : MG} {c : MT} {e : ME} {S : Store}
/-- what one item comes to -/
def lcOne (L : Loc) (g : MG) (c : MT) (e : ME) (x : Val) (S : Store) : R (Option Val) := (noExn (g x L S)).bind fun L1 S1 => (noExn (c L1 S1)).bind fun t S2 => bite t ((noExn (e L1 S2)).bind fun v S3 => .ok (some v) S3) (.ok none S2)
theorem lcLoop_cons (x : Val) (xs acc : List Val) (S : Store) : lcLoop keep L g c e (x :: xs) acc S = gate (keep S) ((lcOne L g c e x S).bind fun o S1 => match o with
    | some v => bite (decide (acc.length < LIM)) (lcLoop keep L g c e xs (acc ++ [v]) S1) .bad
    | none => lcLoop keep L g c e xs acc S1) .bad := by
  conv => lhs; unfold lcLoop
  unfold lcOne
  congr 1
  cases noExn (g x L S) with
  | ok L1 S1 =>
    rw [R.bind_ok, R.bind_ok]
    cases noExn (c L1 S1) with
    | ok t S2 =>
      rw [R.bind_ok, R.bind_ok]
      cases t with
      | true =>
        rw [bite_true, bite_true]
        cases noExn (e L1 S2) <;> rfl
      | false => rfl
    | _ => rfl
  | _ => rfl
/-- each item comes to what f tells, nothing else being changed -/
theorem lc_fm (rep : α → Val) (f : α → Option Val) (l : List α) (hk : keep S) (hz : l.length < LIM) (h : ∀ a, a ∈ l → lcOne L g c e (rep a) S = .ok (f a) S) : lcLoop keep L g c e (l.map rep) [] S = .ok (l.filterMap f) S := by
  have key : ∀ (l : List α) (acc : List Val), acc.length + l.length < LIM → (∀ a, a ∈ l → lcOne L g c e (rep a) S = .ok (f a) S) → lcLoop keep L g c e (l.map rep) acc S = .ok (acc ++ l.filterMap f) S := by
    intro l
    induction l with
    | nil => intro acc _ _; rw [List.map_nil]; unfold lcLoop; rw [gate_pos hk]; simp
    | cons a r ih =>
      intro acc hz h
      rw [List.length_cons] at hz
      rw [List.map_cons, lcLoop_cons, gate_pos hk, h a (by simp), R.bind_ok]
      have hr := fun b hb => h b (List.mem_cons_of_mem _ hb)
      cases hf : f a with
      | none =>
        dsimp only
        rw [ih acc (by omega) hr, List.filterMap_cons_none hf]
      | some v =>
        dsimp only
        rw [bite_pos (decide_eq_true (by omega)), ih (acc ++ [v]) (by rw [List.length_append]; simp only [List.length_cons, List.length_nil]; omega) hr, List.filterMap_cons_some hf]
        simp
  have := key l [] (by simpa using hz) h
  simpa using this
theorem lc_map (rep : α → Val) (f : α → Val) (l : List α) (hk : keep S) (hz : l.length < LIM) (h : ∀ a, a ∈ l → lcOne L g c e (rep a) S = .ok (some (f a)) S) : lcLoop keep L g c e (l.map rep) [] S = .ok (l.map f) S := by
  rw [lc_fm rep (fun a => some (f a)) l hk hz h]
  congr 1
  induction l with
  | nil => rfl
  | cons a r ih => simp
theorem lc_if (rep : α → Val) (p : α → Bool) (f : α → Val) (l : List α) (hk : keep S) (hz : l.length < LIM) (h : ∀ a, a ∈ l → lcOne L g c e (rep a) S = .ok (bif p a then some (f a) else none) S) : lcLoop keep L g c e (l.map rep) [] S = .ok ((l.filter p).map f) S := by
  rw [lc_fm rep _ l hk hz h]
  congr 1
  clear h hz
  induction l with
  | nil => rfl
  | cons a r ih =>
    cases hp : p a with
    | true => rw [List.filterMap_cons_some (by rw [hp]; rfl), ih, List.filter_cons_of_pos hp]; rfl
    | false => rw [List.filterMap_cons_none (by rw [hp]; rfl), ih, List.filter_cons_of_neg (by simp [hp])]
theorem lc_map' {xs : List Val} (rep : α → Val) (f : α → Val) (l : List α) (hx : xs = l.map rep) (hk : keep S) (hz : l.length < LIM) (h : ∀ a, a ∈ l → lcOne L g c e (rep a) S = .ok (some (f a)) S) : lcLoop keep L g c e xs [] S = .ok (l.map f) S := by
  rw [hx]; exact lc_map rep f l hk hz h
theorem lc_if' {xs : List Val} (rep : α → Val) (p : α → Bool) (f : α → Val) (l : List α) (hx : xs = l.map rep) (hk : keep S) (hz : l.length < LIM) (h : ∀ a, a ∈ l → lcOne L g c e (rep a) S = .ok (bif p a then some (f a) else none) S) : lcLoop keep L g c e xs [] S = .ok ((l.filter p).map f) S := by
  rw [hx]; exact lc_if rep p f l hk hz h
/-- the items as they are -/
theorem lc_vals {xs : List Val} (f : Val → Val) (hk : keep S) (hz : xs.length < LIM) (h : ∀ a, a ∈ xs → lcOne L g c e a S = .ok (some (f a)) S) : lcLoop keep L g c e xs [] S = .ok (xs.map f) S :=
  lc_map' id f xs (by simp) hk hz h
@[simp] theorem lcOne_app (x : Val) : lcOne L g c e x S = (noExn (g x L S)).bind fun L1 S1 => (noExn (c L1 S1)).bind fun t S2 => bite t ((noExn (e L1 S2)).bind fun v S3 => .ok (some v) S3) (.ok none S2) := rfl
end
/-! ### for -/
def loopF {α σ τ : Type} (step : σ → α → σ ⊕ τ) : σ → List α → σ ⊕ τ
  | s, [] => .inl s
  | s, a :: r => match step s a with
    | .inl s' => loopF step s' r
    | .inr x => .inr x
/-- a turn: the item set, then the suite -/
def forOne (g : MG) (b : MS) (x : Val) (L : Loc) (S : Store) : F := thenF L (noExn (g x L S)) fun L1 S1 => b L1 S1
def endOf {σ : Type} (L : σ → Loc) (T : σ → Store) : σ ⊕ (Val × Store) → F
  | .inl s => .nx (L s) (T s)
  | .inr x => .rt x.1 x.2
section
variable {α σ : Type} {keep : Store → Prop} {g : MG} {b : MS}
theorem forLoop_cons (x : Val) (xs : List Val) (L : Loc) (S : Store) : forLoop keep g b (x :: xs) L S = gate (keep S) (turn (forOne g b x L S) (forLoop keep g b xs)) .bad := by
  conv => lhs; unfold forLoop
  rfl
theorem forLoop_nil (L : Loc) (S : Store) : forLoop keep g b [] L S = gate (keep S) (.nx L S) .bad := by
  unfold forLoop; rfl
theorem for_loop (rep : α → Val) (L : σ → Loc) (T : σ → Store) (P : σ → Prop) (step : σ → α → σ ⊕ (Val × Store)) (l : List α) (s : σ) (h0 : P s) (hk : ∀ s, P s → keep (T s))
    (h : ∀ s a, a ∈ l → P s → (forOne g b (rep a) (L s) (T s) = endOf L T (step s a) ∨ ∃ s', step s a = .inl s' ∧ forOne g b (rep a) (L s) (T s) = .ct (L s') (T s')) ∧ ∀ s', step s a = .inl s' → P s') :
    forLoop keep g b (l.map rep) (L s) (T s) = endOf L T (loopF step s l) ∧ ∀ s', loopF step s l = .inl s' → P s' := by
  induction l generalizing s with
  | nil =>
    rw [List.map_nil, forLoop_nil, gate_pos (hk s h0)]
    exact ⟨rfl, fun s' e => by cases e; exact h0⟩
  | cons a r ih =>
    rw [List.map_cons, forLoop_cons, gate_pos (hk s h0)]
    obtain ⟨h1, h2⟩ := h s a (by simp) h0
    have hr : ∀ s a, a ∈ r → P s → _ := fun s a ha => h s a (List.mem_cons_of_mem _ ha)
    unfold loopF
    cases hs : step s a with
    | inl s' =>
      dsimp only
      have := ih s' (h2 s' hs) hr
      rcases h1 with h1 | ⟨s'', e, h1⟩
      · rw [h1, hs]
        exact this
      · rw [hs] at e
        cases e
        rw [h1]
        exact this
    | inr x =>
      dsimp only
      rcases h1 with h1 | ⟨s'', e, h1⟩
      · rw [h1, hs]
        exact ⟨rfl, fun s' e => by cases e⟩
      · rw [hs] at e; cases e
/-- a loop that is not left -/
theorem for_fold (rep : α → Val) (L : σ → Loc) (T : σ → Store) (P : σ → Prop) (step : σ → α → σ) (l : List α) (s : σ) (h0 : P s) (hk : ∀ s, P s → keep (T s))
    (h : ∀ s a, a ∈ l → P s → (forOne g b (rep a) (L s) (T s) = .nx (L (step s a)) (T (step s a)) ∨ forOne g b (rep a) (L s) (T s) = .ct (L (step s a)) (T (step s a))) ∧ P (step s a)) :
    forLoop keep g b (l.map rep) (L s) (T s) = .nx (L (l.foldl step s)) (T (l.foldl step s)) ∧ P (l.foldl step s) := by
  induction l generalizing s with
  | nil =>
    rw [List.map_nil, forLoop_nil, gate_pos (hk s h0)]
    exact ⟨rfl, h0⟩
  | cons a r ih =>
    rw [List.map_cons, forLoop_cons, gate_pos (hk s h0)]
    obtain ⟨h1, h2⟩ := h s a (by simp) h0
    have := ih (step s a) h2 fun s a ha => h s a (List.mem_cons_of_mem _ ha)
    rcases h1 with h1 | h1
    · rw [h1]; exact this
    · rw [h1]; exact this
@[simp] theorem forOne_app (x : Val) (L : Loc) (S : Store) : forOne g b x L S = thenF L (noExn (g x L S)) fun L1 S1 => b L1 S1 := rfl
end
/-- a while by a measure -/
theorem while_run {σ : Type} {c : MT} {b : MS} (L : σ → Loc) (T : σ → Store) (P : σ → Prop) (cond : σ → Bool) (step : σ → σ) (μ : σ → Nat) (n : Nat) (s : σ) (h0 : P s) (hn : μ s < n) (hc : ∀ s, P s → c (L s) (T s) = .ok (cond s) (T s))
    (h : ∀ s, P s → cond s = true → (b (L s) (T s) = .nx (L (step s)) (T (step s)) ∨ b (L s) (T s) = .ct (L (step s)) (T (step s))) ∧ P (step s) ∧ μ (step s) < μ s) : ∃ s', whileLoop c b n (L s) (T s) = .nx (L s') (T s') ∧ P s' ∧ cond s' = false := by
  induction n generalizing s with
  | zero => omega
  | succ n ih =>
    rw [whileLoop_step (by omega), hc s h0, thenF_ok]
    cases hs : cond s with
    | false => exact ⟨s, rfl, h0, hs⟩
    | true =>
      obtain ⟨h1, h2, h3⟩ := h s h0 hs
      rw [bite_true]
      have := ih (step s) h2 (by omega)
      rcases h1 with h1 | h1
      · rw [h1]; exact this
      · rw [h1]; exact this
theorem map_range (f : Nat → Val) (n : Nat) : (List.range n).map f = (List.range n).map f := rfl
theorem rangeL_map (lo : Int) (n : Nat) : rangeL lo n = (List.range n).map fun (i : Nat) => Val.int (lo + i) := rfl
end Mp

/-! Mp15: tests that leave nothing behind. -/
namespace Mp
open PySem PySem.Spec L2
noncomputable def gcB (S : Store) (r : R Bool) : R Bool := match r with
  | .ok b S' => gate (GcOk S S') (.ok b (cut (sl S) S')) .bad
  | .exn e S' => .exn e S'
  | .bad => .bad
noncomputable def tG (t : MT) : MT := fun L S => gcB S (t L S)
theorem Post.gcB {K : PySem.W.Frag} {mg : Str → Option Value} {W : WX} {ρ : Rho} {H : Hp} {S : Store} {σ : L2.St} {r : R Bool} {Q : Bool → Hp → Prop} (s : SR K mg ρ S H) (h : Post K mg relB W ρ S H σ (Mp.gcB S r) Q) : Post K mg relB W ρ S H σ r Q := by
  cases r with
  | bad => exact h
  | exn x S' => exact h
  | ok v S' =>
    intro ρ' H' u e s' q
    have h : Post K mg relB W ρ S H σ (gate (GcOk S S') (R.ok v (Mp.cut (sl S) S')) .bad) Q := h
    by_cases g : GcOk S S'
    · rw [gate_pos g] at h
      exact h ρ' H' u (e.cut g) (s.cut s' g) q
    · rw [gate_neg g] at h
      exact h.elim
theorem t_G {X : Cx} {W : WX} {e : Expr} {t : MT} (h : PTm X W e t) : PTm X W e (tG t) := PT.imp h fun σ H Q ⟨ρ, S, L, s, l, h⟩ => ⟨ρ, S, L, s, l, h.gcB s⟩
section
variable {S S' : Store}
@[simp] theorem tG_app (t : MT) (L : Loc) : tG t L S = gcB S (t L S) := rfl
@[simp] theorem gcB_ok (b : Bool) : gcB S (.ok b S') = gate (GcOk S S') (.ok b (cut (sl S) S')) .bad := rfl
@[simp] theorem gcB_exn (e : Ex) : gcB S (.exn e S') = .exn e S' := rfl
@[simp] theorem gcB_bad : gcB S .bad = .bad := rfl
end
end Mp

/-! Mp16: built-ins on lists that are drawn up. -/
namespace Mp
open PySem PySem.Spec L2
section
variable {α : Type} {S : Store}
def lstR (o : Option Ob) : Option (List Val) := match o with
  | some (.lst vs) => some vs
  | _ => none
@[simp] theorem lstR_lst (vs : List Val) : lstR (some (.lst vs)) = some vs := rfl
theorem lstO_R (a : Nat) : lstO (.ref a) S = lstR (sg S a) := by
  show _ = lstR S[a]?
  simp only [lstO]
  unfold lstR
  cases S[a]? with
  | none => rfl
  | some o => cases o <;> rfl
def blsR (o : Option (List Bool)) (S : Store) : R Val := match o with
  | some bs => .ok (.bl (bs.all id)) S
  | none => .bad
@[simp] theorem blsR_some (bs : List Bool) : blsR (some bs) S = .ok (.bl (bs.all id)) S := rfl
@[simp] theorem fAll_R (a : Nat) : fAll [.ref a] S = blsR ((lstR (sg S a)).bind blsO) S := by
  unfold fAll one
  dsimp only
  rw [lstO_R]
  cases (lstR (sg S a)).bind blsO <;> rfl
@[simp] theorem blsO_bl (f : α → Bool) (l : List α) : blsO (l.map fun x => Val.bl (f x)) = some (l.map f) := by
  induction l with
  | nil => rfl
  | cons b r ih => simp [blsO, ih]
@[simp] theorem blsO_nil : blsO [] = some [] := rfl
@[simp] theorem blsO_cons (b : Bool) (r : List Val) : blsO (.bl b :: r) = (blsO r).map (b :: ·) := by
  conv => lhs; unfold blsO
@[simp] theorem all_map_id (f : α → Bool) (l : List α) : (l.map f).all id = l.all f := by rw [List.all_map]; rfl
def intsR (o : Option (List Int)) (k : List Int → R Val) : Dep k (R Val) := match o with
  | some bs => k bs
  | none => .bad
@[simp] theorem intsR_some (bs : List Int) (k : List Int → R Val) : intsR (some bs) k = k bs := rfl
@[simp] theorem fSum_R (a : Nat) : fSum [.ref a] S = intsR ((lstR (sg S a)).bind intsO) fun bs => .ok (.int bs.sum) S := by
  unfold fSum one
  dsimp only
  rw [lstO_R]
  cases (lstR (sg S a)).bind intsO <;> rfl
@[simp] theorem intsO_int (f : α → Int) (l : List α) : intsO (l.map fun x => Val.int (f x)) = some (l.map f) := by
  induction l with
  | nil => rfl
  | cons b r ih => simp [intsO, ih]
@[simp] theorem intsO_int' (l : List Int) : intsO (l.map Val.int) = some l := intsO_map l
@[simp] theorem intsO_nil : intsO [] = some [] := rfl
@[simp] theorem intsO_cons (b : Int) (r : List Val) : intsO (.int b :: r) = (intsO r).map (b :: ·) := by
  conv => lhs; unfold intsO
@[simp] theorem intsO_appI (l : List Int) (r : List Val) : intsO (l.map Val.int ++ r) = (intsO r).map (l ++ ·) := by
  induction l with
  | nil => simp
  | cons b l ih => simp [intsO, ih, Function.comp_def]
@[simp] theorem inKR_ints (ns : List Int) (i : Int) (neg : Bool) : inKR (some (.lst (ns.map Val.int))) (.int i) neg S = .ok (.bl (if neg then !decide (i ∈ ns) else decide (i ∈ ns))) S := by
  have e := (pIn_ints (S := S) (i := i) (ns := ns)).1
  have e1 : (ns.map Val.int).mapM flatL = some (ns.map L2.V.int) := by
    clear e
    induction ns with
    | nil => rfl
    | cons a r ih => rw [List.map_cons, List.mapM_cons, ih]; rfl
  have e2 : L2.inV (.int i) (ns.map L2.V.int) = decide (i ∈ ns) := by
    have f : flatL (.int i) = some (.int i) := rfl
    have q : inF (.int i) (.tup (ns.map Val.int)) S = some (L2.inV (.int i) (ns.map L2.V.int)) := by
      simp only [inF, f, e1]
    unfold pIn at e
    rw [q] at e
    injection e with e _
    injection e with e
  unfold inKR
  have f : flatL (.int i) = some (.int i) := rfl
  simp only [f, e1, e2]
def maxR (o : Option Int) (S : Store) : R Val := match o with
  | some m => .ok (.int m) S
  | none => .bad
@[simp] theorem maxR_some (m : Int) : maxR (some m) S = .ok (.int m) S := rfl
theorem itemsO_ref (a : Nat) : itemsO (.ref a) S = itemsR (sg S a) := by
  show _ = itemsR S[a]?
  simp only [itemsO]
  unfold itemsR
  cases S[a]? with
  | none => rfl
  | some o => cases o <;> rfl
@[simp] theorem fMaxL_ref (a : Nat) : fMaxL [.ref a] S = maxR (((itemsR (sg S a)).bind intsO).bind maxL) S := by
  unfold fMaxL one
  dsimp only
  rw [itemsO_ref]
  cases ((itemsR (sg S a)).bind intsO).bind maxL <;> rfl
@[simp] theorem fMaxL_tup (vs : List Val) : fMaxL [.tup vs] S = maxR ((intsO vs).bind maxL) S := by
  unfold fMaxL one
  dsimp only
  show (match ((some vs).bind intsO).bind maxL with
    | some m => R.ok (Val.int m) S
    | none => .bad) = _
  simp only [Option.bind_some]
  cases (intsO vs).bind maxL <;> rfl
def dictR (o : Option (List (Key × Val))) (S : Store) : R Val := match o with
  | some kvs => .ok (.ref (sl S)) (sp S (.dK (mergeL kvs)))
  | none => .bad
@[simp] theorem dictR_some (kvs : List (Key × Val)) : dictR (some kvs) S = .ok (.ref (sl S)) (sp S (.dK (mergeL kvs))) := rfl
@[simp] theorem fDict_R (a : Nat) : fDict [.ref a] S = dictR ((lstR (sg S a)).bind kvsO) S := by
  unfold fDict one
  dsimp only
  rw [lstO_R]
  cases (lstR (sg S a)).bind kvsO <;> rfl
def revR (o : Option (List Val)) (S : Store) : R Val := match o with
  | some vs => newL vs.reverse S
  | none => .bad
@[simp] theorem revR_some (vs : List Val) : revR (some vs) S = newL vs.reverse S := rfl
@[simp] theorem pRev_ref (a : Nat) : pRev (.ref a) S = revR (lstR (sg S a)) S := by
  unfold pRev
  rw [lstO_R]
  cases lstR (sg S a) <;> rfl
@[simp] theorem wipeL_nil' (L : Loc) : wipeL L [] = L := rfl
def addR (o p : Option Ob) (S : Store) : R Val := match o, p with
  | some (.lst xs), some (.lst ys) => bite (decide (xs.length + ys.length ≤ LIM)) (newL (xs ++ ys) S) .bad
  | _, _ => .bad
@[simp] theorem addR_some (xs ys : List Val) : addR (some (.lst xs)) (some (.lst ys)) S = bite (decide (xs.length + ys.length ≤ LIM)) (newL (xs ++ ys) S) .bad := rfl
@[simp] theorem pAdd_ref (i j : Nat) : pAdd (.ref i) (.ref j) S = addR (sg S i) (sg S j) S := by
  show _ = addR S[i]? S[j]? S
  simp only [pAdd]
  unfold addR
  cases S[i]? with
  | none => rfl
  | some o =>
    cases o with
    | lst xs => cases S[j]? with
      | none => rfl
      | some p => cases p <;> rfl
    | _ => rfl
@[simp] theorem pAdd_tup (a b : List Val) : pAdd (.tup a) (.tup b) S = bite (decide (a.length + b.length ≤ LIM)) (.ok (.tup (a ++ b)) S) .bad := rfl
@[simp] theorem pAdd_str (a b : Str) : pAdd (.str a) (.str b) S = bite (decide (a.length + b.length ≤ LIM)) (.ok (.str (a ++ b)) S) .bad := rfl
@[simp] theorem pIsNot_non (v : Val) : pIsNot v .non S = .ok (.bl (match v with | .non => false | _ => true)) S := by
  unfold pIsNot isC
  cases v <;> rfl
@[simp] theorem pIsNot_bl (v : Val) (b : Bool) : pIsNot v (.bl b) S = .ok (.bl (match v with | .bl c => !decide (c = b) | _ => true)) S := by
  unfold pIsNot isC
  cases v <;> rfl
@[simp] theorem pIsT_tup (T : String) (vs : List Val) : pIsT T (.tup vs) S = .ok (.bl (subTy "tuple" T)) S := rfl
@[simp] theorem pIsT_int (T : String) (i : Int) : pIsT T (.int i) S = .ok (.bl (subTy "int" T)) S := rfl
@[simp] theorem pIsT_str (T : String) (i : Str) : pIsT T (.str i) S = .ok (.bl (subTy "str" T)) S := rfl
@[simp] theorem pIsT_bl (T : String) (i : Bool) : pIsT T (.bl i) S = .ok (.bl (subTy "bool" T)) S := rfl
@[simp] theorem pIsT_non (T : String) : pIsT T .non S = .ok (.bl (subTy "NoneType" T)) S := rfl
end
def d1R (o : Option Ob) (k : Int) (v : Val) (i : Nat) (S : Store) : R Val := match o with
  | some (.dK []) => .ok (.ref i) (ss S i (.dK [(.inl k, v)]))
  | _ => .bad
@[simp] theorem d1R_some (k : Int) (v : Val) (i : Nat) (S : Store) : d1R (some (.dK [])) k v i S = .ok (.ref i) (ss S i (.dK [(.inl k, v)])) := rfl
@[simp] theorem mD1_app (k : Int) (e : ME) (L : Loc) (S : Store) : mD1 k e L S = (e L (sp S (.dK []))).bind fun v S2 => d1R (sg S2 (sl S)) k v (sl S) S2 := by
  unfold mD1
  show (e L (sp S (.dK []))).bind _ = _
  congr 1
/-! ### ranges -/
section
variable {S : Store}
theorem rng_nat {k : Int} (m : Nat) (hk : k = (m : Int)) (hm : m < 1000000) : rngOf1 [.int k] S = .ok ⟨rangeL 0 m, fun _ => True⟩ S := by
  subst hk
  have hb : (-BIG ≤ (m : Int) ∧ (m : Int) < BIG) := ⟨Int.le_trans (by unfold BIG; decide) (Int.natCast_nonneg m), Int.lt_trans (Int.ofNat_lt.mpr hm) (by unfold BIG; decide)⟩
  rw [rngOf1_int, gate_pos hb]
  rfl
theorem rng_neg {k : Int} (hk : k ≤ 0) (hm : -1000000 < k) : rngOf1 [.int k] S = .ok ⟨[], fun _ => True⟩ S := by
  have hb : (-BIG ≤ k ∧ k < BIG) := ⟨Int.le_trans (by unfold BIG; decide) (Int.le_of_lt hm), Int.lt_of_le_of_lt hk (by unfold BIG; decide)⟩
  rw [rngOf1_int, gate_pos hb]
  have : k.toNat = 0 := by omega
  rw [this]
  rfl
@[simp] theorem rngOf1_gen {k : Int} (h0 : 0 ≤ k) (h1 : k < 1000000) : rngOf1 [.int k] S = .ok ⟨rangeL 0 k.toNat, fun _ => True⟩ S := rng_nat k.toNat (by omega) (by omega)
@[simp] theorem rngOf1_cast (n : Nat) (h : n < 1000000) : rngOf1 [.int (n : Int)] S = .ok ⟨rangeL 0 n, fun _ => True⟩ S := rng_nat n rfl h
@[simp] theorem rngOf1_succ (n : Nat) (h : n + 1 < 1000000) : rngOf1 [.int ((n : Int) + 1)] S = .ok ⟨rangeL 0 (n + 1), fun _ => True⟩ S := rng_nat (n + 1) (by omega) h
@[simp] theorem rngOf1_succ' (n : Nat) (h : n + 1 < 1000000) : rngOf1 [.int (1 + (n : Int))] S = .ok ⟨rangeL 0 (n + 1), fun _ => True⟩ S := rng_nat (n + 1) (by omega) h
theorem rng_two {i j : Int} (m : Nat) (hk : (j - i).toNat = m) (h1 : -1000000 < i) (h2 : i < 1000000) (h3 : -1000000 < j) (h4 : j < 1000000) : rngOf2 [.int i, .int j] S = .ok ⟨rangeL i m, fun _ => True⟩ S := by
  have hb : (-BIG ≤ i ∧ i < BIG ∧ -BIG ≤ j ∧ j < BIG) := ⟨Int.le_trans (by unfold BIG; decide) (Int.le_of_lt h1), Int.lt_trans h2 (by unfold BIG; decide), Int.le_trans (by unfold BIG; decide) (Int.le_of_lt h3), Int.lt_trans h4 (by unfold BIG; decide)⟩
  rw [rngOf2_int, gate_pos hb, hk]
theorem rangeL0 (n : Nat) : rangeL 0 n = (List.range n).map fun (i : Nat) => Val.int i := by
  unfold rangeL
  congr 1
  funext i
  rw [Int.zero_add]
end
/-! ### loops, as they are met -/
section
variable {α σ : Type} {keep : Store → Prop} {g : MG} {b : MS} {xs : List Val}
theorem for_fold' (rep : α → Val) (L : σ → Loc) (T : σ → Store) (P : σ → Prop) (step : σ → α → σ) (l : List α) (s : σ) {L0 : Loc} {S0 : Store} (hx : xs = l.map rep) (hL : L0 = L s) (hS : S0 = T s) (h0 : P s) (hk : ∀ s, P s → keep (T s))
    (h : ∀ s a, a ∈ l → P s → (forOne g b (rep a) (L s) (T s) = .nx (L (step s a)) (T (step s a)) ∨ forOne g b (rep a) (L s) (T s) = .ct (L (step s a)) (T (step s a))) ∧ P (step s a)) :
    forLoop keep g b xs L0 S0 = .nx (L (l.foldl step s)) (T (l.foldl step s)) := by
  rw [hx, hL, hS]; exact (for_fold rep L T P step l s h0 hk h).1
theorem for_loop' (rep : α → Val) (L : σ → Loc) (T : σ → Store) (P : σ → Prop) (step : σ → α → σ ⊕ (Val × Store)) (l : List α) (s : σ) {L0 : Loc} {S0 : Store} (hx : xs = l.map rep) (hL : L0 = L s) (hS : S0 = T s) (h0 : P s) (hk : ∀ s, P s → keep (T s))
    (h : ∀ s a, a ∈ l → P s → (forOne g b (rep a) (L s) (T s) = endOf L T (step s a) ∨ ∃ s', step s a = .inl s' ∧ forOne g b (rep a) (L s) (T s) = .ct (L s') (T s')) ∧ ∀ s', step s a = .inl s' → P s') :
    forLoop keep g b xs L0 S0 = endOf L T (loopF step s l) := by
  rw [hx, hL, hS]; exact (for_loop rep L T P step l s h0 hk h).1
/-- the same, the invariant told by the place -/
theorem for_foldI (rep : α → Val) (L : σ → Loc) (T : σ → Store) (P : Nat → σ → Prop) (step : σ → α → σ) (l : List α) (s : σ) {L0 : Loc} {S0 : Store} (hx : xs = l.map rep) (hL : L0 = L s) (hS : S0 = T s) (h0 : P 0 s) (hk : ∀ i s, P i s → keep (T s))
    (h : ∀ i s a, l[i]? = some a → P i s → (forOne g b (rep a) (L s) (T s) = .nx (L (step s a)) (T (step s a)) ∨ forOne g b (rep a) (L s) (T s) = .ct (L (step s a)) (T (step s a))) ∧ P (i + 1) (step s a)) :
    forLoop keep g b xs L0 S0 = .nx (L (l.foldl step s)) (T (l.foldl step s)) ∧ P l.length (l.foldl step s) := by
  subst hx hL hS
  have key : ∀ (r : List α) (i : Nat) (s : σ), l.drop i = r → P i s → forLoop keep g b (r.map rep) (L s) (T s) = .nx (L (r.foldl step s)) (T (r.foldl step s)) ∧ P (i + r.length) (r.foldl step s) := by
    intro r
    induction r with
    | nil => intro i s _ hP; rw [List.map_nil, forLoop_nil, gate_pos (hk i s hP)]; exact ⟨rfl, hP⟩
    | cons a r ih =>
      intro i s hd hP
      have ha : l[i]? = some a := by
        have : (l.drop i)[0]? = some a := by rw [hd]; rfl
        simpa using this
      have hd' : l.drop (i + 1) = r := by
        have := congrArg List.tail hd
        simpa using this
      obtain ⟨h1, h2⟩ := h i s a ha hP
      have q := ih (i + 1) (step s a) hd' h2
      rw [List.map_cons, forLoop_cons, gate_pos (hk i s hP)]
      have el : i + (a :: r).length = i + 1 + r.length := by simp; omega
      rw [el]
      rcases h1 with h1 | h1
      · rw [h1]; exact q
      · rw [h1]; exact q
  have := key l 0 s (by simp) h0
  rw [Nat.zero_add] at this
  exact this
theorem foldl_inv {step : σ → α → σ} {l : List α} {s : σ} (P : σ → Prop) (h0 : P s) (h : ∀ s a, a ∈ l → P s → P (step s a)) : P (l.foldl step s) := by
  induction l generalizing s with
  | nil => exact h0
  | cons a r ih => exact ih (h s a (by simp) h0) fun s a ha => h s a (List.mem_cons_of_mem _ ha)
end
@[simp] theorem fInt_bl (b : Bool) {S : Store} : fInt [.bl b] S = .ok (.int (if b then 1 else 0)) S := rfl
/-! ### equality of values without objects -/
mutual
def vD : Val → Option PyData
  | .non => some .none
  | .bl b => some (.bool b)
  | .int i => some (.int i)
  | .str x => some (.str x)
  | .tup vs => (vDs vs).map .tuple
  | .ref _ => none
  | .fl _ => none
def vDs : List Val → Option (List PyData)
  | [] => some []
  | v :: vs => (vD v).bind fun d => (vDs vs).map (d :: ·)
end
mutual
theorem toD_vD (S : Store) : ∀ (n : Nat) (v : Val) (d : PyData), vD v = some d → d.depth ≤ n → toD n S v = some d
  | n, .non, d, h, _ => by cases n <;> (simp [vD] at h; simp [toD, h])
  | n, .bl b, d, h, _ => by cases n <;> (simp [vD] at h; simp [toD, h])
  | n, .int b, d, h, _ => by cases n <;> (simp [vD] at h; simp [toD, h])
  | n, .str b, d, h, _ => by cases n <;> (simp [vD] at h; simp [toD, h])
  | n, .ref i, d, h, _ => by simp [vD] at h
  | n, .fl i, d, h, _ => by simp [vD] at h
  | 0, .tup vs, d, h, hd => by
    simp only [vD, Option.map_eq_some_iff] at h
    obtain ⟨ds, _, rfl⟩ := h
    simp only [PyData.depth] at hd
    omega
  | n + 1, .tup vs, d, h, hd => by
    simp only [vD, Option.map_eq_some_iff] at h
    obtain ⟨ds, h1, rfl⟩ := h
    simp only [PyData.depth] at hd
    simp only [toD]
    rw [toDs_vDs S n vs ds h1 (by omega)]
    rfl
theorem toDs_vDs (S : Store) : ∀ (n : Nat) (vs : List Val) (ds : List PyData), vDs vs = some ds → PyData.depthAll ds ≤ n → vs.mapM (toD n S) = some ds
  | n, [], ds, h, _ => by simp [vDs] at h; subst h; rfl
  | n, v :: vs, ds, h, hd => by
    simp only [vDs, Option.bind_eq_some_iff, Option.map_eq_some_iff] at h
    obtain ⟨d, h1, r, h2, rfl⟩ := h
    simp only [PyData.depthAll] at hd
    rw [List.mapM_cons, toD_vD S n v d h1 (by omega), toDs_vDs S n vs r h2 (by omega)]
    rfl
end
theorem pEq_vD {S : Store} {v w : Val} {d e : PyData} (h1 : vD v = some d) (h2 : vD w = some e) (s1 : SeqAt.shaped d = true) (s2 : SeqAt.shaped e = true) : pEq v w S = .ok (.bl (PyData.eqv d e)) S ∧ pNe v w S = .ok (.bl (!PyData.eqv d e)) S := by
  have a1 := toD_vD S DEEP v d h1 (by have := SeqAt.depth_of_shaped s1; unfold DEEP; omega)
  have a2 := toD_vD S DEEP w e h2 (by have := SeqAt.depth_of_shaped s2; unfold DEEP; omega)
  have : eqO v w S = some (PyData.eqv d e) := by
    unfold eqO
    rw [a1, a2]
    dsimp only
    rw [s1, s2]
    rfl
  unfold pEq pNe
  rw [this]
  exact ⟨rfl, rfl⟩
end Mp

/-! MpE: kinds of values that are told by a type; their equality. -/
namespace Mp
open PySem PySem.Spec L2
class Py (α : Type) where
  rep : α → Val
  dat : α → PyData
  dep : Nat
  dec : DecidableEq α
  ok : ∀ a, vD (rep a) = some (dat a)
  eqv : ∀ a b, PyData.eqv (dat a) (dat b) = @decide (a = b) (dec a b)
  lay : ∀ a, (dat a).canLay0 = true
  low : ∀ a, (dat a).depth ≤ dep
instance : Py Int where
  rep := .int
  dat := .int
  dep := 0
  dec := inferInstance
  ok _ := rfl
  eqv a b := by simp [PyData.eqv]; rfl
  lay _ := by simp [PyData.canLay0]
  low _ := by simp [PyData.depth]
instance : Py Bool where
  rep := .bl
  dat := .bool
  dep := 0
  dec := inferInstance
  ok _ := rfl
  eqv a b := by simp [PyData.eqv]; cases a <;> cases b <;> rfl
  lay _ := by simp [PyData.canLay0]
  low _ := by simp [PyData.depth]
/-- texts that can lie in the heap -/
def OkStr : Type := { x : Str // PyData.strOk x = true }
instance : DecidableEq OkStr := fun a b => decidable_of_iff (a.1 = b.1) Subtype.ext_iff.symm
instance : Py OkStr where
  rep x := .str x.1
  dat x := .str x.1
  dep := 0
  dec := inferInstance
  ok _ := rfl
  eqv a b := by
    have e : PyData.eqv (.str a.1) (.str b.1) = (a.1 == b.1) := by simp [PyData.eqv]
    rw [e]
    by_cases h : a.1 = b.1
    · have h2 : a = b := Subtype.ext h
      rw [beq_iff_eq.mpr h]
      exact (@decide_eq_true (a = b) _ h2).symm
    · have h2 : ¬ a = b := fun e => h (by rw [e])
      rw [beq_eq_false_iff_ne.mpr h]
      exact (@decide_eq_false (a = b) _ h2).symm
  lay x := by simp [PyData.canLay0, x.2]
  low _ := by simp [PyData.depth]
section
variable {α β : Type} [Py α] [Py β]
open Py
theorem vDs_map (l : List α) : vDs (l.map rep) = some (l.map dat) := by
  induction l with
  | nil => rfl
  | cons a r ih =>
    show ((vD (rep a)).bind fun d => (vDs (r.map rep)).map (d :: ·)) = _
    rw [ok, ih]
    rfl
theorem eqvAll_map [DecidableEq α] (l m : List α) : PyData.eqvAll (l.map dat) (m.map dat) = decide (l = m) := by
  induction l generalizing m with
  | nil => cases m with
    | nil => simp [PyData.eqvAll]
    | cons b s => simp [PyData.eqvAll]
  | cons a r ih =>
    cases m with
    | nil => simp [PyData.eqvAll]
    | cons b s =>
      rw [List.map_cons, List.map_cons]
      unfold PyData.eqvAll
      rw [eqv, ih]
      by_cases h : a = b
      · subst h
        by_cases h2 : r = s
        · subst h2; simp
        · simp [h2]
      · simp [h]
theorem layAll_map (l : List α) : PyData.canLayAll0 (l.map dat) = true := by
  induction l with
  | nil => simp [PyData.canLayAll0]
  | cons a r ih => simp [PyData.canLayAll0, lay, ih]
theorem depAll_map (l : List α) : PyData.depthAll (l.map dat) ≤ dep α := by
  induction l with
  | nil => simp [PyData.depthAll]
  | cons a r ih =>
    simp only [List.map_cons, PyData.depthAll]
    exact Nat.max_le.mpr ⟨low a, ih⟩
instance instPyList : Py (List α) where
  rep l := .tup (l.map rep)
  dat l := .tuple (l.map dat)
  dep := dep α + 1
  dec := @instDecidableEqList α dec
  ok l := by
    show (vDs (l.map rep)).map PyData.tuple = _
    rw [vDs_map]
    rfl
  eqv a b := by
    letI := dec (α := α)
    simp only [PyData.eqv]
    rw [eqvAll_map]
  lay l := by simp only [PyData.canLay0]; exact layAll_map l
  low l := by simp only [PyData.depth]; exact Nat.succ_le_succ (depAll_map l)
instance instPyProd : Py (α × β) where
  rep p := .tup [rep p.1, rep p.2]
  dat p := .tuple [dat p.1, dat p.2]
  dep := max (dep α) (dep β) + 1
  dec := @instDecidableEqProd α β dec dec
  ok p := by simp [vD, vDs, ok]
  eqv a b := by
    letI := dec (α := α)
    letI := dec (α := β)
    simp only [PyData.eqv, PyData.eqvAll, eqv]
    obtain ⟨a1, a2⟩ := a
    obtain ⟨b1, b2⟩ := b
    by_cases h1 : a1 = b1
    · by_cases h2 : a2 = b2
      · simp [h1, h2]
      · simp [h2]
    · simp [h1]
  lay p := by simp [PyData.canLay0, PyData.canLayAll0, lay]
  low p := by
    simp only [PyData.depth, PyData.depthAll]
    have h1 := low p.1
    have h2 := low p.2
    omega
theorem eq_py [DecidableEq α] (S : Store) (a b : α) (h : dep α ≤ 64) : pEq (rep a) (rep b) S = .ok (.bl (decide (a = b))) S ∧ pNe (rep a) (rep b) S = .ok (.bl (!decide (a = b))) S := by
  have s : ∀ a : α, SeqAt.shaped (dat a) = true := fun a => by
    unfold SeqAt.shaped
    rw [lay, decide_eq_true (Nat.le_trans (low a) h)]
    rfl
  have e := pEq_vD (S := S) (ok a) (ok b) (s a) (s b)
  rw [eqv] at e
  have : (@decide (a = b) (dec a b)) = decide (a = b) := by congr
  rw [this] at e
  exact e
end
@[simp] theorem strOk_ofString (x : String) : PyData.strOk (Str.ofString x) = true := by
  rw [PySem.Str.ofString_eq_toList]
  unfold PyData.strOk
  rw [Array.all_eq_true']
  intro c hc
  have : c ∈ x.toList.map Char.toNat := by simpa using hc
  obtain ⟨d, _, rfl⟩ := List.mem_map.mp this
  have := d.valid
  simp only [decide_eq_true_eq]
  unfold UInt32.isValidChar Nat.isValidChar at this
  show d.val.toNat < _
  omega
/-! values without objects, at most n deep -/
def wv : Nat → Val → Bool
  | _, .non => true
  | _, .bl _ => true
  | _, .int _ => true
  | _, .str x => PyData.strOk x
  | n + 1, .tup vs => decide (vs.length < 1000) && vs.all (wv n)
  | 0, .tup _ => false
  | _, .ref _ => false
  | _, .fl _ => false
section
variable {n : Nat}
@[simp] theorem wv_non : wv n .non = true := by cases n <;> (unfold wv; rfl)
@[simp] theorem wv_bl (b : Bool) : wv n (.bl b) = true := by cases n <;> (unfold wv; rfl)
@[simp] theorem wv_int (b : Int) : wv n (.int b) = true := by cases n <;> (unfold wv; rfl)
@[simp] theorem wv_str (x : Str) : wv n (.str x) = PyData.strOk x := by cases n <;> (conv => lhs; unfold wv)
@[simp] theorem wv_tup (vs : List Val) : wv (n + 1) (.tup vs) = (decide (vs.length < 1000) && vs.all (wv n)) := by conv => lhs; unfold wv
theorem wv_ref (i : Nat) : wv n (.ref i) = false := by cases n <;> (unfold wv; rfl)
theorem wv_fl (i : List Int) : wv n (.fl i) = false := by cases n <;> (unfold wv; rfl)
theorem wv_tup0 (vs : List Val) : wv 0 (.tup vs) = false := by unfold wv; rfl
theorem wv_data : ∀ {n : Nat} {v : Val}, wv n v = true → ∃ d, vD v = some d ∧ d.canLay0 = true ∧ d.depth ≤ n ∧ PyData.eqv d d = true
  | n, .non, _ => ⟨.none, rfl, by simp [PyData.canLay0], by simp [PyData.depth], by simp [PyData.eqv]⟩
  | n, .bl b, _ => ⟨.bool b, rfl, by simp [PyData.canLay0], by simp [PyData.depth], by simp [PyData.eqv]⟩
  | n, .int b, _ => ⟨.int b, rfl, by simp [PyData.canLay0], by simp [PyData.depth], by simp [PyData.eqv]⟩
  | n, .str b, h => ⟨.str b, rfl, by simpa [PyData.canLay0] using h, by simp [PyData.depth], by simp [PyData.eqv]⟩
  | n, .ref b, h => by rw [wv_ref] at h; cases h
  | n, .fl b, h => by rw [wv_fl] at h; cases h
  | 0, .tup vs, h => by rw [wv_tup0] at h; cases h
  | n + 1, .tup vs, h => by
    rw [wv_tup, Bool.and_eq_true, List.all_eq_true] at h
    have key : ∀ l : List Val, (∀ x, x ∈ l → wv n x = true) → ∃ ds, vDs l = some ds ∧ PyData.canLayAll0 ds = true ∧ PyData.depthAll ds ≤ n ∧ PyData.eqvAll ds ds = true := by
      intro l
      induction l with
      | nil => intro _; exact ⟨[], rfl, by simp [PyData.canLayAll0], by simp [PyData.depthAll], by simp [PyData.eqvAll]⟩
      | cons x r ih =>
        intro hl
        obtain ⟨d, d1, d2, d3, d4⟩ := wv_data (hl x (by simp))
        obtain ⟨ds, e1, e2, e3, e4⟩ := ih fun y hy => hl y (List.mem_cons_of_mem _ hy)
        refine ⟨d :: ds, ?_, by simp [PyData.canLayAll0, d2, e2], by simp only [PyData.depthAll]; omega, by simp [PyData.eqvAll, d4, e4]⟩
        show ((vD x).bind fun d => (vDs r).map (d :: ·)) = _
        rw [d1, e1]
        rfl
    obtain ⟨ds, e1, e2, e3, e4⟩ := key vs h.2
    refine ⟨.tuple ds, ?_, by simpa [PyData.canLay0] using e2, by simp only [PyData.depth]; omega, by simpa [PyData.eqv] using e4⟩
    show (vDs vs).map PyData.tuple = _
    rw [e1]
    rfl
theorem wv_shaped {v : Val} (h : wv n v = true) (hn : n ≤ 64) : ∃ d, vD v = some d ∧ SeqAt.shaped d = true ∧ PyData.eqv d d = true := by
  obtain ⟨d, d1, d2, d3, d4⟩ := wv_data h
  refine ⟨d, d1, ?_, d4⟩
  unfold SeqAt.shaped
  rw [d2, decide_eq_true (by omega)]
  rfl
theorem pEq_refl {S : Store} {v : Val} (h : wv n v = true) (hn : n ≤ 64) : pEq v v S = .ok (.bl true) S ∧ pNe v v S = .ok (.bl false) S := by
  obtain ⟨d, d1, d2, d3⟩ := wv_shaped h hn
  have := pEq_vD (S := S) d1 d1 d2 d2
  rw [d3] at this
  exact this
end
@[simp] theorem pEq_bl {S : Store} (a b : Bool) : pEq (.bl a) (.bl b) S = .ok (.bl (decide (a = b))) S := (eq_py S a b (by decide)).1
/-- tuples of integers -/
@[simp] theorem pEq_ints {S : Store} (a b : List Int) : pEq (.tup (a.map Val.int)) (.tup (b.map Val.int)) S = .ok (.bl (decide (a = b))) S := (eq_py S a b (by decide)).1
@[simp] theorem pNe_ints {S : Store} (a b : List Int) : pNe (.tup (a.map Val.int)) (.tup (b.map Val.int)) S = .ok (.bl (!decide (a = b))) S := (eq_py S a b (by decide)).2
@[simp] theorem pEq_ints0 {S : Store} (a : List Int) : pEq (.tup (a.map Val.int)) (.tup []) S = .ok (.bl (decide (a = []))) S := (eq_py S a [] (by decide)).1
@[simp] theorem pNe_ints0 {S : Store} (a : List Int) : pNe (.tup (a.map Val.int)) (.tup []) S = .ok (.bl (!decide (a = []))) S := (eq_py S a [] (by decide)).2
end Mp

/-! MpN: enumerate of a list or a tuple. -/
namespace RN
open PySem PySem.Spec PyProof.Rows L2
open Sem (wp)
open AutoSeq1 (wpAny_loadPart')
theorem meets_enumerate_newT (l : Addr) (items : Array Value) (n : Nat) (dct : Option Addr) (sl : Array (Option Value)) :
    Meets (Builtin.«enumerate.__new__» ⟨[.type "enumerate", .ref l], []⟩) (fun _ R s => s.heap.get? l = some { cls := .type "tuple", dict := dct, data := .seq items n, slots := sl } ∧
      R (.ok (.ret (.ref (s.heap.push { cls := .type "tuple_iterator", data := .fields #[.ref l, .int 0 0] }).objs.size)))
        { s with heap := (s.heap.push { cls := .type "tuple_iterator", data := .fields #[.ref l, .int 0 0] }).push { cls := .type "enumerate", data := .fields #[.none, .bool false, .ref s.heap.objs.size, rawInt 0, .none, .none] } }) :=
  .of_wp fun prog w A R s h => by
    obtain ⟨hp, g, d, tk, os⟩ := s; obtain ⟨hl, h⟩ := h
    have hsub := sub_enumerate
    have hL : Heap.IsTuple (Shared.heap ⟨hp, g, d, tk, os⟩) l items := ⟨_, hl, rfl, n, rfl⟩
    wp_walk using wpAny_loadPart' hl
    refine wpAny_stack_any fun st => wpAny_pure ?_
    split
    · rename_i c _ _ _ _ _
      cases (c == Value.type "enumerate")
      · wp_walk using wpAny_loadPart' hl, wpAny_pyIter_tuple hL
        exact ⟨_, rfl, h⟩
      · wp_walk using wpAny_loadPart' hl, wpAny_pyIter_tuple hL
        exact ⟨_, rfl, h⟩
    · wp_walk using wpAny_loadPart' hl, wpAny_pyIter_tuple hL
      exact ⟨_, rfl, h⟩
section
variable {prog : Program} {w : World} {A : Around} {E : Value → Shared → Prop} {s : Shared}
theorem call_enumerate_tuple {l : Addr} {items : Array Value} {Q : Value → Shared → Prop} (hL : s.heap.IsTuple l items)
    (h : ∀ h', IsEnum h' (s.heap.objs.size + 1) s.heap.objs.size 0 .none → h'.IsTupleIter s.heap.objs.size l 0 → h'.objs.size = s.heap.objs.size + 2 →
      (∀ b o, s.heap.get? b = some o → h'.get? b = some o) → Q (.ref (s.heap.objs.size + 1)) { s with heap := h' }) :
    wpAny (model prog w) A (call (.type "enumerate") [.ref l]) Q E s := by
  obtain ⟨⟨c, dct, dt, sl⟩, hl, hc, n, hd⟩ := hL
  replace hc : c = .type "tuple" := hc
  replace hd : dt = .seq items n := hd
  subst hc hd
  refine callType_new F.called_enumerate (by decide) (F.typeCall_enumerate_1 _) (F.newCall_enumerate_1 _) (fun obj => F.args_object_init_2 obj _) F.entry_enumerate_new
    (meets_enumerate_newT l items n dct sl) ⟨hl, ?_⟩
  have hz : (s.heap.push { cls := .type "tuple_iterator", data := .fields #[.ref l, .int 0 0] }).objs.size = s.heap.objs.size + 1 := Heap.size_push ..
  show _ ∧ _
  rw [hz]
  have he : IsEnum ((s.heap.push { cls := .type "tuple_iterator", data := .fields #[.ref l, .int 0 0] }).push
      { cls := .type "enumerate", data := .fields #[.none, .bool false, .ref s.heap.objs.size, rawInt 0, .none, .none] }) (s.heap.objs.size + 1) s.heap.objs.size 0 .none := by
    have := Heap.get?_push_size (s.heap.push { cls := .type "tuple_iterator", data := .fields #[.ref l, .int 0 0] })
      (o := { cls := .type "enumerate", data := .fields #[.none, .bool false, .ref s.heap.objs.size, rawInt 0, .none, .none] }) rfl
    rw [hz] at this; exact this
  refine ⟨⟨_, he, rfl⟩, h _ he ⟨_, Heap.get?_push_of_some _ (Heap.get?_push_size _ rfl), rfl, rfl⟩ (by rw [Heap.size_push, hz]) fun b o x => Heap.get?_push_of_some _ (Heap.get?_push_of_some _ x)⟩
end
/-- the tuple at a as it stands at each turn, each item in a new pair -/
def IteT (K : PySem.W.Frag) (a : Addr) : It :=
  ⟨fun i H => ∃ (xs : List V) (x : V), SqT K H a xs ∧ xs[i]? = some x, fun i H v H' => ∃ T x, v = .ref T ∧ H T = none ∧ H' = upd H T (.tup [.int (i : Nat), x]) ∧ ∀ xs, SqT K H a xs → xs[i]? = some x, fun i H => ∃ xs : List V, SqT K H a xs ∧ xs.length ≤ i⟩
theorem turn_enumT {P : Program} {w : World} {K : PySem.W.Frag} {elts : List Expr} {kk : Nat} {tpos : Pos} (a e it : Addr) :
    Turn P w K (.Tuple elts kk tpos) (IteT K a) [e, it] e (fun i h => (∃ old, IsEnum h e it ((i : Nat) : Int) old) ∧ h.IsTupleIter it a i ∧ e ≠ it ∧ a ≠ it ∧ a ≠ e) where
  mem := by simp
  obj := fun i h st b hb => by
    obtain ⟨⟨old, he⟩, ⟨o, ho, hc, hd⟩, _⟩ := st
    have e' : b = e ∨ b = it := by simpa using hb
    rcases e' with z | z
    · rw [z]; exact ⟨_, he, fun v q => nomatch q⟩
    · rw [z]; exact ⟨o, ho, fun v q => by rw [hd] at q; cases q⟩
  keep := fun i h h' st k => let ⟨⟨old, he⟩, hi, hne⟩ := st; ⟨⟨old, k e (by simp) _ he⟩, hi.at fun o q => k it (by simp) o q, hne⟩
  item := by
    intro X hP hw hK hc i pins s σ H E I hf st hg
    subst hP hw hK
    obtain ⟨⟨old, he⟩, hit, hne, hai, hae⟩ := st
    obtain ⟨xs, x, hq, hx⟩ := hg
    obtain ⟨its, rv, p, _⟩ := I.tuple hq
    obtain ⟨u, hu, ru⟩ := rv.get hx
    have hel : e < s.heap.objs.size := Heap.lt_size he
    have hil : it < s.heap.objs.size := by obtain ⟨_, q, _⟩ := hit; exact Heap.lt_size q
    have p' : s.heap.IsTuple a its.toArray := p
    have hh : X.A.in1.handled = none := I.ok.hd hc
    have hlt : i < its.toArray.size := by
      have := (List.getElem?_eq_some_iff.mp hu).1
      simpa using this
    refine wpAny_pyNext_enum_itemD (Draws.tuple hh it a hai its.toArray) he ⟨hit, p'⟩ hlt hne (by simp [hne, Ne.symm hae]) fun x' h' tk hP' ho hst' hT hsz hk => ?_
    have hx' : x' = u := by
      have h1 : its.toArray[i]? = some u := by simpa using hu
      rw [h1] at hP'
      exact (Option.some.inj hP').symm
    subst hx'
    refine ⟨_, rfl, wpAny_letOwnedTupleGo_enum (s := { s with heap := h', toks := tk + 1 }) ho fun h'' he' sb => ?_⟩
    have hT2 : h''.get? s.heap.objs.size = some { cls := .type "tuple", data := .seq #[.int i tk, x'] } := (sb.2 _ (Nat.ne_of_gt hel)).trans hT
    have new : ObjOk X.prog X.w (upd H s.heap.objs.size (.tup [.int (i : Nat), x])) h'' s.heap.objs.size (.tup [.int (i : Nat), x]) :=
      ⟨by show 2 ≤ sizeLine; decide, [.int i tk, x'], .cons ⟨_, rfl⟩ (.cons ru .nil), ⟨_, hT2, rfl, _, rfl⟩⟩
    have I1 : Inv X pins σ (upd H s.heap.objs.size (.tup [.int (i : Nat), x])) { s with heap := h'', toks := tk + 1 } :=
      I.turnedNew (ch := [e, it]) (fun b ob hb q => (sb.2 b (fun z => hb (by simp [z]))).trans (hk b ob (fun z => hb (by simp [z])) (fun z => hb (by simp [z])) q)) hf (Nat.le_refl _) new
    refine ⟨.ref s.heap.objs.size, _, I1, rfl, ⟨_, x, rfl, I.hok.fresh (Nat.le_refl _), rfl, fun ys hy => by rw [I.tuple_inj hy hq]; exact hx⟩, ⟨⟨x', ?_⟩, hst'.1.at fun o q => (sb.2 it (Ne.symm hne)).trans q, hne, hai, hae⟩, fun b hb => ?_⟩
    · have e1 : ((i + 1 : Nat) : Int) = (i : Int) + 1 := by omega
      rw [e1]; exact he'
    · have hb' : b < s.heap.objs.size := by
        have e' : b = e ∨ b = it := by simpa using hb
        rcases e' with z | z
        · rw [z]; exact hel
        · rw [z]; exact hil
      rw [upd_ne (Nat.ne_of_lt hb')]
      exact (hf b hb).1
  done := by
    intro X hP hw hK hc i pins s σ H E I hf st hg
    subst hP hw hK
    obtain ⟨⟨old, he⟩, hit, hne, hai, hae⟩ := st
    obtain ⟨xs, hq, hx⟩ := hg
    obtain ⟨its, rv, p, _⟩ := I.tuple hq
    obtain ⟨f0, f1, f2, f3, f4, f5⟩ := hf it (by simp)
    have hl := rv.length
    have p' : s.heap.IsTuple a its.toArray := p
    have hh : X.A.in1.handled = none := I.ok.hd hc
    have hT : s.TypeIs (.ref e) "enumerate" := ⟨_, he, rfl⟩
    unfold pyNext
    refine wpAny_bind (wpAny_attempt (wpAny_callSpecial?_slot (name := Str.ofString "__next__") hT F.slot_enumerate_next
      (wpAny_call_entry F.slot_enumerate_next hT F.entry_enumerate_next ?_ (F.args_enumerate_next_1 _))))
    show wpAny _ _ (field (.ref e) 2 >>= _) _ _ _
    refine wpAny_bind (wpAny_field he rfl (x := .ref it) rfl ?_)
    refine wpAny_bind (RZ.nextOf_tuple_end hh hit p' (by simp; omega) fun h' x he' hx' => ?_)
    obtain ⟨o, ho, hc'⟩ := hx'
    refine wpAny_bind (wpAny_isInstance (T := "StopIteration") (b := true) ⟨o, ho, hc'⟩ isSubtype_stop ?_)
    exact wpAny_pure ⟨rfl, I.turned (t' := s.toks) (fun b o hb q => he' b o hb q) f0 f1 f3 f4 f5⟩
  self := fun A i s Q E st h => let ⟨⟨_, he⟩, _⟩ := st; wpAny_pyIter_enum he h
def iEnumA (K : PySem.W.Frag) (ta : TA) : TI := fun σ H R => ta σ H fun vs H1 => ∃ a xs, vs = [.ref a] ∧ ((SqL K H1 a xs ∧ R (Ite K a) H1) ∨ (SqT K H1 a xs ∧ R (IteT K a) H1))
theorem pi_enumA {X : Cx} {e : Expr} {ta : TA} {p pos tpos : Pos} {elts : List Expr} {kk : Nat} (hg : Gl X "enumerate") (hm : X.mg "enumerate" = none) (ha : PA X [e] ta) (hs : starEach [e] X.env = [(false, eval e X.env)] := by rfl) :
    PI X (.Tuple elts kk tpos) (.Call (.Name "enumerate" p) [e] [] pos) (iEnumA X.K ta) := by
  refine ⟨fun pins s σ H R I h => ?_⟩
  refine Call_ (ld_blt I hg hm boot_enumerate (PyProof.Rows.callWith_type1 (thn (ha.run pos pins s σ H _ I h) fun us s1 ⟨vs, H1, I1, r1, q1⟩ => ?_) hs rfl))
  obtain ⟨a, xs, ex, q⟩ := q1
  subst ex
  cases r1 with
  | cons r rr =>
    cases rr
    cases r
    have fp : ∀ b, b ∈ [s1.heap.objs.size + 1, s1.heap.objs.size] → FpOk X pins H1 b := fun b hb => by
      have e' : b = s1.heap.objs.size + 1 ∨ b = s1.heap.objs.size := by simpa using hb
      have hle : s1.heap.objs.size ≤ b := by
        rcases e' with z | z
        · rw [z]; exact Nat.le_add_right _ _
        · rw [z]; exact Nat.le_refl _
      exact I1.fpOk hle (I1.hok.fresh hle)
    rcases q with ⟨hq, q⟩ | ⟨hq, q⟩
    · obtain ⟨its, rv, p', hz⟩ := I1.list hq
      refine call_enumerate_list p'.isList fun h' he hit hsz hk => wpAny_pyIter_enum he ?_
      have I2 : Inv X pins σ H1 { s1 with heap := h' } := I1.kept (t' := s1.toks) hk
      exact ⟨s1.heap.objs.size + 1, [s1.heap.objs.size + 1, s1.heap.objs.size], _, _, H1, rfl, I2, turn_enum a (s1.heap.objs.size + 1) s1.heap.objs.size, ⟨⟨.none, he⟩, hit, Nat.succ_ne_self _⟩, fp, q⟩
    · obtain ⟨its, rv, p', _⟩ := I1.tuple hq
      obtain ⟨o1, ho1, _⟩ := id p'
      have hlt := Heap.lt_size ho1
      refine call_enumerate_tuple (show s1.heap.IsTuple a its.toArray from p') fun h' he hit hsz hk => wpAny_pyIter_enum he ?_
      have I2 : Inv X pins σ H1 { s1 with heap := h' } := I1.kept (t' := s1.toks) hk
      exact ⟨s1.heap.objs.size + 1, [s1.heap.objs.size + 1, s1.heap.objs.size], _, _, H1, rfl, I2, turn_enumT a (s1.heap.objs.size + 1) s1.heap.objs.size, ⟨⟨.none, he⟩, hit, Nat.succ_ne_self _, Nat.ne_of_lt hlt, Nat.ne_of_lt (Nat.lt_succ_of_lt hlt)⟩, fp, q⟩
end RN
namespace Mp
open PySem PySem.Spec L2
section
variable {X : Cx} {W : WX} {e : Expr} {ma : MA} {p pos tpos : Pos}
theorem i_enumA {elts : List Expr} {kk : Nat} (hg : Gl X "enumerate") (hm : X.mg "enumerate" = none) (ha : PAm X W [e] ma) (hs : starEach [e] X.env = [(false, eval e X.env)] := by rfl) : PIm X W (.Tuple elts kk tpos) (.Call (.Name "enumerate" p) [e] [] pos) (Mp.iEnum ma) :=
  PI.imp (RN.pi_enumA hg hm ha hs) fun σ H R h => TAm.bindI (mi := Mp.iEnum ma) h fun ρ1 S1 vs us H1 s1 v h => by
    unfold enumOf at h
    split at h
    · rename_i x
      obtain ⟨u, rfl, r1⟩ := v.one
      split at h
      · rename_i b1 xs k1 e1
        obtain ⟨ad, ua, rfl, g1, g2, g3⟩ := seq_of s1 r1 e1
        cases b1 with
        | true =>
          refine ⟨ad, ua, rfl, .inl ⟨g1, Post.here (rel := ItR X.K X.mg) s1 h fun ρ S H e s ks i => ?_⟩⟩
          obtain ⟨us1, c1, c2⟩ := g3 ρ S H e s ks
          refine ⟨fun z hz => ?_, fun hz => ?_⟩
          · obtain ⟨x', hx, rfl⟩ := enumL_get hz
            obtain ⟨u1, hu1, ru1⟩ := c2.get hx
            refine ⟨⟨us1, u1, c1, hu1⟩, fun u H' yl => ?_⟩
            obtain ⟨T, a1, eu, hT, eH, y1⟩ := yl
            subst eu eH
            have z1 := y1 us1 c1
            rw [hu1] at z1
            cases z1
            exact pair_new s hT (by simp [VR]) ru1
          · refine ⟨us1, c1, ?_⟩
            have := List.getElem?_eq_none_iff.mp hz
            simp [enumL] at this
            rw [← c2.length]
            omega
        | false =>
          refine ⟨ad, ua, rfl, .inr ⟨g1, Post.here (rel := ItR X.K X.mg) s1 h fun ρ S H e s ks i => ?_⟩⟩
          obtain ⟨us1, c1, c2⟩ := g3 ρ S H e s ks
          refine ⟨fun z hz => ?_, fun hz => ?_⟩
          · obtain ⟨x', hx, rfl⟩ := enumL_get hz
            obtain ⟨u1, hu1, ru1⟩ := c2.get hx
            refine ⟨⟨us1, u1, c1, hu1⟩, fun u H' yl => ?_⟩
            obtain ⟨T, a1, eu, hT, eH, y1⟩ := yl
            subst eu eH
            have z1 := y1 us1 c1
            rw [hu1] at z1
            cases z1
            exact pair_new s hT (by simp [VR]) ru1
          · refine ⟨us1, c1, ?_⟩
            have := List.getElem?_eq_none_iff.mp hz
            simp [enumL] at this
            rw [← c2.length]
            omega
      · exact h.elim
    · exact h.elim
end
end Mp

/-! MpA: o[i] op= e, o a list or a dict; further small rules. -/
namespace Mp
open PySem PySem.Spec L2
section
variable {X : Cx} {W : WX} {e o i : Expr} {m mo mi : ME} {pos tpos : Pos}
/-- a read of a list or dict -/
def pIxM : P2 := fun x y S => match x with
  | .ref a => pIx (.ref a) y S
  | _ => .bad
theorem get_list : PGet X (rIxL X.K) := by
  intro pins s σ H x y v u Q I rx ry h
  obtain ⟨p, xs, i, z, rfl, rfl, hq, he, q⟩ := h
  cases rx
  obtain ⟨t, rfl⟩ := ry
  obtain ⟨its, r, pl, hz⟩ := I.list hq
  obtain ⟨j, h1, h2, h3, h4, h5⟩ := atI_get he
  obtain ⟨w, ew, rw'⟩ := r.get h2
  have hl := r.length
  have hn := line63
  have fin : EP X pins σ Q w s := ⟨z, H, I, rw', q⟩
  by_cases h0 : 0 ≤ i
  · have hj : i.toNat = j := by
      rw [seqIndex_of h0 h5] at h1
      exact Option.some.inj h1
    exact wpAny_getItem_list pl.isList h0 (by omega) (by rw [hj]; simpa using ew) fin
  · have hj : (i + (its.toArray.size : Int)).toNat = j := by
      rw [seqIndex_neg (by omega) h4] at h1
      rw [List.size_toArray, ← hl]
      exact Option.some.inj h1
    exact wpAny_getItem_list_neg pl.isList (by omega) (by rw [List.size_toArray] <;> omega) (by omega) (by rw [hj]; simpa using ew) fin
theorem get_dict (hu : X.A.units + 1 < cLine) : PGet X rIxD := by
  intro pins s σ H x y v u Q I rx ry h
  obtain ⟨a, w, rfl, g, q⟩ := h
  obtain rfl : v = Value.ref a := rx
  exact d_getItem hu I g ry fun w' s' I' r' => ⟨w, H, I', r', q⟩
theorem ixM_of {u w : V} {H : Hp} {Q : VK} (h : rP2 X pIxM u w H Q) : rIxL X.K u w H Q ∨ rIxD u w H Q := by
  obtain ⟨ρ, S, x, y, s, v1, v2, h⟩ := h
  unfold pIxM at h
  split at h
  · rename_i a
    simp only [VR] at v1
    obtain ⟨ha, rfl⟩ := v1
    unfold pIx at h
    split at h
    · rename_i e; cases e
    · rename_i e; cases e
    · rename_i e; cases e
    · rename_i a' i e
      cases e
      simp only [VR] at v2
      subst v2
      split at h
      · rename_i vs q
        split at h
        · rename_i v hv
          obtain ⟨us, g1, g2⟩ := s.lst q
          obtain ⟨u', h1, h2⟩ := atI_rel g2 hv
          exact .inl ⟨_, us, i, u', rfl, rfl, SqL.of g1, h1, Post.here (rel := relV X.K) s h h2⟩
        · exact h.elim
      · rename_i kvs q
        split at h
        · rename_i v hv
          obtain ⟨u', h1, h2⟩ := dk_get s q hv
          exact .inr ⟨_, u', rfl, h1, Post.here (rel := relV X.K) s h h2⟩
        · exact h.elim
      · exact h.elim
    · rename_i a' i e
      cases e
      simp only [VR] at v2
      subst v2
      split at h
      · rename_i kvs q
        split at h
        · rename_i v hv
          obtain ⟨u', h1, h2⟩ := dk_get s q hv
          exact .inr ⟨_, u', rfl, h1, Post.here (rel := relV X.K) s h h2⟩
        · exact h.elim
      · exact h.elim
    · rename_i a' ks e
      cases e
      split at h
      · rename_i kvs q
        split at h
        · rename_i k hk
          split at h
          · rename_i v hv
            obtain ⟨b, rfl, hb⟩ := tkey_of v2 hk
            obtain ⟨us, g1, g2⟩ := s.ob a _ q
            have lk := valV_lookup (k := k) g2
            rw [hv] at lk
            cases hv' : valV us k with
            | none => rw [hv'] at lk; exact lk.elim
            | some u' =>
              rw [hv'] at lk
              exact .inr ⟨_, u', rfl, by rw [← hv']; exact DGet.t g1 hb, Post.here (rel := relV X.K) s h lk⟩
          · exact h.elim
        · exact h.elim
      · exact h.elim
    · exact h.elim
  · exact h.elim
theorem get_any (hu : X.A.units + 1 < cLine) : PGet X (rP2 X pIxM) := fun pins s σ H x y v u Q I rx ry h => by
  rcases ixM_of h with h | h
  · exact get_list pins s σ H _ _ v u Q I rx ry h
  · exact get_dict hu pins s σ H _ _ v u Q I rx ry h
theorem s_subAug {op : Operator} {p : P2} (hu : X.A.units + 1 < cLine) (ho : PEm X W o mo) (hi : PEm X W i mi) (he : PEm X W e m) (hp : OpS X (inplaceOp op) p)
    (ha : ∀ ov iv new, augStore i ov iv new = (do holding [new, ov, iv] (setItem ov iv new); release [new, ov, iv] []; pure .next) := by intros; rfl) :
    PSm X W (.AugAssign (.Subscript o i tpos) op e pos) (Mp.sSubAug mo mi m pIxM p pSet) :=
  PS.imp (ps_augS ho hi (get_any hu) he (fun pins s σ H x y v u Q I r1 r2 q => hp pins s σ H x y v u Q I r1 r2 q) (st_set hu) ha) fun D σ H ⟨ρ, S, L, s, l, h⟩ =>
    TEm.then s l h fun ρ1 S1 x u H1 s1 l1 e1 v1 h => TEm.then s1 l1 h fun ρ2 S2 y w H2 s2 l2 e2 v2 h => by
      have h := PostF.quiet (rel := relV X.K) (σ := σ) h
      refine ⟨ρ2, S2, x, y, s2, VR.ext s1 e2 _ _ v1, v2, h.sig.mono ?_⟩
      rintro z H3 ⟨ρ3, S3, z', _, e3, s3, v3, h⟩
      have l3 := l2.ext s2 e3
      refine TEm.then s3 l3 h fun ρ4 S4 u' q H4 s4 l4 e4 v4 h => ?_
      have h := PostF.quiet (rel := relV X.K) (σ := σ) h
      refine ⟨ρ4, S4, z', u', s4, VR.ext s3 e4 _ _ v3, v4, h.sig.mono ?_⟩
      rintro t H5 ⟨ρ5, S5, t', _, e5, s5, v5, h⟩
      have h := PostF.quiet (rel := fun _ _ _ (_ : Unit) (_ : Unit) => True) (σ := σ) h
      have w1 := VR.ext s4 e5 _ _ (VR.ext s3 e4 _ _ (VR.ext s2 e3 _ _ (VR.ext s1 e2 _ _ v1)))
      have w2 := VR.ext s4 e5 _ _ (VR.ext s3 e4 _ _ (VR.ext s2 e3 _ _ v2))
      refine ⟨ρ5, S5, x, y, t', s5, w1, w2, v5, h.sig.mono ?_⟩
      rintro _ H6 ⟨ρ6, S6, _, _, e6, s6, _, h⟩
      exact PostF.nxHere s6 ((l4.ext s4 e5).ext s5 e6) h
@[simp] theorem sSubAug_app {L : Loc} {S : Store} (o i e : ME) (g p : P2) (q : Val → Val → Val → Store → R Unit) : Mp.sSubAug o i e g p q L S = thenF L (o L S) fun x S1 => thenF L (i L S1) fun y S2 => thenF L (noExn (g x y S2)) fun z S3 => thenF L (e L S3) fun u S4 =>
  thenF L (noExn (p z u S4)) fun t S5 => thenF L (noExn (q x y t S5)) fun _ S6 => .nx L S6 := rfl
@[simp] theorem pIxM_ref {S : Store} (a : Nat) (y : Val) : pIxM (.ref a) y S = pIx (.ref a) y S := rfl
end
theorem relabel_lookup {env : Env} : ∀ {names : List (Str × NameKind)} {x : Str}, (names.lookup x = some .cell ∨ names.lookup x = some .free) →
    ((names.map fun (n, k) => if (k == NameKind.free && env.scope.kind == .function && env.kindOf n == some .cell) then (n, NameKind.cell) else (n, k)).lookup x = some .cell ∨
     (names.map fun (n, k) => if (k == NameKind.free && env.scope.kind == .function && env.kindOf n == some .cell) then (n, NameKind.cell) else (n, k)).lookup x = some .free)
  | [], x, h => by simp at h
  | (n, k) :: r, x, h => by
    have ih := @relabel_lookup env r x
    rw [List.map_cons]
    rw [List.lookup_cons] at h
    by_cases q : x = n
    · subst q
      simp only [beq_self_eq_true] at h
      dsimp only
      split
      · left
        simp [List.lookup_cons]
      · rw [List.lookup_cons]
        simp only [beq_self_eq_true]
        exact h
    · have q' : (x == n) = false := by simpa using q
      rw [q'] at h
      dsimp only
      have := ih h
      split
      · rw [List.lookup_cons, q']; exact this
      · rw [List.lookup_cons, q']; exact this
/-- a comprehension within a comprehension -/
theorem blk_in {N N' : List Str} {sc outer scope : Scope} {env : Env} {own : List (Str × Nat)} (e : sc = relabel outer env) (en : N' = N) (h : blkC N outer scope own = true) : BlkOk N' sc scope own := by
  have b := blkOk_by h
  subst e en
  exact ⟨b.kind, b.uniq, b.ix, fun y hy q => relabel_lookup (b.free y hy q), b.own⟩
end Mp

/-! MpM: tuple * int, list * int, int * int. -/
namespace L2
open PySem PyProof.Rows
open AutoSeq1 (wpAny_loadPart')
theorem tuple_mul1 (l : Addr) (items : Array Value) (n : Nat) (dd : Option Addr) (sl : Array (Option Value)) (x : Int) (u : Tok) (c0 : (decide (x < -(2 ^ 63)) || decide (x ≥ 2 ^ 63)) = false) (c1 : (items.isEmpty || x == 1) = true) :
    Meets (Builtin.«tuple.__mul__» ⟨[.ref l, .int x u], []⟩) (fun _ R s => s.heap.get? l = some { cls := .type "tuple", dict := dd, data := .seq items n, slots := sl } ∧ R (.ok (.ret (Value.ref l))) s) :=
  .of_wp fun prog w A R s h => by
    obtain ⟨hp, g, d, tk, os⟩ := s
    obtain ⟨hl, h⟩ := h
    have f1 := AutoSeq1.idx_int
    wp_walk using wpAny_loadPart' hl
    repeat (first
      | (refine wpAny_ite_false (decide_eq_false (by rw [c0]; exact Bool.false_ne_true)) ?_; wp_walk using wpAny_loadPart' hl)
      | (refine wpAny_ite_true (decide_eq_true (by rw [c1])) ?_; wp_walk using wpAny_loadPart' hl))
    exact ⟨_, rfl, h⟩
theorem tuple_mul0 (l : Addr) (items : Array Value) (n : Nat) (dd : Option Addr) (sl : Array (Option Value)) (x : Int) (u : Tok) (c0 : (decide (x < -(2 ^ 63)) || decide (x ≥ 2 ^ 63)) = false) (c1 : (items.isEmpty || x == 1) = false) (c2 : (decide (x ≤ 0) || items.isEmpty) = true) :
    Meets (Builtin.«tuple.__mul__» ⟨[.ref l, .int x u], []⟩) (fun _ R s => s.heap.get? l = some { cls := .type "tuple", dict := dd, data := .seq items n, slots := sl } ∧
      R (.ok (.ret (Value.ref s.heap.objs.size))) { s with heap := s.heap.push { cls := Value.type "tuple", data := Data.seq #[] }, toks := s.toks }) :=
  .of_wp fun prog w A R s h => by
    obtain ⟨hp, g, d, tk, os⟩ := s
    obtain ⟨hl, h⟩ := h
    have f1 := AutoSeq1.idx_int
    wp_walk using wpAny_loadPart' hl
    repeat (first
      | (refine wpAny_ite_false (decide_eq_false (by rw [c0]; exact Bool.false_ne_true)) ?_; wp_walk using wpAny_loadPart' hl)
      | (refine wpAny_ite_false (decide_eq_false (by rw [c1]; exact Bool.false_ne_true)) ?_; wp_walk using wpAny_loadPart' hl)
      | (refine wpAny_ite_true (decide_eq_true (by rw [c2])) ?_; wp_walk using wpAny_loadPart' hl))
    exact ⟨_, rfl, h⟩
def rRep1 (K : PySem.W.Frag) : R2 := fun x y H Q => ∃ l k xs, x = .ref l ∧ y = .int k ∧ SqT K H l xs ∧ (xs = [] ∨ k = 1) ∧ -1000 ≤ k ∧ k ≤ 1000 ∧ Q (.ref l) H
def rRep0 (K : PySem.W.Frag) : R2 := fun x y H Q => ∃ l k xs, x = .ref l ∧ y = .int k ∧ SqT K H l xs ∧ xs ≠ [] ∧ -1000 ≤ k ∧ k ≤ 0 ∧ ∀ p, H p = none → Q (.ref p) (upd H p (.tup []))
section
variable {X : Cx}
theorem op_rep1 : OpR X (binaryOp .Mult) (rRep1 X.K) := by
  intro pins s σ H x y v u Q I rx ry h
  obtain ⟨l, k, xs, rfl, rfl, hT, hne, h1, h2, q⟩ := h
  cases rx
  obtain ⟨t, rfl⟩ := ry
  obtain ⟨its, r, ⟨⟨cls, dd, data, sl⟩, ho, hc, n, hd⟩, hs⟩ := I.tuple hT
  simp only at hc hd
  subst hc hd
  have hle : its.length = xs.length := r.length.symm
  have c0 : (decide (k < -(2 ^ 63)) || decide (k ≥ 2 ^ 63)) = false := by
    rw [decide_eq_false (by omega), decide_eq_false (by omega)] <;> rfl
  have c1 : (its.toArray.isEmpty || k == 1) = true := by
    rcases hne with e | e
    · subst e
      have : its = [] := List.eq_nil_of_length_eq_zero (by rw [hle]; rfl)
      subst this
      rfl
    · subst e
      simp
  refine wpAny_binaryOp_repeat_ref (T := "tuple") (U := "int") (by decide) ⟨_, ho, rfl⟩ (fun s' => typeIs_int s' k t) noFill_tuple_mul F.fills_int_mul F.slot_int_rmul repeat_tuple F.slot_int_index.lookup
    (call_meets F.slot_int_rmul (typeIs_int s k t) F.entry_int_rmul (F.args_int_rmul_2 _ _) (int_rmul_tuple k t l its.toArray n dd sl)
      ⟨ho, rfl, ⟨_, ho, rfl⟩, call_meets F.slot_tuple_mul ⟨_, ho, rfl⟩ F.entry_tuple_mul (F.args_tuple_mul_2 _ _) (tuple_mul1 l its.toArray n dd sl k t c0 c1) ⟨ho, ?_⟩⟩)
  exact ⟨.ref l, H, I, rfl, q⟩
theorem op_rep0 : OpR X (binaryOp .Mult) (rRep0 X.K) := by
  intro pins s σ H x y v u Q I rx ry h
  obtain ⟨l, k, xs, rfl, rfl, hT, hne, h1, h2, q⟩ := h
  cases rx
  obtain ⟨t, rfl⟩ := ry
  obtain ⟨its, r, ⟨⟨cls, dd, data, sl⟩, ho, hc, n, hd⟩, hs⟩ := I.tuple hT
  simp only at hc hd
  subst hc hd
  have hle : its.length = xs.length := r.length.symm
  have hi : its.toArray.isEmpty = false := by
    cases its with
    | nil => exact absurd (List.eq_nil_of_length_eq_zero hle.symm) hne
    | cons a b => rfl
  have c0 : (decide (k < -(2 ^ 63)) || decide (k ≥ 2 ^ 63)) = false := by
    rw [decide_eq_false (by omega), decide_eq_false (by omega)] <;> rfl
  have c1 : (its.toArray.isEmpty || k == 1) = false := by
    rw [hi, Bool.false_or]
    exact beq_eq_false_iff_ne.mpr (by omega)
  have c2 : (decide (k ≤ 0) || its.toArray.isEmpty) = true := by
    rw [decide_eq_true h2]; rfl
  refine wpAny_binaryOp_repeat_ref (T := "tuple") (U := "int") (by decide) ⟨_, ho, rfl⟩ (fun s' => typeIs_int s' k t) noFill_tuple_mul F.fills_int_mul F.slot_int_rmul repeat_tuple F.slot_int_index.lookup
    (call_meets F.slot_int_rmul (typeIs_int s k t) F.entry_int_rmul (F.args_int_rmul_2 _ _) (int_rmul_tuple k t l its.toArray n dd sl)
      ⟨ho, rfl, ⟨_, ho, rfl⟩, call_meets F.slot_tuple_mul ⟨_, ho, rfl⟩ F.entry_tuple_mul (F.args_tuple_mul_2 _ _) (tuple_mul0 l its.toArray n dd sl k t c0 c1 c2) ⟨ho, ?_⟩⟩)
  refine ⟨.ref s.heap.objs.size, _, I.laid (t' := s.toks) (o := .tup []) (fun b ob q => Heap.get?_push_of_some _ q) (Nat.le_refl _) ?_, rfl, q _ (I.hok.fresh (Nat.le_refl _))⟩
  exact ⟨Nat.zero_le _, [], .nil, IsTup.new _ _⟩
end
end L2
namespace Mp
open PySem PySem.Spec L2
section
variable {X : Cx} {W : WX}
noncomputable def pMul : P2 := fun x y S => match x, y with
  | .int i, .int j => bite (cmul i j) (.ok (.int (i * j)) S) .bad
  | .tup vs, .int k => bite (decide (-1000 ≤ k) && decide (k ≤ 1000) && decide (vs.length ≤ 1000)) (.ok (.tup (List.replicate k.toNat vs).flatten) S) .bad
  | .ref a, .int k => match S[a]? with
    | some (.lst vs) => bite (decide (-1000 ≤ k) && decide (k ≤ 1000) && decide (vs.length ≤ 1000)) (newL (List.replicate k.toNat vs).flatten S) .bad
    | _ => .bad
  | _, _ => .bad
theorem pMul_of {u w : V} {H : Hp} {Q : VK} (h : rP2 X pMul u w H Q) : (rI CMul (fun i j => .int (i * j))) u w H Q ∨ rRep u w H Q ∨ rRepT X.K u w H Q ∨ rRep1 X.K u w H Q ∨ rRep0 X.K u w H Q := by
  obtain ⟨ρ, S, x, y, s, v1, v2, h⟩ := h
  unfold pMul at h
  split at h
  · rename_i i j
    cases hc : cmul i j with
    | false => rw [hc] at h; exact h.elim
    | true =>
      rw [hc] at h
      exact .inl ⟨i, j, by simpa [VR] using v1, by simpa [VR] using v2, cmul_of hc, Post.here (rel := relV X.K) s h (by simp [relV, VR])⟩
  · rename_i vs k
    cases hc : (decide (-1000 ≤ k) && decide (k ≤ 1000) && decide (vs.length ≤ 1000)) with
    | false => rw [hc] at h; exact h.elim
    | true =>
      rw [hc, bite_true] at h
      simp only [Bool.and_eq_true, decide_eq_true_eq] at hc
      obtain ⟨⟨h1, h2⟩, h3⟩ := hc
      have v1' := v1
      simp only [VR] at v1' v2
      obtain ⟨p, xs, rfl, q1, r1⟩ := v1'
      have hl := r1.length
      by_cases hn : xs = []
      · have hv : vs = [] := by
          rw [hn] at hl
          exact List.eq_nil_of_length_eq_zero hl
        subst hv
        have e : (List.replicate k.toNat ([] : List Val)).flatten = [] := by simp
        rw [e] at h
        exact .inr (.inr (.inr (.inl ⟨p, k, xs, rfl, v2, q1.sq, .inl hn, h1, h2, Post.here (rel := relV X.K) s h v1⟩)))
      · by_cases hk1 : k = 1
        · subst hk1
          have e : (List.replicate (1 : Int).toNat vs).flatten = vs := by simp
          rw [e] at h
          exact .inr (.inr (.inr (.inl ⟨p, 1, xs, rfl, v2, q1.sq, .inr rfl, h1, h2, Post.here (rel := relV X.K) s h v1⟩)))
        · by_cases hk0 : k ≤ 0
          · have e : (List.replicate k.toNat vs).flatten = [] := by
              have : k.toNat = 0 := by omega
              rw [this]; rfl
            rw [e] at h
            exact .inr (.inr (.inr (.inr ⟨p, k, xs, rfl, v2, q1.sq, hn, h1, hk0, tup_new s h VRs.nil⟩)))
          · exact .inr (.inr (.inl ⟨p, k, xs, rfl, v2, q1.sq, hn, by omega, h2, by omega, tup_new s h (r1.rep k.toNat)⟩))
  · rename_i a k
    split at h
    · rename_i vs q
      cases hc : (decide (-1000 ≤ k) && decide (k ≤ 1000) && decide (vs.length ≤ 1000)) with
      | false => rw [hc] at h; exact h.elim
      | true =>
        rw [hc, bite_true] at h
        simp only [Bool.and_eq_true, decide_eq_true_eq] at hc
        obtain ⟨⟨h1, h2⟩, h3⟩ := hc
        simp only [VR] at v1 v2
        obtain ⟨ha, rfl⟩ := v1
        obtain ⟨us, g1, g2⟩ := s.lst q
        have hl := g2.length
        refine .inr (.inl ⟨ρ a, k, us, rfl, v2, g1, by omega, by omega, ?_, lst_new s h (g2.rep k.toNat)⟩)
        rw [← hl, sizeLine_eq]
        have a1 : vs.length * k.toNat ≤ 1000 * 1000 := Nat.mul_le_mul (by omega) (by omega)
        omega
    · exact h.elim
  · exact h.elim
theorem o_mul : OpS X (binaryOp .Mult) pMul := OpR.imp (op_mul.or (op_rep.or (op_repT.or (op_rep1.or op_rep0)))) fun _ _ _ _ h => pMul_of h
@[simp] theorem pMul_int {S : Store} (i j : Int) : pMul (.int i) (.int j) S = bite (cmul i j) (.ok (.int (i * j)) S) .bad := rfl
@[simp] theorem pMul_tup {S : Store} (vs : List Val) (k : Int) : pMul (.tup vs) (.int k) S = bite (decide (-1000 ≤ k) && decide (k ≤ 1000) && decide (vs.length ≤ 1000)) (.ok (.tup (List.replicate k.toNat vs).flatten) S) .bad := rfl
def mulR (o : Option Ob) (k : Int) (S : Store) : R Val := match o with
  | some (.lst vs) => bite (decide (-1000 ≤ k) && decide (k ≤ 1000) && decide (vs.length ≤ 1000)) (newL (List.replicate k.toNat vs).flatten S) .bad
  | _ => .bad
@[simp] theorem mulR_some {S : Store} (vs : List Val) (k : Int) : mulR (some (.lst vs)) k S = bite (decide (-1000 ≤ k) && decide (k ≤ 1000) && decide (vs.length ≤ 1000)) (newL (List.replicate k.toNat vs).flatten S) .bad := rfl
@[simp] theorem pMul_ref {S : Store} (a : Nat) (k : Int) : pMul (.ref a) (.int k) S = mulR (sg S a) k S := by
  show _ = mulR S[a]? k S
  simp only [pMul]
  unfold mulR
  cases S[a]? with
  | none => rfl
  | some o => cases o <;> rfl
end
end Mp

/-! MpU: sum of a list or a tuple; any of a list. -/
namespace Mp
open PySem PySem.Spec L2
section
variable {X : Cx} {W : WX}
open PyProof.Rows in
theorem sumT_raw {prog : Program} {w : World} {A : Around} {E : Value → Shared → Prop} {s : Shared} {l : Addr} {its : List Value} {ns : List Int} {Q : Value → Shared → Prop} (hh : A.handled = none) (hl : s.heap.IsTuple l its.toArray) (hi : PyProof.Rows.IntsAre its ns)
    (h : ∀ h' tk t', (∀ b o, s.heap.get? b = some o → h'.get? b = some o) → Q (.int ns.sum t') { s with heap := h', toks := tk }) : wpAny (model prog w) A (call (.builtin "sum") [.ref l]) Q E s := by
  obtain ⟨xs, e⟩ := hi.allInts.items
  have hn : numsOf (intItems xs).toList = ns := by rw [← e]; exact hi.numsOf
  rw [nums_intItems] at hn
  rw [e] at hl
  have key : wpAny (model prog w) A (call (.builtin "sum") [.ref l]) (fun v s' => ∃ h' tk t', v = .int (preSum (numAt xs) xs.size) t' ∧ s' = { s with heap := h', toks := tk } ∧ (∀ b o, s.heap.get? b = some o → h'.get? b = some o)) E s := by
    refine call_sum_walkG (iter_tups hl fun s₂ e st hfp hlI => ?_)
    subst e
    refine ⟨_, _, _, _, _, _, numAt xs, rfl, Walks.tuple (A := A.in1) hh _ l hlI (intItems xs), st, hfp, (fun _ _ => intItems_at), fun h' tk t' hk => ?_⟩
    refine ⟨h', tk, t', by simp [intItems], rfl, fun b o e => hk b o (fun hm => ?_) (Heap.get?_push_of_some _ e)⟩
    have eb : b = s.heap.objs.size := by simpa using hm
    rw [eb] at e
    exact absurd (Heap.lt_size e) (Nat.lt_irrefl _)
  refine wpAny_mono key (fun v s' ⟨h', tk, t', e1, e2, hk⟩ => ?_) fun _ _ z => z
  subst e1 e2
  have := h h' tk t' hk
  rw [preSum_eq, List.take_of_length_le (by simp), hn]
  exact this
def rSumT (K : PySem.W.Frag) : List V → Hp → VK → Prop := fun vs H Q => ∃ (a : Addr) (ns : List Int), vs = [V.ref a] ∧ SqT K H a (ns.map V.int) ∧ Q (.int ns.sum) H
theorem cr_sumT (hc : X.calm = true) : CallR X (.builtin "sum") (rSumT X.K) := by
  intro pins s σ H vs us Q I r h
  obtain ⟨a, ns, rfl, hs, q⟩ := h
  obtain ⟨its, rv, hl, _⟩ := I.tuple hs
  rw [Vals.ref1 r]
  exact sumT_raw (I.ok.hd hc) hl rv.ints fun h' tk t' hk => ⟨.int _, H, I.kept hk, ⟨_, rfl⟩, q⟩
/-- sum(xs) of a list or a tuple of integers -/
def fSumA : Fn := one fun v S => match (itemsO v S).bind intsO with
  | some bs => .ok (.int bs.sum) S
  | none => .bad
theorem c_sumA (hc : X.calm = true) : CallR X (.builtin "sum") (rF X fSumA) := CallR.imp ((cr_sum hc).or (cr_sumT hc)) fun us H Q h => by
  replace h := one_of h
  obtain ⟨u, rfl, ρ, S, x, s, v, h⟩ := h
  dsimp only at h
  split at h
  · rename_i bs e
    obtain ⟨vs, e1, e2⟩ := Option.bind_eq_some_iff.mp e
    obtain ⟨a, us, rfl, h1, h2⟩ := items_of s v e1
    cases ints_of h2 e2
    have q := Post.here (rel := relV X.K) (a := Val.int bs.sum) (u := V.int bs.sum) s h (by simp [relV, VR])
    rcases h1 with h1 | h1
    · exact .inl ⟨a, bs, rfl, h1, q⟩
    · exact .inr ⟨a, bs, rfl, h1, q⟩
  · exact h.elim
@[simp] theorem fSumA_ref {S : Store} (a : Nat) : fSumA [.ref a] S = intsR ((itemsR (sg S a)).bind intsO) fun bs => .ok (.int bs.sum) S := by
  unfold fSumA one
  dsimp only
  rw [itemsO_ref]
  cases (itemsR (sg S a)).bind intsO <;> rfl
@[simp] theorem fSumA_tup {S : Store} (vs : List Val) : fSumA [.tup vs] S = intsR (intsO vs) fun bs => .ok (.int bs.sum) S := by
  unfold fSumA one
  dsimp only
  show (match (some vs).bind intsO with
    | some bs => R.ok (Val.int bs.sum) S
    | none => .bad) = _
  simp only [Option.bind_some]
  cases intsO vs <;> rfl
/-- any(xs) of a list of flags -/
def fAny : Fn := one fun v S => match (lstO v S).bind blsO with
  | some bs => .ok (.bl (bs.any id)) S
  | none => .bad
theorem c_any (hc : X.calm = true) : CallR X (.builtin "any") (rF X fAny) := CallR.imp (cr_any hc) fun us H Q h => by
  replace h := one_of h
  obtain ⟨u, rfl, ρ, S, x, s, v, h⟩ := h
  dsimp only at h
  split at h
  · rename_i bs e
    obtain ⟨vs, e1, e2⟩ := Option.bind_eq_some_iff.mp e
    obtain ⟨a, us, rfl, h1, h2⟩ := lst_of s v e1
    cases bls_of h2 e2
    exact ⟨a, bs, rfl, h1, Post.here (rel := relV X.K) s h (by simp [relV, VR])⟩
  · exact h.elim
def anyR (o : Option (List Bool)) (S : Store) : R Val := match o with
  | some bs => .ok (.bl (bs.any id)) S
  | none => .bad
@[simp] theorem anyR_some (bs : List Bool) (S : Store) : anyR (some bs) S = .ok (.bl (bs.any id)) S := rfl
@[simp] theorem fAny_R {S : Store} (a : Nat) : fAny [.ref a] S = anyR ((lstR (sg S a)).bind blsO) S := by
  unfold fAny one
  dsimp only
  rw [lstO_R]
  cases (lstR (sg S a)).bind blsO <;> rfl
@[simp] theorem any_map_id {α : Type} (f : α → Bool) (l : List α) : (l.map f).any id = l.any f := by rw [List.any_map]; rfl
end
end Mp

/-! Mp17: dicts with tuples as keys, texts as keys: for simp. -/
namespace Mp
open PySem (Str)
section
variable {S : Store} {a : Nat} {v : Val}
def ixTR (o : Option Ob) (k : Option (List Key)) (S : Store) : R Val := match o, k with
  | some (.dT kvs), some k => optR (valL kvs k) S
  | _, _ => .bad
@[simp] theorem ixTR_some (kvs : List (List Key × Val)) (k : List Key) : ixTR (some (.dT kvs)) (some k) S = optR (valL kvs k) S := rfl
@[simp] theorem pIx_refT (ks : List Val) : pIx (.ref a) (.tup ks) S = ixTR (sg S a) (tkey ks) S := by
  show _ = ixTR S[a]? (tkey ks) S
  simp only [pIx]
  unfold ixTR optR
  cases S[a]? with
  | none => rfl
  | some o => cases o with
    | dT kvs =>
      dsimp only
      cases tkey ks with
      | none => rfl
      | some k => dsimp only; cases valL kvs k <;> rfl
    | _ => rfl
def putTR (o : Option Ob) (a : Nat) (k : Option (List Key)) (v : Val) (S : Store) : R Unit := match o, k with
  | some (.dT kvs), some k => bite (decide (kvs.length < LIM)) (.ok () (ss S a (.dT (putL kvs k v)))) .bad
  | _, _ => .bad
@[simp] theorem putTR_some (kvs : List (List Key × Val)) (k : List Key) : putTR (some (.dT kvs)) a (some k) v S = bite (decide (kvs.length < LIM)) (.ok () (ss S a (.dT (putL kvs k v)))) .bad := rfl
@[simp] theorem pSet_refT (ks : List Val) : pSet (.ref a) (.tup ks) v S = putTR (sg S a) a (tkey ks) v S := by
  show _ = putTR S[a]? a (tkey ks) v S
  simp only [pSet]
  unfold putTR
  cases S[a]? with
  | none => rfl
  | some o => cases o with
    | dT kvs =>
      dsimp only
      cases tkey ks with
      | none => rfl
      | some k => rfl
    | _ => rfl
@[simp] theorem inKR_dT (kvs : List (List Key × Val)) (ks : List Val) (neg : Bool) : inKR (some (.dT kvs)) (.tup ks) neg S = match tkey ks with
    | some k => .ok (.bl (if neg then !(valL kvs k).isSome else (valL kvs k).isSome)) S
    | none => .bad := rfl
theorem tkey_some {ks : List Val} (h : ownC ks = false) : tkey ks = keysOf ks := by unfold tkey; rw [h]
@[simp] theorem tkey_pair (i j : Int) : tkey [.int i, .int j] = some [.inl i, .inl j] := by rw [tkey_some (ownC_pair i j)]; rfl
@[simp] theorem mDT_app (L : Loc) : mDT L S = .ok (.ref (sl S)) (sp S (.dT [])) := rfl
end
section
variable {S : Store} {L : Loc}
@[simp] theorem ixN_cast (n m : Nat) : L2.ixN n (m : Int) = if m < n then some m else none := ixN_nat n m
@[simp] theorem lookup_hit {α : Type} (a : String) (v : α) (r : List (Str × α)) : List.lookup (Str.ofString a) ((Str.ofString a, v) :: r) = some v := by simp [List.lookup_cons]
@[simp] theorem lookup_miss {α : Type} {a b : String} (h : ¬ a = b) (v : α) (r : List (Str × α)) : List.lookup (Str.ofString a) ((Str.ofString b, v) :: r) = List.lookup (Str.ofString a) r := by
  rw [List.lookup_cons]
  have : (Str.ofString a == Str.ofString b) = false := by rw [ofString_beq]; exact decide_eq_false h
  rw [this]
@[simp] theorem all_true {α : Type} (l : List α) : (l.all fun _ => true) = true := by simp
@[simp] theorem iEnum_app (a : MA) : iEnum a L S = (a L S).bind enumOf := rfl
@[simp] theorem enumOf_tup (vs : List Val) : enumOf [.tup vs] S = .ok ⟨enumL vs, fun _ => True⟩ S := rfl
def enR (o : Option Ob) (a : Nat) (S : Store) : R It := match o with
  | some (.lst vs) => .ok ⟨enumL vs, fun S' => sg S' a = some (.lst vs)⟩ S
  | _ => .bad
@[simp] theorem enR_some (vs : List Val) (a : Nat) : enR (some (.lst vs)) a S = .ok ⟨enumL vs, fun S' => sg S' a = some (.lst vs)⟩ S := rfl
@[simp] theorem enumOf_ref (a : Nat) : enumOf [.ref a] S = enR (sg S a) a S := by
  show _ = enR S[a]? a S
  unfold enumOf
  simp only [seqOf]
  unfold enR
  cases S[a]? with
  | none => rfl
  | some o => cases o <;> rfl
theorem enumL_map {α : Type} (f : α → Val) (l : List α) : enumL (l.map f) = l.zipIdx.map fun p => .tup [.int (p.2 : Nat), f p.1] := by
  unfold enumL
  apply List.ext_getElem?
  intro i
  simp only [List.getElem?_zipWith, List.getElem?_map, List.length_map, List.getElem?_zipIdx, Nat.zero_add]
  by_cases h : i < l.length
  · rw [List.getElem?_range h]
    simp [h]
  · have : l[i]? = none := List.getElem?_eq_none (by omega)
    rw [this]
    simp
theorem enumL_vals (vs : List Val) : enumL vs = vs.zipIdx.map fun p => .tup [.int (p.2 : Nat), p.1] := by
  have := enumL_map id vs
  simpa using this
end
end Mp

/-! printed by gen2.py: defs of the program as combinators -/
namespace KQ
open PySem PySem.Spec L2 Mp
noncomputable def m_is_integer : Fn := fG (fDef 1 1
    (sRet (mAnd (m1 (pIsT "int") (mV 0)) (mNot (m1 (pIsT "bool") (mV 0))))))
noncomputable def m_is_share : Fn := fG (fDef 4 1
    (sSeq (sIf (Mp.tOr (Mp.tNot (tV (m1 (pIsT "tuple") (mV 0)))) (Mp.tNot (tV (mG (mB fAll (aCons (mLc (iV (mV 0)) [1] (gN 1) tYes (mAnd (mA KQ.m_is_integer (aCons (mV 1) aNil)) (m2 pGe (mV 1) (mC (.int 0))))) aNil))))))
    (sRet (mC (.bl false)))
    sNx)
    (sSeq (sIf (Mp.tNot (tV (mG (mB fAll (aCons (mLc (iZip (aCons (mV 0) (aCons (mSl (mV 0) (oSome (mC (.int 1))) oNo) aNil))) [2, 3] (gTup (gsCons (gN 2) (gsCons (gN 3) gsNil))) tYes (m2 pLt (mV 2) (mV 3))) aNil)))))
    (sRet (mC (.bl false)))
    sNx)
    (sRet (mOr (m2 pNotIn (mC (.int 0)) (mV 0)) (m2 pEq (mB fLen (aCons (mV 0) aNil)) (mC (.int 1))))))))
noncomputable def m_added_b1 : MS := (sSeq (sExpr (mBM "dict" fDPop (mV 2) (aCons (mV 4) aNil)))
    (sAug 4 (mC (.int 1)) pSub))
noncomputable def m_added_b2 : MS := (sK [4] (sSeq (sAsg (mV 3) (gN 4))
    (sSeq (Mp.sWhile (tV (m2 pIn (mV 4) (mV 2)))
    KQ.m_added_b1)
    (sSeq (sIf (tV (m2 pLt (mV 4) (mC (.int 0))))
    (sRet (mC .non))
    sNx)
    (sAsg (mC (.bl true)) (gSub (mV 2) (mV 4) pSet))))))
noncomputable def m_added : Fn := fG (fDef 6 2
    (sSeq (sAsg (mG (mB fDict (aCons (mLc (iV (mV 0)) [3] (gN 3) tYes (mTup (aCons (mV 3) (aCons (mC (.bl true)) aNil)))) aNil))) (gN 2))
    (sSeq (Mp.sFor (iV (mV 1)) (gN 3)
    KQ.m_added_b2)
    (sSeq (sAsg (mG (mB fTuple (aCons (mB fSortD (aCons (mV 2) aNil)) aNil))) (gN 5))
    (sRet (mIf (tV (mA KQ.m_is_share (aCons (mV 5) aNil))) (mV 5) (mC .non)))))))
noncomputable def m_halved : Fn := fG (fDef 2 1
    (sRet (mG (mB fTuple (aCons (mLc (iV (mV 0)) [1] (gN 1) tYes (m2 pAdd (mV 1) (mC (.int 1)))) aNil)))))
noncomputable def m_check_share : Fn := fG (fDef 1 1
    (sIf (Mp.tNot (tV (mA KQ.m_is_share (aCons (mV 0) aNil))))
    (sRaise "NoShare" [] aNil)
    sNx))
noncomputable def m_sum_of : Fn := fG (fDef 3 2
    (sSeq (sExpr (mA KQ.m_check_share (aCons (mV 0) aNil)))
    (sSeq (sExpr (mA KQ.m_check_share (aCons (mV 1) aNil)))
    (sSeq (sAsg (mA KQ.m_added (aCons (mV 0) (aCons (mV 1) aNil))) (gN 2))
    (sSeq (sIf (tV (m2 pIs (mV 2) (mC .non)))
    (sRaise "NoShare" [] aNil)
    sNx)
    (sRet (mV 2)))))))
noncomputable def m_half : Fn := fG (fDef 1 1
    (sSeq (sExpr (mA KQ.m_check_share (aCons (mV 0) aNil)))
    (sSeq (sIf (tV (m2 pEq (mV 0) (mC (.tup []))))
    (sRaise "NoShare" [] aNil)
    sNx)
    (sRet (mA KQ.m_halved (aCons (mV 0) aNil))))))
end KQ

/-! printed by gen2.py: defs of the program as combinators -/
namespace KA
open PySem PySem.Spec L2 Mp
noncomputable def m_law_hand : Fn := (fDef 1 1
    (sRet (mLst (aCons (mB fList (aCons (mV 0) aNil)) (aCons (mC (.int 0)) (aCons (mC (.int 0)) (aCons (mC (.int 1)) (aCons (mC (.int 0)) aNil))))))))
noncomputable def m_law_take : Fn := fG (fDef 5 2
    (sSeq (sAsg (m2 pAdd (m2 pIx (mV 0) (mC (.int 4))) (mC (.int 1))) (gSub (mV 0) (mC (.int 4)) pSet))
    (sSeq (sIf (Mp.tAnd (tV (m2 pEq (m2 pIx (mV 0) (mC (.int 2))) (mC (.int 0)))) (tV (m2 pLt (m2 pIx (mV 0) (mC (.int 1))) (mB fLen (aCons (m2 pIx (mV 0) (mC (.int 0))) aNil)))))
    (sSeq (sAsg (mB fInt (aCons (m2 pIx (m2 pIx (mV 0) (mC (.int 0))) (m2 pIx (mV 0) (mC (.int 1)))) aNil)) (gN 2))
    (sSeq (sAsg (m2 pAdd (m2 pIx (mV 0) (mC (.int 1))) (mC (.int 1))) (gSub (mV 0) (mC (.int 1)) pSet))
    (sIf (tV (m2 pGe (mV 2) (m2 pPow (mC (.int 10)) (mC (.int 18)))))
    (sAsg (mV 2) (gSub (mV 0) (mC (.int 2)) pSet))
    (sAsg (m2 pMod (mB fInt (aCons (m2 pAdd (m2 pAdd (m2 pMulI (m2 pIx (mV 0) (mC (.int 3))) (mC (.int 48271))) (m2 pMod (mB fInt (aCons (mV 2) aNil)) (mC (.int 2147483647)))) (mC (.int 1))) aNil)) (mC (.int 2147483647))) (gSub (mV 0) (mC (.int 3)) pSet)))))
    sNx)
    (sSeq (sIf (tV (m2 pGt (m2 pIx (mV 0) (mC (.int 2))) (mC (.int 0))))
    (sSeq (sAsg (m2 pMod (mB fInt (aCons (m2 pIx (mV 0) (mC (.int 2))) aNil)) (mV 1)) (gN 3))
    (sSeq (sAsg (m2 pDiv (mB fInt (aCons (m2 pIx (mV 0) (mC (.int 2))) aNil)) (mV 1)) (gSub (mV 0) (mC (.int 2)) pSet))
    (sRet (mV 3))))
    sNx)
    (sSeq (sAsg (m2 pMod (mB fInt (aCons (m2 pAdd (m2 pMulI (m2 pIx (mV 0) (mC (.int 3))) (mC (.int 69621))) (m2 pMulI (mC (.int 7919)) (m2 pIx (mV 0) (mC (.int 4))))) aNil)) (mC (.int 2147483647))) (gSub (mV 0) (mC (.int 3)) pSet))
    (sSeq (sAsg (m2 pMod (mB fInt (aCons (m2 pMulI (m2 pIx (mV 0) (mC (.int 3))) (m2 pAdd (m2 pDiv (m2 pIx (mV 0) (mC (.int 3))) (mC (.int 1009))) (mC (.int 69621)))) aNil)) (mC (.int 2147483647))) (gN 4))
    (sSeq (sAsg (m2 pMod (mB fInt (aCons (m2 pMulI (mV 4) (m2 pAdd (m2 pDiv (mV 4) (mC (.int 2003))) (mC (.int 40692)))) aNil)) (mC (.int 2147483399))) (gN 4))
    (sRet (m2 pMod (mB fInt (aCons (m2 pDiv (mV 4) (mC (.int 16))) aNil)) (mV 1))))))))))
noncomputable def m_law_pick : Fn := fG (fDef 2 2
    (sRet (m2 pIx (mV 1) (mA KA.m_law_take (aCons (mV 0) (aCons (mB fLen (aCons (mV 1) aNil)) aNil))))))
noncomputable def m_law_same : Nat → Fn
  | 0 => fun _ _ => .bad
  | fu + 1 => fG (fDef 4 2
    (sSeq (sIf (tV (m2 pIs (mV 1) (mC .non)))
    (sRet (m2 pIs (mV 0) (mC .non)))
    sNx)
    (sSeq (sIf (tV (m2 pIs (mV 1) (mC (.bl true))))
    (sRet (m2 pIs (mV 0) (mC (.bl true))))
    sNx)
    (sSeq (sIf (tV (m2 pIs (mV 1) (mC (.bl false))))
    (sRet (m2 pIs (mV 0) (mC (.bl false))))
    sNx)
    (sSeq (sIf (tV (m1 (pIsT "int") (mV 1)))
    (sRet (mAnd (mA KQ.m_is_integer (aCons (mV 0) aNil)) (m2 pEq (mV 0) (mV 1))))
    sNx)
    (sSeq (sIf (tV (m1 (pIsT "str") (mV 1)))
    (sRet (mAnd (m1 (pIsT "str") (mV 0)) (m2 pEq (mV 0) (mV 1))))
    sNx)
    (sSeq (sIf (Mp.tOr (tV (m2 pNe (m1 (pIsT "tuple") (mV 1)) (m1 (pIsT "tuple") (mV 0)))) (tV (m2 pNe (m1 (pIsT "list") (mV 1)) (m1 (pIsT "list") (mV 0)))))
    (sRet (mC (.bl false)))
    sNx)
    (sSeq (sIf (tV (m2 pNe (mB fLen (aCons (mV 0) aNil)) (mB fLen (aCons (mV 1) aNil))))
    (sRet (mC (.bl false)))
    sNx)
    (sSeq (Mp.sFor (iZip (aCons (mV 0) (aCons (mV 1) aNil))) (gTup (gsCons (gN 2) (gsCons (gN 3) gsNil)))
    (sK [2, 3] (sIf (Mp.tNot (tV (mA (m_law_same fu) (aCons (mV 2) (aCons (mV 3) aNil)))))
    (sRet (mC (.bl false)))
    sNx)))
    (sRet (mC (.bl true))))))))))))
theorem m_law_same_len : ∀ (n : Nat) (vs : List Val) (S : Store), vs.length ≠ 2 → m_law_same n vs S = .bad
  | 0, _, _, _ => rfl
  | n + 1, vs, S, h => by unfold m_law_same; exact fG_len fDef_len vs S h
theorem m_law_same_succ (n : Nat) : m_law_same (n + 1) = fG (fDef 4 2
    (sSeq (sIf (tV (m2 pIs (mV 1) (mC .non)))
    (sRet (m2 pIs (mV 0) (mC .non)))
    sNx)
    (sSeq (sIf (tV (m2 pIs (mV 1) (mC (.bl true))))
    (sRet (m2 pIs (mV 0) (mC (.bl true))))
    sNx)
    (sSeq (sIf (tV (m2 pIs (mV 1) (mC (.bl false))))
    (sRet (m2 pIs (mV 0) (mC (.bl false))))
    sNx)
    (sSeq (sIf (tV (m1 (pIsT "int") (mV 1)))
    (sRet (mAnd (mA KQ.m_is_integer (aCons (mV 0) aNil)) (m2 pEq (mV 0) (mV 1))))
    sNx)
    (sSeq (sIf (tV (m1 (pIsT "str") (mV 1)))
    (sRet (mAnd (m1 (pIsT "str") (mV 0)) (m2 pEq (mV 0) (mV 1))))
    sNx)
    (sSeq (sIf (Mp.tOr (tV (m2 pNe (m1 (pIsT "tuple") (mV 1)) (m1 (pIsT "tuple") (mV 0)))) (tV (m2 pNe (m1 (pIsT "list") (mV 1)) (m1 (pIsT "list") (mV 0)))))
    (sRet (mC (.bl false)))
    sNx)
    (sSeq (sIf (tV (m2 pNe (mB fLen (aCons (mV 0) aNil)) (mB fLen (aCons (mV 1) aNil))))
    (sRet (mC (.bl false)))
    sNx)
    (sSeq (Mp.sFor (iZip (aCons (mV 0) (aCons (mV 1) aNil))) (gTup (gsCons (gN 2) (gsCons (gN 3) gsNil)))
    (sK [2, 3] (sIf (Mp.tNot (tV (mA (m_law_same n) (aCons (mV 2) (aCons (mV 3) aNil)))))
    (sRet (mC (.bl false)))
    sNx)))
    (sRet (mC (.bl true)))))))))))) := rfl
noncomputable def m_law_rules_b1 : MS := (sK [5, 6] (sSeq (sAsg (m2 pAdd (mC (.int 1)) (mA KA.m_law_take (aCons (mV 0) (aCons (mV 3) aNil)))) (gN 6))
    (sSeq (sIf (tV (m2 pEq (mA KA.m_law_take (aCons (mV 0) (aCons (mC (.int 5)) aNil))) (mC (.int 0))))
    (sAsg (mC (.int 0)) (gN 6))
    sNx)
    (sExpr (mBM "list" fAppend (mV 4) (aCons (mG (mB fTuple (aCons (mLc (iRng1 (aCons (mV 6) aNil)) [7] (gN 7) tYes (mTup (aCons (mA KA.m_law_take (aCons (mV 0) (aCons (mV 1) aNil))) (aCons (mA KA.m_law_take (aCons (mV 0) (aCons (mV 2) aNil))) aNil)))) aNil))) aNil))))))
noncomputable def m_law_rules : Fn := fG (fDef 8 4
    (sSeq (sAsg (mLst aNil) (gN 4))
    (sSeq (Mp.sFor (iRng1 (aCons (mV 2) aNil)) (gN 5)
    KA.m_law_rules_b1)
    (sRet (mB fTuple (aCons (mV 4) aNil))))))
noncomputable def m_law_some_works : Fn := fG (fDef 3 1
    (sSeq (sAsg (mG (mA KA.m_law_pick (aCons (mV 0) (aCons (mLst (aCons (mC (.int 1)) (aCons (mC (.int 2)) (aCons (mC (.int 2)) (aCons (mC (.int 3)) (aCons (mC (.int 3)) (aCons (mC (.int 4)) (aCons (mC (.int 6)) aNil)))))))) aNil)))) (gN 1))
    (sSeq (sAsg (mG (mA KA.m_law_pick (aCons (mV 0) (aCons (mLst (aCons (mC (.int 1)) (aCons (mC (.int 1)) (aCons (mC (.int 2)) (aCons (mC (.int 2)) (aCons (mC (.int 3)) (aCons (mC (.int 6)) aNil))))))) aNil)))) (gN 2))
    (sRet (mTup (aCons (mV 1) (aCons (mA KA.m_law_rules (aCons (mV 0) (aCons (mV 1) (aCons (mV 2) (aCons (mG (mA KA.m_law_pick (aCons (mV 0) (aCons (mLst (aCons (mC (.int 1)) (aCons (mC (.int 2)) (aCons (mC (.int 2)) (aCons (mC (.int 3)) (aCons (mC (.int 4)) aNil)))))) aNil)))) aNil))))) aNil)))))))
noncomputable def m_law_sent_b1 : MS := (sK [5, 6] (sExpr (mBM "list" fAppend (mV 4) (aCons (mTup (aCons (m2 pMod (mB fInt (aCons (m2 pAdd (mV 2) (mV 5)) aNil)) (mV 0)) (aCons (mTup (aCons (mV 6) (aCons (m2 pSub (m2 pIx (mV 3) (mC (.int 1))) (mC (.int 1))) aNil))) aNil))) aNil))))
noncomputable def m_law_sent : Fn := fG (fDef 7 4
    (sSeq (sAsg (mLst aNil) (gN 4))
    (sSeq (sIf (tV (m2 pGt (m2 pIx (mV 3) (mC (.int 1))) (mC (.int 0))))
    (Mp.sFor (iV (m2 pIx (mV 1) (m2 pIx (mV 3) (mC (.int 0))))) (gTup (gsCons (gN 5) (gsCons (gN 6) gsNil)))
    KA.m_law_sent_b1)
    sNx)
    (sRet (mV 4)))))
noncomputable def m_law_counts : Nat → Fn
  | 0 => fun _ _ => .bad
  | fu + 1 => fG (fDef 11 5
    (sSeq (sAsg (m2 pAdd (mTup (aCons (mV 3) aNil)) (mV 4)) (gN 5))
    (sSeq (sIf (tV (m2 pNotIn (mV 5) (mV 2)))
    (sSeq (sAsg (mG (m2 pMul (mLst (aCons (mC (.int 0)) aNil)) (mV 0))) (gN 6))
    (sSeq (sAsg (mC (.int 1)) (gSub (mV 6) (mV 3) pSet))
    (sSeq (Mp.sFor (iV (mA KA.m_law_sent (aCons (mV 0) (aCons (mV 1) (aCons (mV 3) (aCons (mV 4) aNil)))))) (gTup (gsCons (gN 7) (gsCons (gN 8) gsNil)))
    (sK [7, 8, 9, 10] (sSeq (sAsg (mA (m_law_counts fu) (aCons (mV 0) (aCons (mV 1) (aCons (mV 2) (aCons (mV 7) (aCons (mV 8) aNil)))))) (gN 9))
    (Mp.sFor (iRng1 (aCons (mV 0) aNil)) (gN 10)
    (sK [10] (sAsg (m2 pAdd (m2 pIx (mV 6) (mV 10)) (m2 pIx (mV 9) (mV 10))) (gSub (mV 6) (mV 10) pSet)))))))
    (sAsg (mB fTuple (aCons (mV 6) aNil)) (gSub (mV 2) (mV 5) pSet)))))
    sNx)
    (sRet (m2 pIx (mV 2) (mV 5))))))
theorem m_law_counts_len : ∀ (n : Nat) (vs : List Val) (S : Store), vs.length ≠ 5 → m_law_counts n vs S = .bad
  | 0, _, _, _ => rfl
  | n + 1, vs, S, h => by unfold m_law_counts; exact fG_len fDef_len vs S h
theorem m_law_counts_succ (n : Nat) : m_law_counts (n + 1) = fG (fDef 11 5
    (sSeq (sAsg (m2 pAdd (mTup (aCons (mV 3) aNil)) (mV 4)) (gN 5))
    (sSeq (sIf (tV (m2 pNotIn (mV 5) (mV 2)))
    (sSeq (sAsg (mG (m2 pMul (mLst (aCons (mC (.int 0)) aNil)) (mV 0))) (gN 6))
    (sSeq (sAsg (mC (.int 1)) (gSub (mV 6) (mV 3) pSet))
    (sSeq (Mp.sFor (iV (mA KA.m_law_sent (aCons (mV 0) (aCons (mV 1) (aCons (mV 3) (aCons (mV 4) aNil)))))) (gTup (gsCons (gN 7) (gsCons (gN 8) gsNil)))
    (sK [7, 8, 9, 10] (sSeq (sAsg (mA (m_law_counts n) (aCons (mV 0) (aCons (mV 1) (aCons (mV 2) (aCons (mV 7) (aCons (mV 8) aNil)))))) (gN 9))
    (Mp.sFor (iRng1 (aCons (mV 0) aNil)) (gN 10)
    (sK [10] (sAsg (m2 pAdd (m2 pIx (mV 6) (mV 10)) (m2 pIx (mV 9) (mV 10))) (gSub (mV 6) (mV 10) pSet)))))))
    (sAsg (mB fTuple (aCons (mV 6) aNil)) (gSub (mV 2) (mV 5) pSet)))))
    sNx)
    (sRet (m2 pIx (mV 2) (mV 5)))))) := rfl
noncomputable def m_law_task : Fn := fG (fDef 3 3
    (sRet (mTup (aCons (mA KA.m_law_take (aCons (mV 0) (aCons (mB fLen (aCons (mV 1) aNil)) aNil))) (aCons (mA KA.m_law_take (aCons (mV 0) (aCons (m2 pAdd (mV 2) (mC (.int 1))) aNil))) aNil)))))
end KA

/-! printed by gen2.py: defs of the program as combinators -/
namespace KA
open PySem PySem.Spec L2 Mp
noncomputable def m_law_total : Fn := fG (fDef 5 4
    (sRet (mG (mB fSumA (aCons (mLc (iV (mV 3)) [4] (gN 4) tYes (mB fSumA (aCons (mA (KA.m_law_counts 20) (aCons (mV 0) (aCons (mV 1) (aCons (mV 2) (aCons (mC (.int 0)) (aCons (mV 4) aNil)))))) aNil))) aNil)))))
noncomputable def m_law_given_b1 : MS := (sK [8, 9] (sSeq (sAsg (mG (m2 pAdd (mV 5) (mLst (aCons (mTup (aCons (m2 pIx (mV 7) (mC (.int 0))) (aCons (m2 pSub (m2 pIx (mV 7) (mC (.int 1))) (mV 8)) aNil))) aNil)))) (gN 9))
    (sIf (tV (m2 pLe (mA KA.m_law_total (aCons (mV 1) (aCons (mV 2) (aCons (mV 4) (aCons (mV 9) aNil))))) (mV 3)))
    (sSeq (sAsg (mV 9) (gN 5))
    sBrk)
    sNx)))
noncomputable def m_law_given_b2 : MS := (sK [6, 7, 8, 9] (sSeq (sAsg (mA KA.m_law_task (aCons (mV 0) (aCons (mV 2) (aCons (mC (.int 12)) aNil)))) (gN 7))
    (Mp.sFor (iRng1 (aCons (m2 pAdd (m2 pIx (mV 7) (mC (.int 1))) (mC (.int 1))) aNil)) (gN 8)
    KA.m_law_given_b1)))
noncomputable def m_law_given : Fn := fG (fDef 10 4
    (sSeq (sAsg mDT (gN 4))
    (sSeq (sAsg (mLst aNil) (gN 5))
    (sSeq (Mp.sFor (iRng1 (aCons (mG (mA KA.m_law_pick (aCons (mV 0) (aCons (mLst (aCons (mC (.int 0)) (aCons (mC (.int 1)) (aCons (mC (.int 1)) (aCons (mC (.int 2)) (aCons (mC (.int 2)) (aCons (mC (.int 3)) (aCons (mC (.int 5)) (aCons (mC (.int 20)) aNil))))))))) aNil)))) aNil)) (gN 6)
    KA.m_law_given_b2)
    (sRet (mB fTuple (aCons (mV 5) aNil)))))))
end KA

/-! printed by gen2.py: defs of the program as combinators -/
namespace KW
open PySem PySem.Spec L2 Mp
noncomputable def m_is_within : Fn := fG (fDef 3 3
    (sRet (mAnd (mA KQ.m_is_integer (aCons (mV 0) aNil)) (mChain pLe pLe (mV 1) (mV 0) (mV 2)))))
noncomputable def m_is_below : Fn := fG (fDef 2 2
    (sRet (mA KW.m_is_within (aCons (mV 0) (aCons (mC (.int 0)) (aCons (m2 pSub (mV 1) (mC (.int 1))) aNil))))))
noncomputable def m_is_sized : Fn := fG (fDef 3 3
    (sRet (mAnd (m1 (pIsT "tuple") (mV 0)) (mChain pLe pLe (mV 1) (mB fLen (aCons (mV 0) aNil)) (mV 2)))))
noncomputable def m_is_pair : Fn := fG (fDef 1 1
    (sRet (mA KW.m_is_sized (aCons (mV 0) (aCons (mC (.int 2)) (aCons (mC (.int 2)) aNil))))))
noncomputable def m_is_rule : Fn := fG (fDef 6 3
    (sSeq (sIf (Mp.tOr (Mp.tNot (tV (mA KW.m_is_sized (aCons (mV 2) (aCons (mC (.int 0)) (aCons (mC (.int 4)) aNil)))))) (Mp.tNot (tV (mG (mB fAll (aCons (mLc (iV (mV 2)) [3] (gN 3) tYes (mA KW.m_is_pair (aCons (mV 3) aNil))) aNil))))))
    (sRet (mC (.bl false)))
    sNx)
    (sRet (mG (mB fAll (aCons (mLc (iV (mV 2)) [4, 5] (gTup (gsCons (gN 4) (gsCons (gN 5) gsNil))) tYes (mAnd (mA KW.m_is_below (aCons (mV 4) (aCons (mV 0) aNil))) (mA KW.m_is_below (aCons (mV 5) (aCons (mV 1) aNil))))) aNil))))))
noncomputable def m_Works___init___b1 : MS := (sK [3, 4] (sIf (Mp.tNot (tV (mA KW.m_is_rule (aCons (mV 1) (aCons (mB fLen (aCons (mV 2) aNil)) (aCons (mV 4) aNil))))))
    sBad
    sNx))
noncomputable def m_Works___init__ : Fn := fG (fDef 5 3
    (sSeq (sIf (Mp.tNot (tV (mA KW.m_is_within (aCons (mV 1) (aCons (mC (.int 1)) (aCons (mC (.int 6)) aNil))))))
    sBad
    sNx)
    (sSeq (sIf (Mp.tNot (tV (mA KW.m_is_sized (aCons (mV 2) (aCons (mC (.int 1)) (aCons (mC (.int 6)) aNil))))))
    sBad
    sNx)
    (sSeq (Mp.sFor (iEnum (aCons (mV 2) aNil)) (gTup (gsCons (gN 3) (gsCons (gN 4) gsNil)))
    KW.m_Works___init___b1)
    (sSeq (Mp.sFld "Works" "many" (mV 0) (mV 1))
    (Mp.sFld "Works" "rules" (mV 0) (mV 2)))))))
noncomputable def m_replaced : Fn := fG (fDef 3 3
    (sRet (m2 pAdd (m2 pAdd (mSl (mV 0) oNo (oSome (mV 1))) (mTup (aCons (mV 2) aNil))) (mSl (mV 0) (oSome (m2 pAdd (mV 1) (mC (.int 1)))) oNo))))
noncomputable def m_is_right_task : Fn := fG (fDef 2 2
    (sRet (mAnd (mA KW.m_is_pair (aCons (mV 1) aNil)) (mAnd (mA KW.m_is_below (aCons (m2 pIx (mV 1) (mC (.int 0))) (aCons (mB fLen (aCons (m1 (getF "Works" "rules") (mV 0)) aNil)) aNil))) (mA KW.m_is_within (aCons (m2 pIx (mV 1) (mC (.int 1))) (aCons (mC (.int 0)) (aCons (mC (.int 12)) aNil))))))))
noncomputable def m_check_house : Fn := fG (fDef 2 2
    (sIf (Mp.tNot (tV (mA KW.m_is_below (aCons (mV 1) (aCons (m1 (getF "Works" "many") (mV 0)) aNil)))))
    (sRaise "NoHouse" [] aNil)
    sNx))
noncomputable def m_check_task : Fn := fG (fDef 2 2
    (sIf (Mp.tNot (tV (mA KW.m_is_right_task (aCons (mV 0) (aCons (mV 1) aNil)))))
    (sRaise "NoTask" [] aNil)
    sNx))
noncomputable def m_letters_of : Fn := fG (fDef 7 3
    (sSeq (sAsg (mV 2) (gTup (gsCons (gN 3) (gsCons (gN 4) gsNil))))
    (sSeq (sIf (tV (m2 pEq (mV 4) (mC (.int 0))))
    (sRet (mTup aNil))
    sNx)
    (sRet (mG (mB fTuple (aCons (mLc (iV (m2 pIx (m1 (getF "Works" "rules") (mV 0)) (mV 3))) [5, 6] (gTup (gsCons (gN 5) (gsCons (gN 6) gsNil))) tYes (mTup (aCons (m2 pMod (m2 pAdd (mV 1) (mV 5)) (m1 (getF "Works" "many") (mV 0))) (aCons (mTup (aCons (mV 6) (aCons (m2 pSub (mV 4) (mC (.int 1))) aNil))) aNil)))) aNil)))))))
noncomputable def m_sent_by : Fn := fG (fDef 3 3
    (sSeq (sExpr (mA KW.m_check_house (aCons (mV 0) (aCons (mV 1) aNil))))
    (sSeq (sExpr (mA KW.m_check_task (aCons (mV 0) (aCons (mV 2) aNil))))
    (sRet (mA KW.m_letters_of (aCons (mV 0) (aCons (mV 1) (aCons (mV 2) aNil))))))))
noncomputable def m_table_of_b1 : MS := (sK [9, 10] (sSubAug (mV 6) (m2 pMod (m2 pAdd (mV 9) (mV 7)) (m1 (getF "Works" "many") (mV 0))) (mV 10) pIxM pAddI pSet))
noncomputable def m_table_of_b2 : MS := (sK [7, 8, 9, 10] (Mp.sFor (iEnum (aCons (m2 pIx (mV 2) (mV 8)) aNil)) (gTup (gsCons (gN 9) (gsCons (gN 10) gsNil)))
    KW.m_table_of_b1))
noncomputable def m_table_of_b3 : MS := (sG (sK [6, 7, 8, 9, 10] (sSeq (sAsg (mG (m2 pAdd (mLst (aCons (mC (.int 1)) aNil)) (m2 pMul (mLst (aCons (mC (.int 0)) aNil)) (m2 pSub (m1 (getF "Works" "many") (mV 0)) (mC (.int 1)))))) (gN 6))
    (sSeq (Mp.sFor (iV (mV 5)) (gTup (gsCons (gN 7) (gsCons (gN 8) gsNil)))
    KW.m_table_of_b2)
    (sExpr (mBM "list" fAppend (mV 4) (aCons (mB fTuple (aCons (mV 6) aNil)) aNil)))))))
noncomputable def m_table_of_b4 : MS := (sK [3, 4, 6, 7, 8, 9, 10] (sSeq (sAsg (mLst aNil) (gN 4))
    (sSeq (Mp.sFor (iV (m1 (getF "Works" "rules") (mV 0))) (gN 5)
    KW.m_table_of_b3)
    (sAsg (mV 4) (gN 2)))))
noncomputable def m_table_of : Fn := fG (fDef 11 2
    (sSeq (sAsg (mLc (iV (m1 (getF "Works" "rules") (mV 0))) [5] (gN 5) tYes (mA KW.m_replaced (aCons (m2 pMul (mTup (aCons (mC (.int 0)) aNil)) (m1 (getF "Works" "many") (mV 0))) (aCons (mC (.int 0)) (aCons (mC (.int 1)) aNil))))) (gN 2))
    (sSeq (Mp.sFor (iRng1 (aCons (mV 1) aNil)) (gN 3)
    KW.m_table_of_b4)
    (sRet (mV 2)))))
noncomputable def m_many_of : Fn := fG (fDef 2 2
    (sRet (mB fSumA (aCons (m2 pIx (mA KW.m_table_of (aCons (mV 0) (aCons (m2 pIx (mV 1) (mC (.int 1))) aNil))) (m2 pIx (mV 1) (mC (.int 0)))) aNil))))
noncomputable def m_tasks_of : Fn := fG (fDef 5 3
    (sSeq (sExpr (mA KW.m_check_house (aCons (mV 0) (aCons (mV 1) aNil))))
    (sSeq (sExpr (mA KW.m_check_task (aCons (mV 0) (aCons (mV 2) aNil))))
    (sSeq (sAsg (m2 pIx (mA KW.m_table_of (aCons (mV 0) (aCons (m2 pIx (mV 2) (mC (.int 1))) aNil))) (m2 pIx (mV 2) (mC (.int 0)))) (gN 3))
    (sRet (mG (mB fTuple (aCons (mLc (iRng1 (aCons (m1 (getF "Works" "many") (mV 0)) aNil)) [4] (gN 4) tYes (m2 pIx (mV 3) (m2 pMod (m2 pSub (mV 4) (mV 1)) (m1 (getF "Works" "many") (mV 0))))) aNil))))))))
noncomputable def m_many_tasks : Fn := fG (fDef 2 2
    (sSeq (sExpr (mA KW.m_check_task (aCons (mV 0) (aCons (mV 1) aNil))))
    (sRet (mA KW.m_many_of (aCons (mV 0) (aCons (mV 1) aNil))))))
noncomputable def m_longest_way_b1 : MS := (sK [3] (sAsg (mLc (iV (m1 (getF "Works" "rules") (mV 0))) [4] (gN 4) tYes (mG (m2 pAdd (mC (.int 1)) (mB fMaxL (aCons (m2 pAdd (mLst (aCons (mC (.int 0)) aNil)) (mLc (iV (mV 4)) [5, 6] (gTup (gsCons (gN 5) (gsCons (gN 6) gsNil))) tYes (m2 pIx (mV 2) (mV 6)))) aNil))))) (gN 2)))
noncomputable def m_longest_way : Fn := fG (fDef 7 2
    (sSeq (sExpr (mA KW.m_check_task (aCons (mV 0) (aCons (mV 1) aNil))))
    (sSeq (sAsg (mG (m2 pMul (mLst (aCons (mC (.int 1)) aNil)) (mB fLen (aCons (m1 (getF "Works" "rules") (mV 0)) aNil)))) (gN 2))
    (sSeq (Mp.sFor (iRng1 (aCons (m2 pIx (mV 1) (mC (.int 1))) aNil)) (gN 3)
    KW.m_longest_way_b1)
    (sRet (m2 pIx (mV 2) (m2 pIx (mV 1) (mC (.int 0)))))))))
end KW

/-! printed by gen2.py: defs of the program as combinators -/
namespace KW
open PySem PySem.Spec L2 Mp
noncomputable def m_are_tasks : Fn := fG (fDef 3 2
    (sRet (mAnd (m1 (pIsT "tuple") (mV 1)) (mG (mB fAll (aCons (mLc (iV (mV 1)) [2] (gN 2) tYes (mA KW.m_is_right_task (aCons (mV 0) (aCons (mV 2) aNil)))) aNil))))))
noncomputable def m_check_given : Fn := fG (fDef 2 2
    (sIf (Mp.tOr (Mp.tNot (tV (mA KW.m_are_tasks (aCons (mV 0) (aCons (mV 1) aNil))))) (tV (m2 pGt (mB fLen (aCons (mV 1) aNil)) (mC (.int 20)))))
    (sRaise "NoGiven" [] aNil)
    sNx))
noncomputable def m_plain_run_b1 : MS := (sK [7, 8] (sExpr (mBM "list" fAppend (m2 pIx (mV 2) (mV 7)) (aCons (mV 8) aNil))))
noncomputable def m_plain_run_b2 : MS := (sK [7, 8] (sSeq (sAsg (m2 pIx (mV 4) (mC (.int 0))) (gN 5))
    (sSeq (sAsg (mBM "list" fPopAt (m2 pIx (mV 2) (mV 5)) (aCons (mC (.int 0)) aNil)) (gN 6))
    (sSeq (sExpr (mBM "list" fAppend (mV 3) (aCons (mTup (aCons (mV 5) (aCons (mV 6) aNil))) aNil)))
    (sSeq (Mp.sFor (iV (mA KW.m_letters_of (aCons (mV 0) (aCons (mV 5) (aCons (mV 6) aNil))))) (gTup (gsCons (gN 7) (gsCons (gN 8) gsNil)))
    KW.m_plain_run_b1)
    (sAsg (mLc (iRng1 (aCons (m1 (getF "Works" "many") (mV 0)) aNil)) [5] (gN 5) (tV (m2 pGt (mB fLen (aCons (m2 pIx (mV 2) (mV 5)) aNil)) (mC (.int 0)))) (mV 5)) (gN 4)))))))
noncomputable def m_plain_run : Fn := fG (fDef 9 2
    (sSeq (sExpr (mA KW.m_check_given (aCons (mV 0) (aCons (mV 1) aNil))))
    (sSeq (sAsg (m2 pAdd (mLst (aCons (mB fList (aCons (mV 1) aNil)) aNil)) (mLc (iRng1 (aCons (m2 pSub (m1 (getF "Works" "many") (mV 0)) (mC (.int 1))) aNil)) [5] (gN 5) tYes (mLst aNil))) (gN 2))
    (sSeq (sIf (tG (tV (m2 pGt (mB fSumA (aCons (mLc (iV (mV 1)) [6] (gN 6) tYes (mA KW.m_many_of (aCons (mV 0) (aCons (mV 6) aNil)))) aNil)) (mC (.int 20000)))))
    (sRaise "TooMany" ["most"] (aCons (mC (.int 20000)) aNil))
    sNx)
    (sSeq (sAsg (mLst aNil) (gN 3))
    (sSeq (sAsg (mLc (iRng1 (aCons (m1 (getF "Works" "many") (mV 0)) aNil)) [5] (gN 5) (tV (m2 pGt (mB fLen (aCons (m2 pIx (mV 2) (mV 5)) aNil)) (mC (.int 0)))) (mV 5)) (gN 4))
    (sSeq (Mp.sWhile (tV (m2 pGt (mB fLen (aCons (mV 4) aNil)) (mC (.int 0))))
    KW.m_plain_run_b2)
    (sRet (mV 3)))))))))
end KW

/-! MpX: own errors with a field. -/
namespace PySem
namespace X_part
open PySem.W PySem.Calls PyProof.Rows PySem.HandSPX
/-! ### the text of __init__ -/
def iA (p1 p2 : Pos) : Arguments := { posonlyargs := [], args := [{ arg := "self", annotation := none, pos := p1 }, { arg := "part", annotation := none, pos := p2 }], vararg := none, kwonlyargs := [], kw_defaults := [], kwarg := none, defaults := [] }
def iB (q1 q2 q3 q4 : Pos) : List Stmt := [.Assign [.Attribute (.Name "self" q1) "part" q2] (.Name "part" q3) q4]
def iS : Scope := { kind := .function, names := [(PySem.Str.ofString "self", .local), (PySem.Str.ofString "part", .local)], isGenerator := false, isCoroutine := false, more := [] }
/-- what the written part says of Low, at C, and of its __init__, at fI -/
structure LowTxt (K : Frag) (mg : Str → Option Value) (c qn : Str) (C fI : Addr) : Prop where
  gC : mg c = some (.ref C)
  cls : ∃ nm q N bs bm sn sub ab col dd k0 k1 k2 k3 k5, K.lookup C = some (excClassObj nm q C N bs bm true sn sub ab col dd k0 k1 k2 k3 k5 "ValueError.__new__") ∧ refsVE bm = true
  sa : findIn K (.ref C) "__setattr__" = some (some (.builtin "object.__setattr__"))
  ga : findIn K (.ref C) "__getattribute__" = some (some (.builtin "BaseException.__getattribute__"))
  gg : findIn K (.ref C) "__getattr__" = some none
  noN : findIn K (.ref C) "part" = some none
  iC : findIn K (.ref C) "__init__" = some (some (.ref fI))
  tC : typeIn K (.ref fI) = some (.type "function")
  kC : keepIn K (.ref C) = true
  exC : subIn K (.ref C) (.type "BaseException") = some true
  tyC : typeIn K (.ref C) = some (.type "type")
  hdC : hasDictIn K C = true
  te : exmOne K (.ref C) (.ref C) = some true
  fn : ∃ (oc : Value) (od : Option Addr) (doc pm : Value) (an : Option Addr) (cdv ct : Value) (osl : Array (Option Value)) (p1 p2 q1 q2 q3 q4 : Pos),
    K.lookup fI = some ⟨oc, od, .func (fnOf "__init__" qn (iA p1 p2) (iB q1 q2 q3 q4) iS .none .none doc pm an cdv ct), osl⟩ ∧ codeIn K cdv qn = true
theorem one_size (v : Value) : [v].length ≤ sizeLine := by
  rw [sizeLine_eq]
  exact (by decide : 1 ≤ 16777216)
theorem kept_but {K : Frag} {h h' : Heap} {x : Addr} (X : K.In h) (hx : K.lookup x = none) (k : ∀ b o, b ≠ x → h.get? b = some o → h'.get? b = some o) : K.In h' := fun a o e =>
  k a o (fun z => by rw [z, hx] at e; cases e) (X a o e)
theorem ldC {M : Model} {s : Shared} {name : Str} {scope : Scope} {L a : Addr} {cd : Value} {m : Str → Option Value} {x : Str} {pos : Pos} {v : Value} {Q : Value → Shared → Prop} {A : Around} {E : Value → Shared → Prop} (hn : s.heap.Ns L m) (hv : m x = some v) (h : Q v s)
    (hk : scope.kind = .function := by rfl) (hl : (envOfC name scope L a cd).kindOf x = some .local := by rfl) (hd : (x == ("__debug__" : Str)) = false := by decide) :
    wpAny M A (eval (.Name x pos) (envOfC name scope L a cd)) Q E s := wpAny_Name (wpAny_loadName_local hk hl hn hv h) hd
/-- what __init__ leaves of a fresh exception at x -/
structure InitEnd (h h' : Heap) (x C dx t1 : Addr) (v : Value) : Prop where
  keep : ∀ b o, b ≠ x → h.get? b = some o → h'.get? b = some o
  obj : h'.get? x = some { cls := .ref C, dict := some dx, data := .fields #[.ref t1, .none, .none, .none, .bool false, .none] }
  dbig : h.objs.size ≤ dx
  dne : dx ≠ x
  ns : h'.Ns1 dx (fun y => if y = "part" then some v else none)
/-- a made Low -/
structure OwnMade (h h' : Heap) (e C d : Addr) (v : Value) : Prop where
  keep : ∀ b o, h.get? b = some o → h'.get? b = some o
  new : h.objs.size ≤ e
  obj : ∃ oe vs, h'.get? e = some oe ∧ oe.cls = .ref C ∧ oe.dict = some d ∧ oe.data = .fields vs ∧ vs[1]? = some .none
  dbig : h.objs.size ≤ d
  dne : d ≠ e
  ns : h'.Ns1 d (fun y => if y = "part" then some v else none)
section
variable {prog : Program} {w : World} {A : Around} {E : Value → Shared → Prop} {R : Result → Shared → Prop} {s : Shared} {K : Frag} {mg : Str → Option Value} {C fI : Addr} {c qn : Str}
theorem low_init (T : LowTxt K mg c qn C fI) {x t0 : Addr} {v : Value} (X : K.In s.heap) (hlim : s.heap.NoLimit) (hx : s.heap.get? x = some (excO C t0)) (hnx : K.lookup x = none) (hroom : A.depth < recursionLimit)
    (hq : ∀ h' tk dx, InitEnd s.heap h' x C dx t0 v → R (.ok (.ret .none)) { s with heap := h', toks := tk }) :
    codeAny (model prog w) A (.call (.ref fI) ⟨[.ref x, v], []⟩) R s := by
  obtain ⟨oc, od, doc, pm, an, cdv, ct, osl, p1, p2, q1, q2, q3, q4, ho, hcd⟩ := T.fn
  obtain ⟨nm, q, N, bs, bm, sn, sub, ab, col, dd, k0, k1, k2, k3, k5, hC, hbm⟩ := T.cls
  have hcl : clsIn K C = some { name := nm, bases := bs, mro := .ref C :: bm, ns := N, qualname := q, hasDict := true, slotNames := sn, subclasses := sub, abstract := ab, collection := col, hasDel := false } := by unfold clsIn; rw [hC] <;> rfl
  refine Att.call_fn (binds := [("self", .ref x), ("part", v)]) X hlim ho hcd hroom (BindsTo.of_eq (by first | rfl | with_unfolding_all rfl)) (by first | rfl | decide | with_unfolding_all rfl) (fun s₁ IC => ?_) rfl rfl rfl
  obtain ⟨h₁, tk₁, rfl⟩ := IC.toInCall.same
  have k : ∀ b o, s.heap.get? b = some o → h₁.get? b = some o := IC.toInCall.keep
  have hn := IC.toInCall.ns
  have hxL : s.heap.objs.size ≠ x := Nat.ne_of_gt (Heap.lt_size hx)
  have X₁ : K.In h₁ := X.keeps k
  have hx₁ := k _ _ hx
  -- self.by = by
  show wpAny _ _ (execs _ _) _ _ _
  refine wpAny_execs_cons (plainObj_wpAny_Assign_Attribute ?_)
  refine ldC (v := v) hn (by first | rfl | with_unfolding_all rfl | kernel_rfl) (ldC (v := .ref x) hn (by first | rfl | with_unfolding_all rfl | kernel_rfl) ?_)
  refine set_plain X₁ (ox := excO C t0) (od := none) ⟨hx₁, rfl, rfl, trivial⟩ T.sa ?_
  refine exc_osa X₁ hx₁ hcl (show refsVE (.ref C :: bm) = true from hbm) rfl T.noN (fun h₃ tk₃ dx k₃ dn dne hx₃ hn₃ => ?_)
  show wpAny _ _ (execs _ _) _ _ _
  have z : s.heap.objs.size < h₁.objs.size := hn.lt
  exact wpAny_execs_nil (hq h₃ tk₃ dx ⟨fun b o hb e => k₃ b o hb (k b o e), hx₃, Nat.le_of_lt (Nat.lt_of_lt_of_le z dn), dne, hn₃⟩)
theorem low_made (T : LowTxt K mg c qn C fI) {v : Value} (X : K.In s.heap) (hlim : s.heap.NoLimit) (hroom : A.depth + 1 < recursionLimit)
    (hq : ∀ h' tk e d, OwnMade s.heap h' e C d v → R (.ok (.ret (.ref e))) { s with heap := h', toks := tk }) :
    codeAny (model prog w) A (.call (.ref C) ⟨[v], []⟩) R s := by
  obtain ⟨nm, q, N, bs, bm, sn, sub, ab, col, dd, k0, k1, k2, k3, k5, hC, hbm⟩ := T.cls
  obtain ⟨hp, g, dr, tk, os⟩ := s
  have k : ∀ b o, hp.get? b = some o → ((hp.push (kdv_tup [v])).push (excO C hp.objs.size)).get? b = some o := fun b o e => Heap.get?_push_of_some _ (Heap.get?_push_of_some _ e)
  have hget : ((hp.push (kdv_tup [v])).push (excO C hp.objs.size)).get? (hp.objs.size + 1) = some (excO C hp.objs.size) := by heap_get
  have hnx : K.lookup (hp.objs.size + 1) = none := by
    cases e : K.lookup (hp.objs.size + 1) with
    | none => rfl
    | some o =>
      have z : hp.get? (hp.objs.size + 1) = some o := X _ _ e
      exact absurd (Nat.lt_of_succ_lt (Heap.lt_size z)) (Nat.lt_irrefl _)
  refine call_own F.excBase_ValueError (fun X => refsVE_contains X bm hbm) (X _ _ hC) (looks_findIn X T.iC) (fun self => bind_fn X self T.tC) (one_size v) ?_
  refine low_init (s := ⟨(hp.push (kdv_tup [v])).push (excO C hp.objs.size), g, dr, tk, os⟩) T (X.keeps k) (hlim.keeps k) hget hnx ?_ fun h' tk' dx ⟨k', hx, dn, dne, hns⟩ => ?_
  · show A.depth + 1 < recursionLimit
    exact hroom
  · have old : ∀ b o, hp.get? b = some o → h'.get? b = some o := fun b o e => k' b o (Nat.ne_of_lt (Nat.lt_succ_of_lt (Heap.lt_size e))) (k b o e)
    have z : hp.objs.size + 1 + 1 ≤ dx := by
      first
        | (simpa only [Heap.size_push] using dn)
        | exact dn
        | (have q := dn; rw [Heap.size_push, Heap.size_push] at q; exact q)
    exact ⟨rfl, hq h' tk' (hp.objs.size + 1) dx ⟨old, Nat.le_succ _, ⟨_, _, hx, rfl, rfl, rfl, rfl⟩, Nat.le_trans (Nat.le_trans (Nat.le_succ _) (Nat.le_succ _)) z, dne, hns⟩⟩
end
end X_part
end PySem
namespace L2
open PySem PySem.Spec PyProof.Rows
theorem relO_low_part {v : V} {v' : Value} (r : RelV v v') (f : Str) : RelO (List.lookup f [(("part" : Str), v)]) (if f = "part" then some v' else none) := by
  by_cases hw : f = "part"
  · subst hw
    rw [if_pos rfl]
    have q : List.lookup ("part" : Str) [(("part" : Str), v)] = some v := by simp [List.lookup]
    rw [q]
    exact r
  · rw [if_neg hw]
    have qw : (f == ("part" : Str)) = false := by simpa using hw
    have q2 : List.lookup f [(("part" : Str), v)] = none := by simp [List.lookup, qw]
    rw [q2]
    trivial
section
variable {X : Cx} {C fI : Addr} {c qn : Str}
/-- Low(e) -/
def tMkLow_part (C : Addr) (ta : TA) : St → Hp → XK → Prop := fun σ H Q => ta σ H fun vs H1 => ∃ v, vs = [v] ∧ ∀ d, H1 d = none → Q (.ref C) (some d) (upd H1 d (.xd [(("part" : Str), v)]))
theorem pmk_low_part {a : Expr} {ta : TA} {p pos : Pos} {k : Nat} (T : PySem.X_part.LowTxt X.K X.mg c qn C fI) (hr : Room k X.A) (ha : PA X [a] ta) (hg : Gl X c := by rfl) (hdb : (c == ("__debug__" : Str)) = false := by decide)
    (he : starEach (a :: []) X.env = (false, eval a X.env) :: starEach [] X.env := by rfl) (hpl : (backTo pos (starEach [] X.env)).any (·.1) = false := by rfl) :
    PMk X (.Call (.Name c p) [a] [] pos) (tMkLow_part C ta) := by
  intro pins s σ H Q I h
  refine wpAny_Call_Name_kw (ld_glob I hg T.gC ?_ hdb)
  refine PySem.W.callWith_K (h₀ := X.base) I.ok.mod.kin T.kC (thn (ha.run pos pins s σ H _ I h) fun us s1 hh => ?_) he hpl
  obtain ⟨vs, H1, I1, r1, v, ev, q1⟩ := hh
  subst ev
  refine ⟨I1.kIn, ?_⟩
  cases r1 with
  | cons rv rn =>
    rename_i v' us'
    cases rn
    show wpAny _ _ (call (.ref C) [v']) _ _ _
    have hlim := I1.nolimit
    obtain ⟨hp, g, dr, tk, os⟩ := s1
    refine wpAny_call (PySem.X_part.low_made T I1.kIn hlim (by have := hr.dp; omega) fun h' tk' e d M => ?_)
    show MkP X pins σ Q (.ref e) ⟨h', g, dr, tk', os⟩
    obtain ⟨oe, fv, hoe, hc, hd, hdat, h1⟩ := M.obj
    have hns := M.ns
    obtain ⟨G', g1, g2⟩ := restrict h' fun b => decide (b ≠ e)
    have gk : ∀ b, b ≠ e → G'.get? b = h'.get? b := fun b hb => g1 b (decide_eq_true hb)
    have ge : G'.get? e = none := g2 e (by simp)
    have old : ∀ b o, hp.get? b = some o → G'.get? b = some o := fun b o q => (gk b (Nat.ne_of_lt (Nat.lt_of_lt_of_le (Heap.lt_size q) M.new))).trans (M.keep b o q)
    have ob : ObjOk X.prog X.w (upd H1 d (.xd [(("part" : Str), v)])) G' d (.xd [(("part" : Str), v)]) :=
      ⟨_, hns.at (fun o q => (gk d M.dne).trans q), fun f => relO_low_part rv f⟩
    have J : Inv X pins σ (upd H1 d (.xd [(("part" : Str), v)])) ⟨G', g, dr, tk', os⟩ := I1.laid (t' := tk') old M.dbig ob
    refine ⟨e, oe, fv, ⟨G', g, dr, tk', os⟩, _, .ref C, some d, rfl, J, fun b o q => ?_, ge, hoe, ⟨hc, hd⟩, hdat, h1, ?_, rfl, I1.bare, raises_own T.exC T.tyC, q1 d (I1.hok.fresh M.dbig)⟩
    · by_cases hb : b = e
      · have q' : G'.get? b = some o := q
        rw [hb, ge] at q'; cases q'
      · exact (gk b hb).symm.trans q
    · rw [upd_ne (Ne.symm M.dne)]
      exact I1.hok.fresh M.new
/-- raise Low(e) -/
def tRaiseLow_part (C : Addr) (W : WX) (ta : TA) : TS := fun _ σ H => tMkLow_part C ta σ H fun cls d H' => W cls d σ H'
theorem ps_raiseLow_part {a : Expr} {ta : TA} {W : WX} {p pos pos2 : Pos} {k : Nat} (hc : X.calm = true) (T : PySem.X_part.LowTxt X.K X.mg c qn C fI) (hr : Room k X.A) (tk : Takes X W) (ha : PA X [a] ta) (hg : Gl X c := by rfl) (hdb : (c == ("__debug__" : Str)) = false := by decide)
    (he : starEach (a :: []) X.env = (false, eval a X.env) :: starEach [] X.env := by rfl) (hpl : (backTo pos (starEach [] X.env)).any (·.1) = false := by rfl) :
    PS X (.Raise (some (.Call (.Name c p) [a] [] pos)) none pos2) (tRaiseLow_part C W ta) := ps_raise hc tk (pmk_low_part T hr ha hg hdb he hpl)
/-- low.by, low the exception that the suite holds (at a; its class cls, its dict d) -/
def tByLow_part (C : Addr) (a : Addr) (cls : Value) (d : Option Addr) (te : TE) : TE := fun σ H Q => te σ H fun x H1 => x = .ref a ∧ cls = .ref C ∧ ∃ (dd : Addr) (v : V), d = some dd ∧ H1 dd = some (.xd [(("part" : Str), v)]) ∧ Q v H1
theorem pe_byLow_part {a : Addr} {oe : Obj} {cls : Value} {d : Option Addr} {pn : List (Addr × Obj)} {e : Expr} {te : TE} {pos : Pos} (T : PySem.X_part.LowTxt X.K X.mg c qn C fI) (hz : Zc cls d oe) (hf : ∃ vs, oe.data = .fields vs) (he : PE (X.suite a ((a, oe) :: pn)) e te)
    (hb : attributeBase e "part" X.env (eval e X.env) = eval e X.env := by rfl) :
    PE (X.suite a ((a, oe) :: pn)) (.Attribute e "part" pos) (tByLow_part C a cls d te) := by
  refine ⟨fun pins s σ H Q I h => ?_⟩
  refine attr_of hb (thn (he.run pins s σ H _ I h) fun u s1 hh => ?_)
  obtain ⟨x, H1, I1, rx, ex, ec, dd, v, ed, ea, q⟩ := hh
  subst ex
  obtain rfl : u = Value.ref a := rx
  subst ec
  subst ed
  obtain ⟨ha, _⟩ := I1.pin (a, oe) (List.mem_append_left _ List.mem_cons_self)
  obtain ⟨vs, hd⟩ := hf
  have hx : ObjOk X.prog X.w H1 s1.heap dd (.xd [(("part" : Str), v)]) := I1.hok dd _ ea
  obtain ⟨mA, hns, hr⟩ := hx
  obtain ⟨od, ho, hl⟩ := lookIn_ns hns
  have l : List.lookup ("part" : Str) [(("part" : Str), v)] = some v := by simp [List.lookup]
  obtain ⟨u, hu, ru⟩ := RelO.some_of (v := v) (o := mA "part") (by rw [← l]; exact hr "part")
  have J : PySem.W.InstAt s1.heap a oe C (some od) := ⟨ha, hz.1, by unfold PySem.W.notCls; rw [hd] <;> rfl, by rw [hz.2]; exact ho⟩
  exact HandSPX.exc_get I1.kIn J T.ga T.gg T.exC (PySem.W.findObj_own T.hdC T.noN rfl (by rw [hl, hu])) (handed_of ru) ⟨v, H1, I1.tok _, ru, q⟩
end
end L2


namespace PySem
namespace X_most
open PySem.W PySem.Calls PyProof.Rows PySem.HandSPX
/-! ### the text of __init__ -/
def iA (p1 p2 : Pos) : Arguments := { posonlyargs := [], args := [{ arg := "self", annotation := none, pos := p1 }, { arg := "most", annotation := none, pos := p2 }], vararg := none, kwonlyargs := [], kw_defaults := [], kwarg := none, defaults := [] }
def iB (q1 q2 q3 q4 : Pos) : List Stmt := [.Assign [.Attribute (.Name "self" q1) "most" q2] (.Name "most" q3) q4]
def iS : Scope := { kind := .function, names := [(PySem.Str.ofString "self", .local), (PySem.Str.ofString "most", .local)], isGenerator := false, isCoroutine := false, more := [] }
/-- what the written part says of Low, at C, and of its __init__, at fI -/
structure LowTxt (K : Frag) (mg : Str → Option Value) (c qn : Str) (C fI : Addr) : Prop where
  gC : mg c = some (.ref C)
  cls : ∃ nm q N bs bm sn sub ab col dd k0 k1 k2 k3 k5, K.lookup C = some (excClassObj nm q C N bs bm true sn sub ab col dd k0 k1 k2 k3 k5 "ValueError.__new__") ∧ refsVE bm = true
  sa : findIn K (.ref C) "__setattr__" = some (some (.builtin "object.__setattr__"))
  ga : findIn K (.ref C) "__getattribute__" = some (some (.builtin "BaseException.__getattribute__"))
  gg : findIn K (.ref C) "__getattr__" = some none
  noN : findIn K (.ref C) "most" = some none
  iC : findIn K (.ref C) "__init__" = some (some (.ref fI))
  tC : typeIn K (.ref fI) = some (.type "function")
  kC : keepIn K (.ref C) = true
  exC : subIn K (.ref C) (.type "BaseException") = some true
  tyC : typeIn K (.ref C) = some (.type "type")
  hdC : hasDictIn K C = true
  te : exmOne K (.ref C) (.ref C) = some true
  fn : ∃ (oc : Value) (od : Option Addr) (doc pm : Value) (an : Option Addr) (cdv ct : Value) (osl : Array (Option Value)) (p1 p2 q1 q2 q3 q4 : Pos),
    K.lookup fI = some ⟨oc, od, .func (fnOf "__init__" qn (iA p1 p2) (iB q1 q2 q3 q4) iS .none .none doc pm an cdv ct), osl⟩ ∧ codeIn K cdv qn = true
theorem one_size (v : Value) : [v].length ≤ sizeLine := by
  rw [sizeLine_eq]
  exact (by decide : 1 ≤ 16777216)
theorem kept_but {K : Frag} {h h' : Heap} {x : Addr} (X : K.In h) (hx : K.lookup x = none) (k : ∀ b o, b ≠ x → h.get? b = some o → h'.get? b = some o) : K.In h' := fun a o e =>
  k a o (fun z => by rw [z, hx] at e; cases e) (X a o e)
theorem ldC {M : Model} {s : Shared} {name : Str} {scope : Scope} {L a : Addr} {cd : Value} {m : Str → Option Value} {x : Str} {pos : Pos} {v : Value} {Q : Value → Shared → Prop} {A : Around} {E : Value → Shared → Prop} (hn : s.heap.Ns L m) (hv : m x = some v) (h : Q v s)
    (hk : scope.kind = .function := by rfl) (hl : (envOfC name scope L a cd).kindOf x = some .local := by rfl) (hd : (x == ("__debug__" : Str)) = false := by decide) :
    wpAny M A (eval (.Name x pos) (envOfC name scope L a cd)) Q E s := wpAny_Name (wpAny_loadName_local hk hl hn hv h) hd
/-- what __init__ leaves of a fresh exception at x -/
structure InitEnd (h h' : Heap) (x C dx t1 : Addr) (v : Value) : Prop where
  keep : ∀ b o, b ≠ x → h.get? b = some o → h'.get? b = some o
  obj : h'.get? x = some { cls := .ref C, dict := some dx, data := .fields #[.ref t1, .none, .none, .none, .bool false, .none] }
  dbig : h.objs.size ≤ dx
  dne : dx ≠ x
  ns : h'.Ns1 dx (fun y => if y = "most" then some v else none)
/-- a made Low -/
structure OwnMade (h h' : Heap) (e C d : Addr) (v : Value) : Prop where
  keep : ∀ b o, h.get? b = some o → h'.get? b = some o
  new : h.objs.size ≤ e
  obj : ∃ oe vs, h'.get? e = some oe ∧ oe.cls = .ref C ∧ oe.dict = some d ∧ oe.data = .fields vs ∧ vs[1]? = some .none
  dbig : h.objs.size ≤ d
  dne : d ≠ e
  ns : h'.Ns1 d (fun y => if y = "most" then some v else none)
section
variable {prog : Program} {w : World} {A : Around} {E : Value → Shared → Prop} {R : Result → Shared → Prop} {s : Shared} {K : Frag} {mg : Str → Option Value} {C fI : Addr} {c qn : Str}
theorem low_init (T : LowTxt K mg c qn C fI) {x t0 : Addr} {v : Value} (X : K.In s.heap) (hlim : s.heap.NoLimit) (hx : s.heap.get? x = some (excO C t0)) (hnx : K.lookup x = none) (hroom : A.depth < recursionLimit)
    (hq : ∀ h' tk dx, InitEnd s.heap h' x C dx t0 v → R (.ok (.ret .none)) { s with heap := h', toks := tk }) :
    codeAny (model prog w) A (.call (.ref fI) ⟨[.ref x, v], []⟩) R s := by
  obtain ⟨oc, od, doc, pm, an, cdv, ct, osl, p1, p2, q1, q2, q3, q4, ho, hcd⟩ := T.fn
  obtain ⟨nm, q, N, bs, bm, sn, sub, ab, col, dd, k0, k1, k2, k3, k5, hC, hbm⟩ := T.cls
  have hcl : clsIn K C = some { name := nm, bases := bs, mro := .ref C :: bm, ns := N, qualname := q, hasDict := true, slotNames := sn, subclasses := sub, abstract := ab, collection := col, hasDel := false } := by unfold clsIn; rw [hC] <;> rfl
  refine Att.call_fn (binds := [("self", .ref x), ("most", v)]) X hlim ho hcd hroom (BindsTo.of_eq (by first | rfl | with_unfolding_all rfl)) (by first | rfl | decide | with_unfolding_all rfl) (fun s₁ IC => ?_) rfl rfl rfl
  obtain ⟨h₁, tk₁, rfl⟩ := IC.toInCall.same
  have k : ∀ b o, s.heap.get? b = some o → h₁.get? b = some o := IC.toInCall.keep
  have hn := IC.toInCall.ns
  have hxL : s.heap.objs.size ≠ x := Nat.ne_of_gt (Heap.lt_size hx)
  have X₁ : K.In h₁ := X.keeps k
  have hx₁ := k _ _ hx
  -- self.by = by
  show wpAny _ _ (execs _ _) _ _ _
  refine wpAny_execs_cons (plainObj_wpAny_Assign_Attribute ?_)
  refine ldC (v := v) hn (by first | rfl | with_unfolding_all rfl | kernel_rfl) (ldC (v := .ref x) hn (by first | rfl | with_unfolding_all rfl | kernel_rfl) ?_)
  refine set_plain X₁ (ox := excO C t0) (od := none) ⟨hx₁, rfl, rfl, trivial⟩ T.sa ?_
  refine exc_osa X₁ hx₁ hcl (show refsVE (.ref C :: bm) = true from hbm) rfl T.noN (fun h₃ tk₃ dx k₃ dn dne hx₃ hn₃ => ?_)
  show wpAny _ _ (execs _ _) _ _ _
  have z : s.heap.objs.size < h₁.objs.size := hn.lt
  exact wpAny_execs_nil (hq h₃ tk₃ dx ⟨fun b o hb e => k₃ b o hb (k b o e), hx₃, Nat.le_of_lt (Nat.lt_of_lt_of_le z dn), dne, hn₃⟩)
theorem low_made (T : LowTxt K mg c qn C fI) {v : Value} (X : K.In s.heap) (hlim : s.heap.NoLimit) (hroom : A.depth + 1 < recursionLimit)
    (hq : ∀ h' tk e d, OwnMade s.heap h' e C d v → R (.ok (.ret (.ref e))) { s with heap := h', toks := tk }) :
    codeAny (model prog w) A (.call (.ref C) ⟨[v], []⟩) R s := by
  obtain ⟨nm, q, N, bs, bm, sn, sub, ab, col, dd, k0, k1, k2, k3, k5, hC, hbm⟩ := T.cls
  obtain ⟨hp, g, dr, tk, os⟩ := s
  have k : ∀ b o, hp.get? b = some o → ((hp.push (kdv_tup [v])).push (excO C hp.objs.size)).get? b = some o := fun b o e => Heap.get?_push_of_some _ (Heap.get?_push_of_some _ e)
  have hget : ((hp.push (kdv_tup [v])).push (excO C hp.objs.size)).get? (hp.objs.size + 1) = some (excO C hp.objs.size) := by heap_get
  have hnx : K.lookup (hp.objs.size + 1) = none := by
    cases e : K.lookup (hp.objs.size + 1) with
    | none => rfl
    | some o =>
      have z : hp.get? (hp.objs.size + 1) = some o := X _ _ e
      exact absurd (Nat.lt_of_succ_lt (Heap.lt_size z)) (Nat.lt_irrefl _)
  refine call_own F.excBase_ValueError (fun X => refsVE_contains X bm hbm) (X _ _ hC) (looks_findIn X T.iC) (fun self => bind_fn X self T.tC) (one_size v) ?_
  refine low_init (s := ⟨(hp.push (kdv_tup [v])).push (excO C hp.objs.size), g, dr, tk, os⟩) T (X.keeps k) (hlim.keeps k) hget hnx ?_ fun h' tk' dx ⟨k', hx, dn, dne, hns⟩ => ?_
  · show A.depth + 1 < recursionLimit
    exact hroom
  · have old : ∀ b o, hp.get? b = some o → h'.get? b = some o := fun b o e => k' b o (Nat.ne_of_lt (Nat.lt_succ_of_lt (Heap.lt_size e))) (k b o e)
    have z : hp.objs.size + 1 + 1 ≤ dx := by
      first
        | (simpa only [Heap.size_push] using dn)
        | exact dn
        | (have q := dn; rw [Heap.size_push, Heap.size_push] at q; exact q)
    exact ⟨rfl, hq h' tk' (hp.objs.size + 1) dx ⟨old, Nat.le_succ _, ⟨_, _, hx, rfl, rfl, rfl, rfl⟩, Nat.le_trans (Nat.le_trans (Nat.le_succ _) (Nat.le_succ _)) z, dne, hns⟩⟩
end
end X_most
end PySem
namespace L2
open PySem PySem.Spec PyProof.Rows
theorem relO_low_most {v : V} {v' : Value} (r : RelV v v') (f : Str) : RelO (List.lookup f [(("most" : Str), v)]) (if f = "most" then some v' else none) := by
  by_cases hw : f = "most"
  · subst hw
    rw [if_pos rfl]
    have q : List.lookup ("most" : Str) [(("most" : Str), v)] = some v := by simp [List.lookup]
    rw [q]
    exact r
  · rw [if_neg hw]
    have qw : (f == ("most" : Str)) = false := by simpa using hw
    have q2 : List.lookup f [(("most" : Str), v)] = none := by simp [List.lookup, qw]
    rw [q2]
    trivial
section
variable {X : Cx} {C fI : Addr} {c qn : Str}
/-- Low(e) -/
def tMkLow_most (C : Addr) (ta : TA) : St → Hp → XK → Prop := fun σ H Q => ta σ H fun vs H1 => ∃ v, vs = [v] ∧ ∀ d, H1 d = none → Q (.ref C) (some d) (upd H1 d (.xd [(("most" : Str), v)]))
theorem pmk_low_most {a : Expr} {ta : TA} {p pos : Pos} {k : Nat} (T : PySem.X_most.LowTxt X.K X.mg c qn C fI) (hr : Room k X.A) (ha : PA X [a] ta) (hg : Gl X c := by rfl) (hdb : (c == ("__debug__" : Str)) = false := by decide)
    (he : starEach (a :: []) X.env = (false, eval a X.env) :: starEach [] X.env := by rfl) (hpl : (backTo pos (starEach [] X.env)).any (·.1) = false := by rfl) :
    PMk X (.Call (.Name c p) [a] [] pos) (tMkLow_most C ta) := by
  intro pins s σ H Q I h
  refine wpAny_Call_Name_kw (ld_glob I hg T.gC ?_ hdb)
  refine PySem.W.callWith_K (h₀ := X.base) I.ok.mod.kin T.kC (thn (ha.run pos pins s σ H _ I h) fun us s1 hh => ?_) he hpl
  obtain ⟨vs, H1, I1, r1, v, ev, q1⟩ := hh
  subst ev
  refine ⟨I1.kIn, ?_⟩
  cases r1 with
  | cons rv rn =>
    rename_i v' us'
    cases rn
    show wpAny _ _ (call (.ref C) [v']) _ _ _
    have hlim := I1.nolimit
    obtain ⟨hp, g, dr, tk, os⟩ := s1
    refine wpAny_call (PySem.X_most.low_made T I1.kIn hlim (by have := hr.dp; omega) fun h' tk' e d M => ?_)
    show MkP X pins σ Q (.ref e) ⟨h', g, dr, tk', os⟩
    obtain ⟨oe, fv, hoe, hc, hd, hdat, h1⟩ := M.obj
    have hns := M.ns
    obtain ⟨G', g1, g2⟩ := restrict h' fun b => decide (b ≠ e)
    have gk : ∀ b, b ≠ e → G'.get? b = h'.get? b := fun b hb => g1 b (decide_eq_true hb)
    have ge : G'.get? e = none := g2 e (by simp)
    have old : ∀ b o, hp.get? b = some o → G'.get? b = some o := fun b o q => (gk b (Nat.ne_of_lt (Nat.lt_of_lt_of_le (Heap.lt_size q) M.new))).trans (M.keep b o q)
    have ob : ObjOk X.prog X.w (upd H1 d (.xd [(("most" : Str), v)])) G' d (.xd [(("most" : Str), v)]) :=
      ⟨_, hns.at (fun o q => (gk d M.dne).trans q), fun f => relO_low_most rv f⟩
    have J : Inv X pins σ (upd H1 d (.xd [(("most" : Str), v)])) ⟨G', g, dr, tk', os⟩ := I1.laid (t' := tk') old M.dbig ob
    refine ⟨e, oe, fv, ⟨G', g, dr, tk', os⟩, _, .ref C, some d, rfl, J, fun b o q => ?_, ge, hoe, ⟨hc, hd⟩, hdat, h1, ?_, rfl, I1.bare, raises_own T.exC T.tyC, q1 d (I1.hok.fresh M.dbig)⟩
    · by_cases hb : b = e
      · have q' : G'.get? b = some o := q
        rw [hb, ge] at q'; cases q'
      · exact (gk b hb).symm.trans q
    · rw [upd_ne (Ne.symm M.dne)]
      exact I1.hok.fresh M.new
/-- raise Low(e) -/
def tRaiseLow_most (C : Addr) (W : WX) (ta : TA) : TS := fun _ σ H => tMkLow_most C ta σ H fun cls d H' => W cls d σ H'
theorem ps_raiseLow_most {a : Expr} {ta : TA} {W : WX} {p pos pos2 : Pos} {k : Nat} (hc : X.calm = true) (T : PySem.X_most.LowTxt X.K X.mg c qn C fI) (hr : Room k X.A) (tk : Takes X W) (ha : PA X [a] ta) (hg : Gl X c := by rfl) (hdb : (c == ("__debug__" : Str)) = false := by decide)
    (he : starEach (a :: []) X.env = (false, eval a X.env) :: starEach [] X.env := by rfl) (hpl : (backTo pos (starEach [] X.env)).any (·.1) = false := by rfl) :
    PS X (.Raise (some (.Call (.Name c p) [a] [] pos)) none pos2) (tRaiseLow_most C W ta) := ps_raise hc tk (pmk_low_most T hr ha hg hdb he hpl)
/-- low.by, low the exception that the suite holds (at a; its class cls, its dict d) -/
def tByLow_most (C : Addr) (a : Addr) (cls : Value) (d : Option Addr) (te : TE) : TE := fun σ H Q => te σ H fun x H1 => x = .ref a ∧ cls = .ref C ∧ ∃ (dd : Addr) (v : V), d = some dd ∧ H1 dd = some (.xd [(("most" : Str), v)]) ∧ Q v H1
theorem pe_byLow_most {a : Addr} {oe : Obj} {cls : Value} {d : Option Addr} {pn : List (Addr × Obj)} {e : Expr} {te : TE} {pos : Pos} (T : PySem.X_most.LowTxt X.K X.mg c qn C fI) (hz : Zc cls d oe) (hf : ∃ vs, oe.data = .fields vs) (he : PE (X.suite a ((a, oe) :: pn)) e te)
    (hb : attributeBase e "most" X.env (eval e X.env) = eval e X.env := by rfl) :
    PE (X.suite a ((a, oe) :: pn)) (.Attribute e "most" pos) (tByLow_most C a cls d te) := by
  refine ⟨fun pins s σ H Q I h => ?_⟩
  refine attr_of hb (thn (he.run pins s σ H _ I h) fun u s1 hh => ?_)
  obtain ⟨x, H1, I1, rx, ex, ec, dd, v, ed, ea, q⟩ := hh
  subst ex
  obtain rfl : u = Value.ref a := rx
  subst ec
  subst ed
  obtain ⟨ha, _⟩ := I1.pin (a, oe) (List.mem_append_left _ List.mem_cons_self)
  obtain ⟨vs, hd⟩ := hf
  have hx : ObjOk X.prog X.w H1 s1.heap dd (.xd [(("most" : Str), v)]) := I1.hok dd _ ea
  obtain ⟨mA, hns, hr⟩ := hx
  obtain ⟨od, ho, hl⟩ := lookIn_ns hns
  have l : List.lookup ("most" : Str) [(("most" : Str), v)] = some v := by simp [List.lookup]
  obtain ⟨u, hu, ru⟩ := RelO.some_of (v := v) (o := mA "most") (by rw [← l]; exact hr "most")
  have J : PySem.W.InstAt s1.heap a oe C (some od) := ⟨ha, hz.1, by unfold PySem.W.notCls; rw [hd] <;> rfl, by rw [hz.2]; exact ho⟩
  exact HandSPX.exc_get I1.kIn J T.ga T.gg T.exC (PySem.W.findObj_own T.hdC T.noN rfl (by rw [hl, hu])) (handed_of ru) ⟨v, H1, I1.tok _, ru, q⟩
end
end L2


namespace Mp
open PySem PySem.Spec L2
variable {X : Cx} {W : WX}
theorem one_len {me : ME} {L : Loc} {S S1 : Store} {a : List Val} (h : aCons me aNil L S = .ok a S1) : ∃ x, a = [x] := by
  rw [aCons_app] at h
  cases e : me L S with
  | ok x S2 =>
    rw [e] at h
    simp at h
    exact ⟨x, h.1.symm⟩
  | exn x S2 => rw [e] at h; cases h
  | bad => rw [e] at h; cases h
def fldOf (fs : List (Str × Val)) (f : Str) : Option Val := match fs with
  | [(g, v)] => if g = f then some v else none
  | _ => none
/-- what the clause tells of an error -/
def asRet (i : Nat) (x f t : Str) (U : List (Str × Bool)) (e : Ex) (L : Loc) (S : Store) : F := match U.lookup e.cls with
  | some true => if e.cls = x ∧ i < L.length then (match fldOf e.fs f with
    | some v => .rt (.tup [.str t, v]) S
    | none => .bad) else .bad
  | some false => .exn e L S
  | none => .bad
def sTryAs (b : MS) (i : Nat) (x f t : Str) (U : List (Str × Bool)) : MS := fun L S => match b L S with
  | .exn e L1 S1 => asRet i x f t U e L1 S1
  | r => r
theorem fldOf_some {fs : List (Str × Val)} {f : Str} {v : Val} (h : fldOf fs f = some v) : fs = [(f, v)] := by
  unfold fldOf at h
  split at h
  · split at h
    · next e => cases h; rw [e]
    · cases h
  · cases h

theorem hdOne_part {K : PySem.W.Frag} {mg : Str → Option Value} {x qn : Str} {C fI : Addr} (T : PySem.X_part.LowTxt K mg x qn C fI) : HdOk K mg (.ref C) [(x, true)] := fun p hp => by
  simp at hp
  subst hp
  exact ⟨C, T.gC, T.te⟩
theorem s_raise_part {c qn : Str} {C fI : Addr} {a : Expr} {me : ME} {p pos pos2 : Pos} {k : Nat} (hc : X.calm = true) (T : PySem.X_part.LowTxt X.K X.mg c qn C fI) (hr : Room k X.A) (tk : Takes X W) (ha : PAm X W [a] (aCons me aNil)) (hg : Gl X c) (hdb : (c == ("__debug__" : Str)) = false)
    (he : starEach (a :: []) X.env = (false, eval a X.env) :: starEach [] X.env := by rfl) (hpl : (backTo pos (starEach [] X.env)).any (·.1) = false := by rfl) :
    PSm X W (.Raise (some (.Call (.Name c p) [a] [] pos)) none pos2) (sRaise c [("part" : Str)] (aCons me aNil)) :=
  PS.imp (ps_raiseLow_part (k := k) hc T hr tk ha hg hdb he hpl) fun D σ H ⟨ρ, S, L, s, l, h⟩ => by
    have h' : PostF X.K X.mg W ρ S H (thenF L (aCons me aNil L S) fun vs S1 => .exn ⟨c, [("part" : Str)].zip vs⟩ L S1) D := h
    refine ⟨ρ, S, L, s, l, (PostF.then (rel := relVs X.K) s l h').mono fun vs H1 ⟨ρ1, S1, b, eb, e, s1, v, q⟩ => ?_⟩
    obtain ⟨x, rfl⟩ := one_len eb
    have v' : VRs X.K ρ1 S1.length H1 [x] vs := v
    simp only [VRs] at v'
    obtain ⟨u, us, rfl, v1, rfl⟩ := v'
    refine ⟨u, rfl, fun d hd => ?_⟩
    have s2 := s1.side (o := .xd [(("part" : Str), u)]) hd
    have e2 : Ext ρ1 S1 H1 ρ1 S1 (upd H1 d (.xd [(("part" : Str), u)])) := Ext.side hd
    refine q ρ1 _ σ (.ref C) (some d) e2 s2 ((l.ext s e).ext s1 e2) ⟨⟨C, T.gC, rfl⟩, fun _ => ⟨d, _, rfl, upd_same, rfl, ?_⟩⟩
    show VRs X.K ρ1 S1.length _ [x] [u]
    simp only [VRs]
    exact ⟨u, [], rfl, VR.ext s1 e2 x u v1, rfl⟩
theorem s_try_as_part {x n qn t : Str} {C fI : Addr} {i k1 : Nat} {body : List Stmt} {kb : MS} {U : List (Str × Bool)} {np pos pos' rp tp cp ap vp : Pos} {j : Nat} (hs : X.stack = X.env :: X.outer) (hf : X.env.frame = some X.env.locals) (hN : X.N.Nodup) (hi : X.N[i]? = some n) (hk : X.env.kindOf n = some .local)
    (hx : Names X x (.ref C)) (tk : Takes X W) (T : PySem.X_part.LowTxt X.K X.mg x qn C fI) (hu : HdOk X.K X.mg (.ref C) U)
    (hb : ∀ (W : WX) (pn : List (Addr × Obj)) (xe : Value → Shared → Prop), Takes (X.tr pn xe) W → PassesOwn (model X.prog X.w) X.A X.env xe → PSsm (X.tr pn xe) W body kb)
    (hv : ∀ (a : Addr) (oe : Obj) (pn : List (Addr × Obj)), PE (X.suite a ((a, oe) :: pn)) (.Name n vp) (tVar i)) :
    PSm X W (.Try body [.ExceptHandler (some (.Name x np)) (some n) [.Return (some (.Tuple [.Constant (.str t) j cp, .Attribute (.Name n vp) "part" ap] k1 tp)) rp] pos'] [] [] pos) (sTryAs kb i x "part" t U) :=
  PS.imp (ps_try_as (i := i) (c := .ref C) (tb := fun W => TSm X.K X.mg W kb) (ts := fun a cls d => tRet (tTup (tCons (tC (.str t)) (tCons (tByLow_part C a cls d (tVar i)) tNil)))) hs hf hN hi hk hx tk hb
    (fun a oe cls d pn hz hfv => pss_one (ps_ret (pe_tup (pa_cons pe_str (pa_cons (pe_byLow_part T hz hfv (hv a oe pn)) pa_nil)))))) fun D σ H ⟨ρ, S, L, s, l, h⟩ => by
    refine ⟨ρ, S, L, s, l, ?_⟩
    unfold sTryAs at h
    cases hkb : kb L S with
    | exn y L' S' =>
      rw [hkb] at h
      replace h : PostF X.K X.mg W ρ S H (asRet i x "part" t U y L' S') D := h
      intro ρ' H' σ' cls d e s' l' q
      have h' := PostF.step s' e h
      unfold asRet at h'
      obtain ⟨⟨C', g1, rfl⟩, q2⟩ := q
      split at h'
      · rename_i hb1
        obtain ⟨C2, g2, g3⟩ := hu _ (lookup_mem hb1)
        rw [g1] at g2
        cases g2
        split at h'
        · rename_i hc
          obtain ⟨hc1, hc2⟩ := hc
          split at h'
          · rename_i v hv1
            have hfs := fldOf_some hv1
            rw [hc1, T.gC] at g1
            cases g1
            refine ⟨true, g3, fun _ a ha => ?_, fun z => nomatch z⟩
            obtain ⟨dd, us, rfl, hd, kr⟩ := q2 (by rw [hfs]; simp)
            rw [hfs] at kr
            obtain ⟨k1, k2⟩ := kr
            cases us with
            | nil => simp at k1
            | cons z r =>
              cases r with
              | cons z2 r2 => simp at k1
              | nil =>
                obtain ⟨zf, u⟩ := z
                simp at k1
                subst k1
                have k3 : VRs X.K ρ' S'.length H' [v] [u] := k2
                simp only [VRs] at k3
                obtain ⟨u', _, e1, k4, e2⟩ := k3
                cases e1
                refine ⟨_, List.getElem?_set_self (by have := l'.1; omega), rfl, rfl, dd, u, rfl, hd, (by show 2 ≤ PySem.sizeLine; decide), fun p hp => ?_⟩
                have s2 := s'.side (o := .tup [.str t, u]) hp
                have e2 : Ext ρ' S' H' ρ' S' (upd H' p (.tup [.str t, u])) := Ext.side hp
                refine h' ρ' _ (.ref p) e2 s2 ?_
                simp only [VR]
                refine ⟨p, [.str t, u], rfl, .inl upd_same, ?_⟩
                simp only [VRs, VR]
                exact ⟨_, _, rfl, rfl, _, _, rfl, VR.ext s' e2 v u k4, rfl⟩
          · exact h'.elim
        · exact h'.elim
      · rename_i hb1
        obtain ⟨C2, g2, g3⟩ := hu _ (lookup_mem hb1)
        rw [g1] at g2
        cases g2
        exact ⟨false, g3, (fun z => nomatch z), fun _ => h' ρ' H' σ' _ d (Ext.refl _ _ _) s' l' ⟨⟨_, g1, rfl⟩, q2⟩⟩
      · exact h'.elim
    | nx L' S' => rw [hkb] at h; exact h
    | bk L' S' => rw [hkb] at h; exact h
    | ct L' S' => rw [hkb] at h; exact h
    | rt v S' => rw [hkb] at h; exact h
    | bad => rw [hkb] at h; exact h.elim

theorem hdOne_most {K : PySem.W.Frag} {mg : Str → Option Value} {x qn : Str} {C fI : Addr} (T : PySem.X_most.LowTxt K mg x qn C fI) : HdOk K mg (.ref C) [(x, true)] := fun p hp => by
  simp at hp
  subst hp
  exact ⟨C, T.gC, T.te⟩
theorem s_raise_most {c qn : Str} {C fI : Addr} {a : Expr} {me : ME} {p pos pos2 : Pos} {k : Nat} (hc : X.calm = true) (T : PySem.X_most.LowTxt X.K X.mg c qn C fI) (hr : Room k X.A) (tk : Takes X W) (ha : PAm X W [a] (aCons me aNil)) (hg : Gl X c) (hdb : (c == ("__debug__" : Str)) = false)
    (he : starEach (a :: []) X.env = (false, eval a X.env) :: starEach [] X.env := by rfl) (hpl : (backTo pos (starEach [] X.env)).any (·.1) = false := by rfl) :
    PSm X W (.Raise (some (.Call (.Name c p) [a] [] pos)) none pos2) (sRaise c [("most" : Str)] (aCons me aNil)) :=
  PS.imp (ps_raiseLow_most (k := k) hc T hr tk ha hg hdb he hpl) fun D σ H ⟨ρ, S, L, s, l, h⟩ => by
    have h' : PostF X.K X.mg W ρ S H (thenF L (aCons me aNil L S) fun vs S1 => .exn ⟨c, [("most" : Str)].zip vs⟩ L S1) D := h
    refine ⟨ρ, S, L, s, l, (PostF.then (rel := relVs X.K) s l h').mono fun vs H1 ⟨ρ1, S1, b, eb, e, s1, v, q⟩ => ?_⟩
    obtain ⟨x, rfl⟩ := one_len eb
    have v' : VRs X.K ρ1 S1.length H1 [x] vs := v
    simp only [VRs] at v'
    obtain ⟨u, us, rfl, v1, rfl⟩ := v'
    refine ⟨u, rfl, fun d hd => ?_⟩
    have s2 := s1.side (o := .xd [(("most" : Str), u)]) hd
    have e2 : Ext ρ1 S1 H1 ρ1 S1 (upd H1 d (.xd [(("most" : Str), u)])) := Ext.side hd
    refine q ρ1 _ σ (.ref C) (some d) e2 s2 ((l.ext s e).ext s1 e2) ⟨⟨C, T.gC, rfl⟩, fun _ => ⟨d, _, rfl, upd_same, rfl, ?_⟩⟩
    show VRs X.K ρ1 S1.length _ [x] [u]
    simp only [VRs]
    exact ⟨u, [], rfl, VR.ext s1 e2 x u v1, rfl⟩
theorem s_try_as_most {x n qn t : Str} {C fI : Addr} {i k1 : Nat} {body : List Stmt} {kb : MS} {U : List (Str × Bool)} {np pos pos' rp tp cp ap vp : Pos} {j : Nat} (hs : X.stack = X.env :: X.outer) (hf : X.env.frame = some X.env.locals) (hN : X.N.Nodup) (hi : X.N[i]? = some n) (hk : X.env.kindOf n = some .local)
    (hx : Names X x (.ref C)) (tk : Takes X W) (T : PySem.X_most.LowTxt X.K X.mg x qn C fI) (hu : HdOk X.K X.mg (.ref C) U)
    (hb : ∀ (W : WX) (pn : List (Addr × Obj)) (xe : Value → Shared → Prop), Takes (X.tr pn xe) W → PassesOwn (model X.prog X.w) X.A X.env xe → PSsm (X.tr pn xe) W body kb)
    (hv : ∀ (a : Addr) (oe : Obj) (pn : List (Addr × Obj)), PE (X.suite a ((a, oe) :: pn)) (.Name n vp) (tVar i)) :
    PSm X W (.Try body [.ExceptHandler (some (.Name x np)) (some n) [.Return (some (.Tuple [.Constant (.str t) j cp, .Attribute (.Name n vp) "most" ap] k1 tp)) rp] pos'] [] [] pos) (sTryAs kb i x "most" t U) :=
  PS.imp (ps_try_as (i := i) (c := .ref C) (tb := fun W => TSm X.K X.mg W kb) (ts := fun a cls d => tRet (tTup (tCons (tC (.str t)) (tCons (tByLow_most C a cls d (tVar i)) tNil)))) hs hf hN hi hk hx tk hb
    (fun a oe cls d pn hz hfv => pss_one (ps_ret (pe_tup (pa_cons pe_str (pa_cons (pe_byLow_most T hz hfv (hv a oe pn)) pa_nil)))))) fun D σ H ⟨ρ, S, L, s, l, h⟩ => by
    refine ⟨ρ, S, L, s, l, ?_⟩
    unfold sTryAs at h
    cases hkb : kb L S with
    | exn y L' S' =>
      rw [hkb] at h
      replace h : PostF X.K X.mg W ρ S H (asRet i x "most" t U y L' S') D := h
      intro ρ' H' σ' cls d e s' l' q
      have h' := PostF.step s' e h
      unfold asRet at h'
      obtain ⟨⟨C', g1, rfl⟩, q2⟩ := q
      split at h'
      · rename_i hb1
        obtain ⟨C2, g2, g3⟩ := hu _ (lookup_mem hb1)
        rw [g1] at g2
        cases g2
        split at h'
        · rename_i hc
          obtain ⟨hc1, hc2⟩ := hc
          split at h'
          · rename_i v hv1
            have hfs := fldOf_some hv1
            rw [hc1, T.gC] at g1
            cases g1
            refine ⟨true, g3, fun _ a ha => ?_, fun z => nomatch z⟩
            obtain ⟨dd, us, rfl, hd, kr⟩ := q2 (by rw [hfs]; simp)
            rw [hfs] at kr
            obtain ⟨k1, k2⟩ := kr
            cases us with
            | nil => simp at k1
            | cons z r =>
              cases r with
              | cons z2 r2 => simp at k1
              | nil =>
                obtain ⟨zf, u⟩ := z
                simp at k1
                subst k1
                have k3 : VRs X.K ρ' S'.length H' [v] [u] := k2
                simp only [VRs] at k3
                obtain ⟨u', _, e1, k4, e2⟩ := k3
                cases e1
                refine ⟨_, List.getElem?_set_self (by have := l'.1; omega), rfl, rfl, dd, u, rfl, hd, (by show 2 ≤ PySem.sizeLine; decide), fun p hp => ?_⟩
                have s2 := s'.side (o := .tup [.str t, u]) hp
                have e2 : Ext ρ' S' H' ρ' S' (upd H' p (.tup [.str t, u])) := Ext.side hp
                refine h' ρ' _ (.ref p) e2 s2 ?_
                simp only [VR]
                refine ⟨p, [.str t, u], rfl, .inl upd_same, ?_⟩
                simp only [VRs, VR]
                exact ⟨_, _, rfl, rfl, _, _, rfl, VR.ext s' e2 v u k4, rfl⟩
          · exact h'.elim
        · exact h'.elim
      · rename_i hb1
        obtain ⟨C2, g2, g3⟩ := hu _ (lookup_mem hb1)
        rw [g1] at g2
        cases g2
        exact ⟨false, g3, (fun z => nomatch z), fun _ => h' ρ' H' σ' _ d (Ext.refl _ _ _) s' l' ⟨⟨_, g1, rfl⟩, q2⟩⟩
      · exact h'.elim
    | nx L' S' => rw [hkb] at h; exact h
    | bk L' S' => rw [hkb] at h; exact h
    | ct L' S' => rw [hkb] at h; exact h
    | rt v S' => rw [hkb] at h; exact h
    | bad => rw [hkb] at h; exact h.elim

end Mp

/-! MpO: isinstance of an own class; == by an own def. -/
namespace Mp
open PySem PySem.Spec L2
section
variable {X : Cx} {W : WX} {e a b c : Expr} {es : List Expr} {m ma mb mc : ME} {pos : Pos}
def clsOk (K : PySem.W.Frag) (C : Addr) : Prop := PySem.W.findIn K (.ref C) "__class__" = some (some (.builtin "object.__class__")) ∧ PySem.W.specialIn K (.builtin "object.__class__") "__get__" = some (some (.builtin "getset_descriptor.__get__")) ∧
  PySem.W.takesIn K (.builtin "object.__class__") = some true ∧ PySem.W.mroIn K C (.type "object") = some true
/-- the class c, told from built-in types (ts) and from other classes (os) -/
structure IsoAt (K : PySem.W.Frag) (mg : Str → Option Value) (c : Str) (ts : List String) (os : List Str) : Prop where
  ex : ∃ C, mg c = some (.ref C) ∧ Cls K C ∧ clsOk K C ∧ (∀ t, t ∈ ts → PySem.W.kitOne K (.type t) (.ref C) = some false) ∧ ∀ o, o ∈ os → ∃ C', mg o = some (.ref C') ∧ Cls K C' ∧ clsOk K C' ∧ PySem.W.kitOne K (.ref C') (.ref C) = some false
def pIsO (c : Str) (ts : List String) (os : List Str) : P1 := fun v S => match insAt v S with
  | some (c', _) => bite (decide (c' = c)) (.ok (.bl true) S) (bite (decide (c' ∈ os)) (.ok (.bl false) S) .bad)
  | none => match tyName v S with
    | some t => bite (decide (t ∈ ts)) (.ok (.bl false) S) .bad
    | none => .bad
theorem kitOne_self {K : PySem.W.Frag} {C : Addr} : PySem.W.kitOne K (.ref C) (.ref C) = some true := by
  unfold PySem.W.kitOne
  rw [if_pos (by simp)]
theorem e_isO {c : Str} {ts : List String} {os : List Str} {p p2 : Pos} (hg : Gl X "isinstance") (hm : X.mg "isinstance" = none) (ha : PEm X W a ma) (hgT : Gl X c) (hI : IsoAt X.K X.mg c ts os) (hd : (c == ("__debug__" : Str)) = false := by decide)
    (hs1 : starEach [a, .Name c p2] X.env = (false, eval a X.env) :: starEach [.Name c p2] X.env := by rfl) (hs2 : starEach [.Name c p2] X.env = (false, eval (.Name c p2) X.env) :: starEach [] X.env := by rfl) (hpl : (backTo pos (starEach [.Name c p2] X.env)).any (·.1) = false := by rfl) :
    PEm X W (.Call (.Name "isinstance" p) [a, .Name c p2] [] pos) (m1 (pIsO c ts os) ma) := by
  obtain ⟨C, hC, hcl, hok, hts, hos⟩ := hI.ex
  refine PE.imp (pe_callB call_isi hg hm (by decide +kernel) (pa_cons ha (pa_cons (pe_glob (v := .ref C) hgT hC rfl hd) pa_nil hs2) hs1) (by decide) (by decide) hs1 hpl) fun σ H Q h => ?_
  obtain ⟨ρ, S, L, s, l, h⟩ := h
  refine TEm.bind s l h fun ρ1 S1 x u H1 s1 l1 e v h3 => ?_
  replace h3 := (Post.noExn h3 W0).sig (σ' := σ)
  unfold pIsO at h3
  split at h3
  · rename_i c' fs qi
    obtain ⟨i, C', dx, us, rfl, hi, hs, rfl, g1, g2, g3⟩ := insAt_of s1 v qi
    by_cases hcc : c' = c
    · rw [bite_pos (decide_eq_true hcc)] at h3
      subst hcc
      rw [hC] at g1
      cases g1
      exact ⟨_, .ref C, _, .ref C, true, rfl, .own C, .base (.ins g2 hcl hok.1 hok.2.1 hok.2.2.1 hok.2.2.2), kitOne_self, Post.here (rel := relV X.K) s1 h3 (by simp [relV, VR])⟩
    · rw [bite_neg (decide_eq_false hcc)] at h3
      by_cases hco : c' ∈ os
      · rw [bite_pos (decide_eq_true hco)] at h3
        obtain ⟨C2, q1, q2, q3, q4⟩ := hos c' hco
        rw [q1] at g1
        cases g1
        exact ⟨_, .ref C, _, .ref C, false, rfl, .own C, .base (.ins g2 q2 q3.1 q3.2.1 q3.2.2.1 q3.2.2.2), q4, Post.here (rel := relV X.K) s1 h3 (by simp [relV, VR])⟩
      · rw [bite_neg (decide_eq_false hco)] at h3
        exact h3.elim
  · split at h3
    · rename_i t ht
      by_cases htt : t ∈ ts
      · rw [bite_pos (decide_eq_true htt)] at h3
        exact ⟨u, .ref C, .type t, .ref C, false, rfl, .own C, ty_of s1 v ht, hts t htt, Post.here (rel := relV X.K) s1 h3 (by simp [relV, VR])⟩
      · rw [bite_neg (decide_eq_false htt)] at h3
        exact h3.elim
    · exact h3.elim
/-- == by c's own def; the other one an instance of c, too, or of a built-in type of ts -/
def pOwnEq (c : Str) (ts : List String) (f : Fn) : P2 := fun x y S => match insAt x S with
  | some (c', _) => bite (decide (c' = c)) (match insAt y S with
    | some (c2, _) => bite (decide (c2 = c)) (f [x, y] S) .bad
    | none => match tyName y S with
      | some t => bite (decide (t ∈ ts)) (f [x, y] S) .bad
      | none => .bad) .bad
  | none => .bad
structure OeqAt (K : PySem.W.Frag) (mg : Str → Option Value) (c : Str) (ts : List String) : Prop where
  ex : ∃ C, mg c = some (.ref C) ∧ ∀ t, t ∈ ts → PySem.W.subIn K (.type t) (.ref C) = some false
theorem notFirst_self {K : PySem.W.Frag} {C : Addr} : PySem.W.notFirst K C (.ref C) = true := by
  unfold PySem.W.notFirst
  simp
theorem notFirst_of {K : PySem.W.Frag} {C : Addr} {t : Value} (h : PySem.W.subIn K t (.ref C) = some false) : PySem.W.notFirst K C t = true := by
  unfold PySem.W.notFirst
  rw [h]
  simp
theorem o_eqOwn {c : Str} {f : Fn} {k : Nat} {ts : List String} (D : MethAt X.prog X.w X.K X.mg X.base k c "__eq__" 2 f) (hl : ∀ vs S, vs.length ≠ 2 → f vs S = .bad) (hr : Room k X.A) (hT : OeqAt X.K X.mg c ts) : OpS X (compareOp .Eq) (pOwnEq c ts f) := by
  obtain ⟨C, fa, fd, ps, hp, hm, hc, hme, hb, G⟩ := D.ex
  obtain ⟨C0, hC0, hts⟩ := hT.ex
  rw [hm] at hC0
  cases hC0
  intro pins s σ H x y v u Q I rx ry h
  obtain ⟨ρ, S, xv, yv, sr, v1, v2, h⟩ := h
  unfold pOwnEq at h
  split at h
  · rename_i c' fs qi
    obtain ⟨i, C', dx, us, rfl, hi, hs, rfl, g1, g2, g3⟩ := insAt_of sr v1 qi
    by_cases hcc : c' = c
    · rw [bite_pos (decide_eq_true hcc)] at h
      subst hcc
      rw [hm] at g1
      cases g1
      obtain rfl : v = Value.ref (ρ i) := rx
      show wpAny _ _ (richCompare .Eq (.ref (ρ i)) u) _ _ _
      obtain ⟨mA, J, _⟩ := ins_get I.hok g2
      obtain ⟨od, J, _⟩ := ObjM.look J
      obtain ⟨m, hF⟩ := Inv.fr I
      have key : ∀ tb, PySem.W.Looks (model X.prog X.w) s.heap (typeOf u) tb → PySem.W.notFirst X.K C tb = true → Post X.K X.mg (relV X.K) W0 ρ S H [] (f [.ref i, yv] S) Q → wpAny (model X.prog X.w) X.A (richCompare .Eq (.ref (ρ i)) u) (EP X pins σ Q) X.xe s := fun tb L N h => by
        refine PySem.W.cmp_K (Room.units0 hr) hF I.ok.mod.kin J L N hme.at_ hme.fn ?_
        refine thn (run_fnS (us := [.ref (ρ i), u]) (vs := [.ref (ρ i), y]) (E := fun σ => WE W0 σ) G hr hb (passAt takes0 σ) I (.cons rfl (.cons ry .nil)) ⟨ρ, S, [.ref i, yv], rfl, sr, VRs.cons v1 (VRs.cons v2 VRs.nil), h.wish fun _ _ _ z => z⟩) fun r s' q => ?_
        obtain ⟨z, H', I', rz, hq⟩ := q
        unfold PySem.W.CmpBack
        split
        · cases z <;> simp [RelV] at rz
        · exact ⟨z, H', I', rz, hq⟩
      split at h
      · rename_i c2 fs2 qj
        obtain ⟨j, C2, dy, us2, rfl, hj, hs2, rfl, k1, k2, k3⟩ := insAt_of sr v2 qj
        by_cases hc2 : c2 = c'
        · rw [bite_pos (decide_eq_true hc2)] at h
          subst hc2
          rw [hm] at k1
          cases k1
          obtain rfl : u = Value.ref (ρ j) := ry
          obtain ⟨mB, J', _⟩ := ins_get I.hok k2
          obtain ⟨od', J', _⟩ := ObjM.look J'
          exact key _ (PySem.W.InstAt.type J') notFirst_self h
        · rw [bite_neg (decide_eq_false hc2)] at h
          exact h.elim
      · split at h
        · rename_i t ht
          by_cases htt : t ∈ ts
          · rw [bite_pos (decide_eq_true htt)] at h
            obtain ⟨P, kx, hP, _⟩ := kit_of I ry (ty_of sr v2 ht)
            exact key _ (kx.ty _ _ I.kIn hP) (notFirst_of (hts t htt)) h
          · rw [bite_neg (decide_eq_false htt)] at h
            exact h.elim
        · exact h.elim
    · rw [bite_neg (decide_eq_false hcc)] at h
      exact h.elim
  · exact h.elim
end
end Mp

/-! MpH: the drawing hand at number 1, its cells at 0. -/
namespace Mp
open PySem (Str)
def Hand (S : Store) : Prop := ∃ (ns : List Int) (a : Nat) (b s k : Int), sg S 1 = some (.lst [.ref 0, .int a, .int b, .int s, .int k]) ∧ sg S 0 = some (.lst (ns.map Val.int)) ∧ a ≤ ns.length ∧ 0 ≤ b
/-- o is a hand's object from now on -/
def HOb (S : Store) (o : Ob) : Prop := Hand (ss S 1 o) ∧ ∀ n, 0 < n → obBelow n o = true
theorem Hand.lt {S : Store} (H : Hand S) : 1 < sl S := by
  obtain ⟨ns, a, b, s, k, e1, _⟩ := H
  exact sg_lt e1
theorem Hand.pos {S : Store} (H : Hand S) : 0 < sl S := Nat.lt_trans Nat.zero_lt_one H.lt
theorem Hand.of {S S' : Store} (H : Hand S) (e1 : sg S' 1 = sg S 1) (e0 : sg S' 0 = sg S 0) : Hand S' := by
  obtain ⟨ns, a, b, s, k, q1, q0, r⟩ := H
  exact ⟨ns, a, b, s, k, e1.trans q1, e0.trans q0, r⟩
theorem Hand.sp {S : Store} (H : Hand S) (o : Ob) : Hand (Mp.sp S o) := H.of (sg_sp_lt H.lt) (sg_sp_lt H.pos)
theorem Hand.ss {S : Store} (H : Hand S) {i : Nat} (h : 2 ≤ i) (o : Ob) : Hand (Mp.ss S i o) := H.of (sg_ss_ne (by omega)) (sg_ss_ne (by omega))
theorem HOb.hand {S : Store} {o : Ob} (h : HOb S o) : Hand (Mp.ss S 1 o) := h.1
theorem HOb.trans {S : Store} {o o' : Ob} (h : HOb (Mp.ss S 1 o) o') : HOb S o' := ⟨by have := h.1; rw [ss_ss] at this; exact this, h.2⟩
/-- without a draw -/
theorem Hand.same {S : Store} (H : Hand S) : ∃ o, Mp.ss S 1 o = S ∧ HOb S o := by
  obtain ⟨ns, a, b, s, k, e1, e0, r⟩ := H
  have e : Mp.ss S 1 (.lst [.ref 0, .int a, .int b, .int s, .int k]) = S := by
    apply List.ext_getElem?
    intro i
    by_cases hi : i = 1
    · subst hi
      have : sg (Mp.ss S 1 (.lst [.ref 0, .int a, .int b, .int s, .int k])) 1 = sg S 1 := by rw [sg_ss_same (by rw [e1]; rfl), e1]
      exact this
    · exact sg_ss_ne (S := S) hi
  exact ⟨_, e, by rw [e]; exact ⟨ns, a, b, s, k, e1, e0, r⟩, fun n hn => by simp [hn]⟩
theorem HOb.mk' {S : Store} {ns : List Int} {a : Nat} {b s k : Int} (e1 : (sg S 1).isSome = true) (e0 : sg S 0 = some (.lst (ns.map Val.int))) (ha : a ≤ ns.length) (hb : 0 ≤ b) {a' : Int} (ea : a' = a) : HOb S (.lst [.ref 0, .int a', .int b, .int s, .int k]) :=
  ⟨⟨ns, a, b, s, k, by rw [ea]; exact sg_ss_same e1, by rw [sg_ss_ne (by decide)]; exact e0, ha, hb⟩, fun n hn => by simp [hn]⟩
theorem cR1 (i : Int) : cmul i 48271 = true := cmul_right (by decide) (by decide)
theorem cR2 (i : Int) : cmul i 69621 = true := cmul_right (by decide) (by decide)
theorem cR3 (i : Int) : cmul 7919 i = true := cmul_left (by decide) (by decide)
theorem cR4 (i : Int) : cmul i 16 = true := cmul_right (by decide) (by decide)
theorem cM1 (i j : Int) : cmul (i % 2147483647) j = true := cmul_left (by omega) (by omega)
end Mp
namespace Mp
open PySem (Str)
/-- behind draws: the hand's object alone is another one -/
theorem cut_hand {S S' : Store} (K : Keep 1 S S') (H : Hand S) (H' : Hand S') : ∃ o, cut (sl S) S' = ss S 1 o ∧ HOb S o ∧ GcOk S S' := by
  obtain ⟨ns, a, b, s, k, e1, e0, r⟩ := id H'
  have hl := H.lt
  have lo : ∀ n, 0 < n → obBelow n (.lst [.ref 0, .int a, .int b, .int s, .int k]) = true := fun n hn => by simp [hn]
  have e : cut (sl S) S' = ss S 1 (.lst [.ref 0, .int a, .int b, .int s, .int k]) := by
    apply List.ext_getElem?
    intro i
    by_cases hi : i < sl S
    · rw [cut_get hi]
      by_cases h1 : i = 1
      · subst h1
        have : sg (ss S 1 (.lst [.ref 0, .int a, .int b, .int s, .int k])) 1 = some (.lst [.ref 0, .int a, .int b, .int s, .int k]) := sg_ss_same (by obtain ⟨_, _, _, _, _, q, _⟩ := H; rw [q]; rfl)
        exact e1.trans this.symm
      · exact (K.2 i hi h1).trans (sg_ss_ne h1).symm
    · have h1 : (cut (sl S) S').length ≤ i := by rw [cut_len K.1]; unfold sl at hi; omega
      have h2 : (ss S 1 (.lst [.ref 0, .int a, .int b, .int s, .int k])).length ≤ i := by unfold ss; rw [List.length_set]; unfold sl at hi; omega
      rw [List.getElem?_eq_none h1, List.getElem?_eq_none h2]
  refine ⟨_, e, ⟨?_, lo⟩, K.1, fun i hi => ?_⟩
  · rw [← e]
    exact H'.of (by unfold sg; exact cut_get hl) (by unfold sg; exact cut_get H.pos)
  · by_cases h1 : i = 1
    · subst h1
      exact .inr ⟨_, e1, lo _ H.pos⟩
    · exact .inl (K.2 i hi h1)
theorem gcR_hand {S S' : Store} {v : Val} (K : Keep 1 S S') (H : Hand S) (H' : Hand S') (hb : below (sl S) v = true) : ∃ o, gcR S (.ok v S') = .ok v (ss S 1 o) ∧ HOb S o := by
  obtain ⟨o, e, ho, g⟩ := cut_hand K H H'
  exact ⟨o, by rw [gcR_ok, gate_pos g, gcV_low hb, e], ho⟩
theorem HOb.keepS {S : Store} {o : Ob} (_ : HOb S o) : Keep 1 S (ss S 1 o) := Keep.ss 1 S o
end Mp

/-! MpR: a loop, whatever its turns do. -/
namespace Mp
/-- each turn goes on, or ends the loop as E tells -/
theorem forLoop_gen {keep : Store → Prop} {g : MG} {b : MS} (I : Nat → Loc → Store → Prop) (E : F → Prop) {xs : List Val} {L : Loc} {S : Store} (h0 : I 0 L S) (hk : ∀ i L S, i ≤ xs.length → I i L S → keep S) (he : ∀ L S, I xs.length L S → E (.nx L S))
    (hs : ∀ i x L S, xs[i]? = some x → I i L S → (∃ L2 S2, (forOne g b x L S = .nx L2 S2 ∨ forOne g b x L S = .ct L2 S2) ∧ I (i + 1) L2 S2) ∨ (∃ L2 S2, forOne g b x L S = .bk L2 S2 ∧ E (.nx L2 S2)) ∨ (∃ v S2, forOne g b x L S = .rt v S2 ∧ E (.rt v S2)) ∨ (∃ e L2 S2, forOne g b x L S = .exn e L2 S2 ∧ E (.exn e L2 S2))) : E (forLoop keep g b xs L S) := by
  have key : ∀ (ys : List Val) (i : Nat) (L : Loc) (S : Store), xs.drop i = ys → i ≤ xs.length → I i L S → E (forLoop keep g b ys L S) := by
    intro ys
    induction ys with
    | nil =>
      intro i L S hd hi hI
      have : xs.length ≤ i := by
        have := congrArg List.length hd
        simp at this
        omega
      have e : i = xs.length := by omega
      subst e
      rw [forLoop_nil, gate_pos (hk _ _ _ (Nat.le_refl _) hI)]
      exact he L S hI
    | cons y ys ih =>
      intro i L S hd hi hI
      have hx : xs[i]? = some y := by
        have : (xs.drop i)[0]? = some y := by rw [hd]; rfl
        simpa using this
      have hlt := (List.getElem?_eq_some_iff.mp hx).1
      have hys : xs.drop (i + 1) = ys := by
        have : (xs.drop i).drop 1 = ys := by rw [hd]; rfl
        rw [List.drop_drop] at this
        exact this
      rw [forLoop_cons, gate_pos (hk _ _ _ hi hI)]
      rcases hs i y L S hx hI with ⟨L2, S2, h | h, hI2⟩ | ⟨L2, S2, h, hE⟩ | ⟨v, S2, h, hE⟩ | ⟨e, L2, S2, h, hE⟩
      · rw [h, turn_nx]; exact ih (i + 1) L2 S2 hys hlt hI2
      · rw [h, turn_ct]; exact ih (i + 1) L2 S2 hys hlt hI2
      · rw [h]; exact hE
      · rw [h]; exact hE
      · rw [h]; exact hE
  exact key xs 0 L S rfl (Nat.zero_le _) h0
/-- drawn things in a comprehension -/
theorem lc_hand {α : Type} {L : Loc} {v : Nat} {e : ME} (rep : α → Val) (P : α → Prop) {xs : List Val} {S : Store} (H : Hand S) (hx : xs.length < 100000)
    (h : ∀ x o, x ∈ xs → HOb S o → ∃ a o', e (L.set v (some x)) (ss S 1 o) = .ok (rep a) (ss S 1 o') ∧ HOb S o' ∧ P a) :
    ∃ (as : List α) (o : Ob), lcLoop (fun _ => True) L (gN v) tYes e xs [] S = .ok (as.map rep) (ss S 1 o) ∧ HOb S o ∧ as.length = xs.length ∧ ∀ a, a ∈ as → P a := by
  obtain ⟨ws, S', e, as, o, rfl, rfl, ho, hl, hb⟩ := lcLoop_inv (keep := fun _ => True) (L := L) (g := gN v) (c := tYes) (e := e)
    (fun i acc S' => ∃ (as : List α) (o : Ob), acc = as.map rep ∧ S' = ss S 1 o ∧ HOb S o ∧ as.length = i ∧ ∀ a, a ∈ as → P a) (xs := xs) (S := S)
    (by obtain ⟨o, e, h⟩ := H.same; exact ⟨[], o, rfl, e.symm, h, rfl, by simp⟩) (fun _ _ S' _ _ => trivial) (fun i x acc S' hx' q => by
      obtain ⟨as, o, rfl, rfl, ho, hl, hb⟩ := q
      obtain ⟨a, o', e, h2, hp⟩ := h x o (List.mem_of_getElem? hx') ho
      have hi := (List.getElem?_eq_some_iff.mp hx').1
      refine ⟨L.set v (some x), ss S 1 o, ss S 1 o, rfl, .inl ⟨rfl, rep a, ss S 1 o', e, by rw [List.length_map, hl]; unfold LIM; omega, as ++ [a], o', by simp, rfl, h2, by simp [hl], fun b hb' => ?_⟩⟩
      rcases List.mem_append.mp hb' with hb' | hb'
      · exact hb b hb'
      · simp at hb'
        subst hb'
        exact hp)
  exact ⟨as, o, e, ho, hl, hb⟩
end Mp

/-! MpW: sorted of tuples that begin with two whole numbers, no two alike in these. -/
namespace SrtW
open PySem PySem.Spec L2
def IsT2 (h : Heap) (v : Value) (x y : Int) : Prop := ∃ (a : Addr) (o : Obj) (t u : Tok) (r : List Value) (n : Nat), v = .ref a ∧ h.get? a = some o ∧ o.cls = .type "tuple" ∧ o.data = .seq (Value.int x t :: Value.int y u :: r).toArray n
theorem IsT2.keeps {h h' : Heap} {v : Value} {x y : Int} (H : IsT2 h v x y) (k : ∀ (b : Addr) (o : Obj), h.get? b = some o → o.cls = .type "tuple" → h'.get? b = some o) : IsT2 h' v x y := by
  obtain ⟨a, o, t, u, r, n, e, ho, hc, hd⟩ := H
  exact ⟨a, o, t, u, r, n, e, k a o ho hc, hc, hd⟩
theorem firsts {h : Heap} : ∀ {vs : List Value}, (∀ v, v ∈ vs → ∃ x y, IsT2 h v x y) → ∃ fs, PySem.W.KatTups h vs fs ∧ fs.length = vs.length ∧ ∀ f, f ∈ fs → ∃ x t, f = Value.int x t
  | [], _ => ⟨[], trivial, rfl, fun _ h => by simp at h⟩
  | v :: vs, hp => by
    obtain ⟨fs, h1, h2, h3⟩ := firsts (vs := vs) fun u hu => hp u (List.mem_cons_of_mem _ hu)
    obtain ⟨x, y, a, o, t, u, r, n, e, ho, hc, hd⟩ := hp v (by simp)
    refine ⟨.int x t :: fs, ⟨⟨a, o, _, n, e, ho, hc, hd, rfl⟩, h1⟩, by simp [h2], fun f hf => ?_⟩
    rcases List.mem_cons.mp hf with rfl | hf
    · exact ⟨x, t, rfl⟩
    · exact h3 f hf
theorem lex_same {prog : Program} {w : World} {A : Around} {s : Shared} {b fin : Bool} {Q : Bool → Shared → Prop} : ∀ (r : List Value) (i : Nat), Q fin s → PySem.W.KatLex prog w A b fin Q (r.zip r) i s
  | [], i, h => PySem.W.kat_nil h
  | v :: r, i, h => PySem.W.kat_cons (SeqAt.EqAt.same v prog w _ _ (PySem.W.kat_yes (lex_same r (i + 1) h)))
theorem t2_cmp {prog : Program} {w : World} {A : Around} {s : Shared} {vs : List Value} {k : Value → Int × Int} (hp : ∀ v, v ∈ vs → IsT2 s.heap v (k v).1 (k v).2) (hi : ∀ v u, v ∈ vs → u ∈ vs → k v = k u → v = u) :
    SrtO.Cmp prog w A s (PyProof.Rows.tuples' true) (fun p => p.fst ∈ vs) (SrtO.lt2 fun v u => SrtO.lexB (k v) (k u)) := by
  intro p q hm hm'
  obtain ⟨a, o, t, u, r, n, e, ho, hc, hd⟩ := hp p.1 hm
  obtain ⟨a', o', t', u', r', n', e', ho', hc', hd'⟩ := hp q.1 hm'
  have inj := hi p.1 q.1 hm hm'
  show wpAny (model prog w) A (PyProof.Rows.keyLt' (PyProof.Rows.tuples' true) p.1 q.1) (fun r s' => s' = s ∧ r = SrtO.lexB (k p.1) (k q.1)) _ s
  rw [e, e'] at *
  refine PySem.W.kat_lt ho hd ho' hd' ?_
  show PySem.W.KatLex _ _ _ _ _ _ ((Value.int _ t, Value.int _ t') :: (Value.int _ u, Value.int _ u') :: r.zip r') 0 s
  refine PySem.W.kat_cons (SeqAt.EqAt.int_int _ t _ t' prog w _ _ (PySem.W.kat_go (fun e1 => ?_) fun e1 => ?_))
  · have ex : (k (.ref a)).1 = (k (.ref a')).1 := by simpa using e1
    refine PySem.W.kat_yes (PySem.W.kat_cons (SeqAt.EqAt.int_int _ u _ u' prog w _ _ (PySem.W.kat_go (fun e2 => ?_) fun e2 => ?_)))
    · have ey : (k (.ref a)).2 = (k (.ref a')).2 := by simpa using e2
      have ek := inj (Prod.ext ex ey)
      cases ek
      rw [ho] at ho'
      cases ho'
      rw [hd] at hd'
      have er : r = r' := by
        have := Data.seq.inj hd'
        have h1 := congrArg Array.toList this.1
        simp at h1
        exact h1.2.2
      subst er
      refine PySem.W.kat_yes (lex_same r _ ⟨rfl, ?_⟩)
      have : SrtO.lexB (k (.ref a)) (k (.ref a)) = false := by unfold SrtO.lexB; simp
      rw [this]
      simp
    · have ey : ¬ (k (.ref a)).2 = (k (.ref a')).2 := by simpa using e2
      refine PySem.W.kat_no (PySem.W.kat_one _ _ (PyProof.Rows.lt_int ⟨rfl, ?_⟩))
      unfold SrtO.lexB
      rw [if_pos ex]
  · have ex : ¬ (k (.ref a)).1 = (k (.ref a')).1 := by simpa using e1
    refine PySem.W.kat_no (PyProof.Rows.oneLt_int ⟨rfl, ?_⟩)
    unfold SrtO.lexB
    rw [if_neg ex]
theorem t2_sortable {prog : Program} {w : World} {A : Around} {s : Shared} {a : Addr} {vs : List Value} {k : Value → Int × Int} (h0 : 0 < vs.length) (hp : ∀ v, v ∈ vs → IsT2 s.heap v (k v).1 (k v).2) (hi : ∀ v u, v ∈ vs → u ∈ vs → k v = k u → v = u)
    (ha : ∀ o, s.heap.get? a = some o → o.cls ≠ .type "tuple") : SrtO.SortableO prog w A s a vs fun v u => SrtO.lexB (k v) (k u) := fun h' keep => by
  have hp' : ∀ v, v ∈ vs → IsT2 h' v (k v).1 (k v).2 := fun v hm => (hp v hm).keeps fun b o e c => keep b o (fun z => by subst z; exact ha o e c) e
  obtain ⟨fs, h1, h2, h3⟩ := firsts fun v hm => ⟨_, _, hp' v hm⟩
  refine ⟨PyProof.Rows.tuples' true, fun Q E hq => PySem.W.kat_kind h1 (by omega) (T := .type "int") (fun f hm => ?_) (by rfl) ?_, t2_cmp hp' hi⟩
  · obtain ⟨x, t, rfl⟩ := h3 f hm
    exact PySem.W.Looks.now
  · have e : (Value.type "int" != Value.type "tuple") = true := by decide
    rw [e]
    exact hq
theorem sorted_t2 {prog : Program} {w : World} {A : Around} {E : Value → Shared → Prop} {s : Shared} {l : Addr} {vs : List Value} {k : Value → Int × Int} {Q : Value → Shared → Prop} (hl : s.heap.IsList l vs.toArray) (hz : vs.length ≤ sizeLine) (hp : ∀ v, v ∈ vs → IsT2 s.heap v (k v).1 (k v).2) (hi : ∀ v u, v ∈ vs → u ∈ vs → k v = k u → v = u)
    (h : ∀ (h' : Heap) (d : Addr) (out : List Value), SrtO.Srtd (fun v u => SrtO.lexB (k v) (k u)) out → SrtO.Stb (fun v u => SrtO.lexB (k v) (k u)) out vs → (∀ (b : Addr) (o : Obj), s.heap.get? b = some o → h'.get? b = some o) → s.heap.objs.size ≤ d → (∃ n, h'.get? d = some (PyProof.Rows.seqObj "list" out.toArray n)) →
      Q (.ref d) { heap := h', gens := s.gens, drawn := s.drawn, toks := s.toks, os := s.os }) : wpAny (model prog w) A (call (.builtin "sorted") [.ref l]) Q E s :=
  SrtO.sorted_ord (SrtO.swo_lex k) hl hz (fun h2 h₁ a ha kk => t2_sortable (by omega) (fun v hm => (hp v hm).keeps fun b o e _ => (kk b o e).2) hi fun o e => by
      have e' : h₁.get? a = some o := e
      rw [ha] at e'
      cases e'
      intro c
      have : ("list" : String) = "tuple" := by
        have := Value.type.inj c
        exact this
      exact absurd this (by decide))
    fun out hs hb => h (PyProof.Rows.sortedAll s.heap vs out.toArray) (s.heap.objs.size + 1) out hs hb (fun b o e => PyProof.Rows.sortedAll_old e) (Nat.le_succ _) (PyProof.Rows.sortedAll_at s.heap vs out.toArray)
def rSortedW (K : PySem.W.Frag) : List V → Hp → VK → Prop := fun vs H Q => ∃ (a : Addr) (xs : List V) (k : V → Int × Int), vs = [.ref a] ∧ SqL K H a xs ∧ (∀ x, x ∈ xs → ∃ t r, x = .ref t ∧ H t = some (.tup (.int (k x).1 :: .int (k x).2 :: r))) ∧ (∀ x y, x ∈ xs → y ∈ xs → k x = k y → x = y) ∧
  ∀ ys p, SrtO.Srtd (ltP k) ys → SrtO.Stb (ltP k) ys xs → H p = none → Q (.ref p) (upd H p (.lst ys))
theorem cr_sortedW {X : Cx} : CallR X (.builtin "sorted") (rSortedW X.K) := by
  intro pins s σ H vs us Q I r h
  obtain ⟨a, xs, k, rfl, hs, hx, hi, q⟩ := h
  obtain ⟨its, rv, hl, hz⟩ := Inv.list I hs
  obtain ⟨u, rfl, ru⟩ := vals1 r
  obtain rfl : u = .ref a := ru
  obtain ⟨e1, e2⟩ := refs_back rv fun x m => by
    obtain ⟨t, _, e, _⟩ := hx x m
    exact ⟨t, e⟩
  have mem : ∀ t, Value.ref t ∈ its → V.ref t ∈ xs := fun t hv => by rw [e1]; exact List.mem_map.mpr ⟨_, hv, rfl⟩
  refine sorted_t2 (k := fun v => k (backV v)) (PlainL.isList hl) (by rw [← Vals.length rv]; exact hz) (fun v hv => ?_) (fun v u hv hu e => ?_) fun h' d out h1 h2 kp hd hn => ?_
  · obtain ⟨t, rfl⟩ := e2 v hv
    obtain ⟨t', r, e, ht⟩ := hx _ (mem t hv)
    cases e
    obtain ⟨_, its2, r2, o, ho, hc, n, hd⟩ := I.hok t _ ht
    cases its2 with
    | nil => cases r2
    | cons u1 its2 => cases its2 with
      | nil => cases r2 with
        | cons _ r3 => cases r3
      | cons u2 its2 =>
        cases r2 with
        | cons a1 r3 => cases r3 with
          | cons a2 r4 =>
            obtain ⟨t1, rfl⟩ := a1
            obtain ⟨t2, rfl⟩ := a2
            exact ⟨t, o, t1, t2, its2, n, rfl, ho, hc, hd⟩
  · obtain ⟨t, rfl⟩ := e2 v hv
    obtain ⟨t', rfl⟩ := e2 u hu
    have := hi _ _ (mem t hv) (mem t' hu) e
    cases this
    rfl
  · have h3 := fun u hu => e2 u ((List.Perm.mem_iff h2.perm).mp hu)
    obtain ⟨n, hn⟩ := hn
    have hb : SrtO.Stb (ltP k) (out.map backV) xs := by
      rw [e1]
      exact SrtO.Stb.map (ltP_swo k) backV h2
    exact ⟨.ref d, upd H d (.lst (out.map backV)), Inv.laid I kp hd ⟨by rw [SrtO.Stb.len hb]; exact hz, out, n, vals_back h3, hn⟩, rfl, q (out.map backV) d (SrtO.srtd_map h1) hb (HOk.fresh I.hok hd)⟩
end SrtW
namespace Mp
open PySem PySem.Spec L2
def keyW (v : Val) : Option (Int × Int) := match v with
  | .tup (.int a :: .int b :: r) => if ownC (.int a :: .int b :: r) = false then some (a, b) else none
  | _ => none
def ltK (a b : Int × Int) : Prop := a.1 < b.1 ∨ (a.1 = b.1 ∧ a.2 < b.2)
def ltB (a b : Int × Int) : Bool := decide (a.1 < b.1) || (decide (a.1 = b.1) && decide (a.2 < b.2))
theorem ltB_iff {a b : Int × Int} : ltB a b = true ↔ ltK a b := by
  unfold ltB ltK
  simp
def RW (x y : Val) : Prop := ∃ a b, keyW x = some a ∧ keyW y = some b ∧ ltK a b
/-- these begin with two whole numbers, and rise by them -/
def SW (ys : List Val) : Prop := (∀ y, y ∈ ys → (keyW y).isSome = true) ∧ ys.Pairwise RW
theorem RW.asymm {x y : Val} (h : RW x y) : ¬ RW y x := by
  obtain ⟨a, b, e1, e2, h1⟩ := h
  rintro ⟨c, d, e3, e4, h2⟩
  rw [e2] at e3
  rw [e1] at e4
  cases e3
  cases e4
  unfold ltK at h1 h2
  omega
theorem SW.uniq : ∀ {xs ys : List Val}, SW xs → SW ys → xs.Perm ys → xs = ys
  | [], ys, _, _, p => (List.Perm.nil_eq p).symm ▸ rfl
  | x :: xs, [], _, _, p => by have := p.length_eq; simp at this
  | x :: xs, y :: ys, hx, hy, p => by
    have e : x = y := by
      have mx : x ∈ y :: ys := p.mem_iff.mp (by simp)
      have my : y ∈ x :: xs := p.mem_iff.mpr (by simp)
      rcases List.mem_cons.mp mx with e | mx
      · exact e
      · rcases List.mem_cons.mp my with e | my
        · exact e.symm
        · have h1 := (List.pairwise_cons.mp hx.2).1 y my
          have h2 := (List.pairwise_cons.mp hy.2).1 x mx
          exact absurd h2 h1.asymm
    subst e
    rw [SW.uniq ⟨fun z hz => hx.1 z (List.mem_cons_of_mem _ hz), (List.pairwise_cons.mp hx.2).2⟩ ⟨fun z hz => hy.1 z (List.mem_cons_of_mem _ hz), (List.pairwise_cons.mp hy.2).2⟩ (List.Perm.cons_inv p)]
open Classical in
noncomputable def srtW (xs : List Val) (S : Store) : R Val := if h : ∃ ys : List Val, ys.Perm xs ∧ SW ys then newL (Classical.choose h) S else .bad
noncomputable def fSortW : Fn := one fun v S => match lstO v S with
  | some xs => srtW xs S
  | none => .bad
theorem srtW_eq {xs ys : List Val} {S : Store} (p : ys.Perm xs) (h : SW ys) : srtW xs S = newL ys S := by
  unfold srtW
  have hex : ∃ ys : List Val, ys.Perm xs ∧ SW ys := ⟨ys, p, h⟩
  rw [dif_pos hex]
  have c := Classical.choose_spec hex
  rw [SW.uniq c.2 h (c.1.trans p.symm)]
theorem VRs.perm {K : PySem.W.Frag} {ρ : Rho} {n : Nat} {H : Hp} {us ys : List V} (p : us.Perm ys) : ∀ {xs : List Val}, VRs K ρ n H xs us → ∃ zs : List Val, zs.Perm xs ∧ VRs K ρ n H zs ys := by
  induction p with
  | nil => intro xs h; exact ⟨xs, List.Perm.refl _, h⟩
  | cons a _ ih =>
    intro xs h
    cases xs with
    | nil => have := h.nil_of; cases this
    | cons x xs =>
      obtain ⟨u, r, e, h1, h2⟩ := h.cons_of
      cases e
      obtain ⟨zs, q1, q2⟩ := ih h2
      exact ⟨x :: zs, q1.cons x, VRs.cons h1 q2⟩
  | swap a b l =>
    intro xs h
    cases xs with
    | nil => have := h.nil_of; cases this
    | cons x xs =>
      obtain ⟨u, r, e, h1, h2⟩ := h.cons_of
      cases e
      cases xs with
      | nil => have := h2.nil_of; cases this
      | cons y xs =>
        obtain ⟨u, r, e, h3, h4⟩ := h2.cons_of
        cases e
        exact ⟨y :: x :: xs, List.Perm.swap x y xs, VRs.cons h3 (VRs.cons h1 h4)⟩
  | trans _ _ ih1 ih2 =>
    intro xs h
    obtain ⟨zs, q1, q2⟩ := ih1 h
    obtain ⟨ws, q3, q4⟩ := ih2 q2
    exact ⟨ws, q3.trans q1, q4⟩
/-- the two numbers, as the heap has them -/
def keyH (H : Hp) (u : V) : Int × Int := match u with
  | .ref t => match H t with
    | some (.tup (.int a :: .int b :: _)) => (a, b)
    | _ => (0, 0)
  | _ => (0, 0)
section
variable {X : Cx}
theorem keyW_of {K : PySem.W.Frag} {ρ : Rho} {n : Nat} {H : Hp} {v : Val} {u : V} {p : Int × Int} (r : VR K ρ n H v u) (h : keyW v = some p) : keyH H u = p ∧ ∃ t r, u = .ref t ∧ H t = some (.tup (.int p.1 :: .int p.2 :: r)) := by
  unfold keyW at h
  split at h
  · rename_i a b rr
    split at h
    · rename_i ho
      cases h
      simp only [VR] at r
      obtain ⟨t, xs, rfl, ht, rs⟩ := r
      rcases ht with ht | ⟨ho', _⟩
      · obtain ⟨u1, r1, rfl, k1, k2⟩ := rs.cons_of
        obtain ⟨u2, r2, rfl, k3, k4⟩ := k2.cons_of
        simp only [VR] at k1 k3
        subst k1
        subst k3
        refine ⟨?_, t, r2, rfl, ht⟩
        simp only [keyH, ht]
      · rw [ho] at ho'; cases ho'
    · cases h
  · cases h
theorem VRs.mem_of {K : PySem.W.Frag} {ρ : Rho} {n : Nat} {H : Hp} : ∀ {vs : List Val} {us : List V} {u : V}, VRs K ρ n H vs us → u ∈ us → ∃ v, v ∈ vs ∧ VR K ρ n H v u
  | [], us, u, h, hu => by have := h.nil_of; subst this; simp at hu
  | v :: vs, us, u, h, hu => by
    obtain ⟨w, r, rfl, h1, h2⟩ := h.cons_of
    rcases List.mem_cons.mp hu with rfl | hu
    · exact ⟨v, by simp, h1⟩
    · obtain ⟨x, hx, h3⟩ := VRs.mem_of h2 hu
      exact ⟨x, List.mem_cons_of_mem _ hx, h3⟩
theorem keys_apart {K : PySem.W.Frag} {ρ : Rho} {n : Nat} {H : Hp} : ∀ {vs : List Val} {us : List V}, VRs K ρ n H vs us → (∀ v, v ∈ vs → (keyW v).isSome = true) → vs.Pairwise (fun x y => keyW x ≠ keyW y) → us.Pairwise fun x y => keyH H x ≠ keyH H y
  | [], us, h, _, _ => by have := h.nil_of; subst this; simp
  | v :: vs, us, h, hs, hp => by
    obtain ⟨w, r, rfl, h1, h2⟩ := h.cons_of
    obtain ⟨p1, p2⟩ := List.pairwise_cons.mp hp
    refine List.pairwise_cons.mpr ⟨fun y hy e => ?_, keys_apart h2 (fun x hx => hs x (List.mem_cons_of_mem _ hx)) p2⟩
    obtain ⟨x, hx, hr⟩ := VRs.mem_of h2 hy
    obtain ⟨a, ha⟩ := Option.isSome_iff_exists.mp (hs v (by simp))
    obtain ⟨b, hb⟩ := Option.isSome_iff_exists.mp (hs x (List.mem_cons_of_mem _ hx))
    have e1 := (keyW_of h1 ha).1
    have e2 := (keyW_of hr hb).1
    rw [e1, e2] at e
    subst e
    exact p1 x hx (ha.trans hb.symm)
theorem inj_of_apart {α β : Type} {f : α → β} : ∀ {l : List α}, l.Pairwise (fun x y => f x ≠ f y) → ∀ x y, x ∈ l → y ∈ l → f x = f y → x = y
  | [], _, x, _, h, _, _ => by simp at h
  | a :: l, hp, x, y, hx, hy, e => by
    obtain ⟨p1, p2⟩ := List.pairwise_cons.mp hp
    rcases List.mem_cons.mp hx with hx1 | hx
    · rcases List.mem_cons.mp hy with hy1 | hy
      · rw [hx1, hy1]
      · rw [hx1] at e
        exact absurd e (p1 y hy)
    · rcases List.mem_cons.mp hy with hy1 | hy
      · rw [hy1] at e
        exact absurd e.symm (p1 x hx)
      · exact inj_of_apart p2 x y hx hy e
theorem rises {K : PySem.W.Frag} {ρ : Rho} {n : Nat} {H : Hp} : ∀ {vs : List Val} {us : List V}, VRs K ρ n H vs us → (∀ v, v ∈ vs → (keyW v).isSome = true) → vs.Pairwise (fun x y => keyW x ≠ keyW y) → us.Pairwise (fun x y => SrtO.lexB (keyH H y) (keyH H x) = false) → vs.Pairwise RW
  | [], us, _, _, _, _ => by simp
  | v :: vs, us, h, hs, hd, hp => by
    obtain ⟨w, r, rfl, h1, h2⟩ := h.cons_of
    obtain ⟨p1, p2⟩ := List.pairwise_cons.mp hp
    obtain ⟨d1, d2⟩ := List.pairwise_cons.mp hd
    refine List.pairwise_cons.mpr ⟨fun x hx => ?_, rises h2 (fun x hx => hs x (List.mem_cons_of_mem _ hx)) d2 p2⟩
    obtain ⟨a, ha⟩ := Option.isSome_iff_exists.mp (hs v (by simp))
    obtain ⟨b, hb⟩ := Option.isSome_iff_exists.mp (hs x (List.mem_cons_of_mem _ hx))
    obtain ⟨i, hi⟩ := List.getElem?_of_mem hx
    obtain ⟨u, hu, hr⟩ := VRs.get h2 hi
    have q := p1 u (List.mem_of_getElem? hu)
    rw [(keyW_of h1 ha).1, (keyW_of hr hb).1] at q
    refine ⟨a, b, ha, hb, ?_⟩
    have ne : a ≠ b := fun z => d1 x hx (by rw [ha, hb, z])
    unfold SrtO.lexB at q
    unfold ltK
    split at q
    · rename_i e
      have := of_decide_eq_false q
      have ne2 : a.2 ≠ b.2 := fun z => ne (Prod.ext e.symm z)
      right
      exact ⟨e.symm, by omega⟩
    · have := of_decide_eq_false q
      left
      omega
theorem c_sortW : CallR X (.builtin "sorted") (rF X fSortW) := CallR.imp SrtW.cr_sortedW fun us H Q h => by
  replace h := one_of h
  obtain ⟨u, rfl, ρ, S, x, s, v, h⟩ := h
  dsimp only at h
  split at h
  · rename_i xs hxs
    obtain ⟨a, vs, rfl, sq, rs⟩ := lst_of s v hxs
    unfold srtW at h
    split at h
    · rename_i hex
      have c := Classical.choose_spec hex
      generalize Classical.choose hex = ys at h c
      obtain ⟨cp, cs, cw⟩ := c
      have hk : ∀ y, y ∈ xs → (keyW y).isSome = true := fun y hy => cs y (cp.mem_iff.mpr hy)
      have sym : ∀ {x y : Val}, keyW x ≠ keyW y → keyW y ≠ keyW x := fun h e => h e.symm
      have apart : xs.Pairwise fun x y => keyW x ≠ keyW y := (List.Perm.pairwise_iff sym cp).mp (cw.imp fun {x y} ⟨p, q, e1, e2, lt⟩ e => by
        rw [e1, e2] at e
        cases e
        unfold ltK at lt
        omega)
      refine ⟨a, vs, keyH H, rfl, sq, fun y hy => ?_, inj_of_apart (keys_apart rs hk apart), fun zs p h1 h2 hp => ?_⟩
      · obtain ⟨w, hw, hr⟩ := VRs.mem_of rs hy
        obtain ⟨k, hk'⟩ := Option.isSome_iff_exists.mp (hk w hw)
        obtain ⟨e1, t, r, e2, e3⟩ := keyW_of hr hk'
        exact ⟨t, r, e2, by rw [e1]; exact e3⟩
      · obtain ⟨ws, q1, q2⟩ := VRs.perm h2.perm.symm rs
        have hk2 : ∀ y, y ∈ ws → (keyW y).isSome = true := fun y hy => hk y (q1.mem_iff.mp hy)
        have ap2 : ws.Pairwise fun x y => keyW x ≠ keyW y := (List.Perm.pairwise_iff sym q1).mpr apart
        have hw : ws = ys := SW.uniq ⟨hk2, rises q2 hk2 ap2 h1⟩ ⟨cs, cw⟩ (q1.trans cp.symm)
        subst hw
        exact lst_new s h q2 p hp
    · exact h.elim
  · exact h.elim
end
section
variable {S : Store}
theorem fSortW_ref {a : Nat} {xs ys : List Val} (h : sg S a = some (.lst xs)) (p : ys.Perm xs) (w : SW ys) : fSortW [.ref a] S = .ok (.ref (sl S)) (sp S (.lst ys)) := by
  unfold fSortW one
  dsimp only
  have : lstO (.ref a) S = some xs := by
    show (match S[a]? with
    | some (.lst vs) => some vs
    | _ => none) = _
    have h' : S[a]? = some (.lst xs) := h
    rw [h']
  rw [this]
  exact srtW_eq p w
end
end Mp
namespace Mp
open PySem PySem.Spec L2
section
variable {X : Cx}
/-- tuples of whole numbers, compared -/
def pLtT : P2 := fun x y S => match x, y with
  | .tup a, .tup b => match intsO a, intsO b with
    | some ns, some ms => .ok (.bl (HT.lexLt ns ms)) S
    | _, _ => .bad
  | _, _ => .bad
theorem o_ltTup (hu : X.A.units < cLine) : OpS X (compareOp .Lt) pLtT := OpR.imp (op_ltT hu) fun u w H Q h => by
  obtain ⟨ρ, S, x, y, s, v1, v2, h⟩ := h
  unfold pLtT at h
  split at h
  · rename_i a b
    split at h
    · rename_i ns ms h1 h2
      have e1 := intsO_eq h1
      have e2 := intsO_eq h2
      subst e1
      subst e2
      simp only [VR] at v1 v2
      obtain ⟨p, xs, rfl, q1, r1⟩ := v1
      obtain ⟨p', xs', rfl, q2, r2⟩ := v2
      have := r1.ints
      subst this
      have := r2.ints
      subst this
      exact ⟨p, p', ns, ms, rfl, rfl, q1.sq, q2.sq, Post.here (rel := relV X.K) s h (by simp [relV, VR])⟩
    · exact h.elim
  · exact h.elim
end
@[simp] theorem pLtT_two {S : Store} (a b c d : Int) : pLtT (.tup [.int a, .int b]) (.tup [.int c, .int d]) S = .ok (.bl (ltB (a, b) (c, d))) S := by
  show R.ok (Val.bl (HT.lexLt [a, b] [c, d])) S = _
  congr 2
  unfold HT.lexLt HT.lexLt HT.lexLt ltB
  by_cases h1 : a = c
  · subst h1
    simp
    by_cases h2 : b = d
    · subst h2; simp
    · simp [h2]
  · simp [h1]
end Mp

/-! printed by gen2.py: defs of the program as combinators -/
namespace KW
open PySem PySem.Spec L2 Mp
noncomputable def m_is_way : Fn := fG (fDef 2 2
    (sSeq (sIf (Mp.tOr (Mp.tNot (tV (mA KW.m_is_sized (aCons (mV 1) (aCons (mC (.int 3)) (aCons (mC (.int 3)) aNil)))))) (Mp.tOr (Mp.tNot (tV (mA KW.m_is_below (aCons (m2 pIx (mV 1) (mC (.int 0))) (aCons (m1 (getF "Works" "many") (mV 0)) aNil))))) (Mp.tNot (tV (mA KW.m_is_below (aCons (m2 pIx (mV 1) (mC (.int 1))) (aCons (m1 (getF "Works" "many") (mV 0)) aNil)))))))
    (sRet (mC (.bl false)))
    sNx)
    (sRet (mAnd (mA KW.m_are_tasks (aCons (mV 0) (aCons (m2 pIx (mV 1) (mC (.int 2))) aNil))) (m2 pGt (mB fLen (aCons (m2 pIx (mV 1) (mC (.int 2))) aNil)) (mC (.int 0)))))))
noncomputable def m_is_right_standing : Fn := fG (fDef 7 2
    (sSeq (sIf (Mp.tOr (Mp.tNot (tV (mA KW.m_is_pair (aCons (mV 1) aNil)))) (Mp.tOr (Mp.tNot (tV (mA KW.m_is_sized (aCons (m2 pIx (mV 1) (mC (.int 0))) (aCons (m1 (getF "Works" "many") (mV 0)) (aCons (m1 (getF "Works" "many") (mV 0)) aNil)))))) (Mp.tNot (tV (m1 (pIsT "tuple") (m2 pIx (mV 1) (mC (.int 1))))))))
    (sRet (mC (.bl false)))
    sNx)
    (sSeq (sIf (Mp.tOr (Mp.tNot (tV (mG (mB fAll (aCons (mLc (iV (m2 pIx (mV 1) (mC (.int 0)))) [3] (gN 3) tYes (mA KW.m_are_tasks (aCons (mV 0) (aCons (mV 3) aNil)))) aNil))))) (Mp.tNot (tV (mG (mB fAll (aCons (mLc (iV (m2 pIx (mV 1) (mC (.int 1)))) [4] (gN 4) tYes (mA KW.m_is_way (aCons (mV 0) (aCons (mV 4) aNil)))) aNil))))))
    (sRet (mC (.bl false)))
    sNx)
    (sSeq (sAsg (mLc (iV (m2 pIx (mV 1) (mC (.int 1)))) [4] (gN 4) tYes (mSl (mV 4) oNo (oSome (mC (.int 2))))) (gN 2))
    (sRet (mG (mB fAll (aCons (mLc (iZip (aCons (mV 2) (aCons (mSl (mV 2) (oSome (mC (.int 1))) oNo) aNil))) [5, 6] (gTup (gsCons (gN 5) (gsCons (gN 6) gsNil))) tYes (m2 pLtT (mV 5) (mV 6))) aNil))))))))
noncomputable def m_is_standing : Fn := fG (fDef 2 2
    (sRet (mA KW.m_is_right_standing (aCons (mV 0) (aCons (mV 1) aNil)))))
noncomputable def m_check_standing : Fn := fG (fDef 2 2
    (sIf (Mp.tNot (tV (mA KW.m_is_right_standing (aCons (mV 0) (aCons (mV 1) aNil)))))
    (sRaise "NoStanding" [] aNil)
    sNx))
noncomputable def m_begun : Fn := fG (fDef 2 2
    (sRet (mTup (aCons (m2 pAdd (mTup (aCons (mV 1) aNil)) (m2 pMul (mTup (aCons (mTup aNil) aNil)) (m2 pSub (m1 (getF "Works" "many") (mV 0)) (mC (.int 1))))) (aCons (mTup aNil) aNil)))))
noncomputable def m_first_standing : Fn := fG (fDef 2 2
    (sSeq (sExpr (mA KW.m_check_given (aCons (mV 0) (aCons (mV 1) aNil))))
    (sRet (mA KW.m_begun (aCons (mV 0) (aCons (mV 1) aNil))))))
noncomputable def m_on_way : Fn := fG (fDef 6 2
    (sSeq (sAsg (mLc (iV (mV 0)) [3, 4, 5] (gTup (gsCons (gN 3) (gsCons (gN 4) (gsCons (gN 5) gsNil)))) (tV (m2 pEq (mTup (aCons (mV 3) (aCons (mV 4) aNil))) (mV 1))) (mV 5)) (gN 2))
    (sRet (mIf (tV (m2 pGt (mB fLen (aCons (mV 2) aNil)) (mC (.int 0)))) (m2 pIx (mV 2) (mC (.int 0))) (mTup aNil)))))
noncomputable def m_with_way : Fn := fG (fDef 5 3
    (sSeq (sAsg (mLc (iV (mV 0)) [4] (gN 4) (tV (m2 pNe (mSl (mV 4) oNo (oSome (mC (.int 2)))) (mV 1))) (mV 4)) (gN 3))
    (sSeq (sIf (tV (m2 pGt (mB fLen (aCons (mV 2) aNil)) (mC (.int 0))))
    (sExpr (mBM "list" fAppend (mV 3) (aCons (m2 pAdd (mV 1) (mTup (aCons (mV 2) aNil))) aNil)))
    sNx)
    (sRet (mG (mB fTuple (aCons (mB fSortW (aCons (mV 3) aNil)) aNil)))))))
noncomputable def m_after_do_b1 : MS := (sK [5, 6, 7] (sSeq (sAsg (mTup (aCons (mV 2) (aCons (mV 5) aNil))) (gN 7))
    (sAsg (mA KW.m_with_way (aCons (mV 4) (aCons (mV 7) (aCons (m2 pAdd (mA KW.m_on_way (aCons (mV 4) (aCons (mV 7) aNil))) (mTup (aCons (mV 6) aNil))) aNil)))) (gN 4))))
noncomputable def m_after_do : Fn := fG (fDef 8 3
    (sSeq (sAsg (mV 1) (gTup (gsCons (gN 3) (gsCons (gN 4) gsNil))))
    (sSeq (sIf (tV (m2 pEq (mB fLen (aCons (m2 pIx (mV 3) (mV 2)) aNil)) (mC (.int 0))))
    (sRet (mC .non))
    sNx)
    (sSeq (Mp.sFor (iV (mA KW.m_letters_of (aCons (mV 0) (aCons (mV 2) (aCons (m2 pIx (m2 pIx (mV 3) (mV 2)) (mC (.int 0))) aNil))))) (gTup (gsCons (gN 5) (gsCons (gN 6) gsNil)))
    KW.m_after_do_b1)
    (sRet (mTup (aCons (mA KW.m_replaced (aCons (mV 3) (aCons (mV 2) (aCons (mSl (m2 pIx (mV 3) (mV 2)) (oSome (mC (.int 1))) oNo) aNil)))) (aCons (mV 4) aNil))))))))
noncomputable def m_after_hear : Fn := fG (fDef 7 3
    (sSeq (sAsg (mV 0) (gTup (gsCons (gN 3) (gsCons (gN 4) gsNil))))
    (sSeq (sAsg (mTup (aCons (mV 2) (aCons (mV 1) aNil))) (gN 5))
    (sSeq (sAsg (mA KW.m_on_way (aCons (mV 4) (aCons (mV 5) aNil))) (gN 6))
    (sSeq (sIf (tV (m2 pEq (mB fLen (aCons (mV 6) aNil)) (mC (.int 0))))
    (sRet (mC .non))
    sNx)
    (sRet (mTup (aCons (mA KW.m_replaced (aCons (mV 3) (aCons (mV 1) (aCons (m2 pAdd (m2 pIx (mV 3) (mV 1)) (mSl (mV 6) oNo (oSome (mC (.int 1))))) aNil)))) (aCons (mA KW.m_with_way (aCons (mV 4) (aCons (mV 5) (aCons (mSl (mV 6) (oSome (mC (.int 1))) oNo) aNil)))) aNil)))))))))
noncomputable def m_done_by : Fn := fG (fDef 4 3
    (sSeq (sExpr (mA KW.m_check_standing (aCons (mV 0) (aCons (mV 1) aNil))))
    (sSeq (sExpr (mA KW.m_check_house (aCons (mV 0) (aCons (mV 2) aNil))))
    (sSeq (sAsg (mA KW.m_after_do (aCons (mV 0) (aCons (mV 1) (aCons (mV 2) aNil)))) (gN 3))
    (sSeq (sIf (tV (m2 pIs (mV 3) (mC .non)))
    (sRaise "NothingThere" [] aNil)
    sNx)
    (sRet (mV 3)))))))
noncomputable def m_heard_by : Fn := fG (fDef 5 4
    (sSeq (sExpr (mA KW.m_check_standing (aCons (mV 0) (aCons (mV 1) aNil))))
    (sSeq (sExpr (mA KW.m_check_house (aCons (mV 0) (aCons (mV 2) aNil))))
    (sSeq (sExpr (mA KW.m_check_house (aCons (mV 0) (aCons (mV 3) aNil))))
    (sSeq (sAsg (mA KW.m_after_hear (aCons (mV 1) (aCons (mV 2) (aCons (mV 3) aNil)))) (gN 4))
    (sSeq (sIf (tV (m2 pIs (mV 4) (mC .non)))
    (sRaise "NothingThere" [] aNil)
    sNx)
    (sRet (mV 4))))))))
noncomputable def m_is_all_quiet : Fn := fG (fDef 2 1
    (sRet (mAnd (mG (mB fAll (aCons (mLc (iV (m2 pIx (mV 0) (mC (.int 0)))) [1] (gN 1) tYes (m2 pEq (mB fLen (aCons (mV 1) aNil)) (mC (.int 0)))) aNil))) (m2 pEq (mB fLen (aCons (m2 pIx (mV 0) (mC (.int 1))) aNil)) (mC (.int 0))))))
noncomputable def m_is_quiet : Fn := fG (fDef 2 2
    (sSeq (sExpr (mA KW.m_check_standing (aCons (mV 0) (aCons (mV 1) aNil))))
    (sRet (mA KW.m_is_all_quiet (aCons (mV 1) aNil)))))
noncomputable def m_still_to_do : Fn := fG (fDef 6 2
    (sSeq (sExpr (mA KW.m_check_standing (aCons (mV 0) (aCons (mV 1) aNil))))
    (sSeq (sAsg (mG (m2 pAdd (mB fList (aCons (m2 pIx (mV 1) (mC (.int 0))) aNil)) (mLc (iV (m2 pIx (mV 1) (mC (.int 1)))) [3] (gN 3) tYes (m2 pIx (mV 3) (mC (.int 2)))))) (gN 2))
    (sRet (mG (mB fSumA (aCons (mLc (iV (mV 2)) [4] (gN 4) tYes (mG (mB fSumA (aCons (mLc (iV (mV 4)) [5] (gN 5) tYes (mA KW.m_many_of (aCons (mV 0) (aCons (mV 5) aNil)))) aNil)))) aNil)))))))
end KW

/-! MpQ: equal lists; what is low stays low. -/
namespace Mp
open PySem PySem.Spec L2
mutual
theorem below_mono {n m : Nat} (h : n ≤ m) : ∀ {v : Val}, below n v = true → below m v = true
  | .non, _ => by simp
  | .bl _, _ => by simp
  | .int _, _ => by simp
  | .str _, _ => by simp
  | .fl _, _ => by simp
  | .ref i, q => by
    simp at q ⊢
    omega
  | .tup vs, q => by
    rw [below_tup] at q ⊢
    exact belows_mono h q
theorem belows_mono {n m : Nat} (h : n ≤ m) : ∀ {vs : List Val}, belows n vs = true → belows m vs = true
  | [], _ => by simp
  | v :: vs, q => by
    rw [belows_cons, Bool.and_eq_true] at q ⊢
    exact ⟨below_mono h q.1, belows_mono h q.2⟩
end
theorem data_list {S : Store} {n : Nat} : ∀ {xs : List Val}, (∀ x, x ∈ xs → wv n x = true) → ∃ ds, xs.mapM (toD n S) = some ds ∧ PyData.canLayAll0 ds = true ∧ PyData.depthAll ds ≤ n ∧ PyData.eqvAll ds ds = true
  | [], _ => ⟨[], rfl, by simp [PyData.canLayAll0], by simp [PyData.depthAll], by simp [PyData.eqvAll]⟩
  | x :: xs, h => by
    obtain ⟨d, d1, d2, d3, d4⟩ := wv_data (h x (by simp))
    obtain ⟨ds, e1, e2, e3, e4⟩ := data_list fun y hy => h y (List.mem_cons_of_mem _ hy)
    refine ⟨d :: ds, ?_, by simp [PyData.canLayAll0, d2, e2], by simp only [PyData.depthAll]; omega, by simp [PyData.eqvAll, d4, e4]⟩
    rw [List.mapM_cons, toD_vD S n x d d1 d3, e1]
    rfl
theorem eq_lists {S : Store} {a c : Nat} {xs : List Val} (ha : sg S a = some (.lst xs)) (hc : sg S c = some (.lst xs)) (hw : ∀ x, x ∈ xs → wv 20 x = true) : pEq (.ref a) (.ref c) S = .ok (.bl true) S ∧ pNe (.ref a) (.ref c) S = .ok (.bl false) S := by
  have key : ∀ n, 20 ≤ n → (∀ x, x ∈ xs → wv n x = true) → ∃ ds, xs.mapM (toD n S) = some ds ∧ PyData.canLayAll0 ds = true ∧ PyData.depthAll ds ≤ n ∧ PyData.eqvAll ds ds = true := fun n _ h => data_list h
  have up : ∀ (k : Nat) (x : Val), wv k x = true → wv (k + 1) x = true := by
    intro k
    induction k with
    | zero =>
      intro x h
      cases x with
      | tup vs => rw [wv_tup0] at h; cases h
      | ref i => rw [wv_ref] at h; cases h
      | fl i => rw [wv_fl] at h; cases h
      | _ => first | (simp; done) | (simp at h ⊢; exact h)
    | succ k ih =>
      intro x h
      cases x with
      | tup vs =>
        rw [wv_tup, Bool.and_eq_true, List.all_eq_true] at h ⊢
        exact ⟨h.1, fun y hy => ih y (h.2 y hy)⟩
      | ref i => rw [wv_ref] at h; cases h
      | fl i => rw [wv_fl] at h; cases h
      | _ => first | (simp; done) | (simp at h ⊢; exact h)
  obtain ⟨ds, e1, e2, e3, e4⟩ := data_list (S := S) hw
  have dsame : ∀ k, 20 ≤ k → xs.mapM (toD k S) = some ds := by
    intro k hk
    have hall : ∀ x, x ∈ xs → ∃ d, vD x = some d ∧ d.depth ≤ 20 := fun x hx => by
      obtain ⟨d, d1, _, d3, _⟩ := wv_data (hw x hx)
      exact ⟨d, d1, d3⟩
    have : ∀ (ys : List Val), (∀ x, x ∈ ys → ∃ d, vD x = some d ∧ d.depth ≤ 20) → ys.mapM (toD k S) = ys.mapM (toD 20 S) := by
      intro ys
      induction ys with
      | nil => intro _; rfl
      | cons y ys ih =>
        intro h
        obtain ⟨d, d1, d3⟩ := h y (by simp)
        rw [List.mapM_cons, List.mapM_cons, toD_vD S k y d d1 (by omega), toD_vD S 20 y d d1 d3, ih fun x hx => h x (List.mem_cons_of_mem _ hx)]
    rw [this xs hall, e1]
  have eD : ∀ i, sg S i = some (.lst xs) → toD DEEP S (.ref i) = some (.list ds) := fun i hi => by
    show toD (DEEP - 1 + 1) S (.ref i) = _
    rw [toD_ref, hi, listD_lst, dsame _ (by unfold DEEP; omega)]
    rfl
  have sh : SeqAt.shaped (.list ds) = true := by
    unfold SeqAt.shaped
    have : (PyData.list ds).canLay0 = true := by simpa [PyData.canLay0] using e2
    rw [this, decide_eq_true (by simp only [PyData.depth]; omega)]
    rfl
  have ev : PyData.eqv (.list ds) (.list ds) = true := by simpa [PyData.eqv] using e4
  have : eqO (.ref a) (.ref c) S = some true := by
    unfold eqO
    rw [eD a ha, eD c hc]
    dsimp only
    rw [sh, ev]
    rfl
  unfold pEq pNe
  rw [this]
  exact ⟨rfl, rfl⟩
end Mp

/-! MpK: list(d.keys()) of a dict with tuples as keys; d.get(k, x); sorted of pairs of whole numbers, alike ones too. -/
namespace KeyT
open PySem PySem.Spec L2
section
variable {prog : Program} {w : World} {A : Around} {E : Value → Shared → Prop} {s : Shared}
theorem meetsKeys {d : Addr} {es : Array DictEntry} {ep : Nat} (hd : (d == sysModules) = false) :
    MeetsIn prog w (Builtin.«dict.keys» ⟨[.ref d], []⟩) (fun _ R s => DT.Raw s.heap d es ep ∧
      R (.ok (.ret (.ref s.heap.objs.size))) { s with heap := s.heap.push { cls := .type "dict_keys", data := .fields #[.ref d] } }) :=
  .of_wp fun A R s ⟨hm, h⟩ => by
    refine wpAny_bind ?_
    unfold Builtin.Dict.noArgs
    refine wpAny_bind (wpAny_notOrdered_dict hm.typeIs ?_)
    show wpAny _ _ (pure d) _ _ s
    refine wpAny_pure ?_
    show wpAny _ _ (Builtin.Dict.showsAll d >>= _) _ _ s
    unfold Builtin.Dict.showsAll
    rw [if_neg (by rw [hd]; exact Bool.false_ne_true)]
    refine wpAny_bind (wpAny_pure ?_)
    exact wpAny_bind (wpAny_newObj_type (wpAny_pure ⟨_, rfl, h⟩))
theorem callKeys {d : Addr} {es : Array DictEntry} {ep : Nat} {Q : Value → Shared → Prop} (hd : (d == sysModules) = false) (hm : DT.Raw s.heap d es ep)
    (h : Q (.ref s.heap.objs.size) { s with heap := s.heap.push { cls := .type "dict_keys", data := .fields #[.ref d] } }) : wpAny (model prog w) A (call (.builtin "dict.keys") [.ref d]) Q E s :=
  call_meetsIn PySem.F.slot_dict_keys hm.typeIs PySem.F.entry_dict_keys (PySem.F.args_dict_keys_1 _) (meetsKeys (es := es) (ep := ep) hd) ⟨hm, h⟩
theorem iterKeys {v d : Addr} {es : Array DictEntry} {ep : Nat} {Q : Value → Shared → Prop} (hv : PySem.W.KdlKeysView s.heap v d) (hm : DT.Raw s.heap d es ep)
    (hQ : Q (.ref s.heap.objs.size) { s with heap := s.heap.push { cls := .type "dict_keyiterator", data := .fields #[.ref d, .int 0 0, .int es.size 0, .int ep 0] } }) :
    wpAny (model prog w) A (pyIter (.ref v)) Q E s := by
  obtain ⟨ov, hov, hcv, hdv⟩ := id hv
  obtain ⟨o, ho, hc, hdat⟩ := id hm
  refine wpAny_pyIter_slot hv.typeIs PySem.W.kdl_slot_keys_iter (wpAny_call_entry PySem.W.kdl_slot_keys_iter hv.typeIs PySem.W.kdl_entry_keys_iter ?_ (PySem.W.kdl_args_keys_iter _))
  unfold Builtin.«dict_keys.__iter__»
  refine wpAny_bind (wpAny_pure ?_)
  refine wpAny_bind ?_
  unfold Builtin.Dict_items.dictOf
  refine wpAny_bind (wpAny_field hov hdv (x := .ref d) rfl (wpAny_pure ?_))
  refine wpAny_bind ?_
  unfold Builtin.Dict_items.newIterator
  refine wpAny_bind (wpAny_dictEntries ho hdat ?_)
  refine wpAny_bind (wpAny_dictEpoch ho hdat ?_)
  have hown : Builtin.Dict_items.ownsTuple "dict_keyiterator" = false := by decide
  simp only [hown, Bool.false_eq_true, if_false]
  refine wpAny_newObj_type (wpAny_pure ⟨_, rfl, "dict_keyiterator", _, ⟨_, Heap.get?_push_size _ rfl, rfl⟩, PySem.F.slot_dict_keyiterator_next.lookup, ?_⟩)
  simpa [rawInt] using hQ
theorem kdl_view {r d : Addr} {o : Obj} {es : Array DictEntry} {ep : Nat} (hx : o.ExactDict) (hd : o.data = .dict es ep) :
    PySem.W.KdlSrc prog w "dict_keys" r d es.size (fun i v => ∃ en : DictEntry, es[i]? = some en ∧ v = en.key) (fun h => PySem.W.KdlKeysView h r d ∧ h.get? d = some o) where
  type := fun _ hm => hm.1.typeIs
  there := fun _ hm => ⟨let ⟨_, ho, _⟩ := hm.1; Heap.lt_size ho, Heap.lt_size hm.2⟩
  keep := fun _ _ hm hk => ⟨let ⟨o, ho, x⟩ := hm.1; ⟨o, hk r (.inl rfl) o ho, x⟩, hk d (.inr rfl) _ hm.2⟩
  notList := by decide
  notTuple := by decide
  hint := fun _ _ _ _ hm hq => PySem.W.kdl_hint_keys hm.1.typeIs hq
  iter := fun _ s hh hm => ⟨_, _, (fun _ _ hq => iterKeys hm.1 ⟨o, hm.2, hx, hd⟩ hq), walks_raw hh _ d (Nat.ne_of_lt (Heap.lt_size hm.2)) hd, ⟨⟨_, Heap.get?_push_size _ rfl, rfl, rfl⟩, Heap.get?_push_of_some _ hm.2⟩⟩
end
/-- the view d.keys() at p -/
def keysO (p d : Addr) : HO := .ext fun h => PySem.W.KdlKeysView h p d
theorem keysO_ok {P : Program} {w : World} {H : Hp} {h : Heap} {p d : Addr} (e : h.get? p = some { cls := .type "dict_keys", data := .fields #[.ref d] }) : ObjOk P w H h p (keysO p d) :=
  ⟨⟨_, e, rfl, rfl⟩, ⟨_, e⟩, fun h1 h2 x k => let ⟨o, ho, r⟩ := x; ⟨o, k o ho, r⟩⟩
section
variable {X : Cx}
def rKeysT : V → List V → Hp → VK → Prop := fun x xs H Q => ∃ (a : Addr) (kvs : List (List L2.Key × V)), x = .ref a ∧ xs = [] ∧ H a = some (.dT kvs) ∧ ∀ p, H p = none → Q (.ref p) (upd H p (keysO p a))
theorem mt_keysT : MtR X "dict.keys" rKeysT := by
  intro pins s σ H x xs v us Q I rx rxs h
  obtain ⟨a, kvs, rfl, rfl, ha, q⟩ := h
  cases rx
  cases rxs
  obtain ⟨z, hd, xs', rel, o, es, ep, ho, hx, hdat, _⟩ := dt_of I.hok ha
  refine callKeys (es := es) (ep := ep) hd ⟨o, ho, hx, hdat⟩ ?_
  have hf : H s.heap.objs.size = none := I.hok.fresh (Nat.le_refl _)
  exact ⟨.ref s.heap.objs.size, upd H s.heap.objs.size (keysO s.heap.objs.size a), I.laid (t' := s.toks) (fun b u e => Heap.get?_push_of_some _ e) (Nat.le_refl _) (keysO_ok (Heap.get?_push_size _ rfl)), rfl, q _ hf⟩
theorem call_list_view (hc : X.calm = true) : CallR X (.type "list") (fun xs H Q => ∃ r d kvs, xs = [V.ref r] ∧ H r = some (keysO r d) ∧ H d = some (.dT kvs) ∧ ∀ p bs, H p = none → IsKeys H kvs bs → Q (.ref p) (upd H p (.lst (bs.map V.ref)))) := by
  intro pins s σ H xs us Q I r h
  obtain ⟨rr, d, kvs, rfl, hr, hd, q⟩ := h
  obtain ⟨u, rfl, rx⟩ := r.one
  cases rx
  obtain ⟨z, hs, ks, pr, o, es, ep, ho, hx, hdt, he, hn⟩ := dt_of I.hok hd
  have view : PySem.W.KdlKeysView s.heap rr d := (show ObjOk X.prog X.w H s.heap rr (keysO rr d) from I.hok rr _ hr).1
  have l1 : es.size = ks.length := size_of_entries he
  have l2 : kvs.length = ks.length := Paired.length pr
  refine PySem.W.kdl_call (kdl_view hx hdt) (I.ok.hd hc) ⟨view, ho⟩ (by omega) fun h' tk acc' c' kp e it => ?_
  have ea : acc'.toList = ks.map fun x => Value.ref x.2.1 := by
    have hl : acc'.toList.length = ks.length := by rw [Array.length_toList, it.1]; exact l1
    apply List.ext_getElem?
    intro j
    rw [List.getElem?_map]
    cases hj : acc'.toList[j]? with
    | none =>
      have h1 := List.getElem?_eq_none_iff.mp hj
      rw [List.getElem?_eq_none (by omega)]
      all_goals rfl
    | some v =>
      obtain ⟨en, hen, hv⟩ := it.2 j v (by rw [← Array.getElem?_toList]; exact hj)
      have qe := entry_at he j
      rw [hen] at qe
      cases hb : ks[j]? with
      | none =>
        rw [hb] at qe
        exact nomatch (show some en = none from qe)
      | some b =>
        rw [hb] at qe
        have e2 : en = entryOfKey (tupleKind (mixKind X.prog X.w)) b := Option.some.inj qe
        rw [hv, e2]
        all_goals rfl
  have eb : acc'.toList = (ks.map fun x => x.2.1).map Value.ref := by rw [ea, List.map_map]; all_goals rfl
  have rv : Vals ((ks.map fun x => x.2.1).map V.ref) acc'.toList := by rw [eb]; exact vals_refs _
  have hz : ((ks.map fun x => x.2.1).map V.ref).length ≤ sizeLine := by rw [List.length_map, List.length_map]; omega
  refine ⟨.ref s.heap.objs.size, _, I.laid (t' := tk) (o := .lst ((ks.map fun x => x.2.1).map V.ref)) kp (Nat.le_refl _) ?_, rfl, q _ _ (I.hok.fresh (Nat.le_refl _)) (isKeys_of pr)⟩
  exact ⟨hz, acc'.toList, c', rv, by rw [Array.toArray_toList]; exact e⟩
end
end KeyT
namespace Mp
open PySem PySem.Spec L2
def keyVal : Key → Val
  | .inl i => .int i
  | .inr x => .str x
theorem VR.keyVal {K : PySem.W.Frag} {ρ : Rho} {n : Nat} {H : Hp} (k : Key) : VR K ρ n H (keyVal k) (kV k) := by
  cases k <;> simp [Mp.keyVal, kV, VR]
theorem VRs.keyVals {K : PySem.W.Frag} {ρ : Rho} {n : Nat} {H : Hp} : ∀ ks : List Key, VRs K ρ n H (ks.map Mp.keyVal) (ks.map kV)
  | [] => VRs.nil
  | k :: ks => VRs.cons (VR.keyVal k) (VRs.keyVals ks)
def keysR (o : Option Ob) (S : Store) : R Val := match o with
  | some (.dT kvs) => newL (kvs.map fun p => .tup (p.1.map keyVal)) S
  | _ => .bad
def keysV (x : Val) (S : Store) : R Val := match x with
  | .ref a => keysR S[a]? S
  | _ => .bad
/-- list(d.keys()) -/
def mKeysL (o : ME) : ME := fun L S => (o L S).bind fun x S1 => keysV x S1
@[simp] theorem mKeysL_app (o : ME) (L : Loc) (S : Store) : mKeysL o L S = (o L S).bind fun x S1 => keysV x S1 := rfl
@[simp] theorem keysV_ref (a : Nat) (S : Store) : keysV (.ref a) S = keysR (sg S a) S := rfl
@[simp] theorem keysR_dT (kvs : List (List Key × Val)) (S : Store) : keysR (some (.dT kvs)) S = newL (kvs.map fun p => .tup (p.1.map keyVal)) S := rfl
theorem VRs.isKeys {K : PySem.W.Frag} {ρ : Rho} {n : Nat} {H : Hp} : ∀ {kvs : List (List Key × V)} {bs : List Addr}, IsKeys H kvs bs → VRs K ρ n H (kvs.map fun p => .tup (p.1.map keyVal)) (bs.map V.ref)
  | [], _, h => by cases h; exact VRs.nil
  | p :: kvs, _, h => by
    cases h with
    | cons h t => exact VRs.cons (by simp only [VR]; exact ⟨_, _, rfl, .inl h, VRs.keyVals _⟩) (VRs.isKeys t)
section
variable {X : Cx} {W : WX}
theorem e_keysL {o : Expr} {mo : ME} {p apos cpos pos : Pos} (hc : X.calm = true) (hg : Gl X "list") (hm : X.mg "list" = none) (hv : bootBuiltins "list" = some (.type "list")) (ho : PEm X W o mo)
    (hbase : attributeBase o "keys" X.env (eval o X.env) = eval o X.env := by rfl) (hline : (apos.endLine == cpos.line) = true := by rfl) :
    PEm X W (.Call (.Name "list" p) [.Call (.Attribute o "keys" apos) [] [] cpos] [] pos) (mKeysL mo) :=
  PE.imp (pe_callTy (KeyT.call_list_view hc) hg hm hv (pa_cons (pe_bm0 PySem.F.plainAttrs_dict PySem.F.slot_dict_keys PySem.F.type_dict_keys KeyT.mt_keysT ho hbase hline) pa_nil)) fun σ H Q ⟨ρ, S, L, s, l, h⟩ => by
    refine TEm.bind s l h fun ρ1 S1 x u H1 s1 l1 e v h => ?_
    unfold keysV at h
    split at h
    · rename_i a
      unfold keysR at h
      split at h
      · rename_i kvs q
        simp only [VR] at v
        obtain ⟨ha, rfl⟩ := v
        obtain ⟨us, g1, g2⟩ := s1.ob a _ q
        refine ⟨.inr (.inr (.inl ⟨rfl, .inr ⟨us, g1⟩⟩)), ρ1 a, us, rfl, rfl, g1, fun r hr => ?_⟩
        have ne : ρ1 a ≠ r := fun z => by rw [z, hr] at g1; cases g1
        refine ⟨r, ρ1 a, us, rfl, upd_same, by rw [upd_ne ne]; exact g1, fun t bs ht hk => ?_⟩
        have e2 : Ext ρ1 S1 H1 ρ1 S1 (upd H1 r (KeyT.keysO r (ρ1 a))) := Ext.side hr
        have s2 := s1.side (o := KeyT.keysO r (ρ1 a)) hr
        have hvs : VRs X.K ρ1 S1.length (upd H1 r (KeyT.keysO r (ρ1 a))) (kvs.map fun p => .tup (p.1.map keyVal)) (bs.map V.ref) := by
          have := VRs.isKeys (K := X.K) (ρ := ρ1) (n := S1.length) hk
          have e3 : (kvs.map fun p => Val.tup (p.1.map keyVal)) = us.map fun p => .tup (p.1.map keyVal) := by
            have := congrArg (List.map fun k : List Key => Val.tup (k.map keyVal)) g2.1
            rw [List.map_map, List.map_map] at this
            exact this
          rw [e3]
          exact this
        exact new_of s2 (h.step s2 e2) (fun p hp => ⟨_, upd_same, VRs.ext s2 (Ext.new hp) _ _ hvs⟩) t ht
      · exact h.elim
    · exact h.elim
/-! ### d.get(k, x) -/
def dget2R (o : Option Ob) (v w : Val) (S : Store) : R Val := match o with
  | some (.dK kvs) => match keyOf v with
    | some k => .ok ((valL kvs k).getD w) S
    | none => .bad
  | some (.dT kvs) => match v with
    | .tup ks => match tkey ks with
      | some k => .ok ((valL kvs k).getD w) S
      | none => .bad
    | _ => .bad
  | _ => .bad
def fDGet2 : Mt := fun x vs S => match x, vs with
  | .ref a, [v, w] => dget2R S[a]? v w S
  | _, _ => .bad
@[simp] theorem fDGet2_app (a : Nat) (v w : Val) (S : Store) : fDGet2 (.ref a) [v, w] S = dget2R (sg S a) v w S := rfl
@[simp] theorem dget2R_dT (kvs : List (List Key × Val)) (ks : List Val) (w : Val) (S : Store) : dget2R (some (.dT kvs)) (.tup ks) w S = match tkey ks with
    | some k => .ok ((valL kvs k).getD w) S
    | none => .bad := rfl
@[simp] theorem dget2R_dK (kvs : List (Key × Val)) (v w : Val) (S : Store) : dget2R (some (.dK kvs)) v w S = match keyOf v with
    | some k => .ok ((valL kvs k).getD w) S
    | none => .bad := rfl
theorem isTy_dict {ρ : Rho} {S : Store} {H : Hp} {x : Val} {u : V} (s : SR X.K X.mg ρ S H) (v : VR X.K ρ S.length H x u) (ht : isTy "dict" x S = true) : ∃ b a, x = .ref b ∧ u = .ref a ∧ IsD H a := by
  cases x with
  | ref i =>
    simp only [isTy] at ht
    simp only [VR] at v
    obtain ⟨hi, rfl⟩ := v
    split at ht
    · cases ht
    · rename_i kvs q
      obtain ⟨us, g1, g2⟩ := s.ob i _ q
      exact ⟨i, _, rfl, rfl, .inl ⟨us, .inl g1⟩⟩
    · rename_i kvs q
      obtain ⟨us, g1, g2⟩ := s.ob i _ q
      exact ⟨i, _, rfl, rfl, .inr ⟨us, .inl g1⟩⟩
    · cases ht
  | fl ns => cases ht
  | str z => cases ht
  | _ => cases ht
theorem getD_rel {κ : Type} [DecidableEq κ] {ρ : Rho} {S : Store} {H : Hp} {kvs : List (κ × Val)} {us : List (κ × V)} {k : κ} {w : Val} {z : V} (g : KR X.K ρ S.length H kvs us) (r : VR X.K ρ S.length H w z) : VR X.K ρ S.length H ((valL kvs k).getD w) ((valV us k).getD z) := by
  have lk := valV_lookup (k := k) g
  cases h1 : valL kvs k <;> cases h2 : valV us k <;> rw [h1, h2] at lk <;> first | exact lk.elim | exact r | exact lk
theorem e_dget2 {o e f : Expr} {mo me mf : ME} {apos cpos : Pos} (hu : X.A.units + 1 < cLine) (ho : PEm X W o mo) (he : PEm X W e me) (hf : PEm X W f mf) (m : M2 X o "get" apos e f cpos) :
    PEm X W (.Call (.Attribute o "get" apos) [e, f] [] cpos) (mBM "dict" fDGet2 mo (aCons me (aCons mf aNil))) := PE.imp (pe_dget2 hu ho he hf m) fun σ H Q h => by
  obtain ⟨ρ, S, L, s, l, h⟩ := h
  refine TEm.bind s l h fun ρ1 S1 x u H1 s1 l1 e1 v h => ?_
  cases ht : isTy "dict" x S1 with
  | false => rw [ht] at h; exact h.elim
  | true =>
    rw [ht] at h
    obtain ⟨b, a, rfl, rfl, hda⟩ := isTy_dict s1 v ht
    refine ⟨a, rfl, hda, ?_⟩
    have h : Post X.K X.mg (relV X.K) W ρ1 S1 H1 σ (((me L S1).bind fun y S2 => ((mf L S2).bind fun z S3 => (R.ok [] S3).bind fun ys S4 => R.ok (z :: ys) S4).bind fun ys S4 => R.ok (y :: ys) S4).bind fun vs S2 => noExn (fDGet2 (.ref b) vs S2)) Q := h
    have h' : Post X.K X.mg (relV X.K) W ρ1 S1 H1 σ ((me L S1).bind fun y S2 => (mf L S2).bind fun z S3 => noExn (fDGet2 (.ref b) [y, z] S3)) Q := by
      cases hm : me L S1 with
      | ok y S2 =>
        rw [hm] at h
        cases hm2 : mf L S2 <;> (simp only [R.bind, hm2] at h ⊢; exact h)
      | _ => rw [hm] at h; exact h
    refine TEm.bind s1 l1 h' fun ρ2 S2 y w H2 s2 l2 e2 v2 h => ?_
    refine TEm.bind s2 l2 h fun ρ3 S3 z t H3 s3 l3 e3 v3 h => ?_
    have h := (Post.noExn h W0).sig (σ' := σ)
    have v' := VR.ext s2 e3 _ _ (VR.ext s1 e2 _ _ v)
    have v2' := VR.ext s2 e3 _ _ v2
    simp only [VR] at v'
    obtain ⟨hb, eb⟩ := v'
    cases eb
    have h : Post X.K X.mg (relV X.K) W0 ρ3 S3 H3 σ (dget2R S3[b]? y z S3) Q := h
    unfold dget2R at h
    split at h
    · rename_i kvs q
      split at h
      · rename_i k hk
        obtain ⟨us, g1, g2⟩ := s3.ob b _ q
        have ek := keyOf_of v2' hk
        subst ek
        exact ⟨_, DGet.k g1, Post.here (rel := relV X.K) s3 h (getD_rel g2 v3)⟩
      · exact h.elim
    · rename_i kvs q
      split at h
      · split at h
        · rename_i k hk
          obtain ⟨us, g1, g2⟩ := s3.ob b _ q
          obtain ⟨c, rfl, hc⟩ := tkey_of v2' hk
          exact ⟨_, DGet.t g1 hc, Post.here (rel := relV X.K) s3 h (getD_rel g2 v3)⟩
        · exact h.elim
      · exact h.elim
    · exact h.elim
end
end Mp
namespace Mp
open PySem PySem.Spec L2
/-! ### sorted of pairs of whole numbers -/
def pv (p : Int × Int) : Val := .tup [.int p.1, .int p.2]
theorem pv_inj {p q : Int × Int} (h : pv p = pv q) : p = q := by
  unfold pv at h
  simp only [Val.tup.injEq, List.cons.injEq, Val.int.injEq] at h
  exact Prod.ext h.1 h.2.1
def pairsO : List Val → Option (List (Int × Int))
  | [] => some []
  | .tup [.int a, .int b] :: r => (pairsO r).map ((a, b) :: ·)
  | _ :: _ => none
theorem pairsO_map : ∀ ps : List (Int × Int), pairsO (ps.map pv) = some ps
  | [] => rfl
  | p :: ps => by
    show (pairsO (ps.map pv)).map ((p.1, p.2) :: ·) = _
    rw [pairsO_map ps]
    rfl
theorem pairsO_eq : ∀ {xs : List Val} {ps : List (Int × Int)}, pairsO xs = some ps → xs = ps.map pv
  | [], ps, h => by cases h; rfl
  | x :: xs, ps, h => by
    unfold pairsO at h
    split at h
    · rename_i e; cases e
    · rename_i a b r e
      cases e
      obtain ⟨qs, h1, rfl⟩ := Option.map_eq_some_iff.mp h
      rw [pairsO_eq h1]
      rfl
    · cases h
def insP (p : Int × Int) : List (Int × Int) → List (Int × Int)
  | [] => [p]
  | q :: r => if ltB q p = true then q :: insP p r else p :: q :: r
def sortP : List (Int × Int) → List (Int × Int)
  | [] => []
  | p :: r => insP p (sortP r)
def LeP (p q : Int × Int) : Prop := ¬ ltK q p
theorem LeP.trans {p q r : Int × Int} (h1 : LeP p q) (h2 : LeP q r) : LeP p r := by
  unfold LeP ltK at *
  omega
theorem LeP.antisymm {p q : Int × Int} (h1 : LeP p q) (h2 : LeP q p) : p = q := by
  unfold LeP ltK at *
  exact Prod.ext (by omega) (by omega)
theorem insP_perm (p : Int × Int) : ∀ l : List (Int × Int), (insP p l).Perm (p :: l)
  | [] => List.Perm.refl _
  | q :: r => by
    unfold insP
    split
    · exact ((insP_perm p r).cons q).trans (List.Perm.swap p q r)
    · exact List.Perm.refl _
theorem sortP_perm : ∀ l : List (Int × Int), (sortP l).Perm l
  | [] => List.Perm.refl _
  | p :: r => (insP_perm p _).trans ((sortP_perm r).cons p)
theorem insP_sorted (p : Int × Int) : ∀ l : List (Int × Int), l.Pairwise LeP → (insP p l).Pairwise LeP
  | [], _ => by simp [insP]
  | q :: r, h => by
    obtain ⟨h1, h2⟩ := List.pairwise_cons.mp h
    unfold insP
    split
    · rename_i e
      have e := ltB_iff.mp e
      refine List.pairwise_cons.mpr ⟨fun x hx => ?_, insP_sorted p r h2⟩
      rcases List.mem_cons.mp ((insP_perm p r).mem_iff.mp hx) with rfl | hx
      · unfold LeP ltK at *; omega
      · exact h1 x hx
    · rename_i e
      have e : LeP p q := fun z => e (ltB_iff.mpr z)
      refine List.pairwise_cons.mpr ⟨fun x hx => ?_, h⟩
      rcases List.mem_cons.mp hx with rfl | hx
      · exact e
      · exact e.trans (h1 x hx)
theorem sortP_sorted : ∀ l : List (Int × Int), (sortP l).Pairwise LeP
  | [] => by simp [sortP]
  | p :: r => insP_sorted p _ (sortP_sorted r)
theorem sortedP_uniq : ∀ (l m : List (Int × Int)), l.Perm m → l.Pairwise LeP → m.Pairwise LeP → l = m
  | [], m, h, _, _ => (List.nil_perm.mp h).symm
  | i :: r, [], h, _, _ => absurd h.length_eq (by simp)
  | i :: r, j :: s, h, h1, h2 => by
    rw [List.pairwise_cons] at h1 h2
    have e : i = j := by
      have a1 : i ∈ j :: s := h.mem_iff.mp (by simp)
      have a2 : j ∈ i :: r := h.mem_iff.mpr (by simp)
      rcases List.mem_cons.mp a1 with a1 | a1
      · exact a1
      · rcases List.mem_cons.mp a2 with a2 | a2
        · exact a2.symm
        · exact (h1.1 j a2).antisymm (h2.1 i a1)
    subst e
    rw [sortedP_uniq r s ((List.perm_cons i).mp h) h1.2 h2.2]
theorem sortP_of_perm {l m : List (Int × Int)} (h : l.Perm m) : sortP l = sortP m := sortedP_uniq _ _ ((sortP_perm l).trans (h.trans (sortP_perm m).symm)) (sortP_sorted l) (sortP_sorted m)
def srtPR (o : Option (List Val)) (S : Store) : R Val := match o.bind pairsO with
  | some ps => newL ((sortP ps).map pv) S
  | none => .bad
def fSortP : Fn := one fun v S => srtPR (lstO v S) S
theorem pair_perm : ∀ {ws : List Val} {ps : List (Int × Int)}, ws.Perm (ps.map pv) → ∃ qs : List (Int × Int), ws = qs.map pv ∧ qs.Perm ps := by
  intro ws
  induction ws with
  | nil =>
    intro ps h
    have := h.length_eq
    cases ps with
    | nil => exact ⟨[], rfl, List.Perm.refl _⟩
    | cons => simp at this
  | cons w ws ih =>
    intro ps h
    have hw : w ∈ ps.map pv := h.mem_iff.mp (by simp)
    obtain ⟨p, hp, rfl⟩ := List.mem_map.mp hw
    have e : ps.Perm (p :: ps.erase p) := List.perm_cons_erase hp
    have h2 : ws.Perm ((ps.erase p).map pv) := List.Perm.cons_inv (h.trans (e.map pv))
    obtain ⟨qs, rfl, hq⟩ := ih h2
    exact ⟨p :: qs, rfl, (hq.cons p).trans e.symm⟩
section
variable {X : Cx}
theorem pv_of {K : PySem.W.Frag} {ρ : Rho} {n : Nat} {H : Hp} {u : V} {p : Int × Int} (r : VR K ρ n H (pv p) u) : keyH H u = p ∧ ∃ t, u = .ref t ∧ H t = some (.tup [.int p.1, .int p.2]) := by
  unfold pv at r
  simp only [VR] at r
  obtain ⟨t, xs, rfl, ht, rs⟩ := r
  rcases ht with ht | ⟨ho, _⟩
  · obtain ⟨u1, u2, rfl, k1, k2⟩ := rs.two
    simp only [VR] at k1 k2
    subst k1
    subst k2
    exact ⟨by simp only [keyH, ht], t, rfl, ht⟩
  · rw [ownC_pair] at ho; cases ho
theorem risesP {K : PySem.W.Frag} {ρ : Rho} {n : Nat} {H : Hp} : ∀ {qs : List (Int × Int)} {us : List V}, VRs K ρ n H (qs.map pv) us → us.Pairwise (fun x y => SrtO.lexB (keyH H y) (keyH H x) = false) → qs.Pairwise LeP
  | [], us, _, _ => by simp
  | q :: qs, us, h, hp => by
    obtain ⟨w, r, rfl, h1, h2⟩ := VRs.cons_of (vs := qs.map pv) h
    obtain ⟨p1, p2⟩ := List.pairwise_cons.mp hp
    refine List.pairwise_cons.mpr ⟨fun x hx => ?_, risesP h2 p2⟩
    obtain ⟨i, hi⟩ := List.getElem?_of_mem hx
    obtain ⟨u, hu, hr⟩ := VRs.get h2 (i := i) (v := pv x) (by rw [List.getElem?_map, hi]; rfl)
    have q1 := p1 u (List.mem_of_getElem? hu)
    rw [(pv_of h1).1, (pv_of hr).1] at q1
    intro lt
    unfold SrtO.lexB at q1
    unfold ltK at lt
    split at q1
    · have := of_decide_eq_false q1
      omega
    · have := of_decide_eq_false q1
      omega
theorem c_sortP : CallR X (.builtin "sorted") (rF X fSortP) := CallR.imp L2.cr_sortedPO fun us H Q h => by
  replace h := one_of h
  obtain ⟨u, rfl, ρ, S, x, s, v, h⟩ := h
  dsimp only at h
  unfold srtPR at h
  cases hxs : lstO x S with
  | none => rw [hxs] at h; exact h.elim
  | some xs =>
    rw [hxs] at h
    cases hps : pairsO xs with
    | none =>
      replace h : Post X.K X.mg (relV X.K) W0 ρ S H [] (match pairsO xs with
        | some ps => newL ((sortP ps).map pv) S
        | none => .bad) Q := h
      rw [hps] at h; exact h.elim
    | some ps =>
      replace h : Post X.K X.mg (relV X.K) W0 ρ S H [] (match pairsO xs with
        | some ps => newL ((sortP ps).map pv) S
        | none => .bad) Q := h
      rw [hps] at h
      dsimp only at h
      obtain ⟨a, vs, rfl, sq, rs⟩ := lst_of s v hxs
      have e := pairsO_eq hps
      subst e
      refine ⟨a, vs, keyH H, rfl, sq, fun y hy => ?_, fun zs p h1 h2 hp => ?_⟩
      · obtain ⟨w, hw, hr⟩ := VRs.mem_of rs hy
        obtain ⟨k, _, rfl⟩ := List.mem_map.mp hw
        obtain ⟨e1, t, e2, e3⟩ := pv_of hr
        exact ⟨t, e2, by rw [e1]; exact e3⟩
      · obtain ⟨ws, q1, q2⟩ := VRs.perm h2.perm.symm rs
        obtain ⟨qs, rfl, hq⟩ := pair_perm q1
        have hw : qs = sortP ps := sortedP_uniq _ _ (hq.trans (sortP_perm ps).symm) (risesP q2 h1) (sortP_sorted ps)
        rw [← hw] at h
        exact lst_new s h q2 p hp
end
section
variable {S : Store}
theorem fSortP_ref {a : Nat} {ps : List (Int × Int)} (h : sg S a = some (.lst (ps.map pv))) : fSortP [.ref a] S = .ok (.ref (sl S)) (sp S (.lst ((sortP ps).map pv))) := by
  unfold fSortP one
  dsimp only
  have : lstO (.ref a) S = some (ps.map pv) := by
    show (match S[a]? with
    | some (.lst vs) => some vs
    | _ => none) = _
    have h' : S[a]? = some (.lst (ps.map pv)) := h
    rw [h']
  rw [this]
  unfold srtPR
  show (match pairsO (ps.map pv) with
    | some ps => newL ((sortP ps).map pv) S
    | none => .bad) = _
  rw [pairsO_map]
  rfl
theorem mKeysL_ref {L : Loc} {mo : ME} {a : Nat} {S1 : Store} {kvs : List (List Key × Val)} (h : mo L S = .ok (.ref a) S1) (hd : sg S1 a = some (.dT kvs)) : mKeysL mo L S = .ok (.ref (sl S1)) (sp S1 (.lst (kvs.map fun p => .tup (p.1.map keyVal)))) := by
  unfold mKeysL
  rw [h]
  show keysR S1[a]? S1 = _
  have h' : S1[a]? = some (.dT kvs) := hd
  rw [h']
  rfl
/-- equal lists of lists -/
theorem list_data {S : Store} {xs : List Val} (hw : ∀ x, x ∈ xs → wv 20 x = true) : ∃ ds, (∀ i k, sg S i = some (.lst xs) → 20 ≤ k → toD (k + 1) S (.ref i) = some (.list ds)) ∧ PyData.canLayAll0 ds = true ∧ PyData.depthAll ds ≤ 20 ∧ PyData.eqvAll ds ds = true := by
  obtain ⟨ds, e1, e2, e3, e4⟩ := data_list (S := S) hw
  refine ⟨ds, fun i k hi hk => ?_, e2, e3, e4⟩
  have dsame : xs.mapM (toD k S) = some ds := by
    have hall : ∀ x, x ∈ xs → ∃ d, vD x = some d ∧ d.depth ≤ 20 := fun x hx => by
      obtain ⟨d, d1, _, d3, _⟩ := wv_data (hw x hx)
      exact ⟨d, d1, d3⟩
    have : ∀ (ys : List Val), (∀ x, x ∈ ys → ∃ d, vD x = some d ∧ d.depth ≤ 20) → ys.mapM (toD k S) = ys.mapM (toD 20 S) := by
      intro ys
      induction ys with
      | nil => intro _; rfl
      | cons y ys ih =>
        intro h
        obtain ⟨d, d1, d3⟩ := h y (by simp)
        rw [List.mapM_cons, List.mapM_cons, toD_vD S k y d d1 (by omega), toD_vD S 20 y d d1 d3, ih fun x hx => h x (List.mem_cons_of_mem _ hx)]
    rw [this xs hall, e1]
  rw [toD_ref, hi, listD_lst, dsame]
  rfl
/-- the lists at these places -/
def AtL (S : Store) : List Nat → List (List Val) → Prop
  | [], [] => True
  | i :: is, c :: cs => sg S i = some (.lst c) ∧ AtL S is cs
  | _, _ => False
theorem lists_data {S : Store} : ∀ {cs : List (List Val)}, (∀ c, c ∈ cs → ∀ x, x ∈ c → wv 20 x = true) → ∃ ds, (∀ is k, AtL S is cs → 20 ≤ k → (is.map Val.ref).mapM (toD (k + 1) S) = some ds) ∧ PyData.canLayAll0 ds = true ∧ PyData.depthAll ds ≤ 21 ∧ PyData.eqvAll ds ds = true
  | [], _ => ⟨[], fun is k h _ => by cases is with | nil => rfl | cons => exact h.elim, by simp [PyData.canLayAll0], by simp [PyData.depthAll], by simp [PyData.eqvAll]⟩
  | c :: cs, h => by
    obtain ⟨d, d1, d2, d3, d4⟩ := list_data (S := S) (h c (by simp))
    obtain ⟨ds, e1, e2, e3, e4⟩ := lists_data (S := S) fun y hy => h y (List.mem_cons_of_mem _ hy)
    refine ⟨.list d :: ds, fun is k ha hk => ?_, by simp [PyData.canLayAll0, PyData.canLay0, d2, e2], by simp only [PyData.depthAll, PyData.depth]; omega, by simp [PyData.eqvAll, PyData.eqv, d4, e4]⟩
    cases is with
    | nil => exact ha.elim
    | cons i is =>
      obtain ⟨a1, a2⟩ := ha
      rw [List.map_cons, List.mapM_cons, d1 i k a1 hk, e1 is k a2 hk]
      rfl
theorem eq_lists2 {S : Store} {a c : Nat} {is js : List Nat} {cs : List (List Val)} (ha : sg S a = some (.lst (is.map Val.ref))) (hc : sg S c = some (.lst (js.map Val.ref))) (hi : AtL S is cs) (hj : AtL S js cs)
    (hw : ∀ c, c ∈ cs → ∀ x, x ∈ c → wv 20 x = true) : pEq (.ref a) (.ref c) S = .ok (.bl true) S ∧ pNe (.ref a) (.ref c) S = .ok (.bl false) S := by
  obtain ⟨ds, e1, e2, e3, e4⟩ := lists_data (S := S) hw
  have eD : ∀ i ks, sg S i = some (.lst (ks.map Val.ref)) → AtL S ks cs → toD DEEP S (.ref i) = some (.list ds) := fun i ks hi ha => by
    show toD (DEEP - 1 + 1) S (.ref i) = _
    rw [toD_ref, hi, listD_lst]
    have : DEEP - 1 = (DEEP - 2) + 1 := by unfold DEEP; rfl
    rw [this, e1 ks _ ha (by unfold DEEP; omega)]
    rfl
  have sh : SeqAt.shaped (.list ds) = true := by
    unfold SeqAt.shaped
    have : (PyData.list ds).canLay0 = true := by simpa [PyData.canLay0] using e2
    rw [this, decide_eq_true (by simp only [PyData.depth]; omega)]
    rfl
  have ev : PyData.eqv (.list ds) (.list ds) = true := by simpa [PyData.eqv] using e4
  have : eqO (.ref a) (.ref c) S = some true := by
    unfold eqO
    rw [eD a is ha hi, eD c js hc hj]
    dsimp only
    rw [sh, ev]
    rfl
  unfold pEq pNe
  rw [this]
  exact ⟨rfl, rfl⟩
end
end Mp

/-! printed by gen2.py: the defs of the text as combinators, and that they are right -/
namespace K04
open PySem PySem.Spec L2 Mp
def topS (i : Nat) : Stmt := PySem.Challenge.pw_knownquiet_k04_whole_runs_in_any_order_d.main.body.getD i (.Pass ⟨0, 0, 0, 0⟩)
structure Txt (K : PySem.W.Frag) (mg : Str → Option Value) : Prop where
  b_all : mg "all" = none
  b_bool : mg "bool" = none
  b_enumerate : mg "enumerate" = none
  b_int : mg "int" = none
  b_isinstance : mg "isinstance" = none
  b_len : mg "len" = none
  b_list : mg "list" = none
  b_range : mg "range" = none
  b_sorted : mg "sorted" = none
  b_str : mg "str" = none
  b_sum : mg "sum" = none
  b_tuple : mg "tuple" = none
  b_zip : mg "zip" = none
  c_MOST_FUEL : ∃ t, mg "MOST_FUEL" = some (.int 12 t)
  c_MOST_GIVEN : ∃ t, mg "MOST_GIVEN" = some (.int 20 t)
  c_MOST_HOUSES : ∃ t, mg "MOST_HOUSES" = some (.int 6 t)
  c_MOST_KINDS : ∃ t, mg "MOST_KINDS" = some (.int 6 t)
  c_MOST_RUN : ∃ t, mg "MOST_RUN" = some (.int 20000 t)
  c_MOST_SENT : ∃ t, mg "MOST_SENT" = some (.int 4 t)
  f_Works_many : FldAt K mg "Works" "many"
  f_Works_rules : FldAt K mg "Works" "rules"
  e_NoGiven : Err0 K mg "NoGiven"
  e_NoHouse : Err0 K mg "NoHouse"
  e_NoStanding : Err0 K mg "NoStanding"
  e_NoTask : Err0 K mg "NoTask"
  e_NothingThere : Err0 K mg "NothingThere"
  low_TooMany : ∃ C fI, PySem.X_most.LowTxt K mg "TooMany" "TooMany.__init__" C fI
abbrev st_m_law_hand : Stmt := topS 50
abbrev N_m_law_hand : List Str := ["_law_script"]
theorem sc_m_law_hand : FnScope N_m_law_hand ["_law_script"] (defScope st_m_law_hand) := ⟨rfl, rfl, rfl, by decide +kernel, rfl, by decide +kernel, by decide +kernel⟩
abbrev st_m_law_take : Stmt := topS 51
abbrev N_m_law_take : List Str := ["_law_hand_here", "_law_many", "_law_cell", "_law_found", "_law_number"]
theorem sc_m_law_take : FnScope N_m_law_take ["_law_hand_here", "_law_many"] (defScope st_m_law_take) := ⟨rfl, rfl, rfl, by decide +kernel, rfl, by decide +kernel, by decide +kernel⟩
abbrev st_m_law_pick : Stmt := topS 52
abbrev N_m_law_pick : List Str := ["_law_hand_here", "_law_things"]
theorem sc_m_law_pick : FnScope N_m_law_pick ["_law_hand_here", "_law_things"] (defScope st_m_law_pick) := ⟨rfl, rfl, rfl, by decide +kernel, rfl, by decide +kernel, by decide +kernel⟩
abbrev st_m_law_rules : Stmt := topS 55
abbrev N_m_law_rules : List Str := ["_law_hand_here", "_law_many", "_law_kinds", "_law_most", "_law_found", "_law_k", "_law_long", "_law_j"]
theorem sc_m_law_rules : FnScope N_m_law_rules ["_law_hand_here", "_law_many", "_law_kinds", "_law_most"] (defScope st_m_law_rules) := ⟨rfl, rfl, rfl, by decide +kernel, rfl, by decide +kernel, by decide +kernel⟩
abbrev st_m_law_some_works : Stmt := topS 56
abbrev N_m_law_some_works : List Str := ["_law_hand_here", "_law_many", "_law_kinds"]
theorem sc_m_law_some_works : FnScope N_m_law_some_works ["_law_hand_here"] (defScope st_m_law_some_works) := ⟨rfl, rfl, rfl, by decide +kernel, rfl, by decide +kernel, by decide +kernel⟩
abbrev st_m_is_integer : Stmt := topS 10
abbrev N_m_is_integer : List Str := ["thing"]
theorem sc_m_is_integer : FnScope N_m_is_integer ["thing"] (defScope st_m_is_integer) := ⟨rfl, rfl, rfl, by decide +kernel, rfl, by decide +kernel, by decide +kernel⟩
abbrev st_m_is_within : Stmt := topS 11
abbrev N_m_is_within : List Str := ["thing", "least", "most"]
theorem sc_m_is_within : FnScope N_m_is_within ["thing", "least", "most"] (defScope st_m_is_within) := ⟨rfl, rfl, rfl, by decide +kernel, rfl, by decide +kernel, by decide +kernel⟩
abbrev st_m_is_sized : Stmt := topS 13
abbrev N_m_is_sized : List Str := ["thing", "least", "most"]
theorem sc_m_is_sized : FnScope N_m_is_sized ["thing", "least", "most"] (defScope st_m_is_sized) := ⟨rfl, rfl, rfl, by decide +kernel, rfl, by decide +kernel, by decide +kernel⟩
abbrev st_m_is_below : Stmt := topS 12
abbrev N_m_is_below : List Str := ["thing", "many"]
theorem sc_m_is_below : FnScope N_m_is_below ["thing", "many"] (defScope st_m_is_below) := ⟨rfl, rfl, rfl, by decide +kernel, rfl, by decide +kernel, by decide +kernel⟩
abbrev st_m_is_pair : Stmt := topS 14
abbrev N_m_is_pair : List Str := ["thing"]
theorem sc_m_is_pair : FnScope N_m_is_pair ["thing"] (defScope st_m_is_pair) := ⟨rfl, rfl, rfl, by decide +kernel, rfl, by decide +kernel, by decide +kernel⟩
abbrev st_m_is_rule : Stmt := topS 23
abbrev N_m_is_rule : List Str := ["many", "kinds", "thing", "item", "step", "kind"]
theorem sc_m_is_rule : FnScope N_m_is_rule ["many", "kinds", "thing"] (defScope st_m_is_rule) := ⟨rfl, rfl, rfl, by decide +kernel, rfl, by decide +kernel, by decide +kernel⟩
abbrev st_m_Works___init__ : Stmt := inClass (topS 24) 0
abbrev N_m_Works___init__ : List Str := ["self", "many", "rules", "number", "rule"]
theorem sc_m_Works___init__ : FnScope N_m_Works___init__ ["self", "many", "rules"] (defScope st_m_Works___init__) := ⟨rfl, rfl, rfl, by decide +kernel, rfl, by decide +kernel, by decide +kernel⟩
abbrev st_m_law_task : Stmt := topS 60
abbrev N_m_law_task : List Str := ["_law_hand_here", "_law_rules_here", "_law_most"]
theorem sc_m_law_task : FnScope N_m_law_task ["_law_hand_here", "_law_rules_here", "_law_most"] (defScope st_m_law_task) := ⟨rfl, rfl, rfl, by decide +kernel, rfl, by decide +kernel, by decide +kernel⟩
abbrev st_m_law_sent : Stmt := topS 57
abbrev N_m_law_sent : List Str := ["_law_many", "_law_rules_here", "_law_house", "_law_task_here", "_law_found", "_law_step", "_law_kind"]
theorem sc_m_law_sent : FnScope N_m_law_sent ["_law_many", "_law_rules_here", "_law_house", "_law_task_here"] (defScope st_m_law_sent) := ⟨rfl, rfl, rfl, by decide +kernel, rfl, by decide +kernel, by decide +kernel⟩
abbrev st_m_law_counts : Stmt := topS 58
abbrev N_m_law_counts : List Str := ["_law_many", "_law_rules_here", "_law_kept", "_law_house", "_law_task_here", "_law_key", "_law_found", "_law_to", "_law_later", "_law_some", "_law_k"]
theorem sc_m_law_counts : FnScope N_m_law_counts ["_law_many", "_law_rules_here", "_law_kept", "_law_house", "_law_task_here"] (defScope st_m_law_counts) := ⟨rfl, rfl, rfl, by decide +kernel, rfl, by decide +kernel, by decide +kernel⟩
abbrev st_m_law_total : Stmt := topS 59
abbrev N_m_law_total : List Str := ["_law_many", "_law_rules_here", "_law_kept", "_law_tasks", "_law_task_here"]
theorem sc_m_law_total : FnScope N_m_law_total ["_law_many", "_law_rules_here", "_law_kept", "_law_tasks"] (defScope st_m_law_total) := ⟨rfl, rfl, rfl, by decide +kernel, rfl, by decide +kernel, by decide +kernel⟩
abbrev st_m_law_given : Stmt := topS 61
abbrev N_m_law_given : List Str := ["_law_hand_here", "_law_many", "_law_rules_here", "_law_most", "_law_kept", "_law_found", "_law_k", "_law_task_here", "_law_less", "_law_later"]
theorem sc_m_law_given : FnScope N_m_law_given ["_law_hand_here", "_law_many", "_law_rules_here", "_law_most"] (defScope st_m_law_given) := ⟨rfl, rfl, rfl, by decide +kernel, rfl, by decide +kernel, by decide +kernel⟩
abbrev st_m_is_right_task : Stmt := topS 25
abbrev N_m_is_right_task : List Str := ["works", "thing"]
theorem sc_m_is_right_task : FnScope N_m_is_right_task ["works", "thing"] (defScope st_m_is_right_task) := ⟨rfl, rfl, rfl, by decide +kernel, rfl, by decide +kernel, by decide +kernel⟩
abbrev st_m_are_tasks : Stmt := topS 32
abbrev N_m_are_tasks : List Str := ["works", "thing", "task"]
theorem sc_m_are_tasks : FnScope N_m_are_tasks ["works", "thing"] (defScope st_m_are_tasks) := ⟨rfl, rfl, rfl, by decide +kernel, rfl, by decide +kernel, by decide +kernel⟩
abbrev st_m_check_given : Stmt := topS 36
abbrev N_m_check_given : List Str := ["works", "thing"]
theorem sc_m_check_given : FnScope N_m_check_given ["works", "thing"] (defScope st_m_check_given) := ⟨rfl, rfl, rfl, by decide +kernel, rfl, by decide +kernel, by decide +kernel⟩
abbrev st_m_letters_of : Stmt := topS 28
abbrev N_m_letters_of : List Str := ["works", "house", "task", "kind", "fuel", "step", "later"]
theorem sc_m_letters_of : FnScope N_m_letters_of ["works", "house", "task"] (defScope st_m_letters_of) := ⟨rfl, rfl, rfl, by decide +kernel, rfl, by decide +kernel, by decide +kernel⟩
abbrev st_m_replaced : Stmt := topS 15
abbrev N_m_replaced : List Str := ["items", "number", "item"]
theorem sc_m_replaced : FnScope N_m_replaced ["items", "number", "item"] (defScope st_m_replaced) := ⟨rfl, rfl, rfl, by decide +kernel, rfl, by decide +kernel, by decide +kernel⟩
abbrev st_m_table_of : Stmt := topS 29
abbrev N_m_table_of : List Str := ["works", "fuel", "here", "turn", "later", "rule", "counts", "step", "kind", "far", "number"]
theorem sc_m_table_of : FnScope N_m_table_of ["works", "fuel"] (defScope st_m_table_of) := ⟨rfl, rfl, rfl, by decide +kernel, rfl, by decide +kernel, by decide +kernel⟩
abbrev st_m_many_of : Stmt := topS 30
abbrev N_m_many_of : List Str := ["works", "task"]
theorem sc_m_many_of : FnScope N_m_many_of ["works", "task"] (defScope st_m_many_of) := ⟨rfl, rfl, rfl, by decide +kernel, rfl, by decide +kernel, by decide +kernel⟩
abbrev st_m_plain_run : Stmt := topS 48
abbrev N_m_plain_run : List Str := ["works", "given", "bags", "found", "working", "house", "task", "to", "later"]
theorem sc_m_plain_run : FnScope N_m_plain_run ["works", "given"] (defScope st_m_plain_run) := ⟨rfl, rfl, rfl, by decide +kernel, rfl, by decide +kernel, by decide +kernel⟩
abbrev st_m_check_house : Stmt := topS 26
abbrev N_m_check_house : List Str := ["works", "thing"]
theorem sc_m_check_house : FnScope N_m_check_house ["works", "thing"] (defScope st_m_check_house) := ⟨rfl, rfl, rfl, by decide +kernel, rfl, by decide +kernel, by decide +kernel⟩
abbrev st_m_check_task : Stmt := topS 27
abbrev N_m_check_task : List Str := ["works", "thing"]
theorem sc_m_check_task : FnScope N_m_check_task ["works", "thing"] (defScope st_m_check_task) := ⟨rfl, rfl, rfl, by decide +kernel, rfl, by decide +kernel, by decide +kernel⟩
abbrev st_m_tasks_of : Stmt := topS 31
abbrev N_m_tasks_of : List Str := ["works", "house", "task", "counts", "other"]
theorem sc_m_tasks_of : FnScope N_m_tasks_of ["works", "house", "task"] (defScope st_m_tasks_of) := ⟨rfl, rfl, rfl, by decide +kernel, rfl, by decide +kernel, by decide +kernel⟩
abbrev st_m_begun : Stmt := topS 37
abbrev N_m_begun : List Str := ["works", "given"]
theorem sc_m_begun : FnScope N_m_begun ["works", "given"] (defScope st_m_begun) := ⟨rfl, rfl, rfl, by decide +kernel, rfl, by decide +kernel, by decide +kernel⟩
abbrev st_m_first_standing : Stmt := topS 38
abbrev N_m_first_standing : List Str := ["works", "given"]
theorem sc_m_first_standing : FnScope N_m_first_standing ["works", "given"] (defScope st_m_first_standing) := ⟨rfl, rfl, rfl, by decide +kernel, rfl, by decide +kernel, by decide +kernel⟩
abbrev st_m_is_way : Stmt := topS 33
abbrev N_m_is_way : List Str := ["works", "thing"]
theorem sc_m_is_way : FnScope N_m_is_way ["works", "thing"] (defScope st_m_is_way) := ⟨rfl, rfl, rfl, by decide +kernel, rfl, by decide +kernel, by decide +kernel⟩
abbrev st_m_is_right_standing : Stmt := topS 34
abbrev N_m_is_right_standing : List Str := ["works", "thing", "ends", "bag", "way", "one", "other"]
theorem sc_m_is_right_standing : FnScope N_m_is_right_standing ["works", "thing"] (defScope st_m_is_right_standing) := ⟨rfl, rfl, rfl, by decide +kernel, rfl, by decide +kernel, by decide +kernel⟩
abbrev st_m_check_standing : Stmt := topS 35
abbrev N_m_check_standing : List Str := ["works", "thing"]
theorem sc_m_check_standing : FnScope N_m_check_standing ["works", "thing"] (defScope st_m_check_standing) := ⟨rfl, rfl, rfl, by decide +kernel, rfl, by decide +kernel, by decide +kernel⟩
abbrev st_m_still_to_do : Stmt := topS 47
abbrev N_m_still_to_do : List Str := ["works", "standing", "lots", "way", "tasks", "task"]
theorem sc_m_still_to_do : FnScope N_m_still_to_do ["works", "standing"] (defScope st_m_still_to_do) := ⟨rfl, rfl, rfl, by decide +kernel, rfl, by decide +kernel, by decide +kernel⟩
abbrev st_m_law_choices : Stmt := topS 63
abbrev N_m_law_choices : List Str := ["_law_model_here", "_law_bags", "_law_ways", "_law_found", "_law_house", "_law_ends"]
theorem sc_m_law_choices : FnScope N_m_law_choices ["_law_model_here"] (defScope st_m_law_choices) := ⟨rfl, rfl, rfl, by decide +kernel, rfl, by decide +kernel, by decide +kernel⟩
noncomputable def m_law_choices : Fn := fG (fDef 6 1
    (sSeq (sAsg (mV 0) (gTup (gsCons (gN 1) (gsCons (gN 2) gsNil))))
    (sSeq (sAsg (mLc (iRng1 (aCons (mB fLen (aCons (mV 1) aNil)) aNil)) [4] (gN 4) (tV (m2 pGt (mB fLen (aCons (m2 pIx (mV 1) (mV 4)) aNil)) (mC (.int 0)))) (mTup (aCons (mC (.str "do")) (aCons (mV 4) aNil)))) (gN 3))
    (sRet (mG (m2 pAdd (mV 3) (mLc (iV (mB fSortW (aCons (mKeysL (mV 2)) aNil))) [5] (gN 5) (tV (m2 pGt (mB fLen (aCons (m2 pIx (mV 2) (mV 5)) aNil)) (mC (.int 0)))) (mTup (aCons (mC (.str "hear")) (aCons (m2 pIx (mV 5) (mC (.int 1))) (aCons (m2 pIx (mV 5) (mC (.int 0))) aNil)))))))))))
abbrev st_m_law_model : Stmt := topS 62
abbrev N_m_law_model : List Str := ["_law_standing", "_law_bags", "_law_ways", "_law_sender", "_law_to", "_law_tasks", "_law_bag"]
theorem sc_m_law_model : FnScope N_m_law_model ["_law_standing"] (defScope st_m_law_model) := ⟨rfl, rfl, rfl, by decide +kernel, rfl, by decide +kernel, by decide +kernel⟩
noncomputable def m_law_model_b1 : MS := (sK [3, 4, 5] (sAsg (mB fList (aCons (mV 5) aNil)) (gSub (mV 2) (mTup (aCons (mV 3) (aCons (mV 4) aNil))) pSet)))
noncomputable def m_law_model : Fn := (fDef 7 1
    (sSeq (sAsg (mLc (iV (m2 pIx (mV 0) (mC (.int 0)))) [6] (gN 6) tYes (mB fList (aCons (mV 6) aNil))) (gN 1))
    (sSeq (sAsg mDT (gN 2))
    (sSeq (Mp.sFor (iV (m2 pIx (mV 0) (mC (.int 1)))) (gTup (gsCons (gN 3) (gsCons (gN 4) (gsCons (gN 5) gsNil))))
    K04.m_law_model_b1)
    (sRet (mTup (aCons (mV 1) (aCons (mV 2) aNil))))))))
abbrev st_m_with_way : Stmt := topS 40
abbrev N_m_with_way : List Str := ["ways", "ends", "tasks", "found", "way"]
theorem sc_m_with_way : FnScope N_m_with_way ["ways", "ends", "tasks"] (defScope st_m_with_way) := ⟨rfl, rfl, rfl, by decide +kernel, rfl, by decide +kernel, by decide +kernel⟩
abbrev st_m_on_way : Stmt := topS 39
abbrev N_m_on_way : List Str := ["ways", "ends", "found", "sender", "to", "tasks"]
theorem sc_m_on_way : FnScope N_m_on_way ["ways", "ends"] (defScope st_m_on_way) := ⟨rfl, rfl, rfl, by decide +kernel, rfl, by decide +kernel, by decide +kernel⟩
abbrev st_m_after_do : Stmt := topS 41
abbrev N_m_after_do : List Str := ["works", "standing", "house", "bags", "ways", "to", "task", "ends"]
theorem sc_m_after_do : FnScope N_m_after_do ["works", "standing", "house"] (defScope st_m_after_do) := ⟨rfl, rfl, rfl, by decide +kernel, rfl, by decide +kernel, by decide +kernel⟩
abbrev st_m_done_by : Stmt := topS 43
abbrev N_m_done_by : List Str := ["works", "standing", "house", "found"]
theorem sc_m_done_by : FnScope N_m_done_by ["works", "standing", "house"] (defScope st_m_done_by) := ⟨rfl, rfl, rfl, by decide +kernel, rfl, by decide +kernel, by decide +kernel⟩
abbrev st_m_after_hear : Stmt := topS 42
abbrev N_m_after_hear : List Str := ["standing", "house", "sender", "bags", "ways", "ends", "tasks"]
theorem sc_m_after_hear : FnScope N_m_after_hear ["standing", "house", "sender"] (defScope st_m_after_hear) := ⟨rfl, rfl, rfl, by decide +kernel, rfl, by decide +kernel, by decide +kernel⟩
abbrev st_m_heard_by : Stmt := topS 44
abbrev N_m_heard_by : List Str := ["works", "standing", "house", "sender", "found"]
theorem sc_m_heard_by : FnScope N_m_heard_by ["works", "standing", "house", "sender"] (defScope st_m_heard_by) := ⟨rfl, rfl, rfl, by decide +kernel, rfl, by decide +kernel, by decide +kernel⟩
abbrev st_m_law_is_integer : Stmt := topS 53
abbrev N_m_law_is_integer : List Str := ["_law_thing"]
theorem sc_m_law_is_integer : FnScope N_m_law_is_integer ["_law_thing"] (defScope st_m_law_is_integer) := ⟨rfl, rfl, rfl, by decide +kernel, rfl, by decide +kernel, by decide +kernel⟩
abbrev st_m_law_same : Stmt := topS 54
abbrev N_m_law_same : List Str := ["_law_actual", "_law_due", "_law_one", "_law_other"]
theorem sc_m_law_same : FnScope N_m_law_same ["_law_actual", "_law_due"] (defScope st_m_law_same) := ⟨rfl, rfl, rfl, by decide +kernel, rfl, by decide +kernel, by decide +kernel⟩
abbrev st_m_is_all_quiet : Stmt := topS 45
abbrev N_m_is_all_quiet : List Str := ["standing", "bag"]
theorem sc_m_is_all_quiet : FnScope N_m_is_all_quiet ["standing"] (defScope st_m_is_all_quiet) := ⟨rfl, rfl, rfl, by decide +kernel, rfl, by decide +kernel, by decide +kernel⟩
abbrev st_m_is_quiet : Stmt := topS 46
abbrev N_m_is_quiet : List Str := ["works", "standing"]
theorem sc_m_is_quiet : FnScope N_m_is_quiet ["works", "standing"] (defScope st_m_is_quiet) := ⟨rfl, rfl, rfl, by decide +kernel, rfl, by decide +kernel, by decide +kernel⟩
abbrev st_m_law_led : Stmt := topS 64
abbrev N_m_law_led : List Str := ["_law_hand_here", "_law_works", "_law_many", "_law_rules_here", "_law_given_here", "_law_mode", "_law_standing", "_law_done", "_law_left", "_law_total_here", "_law_k", "_law_choices_here", "_law_event", "_law_some", "_law_house"]
theorem sc_m_law_led : FnScope N_m_law_led ["_law_hand_here", "_law_works", "_law_many", "_law_rules_here", "_law_given_here", "_law_mode"] (defScope st_m_law_led) := ⟨rfl, rfl, rfl, by decide +kernel, rfl, by decide +kernel, by decide +kernel⟩
noncomputable def m_law_led_s1 : MS := (sAsg (mA KW.m_first_standing (aCons (mV 1) (aCons (mV 4) aNil))) (gN 6))
noncomputable def m_law_led_s2 : MS := (sAsg (mLc (iRng1 (aCons (mV 2) aNil)) [14] (gN 14) tYes (mLst aNil)) (gN 7))
noncomputable def m_law_led_s3 : MS := (sAsg (mA KW.m_still_to_do (aCons (mV 1) (aCons (mV 6) aNil))) (gN 8))
noncomputable def m_law_led_s4 : MS := (sAsg (mV 8) (gN 9))
noncomputable def m_law_led_s6 : MS := (sAsg (mA m_law_choices (aCons (mA m_law_model (aCons (mV 6) aNil)) aNil)) (gN 11))
noncomputable def m_law_led_s8 : MS := (sRet (mC .non))
noncomputable def m_law_led_s7 : MS := (sIf (Mp.tOr (tV (m2 pNe (mA KW.m_is_quiet (aCons (mV 1) (aCons (mV 6) aNil))) (m2 pEq (mB fLen (aCons (mV 11) aNil)) (mC (.int 0))))) (tV (m2 pNe (m2 pEq (mV 8) (mC (.int 0))) (m2 pEq (mB fLen (aCons (mV 11) aNil)) (mC (.int 0))))))
    K04.m_law_led_s8
    sNx)
noncomputable def m_law_led_s10 : MS := (sRet (mV 7))
noncomputable def m_law_led_s9 : MS := (sIf (tV (m2 pEq (mB fLen (aCons (mV 11) aNil)) (mC (.int 0))))
    K04.m_law_led_s10
    sNx)
noncomputable def m_law_led_s11 : MS := (sAsg (m2 pIx (mV 11) (mG (m2 pIx (mLst (aCons (mA KA.m_law_take (aCons (mV 0) (aCons (mB fLen (aCons (mV 11) aNil)) aNil))) (aCons (mC (.int 0)) (aCons (m2 pSub (mB fLen (aCons (mV 11) aNil)) (mC (.int 1))) aNil)))) (mV 5)))) (gN 12))
noncomputable def m_law_led_s13 : MS := (sAsg (m2 pIx (mV 7) (m2 pIx (mV 12) (mC (.int 1)))) (gN 13))
noncomputable def m_law_led_s14 : MS := (sExpr (mBM "list" fAppend (mV 13) (aCons (m2 pIx (m2 pIx (m2 pIx (mV 6) (mC (.int 0))) (m2 pIx (mV 12) (mC (.int 1)))) (mC (.int 0))) aNil)))
noncomputable def m_law_led_s15 : MS := (sAsg (mA KW.m_done_by (aCons (mV 1) (aCons (mV 6) (aCons (m2 pIx (mV 12) (mC (.int 1))) aNil)))) (gN 6))
noncomputable def m_law_led_s16 : MS := (sAsg (m2 pSub (mV 8) (mC (.int 1))) (gN 8))
noncomputable def m_law_led_s17 : MS := (sAsg (mA KW.m_heard_by (aCons (mV 1) (aCons (mV 6) (aCons (m2 pIx (mV 12) (mC (.int 1))) (aCons (m2 pIx (mV 12) (mC (.int 2))) aNil))))) (gN 6))
noncomputable def m_law_led_s12 : MS := (sIf (tV (m2 pEq (m2 pIx (mV 12) (mC (.int 0))) (mC (.str "do"))))
    (sSeq K04.m_law_led_s13
    (sSeq K04.m_law_led_s14
    (sSeq K04.m_law_led_s15
    K04.m_law_led_s16)))
    K04.m_law_led_s17)
noncomputable def m_law_led_s19 : MS := (sRet (mC .non))
noncomputable def m_law_led_s18 : MS := (sIf (Mp.tNot (tV (mA (KA.m_law_same 100) (aCons (mA KW.m_still_to_do (aCons (mV 1) (aCons (mV 6) aNil))) (aCons (mV 8) aNil)))))
    K04.m_law_led_s19
    sNx)
noncomputable def m_law_led_b1 : MS := (sK [10, 11, 12, 13] (sSeq K04.m_law_led_s6
    (sSeq K04.m_law_led_s7
    (sSeq K04.m_law_led_s9
    (sSeq K04.m_law_led_s11
    (sSeq K04.m_law_led_s12
    K04.m_law_led_s18))))))
noncomputable def m_law_led_s5 : MS := (Mp.sFor (iRng1 (aCons (m2 pAdd (m2 pMulI (mC (.int 2)) (mV 9)) (mC (.int 1))) aNil)) (gN 10)
    K04.m_law_led_b1)
noncomputable def m_law_led_s20 : MS := (sRet (mC .non))
noncomputable def m_law_led : Fn := (fDef 15 6
    (sSeq K04.m_law_led_s1
    (sSeq K04.m_law_led_s2
    (sSeq K04.m_law_led_s3
    (sSeq K04.m_law_led_s4
    (sSeq K04.m_law_led_s5
    K04.m_law_led_s20))))))
abbrev st_m_law : Stmt := topS 65
abbrev N_m_law : List Str := ["_law_script", "_law_hand_here", "_law_many", "_law_rules_here", "_law_works", "_law_given_here", "_law_due", "_law_task_here", "_law_counts_here", "_law_runs", "_law_plain", "_law_house", "_law_some", "_law_run", "_law_k", "_law_tasks"]
theorem sc_m_law : FnScope N_m_law ["_law_script"] (defScope st_m_law) := ⟨rfl, rfl, rfl, by decide +kernel, rfl, by decide +kernel, by decide +kernel⟩
noncomputable def m_law_s1 : MS := (sAsg (mA KA.m_law_hand (aCons (mV 0) aNil)) (gN 1))
noncomputable def m_law_s2 : MS := (sAsg (mA KA.m_law_some_works (aCons (mV 1) aNil)) (gTup (gsCons (gN 2) (gsCons (gN 3) gsNil))))
noncomputable def m_law_s3 : MS := (sAsg (mA (fMake "Works" KW.m_Works___init__) (aCons (mV 2) (aCons (mV 3) aNil))) (gN 4))
noncomputable def m_law_s4 : MS := (sAsg (mA KA.m_law_given (aCons (mV 1) (aCons (mV 2) (aCons (mV 3) (aCons (mC (.int 60)) aNil))))) (gN 5))
noncomputable def m_law_s5 : MS := (sAsg (mG (m2 pMul (mLst (aCons (mC (.int 0)) aNil)) (mV 2))) (gN 6))
noncomputable def m_law_s7 : MS := (sAsg (mA KW.m_tasks_of (aCons (mV 4) (aCons (mC (.int 0)) (aCons (mV 7) aNil)))) (gN 8))
noncomputable def m_law_s8 : MS := (sAsg (mLc (iRng1 (aCons (mV 2) aNil)) [14] (gN 14) tYes (m2 pAdd (m2 pIx (mV 6) (mV 14)) (m2 pIx (mV 8) (mV 14)))) (gN 6))
noncomputable def m_law_b1 : MS := (sK [8] (sSeq K04.m_law_s7
    K04.m_law_s8))
noncomputable def m_law_s6 : MS := (Mp.sFor (iV (mV 5)) (gN 7)
    K04.m_law_b1)
noncomputable def m_law_s9 : MS := (sAsg (mLst (aCons (mA m_law_led (aCons (mV 1) (aCons (mV 4) (aCons (mV 2) (aCons (mV 3) (aCons (mV 5) (aCons (mC (.int 0)) aNil))))))) (aCons (mA m_law_led (aCons (mV 1) (aCons (mV 4) (aCons (mV 2) (aCons (mV 3) (aCons (mV 5) (aCons (m2 pAdd (mC (.int 1)) (mA KA.m_law_take (aCons (mV 1) (aCons (mC (.int 2)) aNil)))) aNil))))))) aNil))) (gN 9))
noncomputable def m_law_s10 : MS := (sAsg (mLc (iRng1 (aCons (mV 2) aNil)) [11] (gN 11) tYes (mLst aNil)) (gN 10))
noncomputable def m_law_s12 : MS := (sAsg (m2 pIx (mV 10) (mV 11)) (gN 12))
noncomputable def m_law_s13 : MS := (sExpr (mBM "list" fAppend (mV 12) (aCons (mV 7) aNil)))
noncomputable def m_law_b2 : MS := (sK [12] (sSeq K04.m_law_s12
    K04.m_law_s13))
noncomputable def m_law_s11 : MS := (Mp.sFor (iV (mA KW.m_plain_run (aCons (mV 4) (aCons (mV 5) aNil)))) (gTup (gsCons (gN 11) (gsCons (gN 7) gsNil)))
    K04.m_law_b2)
noncomputable def m_law_s16 : MS := (sRet (mC (.bl false)))
noncomputable def m_law_s15 : MS := (sIf (Mp.tOr (tV (m2 pIs (mV 13) (mC .non))) (tG (tV (m2 pNe (mLc (iV (mV 13)) [15] (gN 15) tYes (mB fLen (aCons (mV 15) aNil))) (mV 6)))))
    K04.m_law_s16
    sNx)
noncomputable def m_law_s18 : MS := (sRet (mC (.bl false)))
noncomputable def m_law_s17 : MS := (sIf (tG (tV (m2 pNe (mLc (iV (mV 13)) [15] (gN 15) tYes (mB fSortP (aCons (mV 15) aNil))) (mLc (iV (mV 10)) [15] (gN 15) tYes (mB fSortP (aCons (mV 15) aNil))))))
    K04.m_law_s18
    sNx)
noncomputable def m_law_b3 : MS := (sK [13] (sSeq K04.m_law_s15
    K04.m_law_s17))
noncomputable def m_law_s14 : MS := (Mp.sFor (iV (mV 9)) (gN 13)
    K04.m_law_b3)
noncomputable def m_law_s19 : MS := (sRet (mC (.bl true)))
noncomputable def m_law : Fn := (fDef 16 1
    (sSeq K04.m_law_s1
    (sSeq K04.m_law_s2
    (sSeq K04.m_law_s3
    (sSeq K04.m_law_s4
    (sSeq K04.m_law_s5
    (sSeq K04.m_law_s6
    (sSeq K04.m_law_s9
    (sSeq K04.m_law_s10
    (sSeq K04.m_law_s11
    (sSeq K04.m_law_s14
    K04.m_law_s19)))))))))))
section
variable {P : Program} {w : World} {K : PySem.W.Frag} {mg : Str → Option Value} {base : Heap}
theorem ok_m_law_hand {fa : Addr} {fd : FuncData} (F : Fun K "_law_hand" "_law_hand" st_m_law_hand fa fd) (T : Txt K mg)  : FnOk P w K mg base (L2.CX P w) 1 fa fd ["_law_script"] (spM K mg 1 KA.m_law_hand) :=
  (def_ok (k := 0) F sc_m_law_hand rfl rfl fun cdv A outer s H E hr tk hpo => by
    have hu1 := hu_of hr
    have hu64 := hr.units
    exact (s_one (s_ret (e_lst (a_cons (e_ty c_list rfl T.b_list (by decide +kernel) (a_cons (e_v (pv 0)) a_nil)) (a_cons e_int (a_cons e_int (a_cons e_int (a_cons e_int a_nil)))))))))
theorem ok_m_law_take {fa : Addr} {fd : FuncData} (F : Fun K "_law_take" "_law_take" st_m_law_take fa fd) (T : Txt K mg)  : FnOk P w K mg base (L2.CX P w) 1 fa fd ["_law_hand_here", "_law_many"] (spM K mg 2 KA.m_law_take) :=
  fn_G (def_ok (k := 0) F sc_m_law_take rfl rfl fun cdv A outer s H E hr tk hpo => by
    have hu1 := hu_of hr
    have hu64 := hr.units
    exact (s_cons (s_asg (e_op o_add (e_ix hu1 (e_v (pv 0)) e_int) e_int) (g_sub (e_v (pv 0)) e_int (st_set hu1)))
      (s_cons (s_if (PW.pt (t_and (t_cmp (o_eq hu64) (e_ix hu1 (e_v (pv 0)) e_int) e_int (nomark _)) (t_and1 (t_cmp o_lt (e_ix hu1 (e_v (pv 0)) e_int) (e_blt c_len rfl T.b_len (by decide +kernel) (a_cons (e_ix hu1 (e_v (pv 0)) e_int) a_nil)) (nomark _)))))
      (s_cons (s_set (i := 2) sc_m_law_take.nd rfl (by first | exact Or.inl rfl | exact Or.inr rfl) (e_ty c_int rfl T.b_int (by decide +kernel) (a_cons (e_ix hu1 (e_ix hu1 (e_v (pv 0)) e_int) (e_ix hu1 (e_v (pv 0)) e_int)) a_nil)))
      (s_cons (s_asg (e_op o_add (e_ix hu1 (e_v (pv 0)) e_int) e_int) (g_sub (e_v (pv 0)) e_int (st_set hu1)))
      (s_one (s_if (t_cmp o_ge (e_v (pv 2)) (e_op o_pow e_int e_int) (nomark _))
      (s_one (s_asg (e_v (pv 2)) (g_sub (e_v (pv 0)) e_int (st_set hu1))))
      (s_one (s_asg (e_op o_mod (e_ty c_int rfl T.b_int (by decide +kernel) (a_cons (e_op o_add (e_op o_add (e_op o_mulI (e_ix hu1 (e_v (pv 0)) e_int) e_int) (e_op o_mod (e_ty c_int rfl T.b_int (by decide +kernel) (a_cons (e_v (pv 2)) a_nil)) e_int)) e_int) a_nil)) e_int) (g_sub (e_v (pv 0)) e_int (st_set hu1))))))))
      s_nil)
      (s_cons (s_if (t_cmp o_gt (e_ix hu1 (e_v (pv 0)) e_int) e_int (nomark _))
      (s_cons (s_set (i := 3) sc_m_law_take.nd rfl (by first | exact Or.inl rfl | exact Or.inr rfl) (e_op o_mod (e_ty c_int rfl T.b_int (by decide +kernel) (a_cons (e_ix hu1 (e_v (pv 0)) e_int) a_nil)) (e_v (pv 1))))
      (s_cons (s_asg (e_op o_div (e_ty c_int rfl T.b_int (by decide +kernel) (a_cons (e_ix hu1 (e_v (pv 0)) e_int) a_nil)) (e_v (pv 1))) (g_sub (e_v (pv 0)) e_int (st_set hu1)))
      (s_one (s_ret (e_v (pv 3))))))
      s_nil)
      (s_cons (s_asg (e_op o_mod (e_ty c_int rfl T.b_int (by decide +kernel) (a_cons (e_op o_add (e_op o_mulI (e_ix hu1 (e_v (pv 0)) e_int) e_int) (e_op o_mulI e_int (e_ix hu1 (e_v (pv 0)) e_int))) a_nil)) e_int) (g_sub (e_v (pv 0)) e_int (st_set hu1)))
      (s_cons (s_set (i := 4) sc_m_law_take.nd rfl (by first | exact Or.inl rfl | exact Or.inr rfl) (e_op o_mod (e_ty c_int rfl T.b_int (by decide +kernel) (a_cons (e_op o_mulI (e_ix hu1 (e_v (pv 0)) e_int) (e_op o_add (e_op o_div (e_ix hu1 (e_v (pv 0)) e_int) e_int) e_int)) a_nil)) e_int))
      (s_cons (s_set (i := 4) sc_m_law_take.nd rfl (by first | exact Or.inl rfl | exact Or.inr rfl) (e_op o_mod (e_ty c_int rfl T.b_int (by decide +kernel) (a_cons (e_op o_mulI (e_v (pv 4)) (e_op o_add (e_op o_div (e_v (pv 4)) e_int) e_int)) a_nil)) e_int))
      (s_one (s_ret (e_op o_mod (e_ty c_int rfl T.b_int (by decide +kernel) (a_cons (e_op o_div (e_v (pv 4)) e_int) a_nil)) (e_v (pv 1))))))))))))
theorem ok_m_law_pick {fa : Addr} {fd : FuncData} (F : Fun K "_law_pick" "_law_pick" st_m_law_pick fa fd) (T : Txt K mg) (D_m_law_take : DefAt P w K mg base 1 "_law_take" 2 KA.m_law_take) : FnOk P w K mg base (L2.CX P w) 2 fa fd ["_law_hand_here", "_law_things"] (spM K mg 2 KA.m_law_pick) :=
  fn_G (def_ok (k := 1) F sc_m_law_pick rfl rfl fun cdv A outer s H E hr tk hpo => by
    have hu1 := hu_of hr
    have hu64 := hr.units
    exact (s_one (s_ret (e_ix hu1 (e_v (pv 1)) (e_call D_m_law_take (fG_len fDef_len) tk (hr.mono (by omega)) rfl (a_cons (e_v (pv 0)) (a_cons (e_blt c_len rfl T.b_len (by decide +kernel) (a_cons (e_v (pv 1)) a_nil)) a_nil)))))))
theorem ok_m_law_rules {fa : Addr} {fd : FuncData} (F : Fun K "_law_rules" "_law_rules" st_m_law_rules fa fd) (T : Txt K mg) (D_m_law_take : DefAt P w K mg base 1 "_law_take" 2 KA.m_law_take) : FnOk P w K mg base (L2.CX P w) 2 fa fd ["_law_hand_here", "_law_many", "_law_kinds", "_law_most"] (spM K mg 4 KA.m_law_rules) :=
  fn_G (def_ok (k := 1) F sc_m_law_rules rfl rfl fun cdv A outer s H E hr tk hpo => by
    have hu1 := hu_of hr
    have hu64 := hr.units
    exact (s_cons (s_set (i := 4) sc_m_law_rules.nd rfl (by first | exact Or.inl rfl | exact Or.inr rfl) (e_lst a_nil))
      (s_cons (s_for hpo rfl (i_rng1 rfl T.b_range (a_cons (e_v (pv 2)) a_nil)) (g_name (pg_name (i := 5) sc_m_law_rules.nd rfl (by first | exact Or.inl rfl | exact Or.inr rfl)) hp_any)
      (s_K (s_cons (s_set (i := 6) sc_m_law_rules.nd rfl (by first | exact Or.inl rfl | exact Or.inr rfl) (e_op o_add e_int (e_call D_m_law_take (fG_len fDef_len) tk (hr.mono (by omega)) rfl (a_cons (e_v (pv 0)) (a_cons (e_v (pv 3)) a_nil)))))
      (s_cons (s_if (t_cmp (o_eq hu64) (e_call D_m_law_take (fG_len fDef_len) tk (hr.mono (by omega)) rfl (a_cons (e_v (pv 0)) (a_cons e_int a_nil))) e_int (nomark _))
      (s_one (s_set (i := 6) sc_m_law_rules.nd rfl (by first | exact Or.inl rfl | exact Or.inr rfl) e_int))
      s_nil)
      (s_one (s_expr (e_bm PySem.F.plainAttrs_list PySem.F.slot_list_append PySem.F.type_list_append m_append (e_v (pv 4)) (a_cons (e_G (e_ty c_tuple rfl T.b_tuple (by decide +kernel) (a_cons (e_lc (own := [("_law_j", 7)]) rfl sc_m_law_rules.nd (i_rng1 rfl T.b_range (a_cons (e_v (pv 6)) a_nil)) (blkOk_by (own := [("_law_j", 7)]) (N := N_m_law_rules) (sc := defScope st_m_law_rules) (by decide +kernel)) (fun _ _ _ _ _ => (g_name (pg_name (i := 7) sc_m_law_rules.nd rfl (by first | exact Or.inl rfl | exact Or.inr rfl)) (hp_wipe (by decide)))) (fun _ _ _ _ _ => ts_nil) (fun _ _ _ _ _ => (e_tup (a_cons (e_call D_m_law_take (fG_len fDef_len) takes0 (hr.mono (by omega)) rfl (a_cons (e_v (pv 0)) (a_cons (e_v (pv 1)) a_nil))) (a_cons (e_call D_m_law_take (fG_len fDef_len) takes0 (hr.mono (by omega)) rfl (a_cons (e_v (pv 0)) (a_cons (e_v (pv 2)) a_nil))) a_nil))))) a_nil))) a_nil))))))))
      (s_one (s_ret (e_ty c_tuple rfl T.b_tuple (by decide +kernel) (a_cons (e_v (pv 4)) a_nil)))))))
theorem ok_m_law_some_works {fa : Addr} {fd : FuncData} (F : Fun K "_law_some_works" "_law_some_works" st_m_law_some_works fa fd) (T : Txt K mg) (D_m_law_pick : DefAt P w K mg base 2 "_law_pick" 2 KA.m_law_pick) (D_m_law_rules : DefAt P w K mg base 2 "_law_rules" 4 KA.m_law_rules) : FnOk P w K mg base (L2.CX P w) 3 fa fd ["_law_hand_here"] (spM K mg 1 KA.m_law_some_works) :=
  fn_G (def_ok (k := 2) F sc_m_law_some_works rfl rfl fun cdv A outer s H E hr tk hpo => by
    have hu1 := hu_of hr
    have hu64 := hr.units
    exact (s_cons (s_set (i := 1) sc_m_law_some_works.nd rfl (by first | exact Or.inl rfl | exact Or.inr rfl) (e_G (e_call D_m_law_pick (fG_len fDef_len) tk (hr.mono (by omega)) rfl (a_cons (e_v (pv 0)) (a_cons (e_lst (a_cons e_int (a_cons e_int (a_cons e_int (a_cons e_int (a_cons e_int (a_cons e_int (a_cons e_int a_nil)))))))) a_nil)))))
      (s_cons (s_set (i := 2) sc_m_law_some_works.nd rfl (by first | exact Or.inl rfl | exact Or.inr rfl) (e_G (e_call D_m_law_pick (fG_len fDef_len) tk (hr.mono (by omega)) rfl (a_cons (e_v (pv 0)) (a_cons (e_lst (a_cons e_int (a_cons e_int (a_cons e_int (a_cons e_int (a_cons e_int (a_cons e_int a_nil))))))) a_nil)))))
      (s_one (s_ret (e_tup (a_cons (e_v (pv 1)) (a_cons (e_call D_m_law_rules (fG_len fDef_len) tk (hr.mono (by omega)) rfl (a_cons (e_v (pv 0)) (a_cons (e_v (pv 1)) (a_cons (e_v (pv 2)) (a_cons (e_G (e_call D_m_law_pick (fG_len fDef_len) tk (hr.mono (by omega)) rfl (a_cons (e_v (pv 0)) (a_cons (e_lst (a_cons e_int (a_cons e_int (a_cons e_int (a_cons e_int (a_cons e_int a_nil)))))) a_nil)))) a_nil))))) a_nil))))))))
theorem ok_m_is_integer {fa : Addr} {fd : FuncData} (F : Fun K "is_integer" "is_integer" st_m_is_integer fa fd) (T : Txt K mg)  : FnOk P w K mg base (L2.CX P w) 1 fa fd ["thing"] (spM K mg 1 KQ.m_is_integer) :=
  fn_G (def_ok (k := 0) F sc_m_is_integer rfl rfl fun cdv A outer s H E hr tk hpo => by
    have hu1 := hu_of hr
    have hu64 := hr.units
    exact (s_one (s_ret (e_and (e_isT rfl T.b_isinstance (e_v (pv 0)) rfl T.b_int (by decide +kernel) (by decide)) (e_one (e_not (e_isT rfl T.b_isinstance (e_v (pv 0)) rfl T.b_bool (by decide +kernel) (by decide))))))))
theorem ok_m_is_within {fa : Addr} {fd : FuncData} (F : Fun K "is_within" "is_within" st_m_is_within fa fd) (T : Txt K mg) (D_m_is_integer : DefAt P w K mg base 1 "is_integer" 1 KQ.m_is_integer) : FnOk P w K mg base (L2.CX P w) 2 fa fd ["thing", "least", "most"] (spM K mg 3 KW.m_is_within) :=
  fn_G (def_ok (k := 1) F sc_m_is_within rfl rfl fun cdv A outer s H E hr tk hpo => by
    have hu1 := hu_of hr
    have hu64 := hr.units
    exact (s_one (s_ret (e_and (e_call D_m_is_integer (fG_len fDef_len) tk (hr.mono (by omega)) rfl (a_cons (e_v (pv 0)) a_nil)) (e_one (e_chain o_le o_le (e_v (pv 1)) (e_v (pv 0)) (e_v (pv 2))))))))
theorem ok_m_is_sized {fa : Addr} {fd : FuncData} (F : Fun K "is_sized" "is_sized" st_m_is_sized fa fd) (T : Txt K mg)  : FnOk P w K mg base (L2.CX P w) 1 fa fd ["thing", "least", "most"] (spM K mg 3 KW.m_is_sized) :=
  fn_G (def_ok (k := 0) F sc_m_is_sized rfl rfl fun cdv A outer s H E hr tk hpo => by
    have hu1 := hu_of hr
    have hu64 := hr.units
    exact (s_one (s_ret (e_and (e_isT rfl T.b_isinstance (e_v (pv 0)) rfl T.b_tuple (by decide +kernel) (by decide)) (e_one (e_chain o_le o_le (e_v (pv 1)) (e_blt c_len rfl T.b_len (by decide +kernel) (a_cons (e_v (pv 0)) a_nil)) (e_v (pv 2))))))))
theorem ok_m_is_below {fa : Addr} {fd : FuncData} (F : Fun K "is_below" "is_below" st_m_is_below fa fd) (T : Txt K mg) (D_m_is_within : DefAt P w K mg base 2 "is_within" 3 KW.m_is_within) : FnOk P w K mg base (L2.CX P w) 3 fa fd ["thing", "many"] (spM K mg 2 KW.m_is_below) :=
  fn_G (def_ok (k := 2) F sc_m_is_below rfl rfl fun cdv A outer s H E hr tk hpo => by
    have hu1 := hu_of hr
    have hu64 := hr.units
    exact (s_one (s_ret (e_call D_m_is_within (fG_len fDef_len) tk (hr.mono (by omega)) rfl (a_cons (e_v (pv 0)) (a_cons e_int (a_cons (e_op o_sub (e_v (pv 1)) e_int) a_nil)))))))
theorem ok_m_is_pair {fa : Addr} {fd : FuncData} (F : Fun K "is_pair" "is_pair" st_m_is_pair fa fd) (T : Txt K mg) (D_m_is_sized : DefAt P w K mg base 1 "is_sized" 3 KW.m_is_sized) : FnOk P w K mg base (L2.CX P w) 2 fa fd ["thing"] (spM K mg 1 KW.m_is_pair) :=
  fn_G (def_ok (k := 1) F sc_m_is_pair rfl rfl fun cdv A outer s H E hr tk hpo => by
    have hu1 := hu_of hr
    have hu64 := hr.units
    exact (s_one (s_ret (e_call D_m_is_sized (fG_len fDef_len) tk (hr.mono (by omega)) rfl (a_cons (e_v (pv 0)) (a_cons e_int (a_cons e_int a_nil)))))))
theorem ok_m_is_rule {fa : Addr} {fd : FuncData} (F : Fun K "is_rule" "is_rule" st_m_is_rule fa fd) (T : Txt K mg) (D_m_is_below : DefAt P w K mg base 3 "is_below" 2 KW.m_is_below) (D_m_is_pair : DefAt P w K mg base 2 "is_pair" 1 KW.m_is_pair) (D_m_is_sized : DefAt P w K mg base 1 "is_sized" 3 KW.m_is_sized) : FnOk P w K mg base (L2.CX P w) 4 fa fd ["many", "kinds", "thing"] (spM K mg 3 KW.m_is_rule) :=
  fn_G (def_ok (k := 3) F sc_m_is_rule rfl rfl fun cdv A outer s H E hr tk hpo => by
    have hu1 := hu_of hr
    have hu64 := hr.units
    exact (s_cons (s_if (PW.pt (t_or (t_not (t_v (e_call D_m_is_sized (fG_len fDef_len) tk (hr.mono (by omega)) rfl (a_cons (e_v (pv 2)) (a_cons e_int (a_cons (e_gi T.c_MOST_SENT rfl) a_nil)))))) (t_or1 (t_not (t_v (e_G (e_blt (c_all rfl) rfl T.b_all (by decide +kernel) (a_cons (e_lc (own := [("item", 3)]) rfl sc_m_is_rule.nd (i_val (e_v (pv 2))) (blkOk_by (own := [("item", 3)]) (N := N_m_is_rule) (sc := defScope st_m_is_rule) (by decide +kernel)) (fun _ _ _ _ _ => (g_name (pg_name (i := 3) sc_m_is_rule.nd rfl (by first | exact Or.inl rfl | exact Or.inr rfl)) (hp_wipe (by decide)))) (fun _ _ _ _ _ => ts_nil) (fun _ _ _ _ _ => (e_call D_m_is_pair (fG_len fDef_len) takes0 (hr.mono (by omega)) rfl (a_cons (e_v (pv 3)) a_nil)))) a_nil))))))))
      (s_one (s_ret e_bl))
      s_nil)
      (s_one (s_ret (e_G (e_blt (c_all rfl) rfl T.b_all (by decide +kernel) (a_cons (e_lc (own := [("step", 4), ("kind", 5)]) rfl sc_m_is_rule.nd (i_val (e_v (pv 2))) (blkOk_by (own := [("step", 4), ("kind", 5)]) (N := N_m_is_rule) (sc := defScope st_m_is_rule) (by decide +kernel)) (fun _ _ _ _ _ => (g_tup (n := 2) rfl (gs_cons (g_name (pg_name (i := 4) sc_m_is_rule.nd rfl (by first | exact Or.inl rfl | exact Or.inr rfl)) (hp_wipe (by decide))) (gs_cons (g_name (pg_name (i := 5) sc_m_is_rule.nd rfl (by first | exact Or.inl rfl | exact Or.inr rfl)) (hp_wipe (by decide))) gs_nil)) (gsl_cons (gsl_cons gsl_nil gN_ne) gN_ne))) (fun _ _ _ _ _ => ts_nil) (fun _ _ _ _ _ => (e_and (e_call D_m_is_below (fG_len fDef_len) takes0 (hr.mono (by omega)) rfl (a_cons (e_v (pv 4)) (a_cons (e_v (pv 0)) a_nil))) (e_one (e_call D_m_is_below (fG_len fDef_len) takes0 (hr.mono (by omega)) rfl (a_cons (e_v (pv 5)) (a_cons (e_v (pv 1)) a_nil))))))) a_nil)))))))
theorem ok_m_Works___init__ {fa : Addr} {fd : FuncData} (F : Fun K "__init__" "Works.__init__" st_m_Works___init__ fa fd) (T : Txt K mg) (D_m_is_rule : DefAt P w K mg base 4 "is_rule" 3 KW.m_is_rule) (D_m_is_sized : DefAt P w K mg base 1 "is_sized" 3 KW.m_is_sized) (D_m_is_within : DefAt P w K mg base 2 "is_within" 3 KW.m_is_within) : FnOk P w K mg base (L2.CX P w) 5 fa fd ["self", "many", "rules"] (spM K mg 3 KW.m_Works___init__) :=
  fn_G (def_ok (k := 4) F sc_m_Works___init__ rfl rfl fun cdv A outer s H E hr tk hpo => by
    have hu1 := hu_of hr
    have hu64 := hr.units
    exact (s_cons (s_if (t_not (t_v (e_call D_m_is_within (fG_len fDef_len) tk (hr.mono (by omega)) rfl (a_cons (e_v (pv 1)) (a_cons e_int (a_cons (e_gi T.c_MOST_HOUSES rfl) a_nil))))))
      (s_one s_bad)
      s_nil)
      (s_cons (s_if (t_not (t_v (e_call D_m_is_sized (fG_len fDef_len) tk (hr.mono (by omega)) rfl (a_cons (e_v (pv 2)) (a_cons e_int (a_cons (e_gi T.c_MOST_KINDS rfl) a_nil))))))
      (s_one s_bad)
      s_nil)
      (s_cons (s_for hpo rfl (i_enumA rfl T.b_enumerate (a_cons (e_v (pv 2)) a_nil)) (g_tup (n := 2) rfl (gs_cons (g_name (pg_name (i := 3) sc_m_Works___init__.nd rfl (by first | exact Or.inl rfl | exact Or.inr rfl)) hp_any) (gs_cons (g_name (pg_name (i := 4) sc_m_Works___init__.nd rfl (by first | exact Or.inl rfl | exact Or.inr rfl)) hp_any) gs_nil)) (gsl_cons (gsl_cons gsl_nil gN_ne) gN_ne))
      (s_K (s_one (s_if (t_not (t_v (e_call D_m_is_rule (fG_len fDef_len) tk (hr.mono (by omega)) rfl (a_cons (e_v (pv 1)) (a_cons (e_blt c_len rfl T.b_len (by decide +kernel) (a_cons (e_v (pv 2)) a_nil)) (a_cons (e_v (pv 4)) a_nil))))))
      (s_one s_bad)
      s_nil))))
      (s_cons (s_fldA T.f_Works_many (e_v (pv 0)) (e_v (pv 1)))
      (s_one (s_fldA T.f_Works_rules (e_v (pv 0)) (e_v (pv 2)))))))))
theorem ok_m_law_task {fa : Addr} {fd : FuncData} (F : Fun K "_law_task" "_law_task" st_m_law_task fa fd) (T : Txt K mg) (D_m_law_take : DefAt P w K mg base 1 "_law_take" 2 KA.m_law_take) : FnOk P w K mg base (L2.CX P w) 2 fa fd ["_law_hand_here", "_law_rules_here", "_law_most"] (spM K mg 3 KA.m_law_task) :=
  fn_G (def_ok (k := 1) F sc_m_law_task rfl rfl fun cdv A outer s H E hr tk hpo => by
    have hu1 := hu_of hr
    have hu64 := hr.units
    exact (s_one (s_ret (e_tup (a_cons (e_call D_m_law_take (fG_len fDef_len) tk (hr.mono (by omega)) rfl (a_cons (e_v (pv 0)) (a_cons (e_blt c_len rfl T.b_len (by decide +kernel) (a_cons (e_v (pv 1)) a_nil)) a_nil))) (a_cons (e_call D_m_law_take (fG_len fDef_len) tk (hr.mono (by omega)) rfl (a_cons (e_v (pv 0)) (a_cons (e_op o_add (e_v (pv 2)) e_int) a_nil))) a_nil))))))
theorem ok_m_law_sent {fa : Addr} {fd : FuncData} (F : Fun K "_law_sent" "_law_sent" st_m_law_sent fa fd) (T : Txt K mg)  : FnOk P w K mg base (L2.CX P w) 1 fa fd ["_law_many", "_law_rules_here", "_law_house", "_law_task_here"] (spM K mg 4 KA.m_law_sent) :=
  fn_G (def_ok (k := 0) F sc_m_law_sent rfl rfl fun cdv A outer s H E hr tk hpo => by
    have hu1 := hu_of hr
    have hu64 := hr.units
    exact (s_cons (s_set (i := 4) sc_m_law_sent.nd rfl (by first | exact Or.inl rfl | exact Or.inr rfl) (e_lst a_nil))
      (s_cons (s_if (t_cmp o_gt (e_ix hu1 (e_v (pv 3)) e_int) e_int (nomark _))
      (s_one (s_for hpo rfl (i_val (e_ix hu1 (e_v (pv 1)) (e_ix hu1 (e_v (pv 3)) e_int))) (g_tup (n := 2) rfl (gs_cons (g_name (pg_name (i := 5) sc_m_law_sent.nd rfl (by first | exact Or.inl rfl | exact Or.inr rfl)) hp_any) (gs_cons (g_name (pg_name (i := 6) sc_m_law_sent.nd rfl (by first | exact Or.inl rfl | exact Or.inr rfl)) hp_any) gs_nil)) (gsl_cons (gsl_cons gsl_nil gN_ne) gN_ne))
      (s_K (s_one (s_expr (e_bm PySem.F.plainAttrs_list PySem.F.slot_list_append PySem.F.type_list_append m_append (e_v (pv 4)) (a_cons (e_tup (a_cons (e_op o_mod (e_ty c_int rfl T.b_int (by decide +kernel) (a_cons (e_op o_add (e_v (pv 2)) (e_v (pv 5))) a_nil)) (e_v (pv 0))) (a_cons (e_tup (a_cons (e_v (pv 6)) (a_cons (e_op o_sub (e_ix hu1 (e_v (pv 3)) e_int) e_int) a_nil))) a_nil))) a_nil)))))))
      s_nil)
      (s_one (s_ret (e_v (pv 4)))))))
theorem ok_m_law_counts {fa : Addr} {fd : FuncData} (F : Fun K "_law_counts" "_law_counts" st_m_law_counts fa fd) (T : Txt K mg) (hmf : mg "_law_counts" = some (.ref fa)) (hB : Binds K fd ["_law_many", "_law_rules_here", "_law_kept", "_law_house", "_law_task_here"] []) (D_m_law_sent : DefAt P w K mg base 1 "_law_sent" 4 KA.m_law_sent) : ∀ n : Nat, FnOk P w K mg base (L2.CX P w) (1 + n) fa fd ["_law_many", "_law_rules_here", "_law_kept", "_law_house", "_law_task_here"] (spM K mg 5 (KA.m_law_counts n)) := by
  intro n
  induction n with
  | zero => exact bad_ok rfl
  | succ fu ih =>
    have D_m_law_counts : DefAt P w K mg base (1 + fu) "_law_counts" 5 (KA.m_law_counts fu) := ⟨⟨fa, fd, _, rfl, hmf, F.kp, hB, ih⟩⟩
    rw [KA.m_law_counts_succ]
    refine fn_G (def_ok (k := 1 + fu) F sc_m_law_counts rfl rfl fun cdv A outer s H E hr tk hpo => ?_)
    have hu1 := hu_of hr
    have hu64 := hr.units
    exact (s_cons (s_set (i := 5) sc_m_law_counts.nd rfl (by first | exact Or.inl rfl | exact Or.inr rfl) (e_op o_add (e_tup (a_cons (e_v (pv 3)) a_nil)) (e_v (pv 4))))
      (s_cons (s_if (t_cmp (o_notIn hu1) (e_v (pv 5)) (e_v (pv 2)) rfl)
      (s_cons (s_set (i := 6) sc_m_law_counts.nd rfl (by first | exact Or.inl rfl | exact Or.inr rfl) (e_G (e_op o_mul (e_lst (a_cons e_int a_nil)) (e_v (pv 0)))))
      (s_cons (s_asg e_int (g_sub (e_v (pv 6)) (e_v (pv 3)) (st_set hu1)))
      (s_cons (s_for hpo rfl (i_val (e_call D_m_law_sent (fG_len fDef_len) tk (hr.mono (by omega)) rfl (a_cons (e_v (pv 0)) (a_cons (e_v (pv 1)) (a_cons (e_v (pv 3)) (a_cons (e_v (pv 4)) a_nil)))))) (g_tup (n := 2) rfl (gs_cons (g_name (pg_name (i := 7) sc_m_law_counts.nd rfl (by first | exact Or.inl rfl | exact Or.inr rfl)) hp_any) (gs_cons (g_name (pg_name (i := 8) sc_m_law_counts.nd rfl (by first | exact Or.inl rfl | exact Or.inr rfl)) hp_any) gs_nil)) (gsl_cons (gsl_cons gsl_nil gN_ne) gN_ne))
      (s_K (s_cons (s_set (i := 9) sc_m_law_counts.nd rfl (by first | exact Or.inl rfl | exact Or.inr rfl) (e_call D_m_law_counts (KA.m_law_counts_len _) tk (hr.mono (by omega)) rfl (a_cons (e_v (pv 0)) (a_cons (e_v (pv 1)) (a_cons (e_v (pv 2)) (a_cons (e_v (pv 7)) (a_cons (e_v (pv 8)) a_nil)))))))
      (s_one (s_for hpo rfl (i_rng1 rfl T.b_range (a_cons (e_v (pv 0)) a_nil)) (g_name (pg_name (i := 10) sc_m_law_counts.nd rfl (by first | exact Or.inl rfl | exact Or.inr rfl)) hp_any)
      (s_K (s_one (s_asg (e_op o_add (e_ix hu1 (e_v (pv 6)) (e_v (pv 10))) (e_ix hu1 (e_v (pv 9)) (e_v (pv 10)))) (g_sub (e_v (pv 6)) (e_v (pv 10)) (st_set hu1))))))))))
      (s_one (s_asg (e_ty c_tuple rfl T.b_tuple (by decide +kernel) (a_cons (e_v (pv 6)) a_nil)) (g_sub (e_v (pv 2)) (e_v (pv 5)) (st_set hu1)))))))
      s_nil)
      (s_one (s_ret (e_ix hu1 (e_v (pv 2)) (e_v (pv 5)))))))
theorem ok_m_law_total {fa : Addr} {fd : FuncData} (F : Fun K "_law_total" "_law_total" st_m_law_total fa fd) (T : Txt K mg) (D_m_law_counts : DefAt P w K mg base 22 "_law_counts" 5 (KA.m_law_counts 20)) : FnOk P w K mg base (L2.CX P w) 23 fa fd ["_law_many", "_law_rules_here", "_law_kept", "_law_tasks"] (spM K mg 4 KA.m_law_total) :=
  fn_G (def_ok (k := 22) F sc_m_law_total rfl rfl fun cdv A outer s H E hr tk hpo => by
    have hu1 := hu_of hr
    have hu64 := hr.units
    exact (s_one (s_ret (e_G (e_blt (c_sumA rfl) rfl T.b_sum (by decide +kernel) (a_cons (e_lc (own := [("_law_task_here", 4)]) rfl sc_m_law_total.nd (i_val (e_v (pv 3))) (blkOk_by (own := [("_law_task_here", 4)]) (N := N_m_law_total) (sc := defScope st_m_law_total) (by decide +kernel)) (fun _ _ _ _ _ => (g_name (pg_name (i := 4) sc_m_law_total.nd rfl (by first | exact Or.inl rfl | exact Or.inr rfl)) (hp_wipe (by decide)))) (fun _ _ _ _ _ => ts_nil) (fun _ _ _ _ _ => (e_blt (c_sumA rfl) rfl T.b_sum (by decide +kernel) (a_cons (e_call D_m_law_counts (KA.m_law_counts_len _) takes0 (hr.mono (by omega)) rfl (a_cons (e_v (pv 0)) (a_cons (e_v (pv 1)) (a_cons (e_v (pv 2)) (a_cons e_int (a_cons (e_v (pv 4)) a_nil)))))) a_nil)))) a_nil))))))
theorem ok_m_law_given {fa : Addr} {fd : FuncData} (F : Fun K "_law_given" "_law_given" st_m_law_given fa fd) (T : Txt K mg) (D_m_law_pick : DefAt P w K mg base 2 "_law_pick" 2 KA.m_law_pick) (D_m_law_task : DefAt P w K mg base 2 "_law_task" 3 KA.m_law_task) (D_m_law_total : DefAt P w K mg base 23 "_law_total" 4 KA.m_law_total) : FnOk P w K mg base (L2.CX P w) 24 fa fd ["_law_hand_here", "_law_many", "_law_rules_here", "_law_most"] (spM K mg 4 KA.m_law_given) :=
  fn_G (def_ok (k := 23) F sc_m_law_given rfl rfl fun cdv A outer s H E hr tk hpo => by
    have hu1 := hu_of hr
    have hu64 := hr.units
    exact (s_cons (s_set (i := 4) sc_m_law_given.nd rfl (by first | exact Or.inl rfl | exact Or.inr rfl) e_dt)
      (s_cons (s_set (i := 5) sc_m_law_given.nd rfl (by first | exact Or.inl rfl | exact Or.inr rfl) (e_lst a_nil))
      (s_cons (s_for hpo rfl (i_rng1 rfl T.b_range (a_cons (e_G (e_call D_m_law_pick (fG_len fDef_len) tk (hr.mono (by omega)) rfl (a_cons (e_v (pv 0)) (a_cons (e_lst (a_cons e_int (a_cons e_int (a_cons e_int (a_cons e_int (a_cons e_int (a_cons e_int (a_cons e_int (a_cons e_int a_nil))))))))) a_nil)))) a_nil)) (g_name (pg_name (i := 6) sc_m_law_given.nd rfl (by first | exact Or.inl rfl | exact Or.inr rfl)) hp_any)
      (s_K (s_cons (s_set (i := 7) sc_m_law_given.nd rfl (by first | exact Or.inl rfl | exact Or.inr rfl) (e_call D_m_law_task (fG_len fDef_len) tk (hr.mono (by omega)) rfl (a_cons (e_v (pv 0)) (a_cons (e_v (pv 2)) (a_cons e_int a_nil)))))
      (s_one (s_for hpo rfl (i_rng1 rfl T.b_range (a_cons (e_op o_add (e_ix hu1 (e_v (pv 7)) e_int) e_int) a_nil)) (g_name (pg_name (i := 8) sc_m_law_given.nd rfl (by first | exact Or.inl rfl | exact Or.inr rfl)) hp_any)
      (s_K (s_cons (s_set (i := 9) sc_m_law_given.nd rfl (by first | exact Or.inl rfl | exact Or.inr rfl) (e_G (e_op o_add (e_v (pv 5)) (e_lst (a_cons (e_tup (a_cons (e_ix hu1 (e_v (pv 7)) e_int) (a_cons (e_op o_sub (e_ix hu1 (e_v (pv 7)) e_int) (e_v (pv 8))) a_nil))) a_nil)))))
      (s_one (s_if (t_cmp o_le (e_call D_m_law_total (fG_len fDef_len) tk (hr.mono (by omega)) rfl (a_cons (e_v (pv 1)) (a_cons (e_v (pv 2)) (a_cons (e_v (pv 4)) (a_cons (e_v (pv 9)) a_nil))))) (e_v (pv 3)) (nomark _))
      (s_cons (s_set (i := 5) sc_m_law_given.nd rfl (by first | exact Or.inl rfl | exact Or.inr rfl) (e_v (pv 9)))
      (s_one s_brk))
      s_nil)))))))))
      (s_one (s_ret (e_ty c_tuple rfl T.b_tuple (by decide +kernel) (a_cons (e_v (pv 5)) a_nil))))))))
theorem ok_m_is_right_task {fa : Addr} {fd : FuncData} (F : Fun K "is_right_task" "is_right_task" st_m_is_right_task fa fd) (T : Txt K mg) (D_m_is_below : DefAt P w K mg base 3 "is_below" 2 KW.m_is_below) (D_m_is_pair : DefAt P w K mg base 2 "is_pair" 1 KW.m_is_pair) (D_m_is_within : DefAt P w K mg base 2 "is_within" 3 KW.m_is_within) : FnOk P w K mg base (L2.CX P w) 4 fa fd ["works", "thing"] (spM K mg 2 KW.m_is_right_task) :=
  fn_G (def_ok (k := 3) F sc_m_is_right_task rfl rfl fun cdv A outer s H E hr tk hpo => by
    have hu1 := hu_of hr
    have hu64 := hr.units
    exact (s_one (s_ret (e_and (e_call D_m_is_pair (fG_len fDef_len) tk (hr.mono (by omega)) rfl (a_cons (e_v (pv 1)) a_nil)) (e_and (e_call D_m_is_below (fG_len fDef_len) tk (hr.mono (by omega)) rfl (a_cons (e_ix hu1 (e_v (pv 1)) e_int) (a_cons (e_blt c_len rfl T.b_len (by decide +kernel) (a_cons (e_fldA T.f_Works_rules (e_v (pv 0))) a_nil)) a_nil))) (e_one (e_call D_m_is_within (fG_len fDef_len) tk (hr.mono (by omega)) rfl (a_cons (e_ix hu1 (e_v (pv 1)) e_int) (a_cons e_int (a_cons (e_gi T.c_MOST_FUEL rfl) a_nil))))))))))
theorem ok_m_are_tasks {fa : Addr} {fd : FuncData} (F : Fun K "are_tasks" "are_tasks" st_m_are_tasks fa fd) (T : Txt K mg) (D_m_is_right_task : DefAt P w K mg base 4 "is_right_task" 2 KW.m_is_right_task) : FnOk P w K mg base (L2.CX P w) 5 fa fd ["works", "thing"] (spM K mg 2 KW.m_are_tasks) :=
  fn_G (def_ok (k := 4) F sc_m_are_tasks rfl rfl fun cdv A outer s H E hr tk hpo => by
    have hu1 := hu_of hr
    have hu64 := hr.units
    exact (s_one (s_ret (e_and (e_isT rfl T.b_isinstance (e_v (pv 1)) rfl T.b_tuple (by decide +kernel) (by decide)) (e_one (e_G (e_blt (c_all rfl) rfl T.b_all (by decide +kernel) (a_cons (e_lc (own := [("task", 2)]) rfl sc_m_are_tasks.nd (i_val (e_v (pv 1))) (blkOk_by (own := [("task", 2)]) (N := N_m_are_tasks) (sc := defScope st_m_are_tasks) (by decide +kernel)) (fun _ _ _ _ _ => (g_name (pg_name (i := 2) sc_m_are_tasks.nd rfl (by first | exact Or.inl rfl | exact Or.inr rfl)) (hp_wipe (by decide)))) (fun _ _ _ _ _ => ts_nil) (fun _ _ _ _ _ => (e_call D_m_is_right_task (fG_len fDef_len) takes0 (hr.mono (by omega)) rfl (a_cons (e_v (pv 0)) (a_cons (e_v (pv 2)) a_nil))))) a_nil))))))))
theorem ok_m_check_given {fa : Addr} {fd : FuncData} (F : Fun K "check_given" "check_given" st_m_check_given fa fd) (T : Txt K mg) (D_m_are_tasks : DefAt P w K mg base 5 "are_tasks" 2 KW.m_are_tasks) : FnOk P w K mg base (L2.CX P w) 6 fa fd ["works", "thing"] (spM K mg 2 KW.m_check_given) :=
  fn_G (def_ok (k := 5) F sc_m_check_given rfl rfl fun cdv A outer s H E hr tk hpo => by
    have hu1 := hu_of hr
    have hu64 := hr.units
    exact (s_one (s_if (PW.pt (t_or (t_not (t_v (e_call D_m_are_tasks (fG_len fDef_len) tk (hr.mono (by omega)) rfl (a_cons (e_v (pv 0)) (a_cons (e_v (pv 1)) a_nil))))) (t_or1 (t_cmp o_gt (e_blt c_len rfl T.b_len (by decide +kernel) (a_cons (e_v (pv 1)) a_nil)) (e_gi T.c_MOST_GIVEN rfl) (nomark _)))))
      (s_one (s_raise0 rfl tk T.e_NoGiven rfl))
      s_nil)))
theorem ok_m_letters_of {fa : Addr} {fd : FuncData} (F : Fun K "letters_of" "letters_of" st_m_letters_of fa fd) (T : Txt K mg)  : FnOk P w K mg base (L2.CX P w) 1 fa fd ["works", "house", "task"] (spM K mg 3 KW.m_letters_of) :=
  fn_G (def_ok (k := 0) F sc_m_letters_of rfl rfl fun cdv A outer s H E hr tk hpo => by
    have hu1 := hu_of hr
    have hu64 := hr.units
    exact (s_cons (s_asg (e_v (pv 2)) (g_tup (n := 2) rfl (gs_cons (g_name (pg_name (i := 3) sc_m_letters_of.nd rfl (by first | exact Or.inl rfl | exact Or.inr rfl)) hp_any) (gs_cons (g_name (pg_name (i := 4) sc_m_letters_of.nd rfl (by first | exact Or.inl rfl | exact Or.inr rfl)) hp_any) gs_nil)) (gsl_cons (gsl_cons gsl_nil gN_ne) gN_ne)))
      (s_cons (s_if (t_cmp (o_eq hu64) (e_v (pv 4)) e_int (nomark _))
      (s_one (s_ret (e_tup a_nil)))
      s_nil)
      (s_one (s_ret (e_G (e_ty c_tuple rfl T.b_tuple (by decide +kernel) (a_cons (e_lc (own := [("step", 5), ("later", 6)]) rfl sc_m_letters_of.nd (i_val (e_ix hu1 (e_fldA T.f_Works_rules (e_v (pv 0))) (e_v (pv 3)))) (blkOk_by (own := [("step", 5), ("later", 6)]) (N := N_m_letters_of) (sc := defScope st_m_letters_of) (by decide +kernel)) (fun _ _ _ _ _ => (g_tup (n := 2) rfl (gs_cons (g_name (pg_name (i := 5) sc_m_letters_of.nd rfl (by first | exact Or.inl rfl | exact Or.inr rfl)) (hp_wipe (by decide))) (gs_cons (g_name (pg_name (i := 6) sc_m_letters_of.nd rfl (by first | exact Or.inl rfl | exact Or.inr rfl)) (hp_wipe (by decide))) gs_nil)) (gsl_cons (gsl_cons gsl_nil gN_ne) gN_ne))) (fun _ _ _ _ _ => ts_nil) (fun _ _ _ _ _ => (e_tup (a_cons (e_op o_mod (e_op o_add (e_v (pv 1)) (e_v (pv 5))) (e_fldA T.f_Works_many (e_v (pv 0)))) (a_cons (e_tup (a_cons (e_v (pv 6)) (a_cons (e_op o_sub (e_v (pv 4)) e_int) a_nil))) a_nil))))) a_nil))))))))
theorem ok_m_replaced {fa : Addr} {fd : FuncData} (F : Fun K "replaced" "replaced" st_m_replaced fa fd) (T : Txt K mg)  : FnOk P w K mg base (L2.CX P w) 1 fa fd ["items", "number", "item"] (spM K mg 3 KW.m_replaced) :=
  fn_G (def_ok (k := 0) F sc_m_replaced rfl rfl fun cdv A outer s H E hr tk hpo => by
    have hu1 := hu_of hr
    have hu64 := hr.units
    exact (s_one (s_ret (e_op o_add (e_op o_add (e_sl (e_v (pv 0)) o_no (o_some (e_v (pv 1)))) (e_tup (a_cons (e_v (pv 2)) a_nil))) (e_sl (e_v (pv 0)) (o_some (e_op o_add (e_v (pv 1)) e_int)) o_no)))))
theorem ok_m_table_of {fa : Addr} {fd : FuncData} (F : Fun K "table_of" "table_of" st_m_table_of fa fd) (T : Txt K mg) (D_m_replaced : DefAt P w K mg base 1 "replaced" 3 KW.m_replaced) : FnOk P w K mg base (L2.CX P w) 2 fa fd ["works", "fuel"] (spM K mg 2 KW.m_table_of) :=
  fn_G (def_ok (k := 1) F sc_m_table_of rfl rfl fun cdv A outer s H E hr tk hpo => by
    have hu1 := hu_of hr
    have hu64 := hr.units
    exact (s_cons (s_setLc (own := [("rule", 5)]) (i := 2) rfl sc_m_table_of.nd rfl rfl (sw_true rfl rfl rfl (by decide +kernel)) (i_val (e_fldA T.f_Works_rules (e_v (pv 0)))) (blkOk_by (own := [("rule", 5)]) (N := N_m_table_of) (sc := defScope st_m_table_of) (by decide +kernel)) (fun _ _ _ _ _ => (g_name (pg_name (i := 5) sc_m_table_of.nd rfl (by first | exact Or.inl rfl | exact Or.inr rfl)) (hp_wipe (by decide)))) (fun _ _ _ _ _ => ts_nil) (fun _ _ _ _ _ => (e_call D_m_replaced (fG_len fDef_len) takes0 (hr.mono (by omega)) rfl (a_cons (e_op o_mul (e_tup (a_cons e_int a_nil)) (e_fldA T.f_Works_many (e_v (pv 0)))) (a_cons e_int (a_cons e_int a_nil))))))
      (s_cons (s_for hpo rfl (i_rng1 rfl T.b_range (a_cons (e_v (pv 1)) a_nil)) (g_name (pg_name (i := 3) sc_m_table_of.nd rfl (by first | exact Or.inl rfl | exact Or.inr rfl)) hp_any)
      (s_K (s_cons (s_set (i := 4) sc_m_table_of.nd rfl (by first | exact Or.inl rfl | exact Or.inr rfl) (e_lst a_nil))
      (s_cons (s_for hpo rfl (i_val (e_fldA T.f_Works_rules (e_v (pv 0)))) (g_name (pg_name (i := 5) sc_m_table_of.nd rfl (by first | exact Or.inl rfl | exact Or.inr rfl)) hp_any)
      (s_G (s_K (s_cons (s_set (i := 6) sc_m_table_of.nd rfl (by first | exact Or.inl rfl | exact Or.inr rfl) (e_G (e_op o_add (e_lst (a_cons e_int a_nil)) (e_op o_mul (e_lst (a_cons e_int a_nil)) (e_op o_sub (e_fldA T.f_Works_many (e_v (pv 0))) e_int)))))
      (s_cons (s_for hpo rfl (i_val (e_v (pv 5))) (g_tup (n := 2) rfl (gs_cons (g_name (pg_name (i := 7) sc_m_table_of.nd rfl (by first | exact Or.inl rfl | exact Or.inr rfl)) hp_any) (gs_cons (g_name (pg_name (i := 8) sc_m_table_of.nd rfl (by first | exact Or.inl rfl | exact Or.inr rfl)) hp_any) gs_nil)) (gsl_cons (gsl_cons gsl_nil gN_ne) gN_ne))
      (s_K (s_one (s_for hpo rfl (i_enumA rfl T.b_enumerate (a_cons (e_ix hu1 (e_v (pv 2)) (e_v (pv 8))) a_nil)) (g_tup (n := 2) rfl (gs_cons (g_name (pg_name (i := 9) sc_m_table_of.nd rfl (by first | exact Or.inl rfl | exact Or.inr rfl)) hp_any) (gs_cons (g_name (pg_name (i := 10) sc_m_table_of.nd rfl (by first | exact Or.inl rfl | exact Or.inr rfl)) hp_any) gs_nil)) (gsl_cons (gsl_cons gsl_nil gN_ne) gN_ne))
      (s_K (s_one (s_subAug hu1 (e_v (pv 6)) (e_op o_mod (e_op o_add (e_v (pv 9)) (e_v (pv 7))) (e_fldA T.f_Works_many (e_v (pv 0)))) (e_v (pv 10)) io_addI)))))))
      (s_one (s_expr (e_bm PySem.F.plainAttrs_list PySem.F.slot_list_append PySem.F.type_list_append m_append (e_v (pv 4)) (a_cons (e_ty c_tuple rfl T.b_tuple (by decide +kernel) (a_cons (e_v (pv 6)) a_nil)) a_nil)))))))))
      (s_one (s_set (i := 2) sc_m_table_of.nd rfl (by first | exact Or.inl rfl | exact Or.inr rfl) (e_v (pv 4))))))))
      (s_one (s_ret (e_v (pv 2)))))))
theorem ok_m_many_of {fa : Addr} {fd : FuncData} (F : Fun K "many_of" "many_of" st_m_many_of fa fd) (T : Txt K mg) (D_m_table_of : DefAt P w K mg base 2 "table_of" 2 KW.m_table_of) : FnOk P w K mg base (L2.CX P w) 3 fa fd ["works", "task"] (spM K mg 2 KW.m_many_of) :=
  fn_G (def_ok (k := 2) F sc_m_many_of rfl rfl fun cdv A outer s H E hr tk hpo => by
    have hu1 := hu_of hr
    have hu64 := hr.units
    exact (s_one (s_ret (e_blt (c_sumA rfl) rfl T.b_sum (by decide +kernel) (a_cons (e_ix hu1 (e_call D_m_table_of (fG_len fDef_len) tk (hr.mono (by omega)) rfl (a_cons (e_v (pv 0)) (a_cons (e_ix hu1 (e_v (pv 1)) e_int) a_nil))) (e_ix hu1 (e_v (pv 1)) e_int)) a_nil)))))
theorem ok_m_plain_run {fa : Addr} {fd : FuncData} (F : Fun K "plain_run" "plain_run" st_m_plain_run fa fd) (T : Txt K mg) (D_m_check_given : DefAt P w K mg base 6 "check_given" 2 KW.m_check_given) (D_m_letters_of : DefAt P w K mg base 1 "letters_of" 3 KW.m_letters_of) (D_m_many_of : DefAt P w K mg base 3 "many_of" 2 KW.m_many_of) : FnOk P w K mg base (L2.CX P w) 7 fa fd ["works", "given"] (spM K mg 2 KW.m_plain_run) :=
  fn_G (def_ok (k := 6) F sc_m_plain_run rfl rfl fun cdv A outer s H E hr tk hpo => by
    have hu1 := hu_of hr
    have hu64 := hr.units
    obtain ⟨CLTooMany, FLTooMany, TLTooMany⟩ := T.low_TooMany
    exact (s_cons (s_expr (e_call D_m_check_given (fG_len fDef_len) tk (hr.mono (by omega)) rfl (a_cons (e_v (pv 0)) (a_cons (e_v (pv 1)) a_nil))))
      (s_cons (s_set (i := 2) sc_m_plain_run.nd rfl (by first | exact Or.inl rfl | exact Or.inr rfl) (e_op o_add (e_lst (a_cons (e_ty c_list rfl T.b_list (by decide +kernel) (a_cons (e_v (pv 1)) a_nil)) a_nil)) (e_lc (own := [("house", 5)]) rfl sc_m_plain_run.nd (i_rng1 rfl T.b_range (a_cons (e_op o_sub (e_fldA T.f_Works_many (e_v (pv 0))) e_int) a_nil)) (blkOk_by (own := [("house", 5)]) (N := N_m_plain_run) (sc := defScope st_m_plain_run) (by decide +kernel)) (fun _ _ _ _ _ => (g_name (pg_name (i := 5) sc_m_plain_run.nd rfl (by first | exact Or.inl rfl | exact Or.inr rfl)) (hp_wipe (by decide)))) (fun _ _ _ _ _ => ts_nil) (fun _ _ _ _ _ => (e_lst a_nil)))))
      (s_cons (s_if (t_G (t_cmp o_gt (e_blt (c_sumA rfl) rfl T.b_sum (by decide +kernel) (a_cons (e_lc (own := [("task", 6)]) rfl sc_m_plain_run.nd (i_val (e_v (pv 1))) (blkOk_by (own := [("task", 6)]) (N := N_m_plain_run) (sc := defScope st_m_plain_run) (by decide +kernel)) (fun _ _ _ _ _ => (g_name (pg_name (i := 6) sc_m_plain_run.nd rfl (by first | exact Or.inl rfl | exact Or.inr rfl)) (hp_wipe (by decide)))) (fun _ _ _ _ _ => ts_nil) (fun _ _ _ _ _ => (e_call D_m_many_of (fG_len fDef_len) takes0 (hr.mono (by omega)) rfl (a_cons (e_v (pv 0)) (a_cons (e_v (pv 6)) a_nil))))) a_nil)) (e_gi T.c_MOST_RUN rfl) (nomark _)))
      (s_one (s_raise_most (k := 1) rfl TLTooMany (hr.mono (by omega)) tk (a_cons (e_gi T.c_MOST_RUN rfl) a_nil) rfl (by decide)))
      s_nil)
      (s_cons (s_set (i := 3) sc_m_plain_run.nd rfl (by first | exact Or.inl rfl | exact Or.inr rfl) (e_lst a_nil))
      (s_cons (s_setLc (own := [("house", 5)]) (i := 4) rfl sc_m_plain_run.nd rfl rfl (sw_true rfl rfl rfl (by decide +kernel)) (i_rng1 rfl T.b_range (a_cons (e_fldA T.f_Works_many (e_v (pv 0))) a_nil)) (blkOk_by (own := [("house", 5)]) (N := N_m_plain_run) (sc := defScope st_m_plain_run) (by decide +kernel)) (fun _ _ _ _ _ => (g_name (pg_name (i := 5) sc_m_plain_run.nd rfl (by first | exact Or.inl rfl | exact Or.inr rfl)) (hp_wipe (by decide)))) (fun _ _ _ _ _ => (ts_one (t_cmp o_gt (e_blt c_len rfl T.b_len (by decide +kernel) (a_cons (e_ix hu1 (e_v (pv 2)) (e_v (pv 5))) a_nil)) e_int (nomark _)))) (fun _ _ _ _ _ => (e_v (pv 5))))
      (s_cons (s_while hpo (t_cmp o_gt (e_blt c_len rfl T.b_len (by decide +kernel) (a_cons (e_v (pv 4)) a_nil)) e_int (nomark _))
      (s_K (s_cons (s_set (i := 5) sc_m_plain_run.nd rfl (by first | exact Or.inl rfl | exact Or.inr rfl) (e_ix hu1 (e_v (pv 4)) e_int))
      (s_cons (s_set (i := 6) sc_m_plain_run.nd rfl (by first | exact Or.inl rfl | exact Or.inr rfl) (e_bm PySem.F.plainAttrs_list PySem.F.slot_list_pop PySem.F.type_list_pop m_popAt (e_ix hu1 (e_v (pv 2)) (e_v (pv 5))) (a_cons e_int a_nil)))
      (s_cons (s_expr (e_bm PySem.F.plainAttrs_list PySem.F.slot_list_append PySem.F.type_list_append m_append (e_v (pv 3)) (a_cons (e_tup (a_cons (e_v (pv 5)) (a_cons (e_v (pv 6)) a_nil))) a_nil)))
      (s_cons (s_for hpo rfl (i_val (e_call D_m_letters_of (fG_len fDef_len) tk (hr.mono (by omega)) rfl (a_cons (e_v (pv 0)) (a_cons (e_v (pv 5)) (a_cons (e_v (pv 6)) a_nil))))) (g_tup (n := 2) rfl (gs_cons (g_name (pg_name (i := 7) sc_m_plain_run.nd rfl (by first | exact Or.inl rfl | exact Or.inr rfl)) hp_any) (gs_cons (g_name (pg_name (i := 8) sc_m_plain_run.nd rfl (by first | exact Or.inl rfl | exact Or.inr rfl)) hp_any) gs_nil)) (gsl_cons (gsl_cons gsl_nil gN_ne) gN_ne))
      (s_K (s_one (s_expr (e_bm PySem.F.plainAttrs_list PySem.F.slot_list_append PySem.F.type_list_append m_append (e_ix hu1 (e_v (pv 2)) (e_v (pv 7))) (a_cons (e_v (pv 8)) a_nil))))))
      (s_one (s_setLc (own := [("house", 5)]) (i := 4) rfl sc_m_plain_run.nd rfl rfl (sw_true rfl rfl rfl (by decide +kernel)) (i_rng1 rfl T.b_range (a_cons (e_fldA T.f_Works_many (e_v (pv 0))) a_nil)) (blkOk_by (own := [("house", 5)]) (N := N_m_plain_run) (sc := defScope st_m_plain_run) (by decide +kernel)) (fun _ _ _ _ _ => (g_name (pg_name (i := 5) sc_m_plain_run.nd rfl (by first | exact Or.inl rfl | exact Or.inr rfl)) (hp_wipe (by decide)))) (fun _ _ _ _ _ => (ts_one (t_cmp o_gt (e_blt c_len rfl T.b_len (by decide +kernel) (a_cons (e_ix hu1 (e_v (pv 2)) (e_v (pv 5))) a_nil)) e_int (nomark _)))) (fun _ _ _ _ _ => (e_v (pv 5)))))))))))
      (s_one (s_ret (e_v (pv 3)))))))))))
theorem ok_m_check_house {fa : Addr} {fd : FuncData} (F : Fun K "check_house" "check_house" st_m_check_house fa fd) (T : Txt K mg) (D_m_is_below : DefAt P w K mg base 3 "is_below" 2 KW.m_is_below) : FnOk P w K mg base (L2.CX P w) 4 fa fd ["works", "thing"] (spM K mg 2 KW.m_check_house) :=
  fn_G (def_ok (k := 3) F sc_m_check_house rfl rfl fun cdv A outer s H E hr tk hpo => by
    have hu1 := hu_of hr
    have hu64 := hr.units
    exact (s_one (s_if (t_not (t_v (e_call D_m_is_below (fG_len fDef_len) tk (hr.mono (by omega)) rfl (a_cons (e_v (pv 1)) (a_cons (e_fldA T.f_Works_many (e_v (pv 0))) a_nil)))))
      (s_one (s_raise0 rfl tk T.e_NoHouse rfl))
      s_nil)))
theorem ok_m_check_task {fa : Addr} {fd : FuncData} (F : Fun K "check_task" "check_task" st_m_check_task fa fd) (T : Txt K mg) (D_m_is_right_task : DefAt P w K mg base 4 "is_right_task" 2 KW.m_is_right_task) : FnOk P w K mg base (L2.CX P w) 5 fa fd ["works", "thing"] (spM K mg 2 KW.m_check_task) :=
  fn_G (def_ok (k := 4) F sc_m_check_task rfl rfl fun cdv A outer s H E hr tk hpo => by
    have hu1 := hu_of hr
    have hu64 := hr.units
    exact (s_one (s_if (t_not (t_v (e_call D_m_is_right_task (fG_len fDef_len) tk (hr.mono (by omega)) rfl (a_cons (e_v (pv 0)) (a_cons (e_v (pv 1)) a_nil)))))
      (s_one (s_raise0 rfl tk T.e_NoTask rfl))
      s_nil)))
theorem ok_m_tasks_of {fa : Addr} {fd : FuncData} (F : Fun K "tasks_of" "tasks_of" st_m_tasks_of fa fd) (T : Txt K mg) (D_m_check_house : DefAt P w K mg base 4 "check_house" 2 KW.m_check_house) (D_m_check_task : DefAt P w K mg base 5 "check_task" 2 KW.m_check_task) (D_m_table_of : DefAt P w K mg base 2 "table_of" 2 KW.m_table_of) : FnOk P w K mg base (L2.CX P w) 6 fa fd ["works", "house", "task"] (spM K mg 3 KW.m_tasks_of) :=
  fn_G (def_ok (k := 5) F sc_m_tasks_of rfl rfl fun cdv A outer s H E hr tk hpo => by
    have hu1 := hu_of hr
    have hu64 := hr.units
    exact (s_cons (s_expr (e_call D_m_check_house (fG_len fDef_len) tk (hr.mono (by omega)) rfl (a_cons (e_v (pv 0)) (a_cons (e_v (pv 1)) a_nil))))
      (s_cons (s_expr (e_call D_m_check_task (fG_len fDef_len) tk (hr.mono (by omega)) rfl (a_cons (e_v (pv 0)) (a_cons (e_v (pv 2)) a_nil))))
      (s_cons (s_set (i := 3) sc_m_tasks_of.nd rfl (by first | exact Or.inl rfl | exact Or.inr rfl) (e_ix hu1 (e_call D_m_table_of (fG_len fDef_len) tk (hr.mono (by omega)) rfl (a_cons (e_v (pv 0)) (a_cons (e_ix hu1 (e_v (pv 2)) e_int) a_nil))) (e_ix hu1 (e_v (pv 2)) e_int)))
      (s_one (s_ret (e_G (e_ty c_tuple rfl T.b_tuple (by decide +kernel) (a_cons (e_lc (own := [("other", 4)]) rfl sc_m_tasks_of.nd (i_rng1 rfl T.b_range (a_cons (e_fldA T.f_Works_many (e_v (pv 0))) a_nil)) (blkOk_by (own := [("other", 4)]) (N := N_m_tasks_of) (sc := defScope st_m_tasks_of) (by decide +kernel)) (fun _ _ _ _ _ => (g_name (pg_name (i := 4) sc_m_tasks_of.nd rfl (by first | exact Or.inl rfl | exact Or.inr rfl)) (hp_wipe (by decide)))) (fun _ _ _ _ _ => ts_nil) (fun _ _ _ _ _ => (e_ix hu1 (e_v (pv 3)) (e_op o_mod (e_op o_sub (e_v (pv 4)) (e_v (pv 1))) (e_fldA T.f_Works_many (e_v (pv 0))))))) a_nil)))))))))
theorem ok_m_begun {fa : Addr} {fd : FuncData} (F : Fun K "begun" "begun" st_m_begun fa fd) (T : Txt K mg)  : FnOk P w K mg base (L2.CX P w) 1 fa fd ["works", "given"] (spM K mg 2 KW.m_begun) :=
  fn_G (def_ok (k := 0) F sc_m_begun rfl rfl fun cdv A outer s H E hr tk hpo => by
    have hu1 := hu_of hr
    have hu64 := hr.units
    exact (s_one (s_ret (e_tup (a_cons (e_op o_add (e_tup (a_cons (e_v (pv 1)) a_nil)) (e_op o_mul (e_tup (a_cons (e_tup a_nil) a_nil)) (e_op o_sub (e_fldA T.f_Works_many (e_v (pv 0))) e_int))) (a_cons (e_tup a_nil) a_nil))))))
theorem ok_m_first_standing {fa : Addr} {fd : FuncData} (F : Fun K "first_standing" "first_standing" st_m_first_standing fa fd) (T : Txt K mg) (D_m_begun : DefAt P w K mg base 1 "begun" 2 KW.m_begun) (D_m_check_given : DefAt P w K mg base 6 "check_given" 2 KW.m_check_given) : FnOk P w K mg base (L2.CX P w) 7 fa fd ["works", "given"] (spM K mg 2 KW.m_first_standing) :=
  fn_G (def_ok (k := 6) F sc_m_first_standing rfl rfl fun cdv A outer s H E hr tk hpo => by
    have hu1 := hu_of hr
    have hu64 := hr.units
    exact (s_cons (s_expr (e_call D_m_check_given (fG_len fDef_len) tk (hr.mono (by omega)) rfl (a_cons (e_v (pv 0)) (a_cons (e_v (pv 1)) a_nil))))
      (s_one (s_ret (e_call D_m_begun (fG_len fDef_len) tk (hr.mono (by omega)) rfl (a_cons (e_v (pv 0)) (a_cons (e_v (pv 1)) a_nil)))))))
theorem ok_m_is_way {fa : Addr} {fd : FuncData} (F : Fun K "is_way" "is_way" st_m_is_way fa fd) (T : Txt K mg) (D_m_are_tasks : DefAt P w K mg base 5 "are_tasks" 2 KW.m_are_tasks) (D_m_is_below : DefAt P w K mg base 3 "is_below" 2 KW.m_is_below) (D_m_is_sized : DefAt P w K mg base 1 "is_sized" 3 KW.m_is_sized) : FnOk P w K mg base (L2.CX P w) 6 fa fd ["works", "thing"] (spM K mg 2 KW.m_is_way) :=
  fn_G (def_ok (k := 5) F sc_m_is_way rfl rfl fun cdv A outer s H E hr tk hpo => by
    have hu1 := hu_of hr
    have hu64 := hr.units
    exact (s_cons (s_if (PW.pt (t_or (t_not (t_v (e_call D_m_is_sized (fG_len fDef_len) tk (hr.mono (by omega)) rfl (a_cons (e_v (pv 1)) (a_cons e_int (a_cons e_int a_nil)))))) (t_or (t_not (t_v (e_call D_m_is_below (fG_len fDef_len) tk (hr.mono (by omega)) rfl (a_cons (e_ix hu1 (e_v (pv 1)) e_int) (a_cons (e_fldA T.f_Works_many (e_v (pv 0))) a_nil))))) (t_or1 (t_not (t_v (e_call D_m_is_below (fG_len fDef_len) tk (hr.mono (by omega)) rfl (a_cons (e_ix hu1 (e_v (pv 1)) e_int) (a_cons (e_fldA T.f_Works_many (e_v (pv 0))) a_nil)))))))))
      (s_one (s_ret e_bl))
      s_nil)
      (s_one (s_ret (e_and (e_call D_m_are_tasks (fG_len fDef_len) tk (hr.mono (by omega)) rfl (a_cons (e_v (pv 0)) (a_cons (e_ix hu1 (e_v (pv 1)) e_int) a_nil))) (e_one (e_cmp o_gt (e_blt c_len rfl T.b_len (by decide +kernel) (a_cons (e_ix hu1 (e_v (pv 1)) e_int) a_nil)) e_int (nomark _))))))))
theorem ok_m_is_right_standing {fa : Addr} {fd : FuncData} (F : Fun K "is_right_standing" "is_right_standing" st_m_is_right_standing fa fd) (T : Txt K mg) (D_m_are_tasks : DefAt P w K mg base 5 "are_tasks" 2 KW.m_are_tasks) (D_m_is_pair : DefAt P w K mg base 2 "is_pair" 1 KW.m_is_pair) (D_m_is_sized : DefAt P w K mg base 1 "is_sized" 3 KW.m_is_sized) (D_m_is_way : DefAt P w K mg base 6 "is_way" 2 KW.m_is_way) : FnOk P w K mg base (L2.CX P w) 7 fa fd ["works", "thing"] (spM K mg 2 KW.m_is_right_standing) :=
  fn_G (def_ok (k := 6) F sc_m_is_right_standing rfl rfl fun cdv A outer s H E hr tk hpo => by
    have hu1 := hu_of hr
    have hu64 := hr.units
    exact (s_cons (s_if (PW.pt (t_or (t_not (t_v (e_call D_m_is_pair (fG_len fDef_len) tk (hr.mono (by omega)) rfl (a_cons (e_v (pv 1)) a_nil)))) (t_or (t_not (t_v (e_call D_m_is_sized (fG_len fDef_len) tk (hr.mono (by omega)) rfl (a_cons (e_ix hu1 (e_v (pv 1)) e_int) (a_cons (e_fldA T.f_Works_many (e_v (pv 0))) (a_cons (e_fldA T.f_Works_many (e_v (pv 0))) a_nil)))))) (t_or1 (t_not (t_v (e_isT rfl T.b_isinstance (e_ix hu1 (e_v (pv 1)) e_int) rfl T.b_tuple (by decide +kernel) (by decide))))))))
      (s_one (s_ret e_bl))
      s_nil)
      (s_cons (s_if (PW.pt (t_or (t_not (t_v (e_G (e_blt (c_all rfl) rfl T.b_all (by decide +kernel) (a_cons (e_lc (own := [("bag", 3)]) rfl sc_m_is_right_standing.nd (i_val (e_ix hu1 (e_v (pv 1)) e_int)) (blkOk_by (own := [("bag", 3)]) (N := N_m_is_right_standing) (sc := defScope st_m_is_right_standing) (by decide +kernel)) (fun _ _ _ _ _ => (g_name (pg_name (i := 3) sc_m_is_right_standing.nd rfl (by first | exact Or.inl rfl | exact Or.inr rfl)) (hp_wipe (by decide)))) (fun _ _ _ _ _ => ts_nil) (fun _ _ _ _ _ => (e_call D_m_are_tasks (fG_len fDef_len) takes0 (hr.mono (by omega)) rfl (a_cons (e_v (pv 0)) (a_cons (e_v (pv 3)) a_nil))))) a_nil))))) (t_or1 (t_not (t_v (e_G (e_blt (c_all rfl) rfl T.b_all (by decide +kernel) (a_cons (e_lc (own := [("way", 4)]) rfl sc_m_is_right_standing.nd (i_val (e_ix hu1 (e_v (pv 1)) e_int)) (blkOk_by (own := [("way", 4)]) (N := N_m_is_right_standing) (sc := defScope st_m_is_right_standing) (by decide +kernel)) (fun _ _ _ _ _ => (g_name (pg_name (i := 4) sc_m_is_right_standing.nd rfl (by first | exact Or.inl rfl | exact Or.inr rfl)) (hp_wipe (by decide)))) (fun _ _ _ _ _ => ts_nil) (fun _ _ _ _ _ => (e_call D_m_is_way (fG_len fDef_len) takes0 (hr.mono (by omega)) rfl (a_cons (e_v (pv 0)) (a_cons (e_v (pv 4)) a_nil))))) a_nil))))))))
      (s_one (s_ret e_bl))
      s_nil)
      (s_cons (s_setLc (own := [("way", 4)]) (i := 2) rfl sc_m_is_right_standing.nd rfl rfl (sw_true rfl rfl rfl (by decide +kernel)) (i_val (e_ix hu1 (e_v (pv 1)) e_int)) (blkOk_by (own := [("way", 4)]) (N := N_m_is_right_standing) (sc := defScope st_m_is_right_standing) (by decide +kernel)) (fun _ _ _ _ _ => (g_name (pg_name (i := 4) sc_m_is_right_standing.nd rfl (by first | exact Or.inl rfl | exact Or.inr rfl)) (hp_wipe (by decide)))) (fun _ _ _ _ _ => ts_nil) (fun _ _ _ _ _ => (e_sl (e_v (pv 4)) o_no (o_some e_int))))
      (s_one (s_ret (e_G (e_blt (c_all rfl) rfl T.b_all (by decide +kernel) (a_cons (e_lc (own := [("one", 5), ("other", 6)]) rfl sc_m_is_right_standing.nd (i_zip rfl T.b_zip (a_cons (e_v (pv 2)) (a_cons (e_sl (e_v (pv 2)) (o_some e_int) o_no) a_nil))) (blkOk_by (own := [("one", 5), ("other", 6)]) (N := N_m_is_right_standing) (sc := defScope st_m_is_right_standing) (by decide +kernel)) (fun _ _ _ _ _ => (g_tup (n := 2) rfl (gs_cons (g_name (pg_name (i := 5) sc_m_is_right_standing.nd rfl (by first | exact Or.inl rfl | exact Or.inr rfl)) (hp_wipe (by decide))) (gs_cons (g_name (pg_name (i := 6) sc_m_is_right_standing.nd rfl (by first | exact Or.inl rfl | exact Or.inr rfl)) (hp_wipe (by decide))) gs_nil)) (gsl_cons (gsl_cons gsl_nil gN_ne) gN_ne))) (fun _ _ _ _ _ => ts_nil) (fun _ _ _ _ _ => (e_cmp (o_ltTup (Nat.lt_of_succ_lt hu1)) (e_v (pv 5)) (e_v (pv 6)) (nomark _)))) a_nil)))))))))
theorem ok_m_check_standing {fa : Addr} {fd : FuncData} (F : Fun K "check_standing" "check_standing" st_m_check_standing fa fd) (T : Txt K mg) (D_m_is_right_standing : DefAt P w K mg base 7 "is_right_standing" 2 KW.m_is_right_standing) : FnOk P w K mg base (L2.CX P w) 8 fa fd ["works", "thing"] (spM K mg 2 KW.m_check_standing) :=
  fn_G (def_ok (k := 7) F sc_m_check_standing rfl rfl fun cdv A outer s H E hr tk hpo => by
    have hu1 := hu_of hr
    have hu64 := hr.units
    exact (s_one (s_if (t_not (t_v (e_call D_m_is_right_standing (fG_len fDef_len) tk (hr.mono (by omega)) rfl (a_cons (e_v (pv 0)) (a_cons (e_v (pv 1)) a_nil)))))
      (s_one (s_raise0 rfl tk T.e_NoStanding rfl))
      s_nil)))
theorem ok_m_still_to_do {fa : Addr} {fd : FuncData} (F : Fun K "still_to_do" "still_to_do" st_m_still_to_do fa fd) (T : Txt K mg) (D_m_check_standing : DefAt P w K mg base 8 "check_standing" 2 KW.m_check_standing) (D_m_many_of : DefAt P w K mg base 3 "many_of" 2 KW.m_many_of) : FnOk P w K mg base (L2.CX P w) 9 fa fd ["works", "standing"] (spM K mg 2 KW.m_still_to_do) :=
  fn_G (def_ok (k := 8) F sc_m_still_to_do rfl rfl fun cdv A outer s H E hr tk hpo => by
    have hu1 := hu_of hr
    have hu64 := hr.units
    exact (s_cons (s_expr (e_call D_m_check_standing (fG_len fDef_len) tk (hr.mono (by omega)) rfl (a_cons (e_v (pv 0)) (a_cons (e_v (pv 1)) a_nil))))
      (s_cons (s_set (i := 2) sc_m_still_to_do.nd rfl (by first | exact Or.inl rfl | exact Or.inr rfl) (e_G (e_op o_add (e_ty c_list rfl T.b_list (by decide +kernel) (a_cons (e_ix hu1 (e_v (pv 1)) e_int) a_nil)) (e_lc (own := [("way", 3)]) rfl sc_m_still_to_do.nd (i_val (e_ix hu1 (e_v (pv 1)) e_int)) (blkOk_by (own := [("way", 3)]) (N := N_m_still_to_do) (sc := defScope st_m_still_to_do) (by decide +kernel)) (fun _ _ _ _ _ => (g_name (pg_name (i := 3) sc_m_still_to_do.nd rfl (by first | exact Or.inl rfl | exact Or.inr rfl)) (hp_wipe (by decide)))) (fun _ _ _ _ _ => ts_nil) (fun _ _ _ _ _ => (e_ix hu1 (e_v (pv 3)) e_int))))))
      (s_one (s_ret (e_G (e_blt (c_sumA rfl) rfl T.b_sum (by decide +kernel) (a_cons (e_lc (own := [("tasks", 4)]) rfl sc_m_still_to_do.nd (i_val (e_v (pv 2))) (blkOk_by (own := [("tasks", 4)]) (N := N_m_still_to_do) (sc := defScope st_m_still_to_do) (by decide +kernel)) (fun _ _ _ _ _ => (g_name (pg_name (i := 4) sc_m_still_to_do.nd rfl (by first | exact Or.inl rfl | exact Or.inr rfl)) (hp_wipe (by decide)))) (fun _ _ _ _ _ => ts_nil) (fun _ _ _ _ _ => (e_G (e_blt (c_sumA rfl) rfl T.b_sum (by decide +kernel) (a_cons (e_lc (own := [("task", 5)]) rfl sc_m_still_to_do.nd (i_val (e_v (pv 4))) (blk_in (N := N_m_still_to_do) rfl rfl (by decide +kernel)) (fun _ _ _ _ _ => (g_name (pg_name (i := 5) sc_m_still_to_do.nd rfl (by first | exact Or.inl rfl | exact Or.inr rfl)) (hp_wipe (by decide)))) (fun _ _ _ _ _ => ts_nil) (fun _ _ _ _ _ => (e_call D_m_many_of (fG_len fDef_len) takes0 (hr.mono (by omega)) rfl (a_cons (e_v (pv 0)) (a_cons (e_v (pv 5)) a_nil))))) a_nil))))) a_nil))))))))
theorem ok_m_law_choices {fa : Addr} {fd : FuncData} (F : Fun K "_law_choices" "_law_choices" st_m_law_choices fa fd) (T : Txt K mg)  : FnOk P w K mg base (L2.CX P w) 1 fa fd ["_law_model_here"] (spM K mg 1 m_law_choices) :=
  fn_G (def_ok (k := 0) F sc_m_law_choices rfl rfl fun cdv A outer s H E hr tk hpo => by
    have hu1 := hu_of hr
    have hu64 := hr.units
    exact (s_cons (s_asg (e_v (pv 0)) (g_tup (n := 2) rfl (gs_cons (g_name (pg_name (i := 1) sc_m_law_choices.nd rfl (by first | exact Or.inl rfl | exact Or.inr rfl)) hp_any) (gs_cons (g_name (pg_name (i := 2) sc_m_law_choices.nd rfl (by first | exact Or.inl rfl | exact Or.inr rfl)) hp_any) gs_nil)) (gsl_cons (gsl_cons gsl_nil gN_ne) gN_ne)))
      (s_cons (s_setLc (own := [("_law_house", 4)]) (i := 3) rfl sc_m_law_choices.nd rfl rfl (sw_true rfl rfl rfl (by decide +kernel)) (i_rng1 rfl T.b_range (a_cons (e_blt c_len rfl T.b_len (by decide +kernel) (a_cons (e_v (pv 1)) a_nil)) a_nil)) (blkOk_by (own := [("_law_house", 4)]) (N := N_m_law_choices) (sc := defScope st_m_law_choices) (by decide +kernel)) (fun _ _ _ _ _ => (g_name (pg_name (i := 4) sc_m_law_choices.nd rfl (by first | exact Or.inl rfl | exact Or.inr rfl)) (hp_wipe (by decide)))) (fun _ _ _ _ _ => (ts_one (t_cmp o_gt (e_blt c_len rfl T.b_len (by decide +kernel) (a_cons (e_ix hu1 (e_v (pv 1)) (e_v (pv 4))) a_nil)) e_int (nomark _)))) (fun _ _ _ _ _ => (e_tup (a_cons e_str (a_cons (e_v (pv 4)) a_nil)))))
      (s_one (s_ret (e_G (e_op o_add (e_v (pv 3)) (e_lc (own := [("_law_ends", 5)]) rfl sc_m_law_choices.nd (i_val (e_blt c_sortW rfl T.b_sorted (by decide +kernel) (a_cons (e_keysL rfl rfl T.b_list (by decide +kernel) (e_v (pv 2))) a_nil))) (blkOk_by (own := [("_law_ends", 5)]) (N := N_m_law_choices) (sc := defScope st_m_law_choices) (by decide +kernel)) (fun _ _ _ _ _ => (g_name (pg_name (i := 5) sc_m_law_choices.nd rfl (by first | exact Or.inl rfl | exact Or.inr rfl)) (hp_wipe (by decide)))) (fun _ _ _ _ _ => (ts_one (t_cmp o_gt (e_blt c_len rfl T.b_len (by decide +kernel) (a_cons (e_ix hu1 (e_v (pv 2)) (e_v (pv 5))) a_nil)) e_int (nomark _)))) (fun _ _ _ _ _ => (e_tup (a_cons e_str (a_cons (e_ix hu1 (e_v (pv 5)) e_int) (a_cons (e_ix hu1 (e_v (pv 5)) e_int) a_nil)))))))))))))
theorem ok_m_law_model {fa : Addr} {fd : FuncData} (F : Fun K "_law_model" "_law_model" st_m_law_model fa fd) (T : Txt K mg)  : FnOk P w K mg base (L2.CX P w) 1 fa fd ["_law_standing"] (spM K mg 1 m_law_model) :=
  (def_ok (k := 0) F sc_m_law_model rfl rfl fun cdv A outer s H E hr tk hpo => by
    have hu1 := hu_of hr
    have hu64 := hr.units
    exact (s_cons (s_setLc (own := [("_law_bag", 6)]) (i := 1) rfl sc_m_law_model.nd rfl rfl (sw_true rfl rfl rfl (by decide +kernel)) (i_val (e_ix hu1 (e_v (pv 0)) e_int)) (blkOk_by (own := [("_law_bag", 6)]) (N := N_m_law_model) (sc := defScope st_m_law_model) (by decide +kernel)) (fun _ _ _ _ _ => (g_name (pg_name (i := 6) sc_m_law_model.nd rfl (by first | exact Or.inl rfl | exact Or.inr rfl)) (hp_wipe (by decide)))) (fun _ _ _ _ _ => ts_nil) (fun _ _ _ _ _ => (e_ty c_list rfl T.b_list (by decide +kernel) (a_cons (e_v (pv 6)) a_nil))))
      (s_cons (s_set (i := 2) sc_m_law_model.nd rfl (by first | exact Or.inl rfl | exact Or.inr rfl) e_dt)
      (s_cons (s_for hpo rfl (i_val (e_ix hu1 (e_v (pv 0)) e_int)) (g_tup (n := 3) rfl (gs_cons (g_name (pg_name (i := 3) sc_m_law_model.nd rfl (by first | exact Or.inl rfl | exact Or.inr rfl)) hp_any) (gs_cons (g_name (pg_name (i := 4) sc_m_law_model.nd rfl (by first | exact Or.inl rfl | exact Or.inr rfl)) hp_any) (gs_cons (g_name (pg_name (i := 5) sc_m_law_model.nd rfl (by first | exact Or.inl rfl | exact Or.inr rfl)) hp_any) gs_nil))) (gsl_cons (gsl_cons (gsl_cons gsl_nil gN_ne) gN_ne) gN_ne))
      (s_K (s_one (s_asg (e_ty c_list rfl T.b_list (by decide +kernel) (a_cons (e_v (pv 5)) a_nil)) (g_sub (e_v (pv 2)) (e_tup (a_cons (e_v (pv 3)) (a_cons (e_v (pv 4)) a_nil))) (st_set hu1))))))
      (s_one (s_ret (e_tup (a_cons (e_v (pv 1)) (a_cons (e_v (pv 2)) a_nil)))))))))
theorem ok_m_with_way {fa : Addr} {fd : FuncData} (F : Fun K "with_way" "with_way" st_m_with_way fa fd) (T : Txt K mg)  : FnOk P w K mg base (L2.CX P w) 1 fa fd ["ways", "ends", "tasks"] (spM K mg 3 KW.m_with_way) :=
  fn_G (def_ok (k := 0) F sc_m_with_way rfl rfl fun cdv A outer s H E hr tk hpo => by
    have hu1 := hu_of hr
    have hu64 := hr.units
    exact (s_cons (s_setLc (own := [("way", 4)]) (i := 3) rfl sc_m_with_way.nd rfl rfl (sw_true rfl rfl rfl (by decide +kernel)) (i_val (e_v (pv 0))) (blkOk_by (own := [("way", 4)]) (N := N_m_with_way) (sc := defScope st_m_with_way) (by decide +kernel)) (fun _ _ _ _ _ => (g_name (pg_name (i := 4) sc_m_with_way.nd rfl (by first | exact Or.inl rfl | exact Or.inr rfl)) (hp_wipe (by decide)))) (fun _ _ _ _ _ => (ts_one (t_cmp (o_ne hu64) (e_sl (e_v (pv 4)) o_no (o_some e_int)) (e_v (pv 1)) (nomark _)))) (fun _ _ _ _ _ => (e_v (pv 4))))
      (s_cons (s_if (t_cmp o_gt (e_blt c_len rfl T.b_len (by decide +kernel) (a_cons (e_v (pv 2)) a_nil)) e_int (nomark _))
      (s_one (s_expr (e_bm PySem.F.plainAttrs_list PySem.F.slot_list_append PySem.F.type_list_append m_append (e_v (pv 3)) (a_cons (e_op o_add (e_v (pv 1)) (e_tup (a_cons (e_v (pv 2)) a_nil))) a_nil))))
      s_nil)
      (s_one (s_ret (e_G (e_ty c_tuple rfl T.b_tuple (by decide +kernel) (a_cons (e_blt c_sortW rfl T.b_sorted (by decide +kernel) (a_cons (e_v (pv 3)) a_nil)) a_nil))))))))
theorem ok_m_on_way {fa : Addr} {fd : FuncData} (F : Fun K "on_way" "on_way" st_m_on_way fa fd) (T : Txt K mg)  : FnOk P w K mg base (L2.CX P w) 1 fa fd ["ways", "ends"] (spM K mg 2 KW.m_on_way) :=
  fn_G (def_ok (k := 0) F sc_m_on_way rfl rfl fun cdv A outer s H E hr tk hpo => by
    have hu1 := hu_of hr
    have hu64 := hr.units
    exact (s_cons (s_setLc (own := [("sender", 3), ("to", 4), ("tasks", 5)]) (i := 2) rfl sc_m_on_way.nd rfl rfl (sw_true rfl rfl rfl (by decide +kernel)) (i_val (e_v (pv 0))) (blkOk_by (own := [("sender", 3), ("to", 4), ("tasks", 5)]) (N := N_m_on_way) (sc := defScope st_m_on_way) (by decide +kernel)) (fun _ _ _ _ _ => (g_tup (n := 3) rfl (gs_cons (g_name (pg_name (i := 3) sc_m_on_way.nd rfl (by first | exact Or.inl rfl | exact Or.inr rfl)) (hp_wipe (by decide))) (gs_cons (g_name (pg_name (i := 4) sc_m_on_way.nd rfl (by first | exact Or.inl rfl | exact Or.inr rfl)) (hp_wipe (by decide))) (gs_cons (g_name (pg_name (i := 5) sc_m_on_way.nd rfl (by first | exact Or.inl rfl | exact Or.inr rfl)) (hp_wipe (by decide))) gs_nil))) (gsl_cons (gsl_cons (gsl_cons gsl_nil gN_ne) gN_ne) gN_ne))) (fun _ _ _ _ _ => (ts_one (t_cmp (o_eq hu64) (e_tup (a_cons (e_v (pv 3)) (a_cons (e_v (pv 4)) a_nil))) (e_v (pv 1)) (nomark _)))) (fun _ _ _ _ _ => (e_v (pv 5))))
      (s_one (s_ret (e_if (t_cmp o_gt (e_blt c_len rfl T.b_len (by decide +kernel) (a_cons (e_v (pv 2)) a_nil)) e_int (nomark _)) (e_ix hu1 (e_v (pv 2)) e_int) (e_tup a_nil))))))
theorem ok_m_after_do {fa : Addr} {fd : FuncData} (F : Fun K "after_do" "after_do" st_m_after_do fa fd) (T : Txt K mg) (D_m_letters_of : DefAt P w K mg base 1 "letters_of" 3 KW.m_letters_of) (D_m_on_way : DefAt P w K mg base 1 "on_way" 2 KW.m_on_way) (D_m_replaced : DefAt P w K mg base 1 "replaced" 3 KW.m_replaced) (D_m_with_way : DefAt P w K mg base 1 "with_way" 3 KW.m_with_way) : FnOk P w K mg base (L2.CX P w) 2 fa fd ["works", "standing", "house"] (spM K mg 3 KW.m_after_do) :=
  fn_G (def_ok (k := 1) F sc_m_after_do rfl rfl fun cdv A outer s H E hr tk hpo => by
    have hu1 := hu_of hr
    have hu64 := hr.units
    exact (s_cons (s_asg (e_v (pv 1)) (g_tup (n := 2) rfl (gs_cons (g_name (pg_name (i := 3) sc_m_after_do.nd rfl (by first | exact Or.inl rfl | exact Or.inr rfl)) hp_any) (gs_cons (g_name (pg_name (i := 4) sc_m_after_do.nd rfl (by first | exact Or.inl rfl | exact Or.inr rfl)) hp_any) gs_nil)) (gsl_cons (gsl_cons gsl_nil gN_ne) gN_ne)))
      (s_cons (s_if (t_cmp (o_eq hu64) (e_blt c_len rfl T.b_len (by decide +kernel) (a_cons (e_ix hu1 (e_v (pv 3)) (e_v (pv 2))) a_nil)) e_int (nomark _))
      (s_one (s_ret e_non))
      s_nil)
      (s_cons (s_for hpo rfl (i_val (e_call D_m_letters_of (fG_len fDef_len) tk (hr.mono (by omega)) rfl (a_cons (e_v (pv 0)) (a_cons (e_v (pv 2)) (a_cons (e_ix hu1 (e_ix hu1 (e_v (pv 3)) (e_v (pv 2))) e_int) a_nil))))) (g_tup (n := 2) rfl (gs_cons (g_name (pg_name (i := 5) sc_m_after_do.nd rfl (by first | exact Or.inl rfl | exact Or.inr rfl)) hp_any) (gs_cons (g_name (pg_name (i := 6) sc_m_after_do.nd rfl (by first | exact Or.inl rfl | exact Or.inr rfl)) hp_any) gs_nil)) (gsl_cons (gsl_cons gsl_nil gN_ne) gN_ne))
      (s_K (s_cons (s_set (i := 7) sc_m_after_do.nd rfl (by first | exact Or.inl rfl | exact Or.inr rfl) (e_tup (a_cons (e_v (pv 2)) (a_cons (e_v (pv 5)) a_nil))))
      (s_one (s_set (i := 4) sc_m_after_do.nd rfl (by first | exact Or.inl rfl | exact Or.inr rfl) (e_call D_m_with_way (fG_len fDef_len) tk (hr.mono (by omega)) rfl (a_cons (e_v (pv 4)) (a_cons (e_v (pv 7)) (a_cons (e_op o_add (e_call D_m_on_way (fG_len fDef_len) tk (hr.mono (by omega)) rfl (a_cons (e_v (pv 4)) (a_cons (e_v (pv 7)) a_nil))) (e_tup (a_cons (e_v (pv 6)) a_nil))) a_nil)))))))))
      (s_one (s_ret (e_tup (a_cons (e_call D_m_replaced (fG_len fDef_len) tk (hr.mono (by omega)) rfl (a_cons (e_v (pv 3)) (a_cons (e_v (pv 2)) (a_cons (e_sl (e_ix hu1 (e_v (pv 3)) (e_v (pv 2))) (o_some e_int) o_no) a_nil)))) (a_cons (e_v (pv 4)) a_nil)))))))))
theorem ok_m_done_by {fa : Addr} {fd : FuncData} (F : Fun K "done_by" "done_by" st_m_done_by fa fd) (T : Txt K mg) (D_m_after_do : DefAt P w K mg base 2 "after_do" 3 KW.m_after_do) (D_m_check_house : DefAt P w K mg base 4 "check_house" 2 KW.m_check_house) (D_m_check_standing : DefAt P w K mg base 8 "check_standing" 2 KW.m_check_standing) : FnOk P w K mg base (L2.CX P w) 9 fa fd ["works", "standing", "house"] (spM K mg 3 KW.m_done_by) :=
  fn_G (def_ok (k := 8) F sc_m_done_by rfl rfl fun cdv A outer s H E hr tk hpo => by
    have hu1 := hu_of hr
    have hu64 := hr.units
    exact (s_cons (s_expr (e_call D_m_check_standing (fG_len fDef_len) tk (hr.mono (by omega)) rfl (a_cons (e_v (pv 0)) (a_cons (e_v (pv 1)) a_nil))))
      (s_cons (s_expr (e_call D_m_check_house (fG_len fDef_len) tk (hr.mono (by omega)) rfl (a_cons (e_v (pv 0)) (a_cons (e_v (pv 2)) a_nil))))
      (s_cons (s_set (i := 3) sc_m_done_by.nd rfl (by first | exact Or.inl rfl | exact Or.inr rfl) (e_call D_m_after_do (fG_len fDef_len) tk (hr.mono (by omega)) rfl (a_cons (e_v (pv 0)) (a_cons (e_v (pv 1)) (a_cons (e_v (pv 2)) a_nil)))))
      (s_cons (s_if (t_cmp o_is (e_v (pv 3)) e_non (nomark _))
      (s_one (s_raise0 rfl tk T.e_NothingThere rfl))
      s_nil)
      (s_one (s_ret (e_v (pv 3)))))))))
theorem ok_m_after_hear {fa : Addr} {fd : FuncData} (F : Fun K "after_hear" "after_hear" st_m_after_hear fa fd) (T : Txt K mg) (D_m_on_way : DefAt P w K mg base 1 "on_way" 2 KW.m_on_way) (D_m_replaced : DefAt P w K mg base 1 "replaced" 3 KW.m_replaced) (D_m_with_way : DefAt P w K mg base 1 "with_way" 3 KW.m_with_way) : FnOk P w K mg base (L2.CX P w) 2 fa fd ["standing", "house", "sender"] (spM K mg 3 KW.m_after_hear) :=
  fn_G (def_ok (k := 1) F sc_m_after_hear rfl rfl fun cdv A outer s H E hr tk hpo => by
    have hu1 := hu_of hr
    have hu64 := hr.units
    exact (s_cons (s_asg (e_v (pv 0)) (g_tup (n := 2) rfl (gs_cons (g_name (pg_name (i := 3) sc_m_after_hear.nd rfl (by first | exact Or.inl rfl | exact Or.inr rfl)) hp_any) (gs_cons (g_name (pg_name (i := 4) sc_m_after_hear.nd rfl (by first | exact Or.inl rfl | exact Or.inr rfl)) hp_any) gs_nil)) (gsl_cons (gsl_cons gsl_nil gN_ne) gN_ne)))
      (s_cons (s_set (i := 5) sc_m_after_hear.nd rfl (by first | exact Or.inl rfl | exact Or.inr rfl) (e_tup (a_cons (e_v (pv 2)) (a_cons (e_v (pv 1)) a_nil))))
      (s_cons (s_set (i := 6) sc_m_after_hear.nd rfl (by first | exact Or.inl rfl | exact Or.inr rfl) (e_call D_m_on_way (fG_len fDef_len) tk (hr.mono (by omega)) rfl (a_cons (e_v (pv 4)) (a_cons (e_v (pv 5)) a_nil))))
      (s_cons (s_if (t_cmp (o_eq hu64) (e_blt c_len rfl T.b_len (by decide +kernel) (a_cons (e_v (pv 6)) a_nil)) e_int (nomark _))
      (s_one (s_ret e_non))
      s_nil)
      (s_one (s_ret (e_tup (a_cons (e_call D_m_replaced (fG_len fDef_len) tk (hr.mono (by omega)) rfl (a_cons (e_v (pv 3)) (a_cons (e_v (pv 1)) (a_cons (e_op o_add (e_ix hu1 (e_v (pv 3)) (e_v (pv 1))) (e_sl (e_v (pv 6)) o_no (o_some e_int))) a_nil)))) (a_cons (e_call D_m_with_way (fG_len fDef_len) tk (hr.mono (by omega)) rfl (a_cons (e_v (pv 4)) (a_cons (e_v (pv 5)) (a_cons (e_sl (e_v (pv 6)) (o_some e_int) o_no) a_nil)))) a_nil))))))))))
theorem ok_m_heard_by {fa : Addr} {fd : FuncData} (F : Fun K "heard_by" "heard_by" st_m_heard_by fa fd) (T : Txt K mg) (D_m_after_hear : DefAt P w K mg base 2 "after_hear" 3 KW.m_after_hear) (D_m_check_house : DefAt P w K mg base 4 "check_house" 2 KW.m_check_house) (D_m_check_standing : DefAt P w K mg base 8 "check_standing" 2 KW.m_check_standing) : FnOk P w K mg base (L2.CX P w) 9 fa fd ["works", "standing", "house", "sender"] (spM K mg 4 KW.m_heard_by) :=
  fn_G (def_ok (k := 8) F sc_m_heard_by rfl rfl fun cdv A outer s H E hr tk hpo => by
    have hu1 := hu_of hr
    have hu64 := hr.units
    exact (s_cons (s_expr (e_call D_m_check_standing (fG_len fDef_len) tk (hr.mono (by omega)) rfl (a_cons (e_v (pv 0)) (a_cons (e_v (pv 1)) a_nil))))
      (s_cons (s_expr (e_call D_m_check_house (fG_len fDef_len) tk (hr.mono (by omega)) rfl (a_cons (e_v (pv 0)) (a_cons (e_v (pv 2)) a_nil))))
      (s_cons (s_expr (e_call D_m_check_house (fG_len fDef_len) tk (hr.mono (by omega)) rfl (a_cons (e_v (pv 0)) (a_cons (e_v (pv 3)) a_nil))))
      (s_cons (s_set (i := 4) sc_m_heard_by.nd rfl (by first | exact Or.inl rfl | exact Or.inr rfl) (e_call D_m_after_hear (fG_len fDef_len) tk (hr.mono (by omega)) rfl (a_cons (e_v (pv 1)) (a_cons (e_v (pv 2)) (a_cons (e_v (pv 3)) a_nil)))))
      (s_cons (s_if (t_cmp o_is (e_v (pv 4)) e_non (nomark _))
      (s_one (s_raise0 rfl tk T.e_NothingThere rfl))
      s_nil)
      (s_one (s_ret (e_v (pv 4))))))))))
theorem ok_m_law_is_integer {fa : Addr} {fd : FuncData} (F : Fun K "_law_is_integer" "_law_is_integer" st_m_law_is_integer fa fd) (T : Txt K mg)  : FnOk P w K mg base (L2.CX P w) 1 fa fd ["_law_thing"] (spM K mg 1 KQ.m_is_integer) :=
  fn_G (def_ok (k := 0) F sc_m_law_is_integer rfl rfl fun cdv A outer s H E hr tk hpo => by
    have hu1 := hu_of hr
    have hu64 := hr.units
    exact (s_one (s_ret (e_and (e_isT rfl T.b_isinstance (e_v (pv 0)) rfl T.b_int (by decide +kernel) (by decide)) (e_one (e_not (e_isT rfl T.b_isinstance (e_v (pv 0)) rfl T.b_bool (by decide +kernel) (by decide))))))))
theorem ok_m_law_same {fa : Addr} {fd : FuncData} (F : Fun K "_law_same" "_law_same" st_m_law_same fa fd) (T : Txt K mg) (hmf : mg "_law_same" = some (.ref fa)) (hB : Binds K fd ["_law_actual", "_law_due"] []) (D_m_law_is_integer : DefAt P w K mg base 1 "_law_is_integer" 1 KQ.m_is_integer) : ∀ n : Nat, FnOk P w K mg base (L2.CX P w) (1 + n) fa fd ["_law_actual", "_law_due"] (spM K mg 2 (KA.m_law_same n)) := by
  intro n
  induction n with
  | zero => exact bad_ok rfl
  | succ fu ih =>
    have D_m_law_same : DefAt P w K mg base (1 + fu) "_law_same" 2 (KA.m_law_same fu) := ⟨⟨fa, fd, _, rfl, hmf, F.kp, hB, ih⟩⟩
    rw [KA.m_law_same_succ]
    refine fn_G (def_ok (k := 1 + fu) F sc_m_law_same rfl rfl fun cdv A outer s H E hr tk hpo => ?_)
    have hu1 := hu_of hr
    have hu64 := hr.units
    exact (s_cons (s_if (t_cmp o_is (e_v (pv 1)) e_non (nomark _))
      (s_one (s_ret (e_cmp o_is (e_v (pv 0)) e_non (nomark _))))
      s_nil)
      (s_cons (s_if (t_cmp o_is (e_v (pv 1)) e_bl (nomark _))
      (s_one (s_ret (e_cmp o_is (e_v (pv 0)) e_bl (nomark _))))
      s_nil)
      (s_cons (s_if (t_cmp o_is (e_v (pv 1)) e_bl (nomark _))
      (s_one (s_ret (e_cmp o_is (e_v (pv 0)) e_bl (nomark _))))
      s_nil)
      (s_cons (s_if (t_v (e_isT rfl T.b_isinstance (e_v (pv 1)) rfl T.b_int (by decide +kernel) (by decide)))
      (s_one (s_ret (e_and (e_call D_m_law_is_integer (fG_len fDef_len) tk (hr.mono (by omega)) rfl (a_cons (e_v (pv 0)) a_nil)) (e_one (e_cmp (o_eq hu64) (e_v (pv 0)) (e_v (pv 1)) (nomark _))))))
      s_nil)
      (s_cons (s_if (t_v (e_isT rfl T.b_isinstance (e_v (pv 1)) rfl T.b_str (by decide +kernel) (by decide)))
      (s_one (s_ret (e_and (e_isT rfl T.b_isinstance (e_v (pv 0)) rfl T.b_str (by decide +kernel) (by decide)) (e_one (e_cmp (o_eq hu64) (e_v (pv 0)) (e_v (pv 1)) (nomark _))))))
      s_nil)
      (s_cons (s_if (PW.pt (t_or (t_cmp (o_ne hu64) (e_isT rfl T.b_isinstance (e_v (pv 1)) rfl T.b_tuple (by decide +kernel) (by decide)) (e_isT rfl T.b_isinstance (e_v (pv 0)) rfl T.b_tuple (by decide +kernel) (by decide)) (nomark _)) (t_or1 (t_cmp (o_ne hu64) (e_isT rfl T.b_isinstance (e_v (pv 1)) rfl T.b_list (by decide +kernel) (by decide)) (e_isT rfl T.b_isinstance (e_v (pv 0)) rfl T.b_list (by decide +kernel) (by decide)) (nomark _)))))
      (s_one (s_ret e_bl))
      s_nil)
      (s_cons (s_if (t_cmp (o_ne hu64) (e_blt c_len rfl T.b_len (by decide +kernel) (a_cons (e_v (pv 0)) a_nil)) (e_blt c_len rfl T.b_len (by decide +kernel) (a_cons (e_v (pv 1)) a_nil)) (nomark _))
      (s_one (s_ret e_bl))
      s_nil)
      (s_cons (s_for hpo rfl (i_zip rfl T.b_zip (a_cons (e_v (pv 0)) (a_cons (e_v (pv 1)) a_nil))) (g_tup (n := 2) rfl (gs_cons (g_name (pg_name (i := 2) sc_m_law_same.nd rfl (by first | exact Or.inl rfl | exact Or.inr rfl)) hp_any) (gs_cons (g_name (pg_name (i := 3) sc_m_law_same.nd rfl (by first | exact Or.inl rfl | exact Or.inr rfl)) hp_any) gs_nil)) (gsl_cons (gsl_cons gsl_nil gN_ne) gN_ne))
      (s_K (s_one (s_if (t_not (t_v (e_call D_m_law_same (KA.m_law_same_len _) tk (hr.mono (by omega)) rfl (a_cons (e_v (pv 2)) (a_cons (e_v (pv 3)) a_nil)))))
      (s_one (s_ret e_bl))
      s_nil))))
      (s_one (s_ret e_bl))))))))))
theorem ok_m_is_all_quiet {fa : Addr} {fd : FuncData} (F : Fun K "is_all_quiet" "is_all_quiet" st_m_is_all_quiet fa fd) (T : Txt K mg)  : FnOk P w K mg base (L2.CX P w) 1 fa fd ["standing"] (spM K mg 1 KW.m_is_all_quiet) :=
  fn_G (def_ok (k := 0) F sc_m_is_all_quiet rfl rfl fun cdv A outer s H E hr tk hpo => by
    have hu1 := hu_of hr
    have hu64 := hr.units
    exact (s_one (s_ret (e_and (e_G (e_blt (c_all rfl) rfl T.b_all (by decide +kernel) (a_cons (e_lc (own := [("bag", 1)]) rfl sc_m_is_all_quiet.nd (i_val (e_ix hu1 (e_v (pv 0)) e_int)) (blkOk_by (own := [("bag", 1)]) (N := N_m_is_all_quiet) (sc := defScope st_m_is_all_quiet) (by decide +kernel)) (fun _ _ _ _ _ => (g_name (pg_name (i := 1) sc_m_is_all_quiet.nd rfl (by first | exact Or.inl rfl | exact Or.inr rfl)) (hp_wipe (by decide)))) (fun _ _ _ _ _ => ts_nil) (fun _ _ _ _ _ => (e_cmp (o_eq hu64) (e_blt c_len rfl T.b_len (by decide +kernel) (a_cons (e_v (pv 1)) a_nil)) e_int (nomark _)))) a_nil))) (e_one (e_cmp (o_eq hu64) (e_blt c_len rfl T.b_len (by decide +kernel) (a_cons (e_ix hu1 (e_v (pv 0)) e_int) a_nil)) e_int (nomark _)))))))
theorem ok_m_is_quiet {fa : Addr} {fd : FuncData} (F : Fun K "is_quiet" "is_quiet" st_m_is_quiet fa fd) (T : Txt K mg) (D_m_check_standing : DefAt P w K mg base 8 "check_standing" 2 KW.m_check_standing) (D_m_is_all_quiet : DefAt P w K mg base 1 "is_all_quiet" 1 KW.m_is_all_quiet) : FnOk P w K mg base (L2.CX P w) 9 fa fd ["works", "standing"] (spM K mg 2 KW.m_is_quiet) :=
  fn_G (def_ok (k := 8) F sc_m_is_quiet rfl rfl fun cdv A outer s H E hr tk hpo => by
    have hu1 := hu_of hr
    have hu64 := hr.units
    exact (s_cons (s_expr (e_call D_m_check_standing (fG_len fDef_len) tk (hr.mono (by omega)) rfl (a_cons (e_v (pv 0)) (a_cons (e_v (pv 1)) a_nil))))
      (s_one (s_ret (e_call D_m_is_all_quiet (fG_len fDef_len) tk (hr.mono (by omega)) rfl (a_cons (e_v (pv 1)) a_nil))))))
theorem ok_m_law_led {fa : Addr} {fd : FuncData} (F : Fun K "_law_led" "_law_led" st_m_law_led fa fd) (T : Txt K mg) (D_m_law_choices : DefAt P w K mg base 1 "_law_choices" 1 m_law_choices) (D_m_law_model : DefAt P w K mg base 1 "_law_model" 1 m_law_model) (D_m_law_same : DefAt P w K mg base 102 "_law_same" 2 (KA.m_law_same 100)) (D_m_law_take : DefAt P w K mg base 1 "_law_take" 2 KA.m_law_take) (D_m_done_by : DefAt P w K mg base 9 "done_by" 3 KW.m_done_by) (D_m_first_standing : DefAt P w K mg base 7 "first_standing" 2 KW.m_first_standing) (D_m_heard_by : DefAt P w K mg base 9 "heard_by" 4 KW.m_heard_by) (D_m_is_quiet : DefAt P w K mg base 9 "is_quiet" 2 KW.m_is_quiet) (D_m_still_to_do : DefAt P w K mg base 9 "still_to_do" 2 KW.m_still_to_do) : FnOk P w K mg base (L2.CX P w) 103 fa fd ["_law_hand_here", "_law_works", "_law_many", "_law_rules_here", "_law_given_here", "_law_mode"] (spM K mg 6 m_law_led) :=
  (def_ok (k := 102) F sc_m_law_led rfl rfl fun cdv A outer s H E hr tk hpo => by
    have hu1 := hu_of hr
    have hu64 := hr.units
    exact (s_cons (s_set (i := 6) sc_m_law_led.nd rfl (by first | exact Or.inl rfl | exact Or.inr rfl) (e_call D_m_first_standing (fG_len fDef_len) tk (hr.mono (by omega)) rfl (a_cons (e_v (pv 1)) (a_cons (e_v (pv 4)) a_nil))))
      (s_cons (s_setLc (own := [("_law_house", 14)]) (i := 7) rfl sc_m_law_led.nd rfl rfl (sw_true rfl rfl rfl (by decide +kernel)) (i_rng1 rfl T.b_range (a_cons (e_v (pv 2)) a_nil)) (blkOk_by (own := [("_law_house", 14)]) (N := N_m_law_led) (sc := defScope st_m_law_led) (by decide +kernel)) (fun _ _ _ _ _ => (g_name (pg_name (i := 14) sc_m_law_led.nd rfl (by first | exact Or.inl rfl | exact Or.inr rfl)) (hp_wipe (by decide)))) (fun _ _ _ _ _ => ts_nil) (fun _ _ _ _ _ => (e_lst a_nil)))
      (s_cons (s_set (i := 8) sc_m_law_led.nd rfl (by first | exact Or.inl rfl | exact Or.inr rfl) (e_call D_m_still_to_do (fG_len fDef_len) tk (hr.mono (by omega)) rfl (a_cons (e_v (pv 1)) (a_cons (e_v (pv 6)) a_nil))))
      (s_cons (s_set (i := 9) sc_m_law_led.nd rfl (by first | exact Or.inl rfl | exact Or.inr rfl) (e_v (pv 8)))
      (s_cons (s_for hpo rfl (i_rng1 rfl T.b_range (a_cons (e_op o_add (e_op o_mulI e_int (e_v (pv 9))) e_int) a_nil)) (g_name (pg_name (i := 10) sc_m_law_led.nd rfl (by first | exact Or.inl rfl | exact Or.inr rfl)) hp_any)
      (s_K (s_cons (s_set (i := 11) sc_m_law_led.nd rfl (by first | exact Or.inl rfl | exact Or.inr rfl) (e_call D_m_law_choices (fG_len fDef_len) tk (hr.mono (by omega)) rfl (a_cons (e_call D_m_law_model fDef_len tk (hr.mono (by omega)) rfl (a_cons (e_v (pv 6)) a_nil)) a_nil)))
      (s_cons (s_if (PW.pt (t_or (t_cmp (o_ne hu64) (e_call D_m_is_quiet (fG_len fDef_len) tk (hr.mono (by omega)) rfl (a_cons (e_v (pv 1)) (a_cons (e_v (pv 6)) a_nil))) (e_cmp (o_eq hu64) (e_blt c_len rfl T.b_len (by decide +kernel) (a_cons (e_v (pv 11)) a_nil)) e_int (nomark _)) (nomark _)) (t_or1 (t_cmp (o_ne hu64) (e_cmp (o_eq hu64) (e_v (pv 8)) e_int (nomark _)) (e_cmp (o_eq hu64) (e_blt c_len rfl T.b_len (by decide +kernel) (a_cons (e_v (pv 11)) a_nil)) e_int (nomark _)) (nomark _)))))
      (s_one (s_ret e_non))
      s_nil)
      (s_cons (s_if (t_cmp (o_eq hu64) (e_blt c_len rfl T.b_len (by decide +kernel) (a_cons (e_v (pv 11)) a_nil)) e_int (nomark _))
      (s_one (s_ret (e_v (pv 7))))
      s_nil)
      (s_cons (s_set (i := 12) sc_m_law_led.nd rfl (by first | exact Or.inl rfl | exact Or.inr rfl) (e_ix hu1 (e_v (pv 11)) (e_G (e_ix hu1 (e_lst (a_cons (e_call D_m_law_take (fG_len fDef_len) tk (hr.mono (by omega)) rfl (a_cons (e_v (pv 0)) (a_cons (e_blt c_len rfl T.b_len (by decide +kernel) (a_cons (e_v (pv 11)) a_nil)) a_nil))) (a_cons e_int (a_cons (e_op o_sub (e_blt c_len rfl T.b_len (by decide +kernel) (a_cons (e_v (pv 11)) a_nil)) e_int) a_nil)))) (e_v (pv 5))))))
      (s_cons (s_if (t_cmp (o_eq hu64) (e_ix hu1 (e_v (pv 12)) e_int) e_str (nomark _))
      (s_cons (s_set (i := 13) sc_m_law_led.nd rfl (by first | exact Or.inl rfl | exact Or.inr rfl) (e_ix hu1 (e_v (pv 7)) (e_ix hu1 (e_v (pv 12)) e_int)))
      (s_cons (s_expr (e_bm PySem.F.plainAttrs_list PySem.F.slot_list_append PySem.F.type_list_append m_append (e_v (pv 13)) (a_cons (e_ix hu1 (e_ix hu1 (e_ix hu1 (e_v (pv 6)) e_int) (e_ix hu1 (e_v (pv 12)) e_int)) e_int) a_nil)))
      (s_cons (s_set (i := 6) sc_m_law_led.nd rfl (by first | exact Or.inl rfl | exact Or.inr rfl) (e_call D_m_done_by (fG_len fDef_len) tk (hr.mono (by omega)) rfl (a_cons (e_v (pv 1)) (a_cons (e_v (pv 6)) (a_cons (e_ix hu1 (e_v (pv 12)) e_int) a_nil)))))
      (s_one (s_set (i := 8) sc_m_law_led.nd rfl (by first | exact Or.inl rfl | exact Or.inr rfl) (e_op o_sub (e_v (pv 8)) e_int))))))
      (s_one (s_set (i := 6) sc_m_law_led.nd rfl (by first | exact Or.inl rfl | exact Or.inr rfl) (e_call D_m_heard_by (fG_len fDef_len) tk (hr.mono (by omega)) rfl (a_cons (e_v (pv 1)) (a_cons (e_v (pv 6)) (a_cons (e_ix hu1 (e_v (pv 12)) e_int) (a_cons (e_ix hu1 (e_v (pv 12)) e_int) a_nil))))))))
      (s_one (s_if (t_not (t_v (e_call D_m_law_same (KA.m_law_same_len _) tk (hr.mono (by omega)) rfl (a_cons (e_call D_m_still_to_do (fG_len fDef_len) tk (hr.mono (by omega)) rfl (a_cons (e_v (pv 1)) (a_cons (e_v (pv 6)) a_nil))) (a_cons (e_v (pv 8)) a_nil)))))
      (s_one (s_ret e_non))
      s_nil)))))))))
      (s_one (s_ret e_non))))))))
theorem ok_m_law {fa : Addr} {fd : FuncData} (F : Fun K "law" "law" st_m_law fa fd) (T : Txt K mg) (D_m_Works___init__ : MakeAt P w K mg base 5 "Works" 2 KW.m_Works___init__) (D_m_law_given : DefAt P w K mg base 24 "_law_given" 4 KA.m_law_given) (D_m_law_hand : DefAt P w K mg base 1 "_law_hand" 1 KA.m_law_hand) (D_m_law_led : DefAt P w K mg base 103 "_law_led" 6 m_law_led) (D_m_law_some_works : DefAt P w K mg base 3 "_law_some_works" 1 KA.m_law_some_works) (D_m_law_take : DefAt P w K mg base 1 "_law_take" 2 KA.m_law_take) (D_m_plain_run : DefAt P w K mg base 7 "plain_run" 2 KW.m_plain_run) (D_m_tasks_of : DefAt P w K mg base 6 "tasks_of" 3 KW.m_tasks_of) : FnOk P w K mg base (L2.CX P w) 104 fa fd ["_law_script"] (spM K mg 1 m_law) :=
  (def_ok (k := 103) F sc_m_law rfl rfl fun cdv A outer s H E hr tk hpo => by
    have hu1 := hu_of hr
    have hu64 := hr.units
    exact (s_cons (s_set (i := 1) sc_m_law.nd rfl (by first | exact Or.inl rfl | exact Or.inr rfl) (e_call D_m_law_hand fDef_len tk (hr.mono (by omega)) rfl (a_cons (e_v (pv 0)) a_nil)))
      (s_cons (s_asg (e_call D_m_law_some_works (fG_len fDef_len) tk (hr.mono (by omega)) rfl (a_cons (e_v (pv 1)) a_nil)) (g_tup (n := 2) rfl (gs_cons (g_name (pg_name (i := 2) sc_m_law.nd rfl (by first | exact Or.inl rfl | exact Or.inr rfl)) hp_any) (gs_cons (g_name (pg_name (i := 3) sc_m_law.nd rfl (by first | exact Or.inl rfl | exact Or.inr rfl)) hp_any) gs_nil)) (gsl_cons (gsl_cons gsl_nil gN_ne) gN_ne)))
      (s_cons (s_set (i := 4) sc_m_law.nd rfl (by first | exact Or.inl rfl | exact Or.inr rfl) (e_make D_m_Works___init__ (fG_len fDef_len) tk (hr.mono (by omega)) rfl (a_cons (e_v (pv 2)) (a_cons (e_v (pv 3)) a_nil))))
      (s_cons (s_set (i := 5) sc_m_law.nd rfl (by first | exact Or.inl rfl | exact Or.inr rfl) (e_call D_m_law_given (fG_len fDef_len) tk (hr.mono (by omega)) rfl (a_cons (e_v (pv 1)) (a_cons (e_v (pv 2)) (a_cons (e_v (pv 3)) (a_cons e_int a_nil))))))
      (s_cons (s_set (i := 6) sc_m_law.nd rfl (by first | exact Or.inl rfl | exact Or.inr rfl) (e_G (e_op o_mul (e_lst (a_cons e_int a_nil)) (e_v (pv 2)))))
      (s_cons (s_for hpo rfl (i_val (e_v (pv 5))) (g_name (pg_name (i := 7) sc_m_law.nd rfl (by first | exact Or.inl rfl | exact Or.inr rfl)) hp_any)
      (s_K (s_cons (s_set (i := 8) sc_m_law.nd rfl (by first | exact Or.inl rfl | exact Or.inr rfl) (e_call D_m_tasks_of (fG_len fDef_len) tk (hr.mono (by omega)) rfl (a_cons (e_v (pv 4)) (a_cons e_int (a_cons (e_v (pv 7)) a_nil)))))
      (s_one (s_set (i := 6) sc_m_law.nd rfl (by first | exact Or.inl rfl | exact Or.inr rfl) (e_lc (own := [("_law_k", 14)]) rfl sc_m_law.nd (i_rng1 rfl T.b_range (a_cons (e_v (pv 2)) a_nil)) (blkOk_by (own := [("_law_k", 14)]) (N := N_m_law) (sc := defScope st_m_law) (by decide +kernel)) (fun _ _ _ _ _ => (g_name (pg_name (i := 14) sc_m_law.nd rfl (by first | exact Or.inl rfl | exact Or.inr rfl)) (hp_wipe (by decide)))) (fun _ _ _ _ _ => ts_nil) (fun _ _ _ _ _ => (e_op o_add (e_ix hu1 (e_v (pv 6)) (e_v (pv 14))) (e_ix hu1 (e_v (pv 8)) (e_v (pv 14)))))))))))
      (s_cons (s_set (i := 9) sc_m_law.nd rfl (by first | exact Or.inl rfl | exact Or.inr rfl) (e_lst (a_cons (e_call D_m_law_led fDef_len tk (hr.mono (by omega)) rfl (a_cons (e_v (pv 1)) (a_cons (e_v (pv 4)) (a_cons (e_v (pv 2)) (a_cons (e_v (pv 3)) (a_cons (e_v (pv 5)) (a_cons e_int a_nil))))))) (a_cons (e_call D_m_law_led fDef_len tk (hr.mono (by omega)) rfl (a_cons (e_v (pv 1)) (a_cons (e_v (pv 4)) (a_cons (e_v (pv 2)) (a_cons (e_v (pv 3)) (a_cons (e_v (pv 5)) (a_cons (e_op o_add e_int (e_call D_m_law_take (fG_len fDef_len) tk (hr.mono (by omega)) rfl (a_cons (e_v (pv 1)) (a_cons e_int a_nil)))) a_nil))))))) a_nil))))
      (s_cons (s_setLc (own := [("_law_house", 11)]) (i := 10) rfl sc_m_law.nd rfl rfl (sw_true rfl rfl rfl (by decide +kernel)) (i_rng1 rfl T.b_range (a_cons (e_v (pv 2)) a_nil)) (blkOk_by (own := [("_law_house", 11)]) (N := N_m_law) (sc := defScope st_m_law) (by decide +kernel)) (fun _ _ _ _ _ => (g_name (pg_name (i := 11) sc_m_law.nd rfl (by first | exact Or.inl rfl | exact Or.inr rfl)) (hp_wipe (by decide)))) (fun _ _ _ _ _ => ts_nil) (fun _ _ _ _ _ => (e_lst a_nil)))
      (s_cons (s_for hpo rfl (i_val (e_call D_m_plain_run (fG_len fDef_len) tk (hr.mono (by omega)) rfl (a_cons (e_v (pv 4)) (a_cons (e_v (pv 5)) a_nil)))) (g_tup (n := 2) rfl (gs_cons (g_name (pg_name (i := 11) sc_m_law.nd rfl (by first | exact Or.inl rfl | exact Or.inr rfl)) hp_any) (gs_cons (g_name (pg_name (i := 7) sc_m_law.nd rfl (by first | exact Or.inl rfl | exact Or.inr rfl)) hp_any) gs_nil)) (gsl_cons (gsl_cons gsl_nil gN_ne) gN_ne))
      (s_K (s_cons (s_set (i := 12) sc_m_law.nd rfl (by first | exact Or.inl rfl | exact Or.inr rfl) (e_ix hu1 (e_v (pv 10)) (e_v (pv 11))))
      (s_one (s_expr (e_bm PySem.F.plainAttrs_list PySem.F.slot_list_append PySem.F.type_list_append m_append (e_v (pv 12)) (a_cons (e_v (pv 7)) a_nil)))))))
      (s_cons (s_for hpo rfl (i_val (e_v (pv 9))) (g_name (pg_name (i := 13) sc_m_law.nd rfl (by first | exact Or.inl rfl | exact Or.inr rfl)) hp_any)
      (s_K (s_cons (s_if (PW.pt (t_or (t_cmp o_is (e_v (pv 13)) e_non (nomark _)) (t_or1 (t_G (t_cmp (o_ne hu64) (e_lc (own := [("_law_tasks", 15)]) rfl sc_m_law.nd (i_val (e_v (pv 13))) (blkOk_by (own := [("_law_tasks", 15)]) (N := N_m_law) (sc := defScope st_m_law) (by decide +kernel)) (fun _ _ _ _ _ => (g_name (pg_name (i := 15) sc_m_law.nd rfl (by first | exact Or.inl rfl | exact Or.inr rfl)) (hp_wipe (by decide)))) (fun _ _ _ _ _ => ts_nil) (fun _ _ _ _ _ => (e_blt c_len rfl T.b_len (by decide +kernel) (a_cons (e_v (pv 15)) a_nil)))) (e_v (pv 6)) (nomark _))))))
      (s_one (s_ret e_bl))
      s_nil)
      (s_one (s_if (t_G (t_cmp (o_ne hu64) (e_lc (own := [("_law_tasks", 15)]) rfl sc_m_law.nd (i_val (e_v (pv 13))) (blkOk_by (own := [("_law_tasks", 15)]) (N := N_m_law) (sc := defScope st_m_law) (by decide +kernel)) (fun _ _ _ _ _ => (g_name (pg_name (i := 15) sc_m_law.nd rfl (by first | exact Or.inl rfl | exact Or.inr rfl)) (hp_wipe (by decide)))) (fun _ _ _ _ _ => ts_nil) (fun _ _ _ _ _ => (e_blt c_sortP rfl T.b_sorted (by decide +kernel) (a_cons (e_v (pv 15)) a_nil)))) (e_lc (own := [("_law_tasks", 15)]) rfl sc_m_law.nd (i_val (e_v (pv 10))) (blkOk_by (own := [("_law_tasks", 15)]) (N := N_m_law) (sc := defScope st_m_law) (by decide +kernel)) (fun _ _ _ _ _ => (g_name (pg_name (i := 15) sc_m_law.nd rfl (by first | exact Or.inl rfl | exact Or.inr rfl)) (hp_wipe (by decide)))) (fun _ _ _ _ _ => ts_nil) (fun _ _ _ _ _ => (e_blt c_sortP rfl T.b_sorted (by decide +kernel) (a_cons (e_v (pv 15)) a_nil)))) (nomark _)))
      (s_one (s_ret e_bl))
      s_nil)))))
      (s_one (s_ret e_bl)))))))))))))
end
end K04

set_option maxHeartbeats 1000000
namespace KQ
open Mp
open PySem (Str)
theorem is_integer_eq {v : Val} {S : Store} {t : String} (h : tyName v S = some t) : m_is_integer [v] S = .ok (.bl (isInt v)) S := by
  have e := isInt_ty h
  unfold m_is_integer
  rw [← e]
  simp (maxDischargeDepth := 12) [startL, pIsT_of h]
  cases q : subTy t "int" <;> simp (maxDischargeDepth := 12) [pIsT_of h]
def natB (v : Val) : Bool := match v with
  | .int i => decide (0 ≤ i)
  | _ => false
def Typed (S : Store) (v : Val) : Prop := ∃ t, tyName v S = some t
/-- a thing that is_share can look at -/
def Good (S : Store) (v : Val) : Prop := Typed S v ∧ ∀ vs, v = .tup vs → vs.length < 1000 ∧ ∀ x, x ∈ vs → Typed S x
def asc (ns : List Int) : Bool := (ns.zip ns.tail).all fun p => decide (p.1 < p.2)
def sharesB (ns : List Int) : Bool := asc ns && (!decide ((0 : Int) ∈ ns) || decide (ns.length = 1))
def shareB (v : Val) : Bool := match v with
  | .tup vs => match intsO vs with
    | some ns => ns.all (fun i => decide (0 ≤ i)) && sharesB ns
    | none => false
  | _ => false
theorem nat_all {vs : List Val} : vs.all natB = true ↔ ∃ ns, intsO vs = some ns ∧ ns.all (fun i => decide (0 ≤ i)) = true := by
  induction vs with
  | nil => exact ⟨fun _ => ⟨[], rfl, rfl⟩, fun _ => rfl⟩
  | cons v r ih =>
    rw [List.all_cons]
    cases v with
    | int i =>
      simp only [natB, intsO, Bool.and_eq_true, decide_eq_true_eq, ih, Option.map_eq_some_iff]
      constructor
      · rintro ⟨h1, ns, h2, h3⟩
        exact ⟨i :: ns, ⟨ns, h2, rfl⟩, by simp [h1] at h3 ⊢; exact h3⟩
      · rintro ⟨_, ⟨ns, h2, rfl⟩, h3⟩
        simp at h3
        exact ⟨h3.1, ns, h2, by simpa using h3.2⟩
    | _ => simp [natB, intsO]
theorem zip_tail (ns : List Int) : List.zipWith (fun x y => Val.tup [x, y]) (ns.map Val.int) (cutL (ns.map Val.int) (some 1) none) = (ns.zip ns.tail).map fun p => .tup [.int p.1, .int p.2] := by
  rw [cutL_drop (by decide)]
  show List.zipWith _ (ns.map Val.int) ((ns.map Val.int).drop 1) = _
  rw [← List.map_drop, List.drop_one, List.zipWith_map, List.zip, List.map_zipWith]
theorem zip_len (ns : List Int) (h : ns.length < 1000) : (ns.zip ns.tail).length < LIM := by
  rw [List.length_zip]
  unfold LIM
  omega
theorem not_tuple {v : Val} {S : Store} {t : String} (h : tyName v S = some t) (q : ¬ ∃ vs, v = .tup vs) : (t == "tuple") = false := by
  cases v with
  | tup vs => exact absurd ⟨_, rfl⟩ q
  | ref i =>
    rw [tyName_ref] at h
    cases e : sg S i with
    | none => rw [e] at h; cases h
    | some o =>
      rw [e] at h
      cases o <;> first | (cases h; decide) | cases h
  | _ => cases h; decide
theorem shareB_tup (vs : List Val) : shareB (.tup vs) = match intsO vs with
    | some ns => ns.all (fun i => decide (0 ≤ i)) && sharesB ns
    | none => false := rfl
theorem shareB_all {vs : List Val} (h : vs.all natB = false) : shareB (.tup vs) = false := by
  rw [shareB_tup]
  cases q : intsO vs with
  | none => rfl
  | some ns =>
    dsimp only
    cases z : ns.all (fun i => decide (0 ≤ i)) with
    | false => rfl
    | true =>
      have := nat_all.mpr ⟨ns, q, z⟩
      rw [h] at this
      cases this
theorem shareB_ints {ns : List Int} (h : ∀ i, i ∈ ns → 0 ≤ i) : shareB (.tup (ns.map Val.int)) = sharesB ns := by
  rw [shareB_tup, intsO_map]
  dsimp only
  have : ns.all (fun i => decide (0 ≤ i)) = true := List.all_eq_true.mpr fun i hi => decide_eq_true (h i hi)
  rw [this]
  rfl
theorem natDec (ns : List Int) : decide ((ns.length : Int) = 1) = decide (ns.length = 1) := by
  by_cases w : ns.length = 1
  · simp [w]
  · have : ¬ (ns.length : Int) = 1 := by omega
    simp [w, this]
theorem is_share_eq {v : Val} {S : Store} (h : Good S v) : m_is_share [v] S = .ok (.bl (shareB v)) S := by
  obtain ⟨⟨t, ht⟩, hv⟩ := h
  by_cases q : ∃ vs, v = .tup vs
  · obtain ⟨vs, rfl⟩ := q
    obtain ⟨hz, hx⟩ := hv vs rfl
    unfold m_is_share
    simp (maxDischargeDepth := 12) [startL, subTy]
    rw [lc_vals (fun x => .bl (natB x)) trivial (by unfold LIM; omega) fun x hx' => by
      obtain ⟨t, ht⟩ := hx x hx'
      simp (maxDischargeDepth := 12) [is_integer_eq ht]
      cases x <;> simp [isInt, natB]]
    simp (maxDischargeDepth := 12)
    cases qa : vs.all natB with
    | false => simp (maxDischargeDepth := 12) [shareB_all qa]
    | true =>
      obtain ⟨ns, hi, hp⟩ := nat_all.mp qa
      have hvs := intsO_eq hi
      subst hvs
      have hp' : ∀ i, i ∈ ns → 0 ≤ i := fun i hi => of_decide_eq_true (List.all_eq_true.mp hp i hi)
      rw [shareB_ints hp']
      simp (maxDischargeDepth := 12) [zipOf, seqOf]
      rw [lc_map' (fun p : Int × Int => .tup [.int p.1, .int p.2]) (fun p => .bl (decide (p.1 < p.2))) (ns.zip ns.tail) (zip_tail ns) trivial (zip_len ns (by simpa using hz)) fun p hp => by simp (maxDischargeDepth := 12)]
      simp (maxDischargeDepth := 12)
      unfold sharesB
      show _ = R.ok (Val.bl (asc ns && _)) S
      unfold asc
      cases q2 : (ns.zip ns.tail).all fun p => decide (p.1 < p.2) with
      | false => simp (maxDischargeDepth := 12)
      | true =>
        simp (maxDischargeDepth := 12) [pIn_ints.2, natDec]
        by_cases z : (0 : Int) ∈ ns
        · simp [z]; omega
        · simp [z]
  · have : shareB v = false := by
      cases v <;> first | rfl | exact absurd ⟨_, rfl⟩ q
    unfold m_is_share
    have ht' : (t == "tuple") = false := not_tuple ht q
    simp (maxDischargeDepth := 12) [startL, pIsT_of ht, subTy, ht', this]
end KQ

/-! KW1L: the works' small functions. -/
namespace KW
open Mp KQ
open PySem (Str)
theorem within_int (v : Val) (a b : Int) (h : isInt v = false) : withinB v a b = false := by cases v <;> first | rfl | (simp [isInt] at h)
theorem is_within_eq {v : Val} {S : Store} {t : String} {a b : Int} (h : tyName v S = some t) : m_is_within [v, .int a, .int b] S = .ok (.bl (withinB v a b)) S := by
  unfold m_is_within
  simp (maxDischargeDepth := 12) [startL, is_integer_eq h]
  cases q : isInt v with
  | false => simp (maxDischargeDepth := 12) [within_int v a b q]
  | true =>
    obtain ⟨i, rfl⟩ : ∃ i, v = .int i := by cases v <;> first | exact ⟨_, rfl⟩ | (simp [isInt] at q)
    simp (maxDischargeDepth := 12) [withinB]
    by_cases z : a ≤ i <;> simp [z]
theorem is_below_eq {v : Val} {S : Store} {t : String} {n : Int} (h : tyName v S = some t) : m_is_below [v, .int n] S = .ok (.bl (withinB v 0 (n - 1))) S := by
  unfold m_is_below
  simp (maxDischargeDepth := 12) [startL, is_within_eq h]
def sizedB (v : Val) (a b : Int) : Bool := match v with
  | .tup vs => decide (a ≤ vs.length) && decide ((vs.length : Int) ≤ b)
  | _ => false
theorem is_sized_eq {v : Val} {S : Store} {t : String} {a b : Int} (h : tyName v S = some t) : m_is_sized [v, .int a, .int b] S = .ok (.bl (sizedB v a b)) S := by
  unfold m_is_sized
  by_cases q : ∃ vs, v = .tup vs
  · obtain ⟨vs, rfl⟩ := q
    simp (maxDischargeDepth := 12) [startL, subTy, sizedB]
    by_cases z : a ≤ vs.length <;> simp [z]
  · have ht' : (t == "tuple") = false := not_tuple h q
    have e : sizedB v a b = false := by cases v <;> first | rfl | exact absurd ⟨_, rfl⟩ q
    simp (maxDischargeDepth := 12) [startL, pIsT_of h, subTy, ht', e]
def pairB (v : Val) : Bool := sizedB v 2 2
theorem is_pair_eq {v : Val} {S : Store} {t : String} (h : tyName v S = some t) : m_is_pair [v] S = .ok (.bl (pairB v)) S := by
  unfold m_is_pair
  simp (maxDischargeDepth := 12) [startL, is_sized_eq h, pairB]
theorem pairB_two {v : Val} (h : pairB v = true) : ∃ a b, v = .tup [a, b] := by
  unfold pairB sizedB at h
  split at h
  · rename_i vs
    simp at h
    match vs, h with
    | [a, b], _ => exact ⟨a, b, rfl⟩
    | [], h => simp at h
    | [_], h => simp at h
    | _ :: _ :: _ :: _, h => simp at h; omega
  · cases h
/-- typed, so deep -/
def TY : Nat → Store → Val → Prop
  | 0, S, v => Typed S v
  | n + 1, S, v => Typed S v ∧ ∀ vs, v = .tup vs → vs.length < 100000 ∧ ∀ x, x ∈ vs → TY n S x
theorem TY.typed {n : Nat} {S : Store} {v : Val} (h : TY n S v) : Typed S v := by cases n with
  | zero => exact h
  | succ n => exact h.1
/-- rules and tasks by their numbers -/
abbrev Rule := List (Nat × Nat)
def rPair (p : Nat × Nat) : Val := .tup [.int p.1, .int p.2]
def rRule (r : Rule) : Val := .tup (r.map rPair)
def rRules (R : List Rule) : Val := .tup (R.map rRule)
def rTask (t : Nat × Nat) : Val := .tup [.int t.1, .int t.2]
structure WfR (m : Nat) (R : List Rule) : Prop where
  m1 : 1 ≤ m
  m6 : m ≤ 6
  k1 : 1 ≤ R.length
  k6 : R.length ≤ 6
  len : ∀ r, r ∈ R → r.length ≤ 4
  ok : ∀ r p, r ∈ R → p ∈ r → p.1 < m ∧ p.2 < R.length
def worksO (m : Nat) (R : List Rule) : Ob := .ins "Works" [("many", .int m), ("rules", rRules R)]
theorem is_rule_ok {m k : Nat} {r : Rule} {S : Store} (hl : r.length ≤ 4) (h : ∀ p, p ∈ r → p.1 < m ∧ p.2 < k) : m_is_rule [.int m, .int k, rRule r] S = .ok (.bl true) S := by
  have e1 : m_is_sized [rRule r, .int 0, .int 4] S = .ok (.bl true) S := by
    rw [is_sized_eq (t := "tuple") rfl]
    unfold rRule sizedB
    simp
    omega
  unfold m_is_rule
  simp (maxDischargeDepth := 12) [startL, e1]
  unfold rRule
  simp (maxDischargeDepth := 12)
  rw [lc_map' rPair (fun _ => .bl true) r rfl trivial (by unfold LIM; omega) fun p hp => by
    have : m_is_pair [rPair p] S = .ok (.bl true) S := by rw [is_pair_eq (t := "tuple") rfl]; rfl
    simp (maxDischargeDepth := 12) [this]]
  simp (maxDischargeDepth := 12)
  rw [lc_map' rPair (fun _ => .bl true) r rfl trivial (by unfold LIM; omega) fun p hp => by
    obtain ⟨h1, h2⟩ := h p hp
    have b1 : m_is_below [.int p.1, .int m] S = .ok (.bl true) S := by rw [is_below_eq (t := "int") rfl]; simp [withinB]; omega
    have b2 : m_is_below [.int p.2, .int k] S = .ok (.bl true) S := by rw [is_below_eq (t := "int") rfl]; simp [withinB]; omega
    simp (maxDischargeDepth := 12) [rPair, b1, b2]]
  simp (maxDischargeDepth := 12)
theorem works_make {m : Nat} {R : List Rule} {S : Store} (W : WfR m R) : fMake "Works" m_Works___init__ [.int m, rRules R] S = .ok (.ref (sl S)) (sp S (worksO m R)) := by
  have hm := W.m1
  have hm6 := W.m6
  have e0 : m_is_within [.int m, .int 1, .int 6] (sp S (.ins "Works" [])) = .ok (.bl true) (sp S (.ins "Works" [])) := by
    rw [is_within_eq (t := "int") rfl]
    simp [withinB]
    omega
  have hk := W.k1
  have hk6 := W.k6
  have e1 : m_is_sized [rRules R, .int 1, .int 6] (sp S (.ins "Works" [])) = .ok (.bl true) (sp S (.ins "Works" [])) := by
    rw [is_sized_eq (t := "tuple") rfl]
    unfold rRules sizedB
    simp
    omega
  have eb : belows (sl S + 1) (R.map rRule) = true := belows_map _ _ fun r _ => belows_map _ _ fun p _ => by simp [rPair]
  rw [fMake_app]
  unfold m_Works___init__
  simp (maxDischargeDepth := 12) [startL, e0, e1]
  unfold rRules
  simp (maxDischargeDepth := 12) [enumL_map]
  rw [for_fold' (fun p : Rule × Nat => .tup [.int (p.2 : Nat), rRule p.1]) (fun _ : Unit => [some (.ref (sl S)), some (.int m), some (.tup (R.map rRule)), none, none]) (fun _ => sp S (.ins "Works" [])) (fun _ => True) (fun _ _ => ()) R.zipIdx () rfl ?_ ?_ trivial (fun _ _ => trivial) ?_]
  · simp (maxDischargeDepth := 12) [setF, eb]
    unfold worksO rRules
    rfl
  · rfl
  · rfl
  · intro _ p hp _
    refine ⟨.inl ?_, trivial⟩
    have hr : p.1 ∈ R := by
      have := List.mem_zipIdx hp
      exact this.2.2 ▸ List.getElem_mem _
    have e2 : m_is_rule [.int m, .int (R.length : Nat), rRule p.1] (sp S (.ins "Works" [])) = .ok (.bl true) (sp S (.ins "Works" [])) := is_rule_ok (W.len _ hr) (W.ok _ · hr)
    simp (maxDischargeDepth := 12) [m_Works___init___b1, e2]
end KW

/-! KW1M: tasks: what is sent, how many come. -/
namespace KW
open Mp KQ
open PySem (Str)
structure IsW (S : Store) (w m : Nat) (R : List Rule) : Prop where
  at_ : sg S w = some (worksO m R)
  wf : WfR m R
def TaskOk (R : List Rule) (t : Nat × Nat) : Prop := t.1 < R.length ∧ t.2 ≤ 12
theorem is_right_task_ok {S : Store} {w m : Nat} {R : List Rule} {t : Nat × Nat} (h : IsW S w m R) (ht : TaskOk R t) : m_is_right_task [.ref w, rTask t] S = .ok (.bl true) S := by
  have h1 := h.at_
  obtain ⟨t1, t2⟩ := ht
  have e1 : m_is_pair [rTask t] S = .ok (.bl true) S := by rw [is_pair_eq (t := "tuple") rfl]; rfl
  have e2 : m_is_below [.int t.1, .int (R.length : Nat)] S = .ok (.bl true) S := by rw [is_below_eq (t := "int") rfl]; simp [withinB]; omega
  have e3 : m_is_within [.int t.2, .int 0, .int 12] S = .ok (.bl true) S := by rw [is_within_eq (t := "int") rfl]; simp [withinB]; omega
  unfold m_is_right_task
  simp (maxDischargeDepth := 12) [startL, e1]
  unfold rTask
  simp (maxDischargeDepth := 12) [h1, worksO, rRules, e2, e3]
theorem check_task_ok {S : Store} {w m : Nat} {R : List Rule} {t : Nat × Nat} (h : IsW S w m R) (ht : TaskOk R t) : m_check_task [.ref w, rTask t] S = .ok .non S := by
  unfold m_check_task
  simp (maxDischargeDepth := 12) [startL, is_right_task_ok h ht]
theorem check_house_ok {S : Store} {w m k : Nat} {R : List Rule} (h : IsW S w m R) (hk : k < m) : m_check_house [.ref w, .int k] S = .ok .non S := by
  have h1 := h.at_
  have e2 : m_is_below [.int k, .int m] S = .ok (.bl true) S := by rw [is_below_eq (t := "int") rfl]; simp [withinB]; omega
  unfold m_check_house
  simp (maxDischargeDepth := 12) [startL, h1, worksO, e2]
def ruleAt (R : List Rule) (k : Nat) : Rule := R.getD k []
/-- what is sent -/
def sentL (m : Nat) (R : List Rule) (h : Nat) (t : Nat × Nat) : List (Nat × (Nat × Nat)) := if t.2 = 0 then [] else (ruleAt R t.1).map fun p => ((h + p.1) % m, (p.2, t.2 - 1))
def rSent (x : Nat × (Nat × Nat)) : Val := .tup [.int x.1, rTask x.2]
theorem rules_at {R : List Rule} {k : Nat} (h : k < R.length) : (R.map rRule)[k]? = some (rRule (ruleAt R k)) := by
  unfold ruleAt
  simp [h]
theorem ruleAt_mem {R : List Rule} {k : Nat} (h : k < R.length) : ruleAt R k ∈ R := by
  unfold ruleAt
  rw [List.getD_eq_getElem?_getD, List.getElem?_eq_getElem h]
  exact List.getElem_mem _
theorem letters_of_eq {S : Store} {w m h : Nat} {R : List Rule} {t : Nat × Nat} (hw : IsW S w m R) (ht : TaskOk R t) : m_letters_of [.ref w, .int h, rTask t] S = .ok (.tup ((sentL m R h t).map rSent)) S := by
  have h1 := hw.at_
  obtain ⟨t1, t2⟩ := ht
  have hr := rules_at t1
  have hm := hw.wf.m1
  have hlen : (ruleAt R t.1).length ≤ 4 := hw.wf.len _ (ruleAt_mem t1)
  unfold m_letters_of
  unfold rTask sentL
  simp (maxDischargeDepth := 12) [startL]
  by_cases h0 : t.2 = 0
  · simp (maxDischargeDepth := 12) [h0]
  · have h0' : ¬ (t.2 : Int) = 0 := by omega
    simp (maxDischargeDepth := 12) [h0, h0', h1, worksO, rRules, -List.getElem?_map]
    rw [hr]
    unfold rRule
    simp (maxDischargeDepth := 12)
    rw [lc_map' rPair (fun p => rSent ((h + p.1) % m, (p.2, t.2 - 1))) (ruleAt R t.1) rfl trivial (by unfold LIM; omega) ?_]
    · simp (maxDischargeDepth := 12) [rSent, rTask, Function.comp_def]
    · intro p hp
      have e : (h : Int) + p.1 = ((h + p.1 : Nat) : Int) := by push_cast; rfl
      have e2 : (t.2 : Int) - 1 = ((t.2 - 1 : Nat) : Int) := by omega
      have e3 : 0 < m := by omega
      simp (maxDischargeDepth := 12) [rPair, h1, worksO, e3, rSent, rTask, e2]
theorem sent_by_eq {S : Store} {w m h : Nat} {R : List Rule} {t : Nat × Nat} (hw : IsW S w m R) (hh : h < m) (ht : TaskOk R t) : m_sent_by [.ref w, .int h, rTask t] S = .ok (.tup ((sentL m R h t).map rSent)) S := by
  unfold m_sent_by
  have hb : belows (sl S) ((sentL m R h t).map rSent) = true := belows_map _ _ fun x _ => by simp [rSent, rTask]
  simp (maxDischargeDepth := 12) [startL, check_house_ok hw hh, check_task_ok hw ht, letters_of_eq hw ht, hb]
end KW
namespace KW
open Mp KQ
open PySem (Str)
/-! the table -/
def rInts (c : List Nat) : List Val := c.map fun x => Val.int (x : Nat)
def nth (c : List Nat) (i : Nat) : Nat := c.getD i 0
def addAt (c : List Nat) (i x : Nat) : List Nat := c.set i (nth c i + x)
def spread (m s : Nat) (c hk : List Nat) : List Nat := hk.zipIdx.foldl (fun c p => addAt c ((p.2 + s) % m) p.1) c
def start (m : Nat) : List Nat := 1 :: List.replicate (m - 1) 0
def row (m : Nat) (tb : List (List Nat)) (r : Rule) : List Nat := r.foldl (fun c p => spread m p.1 c (tb.getD p.2 [])) (start m)
def tab (m : Nat) (R : List Rule) : Nat → List (List Nat)
  | 0 => R.map fun _ => start m
  | n + 1 => R.map (row m (tab m R n))
def rTab (tb : List (List Nat)) : List Val := tb.map fun c => .tup (rInts c)
theorem addAt_len (c : List Nat) (i x : Nat) : (addAt c i x).length = c.length := by simp [addAt]
theorem spread_len (m s : Nat) (hk : List Nat) : ∀ c : List Nat, (spread m s c hk).length = c.length := by
  unfold spread
  generalize hk.zipIdx = l
  induction l with
  | nil => intro c; rfl
  | cons a r ih => intro c; rw [List.foldl_cons, ih, addAt_len]
theorem start_len {m : Nat} (h : 1 ≤ m) : (start m).length = m := by simp [start]; omega
theorem row_len {m : Nat} (h : 1 ≤ m) (tb : List (List Nat)) (r : Rule) : (row m tb r).length = m := by
  unfold row
  have : ∀ (r : Rule) (c : List Nat), (r.foldl (fun c p => spread m p.1 c (tb.getD p.2 [])) c).length = c.length := by
    intro r
    induction r with
    | nil => intro c; rfl
    | cons a r ih => intro c; rw [List.foldl_cons, ih, spread_len]
  rw [this, start_len h]
theorem tab_len (m : Nat) (R : List Rule) : ∀ n, (tab m R n).length = R.length
  | 0 => by simp [tab]
  | n + 1 => by simp [tab]
theorem tab_rows {m : Nat} (h : 1 ≤ m) (R : List Rule) (n : Nat) : ∀ c, c ∈ tab m R n → c.length = m := by
  intro c hc
  cases n with
  | zero =>
    simp only [tab, List.mem_map] at hc
    obtain ⟨_, _, rfl⟩ := hc
    exact start_len h
  | succ n =>
    simp only [tab, List.mem_map] at hc
    obtain ⟨r, _, rfl⟩ := hc
    exact row_len h _ r
theorem rInts_set (c : List Nat) (i x : Nat) : (rInts c).set i (.int (x : Nat)) = rInts (c.set i x) := by
  unfold rInts
  rw [List.map_set]
theorem rInts_get {c : List Nat} {i : Nat} (h : i < c.length) : (rInts c)[i]? = some (.int (nth c i : Nat)) := by
  unfold rInts nth
  simp [h]
@[simp] theorem rInts_len (c : List Nat) : (rInts c).length = c.length := by simp [rInts]
@[simp] theorem rInts_low (n : Nat) (c : List Nat) : belows n (rInts c) = true := belows_map _ _ fun _ _ => rfl
@[simp] theorem rTab_low (n : Nat) (c : List (List Nat)) : belows n (rTab c) = true := belows_map _ _ fun _ _ => by simp
/-- the innermost loop -/
theorem loop4 {S : Store} {w m s cr : Nat} {R : List Rule} {c hk : List Nat} {x1 x2 x3 x4 x5 x8 : Option Val} (hw : IsW S w m R) (hc : c.length = m) (hcr : sg S cr = some (.lst (rInts c))) (hne : ¬ cr = w) (hhk : hk.length < 100000) :
    forLoop (fun _ => True) (gTup (gsCons (gN 9) (gsCons (gN 10) gsNil))) m_table_of_b1 (hk.zipIdx.map fun p => .tup [.int (p.2 : Nat), .int (p.1 : Nat)]) [some (.ref w), x1, x2, x3, x4, x5, some (.ref cr), some (.int s), x8, none, none] S =
      .nx [some (.ref w), x1, x2, x3, x4, x5, some (.ref cr), some (.int s), x8, none, none] (ss S cr (.lst (rInts (spread m s c hk)))) := by
  have hm := hw.wf.m1
  have h1 := hw.at_
  have key := for_foldI (keep := fun _ => True) (g := gTup (gsCons (gN 9) (gsCons (gN 10) gsNil))) (b := m_table_of_b1) (fun p : Nat × Nat => .tup [.int (p.2 : Nat), .int (p.1 : Nat)])
    (fun _ : List Nat => [some (.ref w), x1, x2, x3, x4, x5, some (.ref cr), some (.int s), x8, none, none]) (fun c => ss S cr (.lst (rInts c))) (fun _ c => c.length = m) (fun c p => addAt c ((p.2 + s) % m) p.1) hk.zipIdx c (S0 := ss S cr (.lst (rInts c))) rfl rfl rfl hc (fun _ _ _ => trivial) ?_
  · have e : ss S cr (.lst (rInts c)) = S := by
      apply List.ext_getElem?
      intro i
      by_cases hi : i = cr
      · subst hi
        exact (sg_ss_same (S := S) (by rw [hcr]; rfl)).trans hcr.symm
      · exact sg_ss_ne (S := S) hi
    rw [e] at key
    exact key.1
  · intro i c p hp hl
    refine ⟨.inl ?_, by rw [addAt_len]; exact hl⟩
    have hlt : (p.2 + s) % m < c.length := by rw [hl]; exact Nat.mod_lt _ (by omega)
    obtain ⟨k, hk⟩ : ∃ k : Nat, k = (p.2 + s) % m := ⟨_, rfl⟩
    have e1 : ((p.2 : Int) + s) % m = (k : Int) := by rw [hk]; push_cast; rfl
    rw [← hk] at hlt ⊢
    have e2 := rInts_get hlt
    have hs : (sg S cr).isSome = true := by rw [hcr]; rfl
    have hm' : 0 < m := by omega
    have hnw : ¬ w = cr := fun e => hne e.symm
    unfold m_table_of_b1 addAt
    rw [← rInts_set]
    simp (maxDischargeDepth := 12) [hs, h1, hnw, worksO, hm', e1, e2]
    simp (maxDischargeDepth := 12) [hlt]
/-- a rule's turn -/
theorem loop3 {S : Store} {w m cr tr : Nat} {R : List Rule} {tb : List (List Nat)} {c : List Nat} {r : Rule} {x1 x3 x4 x5 : Option Val} (hw : IsW S w m R) (hc : c.length = m) (hcr : sg S cr = some (.lst (rInts c))) (hne : ¬ cr = w)
    (htr : sg S tr = some (.lst (rTab tb))) (hnt : ¬ cr = tr) (hr : ∀ p, p ∈ r → p.2 < tb.length) (hrow : ∀ c, c ∈ tb → c.length = m) :
    forLoop (fun _ => True) (gTup (gsCons (gN 7) (gsCons (gN 8) gsNil))) m_table_of_b2 (r.map rPair) [some (.ref w), x1, some (.ref tr), x3, x4, x5, some (.ref cr), none, none, none, none] S =
      .nx [some (.ref w), x1, some (.ref tr), x3, x4, x5, some (.ref cr), none, none, none, none] (ss S cr (.lst (rInts (r.foldl (fun c p => spread m p.1 c (tb.getD p.2 [])) c)))) := by
  have hm6 := hw.wf.m6
  have h1 := hw.at_
  have hs : (sg S cr).isSome = true := by rw [hcr]; rfl
  have hnw : ¬ w = cr := fun e => hne e.symm
  have hnt' : ¬ tr = cr := fun e => hnt e.symm
  have key := for_foldI (keep := fun _ => True) (g := gTup (gsCons (gN 7) (gsCons (gN 8) gsNil))) (b := m_table_of_b2) rPair
    (fun _ : List Nat => [some (.ref w), x1, some (.ref tr), x3, x4, x5, some (.ref cr), none, none, none, none]) (fun c => ss S cr (.lst (rInts c))) (fun _ c => c.length = m) (fun c p => spread m p.1 c (tb.getD p.2 [])) r c (S0 := ss S cr (.lst (rInts c))) rfl rfl rfl hc (fun _ _ _ => trivial) ?_
  · have e : ss S cr (.lst (rInts c)) = S := by
      apply List.ext_getElem?
      intro i
      by_cases hi : i = cr
      · subst hi
        exact (sg_ss_same (S := S) (by rw [hcr]; rfl)).trans hcr.symm
      · exact sg_ss_ne (S := S) hi
    rw [e] at key
    exact key.1
  · intro i c p hp hl
    refine ⟨.inl ?_, by rw [spread_len]; exact hl⟩
    have hp2 := hr p (List.mem_of_getElem? hp)
    obtain ⟨hk, ehk⟩ : ∃ hk, tb.getD p.2 [] = hk := ⟨_, rfl⟩
    have hmem : hk ∈ tb := by rw [← ehk, List.getD_eq_getElem?_getD, List.getElem?_eq_getElem hp2]; exact List.getElem_mem _
    have e2 : (rTab tb)[p.2]? = some (.tup (rInts hk)) := by
      unfold rTab
      rw [List.getElem?_map, List.getElem?_eq_getElem hp2, ← ehk, List.getD_eq_getElem?_getD, List.getElem?_eq_getElem hp2]
      rfl
    have hw' : IsW (ss S cr (.lst (rInts c))) w m R := ⟨by rw [sg_ss_ne hnw]; exact h1, hw.wf⟩
    have e4 := loop4 (s := p.1) (hk := hk) (x1 := x1) (x2 := some (.ref tr)) (x3 := x3) (x4 := x4) (x5 := x5) (x8 := some (.int p.2)) hw' hl (sg_ss_same hs) hne (by rw [hrow hk hmem]; omega)
    rw [ss_ss] at e4
    unfold m_table_of_b2
    rw [ehk]
    have e5 : enumL (rInts hk) = hk.zipIdx.map fun p => .tup [.int (p.2 : Nat), .int (p.1 : Nat)] := by unfold rInts; rw [enumL_map]
    simp (maxDischargeDepth := 12) [rPair, hs, hnt', htr, e2, e5, e4]
theorem rep_flat (k : Nat) (v : Val) : (List.replicate k [v]).flatten = List.replicate k v := by
  induction k with
  | zero => rfl
  | succ k ih => rw [List.replicate_succ, List.flatten_cons, ih]; rfl
theorem start_rep (m : Nat) : Val.int 1 :: List.replicate (m - 1) (Val.int 0) = rInts (start m) := by
  unfold rInts start
  simp
theorem loop2 {S : Store} {w m tr lr : Nat} {R : List Rule} {tb acc : List (List Nat)} {f1 f3 : Int} {x5 : Option Val} (hw : IsW S w m R) (htr : sg S tr = some (.lst (rTab tb))) (hlr : sg S lr = some (.lst (rTab acc))) (hlw : ¬ lr = w) (hlt : ¬ lr = tr)
    (htb : tb.length = R.length) (hrow : ∀ c, c ∈ tb → c.length = m) (hacc : acc.length < 1000) :
    ∃ x5', forLoop (fun _ => True) (gN 5) m_table_of_b3 (R.map rRule) [some (.ref w), some (.int f1), some (.ref tr), some (.int f3), some (.ref lr), x5, none, none, none, none, none] S =
      .nx [some (.ref w), some (.int f1), some (.ref tr), some (.int f3), some (.ref lr), x5', none, none, none, none, none] (ss S lr (.lst (rTab (acc ++ R.map (row m tb))))) := by
  have hm := hw.wf.m1
  have hm6 := hw.wf.m6
  have h1 := hw.at_
  have hk6 := hw.wf.k6
  have hs : (sg S lr).isSome = true := by rw [hlr]; rfl
  have hlw' : ¬ w = lr := fun e => hlw e.symm
  have hlt' : ¬ tr = lr := fun e => hlt e.symm
  have w1 : w < sl S := sg_lt h1
  have l1 : lr < sl S := sg_lt hlr
  have t1 : tr < sl S := sg_lt htr
  have n1 : ¬ sl S = w := by omega
  have n2 : ¬ sl S = tr := by omega
  have n3 : ¬ sl S = lr := by omega
  have n3' : ¬ lr = sl S := by omega
  have key := for_foldI (keep := fun _ => True) (g := gN 5) (b := m_table_of_b3) rRule
    (fun s : Option Val × List (List Nat) => [some (.ref w), some (.int f1), some (.ref tr), some (.int f3), some (.ref lr), s.1, none, none, none, none, none]) (fun s => ss S lr (.lst (rTab s.2))) (fun i s => (s.1 = x5 ∨ ∃ r, s.1 = some (rRule r)) ∧ s.2.length = acc.length + i) (fun s r => (some (rRule r), s.2 ++ [row m tb r])) R (x5, acc) (S0 := ss S lr (.lst (rTab acc))) rfl rfl rfl ⟨.inl rfl, rfl⟩ (fun _ _ _ => trivial) ?_
  · have e : ss S lr (.lst (rTab acc)) = S := by
      apply List.ext_getElem?
      intro i
      by_cases hi : i = lr
      · subst hi
        exact (sg_ss_same (S := S) hs).trans hlr.symm
      · exact sg_ss_ne (S := S) hi
    rw [e] at key
    have ef : ∀ (l : List Rule) (s : Option Val × List (List Nat)), (l.foldl (fun s r => (some (rRule r), s.2 ++ [row m tb r])) s).2 = s.2 ++ l.map (row m tb) := by
      intro l
      induction l with
      | nil => intro s; simp
      | cons a r ih => intro s; rw [List.foldl_cons, ih]; simp
    have := key.1
    rw [ef] at this
    exact ⟨_, this⟩
  · intro i s r hr hp
    obtain ⟨hx, hl⟩ := hp
    obtain ⟨x, a⟩ := s
    have hi := (List.getElem?_eq_some_iff.mp hr).1
    have hrm := List.mem_of_getElem? hr
    refine ⟨.inl ?_, .inr ⟨r, rfl⟩, by simp at hl ⊢; omega⟩
    have hw3 : IsW (sp (ss S lr (.lst (rTab a))) (.lst (rInts (start m)))) w m R := ⟨by rw [sg_sp_lt (by simpa using w1), sg_ss_ne hlw']; exact h1, hw.wf⟩
    have e3 := loop3 (S := sp (ss S lr (.lst (rTab a))) (.lst (rInts (start m)))) (cr := sl S) (tr := tr) (r := r) (x1 := some (.int f1)) (x3 := some (.int f3)) (x4 := some (.ref lr)) (x5 := some (rRule r)) hw3 (start_len hm) (by have := @sg_sp_new (ss S lr (.lst (rTab a))) (.lst (rInts (start m))); rw [sl_ss] at this; exact this) n1
      (by rw [sg_sp_lt (by simpa using t1), sg_ss_ne hlt']; exact htr) n2 (fun p hp => by rw [htb]; exact (hw.wf.ok r p hrm hp).2) hrow
    have er : row m tb r = r.foldl (fun c p => spread m p.1 c (tb.getD p.2 [])) (start m) := rfl
    rw [← er, ss_sp_new' (by simp)] at e3
    have hz : a.length < 16777216 := by simp at hl; omega
    have hmm : ((m : Int) - 1).toNat = m - 1 := by omega
    have hb1 : (-1000 : Int) ≤ (m : Int) - 1 := by omega
    have hb2 : (m : Int) - 1 ≤ 1000 := by omega
    have hb3 : 1 + (m - 1) ≤ 16777216 := by omega
    have hra : rTab (a ++ [row m tb r]) = rTab a ++ [.tup (rInts (row m tb r))] := by simp [rTab]
    have hlen : (rTab a).length = a.length := by simp [rTab]
    have hsr : m_table_of_b3 [some (.ref w), some (.int f1), some (.ref tr), some (.int f3), some (.ref lr), some (rRule r), none, none, none, none, none] (ss S lr (.lst (rTab a))) =
        .nx [some (.ref w), some (.int f1), some (.ref tr), some (.int f3), some (.ref lr), some (rRule r), none, none, none, none, none] (ss S lr (.lst (rTab (a ++ [row m tb r])))) := by
      unfold m_table_of_b3
      rw [hra]
      simp (maxDischargeDepth := 12) [hs, hlw', h1, worksO, hmm, hb1, hb2, hb3, rep_flat, start_rep]
      have eit : ∀ T, itOf (rRule r) T = .ok ⟨r.map rPair, fun _ => True⟩ T := fun _ => rfl
      have hbr : ∀ n, below n (rRule r) = true := fun n => belows_map _ _ fun p _ => by simp [rPair]
      simp (maxDischargeDepth := 12) [eit, e3, hs, n3', hz, hlen, hbr, w1, t1, l1]
    simp (maxDischargeDepth := 12) [hsr]
end KW

/-! KW1N: the table, whole; how many tasks come. -/
namespace KW
open Mp KQ
open PySem (Str)
/-- objects one behind the other -/
def sps (S : Store) (f : Nat → Ob) : Nat → Store
  | 0 => sp S (f 0)
  | n + 1 => sp (sps S f n) (f (n + 1))
theorem sps_len (S : Store) (f : Nat → Ob) : ∀ n, sl (sps S f n) = sl S + n + 1
  | 0 => by simp [sps]
  | n + 1 => by simp [sps, sps_len S f n]; omega
theorem sps_last (S : Store) (f : Nat → Ob) : ∀ n, sg (sps S f n) (sl S + n) = some (f n)
  | 0 => by simp [sps]
  | n + 1 => by
    unfold sps
    exact sg_sp_new' (by rw [sps_len]; omega)
theorem sps_grow (S : Store) (f : Nat → Ob) : ∀ n, Grow S (sps S f n)
  | 0 => Grow.sp _ _
  | n + 1 => (sps_grow S f n).trans (Grow.sp _ _)
theorem replaced_start {S : Store} {m : Nat} (h : 1 ≤ m) (h6 : m ≤ 6) : m_replaced [.tup (List.replicate m (.int 0)), .int 0, .int 1] S = .ok (.tup (rInts (start m))) S := by
  have e1 : cutL (List.replicate m (Val.int 0)) none (some 0) = [] := by
    unfold cutL
    have a : HT.sIx m 0 (none : Option Int) = 0 := rfl
    have b : HT.sIx m m (some 0) = 0 := by unfold HT.sIx; simp
    simp [a, b]
  have e2 : cutL (List.replicate m (Val.int 0)) (some 1) none = List.replicate (m - 1) (.int 0) := by
    rw [cutL_drop (by decide)]
    simp
  have hb3 : 1 + (m - 1) ≤ 16777216 := by omega
  unfold m_replaced
  simp (maxDischargeDepth := 12) [startL, e1, e2, hb3]
  rw [start_rep]
theorem table_of_eq {S : Store} {w m n : Nat} {R : List Rule} (hw : IsW S w m R) (hn : n ≤ 12) : m_table_of [.ref w, .int n] S = .ok (.ref (sl S)) (sp S (.lst (rTab (tab m R n)))) := by
  have hm := hw.wf.m1
  have hm6 := hw.wf.m6
  have hk6 := hw.wf.k6
  have h1 := hw.at_
  have w1 := sg_lt h1
  let f : Nat → Ob := fun i => .lst (rTab (tab m R i))
  have wg : ∀ i, sg (sps S f i) w = some (worksO m R) := fun i => (sps_grow S f i).sg h1
  obtain ⟨L', S', e, x5, rfl, rfl⟩ := forLoop_nx (keep := fun _ => True) (g := gN 3) (b := m_table_of_b4)
    (fun i L S' => ∃ x5 : Option Val, L = [some (.ref w), some (.int n), some (.ref (sl S + i)), none, none, x5, none, none, none, none, none] ∧ S' = sps S f i) (xs := rangeL 0 n) (L := [some (.ref w), some (.int n), some (.ref (sl S)), none, none, none, none, none, none, none, none]) (S := sps S f 0)
    ⟨none, rfl, rfl⟩ (fun _ _ _ _ _ => trivial) (fun i x L S1 hx q => by
      obtain ⟨x5, rfl, rfl⟩ := q
      obtain ⟨hi, rfl⟩ := rangeL_at hx
      refine ⟨[some (.ref w), some (.int n), some (.ref (sl S + i)), some (.int (0 + (i : Nat))), none, x5, none, none, none, none, none], sps S f i, ?_⟩
      have hwn : IsW (sp (sps S f i) (.lst [])) w m R := ⟨by rw [sg_sp_lt (sg_lt (wg i))]; exact wg i, hw.wf⟩
      have hl := sps_len S f i
      obtain ⟨x5', e2⟩ := loop2 (S := sp (sps S f i) (.lst [])) (w := w) (m := m) (tr := sl S + i) (lr := sl S + i + 1) (R := R) (tb := tab m R i) (acc := []) (f1 := n) (f3 := 0 + (i : Nat)) (x5 := x5) hwn
        (by rw [sg_sp_lt (by omega)]; exact sps_last S f i) (sg_sp_new' hl.symm) (by omega) (by omega) (tab_len m R i) (tab_rows hm R i) (by simp)
      rw [ss_sp_new' hl.symm] at e2
      refine ⟨[some (.ref w), some (.int n), some (.ref (sl S + (i + 1))), none, none, x5', none, none, none, none, none], sps S f (i + 1), by simp, .inl ?_, x5', rfl, rfl⟩
      unfold m_table_of_b4
      have er : ∀ T, itOf (rRules R) T = .ok ⟨R.map rRule, fun _ => True⟩ T := fun _ => rfl
      have wg' := wg i
      simp only [Int.zero_add] at e2
      simp (maxDischargeDepth := 12) [hl, wg', worksO, er, e2]
      exact ⟨by omega, rfl⟩)
  rw [rangeL_len] at e
  have er : ∀ T, itOf (rRules R) T = .ok ⟨R.map rRule, fun _ => True⟩ T := fun _ => rfl
  have b1 : (-1000 : Int) ≤ m := by omega
  have b2 : (m : Int) ≤ 1000 := by omega
  unfold m_table_of
  simp (maxDischargeDepth := 12) [startL, h1, worksO, er]
  rw [lc_map' rRule (fun _ => .tup (rInts (start m))) R rfl trivial (by unfold LIM; omega) ?_]
  · have e0 : sps S f 0 = sp S (.lst (R.map fun _ => .tup (rInts (start m)))) := by
      simp [sps, f, rTab, tab, Function.comp_def]
    rw [e0] at e
    have gg := sps_grow S f n
    have g1 := gcOk_grow gg
    have g2 := cut_grow gg
    have g3 := sps_last S f n
    have hn' : n < 1000000 := by omega
    simp (maxDischargeDepth := 12) [e, hn', g1, g2, g3, f]
  · intro r hr
    simp (maxDischargeDepth := 12) [h1, worksO, b1, b2, rep_flat, replaced_start hm hm6]
def tabAt (m : Nat) (R : List Rule) (t : Nat × Nat) : List Nat := (tab m R t.2).getD t.1 []
def total (m : Nat) (R : List Rule) (t : Nat × Nat) : Nat := (tabAt m R t).sum
theorem sum_cast (c : List Nat) : (c.map fun x => ((x : Nat) : Int)).sum = (c.sum : Nat) := by
  induction c with
  | nil => rfl
  | cons a r ih => rw [List.map_cons, List.sum_cons, ih, List.sum_cons]; push_cast; rfl
theorem intsO_rInts (c : List Nat) : intsO (rInts c) = some (c.map fun x => ((x : Nat) : Int)) := by
  unfold rInts
  exact intsO_int _ _
theorem rTab_at {m : Nat} {R : List Rule} {t : Nat × Nat} (ht : TaskOk R t) : (rTab (tab m R t.2))[t.1]? = some (.tup (rInts (tabAt m R t))) := by
  have h : t.1 < (tab m R t.2).length := by rw [tab_len]; exact ht.1
  unfold rTab tabAt
  simp [h]
theorem tabAt_len {m : Nat} {R : List Rule} {t : Nat × Nat} (hm : 1 ≤ m) (ht : TaskOk R t) : (tabAt m R t).length = m := by
  have h : t.1 < (tab m R t.2).length := by rw [tab_len]; exact ht.1
  apply tab_rows hm R t.2
  unfold tabAt
  rw [List.getD_eq_getElem?_getD, List.getElem?_eq_getElem h]
  exact List.getElem_mem _
theorem rTask_0 (t : Nat × Nat) : rTask t = .tup [.int t.1, .int t.2] := rfl
theorem many_of_eq {S : Store} {w m : Nat} {R : List Rule} {t : Nat × Nat} (hw : IsW S w m R) (ht : TaskOk R t) : m_many_of [.ref w, rTask t] S = .ok (.int (total m R t : Nat)) S := by
  have e := table_of_eq hw ht.2
  have e2 := rTab_at (m := m) ht
  unfold m_many_of
  rw [rTask_0]
  simp (maxDischargeDepth := 12) [startL, e, e2, intsO_rInts, sum_cast]
  rfl
theorem many_tasks_eq {S : Store} {w m : Nat} {R : List Rule} {t : Nat × Nat} (hw : IsW S w m R) (ht : TaskOk R t) : m_many_tasks [.ref w, rTask t] S = .ok (.int (total m R t : Nat)) S := by
  unfold m_many_tasks
  simp (maxDischargeDepth := 12) [startL, check_task_ok hw ht, many_of_eq hw ht]
/-- what each house does of all that comes of a task at a house -/
def dueL (m : Nat) (R : List Rule) (h : Nat) (t : Nat × Nat) : List Nat := (List.range m).map fun x => nth (tabAt m R t) ((x + m - h) % m)
theorem tasks_of_eq {S : Store} {w m h : Nat} {R : List Rule} {t : Nat × Nat} (hw : IsW S w m R) (hh : h < m) (ht : TaskOk R t) : m_tasks_of [.ref w, .int h, rTask t] S = .ok (.tup (rInts (dueL m R h t))) S := by
  have h1 := hw.at_
  have hm := hw.wf.m1
  have hm6 := hw.wf.m6
  have e := table_of_eq hw ht.2
  have e2 := rTab_at (m := m) ht
  have c1 := check_house_ok hw hh
  have c2 := check_task_ok hw ht
  have h1' : sg (sp S (.lst (rTab (tab m R t.2)))) w = some (worksO m R) := by rw [sg_sp_lt (sg_lt h1)]; exact h1
  unfold m_tasks_of
  rw [rTask_0] at c2 ⊢
  have hm' : m < 1000000 := by omega
  simp (maxDischargeDepth := 12) [startL, c1, c2, e, e2, h1', worksO, hm']
  rw [lc_map' (fun (i : Nat) => Val.int i) (fun x => .int (nth (tabAt m R t) ((x + m - h) % m) : Nat)) (List.range m) (rangeL0 m) trivial (by simp; omega) ?_]
  · simp (maxDischargeDepth := 12) [dueL, rInts, Function.comp_def]
  · intro x hx
    have hx' : x < m := by simpa using hx
    obtain ⟨k, hk⟩ : ∃ k : Nat, k = (x + m - h) % m := ⟨_, rfl⟩
    have e1 : ((x : Int) - h) % m = (k : Int) := by
      rw [hk, Int.natCast_emod]
      have : ((x + m - h : Nat) : Int) = (x : Int) - h + m := by omega
      rw [this, Int.add_emod_right]
    have hlt : k < (tabAt m R t).length := by rw [tabAt_len hm ht, hk]; exact Nat.mod_lt _ (by omega)
    have e3 := rInts_get hlt
    have hm0 : 0 < m := by omega
    rw [← hk]
    simp (maxDischargeDepth := 12) [h1', worksO, hm0, e1, e3]
end KW

/-! KW1O: the longest way. -/
namespace KW
open Mp KQ
open PySem (Str)
def maxN (l : List Nat) : Nat := l.foldr max 0
theorem maxL_cast : ∀ l : List Nat, l ≠ [] → maxL (l.map fun x => ((x : Nat) : Int)) = some ((maxN l : Nat) : Int)
  | [], h => absurd rfl h
  | [a], _ => by simp [maxL, maxN]
  | a :: b :: r, _ => by
    have ih := maxL_cast (b :: r) (by simp)
    rw [List.map_cons]
    unfold maxL
    rw [ih]
    dsimp only
    have : maxN (a :: b :: r) = max a (maxN (b :: r)) := rfl
    rw [this]
    split <;> (congr 1; omega)
theorem maxL_cast0 (l : List Nat) : maxL (0 :: (l.map fun x => ((x : Nat) : Int))) = some ((maxN l : Nat) : Int) := by
  have := maxL_cast (0 :: l) (by simp)
  have e : maxN (0 :: l) = maxN l := by show max 0 (maxN l) = maxN l; omega
  rw [e] at this
  exact this
def longRow (L : List Nat) (r : Rule) : Nat := 1 + maxN (r.map fun p => nth L p.2)
def longL (R : List Rule) : Nat → List Nat
  | 0 => R.map fun _ => 1
  | n + 1 => R.map (longRow (longL R n))
theorem longL_len (R : List Rule) : ∀ n, (longL R n).length = R.length
  | 0 => by simp [longL]
  | n + 1 => by simp [longL]
def longest (R : List Rule) (t : Nat × Nat) : Nat := nth (longL R t.2) t.1
/-- one rule's turn -/
theorem long_one {T : Store} {hr : Nat} {L : List Nat} {r : Rule} {l0 l1 l3 : Option Val} (h : sg T hr = some (.lst (rInts L))) (hl : r.length ≤ 4) (hk : ∀ p, p ∈ r → p.2 < L.length) :
    mG (m2 pAdd (mC (.int 1)) (mB fMaxL (aCons (m2 pAdd (mLst (aCons (mC (.int 0)) aNil)) (mLc (iV (mV 4)) [5, 6] (gTup (gsCons (gN 5) (gsCons (gN 6) gsNil))) tYes (m2 pIx (mV 2) (mV 6)))) aNil))) [l0, l1, some (.ref hr), l3, some (rRule r), none, none] T = .ok (.int (longRow L r : Nat)) T := by
  have hT := sg_lt h
  have hs : (sg T hr).isSome = true := by rw [h]; rfl
  have eit : ∀ T, itOf (rRule r) T = .ok ⟨r.map rPair, fun _ => True⟩ T := fun _ => rfl
  simp (maxDischargeDepth := 12) [eit]
  rw [lc_map' rPair (fun p => .int (nth L p.2 : Nat)) r rfl trivial (by unfold LIM; omega) ?_]
  · have hz : 1 + r.length ≤ 16777216 := by omega
    have hz2 : r.length + 1 ≤ 16777216 := by omega
    have e : (r.map fun p => Val.int (nth L p.2 : Nat)) = (r.map fun p => nth L p.2).map fun x => Val.int (x : Nat) := by rw [List.map_map]; rfl
    rw [e]
    have e2 : (List.map (fun x : Nat => Val.int (x : Int)) (r.map fun p => nth L p.2)) = ((r.map fun p => nth L p.2).map fun x => ((x : Nat) : Int)).map Val.int := by simp [List.map_map, Function.comp_def]
    rw [e2]
    generalize hg : (r.map fun p => nth L p.2) = g
    have hgl : g.length = r.length := by rw [← hg]; simp
    have hz3 : g.length + 1 ≤ 16777216 := by omega
    have hz4 : 1 + g.length ≤ 16777216 := by omega
    simp (maxDischargeDepth := 12) [hz3, hz4, maxL_cast0, -List.map_map]
    unfold longRow
    rw [hg]
    push_cast
    rfl
  · intro p hp
    have e3 := rInts_get (hk p hp)
    have n1 : ¬ hr = sl T := by omega
    simp (maxDischargeDepth := 12) [rPair, hs, h, e3]
theorem longest_way_eq {S : Store} {w m : Nat} {R : List Rule} {t : Nat × Nat} (hw : IsW S w m R) (ht : TaskOk R t) : m_longest_way [.ref w, rTask t] S = .ok (.int (longest R t : Nat)) S := by
  have hm := hw.wf.m1
  have hk6 := hw.wf.k6
  have h1 := hw.at_
  let f : Nat → Ob := fun i => .lst (rInts (longL R i))
  have wg : ∀ i, sg (sps S f i) w = some (worksO m R) := fun i => (sps_grow S f i).sg h1
  have er : ∀ T, itOf (rRules R) T = .ok ⟨R.map rRule, fun _ => True⟩ T := fun _ => rfl
  obtain ⟨L', S', e, rfl, rfl⟩ := forLoop_nx (keep := fun _ => True) (g := gN 3) (b := m_longest_way_b1)
    (fun i L S' => L = [some (.ref w), some (rTask t), some (.ref (sl S + i)), none, none, none, none] ∧ S' = sps S f i) (xs := rangeL 0 t.2) (L := [some (.ref w), some (rTask t), some (.ref (sl S)), none, none, none, none]) (S := sps S f 0)
    ⟨rfl, rfl⟩ (fun _ _ _ _ _ => trivial) (fun i x L S1 hx q => by
      obtain ⟨rfl, rfl⟩ := q
      have hl := sps_len S f i
      have wg' := wg i
      refine ⟨[some (.ref w), some (rTask t), some (.ref (sl S + i)), some x, none, none, none], sps S f i, [some (.ref w), some (rTask t), some (.ref (sl S + (i + 1))), none, none, none, none], sps S f (i + 1), by simp, .inl ?_, rfl, rfl⟩
      unfold m_longest_way_b1
      simp (maxDischargeDepth := 12) [wg', worksO, er, -mG_app]
      rw [lc_map' rRule (fun r => .int (longRow (longL R i) r : Nat)) R rfl trivial (by unfold LIM; omega) ?_]
      · simp (maxDischargeDepth := 12) [hl]
        refine ⟨by omega, ?_⟩
        show _ = sp (sps S f i) (f (i + 1))
        simp [f, longL, rInts, Function.comp_def]
      · intro r hr
        have e := long_one (l0 := some (.ref w)) (l1 := some (rTask t)) (l3 := some x) (sps_last S f i) (hw.wf.len r hr) (fun p hp => by rw [longL_len]; exact (hw.wf.ok r p hr hp).2)
        simp (maxDischargeDepth := 12) [e, -mG_app])
  rw [rangeL_len] at e
  have gg := sps_grow S f t.2
  have g1 := gcOk_grow gg
  have g2 := cut_grow gg
  have g3 := sps_last S f t.2
  have hn' : t.2 < 1000000 := by have := ht.2; omega
  have c2 := check_task_ok hw ht
  have e0 : sps S f 0 = sp S (.lst (List.replicate R.length (.int 1))) := by
    show sp S (f 0) = _
    have : rInts (longL R 0) = List.replicate R.length (.int 1) := by
      unfold rInts longL
      rw [List.map_map]
      apply List.ext_getElem?
      intro i
      simp only [List.getElem?_map, List.getElem?_replicate]
      by_cases hi : i < R.length
      · simp [hi]
      · simp [hi]
    rw [← this]
  rw [e0] at e
  have hl : t.1 < (longL R t.2).length := by rw [longL_len]; exact ht.1
  have e3 := rInts_get hl
  have b1 : (-1000 : Int) ≤ R.length := by omega
  have b2 : (R.length : Int) ≤ 1000 := by omega
  unfold m_longest_way
  rw [rTask_0] at c2 e ⊢
  simp (maxDischargeDepth := 12) [startL, c2, h1, worksO, rRules, b1, b2, rep_flat, hn', e, g1, g2, g3, f, e3]
  rfl
end KW

/-! KA1L: the drawing of the works' laws. -/
namespace KA
open Mp KQ KW
open PySem (Str)
theorem take_spec {S : Store} {m : Int} (H : Hand S) (h0 : 0 < m) (h1 : m < 1073741824) : ∃ (r : Int) (o : Ob), m_law_take [.ref 1, .int m] S = .ok (.int r) (ss S 1 o) ∧ 0 ≤ r ∧ r < m ∧ HOb S o := by
  obtain ⟨ns, a, b, s, k, e1, e2, ha, hb⟩ := id H
  have hl := H.lt
  have hp := H.pos
  have es : (sg S 1).isSome = true := by rw [e1]; rfl
  have mp : ∀ x : Int, 0 ≤ x % m ∧ x % m < m := fun x => ⟨Int.emod_nonneg x (by omega), Int.emod_lt_of_pos x h0⟩
  obtain ⟨r, hr⟩ : ∃ r, m_law_take [.ref 1, .int m] S = r := ⟨_, rfl⟩
  have hr' := hr
  unfold m_law_take at hr
  by_cases hb0 : b = 0
  · subst hb0
    by_cases hal : a < ns.length
    · by_cases hbig : (1000000000000000000 : Int) ≤ ns[a]
      · have hpos : (0 : Int) < ns[a] := by omega
        simp [startL, e1, e2, cR1, cR2, cR3, cR4, cM1, hal, hbig, hpos, h0, h1, hp, hl] at hr
        rw [hr', ← hr]
        exact ⟨_, _, rfl, (mp _).1, (mp _).2, HOb.mk' (a := a + 1) es e2 (by omega) (Int.ediv_nonneg (by omega) (by omega)) (by push_cast; rfl)⟩
      · simp [startL, e1, e2, cR1, cR2, cR3, cR4, cM1, hal, hbig, h0, h1, hp, hl] at hr
        rw [hr', ← hr]
        exact ⟨_, _, rfl, (mp _).1, (mp _).2, HOb.mk' (a := a + 1) es e2 (by omega) (by omega) (by push_cast; rfl)⟩
    · simp [startL, e1, e2, cR1, cR2, cR3, cR4, cM1, hal, h0, h1, hp, hl] at hr
      rw [hr', ← hr]
      exact ⟨_, _, rfl, (mp _).1, (mp _).2, HOb.mk' (a := a) es e2 (by omega) (by omega) rfl⟩
  · have hpos : 0 < b := by omega
    simp [startL, e1, e2, cR1, cR2, cR3, cR4, cM1, hb0, hpos, h0, h1, hp, hl] at hr
    rw [hr', ← hr]
    exact ⟨_, _, rfl, (mp _).1, (mp _).2, HOb.mk' (a := a) es e2 (by omega) (Int.ediv_nonneg (by omega) (by omega)) rfl⟩
theorem hand_spec (ns : List Int) : ∃ S, m_law_hand [.fl ns] [] = .ok (.ref 1) S ∧ Hand S ∧ sl S = 2 := by
  obtain ⟨q, hq⟩ : ∃ q, m_law_hand [.fl ns] [] = q := ⟨_, rfl⟩
  have hq' := hq
  have s0 : sl ([] : Store) = 0 := rfl
  unfold m_law_hand at hq
  simp (maxDischargeDepth := 12) [startL, s0] at hq
  rw [hq', ← hq]
  exact ⟨_, rfl, ⟨ns, 0, 0, 1, 0, rfl, rfl, Nat.zero_le _, by decide⟩, rfl⟩
/-- a take at a store that has grown -/
theorem take_on {S T : Store} {m : Int} (H : Hand S) (h1' : sg T 1 = sg S 1) (h0' : sg T 0 = sg S 0) (h0 : 0 < m) (h1 : m < 1073741824) : ∃ (r : Int) (o : Ob), m_law_take [.ref 1, .int m] T = .ok (.int r) (ss T 1 o) ∧ 0 ≤ r ∧ r < m ∧ HOb S o := by
  have HT := H.of h1' h0'
  obtain ⟨r, o, e, r0, r1, h⟩ := take_spec (S := T) (m := m) HT h0 h1
  refine ⟨r, o, e, r0, r1, h.1.of ?_ ?_, h.2⟩
  · rw [sg_ss_same (by obtain ⟨_, _, _, _, _, q, _⟩ := H; rw [q]; rfl), sg_ss_same (by obtain ⟨_, _, _, _, _, q, _⟩ := HT; rw [q]; rfl)]
  · rw [sg_ss_ne (by decide), sg_ss_ne (by decide), h0']
theorem atI_in {α : Type} {vs : List α} {r : Int} (h0 : 0 ≤ r) (h1 : r < vs.length) : ∃ v, L2.atI vs r = some v ∧ v ∈ vs := by
  obtain ⟨k, rfl⟩ : ∃ k : Nat, r = k := ⟨r.toNat, by omega⟩
  have hk : k < vs.length := by omega
  exact ⟨vs[k], by rw [atI_nat]; simp [hk], List.getElem_mem _⟩
/-- a pick of things that stand in a list at i -/
theorem pick_on {S T : Store} {i : Nat} {vs : List Val} (H : Hand S) (h1' : sg T 1 = sg S 1) (h0' : sg T 0 = sg S 0) (hi : sg T i = some (.lst vs)) (hi1 : ¬ i = 1) (h0 : 0 < vs.length) (h1 : vs.length < 100000) (hb : belows (sl T) vs = true) :
    ∃ (v : Val) (o : Ob), m_law_pick [.ref 1, .ref i] T = .ok v (ss T 1 o) ∧ v ∈ vs ∧ HOb S o := by
  obtain ⟨r, o, e, r0, r1, h⟩ := take_on (m := (vs.length : Int)) H h1' h0' (by omega) (by omega)
  obtain ⟨v, hv, hm⟩ := atI_in r0 r1
  have lo := h.2
  have HT := H.of h1' h0'
  have hbv : below (sl T) v = true := by
    rw [belows_all, List.all_eq_true] at hb
    exact hb v hm
  refine ⟨v, o, ?_, hm, h⟩
  unfold m_law_pick
  have hp := HT.pos
  have hl := HT.lt
  simp (maxDischargeDepth := 12) [startL, hi, e, hi1, hv, hbv, lo, hp, hl]
/-- a pick of written things -/
theorem pick_lit {S : Store} {L : Loc} {a : MA} {vs : List Val} (H : Hand S) (ha : a L S = .ok vs S) (hL : L[0]? = some (some (.ref 1))) (h0 : 0 < vs.length) (h1 : vs.length < 100000) (hb : ∀ n, belows n vs = true) :
    ∃ (v : Val) (o : Ob), mG (mA m_law_pick (aCons (mV 0) (aCons (mLst a) aNil))) L S = .ok v (ss S 1 o) ∧ v ∈ vs ∧ HOb S o := by
  have hp := H.pos
  have hl := H.lt
  have hne : ¬ sl S = 1 := by omega
  have h1s : (sg S 1).isSome = true := by obtain ⟨_, _, _, _, _, q, _⟩ := H; rw [q]; rfl
  have h0s : (sg S 0).isSome = true := by obtain ⟨_, _, _, _, _, _, q, _⟩ := H; rw [q]; rfl
  obtain ⟨v, o, e, hm, h⟩ := pick_on (S := S) (T := sp S (.lst vs)) (i := sl S) H (by simp [h1s]) (by simp [h0s]) sg_sp_new hne h0 h1 (hb _)
  have lo := h.2
  have hz : vs.length ≤ 16777216 := by omega
  have hbv : below (sl S) v = true := by
    have := hb (sl S)
    rw [belows_all, List.all_eq_true] at this
    exact this v hm
  refine ⟨v, o, ?_, hm, h⟩
  simp (maxDischargeDepth := 12) [ha, getL_some hL, hz, e, hbv, lo, hp, hl]
end KA

/-! KA1M: drawn rules, works, tasks. -/
namespace KA
open Mp KQ KW
open PySem (Str)
/-- drawn pairs -/
theorem pairs_spec {S : Store} {L : Loc} {m k : Nat} {xs : List Val} (H : Hand S) (hm : 0 < m ∧ m < 1000) (hk : 0 < k ∧ k < 1000) (hL0 : L[0]? = some (some (.ref 1))) (hL1 : L[1]? = some (some (.int m))) (hL2 : L[2]? = some (some (.int k))) (hx : xs.length < 1000) :
    ∃ (ps : List (Nat × Nat)) (o : Ob), lcLoop (fun _ => True) L (gN 7) tYes (mTup (aCons (mA KA.m_law_take (aCons (mV 0) (aCons (mV 1) aNil))) (aCons (mA KA.m_law_take (aCons (mV 0) (aCons (mV 2) aNil))) aNil))) xs [] S = .ok (ps.map rPair) (ss S 1 o) ∧ HOb S o ∧ ps.length = xs.length ∧ ∀ p, p ∈ ps → p.1 < m ∧ p.2 < k := by
  obtain ⟨ws, S', e, ps, o, rfl, rfl, ho, hl, hb⟩ := lcLoop_inv (keep := fun _ => True) (L := L) (g := gN 7) (c := tYes) (e := mTup (aCons (mA KA.m_law_take (aCons (mV 0) (aCons (mV 1) aNil))) (aCons (mA KA.m_law_take (aCons (mV 0) (aCons (mV 2) aNil))) aNil)))
    (fun i acc S' => ∃ (ps : List (Nat × Nat)) (o : Ob), acc = ps.map rPair ∧ S' = ss S 1 o ∧ HOb S o ∧ ps.length = i ∧ ∀ p, p ∈ ps → p.1 < m ∧ p.2 < k) (xs := xs) (S := S)
    (by obtain ⟨o, e, h⟩ := H.same; exact ⟨[], o, rfl, e.symm, h, rfl, by simp⟩) (fun _ _ S' _ _ => trivial) (fun i x acc S' hx' q => by
      obtain ⟨ps, o, rfl, rfl, ho, hl, hb⟩ := q
      obtain ⟨r, o2, e, r0, r1, h2⟩ := take_spec (S := ss S 1 o) (m := m) ho.1 (by omega) (by omega)
      rw [ss_ss] at e
      obtain ⟨r', o3, e', r0', r1', h3⟩ := take_spec (S := ss S 1 o2) (m := k) h2.trans.1 (by omega) (by omega)
      rw [ss_ss] at e'
      have hi := (List.getElem?_eq_some_iff.mp hx').1
      obtain ⟨a, rfl⟩ : ∃ a : Nat, r = a := ⟨r.toNat, by omega⟩
      obtain ⟨b, rfl⟩ : ∃ b : Nat, r' = b := ⟨r'.toNat, by omega⟩
      refine ⟨L.set 7 (some x), ss S 1 o, ss S 1 o, rfl, .inl ⟨rfl, rPair (a, b), ss S 1 o3, ?_, by rw [List.length_map, hl]; unfold LIM; omega, ps ++ [(a, b)], o3, by simp, rfl, ⟨h3.1 |> fun q => by rw [ss_ss] at q; exact q, h3.2⟩, by simp [hl], fun p hp => ?_⟩⟩
      · have g0 : (L.set 7 (some x))[0]? = some (some (.ref 1)) := by rw [List.getElem?_set_ne (by omega)]; exact hL0
        have g1 : (L.set 7 (some x))[1]? = some (some (.int m)) := by rw [List.getElem?_set_ne (by omega)]; exact hL1
        have g2 : (L.set 7 (some x))[2]? = some (some (.int k)) := by rw [List.getElem?_set_ne (by omega)]; exact hL2
        simp (maxDischargeDepth := 12) [getL_some g0, getL_some g1, getL_some g2, e, e', rPair]
      · rcases List.mem_append.mp hp with hp | hp
        · exact hb p hp
        · simp at hp
          subst hp
          exact ⟨by omega, by omega⟩)
  exact ⟨ps, o, e, ho, hl, hb⟩
theorem rules_body {S : Store} {m k q f : Nat} {acc : List Rule} {x : Val} (H : Hand S) (hm : 0 < m ∧ m < 1000) (hk : 0 < k ∧ k < 1000) (hq : 0 < q ∧ q ≤ 4) (hf : sg S f = some (.lst (acc.map rRule))) (hf1 : ¬ f = 1) (hf0 : ¬ f = 0) (hacc : acc.length < 1000) :
    ∃ (r : Rule) (S' : Store), m_law_rules_b1 [some (.ref 1), some (.int m), some (.int k), some (.int q), some (.ref f), some x, none, none] S = .nx [some (.ref 1), some (.int m), some (.int k), some (.int q), some (.ref f), none, none, none] S' ∧ Hand S' ∧
      sg S' f = some (.lst ((acc ++ [r]).map rRule)) ∧ (r.length ≤ 4 ∧ ∀ p, p ∈ r → p.1 < m ∧ p.2 < k) ∧ sl S' = sl S ∧ ∀ i, ¬ i = f → ¬ i = 1 → sg S' i = sg S i := by
  obtain ⟨r1, o1, e1, a1, b1, h1⟩ := take_spec (S := S) (m := q) H (by omega) (by omega)
  obtain ⟨r2, o2, e2, a2, b2, h2⟩ := take_spec (S := ss S 1 o1) (m := 5) h1.1 (by decide) (by decide)
  rw [ss_ss] at e2
  have h2' := h2.trans
  obtain ⟨n, rfl⟩ : ∃ n : Nat, r1 = n := ⟨r1.toNat, by omega⟩
  have hs : (sg S f).isSome = true := by rw [hf]; rfl
  have hp := H.pos
  have hl := H.lt
  have hz : acc.length < 16777216 := by omega
  have h1s : (sg S 1).isSome = true := by have q := hl; unfold sl at q; unfold sg; simp [q]
  -- what follows, for a length
  have key : ∀ (g : Nat), g ≤ 4 → ∃ (r : Rule) (S' : Store), (sExpr (mBM "list" fAppend (mV 4) (aCons (mG (mB fTuple (aCons (mLc (iRng1 (aCons (mV 6) aNil)) [7] (gN 7) tYes (mTup (aCons (mA KA.m_law_take (aCons (mV 0) (aCons (mV 1) aNil))) (aCons (mA KA.m_law_take (aCons (mV 0) (aCons (mV 2) aNil))) aNil)))) aNil))) aNil)))
      [some (.ref 1), some (.int m), some (.int k), some (.int q), some (.ref f), some x, some (.int g), none] (ss S 1 o2) = .nx [some (.ref 1), some (.int m), some (.int k), some (.int q), some (.ref f), some x, some (.int g), none] S' ∧ Hand S' ∧
      sg S' f = some (.lst ((acc ++ [r]).map rRule)) ∧ (r.length ≤ 4 ∧ ∀ p, p ∈ r → p.1 < m ∧ p.2 < k) ∧ sl S' = sl S ∧ ∀ i, ¬ i = f → ¬ i = 1 → sg S' i = sg S i := by
    intro g hg
    obtain ⟨ps, o3, e3, h3, l3, bd⟩ := pairs_spec (S := ss S 1 o2) (L := [some (.ref 1), some (.int m), some (.int k), some (.int q), some (.ref f), some x, some (.int g), none]) (m := m) (k := k) (xs := rangeL 0 g) h2'.1 hm hk rfl rfl rfl (by rw [rangeL_len]; omega)
    rw [rangeL_len] at l3
    rw [ss_ss] at e3
    have h3' := h3.trans
    have lo := h3.2
    have hg' : g < 1000000 := by omega
    have hbp : ∀ n, belows n (ps.map rPair) = true := fun n => belows_map _ _ fun p _ => by simp [rPair]
    refine ⟨ps, ss (ss S 1 o3) f (.lst ((acc ++ [ps]).map rRule)), ?_, h3'.1.ss (by omega) _, sg_ss_same (by rw [sg_ss_ne hf1]; exact hs), ⟨by omega, bd⟩, by simp, fun i hi hi1 => by rw [sg_ss_ne hi, sg_ss_ne hi1]⟩
    have hne : ¬ sl S = 1 := by omega
    have er : (acc ++ [ps]).map rRule = acc.map rRule ++ [.tup (ps.map rPair)] := by simp [rRule]
    rw [er]
    have hG : ∀ u, GcOk (ss S 1 o2) (sp (ss S 1 o3) u) := fun u => gcOk_base (gcOk_sp (gcOk_ss gcOk_refl (lo _ hp))) (by rw [sg_sp_lt (by rw [sl_ss]; exact hl), sg_ss_same h1s]; exact lo _ hp)
    simp (maxDischargeDepth := 12) [hf1, hf, hg', e3, hbp, lo, hp, hl, hz, hG]
  unfold m_law_rules_b1
  by_cases h0 : r2 = 0
  · subst h0
    obtain ⟨r, S', e, q1, q2, q3, q4, q5⟩ := key 0 (by decide)
    refine ⟨r, S', ?_, q1, q2, q3, q4, q5⟩
    simp (maxDischargeDepth := 12) [e1, e2, -sExpr_app, -mG_app]
    rw [show ((0 : Nat) : Int) = 0 from rfl] at e
    rw [e]
    simp
  · obtain ⟨r, S', e, q1, q2, q3, q4, q5⟩ := key (1 + n) (by omega)
    refine ⟨r, S', ?_, q1, q2, q3, q4, q5⟩
    simp (maxDischargeDepth := 12) [e1, e2, h0, -sExpr_app, -mG_app]
    rw [Int.natCast_add] at e
    rw [show ((1 : Nat) : Int) = 1 from rfl] at e
    rw [e]
    simp
end KA

/-! KA1N: drawn works and tasks. -/
namespace KA
open Mp KQ KW
open PySem (Str)
theorem rules_spec {S : Store} {m k q : Nat} (H : Hand S) (hm : 0 < m ∧ m < 1000) (hk : 0 < k ∧ k ≤ 6) (hq : 0 < q ∧ q ≤ 4) :
    ∃ (R : List Rule) (o : Ob), m_law_rules [.ref 1, .int m, .int k, .int q] S = .ok (rRules R) (ss S 1 o) ∧ HOb S o ∧ R.length = k ∧ ∀ r, r ∈ R → r.length ≤ 4 ∧ ∀ p, p ∈ r → p.1 < m ∧ p.2 < k := by
  have hl := H.lt
  have hp := H.pos
  obtain ⟨L', S', e, acc, rfl, hH, hf, hb, hs, hK, hlen⟩ := forLoop_nx (keep := fun _ => True) (g := gN 5) (b := m_law_rules_b1)
    (fun i L S' => ∃ acc : List Rule, L = [some (.ref 1), some (.int m), some (.int k), some (.int q), some (.ref (sl S)), none, none, none] ∧ Hand S' ∧ sg S' (sl S) = some (.lst (acc.map rRule)) ∧ (∀ r, r ∈ acc → r.length ≤ 4 ∧ ∀ p, p ∈ r → p.1 < m ∧ p.2 < k) ∧ sl S' = sl S + 1 ∧ Keep 1 S S' ∧ acc.length = i)
    (xs := rangeL 0 k) (L := [some (.ref 1), some (.int m), some (.int k), some (.int q), some (.ref (sl S)), none, none, none]) (S := sp S (.lst []))
    ⟨[], rfl, H.sp _, sg_sp_new, by simp, sl_sp, Keep.sp 1 S _, rfl⟩ (fun _ _ _ _ _ => trivial) (fun i x L S1 hx w => by
      obtain ⟨acc, rfl, hH, hf, hb, hs, hK, hlen⟩ := w
      have hi := (List.getElem?_eq_some_iff.mp hx).1
      rw [rangeL_len] at hi
      obtain ⟨r, S2, e, H2, f2, b2, l2, k2⟩ := rules_body (x := x) hH hm ⟨hk.1, by omega⟩ hq hf (by omega) (by omega) (by omega)
      refine ⟨_, S1, _, S2, rfl, .inl e, acc ++ [r], rfl, H2, f2, fun r' hr' => ?_, by omega, ⟨by omega, fun i hi hn => (k2 i (by omega) hn).trans (hK.2 i hi hn)⟩, by simp [hlen]⟩
      rcases List.mem_append.mp hr' with h | h
      · exact hb r' h
      · simp at h
        subst h
        exact b2)
  rw [rangeL_len] at hlen
  have hbl : below (sl S) (rRules acc) = true := by
    have : belows (sl S) (acc.map rRule) = true := belows_map _ _ fun r _ => by
      have : belows (sl S) (r.map rPair) = true := belows_map _ _ fun p _ => by simp [rPair]
      simp [rRule, this]
    simp [rRules, this]
  obtain ⟨o, eo, ho⟩ := gcR_hand hK H hH hbl
  refine ⟨acc, o, ?_, ho, hlen, hb⟩
  have hk' : k < 1000000 := by omega
  unfold m_law_rules
  simp (maxDischargeDepth := 12) [startL, e, hf, hk', -gcR_ok]
  exact eo
def IsOf (vs : List Int) (v : Val) : Prop := ∃ i, i ∈ vs ∧ v = .int i
theorem isOf {vs : List Int} {v : Val} (h : v ∈ vs.map Val.int) : IsOf vs v := by
  obtain ⟨i, hi, rfl⟩ := List.mem_map.mp h
  exact ⟨i, hi, rfl⟩
theorem some_works_spec {S : Store} (H : Hand S) : ∃ (m : Nat) (R : List Rule) (o : Ob), m_law_some_works [.ref 1] S = .ok (.tup [.int m, rRules R]) (ss S 1 o) ∧ HOb S o ∧ WfR m R := by
  obtain ⟨v1, o1, e1, m1, h1⟩ := pick_lit (S := S) (L := [some (.ref 1), none, none]) (a := (aCons (mC (.int 1)) (aCons (mC (.int 2)) (aCons (mC (.int 2)) (aCons (mC (.int 3)) (aCons (mC (.int 3)) (aCons (mC (.int 4)) (aCons (mC (.int 6)) aNil)))))))) (vs := ([1, 2, 2, 3, 3, 4, 6] : List Int).map Val.int) H rfl rfl (by decide) (by decide) (fun _ => rfl)
  obtain ⟨i1, j1, rfl⟩ := isOf m1
  have b1 : 1 ≤ i1 ∧ i1 ≤ 6 := by simp at j1; omega
  obtain ⟨m, rfl⟩ : ∃ m : Nat, i1 = m := ⟨i1.toNat, by omega⟩
  obtain ⟨v2, o2, e2, m2, h2⟩ := pick_lit (S := ss S 1 o1) (L := [some (.ref 1), some (.int m), none]) (a := (aCons (mC (.int 1)) (aCons (mC (.int 1)) (aCons (mC (.int 2)) (aCons (mC (.int 2)) (aCons (mC (.int 3)) (aCons (mC (.int 6)) aNil))))))) (vs := ([1, 1, 2, 2, 3, 6] : List Int).map Val.int) h1.1 rfl rfl (by decide) (by decide) (fun _ => rfl)
  rw [ss_ss] at e2
  have h2' := h2.trans
  obtain ⟨i2, j2, rfl⟩ := isOf m2
  have b2 : 1 ≤ i2 ∧ i2 ≤ 6 := by simp at j2; omega
  obtain ⟨k, rfl⟩ : ∃ m : Nat, i2 = m := ⟨i2.toNat, by omega⟩
  obtain ⟨v3, o3, e3, m3, h3⟩ := pick_lit (S := ss S 1 o2) (L := [some (.ref 1), some (.int m), some (.int k)]) (a := (aCons (mC (.int 1)) (aCons (mC (.int 2)) (aCons (mC (.int 2)) (aCons (mC (.int 3)) (aCons (mC (.int 4)) aNil)))))) (vs := ([1, 2, 2, 3, 4] : List Int).map Val.int) h2'.1 rfl rfl (by decide) (by decide) (fun _ => rfl)
  rw [ss_ss] at e3
  have h3' := h3.trans
  obtain ⟨i3, j3, rfl⟩ := isOf m3
  have b3 : 1 ≤ i3 ∧ i3 ≤ 4 := by simp at j3; omega
  obtain ⟨q, rfl⟩ : ∃ m : Nat, i3 = m := ⟨i3.toNat, by omega⟩
  obtain ⟨R, o4, e4, h4, hlen, hb⟩ := rules_spec (S := ss S 1 o3) (m := m) (k := k) (q := q) h3'.1 (by omega) (by omega) (by omega)
  rw [ss_ss] at e4
  have h4' := h4.trans
  refine ⟨m, R, o4, ?_, h4', ⟨by omega, by omega, by omega, by omega, fun r hr => (hb r hr).1, fun r p hr hp => by rw [hlen]; exact (hb r hr).2 p hp⟩⟩
  have hl := H.lt
  have hp := H.pos
  have lo := h4'.2
  have hbl : ∀ n, below n (rRules R) = true := fun n => by
    have : belows n (R.map rRule) = true := belows_map _ _ fun r _ => by
      have : belows n (r.map rPair) = true := belows_map _ _ fun p _ => by simp [rPair]
      simp [rRule, this]
    simp [rRules, this]
  unfold m_law_some_works
  simp (maxDischargeDepth := 12) [startL, e1, e2, e3, e4, hbl, lo, hp, hl, -mG_app]
theorem task_spec {S : Store} {m : Nat} {R : List Rule} (H : Hand S) (W : WfR m R) : ∃ (t : Nat × Nat) (o : Ob), m_law_task [.ref 1, rRules R, .int 12] S = .ok (rTask t) (ss S 1 o) ∧ HOb S o ∧ TaskOk R t := by
  have hk1 := W.k1
  have hk6 := W.k6
  obtain ⟨r1, o1, e1, a1, b1, h1⟩ := take_spec (S := S) (m := R.length) H (by omega) (by omega)
  obtain ⟨r2, o2, e2, a2, b2, h2⟩ := take_spec (S := ss S 1 o1) (m := 13) h1.1 (by decide) (by decide)
  rw [ss_ss] at e2
  have h2' := h2.trans
  obtain ⟨a, rfl⟩ : ∃ n : Nat, r1 = n := ⟨r1.toNat, by omega⟩
  obtain ⟨b, rfl⟩ : ∃ n : Nat, r2 = n := ⟨r2.toNat, by omega⟩
  refine ⟨(a, b), o2, ?_, h2', ⟨by show a < _; omega, by show b ≤ 12; omega⟩⟩
  have hl := H.lt
  have hp := H.pos
  have lo := h2'.2
  unfold m_law_task
  simp (maxDischargeDepth := 12) [startL, rRules, e1, e2, lo, hp, hl, rTask]
theorem law_sent_eq {S : Store} {m h : Nat} {R : List Rule} {t : Nat × Nat} (W : WfR m R) (hh : h < m) (ht : TaskOk R t) : m_law_sent [.int m, rRules R, .int h, rTask t] S = .ok (.ref (sl S)) (sp S (.lst ((sentL m R h t).map rSent))) := by
  obtain ⟨k, n⟩ := t
  obtain ⟨hk, hn⟩ := ht
  have hk' : k < R.length := hk
  have hn' : n ≤ 12 := hn
  have hm1 := W.m1
  have hm6 := W.m6
  have hk6 := W.k6
  have hat := rules_at hk'
  have hmem := ruleAt_mem hk'
  have hlen := W.len _ hmem
  have hpp := fun p hp => (W.ok _ p hmem hp).1
  have er : ∀ T, itOf (rRule (ruleAt R k)) T = .ok ⟨(ruleAt R k).map rPair, fun _ => True⟩ T := fun _ => rfl
  unfold m_law_sent
  by_cases h0 : n = 0
  · subst h0
    simp (maxDischargeDepth := 12) [startL, rTask, sentL]
  · have h0' : 0 < n := by omega
    have key := for_foldI (keep := fun _ => True) (g := gTup (gsCons (gN 5) (gsCons (gN 6) gsNil))) (b := m_law_sent_b1) rPair
      (fun _ : List (Nat × (Nat × Nat)) => [some (.int m), some (rRules R), some (.int h), some (rTask (k, n)), some (.ref (sl S)), none, none]) (fun acc => sp S (.lst (acc.map rSent))) (fun i acc => acc.length = i)
      (fun acc p => acc ++ [((h + p.1) % m, (p.2, n - 1))]) (ruleAt R k) [] (S0 := sp S (.lst [])) rfl rfl rfl rfl (fun _ _ _ => trivial) ?_
    · have ef : ∀ (l : Rule) (s : List (Nat × (Nat × Nat))), l.foldl (fun acc p => acc ++ [((h + p.1) % m, (p.2, n - 1))]) s = s ++ l.map fun p => ((h + p.1) % m, (p.2, n - 1)) := by
        intro l
        induction l with
        | nil => intro s; simp
        | cons a r ih => intro s; rw [List.foldl_cons, ih]; simp
      have k1 := key.1
      rw [ef] at k1
      have hs : sentL m R h (k, n) = (ruleAt R k).map fun p => ((h + p.1) % m, (p.2, n - 1)) := by simp [sentL, h0]
      have hbel : ∀ n', belows n' ((sentL m R h (k, n)).map rSent) = true := fun n' => belows_map _ _ fun p _ => by simp [rSent, rTask]
      rw [List.nil_append, ← hs] at k1
      simp only [rTask, rRules] at k1
      simp (maxDischargeDepth := 12) [startL, rTask, rRules, h0', hat, er, k1, hbel]
    · intro i acc p hp hi
      have hmp := List.mem_of_getElem? hp
      have hlt := (List.getElem?_eq_some_iff.mp hp).1
      have hi' : acc.length = i := hi
      refine ⟨.inl ?_, by simp [hi']⟩
      have hp1 := hpp p hmp
      have c1 : (-1000 : Int) ≤ h := by omega
      have hacc : acc.length < 16777216 := by omega
      have em : ((h : Int) + (p.1 : Int)) % (m : Int) = (((h + p.1) % m : Nat) : Int) := by push_cast; rfl
      have en : ((n : Int) - 1) = ((n - 1 : Nat) : Int) := by omega
      have hm0 : ¬ (m : Int) = 0 := by omega
      have hmpos : 0 < m := by omega
      unfold m_law_sent_b1
      simp (maxDischargeDepth := 12) [rPair, rTask, rSent, hacc, hm0, hmpos, en]
      all_goals (try exact en)
end KA

/-! KW1P: the counts of tasks, told by the letters sent. -/
namespace KW
open Mp
theorem md {a m : Nat} (h : a < m + m) : a % m = if a < m then a else a - m := by
  by_cases q : a < m
  · rw [if_pos q, Nat.mod_eq_of_lt q]
  · rw [if_neg q, Nat.mod_eq_sub_mod (by omega), Nat.mod_eq_of_lt (by omega)]
theorem back_eq {m k s i : Nat} (hk : k < m) (hs : s < m) (hi : i < m) : (k + s) % m = i ↔ k = (i + m - s) % m := by
  rw [md (show k + s < m + m by omega), md (show i + m - s < m + m by omega)]
  split <;> split <;> omega
theorem back_back {m h p x : Nat} (hh : h < m) (hp : p < m) (hx : x < m) : ((x + m - h) % m + m - p) % m = (x + m - (h + p) % m) % m := by
  have e1 := md (show x + m - h < m + m by omega)
  have e2 := md (show h + p < m + m by omega)
  have l1 : (x + m - h) % m < m := Nat.mod_lt _ (by omega)
  have l2 : (h + p) % m < m := Nat.mod_lt _ (by omega)
  rw [md (show (x + m - h) % m + m - p < m + m by omega), md (show x + m - (h + p) % m < m + m by omega)]
  rw [e1, e2]
  split <;> split <;> split <;> split <;> omega
theorem nth_addAt {c : List Nat} {p a i : Nat} (hi : i < c.length) : nth (addAt c p a) i = nth c i + if p = i then a else 0 := by
  unfold nth addAt
  rw [List.getD_eq_getElem?_getD, List.getD_eq_getElem?_getD, List.getElem?_set]
  by_cases e : p = i
  · subst e
    simp [hi, nth]
  · simp [e]
theorem nth_spreadG {m s i : Nat} (hs : s < m) (hi : i < m) : ∀ (hk : List Nat) (k : Nat) (c : List Nat), c.length = m → k + hk.length ≤ m →
    nth ((hk.zipIdx k).foldl (fun c p => addAt c ((p.2 + s) % m) p.1) c) i = nth c i + (if k ≤ (i + m - s) % m then nth hk ((i + m - s) % m - k) else 0) := by
  intro hk
  induction hk with
  | nil => intro k c _ _; simp [nth]
  | cons a r ih =>
    intro k c hc hl
    simp only [List.length_cons] at hl
    rw [List.zipIdx_cons, List.foldl_cons, ih (k + 1) _ (by rw [addAt_len]; exact hc) (by omega), nth_addAt (by omega)]
    have e := back_eq (m := m) (k := k) (s := s) (i := i) (by omega) hs hi
    obtain ⟨j, hj⟩ : ∃ j, j = (i + m - s) % m := ⟨_, rfl⟩
    rw [← hj] at e ⊢
    dsimp only
    by_cases q : (k + s) % m = i
    · have q2 := e.mp q
      rw [if_pos q]
      subst q2
      rw [if_neg (by omega), if_pos (Nat.le_refl _), Nat.sub_self]
      simp [nth]
    · have q2 : ¬ k = j := fun h => q (e.mpr h)
      rw [if_neg q]
      by_cases g : k ≤ j
      · rw [if_pos g, if_pos (by omega)]
        obtain ⟨d, rfl⟩ : ∃ d, j = k + 1 + d := ⟨j - k - 1, by omega⟩
        rw [show k + 1 + d - (k + 1) = d by omega, show k + 1 + d - k = d + 1 by omega]
        simp [nth]
      · rw [if_neg g, if_neg (by omega)]
theorem nth_spread {m s i : Nat} {hk c : List Nat} (hs : s < m) (hi : i < m) (hc : c.length = m) (hl : hk.length = m) : nth (spread m s c hk) i = nth c i + nth hk ((i + m - s) % m) := by
  unfold spread
  rw [nth_spreadG hs hi hk 0 c hc (by omega)]
  simp
theorem list_nth {a b : List Nat} (h : a.length = b.length) (e : ∀ i, i < a.length → nth a i = nth b i) : a = b := by
  apply List.ext_getElem h
  intro i h1 h2
  have := e i h1
  unfold nth at this
  simpa [h1, h2] using this
theorem sum_set : ∀ (c : List Nat) (i x : Nat), i < c.length → (c.set i (nth c i + x)).sum = c.sum + x
  | [], i, x, h => by simp at h
  | a :: r, 0, x, h => by simp [nth]; omega
  | a :: r, i + 1, x, h => by
    have := sum_set r i x (by simp at h; omega)
    have e : nth (a :: r) (i + 1) = nth r i := by simp [nth]
    rw [e]
    simp only [List.set_cons_succ, List.sum_cons]
    rw [this]
    omega
theorem sum_addAt {c : List Nat} {i x : Nat} (h : i < c.length) : (addAt c i x).sum = c.sum + x := sum_set c i x h
theorem sum_spread {m s : Nat} {hk c : List Nat} (hm : 0 < m) (hc : c.length = m) : (spread m s c hk).sum = c.sum + hk.sum := by
  unfold spread
  have : ∀ (hk : List Nat) (k : Nat) (c : List Nat), c.length = m → ((hk.zipIdx k).foldl (fun c p => addAt c ((p.2 + s) % m) p.1) c).sum = c.sum + hk.sum := by
    intro hk
    induction hk with
    | nil => intro k c _; simp
    | cons a r ih =>
      intro k c hc
      rw [List.zipIdx_cons, List.foldl_cons, ih (k + 1) _ (by rw [addAt_len]; exact hc), sum_addAt (by rw [hc]; exact Nat.mod_lt _ hm)]
      simp only [List.sum_cons]
      omega
  exact this hk 0 c hc
theorem due_spread {m h : Nat} {R : List Rule} {t : Nat × Nat} (hh : h < m) (ht : TaskOk R t) : dueL m R h t = spread m h (List.replicate m 0) (tabAt m R t) := by
  have hl := tabAt_len (m := m) (R := R) (t := t) (by omega) ht
  apply list_nth
  · rw [spread_len]; simp [dueL]
  · intro i hi
    have hi' : i < m := by simpa [dueL] using hi
    rw [nth_spread hh hi' (by simp) hl]
    simp [dueL, nth, hi', List.getElem?_replicate]
theorem due_len {m h : Nat} {R : List Rule} {t : Nat × Nat} : (dueL m R h t).length = m := by simp [dueL]
theorem due_nth {m h i : Nat} {R : List Rule} {t : Nat × Nat} (hi : i < m) : nth (dueL m R h t) i = nth (tabAt m R t) ((i + m - h) % m) := by
  simp [dueL, nth, hi]
theorem due_sum {m h : Nat} {R : List Rule} {t : Nat × Nat} (hh : h < m) (ht : TaskOk R t) : (dueL m R h t).sum = total m R t := by
  rw [due_spread hh ht, sum_spread (by omega) (by simp)]
  simp [total]
theorem nth_start {m d : Nat} (hd : d < m) : nth (start m) d = if d = 0 then 1 else 0 := by
  cases d with
  | zero => simp [start, nth]
  | succ d => simp [start, nth, List.getElem?_replicate]; split <;> rfl
theorem tabAt_succ {m k n : Nat} {R : List Rule} (hk : k < R.length) : tabAt m R (k, n + 1) = row m (tab m R n) (ruleAt R k) := by
  unfold tabAt ruleAt
  simp [tab, hk]
theorem tabAt_zero {m k : Nat} {R : List Rule} (hk : k < R.length) : tabAt m R (k, 0) = start m := by
  unfold tabAt
  simp [tab, hk]
theorem nth_row {m d : Nat} (hm : 1 ≤ m) (hd : d < m) {tb : List (List Nat)} (hrow : ∀ c, c ∈ tb → c.length = m) : ∀ (r : Rule) (c : List Nat), c.length = m → (∀ p, p ∈ r → p.1 < m ∧ p.2 < tb.length) →
    nth (r.foldl (fun c p => spread m p.1 c (tb.getD p.2 [])) c) d = nth c d + (r.map fun p => nth (tb.getD p.2 []) ((d + m - p.1) % m)).sum := by
  intro r
  induction r with
  | nil => intro c _ _; simp
  | cons p r ih =>
    intro c hc hp
    have h1 := hp p (by simp)
    have hl : (tb.getD p.2 []).length = m := by
      have : tb.getD p.2 [] = tb[p.2] := by simp [h1.2]
      rw [this]
      exact hrow _ (List.getElem_mem _)
    rw [List.foldl_cons, ih _ (by rw [spread_len]; exact hc) (fun q hq => hp q (by simp [hq])), nth_spread h1.1 hd hc hl]
    simp only [List.map_cons, List.sum_cons]
    omega
theorem sum_row {m : Nat} (hm : 1 ≤ m) {tb : List (List Nat)} : ∀ (r : Rule) (c : List Nat), c.length = m → (r.foldl (fun c p => spread m p.1 c (tb.getD p.2 [])) c).sum = c.sum + (r.map fun p => (tb.getD p.2 []).sum).sum := by
  intro r
  induction r with
  | nil => intro c _; simp
  | cons p r ih =>
    intro c hc
    rw [List.foldl_cons, ih _ (by rw [spread_len]; exact hc), sum_spread (by omega) hc]
    simp only [List.map_cons, List.sum_cons]
    omega
theorem sum_start {m : Nat} : (start m).sum = 1 := by simp [start]
/-- all that come of one: itself and what come of the letters -/
theorem total_sent {m h : Nat} {R : List Rule} {t : Nat × Nat} (W : WfR m R) (ht : TaskOk R t) : total m R t = 1 + ((sentL m R h t).map fun x => total m R x.2).sum := by
  obtain ⟨k, n⟩ := t
  have hk : k < R.length := ht.1
  cases n with
  | zero => simp [sentL, total, tabAt_zero hk, sum_start]
  | succ n =>
    unfold total
    rw [tabAt_succ hk]
    unfold row
    rw [sum_row W.m1 _ _ (start_len W.m1), sum_start]
    simp [sentL, Function.comp_def, tabAt]
theorem sent_ok {m h : Nat} {R : List Rule} {t : Nat × Nat} {x : Nat × (Nat × Nat)} (W : WfR m R) (ht : TaskOk R t) (hx : x ∈ sentL m R h t) : x.1 < m ∧ TaskOk R x.2 ∧ x.2.2 < t.2 := by
  obtain ⟨k, n⟩ := t
  have hk : k < R.length := ht.1
  have hn : n ≤ 12 := ht.2
  unfold sentL at hx
  split at hx
  · simp at hx
  · next h0 =>
    have h0' : ¬ n = 0 := h0
    obtain ⟨p, hp, rfl⟩ := List.mem_map.mp hx
    have := W.ok _ p (ruleAt_mem hk) hp
    exact ⟨Nat.mod_lt _ (by have := W.m1; omega), ⟨this.2, by show n - 1 ≤ 12; omega⟩, by show n - 1 < n; omega⟩
/-- the same, house by house -/
theorem due_sent {m h i : Nat} {R : List Rule} {t : Nat × Nat} (W : WfR m R) (hh : h < m) (hi : i < m) (ht : TaskOk R t) :
    nth (dueL m R h t) i = (if h = i then 1 else 0) + ((sentL m R h t).map fun x => nth (dueL m R x.1 x.2) i).sum := by
  obtain ⟨k, n⟩ := t
  have hk : k < R.length := ht.1
  have hd : (i + m - h) % m < m := Nat.mod_lt _ (by omega)
  have es : (if (i + m - h) % m = 0 then 1 else 0 : Nat) = if h = i then 1 else 0 := by
    have := md (show i + m - h < m + m by omega)
    by_cases e : h = i
    · rw [if_pos e, if_pos]; rw [this]; split <;> omega
    · rw [if_neg e, if_neg]; rw [this]; split <;> omega
  rw [due_nth hi]
  cases n with
  | zero =>
    rw [tabAt_zero hk, nth_start hd, es]
    simp [sentL]
  | succ n =>
    have hpr : ∀ p, p ∈ ruleAt R k → p.1 < m ∧ p.2 < (tab m R n).length := fun p hp => by rw [tab_len]; exact W.ok _ p (ruleAt_mem hk) hp
    rw [tabAt_succ hk]
    unfold row
    rw [nth_row W.m1 hd (tab_rows W.m1 R n) _ _ (start_len W.m1) hpr, nth_start hd, es]
    congr 1
    simp only [sentL, Nat.add_one_ne_zero, if_false, List.map_map]
    apply congrArg
    apply List.map_congr_left
    intro p hp
    show _ = nth (dueL m R ((h + p.1) % m) (p.2, n + 1 - 1)) i
    rw [due_nth hi, back_back hh (hpr p hp).1 hi]
    rfl
theorem longL_succ_nth {R : List Rule} {k n : Nat} (hk : k < R.length) : longest R (k, n + 1) = 1 + maxN ((ruleAt R k).map fun p => longest R (p.2, n)) := by
  unfold longest
  show nth (longL R (n + 1)) k = _
  simp [longL, nth, hk, longRow, ruleAt]
/-- each task of all counts for one at least -/
theorem total_pos {m : Nat} {R : List Rule} {t : Nat × Nat} (W : WfR m R) (ht : TaskOk R t) : 1 ≤ total m R t := by
  rw [total_sent (h := 0) W ht]; omega
end KW

/-! KA1O: the law's own counts. -/
namespace KA
open Mp KQ KW
open PySem (Str)
/-- few different keys -/
theorem nodup_few : ∀ (N : Nat) (l : List Nat), l.Nodup → (∀ x, x ∈ l → x < N) → l.length ≤ N
  | 0, l, _, h => by
    cases l with
    | nil => exact Nat.le_refl _
    | cons a r => exact absurd (h a (by simp)) (by omega)
  | N + 1, l, hd, h => by
    by_cases q : N ∈ l
    · have := nodup_few N (l.erase N) (hd.erase N) (fun x hx => by
        have := (hd.mem_erase_iff).mp hx
        have := h x this.2
        omega)
      rw [List.length_erase_of_mem q] at this
      omega
    · have := nodup_few N l hd (fun x hx => by
        have := h x hx
        have : x ≠ N := fun e => q (e ▸ hx)
        omega)
      omega
def keyT (h : Nat) (t : Nat × Nat) : List Key := [.inl h, .inl t.1, .inl t.2]
def code (k : List Key) : Nat := match k with
  | [.inl a, .inl b, .inl c] => (a.toNat * 6 + b.toNat) * 13 + c.toNat
  | _ => 0
theorem keyT_inj {h h' : Nat} {t t' : Nat × Nat} (e : keyT h t = keyT h' t') : h = h' ∧ t = t' := by
  unfold keyT at e
  simp at e
  obtain ⟨a, b, c⟩ := e
  exact ⟨by omega, Prod.ext (by omega) (by omega)⟩
structure KeptOk (m : Nat) (R : List Rule) (kvs : List (List Key × Val)) : Prop where
  each : ∀ p, p ∈ kvs → ∃ h t, h < m ∧ TaskOk R t ∧ p.1 = keyT h t ∧ p.2 = .tup (rInts (dueL m R h t))
  one : (kvs.map (·.1)).Nodup
theorem KeptOk.nil (m : Nat) (R : List Rule) : KeptOk m R [] := ⟨fun _ h => by simp at h, by simp⟩
theorem nodup_map_inj {α β : Type} {f : α → β} : ∀ {l : List α}, (∀ x y, x ∈ l → y ∈ l → f x = f y → x = y) → l.Nodup → (l.map f).Nodup
  | [], _, _ => by simp
  | a :: r, h, hd => by
    rw [List.map_cons, List.nodup_cons]
    rw [List.nodup_cons] at hd
    refine ⟨fun hm => ?_, nodup_map_inj (fun x y hx hy => h x y (by simp [hx]) (by simp [hy])) hd.2⟩
    obtain ⟨b, hb, e⟩ := List.mem_map.mp hm
    exact hd.1 (h b a (by simp [hb]) (by simp) e ▸ hb)
theorem KeptOk.few {m : Nat} {R : List Rule} {kvs : List (List Key × Val)} (W : WfR m R) (K : KeptOk m R kvs) : kvs.length ≤ 468 := by
  have hm6 := W.m6
  have hk6 := W.k6
  have key : ∀ k, k ∈ kvs.map (·.1) → ∃ h t, h < m ∧ TaskOk R t ∧ k = keyT h t := fun k hk => by
    obtain ⟨p, hp, rfl⟩ := List.mem_map.mp hk
    obtain ⟨h, t, h1, h2, h3, _⟩ := K.each p hp
    exact ⟨h, t, h1, h2, h3⟩
  have := nodup_few 468 ((kvs.map (·.1)).map code) (nodup_map_inj (fun x y hx hy e => by
    obtain ⟨h, t, h1, h2, rfl⟩ := key x hx
    obtain ⟨h', t', h1', h2', rfl⟩ := key y hy
    have a1 := h2.1
    have a2 := h2.2
    have a1' := h2'.1
    have a2' := h2'.2
    simp only [code, keyT, Int.toNat_natCast] at e
    have : h = h' ∧ t.1 = t'.1 ∧ t.2 = t'.2 := by omega
    rw [this.1, Prod.ext this.2.1 this.2.2]) K.one) (fun x hx => by
    obtain ⟨k, hk, rfl⟩ := List.mem_map.mp hx
    obtain ⟨h, t, h1, h2, rfl⟩ := key k hk
    have a1 := h2.1
    have a2 := h2.2
    simp only [code, keyT, Int.toNat_natCast]
    omega)
  simpa using this
theorem valL_mem {κ α : Type} [DecidableEq κ] {k : κ} {v : α} : ∀ {kvs : List (κ × α)}, valL kvs k = some v → ∃ p, p ∈ kvs ∧ p.1 = k ∧ p.2 = v
  | [], h => by simp [valL] at h
  | p :: r, h => by
    simp only [valL] at h
    split at h
    · next e => exact ⟨p, by simp, e, Option.some.inj h⟩
    · obtain ⟨q, hq, a⟩ := valL_mem h
      exact ⟨q, by simp [hq], a⟩
theorem valL_not {κ α : Type} [DecidableEq κ] {k : κ} : ∀ {kvs : List (κ × α)}, valL kvs k = none → ∀ p, p ∈ kvs → ¬ p.1 = k
  | [], _, p, hp => by simp at hp
  | q :: r, h, p, hp => by
    simp only [valL] at h
    split at h
    · cases h
    · next e =>
      rcases List.mem_cons.mp hp with rfl | hp
      · exact e
      · exact valL_not h p hp
theorem putL_new {κ α : Type} [DecidableEq κ] {k : κ} {v : α} {kvs : List (κ × α)} (h : valL kvs k = none) : putL kvs k v = kvs ++ [(k, v)] := by
  unfold putL
  rw [if_neg]
  intro q
  obtain ⟨p, hp, e⟩ := List.any_eq_true.mp q
  exact valL_not h p hp (by simpa using e)
theorem valL_last {κ α : Type} [DecidableEq κ] {k : κ} {v : α} : ∀ {kvs : List (κ × α)}, valL kvs k = none → valL (kvs ++ [(k, v)]) k = some v
  | [], _ => by simp [valL]
  | p :: r, h => by
    simp only [valL, List.cons_append] at h ⊢
    split at h
    · cases h
    · next e => rw [if_neg e]; exact valL_last h
theorem KeptOk.get {m h : Nat} {R : List Rule} {t : Nat × Nat} {kvs : List (List Key × Val)} {v : Val} (K : KeptOk m R kvs) (e : valL kvs (keyT h t) = some v) : v = .tup (rInts (dueL m R h t)) := by
  obtain ⟨p, hp, e1, rfl⟩ := valL_mem e
  obtain ⟨h', t', _, _, e2, e3⟩ := K.each p hp
  rw [e1] at e2
  obtain ⟨rfl, rfl⟩ := keyT_inj e2
  exact e3
theorem KeptOk.put {m h : Nat} {R : List Rule} {t : Nat × Nat} {kvs : List (List Key × Val)} (K : KeptOk m R kvs) (hh : h < m) (ht : TaskOk R t) (e : valL kvs (keyT h t) = none) : KeptOk m R (kvs ++ [(keyT h t, .tup (rInts (dueL m R h t)))]) := by
  refine ⟨fun p hp => ?_, ?_⟩
  · rcases List.mem_append.mp hp with hp | hp
    · exact K.each p hp
    · simp at hp
      subst hp
      exact ⟨h, t, hh, ht, rfl, rfl⟩
  · rw [List.map_append, List.nodup_append]
    refine ⟨K.one, by simp, fun a ha b hb => ?_⟩
    obtain ⟨p, hp, rfl⟩ := List.mem_map.mp ha
    simp at hb
    subst hb
    exact valL_not e p hp
theorem KeptOk.low {m : Nat} {R : List Rule} {kvs : List (List Key × Val)} (K : KeptOk m R kvs) (n : Nat) : belows n (kvs.map (·.2)) = true := belows_map _ _ fun p hp => by
  obtain ⟨_, _, _, _, _, e⟩ := K.each p hp
  rw [e]
  simp
def addK (m : Nat) (c d : List Nat) : List Nat := (List.range m).foldl (fun c k => addAt c k (nth d k)) c
theorem addK_len (m : Nat) (c d : List Nat) : (addK m c d).length = c.length := by
  unfold addK
  generalize List.range m = l
  induction l generalizing c with
  | nil => rfl
  | cons a r ih => rw [List.foldl_cons, ih, addAt_len]
theorem nth_addK {c d : List Nat} {i : Nat} : ∀ m, m ≤ c.length → i < c.length → nth (addK m c d) i = nth c i + if i < m then nth d i else 0
  | 0, _, _ => by simp [addK]
  | m + 1, h, hi => by
    have ih := nth_addK (d := d) m (by omega) hi
    have e : addK (m + 1) c d = addAt (addK m c d) m (nth d m) := by
      unfold addK
      rw [List.range_succ, List.foldl_append]
      rfl
    rw [e, nth_addAt (by rw [addK_len]; exact hi), ih]
    by_cases q : m = i
    · subst q
      simp
    · rw [if_neg q]
      by_cases g : i < m
      · rw [if_pos g, if_pos (by omega)]
        omega
      · rw [if_neg g, if_neg (by omega)]
noncomputable def iBody : MS := (sK [10] (sAsg (m2 pAdd (m2 pIx (mV 6) (mV 10)) (m2 pIx (mV 9) (mV 10))) (gSub (mV 6) (mV 10) pSet)))
noncomputable def cBody (n : Nat) : MS := (sK [7, 8, 9, 10] (sSeq (sAsg (mA (m_law_counts n) (aCons (mV 0) (aCons (mV 1) (aCons (mV 2) (aCons (mV 7) (aCons (mV 8) aNil)))))) (gN 9))
    (Mp.sFor (iRng1 (aCons (mV 0) aNil)) (gN 10) iBody)))
theorem m_law_counts_succ' (n : Nat) : m_law_counts (n + 1) = fG (fDef 11 5
    (sSeq (sAsg (m2 pAdd (mTup (aCons (mV 3) aNil)) (mV 4)) (gN 5))
    (sSeq (sIf (tV (m2 pNotIn (mV 5) (mV 2)))
    (sSeq (sAsg (mG (m2 pMul (mLst (aCons (mC (.int 0)) aNil)) (mV 0))) (gN 6))
    (sSeq (sAsg (mC (.int 1)) (gSub (mV 6) (mV 3) pSet))
    (sSeq (Mp.sFor (iV (mA KA.m_law_sent (aCons (mV 0) (aCons (mV 1) (aCons (mV 3) (aCons (mV 4) aNil)))))) (gTup (gsCons (gN 7) (gsCons (gN 8) gsNil))) (cBody n))
    (sAsg (mB fTuple (aCons (mV 6) aNil)) (gSub (mV 2) (mV 5) pSet)))))
    sNx)
    (sRet (m2 pIx (mV 2) (mV 5)))))) := rfl
theorem ss_own {S : Store} {i : Nat} {o : Ob} (h : sg S i = some o) : ss S i o = S := by
  apply List.ext_getElem?
  intro j
  by_cases hj : j = i
  · subst hj
    exact (sg_ss_same (S := S) (by rw [h]; rfl)).trans h.symm
  · exact sg_ss_ne (S := S) hj
theorem inner {T : Store} {m f : Nat} {c d : List Nat} {x0 x1 x2 x3 x4 x5 x7 x8 : Option Val} (hc : c.length = m) (hd : d.length = m) (hf : sg T f = some (.lst (rInts c))) :
    forLoop (fun _ => True) (gN 10) iBody (rangeL 0 m) [x0, x1, x2, x3, x4, x5, some (.ref f), x7, x8, some (.tup (rInts d)), none] T =
      .nx [x0, x1, x2, x3, x4, x5, some (.ref f), x7, x8, some (.tup (rInts d)), none] (ss T f (.lst (rInts (addK m c d)))) := by
  have hs : (sg T f).isSome = true := by rw [hf]; rfl
  rw [show addK m c d = (List.range m).foldl (fun c k => addAt c k (nth d k)) c from rfl]
  exact for_fold' (fun (i : Nat) => Val.int i) (fun _ : List Nat => [x0, x1, x2, x3, x4, x5, some (.ref f), x7, x8, some (.tup (rInts d)), none]) (fun c => ss T f (.lst (rInts c))) (fun c => c.length = m) (fun c k => addAt c k (nth d k)) (List.range m) c
    (rangeL0 m) rfl (ss_own hf).symm hc (fun _ _ => trivial) (fun c k hk hl => by
      have hk' : k < m := by simpa using hk
      have e1 := rInts_get (c := c) (i := k) (by omega)
      have e2 := rInts_get (c := d) (i := k) (by omega)
      have l1 : k < c.length := by omega
      have l2 : k < d.length := by omega
      refine ⟨.inl ?_, by rw [addAt_len]; exact hl⟩
      unfold iBody addAt
      rw [← rInts_set]
      simp (maxDischargeDepth := 12) [hs, e1, e2]
      try simp (maxDischargeDepth := 12) [l1, l2])
end KA

/-! KA1P: the law's own counts are those of the table. -/
namespace KA
open Mp KQ KW
open PySem (Str)
@[simp] theorem tkey_three (i j k : Int) : tkey [.int i, .int j, .int k] = some [.inl i, .inl j, .inl k] := by rw [tkey_some (ownC_three i j k)]; rfl
theorem replicate_rInts (m : Nat) : List.replicate m (Val.int 0) = rInts (List.replicate m 0) := by
  unfold rInts
  rw [List.map_replicate]
  rfl
theorem counts_body {S0 : Store} {m n d f g : Nat} {R : List Rule} {h : Nat} {t : Nat × Nat} {key : Val} (W : WfR m R) (hh : h < m) (ht : TaskOk R t)
    (ih : ∀ (S : Store) (d : Nat) (kvs : List (List Key × Val)) (h : Nat) (t : Nat × Nat), t.2 < n → h < m → TaskOk R t → KeptOk m R kvs → sg S d = some (.dT kvs) → ∃ kvs', KeptOk m R kvs' ∧ m_law_counts n [.int m, rRules R, .ref d, .int h, rTask t] S = .ok (.tup (rInts (dueL m R h t))) (ss S d (.dT kvs')))
    (hn : t.2 < n + 1) {kvs : List (List Key × Val)} (K : KeptOk m R kvs) (hd : sg S0 d = some (.dT kvs)) (hf : sg S0 f = some (.lst (rInts ((List.replicate m 0).set h 1)))) (hg : sg S0 g = some (.lst ((sentL m R h t).map rSent))) (hdf : ¬ d = f) (hdg : ¬ d = g) (hfg : ¬ f = g) :
    ∃ (kvs' : List (List Key × Val)), KeptOk m R kvs' ∧ forLoop (fun S' => sg S' g = some (.lst ((sentL m R h t).map rSent))) (gTup (gsCons (gN 7) (gsCons (gN 8) gsNil))) (cBody n) ((sentL m R h t).map rSent)
      [some (.int m), some (rRules R), some (.ref d), some (.int h), some (rTask t), some key, some (.ref f), none, none, none, none] S0 =
      .nx [some (.int m), some (rRules R), some (.ref d), some (.int h), some (rTask t), some key, some (.ref f), none, none, none, none] (ss (ss S0 d (.dT kvs')) f (.lst (rInts (dueL m R h t)))) := by
  have hm1 := W.m1
  have hm6 := W.m6
  have hds : (sg S0 d).isSome = true := by rw [hd]; rfl
  have hfs : (sg S0 f).isSome = true := by rw [hf]; rfl
  have hfd : ¬ f = d := fun e => hdf e.symm
  have hgd : ¬ g = d := fun e => hdg e.symm
  have hgf : ¬ g = f := fun e => hfg e.symm
  obtain ⟨L', S', e, kvs', c, rfl, rfl, K', hc, hv⟩ := forLoop_nx (keep := fun S' => sg S' g = some (.lst ((sentL m R h t).map rSent))) (g := gTup (gsCons (gN 7) (gsCons (gN 8) gsNil))) (b := cBody n)
    (fun i L S' => ∃ (kvs' : List (List Key × Val)) (c : List Nat), L = [some (.int m), some (rRules R), some (.ref d), some (.int h), some (rTask t), some key, some (.ref f), none, none, none, none] ∧ S' = ss (ss S0 d (.dT kvs')) f (.lst (rInts c)) ∧ KeptOk m R kvs' ∧ c.length = m ∧
      ∀ j, j < m → nth c j = (if h = j then 1 else 0) + (((sentL m R h t).take i).map fun x => nth (dueL m R x.1 x.2) j).sum)
    (xs := (sentL m R h t).map rSent) (L := [some (.int m), some (rRules R), some (.ref d), some (.int h), some (rTask t), some key, some (.ref f), none, none, none, none]) (S := S0)
    ⟨kvs, (List.replicate m 0).set h 1, rfl, by rw [ss_own hd, ss_own hf], K, by simp, fun j hj => by
      unfold nth
      rw [List.getD_eq_getElem?_getD, List.getElem?_set]
      by_cases e : h = j
      · subst e; simp [hj]
      · simp [e, hj, List.getElem?_replicate]⟩
    (fun i L S' _ q => by
      obtain ⟨kvs', c, rfl, rfl, _⟩ := q
      show sg _ g = _
      rw [sg_ss_ne hgf, sg_ss_ne hgd, hg])
    (fun i x L S1 hx q => by
      obtain ⟨kvs1, c, rfl, rfl, K1, hc, hv⟩ := q
      rw [List.getElem?_map] at hx
      obtain ⟨y, hy, rfl⟩ := Option.map_eq_some_iff.mp hx
      have hm := List.mem_of_getElem? hy
      obtain ⟨a1, a2, a3⟩ := sent_ok W ht hm
      obtain ⟨kvs2, K2, e2⟩ := ih (ss (ss S0 d (.dT kvs1)) f (.lst (rInts c))) d kvs1 y.1 y.2 (by omega) a1 a2 K1 (by rw [sg_ss_ne hdf, sg_ss_same hds])
      have ec : ss (ss (ss S0 d (.dT kvs1)) f (.lst (rInts c))) d (.dT kvs2) = ss (ss S0 d (.dT kvs2)) f (.lst (rInts c)) := by
        unfold ss
        rw [List.set_comm _ _ hfd, List.set_set]
      rw [ec] at e2
      have e3 := inner (T := ss (ss S0 d (.dT kvs2)) f (.lst (rInts c))) (m := m) (f := f) (c := c) (d := dueL m R y.1 y.2) (x0 := some (.int m)) (x1 := some (rRules R)) (x2 := some (.ref d)) (x3 := some (.int h)) (x4 := some (rTask t)) (x5 := some key) (x7 := some (.int y.1)) (x8 := some (rTask y.2)) hc due_len
        (by rw [sg_ss_same (by rw [sg_ss_ne hfd]; exact hfs)])
      rw [ss_ss] at e3
      have hm' : m < 1000000 := by omega
      refine ⟨[some (.int m), some (rRules R), some (.ref d), some (.int h), some (rTask t), some key, some (.ref f), some (.int y.1), some (rTask y.2), none, none], ss (ss S0 d (.dT kvs1)) f (.lst (rInts c)), [some (.int m), some (rRules R), some (.ref d), some (.int h), some (rTask t), some key, some (.ref f), none, none, none, none], ss (ss S0 d (.dT kvs2)) f (.lst (rInts (addK m c (dueL m R y.1 y.2)))), by simp [rSent], .inl ?_, kvs2, addK m c (dueL m R y.1 y.2), rfl, rfl, K2, by rw [addK_len]; exact hc, fun j hj => ?_⟩
      · unfold cBody
        simp (maxDischargeDepth := 12) [e2, e3, hm']
      · rw [nth_addK m (by omega) (by omega), if_pos hj, hv j hj, List.take_add_one, hy]
        simp
        omega)
  refine ⟨kvs', K', ?_⟩
  have : c = dueL m R h t := list_nth (by rw [hc, due_len]) fun j hj => by
    rw [hv j (by omega), due_sent W hh (by omega) ht, List.length_map, List.take_length]
  rw [← this]
  exact e
theorem KeptOk.putIt {m h : Nat} {R : List Rule} {t : Nat × Nat} {kvs : List (List Key × Val)} (K : KeptOk m R kvs) (hh : h < m) (ht : TaskOk R t) :
    KeptOk m R (putL kvs (keyT h t) (.tup (rInts (dueL m R h t)))) ∧ valL (putL kvs (keyT h t) (.tup (rInts (dueL m R h t)))) (keyT h t) = some (.tup (rInts (dueL m R h t))) := by
  cases e : valL kvs (keyT h t) with
  | none => rw [putL_new e]; exact ⟨K.put hh ht e, valL_last e⟩
  | some v =>
    have hv := K.get e
    have : putL kvs (keyT h t) (.tup (rInts (dueL m R h t))) = kvs := by
      unfold putL
      split
      · have : kvs.map (fun p => if p.1 = keyT h t then (p.1, Val.tup (rInts (dueL m R h t))) else p) = kvs.map id := by
          apply List.map_congr_left
          intro p hp
          split
          · next q =>
            obtain ⟨h', t', _, _, e2, e3⟩ := K.each p hp
            rw [q] at e2
            obtain ⟨rfl, rfl⟩ := keyT_inj e2
            exact Prod.ext rfl e3.symm
          · rfl
        rw [this, List.map_id]
      · next q =>
        obtain ⟨p, hp, e1, _⟩ := valL_mem e
        exact absurd (List.any_eq_true.mpr ⟨p, hp, by simp [e1]⟩) q
    rw [this]
    exact ⟨K, by rw [e, hv]⟩
theorem counts_eq {m : Nat} {R : List Rule} (W : WfR m R) : ∀ (n : Nat) (S : Store) (d : Nat) (kvs : List (List Key × Val)) (h : Nat) (t : Nat × Nat), t.2 < n → h < m → TaskOk R t → KeptOk m R kvs → sg S d = some (.dT kvs) →
    ∃ kvs', KeptOk m R kvs' ∧ m_law_counts n [.int m, rRules R, .ref d, .int h, rTask t] S = .ok (.tup (rInts (dueL m R h t))) (ss S d (.dT kvs'))
  | 0, _, _, _, _, _, h, _, _, _, _ => absurd h (by omega)
  | n + 1, S, d, kvs, h, t, hn, hh, ht, K, hd => by
    have hm1 := W.m1
    have hm6 := W.m6
    rw [m_law_counts_succ']
    cases hk : valL kvs (keyT h t) with
    | some v =>
      have hv := K.get hk
      refine ⟨kvs, K, ?_⟩
      rw [ss_own hd]
      unfold keyT at hk
      simp (maxDischargeDepth := 12) [startL, rTask, hd, hk, hv]
    | none =>
      have dl := sg_lt hd
      have S1 : sl S + 1 = sl (sp S (.lst (rInts ((List.replicate m 0).set h 1)))) := by simp
      have ndf : ¬ d = sl S := by omega
      have ndg : ¬ d = sl S + 1 := by omega
      obtain ⟨kvs1, K1, e1⟩ := counts_body (S0 := sp (sp S (.lst (rInts ((List.replicate m 0).set h 1)))) (.lst ((sentL m R h t).map rSent))) (d := d) (f := sl S) (g := sl S + 1) (h := h) (t := t) (key := .tup [.int h, .int t.1, .int t.2]) (kvs := kvs) W hh ht
        (fun S d kvs h t a b c k e => counts_eq W n S d kvs h t a b c k e) hn K (by rw [sg_sp_lt (by simp; omega), sg_sp_lt dl, hd]) (by rw [sg_sp_lt (by simp)]; exact sg_sp_new) (sg_sp_new' S1) ndf ndg (by omega)
      have e2 := law_sent_eq (S := sp S (.lst (rInts ((List.replicate m 0).set h 1)))) W hh ht
      have hf1 := K1.few W
      obtain ⟨K2, v2⟩ := K1.putIt hh ht
      have lo2 := K2.low
      have lo1 := K1.low
      refine ⟨_, K2, ?_⟩
      unfold keyT at hk v2 lo2 ⊢
      have hf2 : kvs1.length < LIM := by unfold LIM; omega
      have hds : (sg S d).isSome = true := by rw [hd]; rfl
      have hd1 : d < sl S + 1 := by omega
      have ndf' : ¬ sl S = d := by omega
      have ndg' : ¬ sl S + 1 = d := by omega
      have er : (List.replicate m (Val.int 0)).set h (Val.int 1) = rInts ((List.replicate m 0).set h 1) := by rw [replicate_rInts]; exact rInts_set _ h 1
      have b1 : (-1000 : Int) ≤ m := by omega
      have b2 : (m : Int) ≤ 1000 := by omega
      simp only [rTask] at e1 e2
      have hk6 := W.k6
      have hsl : (sentL m R h t).length < 1000 := by
        have := W.len _ (ruleAt_mem ht.1)
        unfold sentL
        split
        · simp
        · rw [List.length_map]; omega
      simp (maxDischargeDepth := 12) [startL, rTask, hd, hk, b1, b2, rep_flat, er, e2, e1, hh, hf2, v2, lo2, lo1, hds, hd1, dl, ndf, ndg, ndf', ndg']
end KA

/-! KA1Q: the same thing. -/
namespace KA
open Mp KQ KW
open PySem (Str)
theorem same_int (n : Nat) (i : Int) (S : Store) : m_law_same (n + 1) [.int i, .int i] S = .ok (.bl true) S := by
  rw [m_law_same_succ]
  have e : m_is_integer [.int i] S = .ok (.bl true) S := is_integer_eq (t := "int") rfl
  simp (maxDischargeDepth := 12) [startL, subTy, e]
noncomputable def sBody (n : Nat) : MS := sK [2, 3] (sIf (tNot (tV (mA (m_law_same n) (aCons (mV 2) (aCons (mV 3) aNil))))) (sRet (mC (Val.bl false))) sNx)
theorem same_loop (n : Nat) {c : List Nat} {x0 x1 : Option Val} {keep : Store → Prop} {S : Store} (hk : keep S) : forLoop keep (gTup (gsCons (gN 2) (gsCons (gN 3) gsNil))) (sBody (n + 1)) ((rInts c).map fun a => Val.tup [a, a]) [x0, x1, none, none] S = .nx [x0, x1, none, none] S := by
  have e := same_int n
  have ez : ((rInts c).map fun a => Val.tup [a, a]) = c.map fun (x : Nat) => Val.tup [.int x, .int x] := by
    unfold rInts
    rw [List.map_map]
    rfl
  exact for_fold' (fun (x : Nat) => Val.tup [.int x, .int x]) (fun _ : Unit => [x0, x1, none, none]) (fun _ => S) (fun _ => True) (fun s _ => s) c () ez rfl rfl trivial (fun _ _ => hk) (fun s a ha _ => by
    refine ⟨.inl ?_, trivial⟩
    unfold sBody
    simp (maxDischargeDepth := 12) [e])
theorem same_ints (n : Nat) (c : List Nat) (S : Store) : m_law_same (n + 2) [.tup (rInts c), .tup (rInts c)] S = .ok (.bl true) S := by
  rw [m_law_same_succ]
  have e := same_loop n (c := c) (x0 := some (.tup (rInts c))) (x1 := some (.tup (rInts c))) (keep := fun _ => True) (S := S) trivial
  unfold sBody at e
  simp (maxDischargeDepth := 12) [startL, subTy, zipOf, seqOf, e]
end KA

/-! KA1S: the same thing, of any plain value; of lists. -/
namespace KA
open Mp KQ KW
open PySem (Str)
theorem zipWith_pairs : ∀ (vs ws : List Val), List.zipWith (fun x y => Val.tup [x, y]) vs ws = (vs.zip ws).map fun p => Val.tup [p.1, p.2]
  | [], _ => rfl
  | _ :: _, [] => rfl
  | v :: vs, w :: ws => by rw [List.zipWith_cons_cons, List.zip_cons_cons, List.map_cons, zipWith_pairs vs ws]
theorem same_loopP (n : Nat) {ps : List (Val × Val)} {xs : List Val} {x0 x1 : Option Val} {keep : Store → Prop} {S : Store} (hx : xs = ps.map fun p => Val.tup [p.1, p.2]) (hk : keep S) (h : ∀ p, p ∈ ps → m_law_same n [p.1, p.2] S = .ok (.bl true) S) :
    forLoop keep (gTup (gsCons (gN 2) (gsCons (gN 3) gsNil))) (sBody n) xs [x0, x1, none, none] S = .nx [x0, x1, none, none] S := by
  exact for_fold' (fun (p : Val × Val) => Val.tup [p.1, p.2]) (fun _ : Unit => [x0, x1, none, none]) (fun _ => S) (fun _ => True) (fun s _ => s) ps () hx rfl rfl trivial (fun _ _ => hk) (fun s a ha _ => by
    refine ⟨.inl ?_, trivial⟩
    have e := h a ha
    unfold sBody
    simp (maxDischargeDepth := 12) [e])
theorem same_tups (n : Nat) {vs ws : List Val} {S : Store} (hl : vs.length = ws.length) (h : ∀ p, p ∈ vs.zip ws → m_law_same n [p.1, p.2] S = .ok (.bl true) S) : m_law_same (n + 1) [.tup vs, .tup ws] S = .ok (.bl true) S := by
  rw [m_law_same_succ]
  have e := same_loopP n (x0 := some (.tup vs)) (x1 := some (.tup ws)) (keep := fun _ => True) (S := S) (zipWith_pairs vs ws) trivial h
  have z : zipOf [.tup vs, .tup ws] S = .ok ⟨List.zipWith (fun x y => Val.tup [x, y]) vs ws, fun _ => True⟩ S := by simp [zipOf, seqOf]
  unfold sBody at e
  simp (maxDischargeDepth := 12) [startL, subTy, z, e, hl]
theorem same_lists (n : Nat) {a c : Nat} {vs ws : List Val} {S : Store} (ha : sg S a = some (.lst vs)) (hc : sg S c = some (.lst ws)) (hl : vs.length = ws.length) (h : ∀ p, p ∈ vs.zip ws → m_law_same n [p.1, p.2] S = .ok (.bl true) S) : m_law_same (n + 1) [.ref a, .ref c] S = .ok (.bl true) S := by
  rw [m_law_same_succ]
  have ha' : S[a]? = some (.lst vs) := ha
  have hc' : S[c]? = some (.lst ws) := hc
  have e := same_loopP n (x0 := some (.ref a)) (x1 := some (.ref c)) (keep := fun S' => S'[a]? = some (.lst vs) ∧ S'[c]? = some (.lst ws)) (S := S) (zipWith_pairs vs ws) ⟨ha', hc'⟩ h
  have z : zipOf [.ref a, .ref c] S = .ok ⟨List.zipWith (fun x y => Val.tup [x, y]) vs ws, fun S' => S'[a]? = some (.lst vs) ∧ S'[c]? = some (.lst ws)⟩ S := by simp [zipOf, seqOf, ha', hc']
  unfold sBody at e
  have p1 : ∀ T, pIsT T (.ref a) S = .ok (.bl (subTy "list" T)) S := fun T => pIsT_of (by simp [ha])
  have p2 : ∀ T, pIsT T (.ref c) S = .ok (.bl (subTy "list" T)) S := fun T => pIsT_of (by simp [hc])
  simp (maxDischargeDepth := 12) [startL, subTy, z, e, hl, ha, hc, p1, p2]
theorem zip_self {vs : List Val} {p : Val × Val} (h : p ∈ vs.zip vs) : p.1 = p.2 ∧ p.1 ∈ vs := by
  induction vs with
  | nil => simp at h
  | cons a r ih =>
    rw [List.zip_cons_cons] at h
    rcases List.mem_cons.mp h with rfl | h
    · exact ⟨rfl, by simp⟩
    · exact ⟨(ih h).1, by simp [(ih h).2]⟩
theorem same_str (n : Nat) {x : Str} {S : Store} (h : PySem.PyData.strOk x = true) : m_law_same (n + 1) [.str x, .str x] S = .ok (.bl true) S := by
  rw [m_law_same_succ]
  have e := pEq_str (S := S) h h
  simp (maxDischargeDepth := 12) [startL, subTy, e]
theorem same_wv : ∀ (n : Nat) (v : Val) (S : Store), wv n v = true → m_law_same (n + 1) [v, v] S = .ok (.bl true) S
  | n, .non, S, _ => by rw [m_law_same_succ]; simp (maxDischargeDepth := 12) [startL, subTy]
  | n, .bl true, S, _ => by rw [m_law_same_succ]; simp (maxDischargeDepth := 12) [startL, subTy]
  | n, .bl false, S, _ => by rw [m_law_same_succ]; simp (maxDischargeDepth := 12) [startL, subTy]
  | n, .int i, S, _ => same_int n i S
  | n, .str x, S, h => same_str n (by rw [wv_str] at h; exact h)
  | n, .ref i, S, h => by rw [wv_ref] at h; cases h
  | n, .fl i, S, h => by rw [wv_fl] at h; cases h
  | 0, .tup vs, S, h => by rw [wv_tup0] at h; cases h
  | n + 1, .tup vs, S, h => by
    rw [wv_tup, Bool.and_eq_true, List.all_eq_true] at h
    refine same_tups (n + 1) rfl fun p hp => ?_
    obtain ⟨e, hm⟩ := zip_self hp
    rw [← e]
    exact same_wv n p.1 S (h.2 p.1 hm)
end KA

/-! KW1Q: a plain run, told by bags. -/
namespace KW
open Mp
abbrev Task := Nat × Nat
/-- letters put into bags -/
def put (b : List (List Task)) (x : Nat × Task) : List (List Task) := b.set x.1 (b.getD x.1 [] ++ [x.2])
def after (m : Nat) (R : List Rule) (b : List (List Task)) (h : Nat) (t : Task) : List (List Task) := (sentL m R h t).foldl put (b.set h (b.getD h []).tail)
/-- what is still to be done -/
def rest (m : Nat) (R : List Rule) (b : List (List Task)) : Nat := (b.map fun g => (g.map (total m R)).sum).sum
def working (m : Nat) (b : List (List Task)) : List Nat := (List.range m).filter fun h => decide (0 < (b.getD h []).length)
theorem sum_upd {m : Nat} {R : List Rule} : ∀ (b : List (List Task)) (h : Nat) (g : List Task), h < b.length → rest m R (b.set h g) + ((b.getD h []).map (total m R)).sum = rest m R b + (g.map (total m R)).sum
  | [], h, g, l => by simp at l
  | a :: r, 0, g, l => by simp [rest]; omega
  | a :: r, h + 1, g, l => by
    have := sum_upd (m := m) (R := R) r h g (by simp at l; omega)
    simp [rest] at this ⊢
    omega
theorem put_len (b : List (List Task)) (x : Nat × Task) : (put b x).length = b.length := by simp [put]
theorem puts_len (l : List (Nat × Task)) : ∀ b : List (List Task), (l.foldl put b).length = b.length := by
  induction l with
  | nil => intro b; rfl
  | cons a r ih => intro b; rw [List.foldl_cons, ih, put_len]
theorem rest_put {m : Nat} {R : List Rule} {b : List (List Task)} {x : Nat × Task} (h : x.1 < b.length) : rest m R (put b x) = rest m R b + total m R x.2 := by
  have := sum_upd (m := m) (R := R) b x.1 (b.getD x.1 [] ++ [x.2]) h
  unfold put
  rw [List.map_append, List.sum_append] at this
  simp at this ⊢
  omega
theorem rest_puts {m : Nat} {R : List Rule} (l : List (Nat × Task)) : ∀ b : List (List Task), (∀ x, x ∈ l → x.1 < b.length) → rest m R (l.foldl put b) = rest m R b + (l.map fun x => total m R x.2).sum := by
  induction l with
  | nil => intro b _; simp
  | cons a r ih =>
    intro b h
    rw [List.foldl_cons, ih _ (fun x hx => by rw [put_len]; exact h x (by simp [hx])), rest_put (h a (by simp))]
    simp
    omega
/-- each step does one task of all -/
theorem rest_after {m h : Nat} {R : List Rule} {b : List (List Task)} {t : Task} {g : List Task} (W : WfR m R) (ht : TaskOk R t) (hb : b.length = m) (hh : h < m) (hg : b.getD h [] = t :: g) : rest m R b = rest m R (after m R b h t) + 1 := by
  unfold after
  rw [rest_puts _ _ (fun x hx => by rw [List.length_set, hb]; exact (sent_ok W ht hx).1), hg]
  have := sum_upd (m := m) (R := R) b h g (by omega)
  rw [hg] at this
  have e := total_sent (h := h) W ht
  simp only [List.map_cons, List.sum_cons] at this
  simp only [List.tail_cons]
  rw [e] at this
  generalize ((sentL m R h t).map fun x => total m R x.2).sum = q at this ⊢
  omega
end KW

/-! KW1R: the list of a plain run. -/
namespace KW
open Mp
def BagsOk (m : Nat) (R : List Rule) (b : List (List Task)) : Prop := b.length = m ∧ ∀ g, g ∈ b → ∀ t, t ∈ g → TaskOk R t
def runL (m : Nat) (R : List Rule) : Nat → List (List Task) → List (Nat × Task)
  | 0, _ => []
  | n + 1, b => match working m b with
    | [] => []
    | h :: _ => match b.getD h [] with
      | [] => []
      | t :: _ => (h, t) :: runL m R n (after m R b h t)
theorem put_ok {m : Nat} {R : List Rule} {b : List (List Task)} {x : Nat × Task} (B : BagsOk m R b) (hx : x.1 < m) (ht : TaskOk R x.2) : BagsOk m R (put b x) := by
  refine ⟨by rw [put_len]; exact B.1, fun g hg t h => ?_⟩
  unfold put at hg
  rcases List.mem_or_eq_of_mem_set hg with hg | rfl
  · exact B.2 g hg t h
  · rcases List.mem_append.mp h with h | h
    · have hl : x.1 < b.length := by rw [B.1]; exact hx
      have e : b.getD x.1 [] = b[x.1] := by simp [hl]
      rw [e] at h
      exact B.2 _ (List.getElem_mem hl) t h
    · simp at h
      subst h
      exact ht
theorem puts_ok {m : Nat} {R : List Rule} (l : List (Nat × Task)) : ∀ b : List (List Task), BagsOk m R b → (∀ x, x ∈ l → x.1 < m ∧ TaskOk R x.2) → BagsOk m R (l.foldl put b) := by
  induction l with
  | nil => intro b B _; exact B
  | cons a r ih => intro b B h; exact ih _ (put_ok B (h a (by simp)).1 (h a (by simp)).2) fun x hx => h x (by simp [hx])
theorem after_ok {m h : Nat} {R : List Rule} {b : List (List Task)} {t : Task} (W : WfR m R) (B : BagsOk m R b) (hh : h < m) (ht : TaskOk R t) : BagsOk m R (after m R b h t) := by
  have hl : h < b.length := by rw [B.1]; exact hh
  have e : b.getD h [] = b[h] := by simp [hl]
  refine puts_ok _ _ ⟨by rw [List.length_set]; exact B.1, fun g hg t h => ?_⟩ fun x hx => ⟨(sent_ok W ht hx).1, (sent_ok W ht hx).2.1⟩
  rcases List.mem_or_eq_of_mem_set hg with hg | rfl
  · exact B.2 g hg t h
  · rw [e] at h
    exact B.2 _ (List.getElem_mem hl) t (List.mem_of_mem_tail h)
theorem working_head {m h : Nat} {b : List (List Task)} {r : List Nat} (e : working m b = h :: r) : h < m ∧ 0 < (b.getD h []).length := by
  have : h ∈ working m b := by rw [e]; simp
  unfold working at this
  simpa using this
theorem working_none {m : Nat} {R : List Rule} {b : List (List Task)} (hb : b.length = m) (e : working m b = []) : rest m R b = 0 := by
  have key : ∀ g, g ∈ b → g = [] := by
    intro g hg
    obtain ⟨i, hi, rfl⟩ := List.getElem_of_mem hg
    have : ¬ i ∈ working m b := by rw [e]; simp
    unfold working at this
    rw [List.mem_filter] at this
    have h2 : ¬ 0 < (b.getD i []).length := fun q => this ⟨by simpa using (by omega : i < m), by simpa using q⟩
    have e2 : b.getD i [] = b[i] := by simp [hi]
    rw [e2] at h2
    exact List.length_eq_zero_iff.mp (by omega)
  unfold rest
  have : ∀ (l : List (List Task)), (∀ g, g ∈ l → g = []) → (l.map fun g => (g.map (total m R)).sum).sum = 0 := by
    intro l
    induction l with
    | nil => intro _; rfl
    | cons a r ih =>
      intro h
      rw [List.map_cons, List.sum_cons, h a (by simp), ih fun g hg => h g (by simp [hg])]
      rfl
  exact this b key
theorem runL_len {m : Nat} {R : List Rule} (W : WfR m R) : ∀ (n : Nat) (b : List (List Task)), BagsOk m R b → rest m R b ≤ n → (runL m R n b).length = rest m R b
  | 0, b, _, h => by simp [runL]; omega
  | n + 1, b, B, h => by
    unfold runL
    cases e : working m b with
    | nil => rw [working_none B.1 e]; rfl
    | cons k r =>
      obtain ⟨h1, h2⟩ := working_head e
      cases e2 : b.getD k [] with
      | nil => rw [e2] at h2; simp at h2
      | cons t g =>
        have hl : k < b.length := by rw [B.1]; exact h1
        have e3 : b.getD k [] = b[k] := by simp [hl]
        have ht : TaskOk R t := B.2 _ (List.getElem_mem hl) t (by rw [← e3, e2]; simp)
        have ra := rest_after W ht B.1 h1 e2
        have := runL_len W n (after m R b k t) (after_ok W B h1 ht) (by omega)
        simp only [e2, List.length_cons, this]
        omega
/-- more turns change nothing -/
theorem runL_more {m : Nat} {R : List Rule} (W : WfR m R) : ∀ (n k : Nat) (b : List (List Task)), BagsOk m R b → rest m R b ≤ n → rest m R b ≤ k → runL m R n b = runL m R k b
  | 0, 0, _, _, _, _ => rfl
  | 0, k + 1, b, B, h, _ => by
    have := runL_len W (k + 1) b B (by omega)
    rw [List.eq_nil_of_length_eq_zero (by omega : (runL m R (k + 1) b).length = 0)]
    rfl
  | n + 1, 0, b, B, _, h => by
    have := runL_len W (n + 1) b B (by omega)
    rw [List.eq_nil_of_length_eq_zero (by omega : (runL m R (n + 1) b).length = 0)]
    rfl
  | n + 1, k + 1, b, B, h, h' => by
    unfold runL
    cases e : working m b with
    | nil => rfl
    | cons j r =>
      obtain ⟨h1, h2⟩ := working_head e
      cases e2 : b.getD j [] with
      | nil => simp only [e2]
      | cons t g =>
        have hl : j < b.length := by rw [B.1]; exact h1
        have e3 : b.getD j [] = b[j] := by simp [hl]
        have ht : TaskOk R t := B.2 _ (List.getElem_mem hl) t (by rw [← e3, e2]; simp)
        have ra := rest_after W ht B.1 h1 e2
        simp only [e2]
        rw [runL_more W n k (after m R b j t) (after_ok W B h1 ht) (by omega) (by omega)]
end KW

/-! KW1S: bags are no longer than what is still to be done. -/
namespace KW
open Mp
theorem sum_ge : ∀ (l : List Nat), (∀ x, x ∈ l → 1 ≤ x) → l.length ≤ l.sum
  | [], _ => by simp
  | a :: r, h => by
    have := sum_ge r fun x hx => h x (by simp [hx])
    have := h a (by simp)
    simp only [List.length_cons, List.sum_cons]
    omega
theorem sum_mem : ∀ (l : List Nat) (x : Nat), x ∈ l → x ≤ l.sum
  | a :: r, x, h => by
    rw [List.sum_cons]
    rcases List.mem_cons.mp h with rfl | h
    · omega
    · have := sum_mem r x h
      omega
theorem bag_rest {m : Nat} {R : List Rule} {g : List (List Task)} (W : WfR m R) (B : BagsOk m R g) (h : Nat) : (g.getD h []).length ≤ rest m R g := by
  by_cases hl : h < g.length
  · have e : g.getD h [] = g[h] := by simp [hl]
    rw [e]
    have h1 := sum_ge (g[h].map (total m R)) fun x hx => by
      obtain ⟨t, ht, rfl⟩ := List.mem_map.mp hx
      exact total_pos W (B.2 _ (List.getElem_mem hl) t ht)
    rw [List.length_map] at h1
    have h2 := sum_mem (g.map fun q => (q.map (total m R)).sum) ((g[h].map (total m R)).sum) (List.mem_map.mpr ⟨g[h], List.getElem_mem hl, rfl⟩)
    unfold rest
    omega
  · have e : g.getD h [] = [] := by simp [List.getElem?_eq_none (by omega : g.length ≤ h)]
    rw [e]
    simp
theorem sum_take : ∀ (l : List Nat) (i : Nat), (l.take i).sum ≤ l.sum
  | [], i => by simp
  | a :: r, 0 => by simp
  | a :: r, i + 1 => by
    have := sum_take r i
    rw [List.take_succ_cons, List.sum_cons, List.sum_cons]
    omega
theorem puts_rest {m : Nat} {R : List Rule} {g : List (List Task)} (l : List (Nat × Task)) (hl : ∀ x, x ∈ l → x.1 < g.length) (i : Nat) : rest m R ((l.take i).foldl put g) ≤ rest m R (l.foldl put g) := by
  rw [rest_puts _ _ fun x hx => hl x (List.mem_of_mem_take hx), rest_puts _ _ hl, List.map_take]
  have := sum_take (l.map fun x => total m R x.2) i
  omega
theorem runL_step {m n h : Nat} {R : List Rule} {b : List (List Task)} {r : List Nat} {t : Task} {g : List Task} (e : working m b = h :: r) (e2 : b.getD h [] = t :: g) : runL m R (n + 1) b = (h, t) :: runL m R n (after m R b h t) := by
  have : runL m R (n + 1) b = match working m b with
    | [] => []
    | h :: _ => match b.getD h [] with
      | [] => []
      | t :: _ => (h, t) :: runL m R n (after m R b h t) := rfl
  rw [this, e]
  dsimp only
  rw [e2]
end KW

/-! KP1: what is given. -/
namespace KP
open Mp KQ KW KA
open PySem (Str)
def rTasks (l : List (Nat × Nat)) : Val := .tup (l.map rTask)
theorem are_tasks_ok {S : Store} {w m : Nat} {R : List Rule} {l : List (Nat × Nat)} (hw : IsW S w m R) (h : ∀ t, t ∈ l → TaskOk R t) (hl : l.length < 1000) : m_are_tasks [.ref w, rTasks l] S = .ok (.bl true) S := by
  have er : ∀ T, itOf (rTasks l) T = .ok ⟨l.map rTask, fun _ => True⟩ T := fun _ => rfl
  unfold m_are_tasks
  simp (maxDischargeDepth := 12) [startL, pIsT, subTy, er, rTasks]
  rw [lc_map' rTask (fun _ => .bl true) l rfl trivial (by unfold LIM; omega) ?_]
  · have : (l.map fun _ => Val.bl true) = l.map fun x => Val.bl ((fun _ => true) x) := rfl
    simp (maxDischargeDepth := 12) [this]
  · intro t ht
    have e := is_right_task_ok hw (h t ht)
    simp (maxDischargeDepth := 12) [e]
theorem check_given_ok {S : Store} {w m : Nat} {R : List Rule} {l : List (Nat × Nat)} (hw : IsW S w m R) (h : ∀ t, t ∈ l → TaskOk R t) (hl : l.length ≤ 20) : m_check_given [.ref w, rTasks l] S = .ok .non S := by
  have e := are_tasks_ok hw h (by omega)
  have hl' : ¬ (20 : Int) < (l.length : Int) := by omega
  unfold m_check_given
  unfold rTasks at e ⊢
  simp (maxDischargeDepth := 12) [startL, e, hl', hl]
def sumT (m : Nat) (R : List Rule) (l : List (Nat × Nat)) : Nat := (l.map (total m R)).sum
theorem total_loop {S : Store} {m d : Nat} {R : List Rule} {L : Loc} {keep : Store → Prop} (W : WfR m R) (hk : ∀ kvs', keep (ss S d (.dT kvs'))) (hL0 : L[0]? = some (some (.int m))) (hL1 : L[1]? = some (some (rRules R))) (hL2 : L[2]? = some (some (.ref d))) (hl4 : 4 < L.length) {kvs : List (List Key × Val)} (K : KeptOk m R kvs) (hd : sg S d = some (.dT kvs)) (l : List (Nat × Nat)) (ht : ∀ t, t ∈ l → TaskOk R t) (hz : l.length < 1000) :
    ∃ kvs', KeptOk m R kvs' ∧ lcLoop keep L (gN 4) tYes (mB fSumA (aCons (mA (KA.m_law_counts 20) (aCons (mV 0) (aCons (mV 1) (aCons (mV 2) (aCons (mC (.int 0)) (aCons (mV 4) aNil)))))) aNil)) (l.map rTask) [] S = .ok (rInts (l.map (total m R))) (ss S d (.dT kvs')) := by
  have hm1 := W.m1
  have hds : (sg S d).isSome = true := by rw [hd]; rfl
  obtain ⟨ws, S', e, kvs', rfl, rfl, K'⟩ := lcLoop_inv (keep := keep) (L := L) (g := gN 4) (c := tYes) (e := mB fSumA (aCons (mA (KA.m_law_counts 20) (aCons (mV 0) (aCons (mV 1) (aCons (mV 2) (aCons (mC (.int 0)) (aCons (mV 4) aNil)))))) aNil))
    (fun i acc S' => ∃ kvs', acc = rInts ((l.take i).map (total m R)) ∧ S' = ss S d (.dT kvs') ∧ KeptOk m R kvs') (xs := l.map rTask) (S := S)
    ⟨kvs, by simp [rInts], (ss_own hd).symm, K⟩ (fun _ _ S' _ q => by obtain ⟨kvs', _, rfl, _⟩ := q; exact hk kvs') (fun i x acc S' hx q => by
      obtain ⟨kvs1, rfl, rfl, K1⟩ := q
      rw [List.getElem?_map] at hx
      obtain ⟨t, hy, rfl⟩ := Option.map_eq_some_iff.mp hx
      have htm := ht t (List.mem_of_getElem? hy)
      have hi := (List.getElem?_eq_some_iff.mp hy).1
      have h2 := htm.2
      obtain ⟨kvs2, K2, e2⟩ := counts_eq W 20 (ss S d (.dT kvs1)) d kvs1 0 t (by omega) (by omega) htm K1 (sg_ss_same hds)
      rw [ss_ss, show ((0 : Nat) : Int) = 0 from rfl] at e2
      have e5 : fSumA [.tup (rInts (dueL m R 0 t))] (ss S d (.dT kvs2)) = .ok (.int (total m R t : Nat)) (ss S d (.dT kvs2)) := by
        rw [fSumA_tup, intsO_rInts, intsR_some, sum_cast, due_sum (by omega) htm]
      have g0 : (L.set 4 (some (rTask t)))[0]? = some (some (.int m)) := by rw [List.getElem?_set_ne (by omega)]; exact hL0
      have g1 : (L.set 4 (some (rTask t)))[1]? = some (some (rRules R)) := by rw [List.getElem?_set_ne (by omega)]; exact hL1
      have g2 : (L.set 4 (some (rTask t)))[2]? = some (some (.ref d)) := by rw [List.getElem?_set_ne (by omega)]; exact hL2
      have g4 : (L.set 4 (some (rTask t)))[4]? = some (some (rTask t)) := List.getElem?_set_self hl4
      refine ⟨L.set 4 (some (rTask t)), ss S d (.dT kvs1), ss S d (.dT kvs1), rfl, .inl ⟨rfl, .int (total m R t : Nat), ss S d (.dT kvs2), ?_, by rw [rInts_len, List.length_map, List.length_take]; unfold LIM; omega, kvs2, ?_, rfl, K2⟩⟩
      · simp (maxDischargeDepth := 12) [getL_some g0, getL_some g1, getL_some g2, getL_some g4, e2, e5, -fSumA_tup]
      · rw [List.take_add_one, hy]
        simp [rInts])
  rw [List.length_map, List.take_length] at e
  exact ⟨kvs', K', e⟩
theorem law_total_eq {S : Store} {m d : Nat} {R : List Rule} (W : WfR m R) {kvs : List (List Key × Val)} (K : KeptOk m R kvs) (hd : sg S d = some (.dT kvs)) (l : List (Nat × Nat)) (ht : ∀ t, t ∈ l → TaskOk R t) (hz : l.length < 1000) :
    ∃ kvs', KeptOk m R kvs' ∧ m_law_total [.int m, rRules R, .ref d, rTasks l] S = .ok (.int (sumT m R l : Nat)) (ss S d (.dT kvs')) := by
  obtain ⟨kvs', K', e⟩ := total_loop (keep := fun _ => True) (L := [some (.int m), some (rRules R), some (.ref d), some (rTasks l), none]) W (fun _ => trivial) rfl rfl rfl (Nat.lt_succ_self 4) K hd l ht hz
  have er : ∀ T, itOf (rTasks l) T = .ok ⟨l.map rTask, fun _ => True⟩ T := fun _ => rfl
  have dl := sg_lt hd
  have hds : (sg S d).isSome = true := by rw [hd]; rfl
  have lo := K'.low
  have n1 : ¬ d = sl S := by omega
  refine ⟨kvs', K', ?_⟩
  have es : intsO (rInts (l.map (total m R))) = some ((l.map (total m R)).map fun x => ((x : Nat) : Int)) := intsO_rInts _
  unfold m_law_total sumT
  simp (maxDischargeDepth := 12) [startL, er, e, es, hds, dl, lo, n1, -List.map_map]
  rw [sum_cast]
/-- the same of a list -/
theorem law_total_lst {S : Store} {m d a : Nat} {R : List Rule} (W : WfR m R) {kvs : List (List Key × Val)} (K : KeptOk m R kvs) (hd : sg S d = some (.dT kvs)) (l : List (Nat × Nat)) (ha : sg S a = some (.lst (l.map rTask))) (ht : ∀ t, t ∈ l → TaskOk R t) (hz : l.length < 1000) :
    ∃ kvs', KeptOk m R kvs' ∧ m_law_total [.int m, rRules R, .ref d, .ref a] S = .ok (.int (sumT m R l : Nat)) (ss S d (.dT kvs')) := by
  have had : ¬ a = d := fun q => by rw [q, hd] at ha; cases ha
  obtain ⟨kvs', K', e⟩ := total_loop (keep := fun S' => sg S' a = some (.lst (l.map rTask))) (L := [some (.int m), some (rRules R), some (.ref d), some (.ref a), none]) W (fun _ => by show sg _ a = _; rw [sg_ss_ne had]; exact ha) rfl rfl rfl (Nat.lt_succ_self 4) K hd l ht hz
  have dl := sg_lt hd
  have hds : (sg S d).isSome = true := by rw [hd]; rfl
  have lo := K'.low
  have n1 : ¬ d = sl S := by omega
  refine ⟨kvs', K', ?_⟩
  have es : intsO (rInts (l.map (total m R))) = some ((l.map (total m R)).map fun x => ((x : Nat) : Int)) := intsO_rInts _
  unfold m_law_total sumT
  simp (maxDischargeDepth := 12) [startL, ha, e, es, hds, dl, lo, n1, -List.map_map]
  rw [sum_cast]
end KP

/-! KW2L: the works' judges of any typed value. -/
namespace KW
open Mp KQ
open PySem (Str)
def taskB (k : Nat) (v : Val) : Bool := match v with
  | .tup [a, b] => withinB a 0 ((k : Int) - 1) && withinB b 0 12
  | _ => false
def pairOkB (m k : Int) (v : Val) : Bool := match v with
  | .tup [a, b] => withinB a 0 (m - 1) && withinB b 0 (k - 1)
  | _ => false
def ruleB (m k : Int) (v : Val) : Bool := match v with
  | .tup ps => decide (ps.length ≤ 4) && ps.all (pairOkB m k)
  | _ => false
theorem TY.elem {n : Nat} {S : Store} {vs : List Val} (h : TY (n + 1) S (.tup vs)) {x : Val} (hx : x ∈ vs) : TY n S x := (h.2 vs rfl).2 x hx
theorem TY.len {n : Nat} {S : Store} {vs : List Val} (h : TY (n + 1) S (.tup vs)) : vs.length < 100000 := (h.2 vs rfl).1
theorem taskB_some {k : Nat} {v : Val} (h : taskB k v = true) : ∃ t : Nat × Nat, v = rTask t ∧ t.1 < k ∧ t.2 ≤ 12 := by
  unfold taskB at h
  split at h
  · rename_i a b
    rw [Bool.and_eq_true] at h
    cases a with
    | int i => cases b with
      | int j =>
        simp [withinB] at h
        exact ⟨(i.toNat, j.toNat), by unfold rTask; congr 1; simp; omega, by show i.toNat < k; omega, by show j.toNat ≤ 12; omega⟩
      | _ => simp [withinB] at h
    | _ => simp [withinB] at h
  · cases h
theorem taskB_task {k : Nat} {t : Nat × Nat} : taskB k (rTask t) = (decide (t.1 < k) && decide (t.2 ≤ 12)) := by
  show (withinB (.int t.1) 0 ((k : Int) - 1) && withinB (.int t.2) 0 12) = _
  unfold withinB
  have e1 : decide ((0 : Int) ≤ (t.1 : Int)) = true := by simp
  have e2 : decide ((0 : Int) ≤ (t.2 : Int)) = true := by simp
  have e3 : decide ((t.1 : Int) ≤ (k : Int) - 1) = decide (t.1 < k) := by
    by_cases h : t.1 < k
    · rw [decide_eq_true h]; exact decide_eq_true (by omega)
    · rw [decide_eq_false h]; exact decide_eq_false (by omega)
  have e4 : decide ((t.2 : Int) ≤ 12) = decide (t.2 ≤ 12) := by
    by_cases h : t.2 ≤ 12
    · rw [decide_eq_true h]; exact decide_eq_true (by omega)
    · rw [decide_eq_false h]; exact decide_eq_false (by omega)
  simp only [e1, e2, e3, e4, Bool.true_and]
theorem is_right_task_eq {S : Store} {w m : Nat} {R : List Rule} {v : Val} (h : IsW S w m R) (hv : TY 1 S v) : m_is_right_task [.ref w, v] S = .ok (.bl (taskB R.length v)) S := by
  have h1 := h.at_
  obtain ⟨t, ht⟩ := hv.typed
  have e1 := is_pair_eq ht
  unfold m_is_right_task
  cases q : pairB v with
  | false =>
    rw [q] at e1
    have : taskB R.length v = false := by
      unfold taskB
      split
      · simp [pairB, sizedB] at q
      · rfl
    simp (maxDischargeDepth := 12) [startL, e1, this]
  | true =>
    obtain ⟨a, b, rfl⟩ := pairB_two q
    rw [q] at e1
    obtain ⟨ta, hta⟩ := (hv.elem (x := a) (by simp))
    obtain ⟨tb, htb⟩ := (hv.elem (x := b) (by simp))
    have e2 := is_below_eq (n := (R.length : Nat)) hta
    have e3 := is_within_eq (a := 0) (b := 12) htb
    have er : sg S w = some (.ins "Works" [("many", .int m), ("rules", .tup (R.map rRule))]) := h1
    have et : taskB R.length (.tup [a, b]) = (withinB a 0 ((R.length : Int) - 1) && withinB b 0 12) := rfl
    rw [et]
    cases q1 : withinB a 0 ((R.length : Int) - 1) with
    | false => rw [q1] at e2; simp (maxDischargeDepth := 12) [startL, e1, er, e2, e3]
    | true => rw [q1] at e2; simp (maxDischargeDepth := 12) [startL, e1, er, e2, e3]
theorem check_task_eq {S : Store} {w m : Nat} {R : List Rule} {v : Val} (h : IsW S w m R) (hv : TY 1 S v) : m_check_task [.ref w, v] S = if taskB R.length v = true then .ok .non S else .exn ⟨"NoTask", []⟩ S := by
  have e := is_right_task_eq h hv
  unfold m_check_task
  cases q : taskB R.length v with
  | false => rw [q] at e; simp (maxDischargeDepth := 12) [startL, e]
  | true => rw [q] at e; simp (maxDischargeDepth := 12) [startL, e]
theorem check_house_eq {S : Store} {w m : Nat} {R : List Rule} {v : Val} (h : IsW S w m R) (hv : Typed S v) : m_check_house [.ref w, v] S = if withinB v 0 ((m : Int) - 1) = true then .ok .non S else .exn ⟨"NoHouse", []⟩ S := by
  obtain ⟨t, ht⟩ := hv
  have e := is_below_eq (n := (m : Int)) ht
  have h1 := h.at_
  unfold m_check_house
  cases q : withinB v 0 ((m : Int) - 1) with
  | false => rw [q] at e; simp (maxDischargeDepth := 12) [startL, h1, worksO, e]
  | true => rw [q] at e; simp (maxDischargeDepth := 12) [startL, h1, worksO, e]
theorem withinB_nat {v : Val} {m : Nat} (h : withinB v 0 ((m : Int) - 1) = true) : ∃ k : Nat, v = .int k ∧ k < m := by
  cases v with
  | int i =>
    simp [withinB] at h
    exact ⟨i.toNat, by congr 1; omega, by omega⟩
  | _ => simp [withinB] at h
theorem sent_by_gen {S : Store} {w m : Nat} {R : List Rule} {a v : Val} (hw : IsW S w m R) (ha : Typed S a) (hv : TY 1 S v) :
    (withinB a 0 ((m : Int) - 1) = false ∧ m_sent_by [.ref w, a, v] S = .exn ⟨"NoHouse", []⟩ S) ∨ (withinB a 0 ((m : Int) - 1) = true ∧ taskB R.length v = false ∧ m_sent_by [.ref w, a, v] S = .exn ⟨"NoTask", []⟩ S) ∨
    ∃ (h : Nat) (t : Nat × Nat), a = .int h ∧ h < m ∧ v = rTask t ∧ TaskOk R t := by
  have e1 := check_house_eq hw ha
  have e2 := check_task_eq hw hv
  cases q : withinB a 0 ((m : Int) - 1) with
  | false =>
    rw [q] at e1
    refine .inl ⟨rfl, ?_⟩
    unfold m_sent_by
    simp (maxDischargeDepth := 12) [startL, e1]
  | true =>
    cases q2 : taskB R.length v with
    | false =>
      rw [q] at e1
      rw [q2] at e2
      refine .inr (.inl ⟨rfl, rfl, ?_⟩)
      unfold m_sent_by
      simp (maxDischargeDepth := 12) [startL, e1, e2]
    | true =>
      obtain ⟨h, rfl, hh⟩ := withinB_nat q
      obtain ⟨t, rfl, t1, t2⟩ := taskB_some q2
      exact .inr (.inr ⟨h, t, rfl, hh, rfl, t1, t2⟩)
theorem is_rule_eq {S : Store} {m k : Int} {v : Val} (hv : TY 2 S v) : m_is_rule [.int m, .int k, v] S = .ok (.bl (ruleB m k v)) S := by
  obtain ⟨t, ht⟩ := hv.typed
  have e1 := is_sized_eq (a := 0) (b := 4) ht
  unfold m_is_rule
  cases q : sizedB v 0 4 with
  | false =>
    rw [q] at e1
    have : ruleB m k v = false := by
      unfold ruleB
      split
      · rename_i ps
        have : ¬ ps.length ≤ 4 := fun z => by
          simp [sizedB] at q
          omega
        simp [this]
      · rfl
    simp (maxDischargeDepth := 12) [startL, e1, this]
  | true =>
    rw [q] at e1
    obtain ⟨ps, rfl⟩ : ∃ ps, v = .tup ps := by
      cases v with
      | tup ps => exact ⟨ps, rfl⟩
      | _ => simp [sizedB] at q
    have hl : ps.length ≤ 4 := by simp [sizedB] at q; omega
    simp (maxDischargeDepth := 12) [startL, e1]
    rw [lc_vals (fun x => .bl (pairB x)) trivial (by unfold LIM; omega) fun x hx => by
      obtain ⟨t, ht⟩ := (hv.elem hx).typed
      have e := is_pair_eq ht
      simp (maxDischargeDepth := 12) [e]]
    simp (maxDischargeDepth := 12)
    cases qa : ps.all pairB with
    | false =>
      have : ruleB m k (.tup ps) = false := by
        show (decide (ps.length ≤ 4) && ps.all (pairOkB m k)) = false
        have : ps.all (pairOkB m k) = false := by
          rw [List.all_eq_false] at qa ⊢
          obtain ⟨x, hx, q⟩ := qa
          refine ⟨x, hx, fun z => q ?_⟩
          unfold pairOkB at z
          split at z
          · simp [pairB, sizedB]
          · cases z
        rw [this, Bool.and_false]
      simp (maxDischargeDepth := 12) [this]
    | true =>
      simp (maxDischargeDepth := 12)
      rw [lc_vals (fun x => .bl (pairOkB m k x)) trivial (by unfold LIM; omega) fun x hx => by
        obtain ⟨a, b, rfl⟩ := pairB_two (List.all_eq_true.mp qa x hx)
        have hx' := hv.elem hx
        obtain ⟨ta, hta⟩ := (hx'.elem (x := a) (by simp))
        obtain ⟨tb, htb⟩ := (hx'.elem (x := b) (by simp))
        have e2 := is_below_eq (n := m) hta
        have e3 := is_below_eq (n := k) htb
        have ep : pairOkB m k (.tup [a, b]) = (withinB a 0 (m - 1) && withinB b 0 (k - 1)) := rfl
        rw [ep]
        cases q1 : withinB a 0 (m - 1) with
        | false => rw [q1] at e2; simp (maxDischargeDepth := 12) [e2, e3]
        | true => rw [q1] at e2; simp (maxDischargeDepth := 12) [e2, e3]]
      have er : ruleB m k (.tup ps) = ps.all (pairOkB m k) := by
        show (decide (ps.length ≤ 4) && ps.all (pairOkB m k)) = _
        rw [decide_eq_true hl, Bool.true_and]
      simp (maxDischargeDepth := 12) [er]
theorem pairOkB_some {m k : Int} {v : Val} (h : pairOkB m k v = true) : ∃ p : Nat × Nat, v = rPair p ∧ (p.1 : Int) < m ∧ (p.2 : Int) < k := by
  unfold pairOkB at h
  split at h
  · rename_i a b
    rw [Bool.and_eq_true] at h
    cases a with
    | int i => cases b with
      | int j =>
        simp [withinB] at h
        exact ⟨(i.toNat, j.toNat), by unfold rPair; congr 1; simp; omega, by show ((i.toNat : Nat) : Int) < m; omega, by show ((j.toNat : Nat) : Int) < k; omega⟩
      | _ => simp [withinB] at h
    | _ => simp [withinB] at h
  · cases h
theorem ruleB_some {m k : Int} {v : Val} (h : ruleB m k v = true) : ∃ r : Rule, v = rRule r ∧ r.length ≤ 4 ∧ ∀ p, p ∈ r → (p.1 : Int) < m ∧ (p.2 : Int) < k := by
  unfold ruleB at h
  split at h
  · rename_i ps
    rw [Bool.and_eq_true, List.all_eq_true] at h
    obtain ⟨h1, h2⟩ := h
    have key : ∀ ps : List Val, (∀ x, x ∈ ps → pairOkB m k x = true) → ∃ r : Rule, ps = r.map rPair ∧ ∀ p, p ∈ r → (p.1 : Int) < m ∧ (p.2 : Int) < k := by
      intro ps
      induction ps with
      | nil => intro _; exact ⟨[], rfl, by simp⟩
      | cons a l ih =>
        intro h
        obtain ⟨p, rfl, hp⟩ := pairOkB_some (h a (by simp))
        obtain ⟨r, rfl, hr⟩ := ih fun x hx => h x (List.mem_cons_of_mem _ hx)
        refine ⟨p :: r, rfl, fun q hq => ?_⟩
        rcases List.mem_cons.mp hq with rfl | hq
        · exact hp
        · exact hr q hq
    obtain ⟨r, rfl, hr⟩ := key ps h2
    exact ⟨r, rfl, by simpa using h1, hr⟩
  · cases h
end KW

/-! KS1: standings judged. -/
namespace KS
open Mp KQ KW KP
open PySem (Str)
abbrev Way := (Nat × Nat) × List Task
def rWay (y : Way) : Val := .tup [.int y.1.1, .int y.1.2, rTasks y.2]
def rBags (b : List (List Task)) : Val := .tup (b.map rTasks)
def rWays (w : List Way) : Val := .tup (w.map rWay)
def rStand (b : List (List Task)) (w : List Way) : Val := .tup [rBags b, rWays w]
def tasksB (k : Nat) (v : Val) : Bool := match v with
  | .tup ts => ts.all (taskB k)
  | _ => false
def someB (v : Val) : Bool := match v with
  | .tup (_ :: _) => true
  | _ => false
def wayB (m k : Nat) (v : Val) : Bool := match v with
  | .tup [a, b, c] => withinB a 0 ((m : Int) - 1) && withinB b 0 ((m : Int) - 1) && (tasksB k c && someB c)
  | _ => false
def endV (v : Val) : Int × Int := match v with
  | .tup (.int a :: .int b :: _) => (a, b)
  | _ => (0, 0)
def ascB (es : List (Int × Int)) : Bool := (es.zip es.tail).all fun p => ltB p.1 p.2
def standB (m k : Nat) (v : Val) : Bool := match v with
  | .tup [.tup bs, .tup ws] => decide (bs.length = m) && (bs.all (tasksB k) && (ws.all (wayB m k) && ascB (ws.map endV)))
  | _ => false
theorem are_tasks_eq {S : Store} {w m : Nat} {R : List Rule} {v : Val} (hw : IsW S w m R) (hv : TY 2 S v) : m_are_tasks [.ref w, v] S = .ok (.bl (tasksB R.length v)) S := by
  obtain ⟨t, ht⟩ := hv.typed
  unfold m_are_tasks
  by_cases q : ∃ vs, v = .tup vs
  · obtain ⟨vs, rfl⟩ := q
    have hl := hv.len
    simp (maxDischargeDepth := 12) [startL, subTy]
    rw [lc_vals (fun x => .bl (taskB R.length x)) trivial (by unfold LIM; omega) fun x hx => by
      have e := is_right_task_eq hw (hv.elem hx)
      simp (maxDischargeDepth := 12) [e]]
    simp (maxDischargeDepth := 12) [tasksB]
  · have ht' : (t == "tuple") = false := not_tuple ht q
    have : tasksB R.length v = false := by cases v <;> first | rfl | exact absurd ⟨_, rfl⟩ q
    simp (maxDischargeDepth := 12) [startL, pIsT_of ht, subTy, ht', this]
theorem sized_three {v : Val} (h : sizedB v 3 3 = true) : ∃ a b c, v = .tup [a, b, c] := by
  unfold sizedB at h
  split at h
  · rename_i vs
    simp at h
    match vs, h with
    | [a, b, c], _ => exact ⟨a, b, c, rfl⟩
    | [], h => simp at h
    | [_], h => simp at h
    | [_, _], h => simp at h
    | _ :: _ :: _ :: _ :: _, h => simp at h; omega
  · cases h
theorem is_way_eq {S : Store} {w m : Nat} {R : List Rule} {v : Val} (hw : IsW S w m R) (hv : TY 3 S v) : m_is_way [.ref w, v] S = .ok (.bl (wayB m R.length v)) S := by
  obtain ⟨t, ht⟩ := hv.typed
  have e1 := is_sized_eq (a := 3) (b := 3) ht
  have er : sg S w = some (.ins "Works" [("many", .int m), ("rules", .tup (R.map rRule))]) := hw.at_
  unfold m_is_way
  cases q : sizedB v 3 3 with
  | false =>
    rw [q] at e1
    have : wayB m R.length v = false := by
      unfold wayB
      split
      · simp [sizedB] at q
      · rfl
    simp (maxDischargeDepth := 12) [startL, e1, this]
  | true =>
    obtain ⟨a, b, c, rfl⟩ := sized_three q
    rw [q] at e1
    obtain ⟨ta, hta⟩ := (hv.elem (x := a) (by simp)).typed
    obtain ⟨tb, htb⟩ := (hv.elem (x := b) (by simp)).typed
    have hc := hv.elem (x := c) (by simp)
    have e2 := is_below_eq (n := (m : Int)) hta
    have e3 := is_below_eq (n := (m : Int)) htb
    have e4 := are_tasks_eq hw hc
    have ew : wayB m R.length (.tup [a, b, c]) = (withinB a 0 ((m : Int) - 1) && withinB b 0 ((m : Int) - 1) && (tasksB R.length c && someB c)) := rfl
    rw [ew]
    cases q1 : withinB a 0 ((m : Int) - 1) with
    | false => rw [q1] at e2; simp (maxDischargeDepth := 12) [startL, e1, er, e2]
    | true =>
      rw [q1] at e2
      cases q2 : withinB b 0 ((m : Int) - 1) with
      | false => rw [q2] at e3; simp (maxDischargeDepth := 12) [startL, e1, er, e2, e3]
      | true =>
        rw [q2] at e3
        cases q3 : tasksB R.length c with
        | false => rw [q3] at e4; simp (maxDischargeDepth := 12) [startL, e1, er, e2, e3, e4]
        | true =>
          rw [q3] at e4
          obtain ⟨ts, rfl⟩ : ∃ ts, c = .tup ts := by
            cases c with
            | tup ts => exact ⟨ts, rfl⟩
            | _ => simp [tasksB] at q3
          cases ts with
          | nil => simp (maxDischargeDepth := 12) [startL, e1, er, e2, e3, e4, someB]
          | cons x r =>
            have hp : (0 : Int) < (r.length : Int) + 1 := by omega
            simp (maxDischargeDepth := 12) [startL, e1, er, e2, e3, e4, someB, hp]
theorem tasksB_some {k : Nat} {v : Val} (h : tasksB k v = true) : ∃ l : List Task, v = rTasks l ∧ ∀ t, t ∈ l → t.1 < k ∧ t.2 ≤ 12 := by
  unfold tasksB at h
  split at h
  · rename_i ts
    rw [List.all_eq_true] at h
    induction ts with
    | nil => exact ⟨[], rfl, by simp⟩
    | cons a r ih =>
      obtain ⟨t, rfl, t1, t2⟩ := taskB_some (h a (by simp))
      obtain ⟨l, e, hl⟩ := ih fun x hx => h x (List.mem_cons_of_mem _ hx)
      refine ⟨t :: l, ?_, fun x hx => ?_⟩
      · unfold rTasks at e ⊢
        rw [List.map_cons]
        have := Val.tup.inj e
        rw [this]
      · rcases List.mem_cons.mp hx with rfl | hx
        · exact ⟨t1, t2⟩
        · exact hl x hx
  · cases h
def WayOk (m : Nat) (R : List Rule) (y : Way) : Prop := y.1.1 < m ∧ y.1.2 < m ∧ y.2 ≠ [] ∧ ∀ t, t ∈ y.2 → TaskOk R t
theorem wayB_some {m : Nat} {R : List Rule} {v : Val} (h : wayB m R.length v = true) : ∃ y : Way, v = rWay y ∧ WayOk m R y := by
  unfold wayB at h
  split at h
  · rename_i a b c
    simp only [Bool.and_eq_true] at h
    obtain ⟨⟨h1, h2⟩, h3, h4⟩ := h
    obtain ⟨i, rfl, hi⟩ := withinB_nat h1
    obtain ⟨j, rfl, hj⟩ := withinB_nat h2
    obtain ⟨l, rfl, hl⟩ := tasksB_some h3
    refine ⟨((i, j), l), rfl, hi, hj, fun z => ?_, hl⟩
    have z : l = [] := z
    subst z
    simp [rTasks, someB] at h4
  · cases h
theorem all_some {α : Type} {p : Val → Bool} {rep : α → Val} {P : α → Prop} (h : ∀ v, p v = true → ∃ a, v = rep a ∧ P a) : ∀ {vs : List Val}, vs.all p = true → ∃ l : List α, vs = l.map rep ∧ ∀ a, a ∈ l → P a
  | [], _ => ⟨[], rfl, by simp⟩
  | v :: vs, hv => by
    rw [List.all_cons, Bool.and_eq_true] at hv
    obtain ⟨a, rfl, ha⟩ := h v hv.1
    obtain ⟨l, rfl, hl⟩ := all_some h hv.2
    exact ⟨a :: l, rfl, fun x hx => by
      rcases List.mem_cons.mp hx with rfl | hx
      · exact ha
      · exact hl x hx⟩
def endN (y : Way) : Int × Int := ((y.1.1 : Nat), (y.1.2 : Nat))
theorem endV_way (y : Way) : endV (rWay y) = endN y := rfl
def rEnd (e : Int × Int) : Val := .tup [.int e.1, .int e.2]
theorem TY_mono {n : Nat} {S : Store} {v : Val} (h : TY (n + 1) S v) : TY n S v := by
  induction n generalizing v with
  | zero => exact h.1
  | succ n ih => exact ⟨h.1, fun vs e => ⟨(h.2 vs e).1, fun x hx => ih ((h.2 vs e).2 x hx)⟩⟩
theorem is_right_standing_eq {S : Store} {w m : Nat} {R : List Rule} {v : Val} (hw : IsW S w m R) (hv : TY 5 S v) : m_is_right_standing [.ref w, v] S = .ok (.bl (standB m R.length v)) S := by
  obtain ⟨t, ht⟩ := hv.typed
  have e1 := is_pair_eq ht
  have er : sg S w = some (.ins "Works" [("many", .int m), ("rules", .tup (R.map rRule))]) := hw.at_
  have hm1 := hw.wf.m1
  unfold m_is_right_standing
  cases q : pairB v with
  | false =>
    rw [q] at e1
    have : standB m R.length v = false := by
      unfold standB
      split
      · simp [pairB, sizedB] at q
      · rfl
    simp (maxDischargeDepth := 12) [startL, e1, this]
  | true =>
    obtain ⟨a, b, rfl⟩ := pairB_two q
    rw [q] at e1
    have ha := hv.elem (x := a) (by simp)
    have hb := hv.elem (x := b) (by simp)
    obtain ⟨ta, hta⟩ := ha.typed
    obtain ⟨tb, htb⟩ := hb.typed
    have e2 := is_sized_eq (a := (m : Int)) (b := (m : Int)) hta
    cases q2 : sizedB a m m with
    | false =>
      rw [q2] at e2
      have : standB m R.length (.tup [a, b]) = false := by
        unfold standB
        split
        · rename_i bs ws e
          cases e
          have : ¬ bs.length = m := fun z => by simp [sizedB, z] at q2
          simp [this]
        · rfl
      simp (maxDischargeDepth := 12) [startL, e1, er, e2, this]
    | true =>
      rw [q2] at e2
      obtain ⟨bs, rfl⟩ : ∃ bs, a = .tup bs := by
        cases a with
        | tup bs => exact ⟨bs, rfl⟩
        | _ => simp [sizedB] at q2
      have hbl : bs.length = m := by simp [sizedB] at q2; omega
      by_cases qb : ∃ ws, b = .tup ws
      · obtain ⟨ws, rfl⟩ := qb
        have hwl := hb.len
        have hbz := ha.len
        have es : standB m R.length (.tup [.tup bs, .tup ws]) = (bs.all (tasksB R.length) && (ws.all (wayB m R.length) && ascB (ws.map endV))) := by
          show (decide (bs.length = m) && _) = _
          rw [decide_eq_true hbl, Bool.true_and]
        rw [es]
        simp (maxDischargeDepth := 12) [startL, e1, er, e2, subTy]
        rw [lc_vals (fun x => .bl (tasksB R.length x)) trivial (by unfold LIM; omega) fun x hx => by
          have e := are_tasks_eq hw (TY_mono (ha.elem hx))
          simp (maxDischargeDepth := 12) [e]]
        simp (maxDischargeDepth := 12)
        cases q3 : bs.all (tasksB R.length) with
        | false => simp (maxDischargeDepth := 12)
        | true =>
          simp (maxDischargeDepth := 12)
          rw [lc_vals (fun x => .bl (wayB m R.length x)) trivial (by unfold LIM; omega) fun x hx => by
            have e := is_way_eq hw (hb.elem hx)
            simp (maxDischargeDepth := 12) [e]]
          simp (maxDischargeDepth := 12)
          cases q4 : ws.all (wayB m R.length) with
          | false => simp (maxDischargeDepth := 12)
          | true =>
            obtain ⟨l, rfl, hl⟩ := all_some (p := wayB m R.length) (rep := rWay) (P := WayOk m R) (fun v h => wayB_some h) q4
            rw [List.length_map] at hwl
            simp (maxDischargeDepth := 12)
            have c2 : ∀ a b c : Val, cutL [a, b, c] none (some 2) = [a, b] := fun _ _ _ => rfl
            obtain ⟨es, hes⟩ : ∃ es : List (Int × Int), es = l.map endN := ⟨_, rfl⟩
            have eE : (l.map fun y : Way => Val.tup [.int y.1.1, .int y.1.2]) = es.map rEnd := by rw [hes, List.map_map]; rfl
            have e3 : (l.map (endV ∘ rWay)) = es := by rw [hes]; rfl
            have el : es.length = l.length := by rw [hes]; simp
            rw [lc_map' rWay (fun y : Way => Val.tup [.int y.1.1, .int y.1.2]) l rfl trivial (by unfold LIM; omega) fun y hy => by
              simp (maxDischargeDepth := 12) [rWay, c2]]
            rw [eE]
            obtain ⟨et, het⟩ : ∃ et, et = es.tail := ⟨_, rfl⟩
            have cd : cutL (es.map rEnd) (some 1) none = et.map rEnd := by
              rw [cutL_drop (by decide), het]
              simp
            have ez : ∀ T : Store, sg T (sl S) = some (.lst (es.map rEnd)) → sg T (sl S + 1) = some (.lst (et.map rEnd)) → ∃ K : Store → Prop, zipOf [.ref (sl S), .ref (sl S + 1)] T = .ok ⟨(es.zip et).map fun p => .tup [rEnd p.1, rEnd p.2], K⟩ T ∧ K T := fun T h1 h2 => by
              have h1' : T[sl S]? = some (.lst (es.map rEnd)) := h1
              have h2' : T[sl S + 1]? = some (.lst (et.map rEnd)) := h2
              refine ⟨fun S' => S'[sl S]? = some (.lst (es.map rEnd)) ∧ S'[sl S + 1]? = some (.lst (et.map rEnd)), ?_, h1', h2'⟩
              have : List.zipWith (fun x y => Val.tup [x, y]) (es.map rEnd) (et.map rEnd) = (es.zip et).map fun p => .tup [rEnd p.1, rEnd p.2] := by
                rw [List.zipWith_map, List.zip_eq_zipWith, List.map_zipWith]
              simp [zipOf, seqOf, h1', h2', this]
            obtain ⟨K, ez, hK⟩ := ez (sp (sp S (.lst (es.map rEnd))) (.lst (et.map rEnd))) (by rw [sg_sp_lt (by simp)]; exact sg_sp_new) (sg_sp_new' (by simp))
            simp (maxDischargeDepth := 12) [cd, ez]
            rw [lc_map' (fun p : (Int × Int) × (Int × Int) => .tup [rEnd p.1, rEnd p.2]) (fun p => .bl (ltB p.1 p.2)) (es.zip et) rfl hK (by rw [List.length_zip, el]; unfold LIM; omega) fun p hp => by
              simp (maxDischargeDepth := 12) [rEnd]]
            rw [e3]
            have ea : ((es.zip et).map fun p => Val.bl (ltB p.1 p.2)) = ((es.zip et).map fun p => ltB p.1 p.2).map Val.bl := by rw [List.map_map]; rfl
            rw [ea]
            have ef : ∀ T : Store, ((es.zip et).map fun p => ltB p.1 p.2).all id = ascB es := fun _ => by
              unfold ascB
              rw [← het]
              rw [List.all_map]
              rfl
            have ef' := ef S
            simp (maxDischargeDepth := 12) [blsO_map, ef', -List.map_map, -List.all_map]
      · have ht' : (tb == "tuple") = false := not_tuple htb qb
        have : standB m R.length (.tup [.tup bs, b]) = false := by
          unfold standB
          split
          · rename_i e; cases e; exact absurd ⟨_, rfl⟩ qb
          · rfl
        simp (maxDischargeDepth := 12) [startL, e1, er, e2, pIsT_of htb, subTy, ht', this]
end KS

/-! KS2: ways in order, one of them changed. -/
namespace KS
open Mp KQ KW KP
open PySem (Str)
def LtW (x y : Way) : Prop := ltK (endN x) (endN y)
theorem LtW.trans {x y z : Way} (a : LtW x y) (b : LtW y z) : LtW x z := by
  unfold LtW ltK at *
  omega
theorem asc_pairwise : ∀ {l : List Way}, ascB (l.map endN) = true → l.Pairwise LtW
  | [], _ => List.Pairwise.nil
  | [x], _ => by simp
  | x :: y :: r, h => by
    have h' : ltB (endN x) (endN y) = true ∧ ascB ((y :: r).map endN) = true := by
      unfold ascB at h ⊢
      simp only [List.map_cons, List.tail_cons, List.zip_cons_cons, List.all_cons, Bool.and_eq_true] at h ⊢
      exact h
    have p := asc_pairwise h'.2
    have hxy : LtW x y := ltB_iff.mp h'.1
    refine List.pairwise_cons.mpr ⟨fun z hz => ?_, p⟩
    rcases List.mem_cons.mp hz with rfl | hz
    · exact hxy
    · exact hxy.trans ((List.pairwise_cons.mp p).1 z hz)
theorem pairwise_asc : ∀ {l : List Way}, l.Pairwise LtW → ascB (l.map endN) = true
  | [], _ => rfl
  | [x], _ => rfl
  | x :: y :: r, h => by
    obtain ⟨p1, p2⟩ := List.pairwise_cons.mp h
    have ih := pairwise_asc p2
    have hxy : ltB (endN x) (endN y) = true := ltB_iff.mpr (p1 y (by simp))
    unfold ascB at ih ⊢
    simp only [List.map_cons, List.tail_cons, List.zip_cons_cons, List.all_cons, Bool.and_eq_true] at ih ⊢
    exact ⟨hxy, ih⟩
structure StOk (m : Nat) (R : List Rule) (b : List (List Task)) (w : List Way) : Prop where
  len : b.length = m
  bags : ∀ g, g ∈ b → ∀ t, t ∈ g → TaskOk R t
  ways : ∀ y, y ∈ w → WayOk m R y
  asc : w.Pairwise LtW
theorem standB_some {m : Nat} {R : List Rule} {v : Val} (h : standB m R.length v = true) : ∃ b w, v = rStand b w ∧ StOk m R b w := by
  unfold standB at h
  split at h
  · rename_i bs ws
    simp only [Bool.and_eq_true] at h
    obtain ⟨h1, h2, h3, h4⟩ := h
    obtain ⟨b, rfl, hb⟩ := all_some (p := tasksB R.length) (rep := rTasks) (P := fun l => ∀ t, t ∈ l → TaskOk R t) (fun v h => tasksB_some h) h2
    obtain ⟨w, rfl, hw⟩ := all_some (p := wayB m R.length) (rep := rWay) (P := WayOk m R) (fun v h => wayB_some h) h3
    rw [List.map_map] at h4
    refine ⟨b, w, rfl, by simpa using h1, hb, hw, asc_pairwise h4⟩
  · cases h
theorem tasksB_of {R : List Rule} {l : List Task} (h : ∀ t, t ∈ l → TaskOk R t) : tasksB R.length (rTasks l) = true := by
  show (l.map rTask).all (taskB R.length) = true
  rw [List.all_map, List.all_eq_true]
  intro t ht
  show taskB R.length (rTask t) = true
  rw [taskB_task, decide_eq_true (h t ht).1, decide_eq_true (h t ht).2]
  rfl
theorem wayB_of {m : Nat} {R : List Rule} {y : Way} (h : WayOk m R y) : wayB m R.length (rWay y) = true := by
  obtain ⟨h1, h2, h3, h4⟩ := h
  show (withinB (.int y.1.1) 0 ((m : Int) - 1) && withinB (.int y.1.2) 0 ((m : Int) - 1) && (tasksB R.length (rTasks y.2) && someB (rTasks y.2))) = true
  rw [tasksB_of h4]
  have e1 : withinB (.int y.1.1) 0 ((m : Int) - 1) = true := by simp [withinB]; omega
  have e2 : withinB (.int y.1.2) 0 ((m : Int) - 1) = true := by simp [withinB]; omega
  rw [e1, e2]
  obtain ⟨a, l⟩ := y
  cases l with
  | nil => exact absurd rfl h3
  | cons t r => rfl
theorem standB_of {m : Nat} {R : List Rule} {b : List (List Task)} {w : List Way} (h : StOk m R b w) : standB m R.length (rStand b w) = true := by
  show (decide ((b.map rTasks).length = m) && ((b.map rTasks).all (tasksB R.length) && ((w.map rWay).all (wayB m R.length) && ascB ((w.map rWay).map endV)))) = true
  have e1 : (b.map rTasks).all (tasksB R.length) = true := by
    rw [List.all_map, List.all_eq_true]
    exact fun g hg => tasksB_of (h.bags g hg)
  have e2 : (w.map rWay).all (wayB m R.length) = true := by
    rw [List.all_map, List.all_eq_true]
    exact fun y hy => wayB_of (h.ways y hy)
  have e3 : ascB ((w.map rWay).map endV) = true := by
    rw [List.map_map]
    exact pairwise_asc h.asc
  rw [e1, e2, e3, List.length_map, decide_eq_true h.len]
  rfl
/-- not too large -/
structure Few (b : List (List Task)) (w : List Way) : Prop where
  nb : b.length < 50000
  bags : ∀ g, g ∈ b → g.length < 50000
  nw : w.length < 50000
  ways : ∀ y, y ∈ w → y.2.length < 50000
theorem tasks_TY {n : Nat} {S : Store} {l : List Task} (h : l.length < 50000) : TY n S (rTasks l) := by
  unfold rTasks
  cases n with
  | zero => exact ⟨_, rfl⟩
  | succ n =>
    refine ⟨⟨_, rfl⟩, fun vs e => ?_⟩
    cases e
    refine ⟨by rw [List.length_map]; omega, fun x hx => ?_⟩
    obtain ⟨t, _, rfl⟩ := List.mem_map.mp hx
    cases n with
    | zero => exact ⟨_, rfl⟩
    | succ n =>
      refine ⟨⟨_, rfl⟩, fun vs e => ?_⟩
      cases e
      refine ⟨by simp, fun x hx => ?_⟩
      simp at hx
      rcases hx with rfl | rfl
      · exact (by cases n with
          | zero => exact ⟨_, rfl⟩
          | succ n => exact ⟨⟨_, rfl⟩, fun _ e => by cases e⟩)
      · exact (by cases n with
          | zero => exact ⟨_, rfl⟩
          | succ n => exact ⟨⟨_, rfl⟩, fun _ e => by cases e⟩)
theorem int_TY {n : Nat} {S : Store} {i : Int} : TY n S (.int i) := by
  cases n with
  | zero => exact ⟨_, rfl⟩
  | succ n => exact ⟨⟨_, rfl⟩, fun _ e => by cases e⟩
theorem tup_TY {n : Nat} {S : Store} {vs : List Val} (hl : vs.length < 100000) (h : ∀ x, x ∈ vs → TY n S x) : TY (n + 1) S (.tup vs) := ⟨⟨_, rfl⟩, fun ws e => by cases e; exact ⟨hl, h⟩⟩
theorem stand_TY {S : Store} {b : List (List Task)} {w : List Way} (h : Few b w) (n : Nat) : TY (n + 5) S (rStand b w) := by
  refine tup_TY (by simp) fun x hx => ?_
  simp only [List.mem_cons, List.not_mem_nil, or_false] at hx
  rcases hx with rfl | rfl
  · refine tup_TY (by rw [List.length_map]; have := h.nb; omega) fun x hx => ?_
    obtain ⟨g, hg, rfl⟩ := List.mem_map.mp hx
    exact tasks_TY (h.bags g hg)
  · refine tup_TY (by rw [List.length_map]; have := h.nw; omega) fun x hx => ?_
    obtain ⟨y, hy, rfl⟩ := List.mem_map.mp hx
    refine tup_TY (by simp) fun x hx => ?_
    simp only [List.mem_cons, List.not_mem_nil, or_false] at hx
    rcases hx with rfl | rfl | rfl
    · exact int_TY
    · exact int_TY
    · exact tasks_TY (h.ways y hy)
theorem check_standing_eq {S : Store} {w m : Nat} {R : List Rule} {v : Val} (hw : IsW S w m R) (hv : TY 5 S v) : m_check_standing [.ref w, v] S = if standB m R.length v = true then .ok .non S else .exn ⟨"NoStanding", []⟩ S := by
  have e := is_right_standing_eq hw hv
  unfold m_check_standing
  cases q : standB m R.length v with
  | false => rw [q] at e; simp (maxDischargeDepth := 12) [startL, e]
  | true => rw [q] at e; simp (maxDischargeDepth := 12) [startL, e]
/-! ### low -/
theorem tasks_low (n : Nat) (l : List Task) : below n (rTasks l) = true := by
  unfold rTasks
  rw [below_tup]
  exact belows_map _ _ fun x _ => by simp [rTask]
theorem way_low (n : Nat) (y : Way) : below n (rWay y) = true := by
  unfold rWay
  rw [below_tup]
  simp [tasks_low]
theorem ways_low (n : Nat) (w : List Way) : below n (rWays w) = true := by
  unfold rWays
  rw [below_tup]
  exact belows_map _ _ fun x _ => way_low n x
theorem bags_low (n : Nat) (b : List (List Task)) : below n (rBags b) = true := by
  unfold rBags
  rw [below_tup]
  exact belows_map _ _ fun x _ => tasks_low n x
theorem stand_low (n : Nat) (b : List (List Task)) (w : List Way) : below n (rStand b w) = true := by
  unfold rStand
  rw [below_tup]
  simp [bags_low, ways_low]
/-! ### one way -/
def onW (w : List Way) (e : Nat × Nat) : List Task := ((w.filter fun y => decide (y.1 = e)).map (·.2)).headD []
def rE (e : Nat × Nat) : Val := .tup [.int e.1, .int e.2]
theorem eq_ends {S : Store} (a b : Nat × Nat) : pEq (rE a) (rE b) S = .ok (.bl (decide (a = b))) S ∧ pNe (rE a) (rE b) S = .ok (.bl (!decide (a = b))) S := by
  have h1 := pEq_ints (S := S) [(a.1 : Int), (a.2 : Int)] [(b.1 : Int), (b.2 : Int)]
  have h2 := pNe_ints (S := S) [(a.1 : Int), (a.2 : Int)] [(b.1 : Int), (b.2 : Int)]
  have e : decide ([(a.1 : Int), (a.2 : Int)] = [(b.1 : Int), (b.2 : Int)]) = decide (a = b) := by
    obtain ⟨a1, a2⟩ := a
    obtain ⟨b1, b2⟩ := b
    by_cases h : (a1, a2) = (b1, b2)
    · rw [decide_eq_true h]; cases h; simp
    · rw [decide_eq_false h]
      refine decide_eq_false fun z => h ?_
      simp at z
      exact Prod.ext (by show a1 = b1; omega) (by show a2 = b2; omega)
  rw [e] at h1 h2
  exact ⟨h1, h2⟩
theorem on_way_eq {S : Store} {w : List Way} {e : Nat × Nat} (hw : w.length < 50000) : m_on_way [rWays w, rE e] S = .ok (rTasks (onW w e)) S := by
  have er : rWays w = .tup (w.map rWay) := rfl
  have lo := tasks_low (sl S) (onW w e)
  unfold m_on_way
  rw [er]
  simp (maxDischargeDepth := 12) [startL]
  rw [lc_if' rWay (fun y => decide (y.1 = e)) (fun y => rTasks y.2) w rfl trivial (by unfold LIM; omega) ?_]
  · unfold onW at lo ⊢
    cases q : w.filter fun y => decide (y.1 = e) with
    | nil =>
      rw [q] at lo
      simp (maxDischargeDepth := 12) [rTasks]
    | cons y r =>
      rw [q] at lo
      have hp : (0 : Int) < (r.length : Int) + 1 := by omega
      simp at lo
      simp (maxDischargeDepth := 12) [hp, lo]
  · intro y _
    have e1 := (eq_ends (S := S) y.1 e).1
    unfold rE at e1
    unfold rE
    simp (maxDischargeDepth := 12) [rWay, e1]
    cases decide (y.1 = e) <;> rfl
/-- put in its place -/
def insW (y : Way) : List Way → List Way
  | [] => [y]
  | x :: r => if ltB (endN y) (endN x) = true then y :: x :: r else x :: insW y r
theorem insW_perm (y : Way) : ∀ w : List Way, (insW y w).Perm (w ++ [y])
  | [] => List.Perm.refl _
  | x :: r => by
    unfold insW
    split
    · exact (List.perm_append_singleton y (x :: r)).symm
    · exact (insW_perm y r).cons x
theorem insW_asc {y : Way} : ∀ {w : List Way}, w.Pairwise LtW → (∀ x, x ∈ w → endN x ≠ endN y) → (insW y w).Pairwise LtW
  | [], _, _ => by simp [insW]
  | x :: r, h, hn => by
    obtain ⟨p1, p2⟩ := List.pairwise_cons.mp h
    unfold insW
    split
    · rename_i hl
      have hl := ltB_iff.mp hl
      refine List.pairwise_cons.mpr ⟨fun z hz => ?_, h⟩
      rcases List.mem_cons.mp hz with rfl | hz
      · exact hl
      · exact LtW.trans hl (p1 z hz)
    · rename_i hl
      have hxy : LtW x y := by
        have h1 : ¬ ltK (endN y) (endN x) := fun z => hl (ltB_iff.mpr z)
        have h2 := hn x (by simp)
        have h3 : ¬ ((endN x).1 = (endN y).1 ∧ (endN x).2 = (endN y).2) := fun z => h2 (Prod.ext z.1 z.2)
        unfold LtW
        unfold ltK at *
        omega
      refine List.pairwise_cons.mpr ⟨fun z hz => ?_, insW_asc p2 fun z hz => hn z (List.mem_cons_of_mem _ hz)⟩
      have := (insW_perm y r).mem_iff.mp hz
      rcases List.mem_append.mp this with hz | hz
      · exact p1 z hz
      · simp at hz
        subst hz
        exact hxy
def dropW (w : List Way) (e : Nat × Nat) : List Way := w.filter fun y => !decide (y.1 = e)
def withW (w : List Way) (e : Nat × Nat) (l : List Task) : List Way := if l = [] then dropW w e else insW (e, l) (dropW w e)
theorem endN_inj {x y : Way} (h : endN x = endN y) : x.1 = y.1 := by
  unfold endN at h
  simp at h
  exact Prod.ext (by omega) (by omega)
theorem keyW_way (y : Way) : keyW (rWay y) = some (endN y) := by
  have : ownC (.int y.1.1 :: .int y.1.2 :: [rTasks y.2]) = false := by unfold ownC; rfl
  unfold rWay keyW
  simp only []
  rw [if_pos this]
  rfl
theorem SW_ways {w : List Way} (h : w.Pairwise LtW) : SW (w.map rWay) := by
  refine ⟨fun y hy => ?_, ?_⟩
  · obtain ⟨x, _, rfl⟩ := List.mem_map.mp hy
    rw [keyW_way]; rfl
  · rw [List.pairwise_map]
    exact h.imp fun {x y} hxy => ⟨_, _, keyW_way x, keyW_way y, hxy⟩
theorem dropW_asc {w : List Way} {e : Nat × Nat} (h : w.Pairwise LtW) : (dropW w e).Pairwise LtW := h.filter _
theorem withW_asc {w : List Way} {e : Nat × Nat} {l : List Task} (h : w.Pairwise LtW) : (withW w e l).Pairwise LtW := by
  unfold withW
  split
  · exact dropW_asc h
  · refine insW_asc (dropW_asc h) fun x hx q => ?_
    unfold dropW at hx
    have := (List.mem_filter.mp hx).2
    have e2 := endN_inj q
    simp [e2] at this
theorem with_way_eq {S : Store} {w : List Way} {e : Nat × Nat} {l : List Task} (h : w.Pairwise LtW) (hw : w.length < 50000) : m_with_way [rWays w, rE e, rTasks l] S = .ok (rWays (withW w e l)) S := by
  have er : rWays w = .tup (w.map rWay) := rfl
  have lo : ∀ n, belows n ((withW w e l).map rWay) = true := fun n => belows_map _ _ fun x _ => way_low n x
  have lc : lcLoop (fun _ => True) [some (.tup (w.map rWay)), some (rE e), some (rTasks l), none, none] (gN 4) (tV (m2 pNe (mSl (mV 4) oNo (oSome (mC (.int 2)))) (mV 1))) (mV 4) (w.map rWay) [] S = .ok ((dropW w e).map rWay) S := by
    rw [lc_if' rWay (fun y => !decide (y.1 = e)) rWay w rfl trivial (by unfold LIM; omega) ?_]
    · rfl
    · intro y _
      have e1 := (eq_ends (S := S) y.1 e).2
      have c2 : ∀ a b c : Val, cutL [a, b, c] none (some 2) = [a, b] := fun _ _ _ => rfl
      unfold rE at e1
      unfold rE
      simp (maxDischargeDepth := 12) [rWay, c2, e1]
      cases decide (y.1 = e) <;> rfl
  have hdl : (dropW w e).length ≤ w.length := List.length_filter_le _ _
  unfold m_with_way
  rw [er]
  cases l with
  | nil =>
    have es := fSortW_ref (S := sp S (.lst ((dropW w e).map rWay))) (a := sl S) (xs := (dropW w e).map rWay) (ys := (withW w e []).map rWay) sg_sp_new (by unfold withW; rw [if_pos rfl]) (SW_ways (withW_asc h))
    have e0 : rTasks [] = .tup [] := rfl
    rw [e0] at lc ⊢
    simp (maxDischargeDepth := 12) [startL, lc, es, lo]
    rfl
  | cons t r =>
    have e0 : rTasks (t :: r) = .tup (rTask t :: r.map rTask) := rfl
    have hp : (0 : Int) < (r.length : Int) + 1 := by omega
    have hz : (dropW w e).length < 16777216 := by omega
    obtain ⟨T, hT⟩ : ∃ T, T = sp S (.lst ((dropW w e).map rWay ++ [rWay (e, t :: r)])) := ⟨_, rfl⟩
    have es := fSortW_ref (S := T) (a := sl S) (xs := (dropW w e).map rWay ++ [rWay (e, t :: r)]) (ys := (withW w e (t :: r)).map rWay) (by rw [hT]; exact sg_sp_new) (by
      unfold withW
      rw [if_neg (by simp)]
      have := (insW_perm (e, t :: r) (dropW w e)).map rWay
      rwa [List.map_append] at this) (SW_ways (withW_asc h))
    have hT' : sp S (.lst ((dropW w e).map rWay ++ [.tup [.int e.1, .int e.2, .tup (rTask t :: r.map rTask)]])) = T := by rw [hT]; rfl
    have lT : sl T = sl S + 1 := by rw [hT]; simp
    have gT : GcOk S T := by rw [hT]; exact gcOk_sp gcOk_refl
    have cT : cut (sl S) T = S := by rw [hT, cut_sp (Nat.le_refl _), cut_self]
    rw [e0] at lc ⊢
    unfold rE at lc ⊢
    simp (maxDischargeDepth := 12) [startL, lc, hp, hz, hT', es, lo, lT, gT, cT]
    rfl
end KS

/-! KS3: tasks done, letters heard. -/
namespace KS
open Mp KQ KW KP
open PySem (Str)
theorem cutL_toN {α : Type} (xs : List α) (k : Nat) : cutL xs none (some (k : Int)) = xs.take k := by
  unfold cutL
  have e : HT.sIx xs.length 0 (none : Option Int) = 0 := rfl
  have e2 : HT.sIx xs.length xs.length (some (k : Int)) = min k xs.length := by
    unfold HT.sIx
    simp only []
    rw [if_neg (by omega)]
    simp
  rw [e, e2, List.drop_zero, Nat.sub_zero]
  by_cases h : k ≤ xs.length
  · rw [Nat.min_eq_left h]
  · rw [Nat.min_eq_right (by omega), List.take_of_length_le (Nat.le_refl _), List.take_of_length_le (by omega)]
theorem cutL_fromN {xs : List Val} (k : Nat) : cutL xs (some ((k : Int) + 1)) none = xs.drop (k + 1) := by
  rw [cutL_drop (by omega)]
  congr 1
theorem replaced_eq {S : Store} {b : List (List Task)} {h : Nat} {l : List Task} (hh : h < b.length) (hz : b.length < 50000) : m_replaced [rBags b, .int h, rTasks l] S = .ok (rBags (b.set h l)) S := by
  have er : rBags b = .tup (b.map rTasks) := rfl
  have c1 := cutL_toN (b.map rTasks) h
  have c2 := cutL_fromN (xs := b.map rTasks) h
  have e : (b.map rTasks).take h ++ (rTasks l :: (b.map rTasks).drop (h + 1)) = (b.set h l).map rTasks := by
    rw [List.map_set, List.set_eq_take_append_cons_drop, if_pos (by simpa using hh)]
  have lo : belows (sl S) ((b.set h l).map rTasks) = true := belows_map _ _ fun x _ => tasks_low (sl S) x
  have z1 : min h b.length + 1 ≤ 16777216 := by omega
  have z2 : min h b.length + 1 + (b.length - (h + 1)) ≤ 16777216 := by omega
  unfold m_replaced
  rw [er]
  simp (maxDischargeDepth := 12) [startL, c1, c2, z1, z2, -List.map_take, -List.map_drop]
  rw [e]
  simp (maxDischargeDepth := 12) [lo, -List.map_set]
  rfl
/-- a letter sent -/
def sendW (h : Nat) (w : List Way) (x : Nat × Task) : List Way := withW w (h, x.1) (onW w (h, x.1) ++ [x.2])
theorem dropW_len (w : List Way) (e : Nat × Nat) : (dropW w e).length ≤ w.length := List.length_filter_le _ _
theorem withW_len (w : List Way) (e : Nat × Nat) (l : List Task) : (withW w e l).length ≤ w.length + 1 := by
  unfold withW
  have := dropW_len w e
  split
  · omega
  · rw [(insW_perm (e, l) (dropW w e)).length_eq, List.length_append]
    simp
    exact this
theorem sends_len (h : Nat) : ∀ (l : List (Nat × Task)) (w : List Way), (l.foldl (sendW h) w).length ≤ w.length + l.length
  | [], w => by simp
  | x :: r, w => by
    have := sends_len h r (sendW h w x)
    have := withW_len w (h, x.1) (onW w (h, x.1) ++ [x.2])
    unfold sendW at *
    simp only [List.foldl_cons, List.length_cons]
    omega
theorem onW_mem {w : List Way} {e : Nat × Nat} : onW w e = [] ∨ ∃ y, y ∈ w ∧ y.1 = e ∧ y.2 = onW w e := by
  unfold onW
  cases q : w.filter fun y => decide (y.1 = e) with
  | nil => exact .inl rfl
  | cons y r =>
    have : y ∈ w.filter fun y => decide (y.1 = e) := by rw [q]; simp
    have := List.mem_filter.mp this
    exact .inr ⟨y, this.1, by simpa using this.2, rfl⟩
theorem withW_mem {w : List Way} {e : Nat × Nat} {l : List Task} {y : Way} (h : y ∈ withW w e l) : (y ∈ w ∧ y.1 ≠ e) ∨ (y = (e, l) ∧ l ≠ []) := by
  unfold withW at h
  split at h
  · have := List.mem_filter.mp h
    exact .inl ⟨this.1, by simpa using this.2⟩
  · rename_i hl
    have := (insW_perm (e, l) (dropW w e)).mem_iff.mp h
    rcases List.mem_append.mp this with h | h
    · have := List.mem_filter.mp h
      exact .inl ⟨this.1, by simpa using this.2⟩
    · simp at h
      exact .inr ⟨h, hl⟩
def doneW (m : Nat) (R : List Rule) (h : Nat) (t : Task) (w : List Way) : List Way := (sentL m R h t).foldl (sendW h) w
theorem send_step {S : Store} {h : Nat} {w : List Way} {x : Nat × Task} {x0 x1 x3 : Option Val} (ha : w.Pairwise LtW) (hw : w.length < 40000) (hl : (onW w (h, x.1)).length < 50000) :
    m_after_do_b1 [x0, x1, some (.int h), x3, some (rWays w), some (.int x.1), some (rTask x.2), none] S = .nx [x0, x1, some (.int h), x3, some (rWays (sendW h w x)), none, none, none] S := by
  have e1 := on_way_eq (S := S) (w := w) (e := (h, x.1)) (by omega)
  have e2 := with_way_eq (S := S) (e := (h, x.1)) (l := onW w (h, x.1) ++ [x.2]) ha (by omega)
  have e3 : rTasks (onW w (h, x.1) ++ [x.2]) = .tup ((onW w (h, x.1)).map rTask ++ [rTask x.2]) := by unfold rTasks; rw [List.map_append]; rfl
  have e4 : rTasks (onW w (h, x.1)) = .tup ((onW w (h, x.1)).map rTask) := rfl
  have hz : (onW w (h, x.1)).length + 1 ≤ 16777216 := by omega
  rw [e3] at e2
  rw [e4] at e1
  unfold rE at e1 e2
  unfold m_after_do_b1
  simp (maxDischargeDepth := 12) [e1, e2, hz]
  rfl
/-- no way is long -/
def Short (N : Nat) (w : List Way) : Prop := w.length ≤ N ∧ ∀ y, y ∈ w → y.2.length ≤ N
theorem Short.on {N : Nat} {w : List Way} (h : Short N w) (e : Nat × Nat) : (onW w e).length ≤ N := by
  rcases onW_mem (w := w) (e := e) with q | ⟨y, hy, _, q⟩
  · rw [q]; simp
  · rw [← q]; exact h.2 y hy
theorem Short.send {N : Nat} {w : List Way} (h : Short N w) (hh : Nat) (x : Nat × Task) : Short (N + 1) (sendW hh w x) := by
  refine ⟨by have := withW_len w (hh, x.1) (onW w (hh, x.1) ++ [x.2]); have := h.1; unfold sendW; omega, fun y hy => ?_⟩
  rcases withW_mem hy with ⟨hy, _⟩ | ⟨rfl, _⟩
  · have := h.2 y hy; omega
  · have := h.on (hh, x.1)
    simp
    exact this
theorem send_loop {S : Store} {h N : Nat} {x0 x1 x3 : Option Val} : ∀ (l : List (Nat × Task)) (w : List Way), w.Pairwise LtW → Short N w → N + l.length < 40000 →
    forLoop (fun _ => True) (gTup (gsCons (gN 5) (gsCons (gN 6) gsNil))) m_after_do_b1 (l.map rSent) [x0, x1, some (.int h), x3, some (rWays w), none, none, none] S = .nx [x0, x1, some (.int h), x3, some (rWays (l.foldl (sendW h) w)), none, none, none] S
  | [], w, _, _, _ => by
    rw [List.map_nil, forLoop_nil, gate_pos trivial]
    rfl
  | x :: r, w, ha, hs, hN => by
    rw [List.map_cons, forLoop_cons, gate_pos trivial]
    simp only [List.length_cons] at hN
    have e := send_step (S := S) (h := h) (x := x) (x0 := x0) (x1 := x1) (x3 := x3) ha (by have := hs.1; omega) (by have := hs.on (h, x.1); omega)
    have e' : forOne (gTup (gsCons (gN 5) (gsCons (gN 6) gsNil))) m_after_do_b1 (rSent x) [x0, x1, some (.int h), x3, some (rWays w), none, none, none] S = .nx [x0, x1, some (.int h), x3, some (rWays (sendW h w x)), none, none, none] S := by
      rw [← e]
      simp [rSent]
    rw [e', turn_nx]
    exact send_loop r (sendW h w x) (withW_asc ha) (hs.send h x) (by omega)
theorem bag_at {b : List (List Task)} {h : Nat} (hh : h < b.length) : (b.map rTasks)[h]? = some (rTasks (b.getD h [])) := by
  rw [List.getElem?_map, List.getElem?_eq_getElem hh, List.getD_eq_getElem?_getD, List.getElem?_eq_getElem hh]
  rfl
theorem after_do_none {S : Store} {wk m h : Nat} {R : List Rule} {b : List (List Task)} {w : List Way} (hw : IsW S wk m R) (hh : h < b.length) (hb : b.getD h [] = []) : m_after_do [.ref wk, rStand b w, .int h] S = .ok .non S := by
  have e1 := bag_at hh
  rw [hb] at e1
  have er : rStand b w = .tup [.tup (b.map rTasks), rWays w] := rfl
  have e0 : rTasks [] = .tup [] := rfl
  rw [e0] at e1
  unfold m_after_do
  rw [er]
  simp (maxDischargeDepth := 12) [startL, e1, -List.getElem?_map]
theorem after_do_some {S : Store} {wk m h N : Nat} {R : List Rule} {b : List (List Task)} {w : List Way} {t : Task} {r : List Task} (hw : IsW S wk m R) (hh : h < b.length) (hbz : b.length < 50000) (hb : b.getD h [] = t :: r) (ht : TaskOk R t) (ha : w.Pairwise LtW) (hs : Short N w) (hN : N + 4 < 40000) :
    m_after_do [.ref wk, rStand b w, .int h] S = .ok (rStand (b.set h r) (doneW m R h t w)) S := by
  have e1 := bag_at hh
  rw [hb] at e1
  have e0 : rTasks (t :: r) = .tup (rTask t :: r.map rTask) := rfl
  rw [e0] at e1
  have er : rStand b w = .tup [.tup (b.map rTasks), rWays w] := rfl
  have el := letters_of_eq (h := h) hw ht
  have hl4 : (sentL m R h t).length ≤ 4 := by
    have := hw.wf.len _ (ruleAt_mem ht.1)
    unfold sentL
    split
    · simp
    · rw [List.length_map]; exact this
  have eL := send_loop (S := S) (h := h) (N := N) (x0 := some (.ref wk)) (x1 := some (.tup [.tup (b.map rTasks), rWays w])) (x3 := some (.tup (b.map rTasks))) (sentL m R h t) w ha hs (by omega)
  have e2 := replaced_eq (S := S) (l := r) hh hbz
  have e3 : rTasks r = .tup (r.map rTask) := rfl
  have e4 : rBags b = .tup (b.map rTasks) := rfl
  rw [e3, e4] at e2
  have lo := stand_low (sl S) (b.set h r) (doneW m R h t w)
  have cd : cutL (rTask t :: r.map rTask) (some 1) none = r.map rTask := by
    rw [cutL_drop (by decide)]; rfl
  have hn : ¬ ((r.length : Int) + 1 = 0) := by omega
  unfold rStand at lo
  unfold m_after_do
  rw [er]
  simp (maxDischargeDepth := 12) [startL, e1, hn, el, eL, cd, e2, -List.getElem?_map]
  unfold doneW at lo ⊢
  simp at lo
  simp (maxDischargeDepth := 12) [lo]
  rfl
theorem after_hear_none {S : Store} {h s : Nat} {b : List (List Task)} {w : List Way} (hwz : w.length < 50000) (ho : onW w (s, h) = []) : m_after_hear [rStand b w, .int h, .int s] S = .ok .non S := by
  have e1 := on_way_eq (S := S) (w := w) (e := (s, h)) hwz
  rw [ho] at e1
  have e0 : rTasks [] = .tup [] := rfl
  rw [e0] at e1
  unfold rE at e1
  have er : rStand b w = .tup [.tup (b.map rTasks), rWays w] := rfl
  unfold m_after_hear
  rw [er]
  simp (maxDischargeDepth := 12) [startL, e1]
theorem after_hear_some {S : Store} {h s : Nat} {b : List (List Task)} {w : List Way} {t : Task} {r : List Task} (hh : h < b.length) (hbz : b.length < 50000) (hgz : (b.getD h []).length < 50000) (hwz : w.length < 50000) (ha : w.Pairwise LtW) (ho : onW w (s, h) = t :: r) :
    m_after_hear [rStand b w, .int h, .int s] S = .ok (rStand (b.set h (b.getD h [] ++ [t])) (withW w (s, h) r)) S := by
  have e1 := on_way_eq (S := S) (w := w) (e := (s, h)) hwz
  rw [ho] at e1
  have e0 : rTasks (t :: r) = .tup (rTask t :: r.map rTask) := rfl
  rw [e0] at e1
  have e2 := with_way_eq (S := S) (e := (s, h)) (l := r) ha hwz
  have eb := bag_at hh
  have er : rStand b w = .tup [.tup (b.map rTasks), rWays w] := rfl
  have e3 := replaced_eq (S := S) (l := b.getD h [] ++ [t]) hh hbz
  have e4 : rTasks (b.getD h [] ++ [t]) = .tup ((b.getD h []).map rTask ++ [rTask t]) := by unfold rTasks; rw [List.map_append]; rfl
  have e5 : rTasks (b.getD h []) = .tup ((b.getD h []).map rTask) := rfl
  have e6 : rTasks r = .tup (r.map rTask) := rfl
  have e7 : rBags b = .tup (b.map rTasks) := rfl
  rw [e4, e7] at e3
  rw [e5] at eb
  rw [e6] at e2
  have hz : (b.getD h []).length + 1 ≤ 16777216 := by omega
  have lo := stand_low (sl S) (b.set h (b.getD h [] ++ [t])) (withW w (s, h) r)
  have cd : cutL (rTask t :: r.map rTask) (some 1) none = r.map rTask := by
    rw [cutL_drop (by decide)]; rfl
  have ct : cutL (rTask t :: r.map rTask) none (some 1) = [rTask t] := by
    have := cutL_toN (rTask t :: r.map rTask) 1
    simpa using this
  have hn : ¬ ((r.length : Int) + 1 = 0) := by omega
  unfold rE at e1 e2
  obtain ⟨g, hg⟩ : ∃ g, g = b.getD h [] := ⟨_, rfl⟩
  rw [← hg] at e3 eb hz lo ⊢
  unfold rStand at lo
  simp at lo
  unfold m_after_hear
  rw [er]
  simp (maxDischargeDepth := 12) [startL, e1, hn, cd, ct, eb, hz, e3, e2, lo, -List.getElem?_map]
  rfl
end KS

/-! KS4: what a standing leads to. -/
namespace KS
open Mp KQ KW KP
open PySem (Str)
/-- how large -/
structure Size (N : Nat) (b : List (List Task)) (w : List Way) : Prop where
  nb : b.length ≤ 6
  bags : ∀ g, g ∈ b → g.length ≤ N
  sh : Short N w
theorem Size.few {N : Nat} {b : List (List Task)} {w : List Way} (h : Size N b w) (hN : N < 40000) : Few b w :=
  ⟨by have := h.nb; omega, fun g hg => by have := h.bags g hg; omega, by have := h.sh.1; omega, fun y hy => by have := h.sh.2 y hy; omega⟩
theorem Size.at {N : Nat} {b : List (List Task)} {w : List Way} (h : Size N b w) (k : Nat) : (b.getD k []).length ≤ N := by
  rw [List.getD_eq_getElem?_getD]
  by_cases hk : k < b.length
  · rw [List.getElem?_eq_getElem hk]
    exact h.bags _ (List.getElem_mem hk)
  · rw [List.getElem?_eq_none (by omega)]
    simp
theorem StOk.task {m h : Nat} {R : List Rule} {b : List (List Task)} {w : List Way} {t : Task} {r : List Task} (S : StOk m R b w) (hb : b.getD h [] = t :: r) : TaskOk R t ∧ ∀ x, x ∈ r → TaskOk R x := by
  have hk : h < b.length := by
    by_cases hk : h < b.length
    · exact hk
    · rw [List.getD_eq_getElem?_getD, List.getElem?_eq_none (by omega)] at hb
      cases hb
  have e : b.getD h [] = b[h] := by simp [hk]
  have := S.bags b[h] (List.getElem_mem hk)
  rw [← e, hb] at this
  exact ⟨this t (by simp), fun x hx => this x (by simp [hx])⟩
theorem StOk.setB {m h : Nat} {R : List Rule} {b : List (List Task)} {w : List Way} {g : List Task} (S : StOk m R b w) (hg : ∀ t, t ∈ g → TaskOk R t) : StOk m R (b.set h g) w := ⟨by rw [List.length_set]; exact S.len, fun a ha t ht => by
  rcases List.mem_or_eq_of_mem_set ha with ha | rfl
  · exact S.bags a ha t ht
  · exact hg t ht, S.ways, S.asc⟩
theorem StOk.send {m h : Nat} {R : List Rule} {b : List (List Task)} {w : List Way} {x : Nat × Task} (S : StOk m R b w) (hh : h < m) (hx : x.1 < m) (ht : TaskOk R x.2) : StOk m R b (sendW h w x) := ⟨S.len, S.bags, fun y hy => by
  rcases withW_mem hy with ⟨hy, _⟩ | ⟨rfl, hl⟩
  · exact S.ways y hy
  · refine ⟨hh, hx, hl, fun t htm => ?_⟩
    rcases List.mem_append.mp htm with htm | htm
    · rcases onW_mem (w := w) (e := (h, x.1)) with q | ⟨y, hy, _, q⟩
      · rw [q] at htm; cases htm
      · rw [← q] at htm
        exact (S.ways y hy).2.2.2 t htm
    · simp at htm
      subst htm
      exact ht, withW_asc S.asc⟩
theorem StOk.sends {m h : Nat} {R : List Rule} {b : List (List Task)} (hh : h < m) : ∀ (l : List (Nat × Task)) (w : List Way), StOk m R b w → (∀ x, x ∈ l → x.1 < m ∧ TaskOk R x.2) → StOk m R b (l.foldl (sendW h) w)
  | [], w, S, _ => S
  | x :: r, w, S, hl => StOk.sends hh r (sendW h w x) (S.send hh (hl x (by simp)).1 (hl x (by simp)).2) fun y hy => hl y (List.mem_cons_of_mem _ hy)
theorem StOk.do_ {m h : Nat} {R : List Rule} {b : List (List Task)} {w : List Way} {t : Task} {r : List Task} (W : WfR m R) (S : StOk m R b w) (hh : h < m) (hb : b.getD h [] = t :: r) : StOk m R (b.set h r) (doneW m R h t w) := by
  obtain ⟨ht, hr⟩ := S.task hb
  exact StOk.sends hh _ w (S.setB hr) fun x hx => ⟨(sent_ok W ht hx).1, (sent_ok W ht hx).2.1⟩
theorem StOk.hear {m h s : Nat} {R : List Rule} {b : List (List Task)} {w : List Way} {t : Task} {r : List Task} (S : StOk m R b w) (hh : h < m) (hs : s < m) (ho : onW w (s, h) = t :: r) : StOk m R (b.set h (b.getD h [] ++ [t])) (withW w (s, h) r) := by
  obtain ⟨y, hy, _, q⟩ : ∃ y, y ∈ w ∧ y.1 = (s, h) ∧ y.2 = onW w (s, h) := by
    rcases onW_mem (w := w) (e := (s, h)) with q | q
    · rw [q] at ho; cases ho
    · exact q
  have hy2 := (S.ways y hy).2.2.2
  rw [q, ho] at hy2
  have S1 : StOk m R (b.set h (b.getD h [] ++ [t])) w := S.setB fun x hx => by
    rcases List.mem_append.mp hx with hx | hx
    · by_cases hk : h < b.length
      · have e : b.getD h [] = b[h] := by simp [hk]
        rw [e] at hx
        exact S.bags _ (List.getElem_mem hk) x hx
      · rw [List.getD_eq_getElem?_getD, List.getElem?_eq_none (by omega)] at hx
        cases hx
    · simp at hx
      subst hx
      exact hy2 _ (by simp)
  exact ⟨S1.len, S1.bags, fun z hz => by
    rcases withW_mem hz with ⟨hz, _⟩ | ⟨rfl, hl⟩
    · exact S1.ways z hz
    · exact ⟨hs, hh, hl, fun x hx => hy2 x (by simp [hx])⟩, withW_asc S1.asc⟩
/-! ### done_by, heard_by -/
section
variable {S : Store} {wk m N : Nat} {R : List Rule} {b : List (List Task)} {w : List Way}
theorem done_bad {v a : Val} (hw : IsW S wk m R) (hv : TY 5 S v) (hs : standB m R.length v = false) : m_done_by [.ref wk, v, a] S = .exn ⟨"NoStanding", []⟩ S := by
  have e := check_standing_eq hw hv
  rw [hs] at e
  unfold m_done_by
  simp (maxDischargeDepth := 12) [startL, e]
theorem heard_bad {v a c : Val} (hw : IsW S wk m R) (hv : TY 5 S v) (hs : standB m R.length v = false) : m_heard_by [.ref wk, v, a, c] S = .exn ⟨"NoStanding", []⟩ S := by
  have e := check_standing_eq hw hv
  rw [hs] at e
  unfold m_heard_by
  simp (maxDischargeDepth := 12) [startL, e]
theorem check_right (hw : IsW S wk m R) (K : StOk m R b w) (Z : Size N b w) (hN : N + 4 < 40000) : m_check_standing [.ref wk, rStand b w] S = .ok .non S := by
  rw [check_standing_eq hw (stand_TY (Z.few (by omega)) 0), if_pos (standB_of K)]
theorem done_house {a : Val} (hw : IsW S wk m R) (K : StOk m R b w) (Z : Size N b w) (hN : N + 4 < 40000) (ha : Typed S a) (hb : withinB a 0 ((m : Int) - 1) = false) : m_done_by [.ref wk, rStand b w, a] S = .exn ⟨"NoHouse", []⟩ S := by
  have e := check_right hw K Z hN
  have e2 := check_house_eq hw ha
  rw [hb] at e2
  unfold m_done_by
  simp (maxDischargeDepth := 12) [startL, e, e2]
theorem done_nothing {h : Nat} (hw : IsW S wk m R) (K : StOk m R b w) (Z : Size N b w) (hN : N + 4 < 40000) (hh : h < m) (hb : b.getD h [] = []) : m_done_by [.ref wk, rStand b w, .int h] S = .exn ⟨"NothingThere", []⟩ S := by
  have e := check_right hw K Z hN
  have e2 := check_house_ok hw hh
  have e3 := after_do_none (w := w) hw (by rw [K.len]; exact hh) hb
  unfold m_done_by
  simp (maxDischargeDepth := 12) [startL, e, e2, e3]
theorem done_some {h : Nat} {t : Task} {r : List Task} (hw : IsW S wk m R) (K : StOk m R b w) (Z : Size N b w) (hN : N + 4 < 40000) (hh : h < m) (hb : b.getD h [] = t :: r) : m_done_by [.ref wk, rStand b w, .int h] S = .ok (rStand (b.set h r) (doneW m R h t w)) S := by
  have e := check_right hw K Z hN
  have e2 := check_house_ok hw hh
  have e3 := after_do_some hw (by rw [K.len]; exact hh) (by have := Z.nb; omega) hb (K.task hb).1 K.asc Z.sh hN
  have lo := stand_low (sl S) (b.set h r) (doneW m R h t w)
  unfold rStand at lo e3 ⊢
  simp at lo
  unfold rStand at e
  unfold m_done_by
  simp (maxDischargeDepth := 12) [startL, e, e2, e3, lo]
theorem heard_house {a c : Val} (hw : IsW S wk m R) (K : StOk m R b w) (Z : Size N b w) (hN : N + 4 < 40000) (ha : Typed S a) (hc : Typed S c) (hb : withinB a 0 ((m : Int) - 1) = false ∨ withinB c 0 ((m : Int) - 1) = false) : m_heard_by [.ref wk, rStand b w, a, c] S = .exn ⟨"NoHouse", []⟩ S := by
  have e := check_right hw K Z hN
  have e2 := check_house_eq hw ha
  have e3 := check_house_eq hw hc
  unfold m_heard_by
  cases q : withinB a 0 ((m : Int) - 1) with
  | false =>
    rw [q] at e2
    simp (maxDischargeDepth := 12) [startL, e, e2]
  | true =>
    rw [q] at e2 hb
    have hb : withinB c 0 ((m : Int) - 1) = false := by
      rcases hb with hb | hb
      · cases hb
      · exact hb
    rw [hb] at e3
    simp (maxDischargeDepth := 12) [startL, e, e2, e3]
theorem heard_nothing {h s : Nat} (hw : IsW S wk m R) (K : StOk m R b w) (Z : Size N b w) (hN : N + 4 < 40000) (hh : h < m) (hs : s < m) (ho : onW w (s, h) = []) : m_heard_by [.ref wk, rStand b w, .int h, .int s] S = .exn ⟨"NothingThere", []⟩ S := by
  have e := check_right hw K Z hN
  have e2 := check_house_ok hw hh
  have e3 := check_house_ok hw hs
  have e4 := after_hear_none (S := S) (b := b) (w := w) (h := h) (s := s) (by have := Z.sh.1; omega) ho
  unfold m_heard_by
  simp (maxDischargeDepth := 12) [startL, e, e2, e3, e4]
theorem heard_some {h s : Nat} {t : Task} {r : List Task} (hw : IsW S wk m R) (K : StOk m R b w) (Z : Size N b w) (hN : N + 4 < 40000) (hh : h < m) (hs : s < m) (ho : onW w (s, h) = t :: r) : m_heard_by [.ref wk, rStand b w, .int h, .int s] S = .ok (rStand (b.set h (b.getD h [] ++ [t])) (withW w (s, h) r)) S := by
  have e := check_right hw K Z hN
  have e2 := check_house_ok hw hh
  have e3 := check_house_ok hw hs
  have e4 := after_hear_some (S := S) (b := b) (w := w) (h := h) (s := s) (by rw [K.len]; exact hh) (by have := Z.nb; omega) (by have := Z.at h; omega) (by have := Z.sh.1; omega) K.asc ho
  obtain ⟨g, hg⟩ : ∃ g, g = b.getD h [] ++ [t] := ⟨_, rfl⟩
  rw [← hg] at e4 ⊢
  have lo := stand_low (sl S) (b.set h g) (withW w (s, h) r)
  unfold rStand at lo e4 ⊢
  simp at lo
  unfold rStand at e
  unfold m_heard_by
  simp (maxDischargeDepth := 12) [startL, e, e2, e3, e4, lo]
/-! ### quiet, still to do, begun -/
theorem all_quiet_eq {S : Store} {b : List (List Task)} {w : List Way} (hb : b.length ≤ 6) : m_is_all_quiet [rStand b w] S = .ok (.bl (b.all (fun g => decide (g = [])) && decide (w = []))) S := by
  have er : rStand b w = .tup [.tup (b.map rTasks), .tup (w.map rWay)] := rfl
  unfold m_is_all_quiet
  rw [er]
  simp (maxDischargeDepth := 12) [startL]
  rw [lc_map' rTasks (fun g => .bl (decide (g = []))) b rfl trivial (by unfold LIM; omega) fun g _ => by
    have eg : rTasks g = .tup (g.map rTask) := rfl
    simp (maxDischargeDepth := 12) [eg]]
  have ea : (b.map fun g => Val.bl (decide (g = []))) = (b.map fun g => decide (g = [])).map Val.bl := by rw [List.map_map]; rfl
  rw [ea]
  have ef : (b.map fun g => decide (g = [])).all id = b.all fun g => decide (g = []) := by rw [List.all_map]; rfl
  cases q : b.all fun g => decide (g = []) with
  | false =>
    rw [q] at ef
    simp (maxDischargeDepth := 12) [blsO_map, ef, -List.map_map, -List.all_map]
  | true =>
    rw [q] at ef
    simp (maxDischargeDepth := 12) [blsO_map, ef, -List.map_map, -List.all_map]
theorem is_quiet_eq (hw : IsW S wk m R) (K : StOk m R b w) (Z : Size N b w) (hN : N + 4 < 40000) : m_is_quiet [.ref wk, rStand b w] S = .ok (.bl (b.all (fun g => decide (g = [])) && decide (w = []))) S := by
  have e := check_right hw K Z hN
  have e2 := all_quiet_eq (S := S) (w := w) Z.nb
  unfold m_is_quiet
  simp (maxDischargeDepth := 12) [startL, e, e2]
def restW (m : Nat) (R : List Rule) (w : List Way) : Nat := (w.map fun y => (y.2.map (total m R)).sum).sum
theorem sum_lots {T : Store} {L : Loc} (hw : IsW T wk m R) (hL0 : L[0]? = some (some (.ref wk))) (h5 : 5 < L.length) (l : List Task) (hl : ∀ t, t ∈ l → TaskOk R t) (hz : l.length < 40000) :
    lcLoop (fun _ => True) L (gN 5) tYes (mA KW.m_many_of (aCons (mV 0) (aCons (mV 5) aNil))) (l.map rTask) [] T = .ok (rInts (l.map (total m R))) T := by
  rw [lc_map' rTask (fun t => .int (total m R t : Nat)) l rfl trivial (by unfold LIM; omega) ?_]
  · simp [rInts]
  · intro t ht
    have e := many_of_eq hw (hl t ht)
    have g0 : (L.set 5 (some (rTask t)))[0]? = some (some (.ref wk)) := by rw [List.getElem?_set_ne (by omega)]; exact hL0
    have g6 : (L.set 5 (some (rTask t)))[5]? = some (some (rTask t)) := List.getElem?_set_self h5
    simp (maxDischargeDepth := 12) [getL_some g0, getL_some g6, e]
theorem still_to_do_eq (hw : IsW S wk m R) (K : StOk m R b w) (Z : Size N b w) (hN : N + 4 < 40000) : m_still_to_do [.ref wk, rStand b w] S = .ok (.int ((rest m R b + restW m R w : Nat) : Int)) S := by
  have e := check_right hw K Z hN
  have er : rStand b w = .tup [.tup (b.map rTasks), .tup (w.map rWay)] := rfl
  have wS := sg_lt hw.at_
  obtain ⟨lots, hlots⟩ : ∃ lots : List (List Task), lots = b ++ w.map (·.2) := ⟨_, rfl⟩
  have elots : b.map rTasks ++ (w.map fun y => rTasks y.2) = lots.map rTasks := by rw [hlots, List.map_append, List.map_map]; rfl
  have hall : ∀ l, l ∈ lots → (∀ t, t ∈ l → TaskOk R t) ∧ l.length < 40000 := fun l hl => by
    rw [hlots] at hl
    rcases List.mem_append.mp hl with hl | hl
    · exact ⟨K.bags l hl, by have := Z.bags l hl; omega⟩
    · obtain ⟨y, hy, rfl⟩ := List.mem_map.mp hl
      exact ⟨(K.ways y hy).2.2.2, by have := Z.sh.2 y hy; omega⟩
  have hll : lots.length < 40010 := by rw [hlots, List.length_append, List.length_map]; have := Z.nb; have := Z.sh.1; omega
  have hsum : (lots.map fun l => (l.map (total m R)).sum).sum = rest m R b + restW m R w := by
    rw [hlots, List.map_append, List.sum_append, List.map_map]
    rfl
  have hlow : belows (sl S) (lots.map rTasks) = true := belows_map _ _ fun x _ => tasks_low _ x
  have hbz : b.length ≤ 16777216 := by have := Z.nb; omega
  have hwz : b.length + w.length ≤ 16777216 := by have := Z.nb; have := Z.sh.1; omega
  rw [← hsum]
  rw [er] at e
  unfold m_still_to_do
  rw [er]
  simp (maxDischargeDepth := 12) [startL, e, hbz]
  rw [lc_map' rWay (fun y => rTasks y.2) w rfl trivial (by have := Z.sh.1; unfold LIM; omega) fun y _ => by simp (maxDischargeDepth := 12) [rWay]]
  simp (maxDischargeDepth := 12) [hwz, elots, hlow]
  have hw1 : IsW (sp S (.lst (lots.map rTasks))) wk m R := ⟨by rw [sg_sp_lt wS]; exact hw.at_, hw.wf⟩
  rw [lc_map' rTasks (fun l => .int ((l.map (total m R)).sum : Nat)) lots rfl (by simp) (by unfold LIM; omega) fun l hl => by
    obtain ⟨h1, h2⟩ := hall l hl
    have es := sum_lots (T := sp S (.lst (lots.map rTasks))) (L := [some (.ref wk), some (.tup [.tup (b.map rTasks), .tup (w.map rWay)]), some (.ref (sl S)), none, some (rTasks l), none]) hw1 rfl (by simp) l h1 h2
    have eg : rTasks l = .tup (l.map rTask) := rfl
    rw [eg] at es
    simp (maxDischargeDepth := 12) [eg, es, intsO_rInts, sum_cast, -List.map_map]]
  have eI : (lots.map fun l => Val.int ((l.map (total m R)).sum : Nat)) = rInts (lots.map fun l => (l.map (total m R)).sum) := by unfold rInts; rw [List.map_map]; rfl
  rw [eI]
  simp (maxDischargeDepth := 12) [intsO_rInts, sum_cast, -List.map_map]
end
end KS

/-! K04A: what is done in the end does not hang on the order: told by weights. -/
namespace K04
open Mp KQ KW KP KS
/-- G tells a task's weight and that of all that comes of it -/
structure Wt (m : Nat) (R : List Rule) (a G : Nat → Task → Nat) : Prop where
  step : ∀ h t, h < m → TaskOk R t → G h t = a h t + ((sentL m R h t).map fun x => G x.1 x.2).sum
def restF (G : Nat → Task → Nat) : Nat → List (List Task) → Nat
  | _, [] => 0
  | k, g :: b => (g.map (G k)).sum + restF G (k + 1) b
def restV (G : Nat → Task → Nat) (w : List Way) : Nat := (w.map fun y => (y.2.map (G y.1.2)).sum).sum
def doneS (a : Nat → Task → Nat) (l : List (Nat × Task)) : Nat := (l.map fun x => a x.1 x.2).sum
theorem restF_set {G : Nat → Task → Nat} : ∀ (b : List (List Task)) (k h : Nat) (g : List Task), h < b.length → restF G k (b.set h g) + ((b.getD h []).map (G (k + h))).sum = restF G k b + (g.map (G (k + h))).sum
  | [], _, h, _, l => by simp at l
  | x :: b, k, 0, g, _ => by simp [restF]; omega
  | x :: b, k, h + 1, g, l => by
    have := restF_set (G := G) b (k + 1) h g (by simp at l; omega)
    have e : k + 1 + h = k + (h + 1) := by omega
    rw [e] at this
    simp [restF] at this ⊢
    omega
theorem restF_put {G : Nat → Task → Nat} {b : List (List Task)} {x : Nat × Task} (h : x.1 < b.length) : restF G 0 (put b x) = restF G 0 b + G x.1 x.2 := by
  have := restF_set (G := G) b 0 x.1 (b.getD x.1 [] ++ [x.2]) h
  unfold put
  simp only [List.map_append, List.sum_append, List.map_cons, List.map_nil, List.sum_cons, List.sum_nil, Nat.zero_add] at this ⊢
  omega
theorem restF_puts {G : Nat → Task → Nat} : ∀ (l : List (Nat × Task)) (b : List (List Task)), (∀ x, x ∈ l → x.1 < b.length) → restF G 0 (l.foldl put b) = restF G 0 b + doneS G l
  | [], b, _ => by simp [doneS]
  | x :: l, b, h => by
    rw [List.foldl_cons, restF_puts l (put b x) (fun y hy => by rw [put_len]; exact h y (List.mem_cons_of_mem _ hy)), restF_put (h x (by simp))]
    simp [doneS]
    omega
theorem restF_empty {G : Nat → Task → Nat} : ∀ (n k : Nat), restF G k (List.replicate n []) = 0
  | 0, _ => rfl
  | n + 1, k => by
    rw [List.replicate_succ]
    show (([] : List Task).map (G k)).sum + restF G (k + 1) (List.replicate n []) = 0
    rw [restF_empty n (k + 1)]
    rfl
/-! ### ways -/
theorem drop_none {w : List Way} {e : Nat × Nat} (h : ∀ x, x ∈ w → x.1 ≠ e) : dropW w e = w := by
  unfold dropW
  rw [List.filter_eq_self]
  intro x hx
  simp [h x hx]
theorem restV_drop {G : Nat → Task → Nat} {e : Nat × Nat} : ∀ {w : List Way}, w.Pairwise LtW → restV G (dropW w e) + ((onW w e).map (G e.2)).sum = restV G w
  | [], _ => by simp [restV, dropW, onW]
  | y :: w, hp => by
    obtain ⟨p1, p2⟩ := List.pairwise_cons.mp hp
    by_cases he : y.1 = e
    · have hn : ∀ x, x ∈ w → x.1 ≠ e := fun x hx z => by
        have := p1 x hx
        unfold LtW endN ltK at this
        rw [z, ← he] at this
        omega
      have e1 : dropW (y :: w) e = w := by
        have : dropW (y :: w) e = dropW w e := by unfold dropW; rw [List.filter_cons_of_neg (by simp [he])]
        rw [this, drop_none hn]
      have e2 : onW (y :: w) e = y.2 := by
        unfold onW
        rw [List.filter_cons_of_pos (by simp [he])]
        rfl
      rw [e1, e2, ← he]
      simp only [restV, List.map_cons, List.sum_cons]
      omega
    · have e1 : dropW (y :: w) e = y :: dropW w e := by unfold dropW; rw [List.filter_cons_of_pos (by simp [he])]
      have e2 : onW (y :: w) e = onW w e := by unfold onW; rw [List.filter_cons_of_neg (by simp [he])]
      have ih := restV_drop (G := G) (e := e) p2
      rw [e1, e2]
      simp only [restV, List.map_cons, List.sum_cons] at ih ⊢
      omega
theorem restV_perm {G : Nat → Task → Nat} {w v : List Way} (p : w.Perm v) : restV G w = restV G v := (p.map _).sum_nat
theorem restV_with {G : Nat → Task → Nat} {w : List Way} {e : Nat × Nat} {l : List Task} (h : w.Pairwise LtW) : restV G (withW w e l) + ((onW w e).map (G e.2)).sum = restV G w + (l.map (G e.2)).sum := by
  have d := restV_drop (G := G) (e := e) h
  unfold withW
  split
  · rename_i hl
    subst hl
    simp only [List.map_nil, List.sum_nil]
    omega
  · rw [restV_perm (insW_perm (e, l) (dropW w e))]
    simp only [restV, List.map_append, List.map_cons, List.map_nil, List.sum_append, List.sum_cons, List.sum_nil] at d ⊢
    omega
theorem restV_send {G : Nat → Task → Nat} {h : Nat} {w : List Way} {x : Nat × Task} (hp : w.Pairwise LtW) : restV G (sendW h w x) = restV G w + G x.1 x.2 := by
  have := restV_with (G := G) (e := (h, x.1)) (l := onW w (h, x.1) ++ [x.2]) hp
  unfold sendW
  simp only [List.map_append, List.sum_append, List.map_cons, List.map_nil, List.sum_cons, List.sum_nil] at this ⊢
  omega
theorem send_asc {h : Nat} {w : List Way} {x : Nat × Task} (hp : w.Pairwise LtW) : (sendW h w x).Pairwise LtW := withW_asc hp
theorem restV_sends {G : Nat → Task → Nat} {h : Nat} : ∀ (l : List (Nat × Task)) (w : List Way), w.Pairwise LtW → restV G (l.foldl (sendW h) w) = restV G w + doneS G l
  | [], w, _ => by simp [doneS]
  | x :: l, w, hp => by
    rw [List.foldl_cons, restV_sends l _ (send_asc hp), restV_send hp]
    simp [doneS]
    omega
/-! ### the steps -/
variable {m : Nat} {R : List Rule} {a G : Nat → Task → Nat} {b : List (List Task)} {w : List Way}
theorem do_rest {h : Nat} {t : Task} {r : List Task} (A : Wt m R a G) (K : StOk m R b w) (hh : h < m) (hb : b.getD h [] = t :: r) : restF G 0 (b.set h r) + restV G (doneW m R h t w) + a h t = restF G 0 b + restV G w := by
  have e1 := restF_set (G := G) b 0 h r (by rw [K.len]; exact hh)
  have e2 := restV_sends (G := G) (h := h) (sentL m R h t) w K.asc
  have e3 : G h t = a h t + doneS G (sentL m R h t) := A.step h t hh (K.task hb).1
  rw [hb] at e1
  unfold doneW
  rw [e2]
  simp only [List.map_cons, List.sum_cons, Nat.zero_add] at e1 e3 ⊢
  omega
theorem hear_rest {h s : Nat} {t : Task} {r : List Task} (K : StOk m R b w) (hh : h < m) (ho : onW w (s, h) = t :: r) : restF G 0 (b.set h (b.getD h [] ++ [t])) + restV G (withW w (s, h) r) = restF G 0 b + restV G w := by
  have e1 := restF_set (G := G) b 0 h (b.getD h [] ++ [t]) (by rw [K.len]; exact hh)
  have e2 := restV_with (G := G) (e := (s, h)) (l := r) K.asc
  rw [ho] at e2
  simp only [List.map_append, List.sum_append, List.map_cons, List.map_nil, List.sum_cons, List.sum_nil, Nat.zero_add] at e1 e2 ⊢
  omega
theorem after_rest {h : Nat} {t : Task} {g : List Task} (W : WfR m R) (A : Wt m R a G) (hb : b.length = m) (hh : h < m) (ht : TaskOk R t) (hg : b.getD h [] = t :: g) : restF G 0 (after m R b h t) + a h t = restF G 0 b := by
  have e1 := restF_set (G := G) b 0 h g (by omega)
  have e3 : G h t = a h t + doneS G (sentL m R h t) := A.step h t hh ht
  unfold after
  rw [hg, List.tail_cons, restF_puts _ _ (fun x hx => by rw [List.length_set, hb]; exact (sent_ok W ht hx).1)]
  rw [hg] at e1
  simp only [List.map_cons, List.sum_cons, Nat.zero_add] at e1 e3 ⊢
  omega
theorem run_rest (W : WfR m R) (A : Wt m R a G) : ∀ (n : Nat) (b : List (List Task)), BagsOk m R b → rest m R b ≤ n → doneS a (runL m R n b) = restF G 0 b
  | 0, b, B, h => by
    have e0 : ∀ (b : List (List Task)) (k : Nat), (∀ g, g ∈ b → ∀ t, t ∈ g → TaskOk R t) → rest m R b = 0 → restF G k b = 0 := by
      intro b
      induction b with
      | nil => intro _ _ _; rfl
      | cons g b ih =>
        intro k hb h
        have h' : (g.map (total m R)).sum + rest m R b = 0 := h
        have hg : g = [] := by
          cases g with
          | nil => rfl
          | cons t g =>
            have := total_pos (m := m) W (hb (t :: g) (List.mem_cons_self ..) t (List.mem_cons_self ..))
            simp only [List.map_cons, List.sum_cons] at h'
            omega
        subst hg
        show (([] : List Task).map (G k)).sum + restF G (k + 1) b = 0
        rw [ih (k + 1) (fun g hg => hb g (List.mem_cons_of_mem _ hg)) (by omega)]
        rfl
    rw [e0 b 0 B.2 (by omega)]
    rfl
  | n + 1, b, B, h => by
    unfold runL
    cases e : working m b with
    | nil =>
      have := run_rest W A 0 b B (by rw [working_none B.1 e]; omega)
      exact this
    | cons k r =>
      obtain ⟨h1, h2⟩ := working_head e
      cases e2 : b.getD k [] with
      | nil => rw [e2] at h2; simp at h2
      | cons t g =>
        have hl : k < b.length := by rw [B.1]; exact h1
        have e3 : b.getD k [] = b[k] := by simp [hl]
        have ht : TaskOk R t := B.2 _ (List.getElem_mem hl) t (by rw [← e3, e2]; simp)
        have ra := rest_after W ht B.1 h1 e2
        have ih := run_rest W A n (after m R b k t) (after_ok W B h1 ht) (by omega)
        have e4 := after_rest W A B.1 h1 ht e2
        have e5 : doneS a ((k, t) :: runL m R n (after m R b k t)) = restF G 0 b := by
          show a k t + doneS a (runL m R n (after m R b k t)) = _
          omega
        simpa only [e2] using e5
/-! ### weights -/
theorem total_wt (W : WfR m R) : Wt m R (fun _ _ => 1) (fun _ t => total m R t) := ⟨fun h t _ ht => total_sent W ht⟩
theorem due_wt (W : WfR m R) {i : Nat} (hi : i < m) : Wt m R (fun h _ => if h = i then 1 else 0) (fun h t => nth (dueL m R h t) i) := ⟨fun h t hh ht => due_sent W hh hi ht⟩
def VF (m : Nat) (R : List Rule) (a : Nat → Task → Nat) : Nat → Nat → Task → Nat
  | 0, _, _ => 0
  | n + 1, h, t => a h t + ((sentL m R h t).map fun x => VF m R a n x.1 x.2).sum
theorem VF_more (W : WfR m R) : ∀ (n k h : Nat) (t : Task), h < m → TaskOk R t → t.2 < n → t.2 < k → VF m R a n h t = VF m R a k h t
  | 0, _, _, _, _, _, q, _ => absurd q (by omega)
  | _, 0, _, _, _, _, _, q => absurd q (by omega)
  | n + 1, k + 1, h, t, hh, ht, q1, q2 => by
    show a h t + _ = a h t + _
    congr 2
    apply List.map_congr_left
    intro x hx
    obtain ⟨x1, x2, x3⟩ := sent_ok W ht hx
    exact VF_more W n k x.1 x.2 x1 x2 (by omega) (by omega)
theorem V_wt (W : WfR m R) : Wt m R a (VF m R a 13) := ⟨fun h t hh ht => by
  show a h t + _ = a h t + _
  congr 2
  apply List.map_congr_left
  intro x hx
  obtain ⟨x1, x2, x3⟩ := sent_ok W ht hx
  have := ht.2
  exact VF_more W 12 13 x.1 x.2 x1 x2 (by omega) (by omega)⟩
theorem rest_restF : ∀ (b : List (List Task)) (k : Nat), restF (fun _ t => total m R t) k b = rest m R b
  | [], _ => rfl
  | g :: b, k => by
    have := rest_restF b (k + 1)
    simp only [restF, rest, List.map_cons, List.sum_cons] at this ⊢
    rw [this]
/-- how often: by house and task; by house -/
def one (h0 : Nat) (t0 : Task) : Nat → Task → Nat := fun h t => if h = h0 ∧ t = t0 then 1 else 0
theorem restF_one {h0 : Nat} {t0 : Task} : ∀ (b : List (List Task)) (k : Nat), restF (one h0 t0) k b = if k ≤ h0 then (b.getD (h0 - k) []).count t0 else 0
  | [], k => by simp [restF]
  | g :: b, k => by
    have ih := restF_one (h0 := h0) (t0 := t0) b (k + 1)
    have sg : ∀ g : List Task, (g.map (one h0 t0 k)).sum = if k = h0 then g.count t0 else 0 := by
      intro g
      induction g with
      | nil => simp
      | cons t g ihg =>
        rw [List.map_cons, List.sum_cons, ihg, List.count_cons]
        unfold one
        by_cases e1 : k = h0 <;> by_cases e2 : t = t0 <;> simp [e1, e2] <;> omega
    simp only [restF]
    rw [ih, sg]
    by_cases e : k = h0
    · subst e
      rw [if_pos rfl, if_neg (by omega), if_pos (Nat.le_refl _), Nat.sub_self]
      rfl
    · by_cases e2 : k ≤ h0
      · have e3 : h0 - k = (h0 - (k + 1)) + 1 := by omega
        rw [if_neg e, if_pos (by omega), if_pos e2, e3]
        simp
      · rw [if_neg e, if_neg (by omega), if_neg e2]
theorem restF_len {i : Nat} : ∀ (b : List (List Task)) (k : Nat), restF (fun h _ => if h = i then 1 else 0) k b = if k ≤ i then (b.getD (i - k) []).length else 0
  | [], k => by simp [restF]
  | g :: b, k => by
    have ih := restF_len (i := i) b (k + 1)
    have sg : (g.map ((fun h _ => if h = i then 1 else 0 : Nat → Task → Nat) k)).sum = if k = i then g.length else 0 := by
      induction g with
      | nil => simp
      | cons t g ihg =>
        rw [List.map_cons, List.sum_cons, ihg]
        by_cases e1 : k = i <;> simp [e1] <;> omega
    simp only [restF]
    rw [ih, sg]
    by_cases e : k = i
    · subst e
      rw [if_pos rfl, if_neg (by omega), if_pos (Nat.le_refl _), Nat.sub_self]
      rfl
    · by_cases e2 : k ≤ i
      · have e3 : i - k = (i - (k + 1)) + 1 := by omega
        rw [if_neg e, if_pos (by omega), if_pos e2, e3]
        simp
      · rw [if_neg e, if_neg (by omega), if_neg e2]
theorem perm_of {c d : List (List Task)} (h : ∀ a, restF a 0 c = restF a 0 d) (k : Nat) : (c.getD k []).Perm (d.getD k []) := by
  rw [List.perm_iff_count]
  intro t
  have := h (one k t)
  rw [restF_one, restF_one] at this
  simpa using this
end K04

/-! KP2: bags in the store. -/
namespace KP
open Mp KQ KW KA
open PySem (Str)
/-- at b a list of lists, each at its own place, of these tasks -/
structure Bags (T : Store) (b : Nat) (bs : List Nat) (g : List (List Task)) : Prop where
  at_ : sg T b = some (.lst (bs.map Val.ref))
  len : bs.length = g.length
  nd : bs.Nodup
  nb : ¬ b ∈ bs
  each : ∀ i k : Nat, bs[i]? = some k → sg T k = some (.lst ((g.getD i []).map rTask))
theorem Bags.ref {T : Store} {b : Nat} {bs : List Nat} {g : List (List Task)} (B : Bags T b bs g) {i : Nat} (hi : i < g.length) : ∃ k, bs[i]? = some k ∧ sg T k = some (.lst ((g.getD i []).map rTask)) ∧ ¬ k = b := by
  have hi' : i < bs.length := by rw [B.len]; exact hi
  have e : bs[i]? = some bs[i] := by simp [hi']
  exact ⟨bs[i], e, B.each i _ e, fun q => B.nb (q ▸ List.getElem_mem hi')⟩
/-- one bag is another one now -/
theorem Bags.set {T : Store} {b : Nat} {bs : List Nat} {g : List (List Task)} (B : Bags T b bs g) {i k : Nat} (hk : bs[i]? = some k) (v : List Task) : Bags (ss T k (.lst (v.map rTask))) b bs (g.set i v) := by
  have hi := (List.getElem?_eq_some_iff.mp hk).1
  have hm := List.mem_of_getElem? hk
  have ks : (sg T k).isSome = true := by rw [B.each i k hk]; rfl
  refine ⟨by rw [sg_ss_ne (fun q => B.nb (by rw [q]; exact hm))]; exact B.at_, by rw [List.length_set]; exact B.len, B.nd, B.nb, fun j l hl => ?_⟩
  by_cases e : i = j
  · subst e
    rw [hk] at hl
    cases hl
    rw [sg_ss_same ks]
    have : i < g.length := by rw [← B.len]; exact hi
    simp [this]
  · have hn : ¬ l = k := fun q => e (by
      have hj := (List.getElem?_eq_some_iff.mp hl).1
      exact (List.getElem_inj (h₀ := hi) (h₁ := hj) B.nd).mp (by rw [(List.getElem?_eq_some_iff.mp hk).2, (List.getElem?_eq_some_iff.mp hl).2, q]))
    rw [sg_ss_ne hn, B.each j l hl]
    simp [List.getElem?_set, e]
theorem work_loop {T : Store} {m b : Nat} {bs : List Nat} {g : List (List Task)} {x0 x1 x3 x4 x6 x7 x8 x5 : Option Val} (B : Bags T b bs g) (hg : g.length = m) (hm : m ≤ 6) :
    lcLoop (fun _ => True) [x0, x1, some (.ref b), x3, x4, x5, x6, x7, x8] (gN 5) (tV (m2 pGt (mB fLen (aCons (m2 pIx (mV 2) (mV 5)) aNil)) (mC (.int 0)))) (mV 5) (rangeL 0 m) [] T = .ok ((working m g).map fun (i : Nat) => Val.int i) T := by
  rw [lc_if' (fun (i : Nat) => Val.int i) (fun h => decide (0 < (g.getD h []).length)) (fun (i : Nat) => Val.int i) (List.range m) (rangeL0 m) trivial (by rw [List.length_range]; unfold LIM; omega) ?_]
  · rfl
  · intro h hh
    have hh' : h < m := by simpa using hh
    obtain ⟨k, e1, e2, e3⟩ := B.ref (i := h) (by omega)
    have e0 := B.at_
    have e4 : (bs.map Val.ref)[h]? = some (.ref k) := by rw [List.getElem?_map, e1]; rfl
    simp (maxDischargeDepth := 12) [e0, e1, e2]
    cases decide (0 < (g[h]?.getD []).length) <;> rfl
theorem put_step {T : Store} {b : Nat} {bs : List Nat} {g : List (List Task)} {x : Nat × Task} {x0 x1 x3 x4 x5 x6 : Option Val} (B : Bags T b bs g) (hx : x.1 < g.length) (hz : (g.getD x.1 []).length < 100000) :
    ∃ k, bs[x.1]? = some k ∧ m_plain_run_b1 [x0, x1, some (.ref b), x3, x4, x5, x6, some (.int x.1), some (rTask x.2)] T = .nx [x0, x1, some (.ref b), x3, x4, x5, x6, none, none] (ss T k (.lst (((g.getD x.1 []) ++ [x.2]).map rTask))) := by
  obtain ⟨k, e1, e2, e3⟩ := B.ref hx
  have e0 := B.at_
  have hz' : (g[x.1]?.getD []).length < 16777216 := by rw [← List.getD_eq_getElem?_getD]; omega
  refine ⟨k, e1, ?_⟩
  unfold m_plain_run_b1
  simp (maxDischargeDepth := 12) [e0, e1, e2, hz']
theorem put_loop {T : Store} {b : Nat} {bs : List Nat} {g : List (List Task)} {x0 x1 x3 x4 x5 x6 : Option Val} (B : Bags T b bs g) (l : List (Nat × Task)) (hl : ∀ x, x ∈ l → x.1 < g.length) (hz : ∀ i g', g' = (l.take i).foldl put g → ∀ h, (g'.getD h []).length < 100000) :
    ∃ T', forLoop (fun _ => True) (gTup (gsCons (gN 7) (gsCons (gN 8) gsNil))) m_plain_run_b1 (l.map rSent) [x0, x1, some (.ref b), x3, x4, x5, x6, none, none] T = .nx [x0, x1, some (.ref b), x3, x4, x5, x6, none, none] T' ∧ Bags T' b bs (l.foldl put g) ∧ sl T' = sl T ∧ ∀ i, ¬ i ∈ bs → sg T' i = sg T i := by
  obtain ⟨L', T', e, rfl, B', h1, h2⟩ := forLoop_nx (keep := fun _ => True) (g := gTup (gsCons (gN 7) (gsCons (gN 8) gsNil))) (b := m_plain_run_b1)
    (fun i L T' => L = [x0, x1, some (.ref b), x3, x4, x5, x6, none, none] ∧ Bags T' b bs ((l.take i).foldl put g) ∧ sl T' = sl T ∧ ∀ i, ¬ i ∈ bs → sg T' i = sg T i) (xs := l.map rSent) (L := [x0, x1, some (.ref b), x3, x4, x5, x6, none, none]) (S := T)
    ⟨rfl, B, rfl, fun _ _ => rfl⟩ (fun _ _ _ _ _ => trivial) (fun i x L T1 hx q => by
      obtain ⟨rfl, B1, h1, h2⟩ := q
      rw [List.getElem?_map] at hx
      obtain ⟨y, hy, rfl⟩ := Option.map_eq_some_iff.mp hx
      obtain ⟨k, e1, e2⟩ := put_step (x := y) (x0 := x0) (x1 := x1) (x3 := x3) (x4 := x4) (x5 := x5) (x6 := x6) B1 (by rw [puts_len]; exact hl y (List.mem_of_getElem? hy)) (hz i _ rfl _)
      refine ⟨[x0, x1, some (.ref b), x3, x4, x5, x6, some (.int y.1), some (rTask y.2)], T1, _, _, by simp [rSent], .inl e2, rfl, ?_, by rw [sl_ss]; exact h1, fun j hj => ?_⟩
      · rw [List.take_add_one, hy]
        simp only [Option.toList_some, List.foldl_append, List.foldl_cons, List.foldl_nil]
        exact B1.set e1 _
      · rw [sg_ss_ne (fun q => hj (by rw [q]; exact List.mem_of_getElem? e1))]
        exact h2 j hj)
  rw [List.length_map, List.take_length] at B'
  exact ⟨T', e, B', h1, h2⟩
end KP

/-! KP3: a step of the plain run. -/
namespace KP
open Mp KQ KW KA
open PySem (Str)
def rDone (x : Nat × Task) : Val := .tup [.int x.1, rTask x.2]
/-- the store of a plain run that began at S -/
structure Run (S T : Store) (b f m : Nat) (R : List Rule) (bs : List Nat) (g : List (List Task)) (fd : List (Nat × Task)) : Prop where
  gr : Grow S T
  bags : Bags T b bs g
  ok : BagsOk m R g
  fnd : sg T f = some (.lst (fd.map rDone))
  lb : sl S ≤ b
  lf : sl S ≤ f
  lbs : ∀ k, k ∈ bs → sl S ≤ k
  fb : ¬ f ∈ bs
  fnb : ¬ f = b
theorem pop0 {S : Store} {a : Nat} {y : Val} {r : List Val} (h : sg S a = some (.lst (y :: r))) : fPopAt (.ref a) [.int 0] S = .ok y (ss S a (.lst r)) := by
  have h' : S[a]? = some (.lst (y :: r)) := h
  unfold fPopAt
  simp only [h']
  have : L2.ixN (y :: r).length 0 = some 0 := by
    have := ixN_cast (y :: r).length 0
    simpa using this
  rw [this]
  rfl
/-- the store's part of a step: the first task popped, put behind what is found -/
theorem Run.pop {S T : Store} {b f m h : Nat} {R : List Rule} {bs : List Nat} {g : List (List Task)} {fd : List (Nat × Task)} {t : Task} {gt : List Task} (P : Run S T b f m R bs g fd) (hh : h < m) (hg : g.getD h [] = t :: gt) :
    ∃ k, bs[h]? = some k ∧ ¬ k = b ∧ ¬ k = f ∧ sg T k = some (.lst ((t :: gt).map rTask)) ∧
      Run S (ss (ss T k (.lst (gt.map rTask))) f (.lst ((fd ++ [(h, t)]).map rDone))) b f m R bs (g.set h gt) (fd ++ [(h, t)]) := by
  have hl : h < g.length := by rw [P.ok.1]; exact hh
  obtain ⟨k, e1, e2, e3⟩ := P.bags.ref hl
  have km := List.mem_of_getElem? e1
  have kf : ¬ k = f := fun q => P.fb (q ▸ km)
  have fk : ¬ f = k := fun q => kf q.symm
  rw [hg] at e2
  have B1 := P.bags.set e1 gt
  have fl := sg_lt P.fnd
  refine ⟨k, e1, e3, kf, e2, ?_, ?_, ⟨by rw [List.length_set]; exact P.ok.1, fun a ha t' ht' => ?_⟩, sg_ss_same (by rw [sg_ss_ne fk, P.fnd]; rfl), P.lb, P.lf, P.lbs, P.fb, P.fnb⟩
  · refine ⟨by rw [sl_ss, sl_ss]; exact P.gr.1, fun i hi => ?_⟩
    have := P.lf
    have := P.lbs k km
    rw [sg_ss_ne (by omega), sg_ss_ne (by omega)]
    exact P.gr.2 i hi
  · refine ⟨by rw [sg_ss_ne (fun q => P.fnb q.symm)]; exact B1.at_, B1.len, B1.nd, B1.nb, fun i j hj => ?_⟩
    rw [sg_ss_ne (fun q => P.fb (by rw [← q]; exact List.mem_of_getElem? hj))]
    exact B1.each i j hj
  · have e4 : g.getD h [] = g[h] := by simp [hl]
    rcases List.mem_or_eq_of_mem_set ha with ha | rfl
    · exact P.ok.2 a ha t' ht'
    · exact P.ok.2 _ (List.getElem_mem hl) t' (by rw [← e4, hg]; simp [ht'])
theorem sent_few {m h : Nat} {R : List Rule} {t : Task} (W : WfR m R) (ht : TaskOk R t) : (sentL m R h t).length ≤ 4 := by
  have := W.len _ (ruleAt_mem ht.1)
  unfold sentL
  split
  · simp
  · rw [List.length_map]; exact this
theorem put_short {m h N : Nat} {R : List Rule} {g : List (List Task)} {t : Task} {gt : List Task} (W : WfR m R) (B : BagsOk m R g) (hh : h < m) (ht : TaskOk R t) (hg : g.getD h [] = t :: gt) (hr : rest m R g ≤ N) (i : Nat) (k : Nat) :
    ((((sentL m R h t).take i).foldl put (g.set h gt)).getD k []).length ≤ N := by
  have hl : h < g.length := by rw [B.1]; exact hh
  have e4 : g.getD h [] = g[h] := by simp [hl]
  have e5 : (g.getD h []).tail = gt := by rw [hg]; rfl
  have B1 : BagsOk m R (g.set h gt) := by
    refine ⟨by rw [List.length_set]; exact B.1, fun a ha t' ht' => ?_⟩
    rcases List.mem_or_eq_of_mem_set ha with ha | rfl
    · exact B.2 a ha t' ht'
    · exact B.2 _ (List.getElem_mem hl) t' (by rw [← e4, hg]; simp [ht'])
  have h1 := bag_rest W (puts_ok ((sentL m R h t).take i) (g.set h gt) B1 fun x hx => ⟨(sent_ok W ht (List.mem_of_mem_take hx)).1, (sent_ok W ht (List.mem_of_mem_take hx)).2.1⟩) k
  have h2 := puts_rest (m := m) (R := R) (g := g.set h gt) (sentL m R h t) (fun x hx => by rw [List.length_set, B.1]; exact (sent_ok W ht hx).1) i
  have h3 := rest_after W ht B.1 hh hg
  unfold after at h3
  rw [e5] at h3
  omega
abbrev PL (w b f wr : Nat) (gv : Val) (x5 x6 : Option Val) : Loc := [some (.ref w), some gv, some (.ref b), some (.ref f), some (.ref wr), x5, x6, none, none]
theorem plain_step {S T : Store} {w b f wr m h : Nat} {R : List Rule} {bs : List Nat} {g : List (List Task)} {fd : List (Nat × Task)} {t : Task} {gt : List Task} {hr : List Nat} {gv : Val} {x5 x6 : Option Val} (hw : IsW S w m R) (P : Run S T b f m R bs g fd)
    (ewr : sg T wr = some (.lst ((working m g).map fun (i : Nat) => Val.int i))) (hwk : working m g = h :: hr) (hg : g.getD h [] = t :: gt) (hN : rest m R g ≤ 20000) (hfd : fd.length < 100000) :
    ∃ T', m_plain_run_b2 (PL w b f wr gv x5 x6) T = .nx (PL w b f (sl T) gv (some (.int h)) (some (rTask t))) (sp T' (.lst ((working m (after m R g h t)).map fun (i : Nat) => Val.int i))) ∧ sl T' = sl T ∧ Run S T' b f m R bs (after m R g h t) (fd ++ [(h, t)]) := by
  have W := hw.wf
  have hm1 := W.m1
  have hm6 := W.m6
  obtain ⟨hh, _⟩ := working_head hwk
  obtain ⟨k, e1, e2, e3, e4, P1⟩ := P.pop hh hg
  have hl : h < g.length := by rw [P.ok.1]; exact hh
  have e5 : (g.getD h []).tail = gt := by rw [hg]; rfl
  have ht : TaskOk R t := by
    have e4 : g.getD h [] = g[h] := by simp [hl]
    exact P.ok.2 _ (List.getElem_mem hl) t (by rw [← e4, hg]; simp)
  obtain ⟨T2, hT2⟩ : ∃ T2, T2 = ss (ss T k (.lst (gt.map rTask))) f (.lst ((fd ++ [(h, t)]).map rDone)) := ⟨_, rfl⟩
  rw [← hT2] at P1
  have hw2 : IsW T2 w m R := ⟨P1.gr.sg hw.at_, W⟩
  have el := letters_of_eq (h := h) hw2 ht
  have hlen : (g.set h gt).length = m := by rw [List.length_set]; exact P.ok.1
  obtain ⟨T3, ep, B3, l3, k3⟩ := put_loop (x0 := some (.ref w)) (x1 := some gv) (x3 := some (.ref f)) (x4 := some (.ref wr)) (x5 := some (.int h)) (x6 := some (rTask t)) P1.bags (sentL m R h t) (fun x hx => by rw [hlen]; exact (sent_ok W ht hx).1)
    (fun i g' hg' k => by rw [hg']; have := put_short W P.ok hh ht hg hN i k; omega)
  have ea : (sentL m R h t).foldl put (g.set h gt) = after m R g h t := by unfold after; rw [e5]
  rw [ea] at B3
  have wS := sg_lt hw.at_
  have P3 : Run S T3 b f m R bs (after m R g h t) (fd ++ [(h, t)]) := by
    refine ⟨⟨by rw [l3]; exact P1.gr.1, fun i hi => ?_⟩, B3, after_ok W P.ok hh ht, by rw [k3 f P.fb]; exact P1.fnd, P.lb, P.lf, P.lbs, P.fb, P.fnb⟩
    rw [k3 i fun q => by have := P.lbs i q; omega]
    exact P1.gr.2 i hi
  have hw3 : sg T3 w = some (worksO m R) := P3.gr.sg hw.at_
  have ew := work_loop (x0 := some (.ref w)) (x1 := some gv) (x3 := some (.ref f)) (x4 := some (.ref wr)) (x6 := some (rTask t)) (x7 := none) (x8 := none) (x5 := none) B3 P3.ok.1 hm6
  have l2 : sl T2 = sl T := by rw [hT2, sl_ss, sl_ss]
  refine ⟨T3, ?_, by rw [l3, l2], P3⟩
  have ewr' : sg T wr = some (.lst (Val.int h :: hr.map fun (i : Nat) => Val.int i)) := by rw [ewr, hwk]; rfl
  have eb := P.bags.at_
  have epop := pop0 (y := rTask t) (r := gt.map rTask) e4
  have fk : ¬ f = k := fun q => e3 q.symm
  have bk : ¬ b = k := fun q => e2 q.symm
  have ef := P.fnd
  have ekv : (sg T k).isSome = true := by rw [e4]; rfl
  have hT2' : ss (ss T k (.lst (gt.map rTask))) f (.lst (fd.map rDone ++ [Val.tup [Val.int h, rTask t]])) = T2 := by rw [hT2, List.map_append]; rfl
  have hfz : fd.length < 16777216 := by omega
  have l32 : sl T3 = sl T := by rw [l3, l2]
  have hmz : m < 1000000 := by omega
  unfold m_plain_run_b2
  simp (maxDischargeDepth := 12) [ewr', eb, e1, e4, epop, ef, fk, bk, ekv, hfz, hT2', el, ep, hw3, worksO, ew, hmz, l32]
end KP

/-! KP4: the bags made, the plain run. -/
namespace KP
open Mp KQ KW KA
open PySem (Str)
theorem fresh_lists {S : Store} {L : Loc} (v k : Nat) (hk : k < 1000) : ∃ T, lcLoop (fun _ => True) L (gN v) tYes (mLst aNil) (rangeL 0 k) [] S = .ok ((List.range k).map fun j => Val.ref (sl S + j)) T ∧ sl T = sl S + k ∧ Grow S T ∧ ∀ j, j < k → sg T (sl S + j) = some (.lst []) := by
  obtain ⟨ws, T, e, rfl, h1, h2, h3⟩ := lcLoop_inv (keep := fun _ => True) (L := L) (g := gN v) (c := tYes) (e := mLst aNil) (fun i acc T => acc = ((List.range i).map fun j => Val.ref (sl S + j)) ∧ sl T = sl S + i ∧ Grow S T ∧ ∀ j, j < i → sg T (sl S + j) = some (.lst [])) (xs := rangeL 0 k) (S := S)
    ⟨rfl, rfl, Grow.refl S, fun j hj => by omega⟩ (fun _ _ _ _ _ => trivial) (fun i x acc T hx q => by
      obtain ⟨rfl, h1, h2, h3⟩ := q
      have hi := (rangeL_at hx).1
      refine ⟨L.set v (some x), T, T, rfl, .inl ⟨rfl, .ref (sl T), sp T (.lst []), ?_, by rw [List.length_map, List.length_range]; unfold LIM; omega, ?_, by rw [sl_sp]; omega, h2.trans (Grow.sp T _), fun j hj => ?_⟩⟩
      · simp (maxDischargeDepth := 12)
      · rw [List.range_succ, List.map_append, h1]; rfl
      · by_cases q : j = i
        · exact sg_sp_new' (by omega)
        · rw [sg_sp_lt (by omega)]; exact h3 j (by omega))
  rw [rangeL_len] at h1 h3
  rw [rangeL_len] at e
  exact ⟨T, e, h1, h2, h3⟩
/-- the places of the bags behind n -/
def bagIx (n m : Nat) : List Nat := n :: (List.range (m - 1)).map fun j => n + 2 + j
theorem bags_made {S T : Store} {m : Nat} {R : List Rule} {l : List Task} (hm : 1 ≤ m) (hT : Grow (sp (sp S (.lst (l.map rTask))) (.lst [.ref (sl S)])) T) (h1 : sl T = sl S + 2 + (m - 1)) (h3 : ∀ j, j < m - 1 → sg T (sl S + 2 + j) = some (.lst [])) (o : Ob) (hl : ∀ t, t ∈ l → TaskOk R t) :
    Run S (sp (sp (sp T o) (.lst ((bagIx (sl S) m).map Val.ref))) (.lst [])) (sl S + m + 2) (sl S + m + 3) m R (bagIx (sl S) m) (l :: List.replicate (m - 1) []) [] := by
  have g0 : Grow S T := ((Grow.sp S _).trans (Grow.sp _ _)).trans hT
  have lb : ∀ k, k ∈ bagIx (sl S) m → sl S ≤ k ∧ k < sl S + m + 1 := fun k hk => by
    unfold bagIx at hk
    rcases List.mem_cons.mp hk with rfl | hk
    · omega
    · obtain ⟨j, hj, rfl⟩ := List.mem_map.mp hk
      have := List.mem_range.mp hj
      omega
  have l1 : sl (sp T o) = sl S + m + 2 := by rw [sl_sp, h1]; omega
  have l2 : sl (sp (sp T o) (.lst ((bagIx (sl S) m).map Val.ref))) = sl S + m + 3 := by rw [sl_sp, l1]
  have old : ∀ i, i < sl T → sg (sp (sp (sp T o) (.lst ((bagIx (sl S) m).map Val.ref))) (.lst [])) i = sg T i := fun i hi => by
    rw [sg_sp_lt (by omega), sg_sp_lt (by omega), sg_sp_lt hi]
  refine ⟨((g0.trans (Grow.sp _ _)).trans (Grow.sp _ _)).trans (Grow.sp _ _), ⟨?_, ?_, ?_, fun q => ?_, fun i k hk => ?_⟩, ⟨by simp; omega, fun a ha t ht => ?_⟩, sg_sp_new' l2.symm, by omega, by omega, fun k hk => (lb k hk).1, fun q => ?_, by omega⟩
  · rw [sg_sp_lt (by omega)]
    exact sg_sp_new' l1.symm
  · simp [bagIx]
  · unfold bagIx
    refine List.nodup_cons.mpr ⟨fun q => ?_, nodup_map_inj (fun x y _ _ e => by omega) List.nodup_range⟩
    obtain ⟨j, _, hj⟩ := List.mem_map.mp q
    omega
  · have := (lb _ q).2
    omega
  · rw [old k (by have := (lb k (List.mem_of_getElem? hk)).2; omega)]
    unfold bagIx at hk
    cases i with
    | zero =>
      cases hk
      rw [hT.2 _ (by simp), sg_sp_lt (by simp), sg_sp_new]
      rfl
    | succ i =>
      rw [List.getElem?_cons_succ, List.getElem?_map] at hk
      obtain ⟨j, hj, rfl⟩ := Option.map_eq_some_iff.mp hk
      have hj' := (List.getElem?_eq_some_iff.mp hj).1
      have hj2 := (List.getElem?_eq_some_iff.mp hj).2
      rw [List.length_range] at hj'
      rw [List.getElem_range] at hj2
      subst hj2
      rw [h3 i hj']
      simp [hj']
  · rcases List.mem_cons.mp ha with rfl | ha
    · exact hl t ht
    · rw [(List.mem_replicate.mp ha).2] at ht
      cases ht
  · have := (lb _ q).2
    omega
theorem rest_start {m : Nat} {R : List Rule} {l : List Task} : rest m R (l :: List.replicate (m - 1) []) = sumT m R l := by
  have : ∀ n : Nat, ((List.replicate n ([] : List Task)).map fun g => (g.map (total m R)).sum).sum = 0 := by
    intro n
    induction n with
    | zero => rfl
    | succ n ih => rw [List.replicate_succ, List.map_cons, List.sum_cons, ih]; rfl
  unfold rest sumT
  rw [List.map_cons, List.sum_cons, this]
  rfl
/-- the state of the while: the store without the list of those that work, the bags, what is found -/
structure Wst where
  T : Store
  wr : Nat
  x5 : Option Val
  x6 : Option Val
  g : List (List Task)
  fd : List (Nat × Task)
theorem plain_loop {S : Store} {w b f m : Nat} {R : List Rule} {bs : List Nat} {gv : Val} (hw : IsW S w m R) : ∀ (n N : Nat) (T : Store) (wr : Nat) (g : List (List Task)) (fd : List (Nat × Task)) (x5 x6 : Option Val), Run S T b f m R bs g fd → sg T wr = some (.lst ((working m g).map fun (i : Nat) => Val.int i)) → rest m R g ≤ n → n ≤ 20000 → n < N → fd.length + n ≤ 20000 →
    ∃ T' L', whileLoop (tV (m2 pGt (mB fLen (aCons (mV 4) aNil)) (mC (.int 0)))) m_plain_run_b2 N (PL w b f wr gv x5 x6) T = .nx L' T' ∧ L'[3]? = some (some (.ref f)) ∧ Grow S T' ∧ sg T' f = some (.lst ((fd ++ runL m R n g).map rDone))
  | n, 0, T, wr, g, fd, x5, x6, P, ewr, hr, hn, hN, hf => by omega
  | n, N + 1, T, wr, g, fd, x5, x6, P, ewr, hr, hn, hN, hf => by
    rw [whileLoop_step (by omega)]
    cases hwk : working m g with
    | nil =>
      rw [hwk] at ewr
      have h0 := working_none (R := R) P.ok.1 hwk
      have : runL m R n g = [] := by
        cases n with
        | zero => rfl
        | succ n => unfold runL; rw [hwk]
      rw [this, List.append_nil]
      refine ⟨T, PL w b f wr gv x5 x6, ?_, rfl, P.gr, P.fnd⟩
      simp (maxDischargeDepth := 12) [ewr]
    | cons h r =>
      obtain ⟨h1, h2⟩ := working_head hwk
      cases e2 : g.getD h [] with
      | nil => rw [e2] at h2; simp at h2
      | cons t gt =>
        obtain ⟨T1, e, l1, P1⟩ := plain_step (gv := gv) (x5 := x5) (x6 := x6) hw P ewr hwk e2 (by omega) (by omega)
        have hl : h < g.length := by rw [P.ok.1]; exact h1
        have e3 : g.getD h [] = g[h] := by simp [hl]
        have ht : TaskOk R t := P.ok.2 _ (List.getElem_mem hl) t (by rw [← e3, e2]; simp)
        have ra := rest_after hw.wf ht P.ok.1 h1 e2
        obtain ⟨n, rfl⟩ : ∃ k, n = k + 1 := ⟨n - 1, by omega⟩
        have P2 : Run S (sp T1 (.lst ((working m (after m R g h t)).map fun (i : Nat) => Val.int i))) b f m R bs (after m R g h t) (fd ++ [(h, t)]) := by
          obtain ⟨a1, a2, a3, a4, a5, a6, a7, a8, a9⟩ := P1
          refine ⟨a1.trans (Grow.sp _ _), ⟨?_, a2.len, a2.nd, a2.nb, fun i k hk => ?_⟩, a3, ?_, a5, a6, a7, a8, a9⟩
          · rw [sg_sp_lt (sg_lt a2.at_)]; exact a2.at_
          · rw [sg_sp_lt (sg_lt (a2.each i k hk))]; exact a2.each i k hk
          · rw [sg_sp_lt (sg_lt a4)]; exact a4
        obtain ⟨T', L', e4, e5, e6, e7⟩ := plain_loop hw n N _ (sl T) (after m R g h t) (fd ++ [(h, t)]) (some (.int h)) (some (rTask t)) P2 (sg_sp_new' l1.symm) (by omega) (by omega) (by omega) (by rw [List.length_append]; simp; omega)
        refine ⟨T', L', ?_, e5, e6, ?_⟩
        · have ewr' : sg T wr = some (.lst (Val.int h :: r.map fun (i : Nat) => Val.int i)) := by rw [ewr, hwk]; rfl
          have hpos : (0 : Int) < (r.length : Int) + 1 := by omega
          simp (maxDischargeDepth := 12) [ewr', hpos, e]
          exact e4
        · rw [e7]
          rw [runL_step hwk e2, List.append_assoc]
          rfl
theorem sums_loop {S T : Store} {w m : Nat} {R : List Rule} {L : Loc} (hw : IsW T w m R) (l : List Task) (h : ∀ t, t ∈ l → TaskOk R t) (hl : l.length < 1000) (hL0 : L[0]? = some (some (.ref w))) (h6 : 6 < L.length) :
    lcLoop (fun _ => True) L (gN 6) tYes (mA KW.m_many_of (aCons (mV 0) (aCons (mV 6) aNil))) (l.map rTask) [] T = .ok (rInts (l.map (total m R))) T := by
  rw [lc_map' rTask (fun t => .int (total m R t : Nat)) l rfl trivial (by unfold LIM; omega) ?_]
  · simp [rInts]
  · intro t ht
    have e := many_of_eq hw (h t ht)
    have g0 : (L.set 6 (some (rTask t)))[0]? = some (some (.ref w)) := by rw [List.getElem?_set_ne (by omega)]; exact hL0
    have g6 : (L.set 6 (some (rTask t)))[6]? = some (some (rTask t)) := List.getElem?_set_self h6
    simp (maxDischargeDepth := 12) [getL_some g0, getL_some g6, e]
theorem fSum_rInts {S : Store} {a : Nat} {c : List Nat} (h : sg S a = some (.lst (rInts c))) : fSumA [.ref a] S = .ok (.int (c.sum : Nat)) S := by
  rw [fSumA_ref, h]
  show intsR (intsO (rInts _)) _ = _
  rw [intsO_rInts, intsR_some, sum_cast]
theorem start_store {S : Store} {w m : Nat} {R : List Rule} {l : List Task} (W : WfR m R) (h : ∀ t, t ∈ l → TaskOk R t) (n v : Nat) (L : Loc) :
    ∃ T o, lcLoop (fun _ => True) L (gN v) tYes (mLst aNil) (rangeL 0 (m - 1)) [] (sp (sp S (.lst (l.map rTask))) (.lst [.ref (sl S)])) = .ok ((List.range (m - 1)).map fun j => Val.ref (sl S + 2 + j)) T ∧ sl T = sl S + 2 + (m - 1) ∧ sg T (sl S + 1) = some (.lst [.ref (sl S)]) ∧
      o = Ob.lst ((List.range (m - 1)).map fun j => Val.ref (sl S + 2 + j)) ∧
      Run S (sp (sp (sp T o) (.lst ((bagIx (sl S) m).map Val.ref))) (.lst [])) (sl S + m + 2) (sl S + m + 3) m R (bagIx (sl S) m) (l :: List.replicate (m - 1) []) [] := by
  have hm1 := W.m1
  have hm6 := W.m6
  obtain ⟨S2, hS2⟩ : ∃ S2, S2 = sp (sp S (.lst (l.map rTask))) (.lst [.ref (sl S)]) := ⟨_, rfl⟩
  have l2 : sl S2 = sl S + 2 := by rw [hS2, sl_sp, sl_sp]
  obtain ⟨T, e1, h1, h2, h3⟩ := fresh_lists (S := S2) (L := L) v (m - 1) (by omega)
  rw [l2] at e1 h1 h3
  rw [← hS2]
  refine ⟨T, _, e1, h1, ?_, rfl, bags_made hm1 (by rw [← hS2]; exact h2) h1 h3 _ h⟩
  rw [h2.2 _ (by omega), hS2]
  exact sg_sp_new' (by simp)
theorem plain_run_eq {S : Store} {w m : Nat} {R : List Rule} {l : List Task} (hw : IsW S w m R) (h : ∀ t, t ∈ l → TaskOk R t) (hs : sumT m R l ≤ 20000) (hl20 : l.length ≤ 20) :
    m_plain_run [.ref w, rTasks l] S = .ok (.ref (sl S)) (sp S (.lst ((runL m R 20000 (l :: List.replicate (m - 1) [])).map rDone))) := by
  have W := hw.wf
  have hm1 := W.m1
  have hm6 := W.m6
  have ec := check_given_ok hw h hl20
  have ea := hw.at_
  have wS := sg_lt ea
  obtain ⟨T, o, e1, h1, hx, ho, P⟩ := start_store (S := S) (w := w) W h 0 5 [some (.ref w), some (.tup (l.map rTask)), none, none, none, none, none, none, none]
  obtain ⟨T2, hT2⟩ : ∃ T2, T2 = sp (sp T o) (.lst ((bagIx (sl S) m).map Val.ref)) := ⟨_, rfl⟩
  rw [← hT2] at P
  have l2 : sl T2 = sl S + m + 3 := by rw [hT2, sl_sp, sl_sp, h1]; omega
  have wT2 : sg T2 w = some (worksO m R) := by
    have := P.gr.2 w wS
    rw [sg_sp_lt (by omega)] at this
    rw [this]; exact ea
  have es := sums_loop (S := S) (L := [some (.ref w), some (.tup (l.map rTask)), some (.ref (sl S + m + 2)), none, none, none, none, none, none]) ⟨wT2, W⟩ l h (by omega) rfl (by simp)
  have ew := work_loop (x0 := some (.ref w)) (x1 := some (.tup (l.map rTask))) (x3 := some (.ref (sl S + m + 3))) (x4 := none) (x5 := none) (x6 := none) (x7 := none) (x8 := none) P.bags P.ok.1 hm6
  obtain ⟨T3, hT3⟩ : ∃ T3, T3 = sp T2 (.lst []) := ⟨_, rfl⟩
  rw [← hT3] at P ew
  have l3 : sl T3 = sl S + m + 4 := by rw [hT3, sl_sp, l2]
  obtain ⟨ow, how⟩ : ∃ ow, ow = Ob.lst ((working m (l :: List.replicate (m - 1) [])).map fun (i : Nat) => Val.int i) := ⟨_, rfl⟩
  have P4 : Run S (sp T3 ow) (sl S + m + 2) (sl S + m + 3) m R (bagIx (sl S) m) (l :: List.replicate (m - 1) []) [] := by
    obtain ⟨a1, a2, a3, a4, a5, a6, a7, a8, a9⟩ := P
    refine ⟨a1.trans (Grow.sp _ _), ⟨?_, a2.len, a2.nd, a2.nb, fun i k hk => ?_⟩, a3, ?_, a5, a6, a7, a8, a9⟩
    · rw [sg_sp_lt (sg_lt a2.at_)]; exact a2.at_
    · rw [sg_sp_lt (sg_lt (a2.each i k hk))]; exact a2.each i k hk
    · rw [sg_sp_lt (sg_lt a4)]; exact a4
  obtain ⟨T', L', e5, e6, e7, e8⟩ := plain_loop (gv := .tup (l.map rTask)) hw 20000 MANY (sp T3 ow) (sl T3) (l :: List.replicate (m - 1) []) [] none none P4 (by rw [sg_sp_new, how]) (by rw [rest_start]; exact hs) (by omega) (by unfold MANY; decide) (by simp)
  rw [List.nil_append] at e8
  rw [l3] at e5
  have g1 := gcOk_grow e7
  have g2 := cut_grow e7
  have er : rngOf1 [.int ((m : Int) - 1)] (sp (sp S (.lst (l.map rTask))) (.lst [.ref (sl S)])) = .ok ⟨rangeL 0 (m - 1), fun _ => True⟩ (sp (sp S (.lst (l.map rTask))) (.lst [.ref (sl S)])) := rng_nat (m - 1) (by omega) (by omega)
  have eT : sl T = sl S + m + 1 := by omega
  have e0 : sg (sp T o) (sl S + 1) = some (.lst [.ref (sl S)]) := by rw [sg_sp_lt (by omega)]; exact hx
  have eo : sg (sp T o) (sl T) = some o := sg_sp_new
  have hT2' : sp (sp T o) (.lst (Val.ref (sl S) :: (List.range (m - 1)).map (fun j => Val.ref (sl S + 2 + j)))) = T2 := by
    rw [hT2]
    unfold bagIx
    rw [List.map_cons, List.map_map]
    rfl
  have hlz : l.length ≤ 16777216 := by omega
  have hmz : 1 + (m - 1) ≤ 16777216 := by omega
  have hmz2 : m < 1000000 := by omega
  have hs' : ¬ (20000 : Int) < ((l.map (total m R)).sum : Nat) := by unfold sumT at hs; omega
  have hfS : sg T2 (sl T2) = none := by
    cases q : sg T2 (sl T2) with
    | none => rfl
    | some u => have := sg_lt q; omega
  have eP : ∀ (S' : Store), S' = T2 → fSumA [.ref (sl T2)] (sp S' (.lst (rInts (l.map (total m R))))) = .ok (.int ((l.map (total m R)).sum : Nat)) (sp S' (.lst (rInts (l.map (total m R))))) := fun S' q => fSum_rInts (by rw [q]; exact sg_sp_new)
  have eadd : addR (some (.lst [.ref (sl S)])) (some o) (sp T o) = .ok (.ref (sl S + m + 2)) T2 := by
    have hb : (Ob.lst ((List.range (m - 1)).map fun j => Val.ref (sl S + 2 + j))) = o := ho.symm
    have hz : ((List.range (m - 1)).map fun j => Val.ref (sl S + 2 + j)).length = m - 1 := by simp
    rw [← hT2', ← hb]
    simp (maxDischargeDepth := 12) [hmz, newL]
    rw [eT]
  have wT3 : sg T3 w = some (worksO m R) := P.gr.sg ea
  have g3 : below (sl S) (.ref (sl S + m + 3)) = false := by simp
  have g4 : obBelow (sl S) (.lst ((runL m R 20000 (l :: List.replicate (m - 1) [])).map rDone)) = true := by
    rw [obBelow_lst]
    exact belows_map _ _ fun x _ => by simp [rDone, rTask]
  have cT : ∀ o', cut (sl T2) (sp T2 o') = T2 := fun o' => by rw [cut_sp (Nat.le_refl _), cut_self]
  unfold m_plain_run
  unfold rTasks at ec
  simp (maxDischargeDepth := 12) [startL, rTasks, ec, ea, worksO, er, e1, ← ho, e0, eT, hlz, hmz, hmz2, eo, eadd, wT2, es, intsO_rInts, sum_cast, hs', ← hT3, l2, l3, ew, ← how, e5, -List.map_map, wT3, getL_some e6, g1, g2, g3, g4, e8]
theorem done_low (n : Nat) (l : List (Nat × Task)) : obBelow n (.lst (l.map rDone)) = true := by
  rw [obBelow_lst]
  exact belows_map _ _ fun x _ => by simp [rDone, rTask]
theorem plain_run_too {S : Store} {w m : Nat} {R : List Rule} {l : List Task} (hw : IsW S w m R) (h : ∀ t, t ∈ l → TaskOk R t) (hs : 20000 < sumT m R l) (hl20 : l.length ≤ 20) :
    m_plain_run [.ref w, rTasks l] S = .exn ⟨"TooMany", [("most", .int 20000)]⟩ S := by
  have W := hw.wf
  have hm1 := W.m1
  have hm6 := W.m6
  have ec := check_given_ok hw h hl20
  have ea := hw.at_
  have wS := sg_lt ea
  obtain ⟨T, o, e1, h1, hx, ho, P⟩ := start_store (S := S) (w := w) W h 0 5 [some (.ref w), some (.tup (l.map rTask)), none, none, none, none, none, none, none]
  obtain ⟨T2, hT2⟩ : ∃ T2, T2 = sp (sp T o) (.lst ((bagIx (sl S) m).map Val.ref)) := ⟨_, rfl⟩
  rw [← hT2] at P
  have l2 : sl T2 = sl S + m + 3 := by rw [hT2, sl_sp, sl_sp, h1]; omega
  have G2 : Grow S T2 := ⟨by omega, fun i hi => by
    have := P.gr.2 i hi
    rw [sg_sp_lt (by omega)] at this
    exact this⟩
  have wT2 : sg T2 w = some (worksO m R) := G2.sg ea
  have es := sums_loop (S := S) (L := [some (.ref w), some (.tup (l.map rTask)), some (.ref (sl S + m + 2)), none, none, none, none, none, none]) ⟨wT2, W⟩ l h (by omega) rfl (by simp)
  have er : rngOf1 [.int ((m : Int) - 1)] (sp (sp S (.lst (l.map rTask))) (.lst [.ref (sl S)])) = .ok ⟨rangeL 0 (m - 1), fun _ => True⟩ (sp (sp S (.lst (l.map rTask))) (.lst [.ref (sl S)])) := rng_nat (m - 1) (by omega) (by omega)
  have eT : sl T = sl S + m + 1 := by omega
  have e0 : sg (sp T o) (sl S + 1) = some (.lst [.ref (sl S)]) := by rw [sg_sp_lt (by omega)]; exact hx
  have eo : sg (sp T o) (sl T) = some o := sg_sp_new
  have hT2' : sp (sp T o) (.lst (Val.ref (sl S) :: (List.range (m - 1)).map (fun j => Val.ref (sl S + 2 + j)))) = T2 := by
    rw [hT2]
    unfold bagIx
    rw [List.map_cons, List.map_map]
    rfl
  have hlz : l.length ≤ 16777216 := by omega
  have hmz : 1 + (m - 1) ≤ 16777216 := by omega
  have hs' : (20000 : Int) < ((l.map (total m R)).sum : Nat) := by unfold sumT at hs; omega
  have eadd : addR (some (.lst [.ref (sl S)])) (some o) (sp T o) = .ok (.ref (sl S + m + 2)) T2 := by
    have hb : (Ob.lst ((List.range (m - 1)).map fun j => Val.ref (sl S + 2 + j))) = o := ho.symm
    have hz : ((List.range (m - 1)).map fun j => Val.ref (sl S + 2 + j)).length = m - 1 := by simp
    rw [← hT2', ← hb]
    simp (maxDischargeDepth := 12) [hmz, newL]
    rw [eT]
  have g1 := gcOk_grow G2
  have g2 := cut_grow G2
  unfold m_plain_run
  unfold rTasks at ec
  simp (maxDischargeDepth := 12) [startL, rTasks, ec, ea, worksO, er, e1, ← ho, e0, eT, hlz, hmz, eo, eadd, wT2, es, intsO_rInts, sum_cast, hs', l2, -List.map_map, g1, g2]
end KP

/-! KS5: the first standing. -/
namespace KS
open Mp KQ KW KA KP
open PySem (Str)
variable {S : Store} {w m : Nat} {R : List Rule}
theorem first_ok {l : List Task} (hw : IsW S w m R) (h : ∀ t, t ∈ l → TaskOk R t) (hl : l.length ≤ 20) : m_first_standing [.ref w, rTasks l] S = .ok (rStand (l :: List.replicate (m - 1) []) []) S := by
  have e := check_given_ok hw h hl
  have hm1 := hw.wf.m1
  have hm6 := hw.wf.m6
  have h1 : sg S w = some (.ins "Works" [("many", .int m), ("rules", rRules R)]) := hw.at_
  have b1 : (-1000 : Int) ≤ (m : Int) - 1 := by omega
  have b2 : (m : Int) - 1 ≤ 1000 := by omega
  have b3 : ((m : Int) - 1).toNat = m - 1 := by omega
  have b4 : 1 + (m - 1) ≤ 16777216 := by omega
  have lo := stand_low (sl S) (l :: List.replicate (m - 1) []) []
  have er : Val.tup [.tup (rTasks l :: List.replicate (m - 1) (.tup [])), .tup []] = rStand (l :: List.replicate (m - 1) []) [] := by
    unfold rStand rBags rWays
    rw [List.map_cons, List.map_replicate]
    rfl
  rw [← er] at lo ⊢
  simp at lo
  have eb : m_begun [.ref w, rTasks l] S = .ok (.tup [.tup (rTasks l :: List.replicate (m - 1) (.tup [])), .tup []]) S := by
    unfold m_begun
    simp (maxDischargeDepth := 12) [startL, h1, b1, b2, b3, b4, lo, rep_flat]
  unfold m_first_standing
  simp (maxDischargeDepth := 12) [startL, e, eb, lo]
end KS

/-! K04B: the model of a standing, what can come next. -/
namespace K04
open Mp KQ KW KA KP KS
open PySem (Str)
def wk (y : Way) : List Key := [.inl ((y.1.1 : Nat) : Int), .inl ((y.1.2 : Nat) : Int)]
theorem wk_inj {x y : Way} (h : wk x = wk y) : x.1 = y.1 := by
  unfold wk at h
  simp at h
  exact Prod.ext (by omega) (by omega)
theorem valL_mem {κ α : Type} [DecidableEq κ] {k : κ} {v : α} : ∀ {l : List (κ × α)}, (l.map (·.1)).Nodup → (k, v) ∈ l → valL l k = some v
  | [], _, h => by simp at h
  | p :: l, hn, h => by
    rw [List.map_cons, List.nodup_cons] at hn
    rcases List.mem_cons.mp h with rfl | h
    · simp [valL]
    · have : p.1 ≠ k := fun z => hn.1 (z ▸ List.mem_map.mpr ⟨_, h, rfl⟩)
      simp only [valL, if_neg this]
      exact valL_mem hn.2 h
theorem putL_new {κ α : Type} [DecidableEq κ] {k : κ} {v : α} {l : List (κ × α)} (h : ¬ k ∈ l.map (·.1)) : putL l k v = l ++ [(k, v)] := by
  unfold putL
  have : (l.any fun p => decide (p.1 = k)) = false := by
    rw [List.any_eq_false]
    intro p hp
    simp only [decide_eq_true_eq]
    exact fun z => h (z ▸ List.mem_map.mpr ⟨p, hp, rfl⟩)
  rw [this]
  rfl
theorem wk_nodup {w : List Way} (h : w.Pairwise LtW) : (w.map wk).Nodup := by
  unfold List.Nodup
  rw [List.pairwise_map]
  refine h.imp fun {x y} hxy e => ?_
  have := wk_inj e
  unfold LtW endN ltK at hxy
  rw [this] at hxy
  omega
/-- each tuple laid anew as a list -/
theorem copies {S : Store} {L : Loc} (v : Nat) (hv : v < L.length) (cs : List (List Val)) (hk : cs.length < 1000) (hc : ∀ c, c ∈ cs → c.length < 1000) :
    ∃ T, lcLoop (fun _ => True) L (gN v) tYes (mB fList (aCons (mV v) aNil)) (cs.map Val.tup) [] S = .ok ((List.range cs.length).map fun j => Val.ref (sl S + j)) T ∧ sl T = sl S + cs.length ∧ Grow S T ∧ ∀ j c, cs[j]? = some c → sg T (sl S + j) = some (.lst c) := by
  obtain ⟨ws, T, e, rfl, h1, h2, h3⟩ := lcLoop_inv (keep := fun _ => True) (L := L) (g := gN v) (c := tYes) (e := mB fList (aCons (mV v) aNil)) (fun i acc T => acc = ((List.range i).map fun j => Val.ref (sl S + j)) ∧ sl T = sl S + i ∧ Grow S T ∧ ∀ j c, j < i → cs[j]? = some c → sg T (sl S + j) = some (.lst c)) (xs := cs.map Val.tup) (S := S)
    ⟨rfl, rfl, Grow.refl S, fun j c hj => by omega⟩ (fun _ _ _ _ _ => trivial) (fun i x acc T hx q => by
      obtain ⟨rfl, h1, h2, h3⟩ := q
      rw [List.getElem?_map] at hx
      obtain ⟨c, hc', rfl⟩ := Option.map_eq_some_iff.mp hx
      have hi := (List.getElem?_eq_some_iff.mp hc').1
      have hz : c.length ≤ 16777216 := by have := hc c (List.mem_of_getElem? hc'); omega
      refine ⟨L.set v (some (.tup c)), T, T, rfl, .inl ⟨rfl, .ref (sl T), sp T (.lst c), ?_, by rw [List.length_map, List.length_range]; unfold LIM; omega, ?_, by rw [sl_sp]; omega, h2.trans (Grow.sp T _), fun j c' hj hc2 => ?_⟩⟩
      · simp (maxDischargeDepth := 12) [hv, hz]
      · rw [List.range_succ, List.map_append, h1]; rfl
      · by_cases q : j = i
        · subst q
          rw [hc'] at hc2
          cases hc2
          exact sg_sp_new' (by omega)
        · rw [sg_sp_lt (by omega)]; exact h3 j c' (by omega) hc2)
  rw [List.length_map] at h1 h3
  rw [List.length_map] at e
  exact ⟨T, e, h1, h2, fun j c hc' => h3 j c (List.getElem?_eq_some_iff.mp hc').1 hc'⟩
/-- the model of a standing, laid in the store -/
structure Mdl (T : Store) (x d : Nat) (b : List (List Task)) (w : List Way) : Prop where
  bag : ∃ bs : List Nat, sg T x = some (.lst (bs.map Val.ref)) ∧ bs.length = b.length ∧ ∀ j, j < b.length → ∃ k, bs[j]? = some k ∧ sg T k = some (.lst ((b.getD j []).map rTask))
  dic : ∃ kvs, sg T d = some (.dT kvs) ∧ kvs.map (·.1) = w.map wk ∧ ∀ y, y ∈ w → ∃ k, (wk y, Val.ref k) ∈ kvs ∧ sg T k = some (.lst (y.2.map rTask))
theorem model_loop {S : Store} {d : Nat} {x0 x1 x6 : Option Val} {w : List Way} (hp : w.Pairwise LtW) (hz : w.length < 1000) (hs : ∀ y, y ∈ w → y.2.length < 1000) (hd : d + 1 = sl S) (h0 : sg S d = some (.dT [])) :
    ∃ T, forLoop (fun _ => True) (gTup (gsCons (gN 3) (gsCons (gN 4) (gsCons (gN 5) gsNil)))) m_law_model_b1 (w.map rWay) [x0, x1, some (.ref d), none, none, none, x6] S = .nx [x0, x1, some (.ref d), none, none, none, x6] T ∧
      sl S ≤ sl T ∧ (∀ i, i < d → sg T i = sg S i) ∧ ∃ kvs, sg T d = some (.dT kvs) ∧ kvs.map (·.1) = w.map wk ∧ ∀ y, y ∈ w → ∃ k, (wk y, Val.ref k) ∈ kvs ∧ sg T k = some (.lst (y.2.map rTask)) := by
  obtain ⟨L', T, e, rfl, h1, h2, kvs, h3, h4, h5⟩ := forLoop_nx (keep := fun _ => True) (g := gTup (gsCons (gN 3) (gsCons (gN 4) (gsCons (gN 5) gsNil)))) (b := m_law_model_b1)
    (fun i L T => L = [x0, x1, some (.ref d), none, none, none, x6] ∧ sl S ≤ sl T ∧ (∀ i, i < d → sg T i = sg S i) ∧ ∃ kvs, sg T d = some (.dT kvs) ∧ kvs.map (·.1) = (w.take i).map wk ∧ ∀ y, y ∈ w.take i → ∃ k, d < k ∧ (wk y, Val.ref k) ∈ kvs ∧ sg T k = some (.lst (y.2.map rTask)))
    (xs := w.map rWay) (L := [x0, x1, some (.ref d), none, none, none, x6]) (S := S) ⟨rfl, Nat.le_refl _, fun _ _ => rfl, [], h0, by simp, fun y hy => by simp at hy⟩ (fun _ _ _ _ _ => trivial) (fun i x L T hx q => by
      obtain ⟨rfl, h1, h2, kvs, h3, h4, h5⟩ := q
      rw [List.getElem?_map] at hx
      obtain ⟨y, hy, rfl⟩ := Option.map_eq_some_iff.mp hx
      have hi := (List.getElem?_eq_some_iff.mp hy).1
      have hyl := hs y (List.mem_of_getElem? hy)
      have hyz : (y.2.map rTask).length ≤ 16777216 := by rw [List.length_map]; omega
      have ht : w.take (i + 1) = w.take i ++ [y] := by rw [List.take_add_one, hy]; rfl
      have hnew : ¬ wk y ∈ kvs.map (·.1) := by
        rw [h4]
        have nd := wk_nodup hp
        have e : (w.take (i + 1)).map wk = (w.take i).map wk ++ [wk y] := by rw [ht, List.map_append]; rfl
        have nd2 : ((w.take (i + 1)).map wk).Nodup := by
          rw [List.map_take]
          exact nd.sublist (List.take_sublist _ _)
        rw [e, List.nodup_append] at nd2
        exact fun z => nd2.2.2 _ z _ (by simp) rfl
      have hkz : kvs.length < 16777216 := by
        have := congrArg List.length h4
        simp at this
        omega
      have h3' : sg (sp T (.lst (y.2.map rTask))) d = some (.dT kvs) := by rw [sg_sp_lt (sg_lt h3)]; exact h3
      refine ⟨[x0, x1, some (.ref d), some (.int y.1.1), some (.int y.1.2), some (rTasks y.2), x6], T, [x0, x1, some (.ref d), none, none, none, x6], ss (sp T (.lst (y.2.map rTask))) d (.dT (putL kvs (wk y) (.ref (sl T)))), ?_, .inl ?_, rfl, by rw [sl_ss, sl_sp]; omega, fun j hj => ?_, _, sg_ss_same (by rw [h3']; rfl), ?_, fun z hz => ?_⟩
      · unfold rWay
        simp (maxDischargeDepth := 12)
      · unfold m_law_model_b1 rTasks
        simp (maxDischargeDepth := 12) [hyz, h3', hkz, LIM]
        rfl
      · rw [sg_ss_ne (by omega), sg_sp_lt (by have := sg_lt h3; omega)]
        exact h2 j hj
      · rw [putL_new hnew, List.map_append, h4, ht, List.map_append]
        rfl
      · rw [putL_new hnew]
        rw [ht] at hz
        rcases List.mem_append.mp hz with hz | hz
        · obtain ⟨k, k1, k2, k3⟩ := h5 z hz
          exact ⟨k, k1, List.mem_append_left _ k2, by rw [sg_ss_ne (by omega), sg_sp_lt (sg_lt k3)]; exact k3⟩
        · simp at hz
          subst hz
          exact ⟨sl T, sg_lt h3, by simp, by rw [sg_ss_ne (by have := sg_lt h3; omega)]; exact sg_sp_new⟩)
  rw [List.length_map, List.take_length] at h4 h5
  exact ⟨T, e, h1, h2, kvs, h3, h4, fun y hy => let ⟨k, _, k2, k3⟩ := h5 y hy; ⟨k, k2, k3⟩⟩
theorem law_model_eq {S : Store} {b : List (List Task)} {w : List Way} (hp : w.Pairwise LtW) (hz : w.length < 1000) (hs : ∀ y, y ∈ w → y.2.length < 1000) (hb : b.length ≤ 6) (hg : ∀ g, g ∈ b → g.length < 1000) :
    ∃ x d T, m_law_model [rStand b w] S = .ok (.tup [.ref x, .ref d]) T ∧ Grow S T ∧ Mdl T x d b w := by
  have e0 : rBags b = .tup ((b.map fun g => g.map rTask).map Val.tup) := by unfold rBags rTasks; rw [List.map_map]; rfl
  obtain ⟨T1, e1, l1, g1, h1⟩ := copies (S := S) (L := [some (rStand b w), none, none, none, none, none, none]) 6 (by simp) (b.map fun g => g.map rTask) (by rw [List.length_map]; omega) (fun c hc => by
    obtain ⟨g, hg', rfl⟩ := List.mem_map.mp hc
    rw [List.length_map]; exact hg g hg')
  rw [List.length_map] at l1 e1
  obtain ⟨T2, hT2⟩ : ∃ T2, T2 = sp (sp T1 (.lst ((List.range b.length).map fun j => Val.ref (sl S + j)))) (.dT []) := ⟨_, rfl⟩
  have l2 : sl T2 = sl T1 + 2 := by rw [hT2]; simp
  have hx : sg T2 (sl T1) = some (.lst ((List.range b.length).map fun j => Val.ref (sl S + j))) := by rw [hT2, sg_sp_lt (by simp)]; exact sg_sp_new
  have hd : sg T2 (sl T1 + 1) = some (.dT []) := by rw [hT2]; exact sg_sp_new' (by simp)
  have hlow : ∀ i, i < sl T1 → sg T2 i = sg T1 i := fun i hi => by rw [hT2, sg_sp_lt (by rw [sl_sp]; omega), sg_sp_lt hi]
  obtain ⟨T, e3, l3, h3, kvs, k1, k2, k3⟩ := model_loop (S := T2) (d := sl T1 + 1) (x0 := some (rStand b w)) (x1 := some (.ref (sl T1))) (x6 := none) hp hz hs (by omega) hd
  refine ⟨sl T1, sl T1 + 1, T, ?_, ⟨by have := g1.1; omega, fun i hi => by rw [h3 i (by have := g1.1; omega), hlow i (by have := g1.1; omega), g1.2 i hi]⟩, ⟨(List.range b.length).map fun j => sl S + j, ?_, by simp, fun j hj => ?_⟩, kvs, k1, k2, k3⟩
  · have hbz : b.length < 16777216 := by omega
    have hT2' : sp (sp T1 (.lst ((List.range b.length).map fun j => Val.ref (sl S + j)))) (.dT []) = T2 := hT2.symm
    unfold m_law_model
    unfold rStand at e1 e3 ⊢
    unfold rWays at e1 e3 ⊢
    rw [e0] at e1 e3 ⊢
    simp (maxDischargeDepth := 12) [startL, e1, hbz, hT2', e3, -List.map_map, LIM]
  · rw [h3 _ (by omega), hx, List.map_map]
    rfl
  · refine ⟨sl S + j, by rw [List.getElem?_map, List.getElem?_range hj]; rfl, ?_⟩
    rw [h3 _ (by omega), hlow _ (by omega)]
    refine h1 j _ ?_
    rw [List.getElem?_map, List.getElem?_eq_getElem hj, List.getD_eq_getElem?_getD, List.getElem?_eq_getElem hj]
    rfl
end K04

/-! K04C: what can come next. -/
namespace K04
open Mp KQ KW KA KP KS
open PySem (Str)
def cDo (h : Nat) : Val := .tup [.str "do", .int h]
def cHear (y : Way) : Val := .tup [.str "hear", .int y.1.2, .int y.1.1]
def choicesV (m : Nat) (b : List (List Task)) (w : List Way) : List Val := (working m b).map cDo ++ w.map cHear
def kE (y : Way) : Val := .tup [.int y.1.1, .int y.1.2]
theorem keyW_kE (y : Way) : keyW (kE y) = some (endN y) := by
  have : ownC (.int y.1.1 :: .int y.1.2 :: []) = false := ownC_pair _ _
  unfold kE keyW
  simp only []
  rw [if_pos this]
  rfl
theorem SW_keys {w : List Way} (h : w.Pairwise LtW) : SW (w.map kE) := by
  refine ⟨fun y hy => ?_, ?_⟩
  · obtain ⟨x, _, rfl⟩ := List.mem_map.mp hy
    rw [keyW_kE]; rfl
  · rw [List.pairwise_map]
    exact h.imp fun {x y} hxy => ⟨_, _, keyW_kE x, keyW_kE y, hxy⟩
theorem Mdl.grow {T T' : Store} {x d : Nat} {b : List (List Task)} {w : List Way} (M : Mdl T x d b w) (g : Grow T T') : Mdl T' x d b w := by
  obtain ⟨⟨bs, h1, h2, h3⟩, kvs, k1, k2, k3⟩ := M
  refine ⟨⟨bs, g.sg h1, h2, fun j hj => ?_⟩, kvs, g.sg k1, k2, fun y hy => ?_⟩
  · obtain ⟨k, q1, q2⟩ := h3 j hj
    exact ⟨k, q1, g.sg q2⟩
  · obtain ⟨k, q1, q2⟩ := k3 y hy
    exact ⟨k, q1, g.sg q2⟩
theorem dos_loop {T : Store} {x d m : Nat} {b : List (List Task)} {w : List Way} {x0 x2 x3 x4 x5 : Option Val} (M : Mdl T x d b w) (hb : b.length = m) (hm : m ≤ 6) :
    lcLoop (fun _ => True) [x0, some (.ref x), x2, x3, x4, x5] (gN 4) (tV (m2 pGt (mB fLen (aCons (m2 pIx (mV 1) (mV 4)) aNil)) (mC (.int 0)))) (mTup (aCons (mC (.str "do")) (aCons (mV 4) aNil))) (rangeL 0 m) [] T = .ok ((working m b).map cDo) T := by
  obtain ⟨bs, h1, h2, h3⟩ := M.bag
  rw [lc_if' (fun (i : Nat) => Val.int i) (fun h => decide (0 < (b.getD h []).length)) cDo (List.range m) (rangeL0 m) trivial (by rw [List.length_range]; unfold LIM; omega) ?_]
  · rfl
  · intro h hh
    have hh' : h < m := by simpa using hh
    obtain ⟨k, e1, e2⟩ := h3 h (by omega)
    have e4 : (bs.map Val.ref)[h]? = some (.ref k) := by rw [List.getElem?_map, e1]; rfl
    simp (maxDischargeDepth := 12) [h1, e1, e2, cDo]
    cases decide (0 < (b[h]?.getD []).length) <;> rfl
theorem hears_loop {T : Store} {x d : Nat} {b : List (List Task)} {w : List Way} {x0 x1 x3 x4 x5 : Option Val} {keep : Store → Prop} (hk : keep T) (M : Mdl T x d b w) (hp : w.Pairwise LtW) (hz : w.length < 1000) (hne : ∀ y, y ∈ w → y.2 ≠ []) :
    lcLoop keep [x0, x1, some (.ref d), x3, x4, x5] (gN 5) (tV (m2 pGt (mB fLen (aCons (m2 pIx (mV 2) (mV 5)) aNil)) (mC (.int 0)))) (mTup (aCons (mC (.str "hear")) (aCons (m2 pIx (mV 5) (mC (.int 1))) (aCons (m2 pIx (mV 5) (mC (.int 0))) aNil)))) (w.map kE) [] T = .ok (w.map cHear) T := by
  obtain ⟨kvs, k1, k2, k3⟩ := M.dic
  refine lc_map' kE cHear w rfl hk (by unfold LIM; omega) fun y hy => ?_
  obtain ⟨k, q1, q2⟩ := k3 y hy
  have nd : (kvs.map (·.1)).Nodup := by rw [k2]; exact wk_nodup hp
  have e1 := valL_mem nd q1
  unfold wk at e1
  have e2 : 0 < y.2.length := List.length_pos_iff.mpr (hne y hy)
  simp (maxDischargeDepth := 12) [kE, cHear, k1, e1, q2, e2]
theorem law_choices_eq {T : Store} {x d m : Nat} {b : List (List Task)} {w : List Way} (M : Mdl T x d b w) (hp : w.Pairwise LtW) (hz : w.length < 1000) (hne : ∀ y, y ∈ w → y.2 ≠ []) (hb : b.length = m) (hm : m ≤ 6) :
    m_law_choices [.tup [.ref x, .ref d]] T = .ok (.ref (sl T)) (sp T (.lst (choicesV m b w))) := by
  obtain ⟨bs, h1, h2, h3⟩ := M.bag
  obtain ⟨kvs, k1, k2, k3⟩ := M.dic
  have e1 := dos_loop (x0 := some (.tup [.ref x, .ref d])) (x2 := some (.ref d)) (x3 := none) (x4 := none) (x5 := none) M hb hm
  obtain ⟨T1, hT1⟩ : ∃ T1, T1 = sp T (.lst ((working m b).map cDo)) := ⟨_, rfl⟩
  obtain ⟨T2, hT2⟩ : ∃ T2, T2 = sp T1 (.lst (w.map kE)) := ⟨_, rfl⟩
  obtain ⟨T3, hT3⟩ : ∃ T3, T3 = sp T2 (.lst (w.map kE)) := ⟨_, rfl⟩
  have g1 : Grow T T1 := by rw [hT1]; exact Grow.sp _ _
  have g2 : Grow T1 T2 := by rw [hT2]; exact Grow.sp _ _
  have g3 : Grow T2 T3 := by rw [hT3]; exact Grow.sp _ _
  have l1 : sl T1 = sl T + 1 := by rw [hT1, sl_sp]
  have l2 : sl T2 = sl T + 2 := by rw [hT2, sl_sp, l1]
  have l3 : sl T3 = sl T + 3 := by rw [hT3, sl_sp, l2]
  have a3 : sg T3 (sl T + 2) = some (.lst (w.map kE)) := by rw [hT3]; exact sg_sp_new' (by omega)
  have e3 := hears_loop (keep := fun S' => sg S' (sl T + 2) = some (.lst (w.map kE))) a3 (x0 := some (.tup [.ref x, .ref d])) (x1 := some (.ref x)) (x3 := some (.ref (sl T))) (x4 := none) (x5 := none) (M.grow (g1.trans (g2.trans g3))) hp hz hne
  have kk : (kvs.map fun p => Val.tup (p.1.map keyVal)) = w.map kE := by
    have : (kvs.map (·.1)).map (fun k : List Key => Val.tup (k.map keyVal)) = (w.map wk).map fun k : List Key => Val.tup (k.map keyVal) := by rw [k2]
    rw [List.map_map, List.map_map] at this
    exact this
  have d1 : sg T1 d = some (.dT kvs) := g1.sg k1
  have s1 : fSortW [.ref (sl T + 1)] T2 = .ok (.ref (sl T + 2)) T3 := by
    rw [fSortW_ref (ys := w.map kE) (by rw [hT2]; exact sg_sp_new' (by omega)) (List.Perm.refl _) (SW_keys hp), l2, hT3]
  have a3 : sg T3 (sl T + 2) = some (.lst (w.map kE)) := by rw [hT3]; exact sg_sp_new' (by omega)
  have a1 : sg T1 (sl T) = some (.lst ((working m b).map cDo)) := by rw [hT1]; exact sg_sp_new
  have a1' : sg T3 (sl T) = some (.lst ((working m b).map cDo)) := (g2.trans g3).sg a1
  have bz : b.length ≤ 1000 := by omega
  have lw : (working m b).length ≤ 6 := by
    unfold working
    have := List.length_filter_le (fun h => decide (0 < (b.getD h []).length)) (List.range m)
    rw [List.length_range] at this
    omega
  have er : ∀ S' : Store, rngOf1 [.int (b.length : Nat)] S' = .ok ⟨rangeL 0 m, fun _ => True⟩ S' := fun S' => by rw [hb]; exact rng_nat m (by omega) (by omega)
  have c3 : cut (sl T1) T3 = T1 := cut_grow (g2.trans g3)
  have c1 : cut (sl T) T1 = T := cut_grow g1
  have lowV : ∀ n, obBelow n (.lst ((working m b).map cDo ++ w.map cHear)) = true := fun n => by
    rw [obBelow_lst, belows_append, belows_map _ _ fun x _ => by simp [cDo], belows_map _ _ fun x _ => by simp [cHear]]
    rfl
  have hT1' : sp T (.lst ((working m b).map cDo)) = T1 := hT1.symm
  have hT2' : sp T1 (.lst (w.map kE)) = T2 := hT2.symm
  have lz : ((working m b).map cDo).length + (w.map cHear).length ≤ 16777216 := by rw [List.length_map, List.length_map]; omega
  have nl : ∀ (xs : List Val) (S : Store), newL xs S = .ok (.ref (sl S)) (sp S (.lst xs)) := fun _ _ => rfl
  have a4 : sg (sp T3 (.lst (w.map cHear))) (sl T) = some (.lst ((working m b).map cDo)) := by rw [sg_sp_lt (by omega)]; exact a1'
  have lz' : (working m b).length + w.length ≤ 16777216 := by omega
  obtain ⟨o5, ho5⟩ : ∃ o5, o5 = Ob.lst ((working m b).map cDo ++ w.map cHear) := ⟨_, rfl⟩
  have ea : addR (some (.lst ((working m b).map cDo))) (some (.lst (w.map cHear))) (sp T3 (.lst (w.map cHear))) = .ok (.ref (sl T + 4)) (sp (sp T3 (.lst (w.map cHear))) o5) := by
    simp (maxDischargeDepth := 12) [lz', LIM, nl, l3, ho5]
  have g5 : GcOk T1 (sp (sp T3 (.lst (w.map cHear))) o5) := gcOk_grow ((g2.trans g3).trans ((Grow.sp _ _).trans (Grow.sp _ _)))
  have g6 : GcOk T (sp T1 o5) := gcOk_grow (g1.trans (Grow.sp _ _))
  have c3' : cut (sl T + 1) T3 = T1 := by rw [← l1]; exact c3
  have v5 : sg (sp (sp T3 (.lst (w.map cHear))) o5) (sl T + 4) = some o5 := sg_sp_new' (by rw [sl_sp, l3])
  have v6 : sg (sp T1 o5) (sl T + 1) = some o5 := sg_sp_new' (by omega)
  have lowV' : ∀ n, obBelow n o5 = true := fun n => by rw [ho5]; exact lowV n
  have q5 : gcR T1 (.ok (.ref (sl T + 4)) (sp (sp T3 (.lst (w.map cHear))) o5)) = .ok (.ref (sl T + 1)) (sp T1 o5) := by
    simp (maxDischargeDepth := 12) [g5, l1, l3, v5, lowV', c3']
  have q6 : gcR T (.ok (.ref (sl T + 1)) (sp T1 o5)) = .ok (.ref (sl T)) (sp T o5) := by
    simp (maxDischargeDepth := 12) [g6, v6, lowV', l1, c1]
  rw [show choicesV m b w = (working m b).map cDo ++ w.map cHear from rfl, ← ho5]
  unfold m_law_choices
  simp (maxDischargeDepth := 12) [startL, h1, h2, bz, er, e1, hT1', d1, nl, kk, hT2', l1, l2, l3, s1, a3, e3, a4, ea, -List.map_map, -gcR_ok, q5, q6, LIM]
end K04

/-! K04D: a run's steps, told by weights. -/
namespace K04
open Mp KQ KW KA KP KS
open PySem (Str)
def lf (m : Nat) (R : List Rule) (b : List (List Task)) (w : List Way) : Nat := rest m R b + restW m R w
def cntB (b : List (List Task)) : Nat := restF (fun _ _ => 1) 0 b
def QB (b : List (List Task)) (w : List Way) : Bool := b.all (fun g => decide (g = [])) && decide (w = [])
section
variable {m : Nat} {R : List Rule} {b : List (List Task)} {w : List Way}
theorem sum_pos {g : List Task} (W : WfR m R) (hg : ∀ t, t ∈ g → TaskOk R t) : g.length ≤ (g.map (total m R)).sum := by
  induction g with
  | nil => simp
  | cons t g ih =>
    have := ih fun x hx => hg x (List.mem_cons_of_mem _ hx)
    have := total_pos (m := m) W (hg t (List.mem_cons_self ..))
    simp only [List.map_cons, List.sum_cons, List.length_cons]
    omega
theorem ones_sum : ∀ x : List Task, (x.map fun _ => 1).sum = x.length
  | [] => rfl
  | a :: x => by rw [List.map_cons, List.sum_cons, ones_sum x, List.length_cons]; omega
theorem bag_le (W : WfR m R) : ∀ {b : List (List Task)}, (∀ g, g ∈ b → ∀ t, t ∈ g → TaskOk R t) → (∀ g, g ∈ b → g.length ≤ rest m R b) ∧ ∀ k, restF (fun _ _ => 1) k b ≤ rest m R b
  | [], _ => ⟨fun g hg => by simp at hg, fun k => Nat.le_refl _⟩
  | x :: b, h => by
    obtain ⟨h1, h2⟩ := bag_le W fun g hg => h g (List.mem_cons_of_mem _ hg)
    have e : rest m R (x :: b) = (x.map (total m R)).sum + rest m R b := rfl
    have p := sum_pos W (h x (List.mem_cons_self ..))
    refine ⟨fun g hg => ?_, fun k => ?_⟩
    · rcases List.mem_cons.mp hg with rfl | hg
      · omega
      · have := h1 g hg; omega
    · have e2 : restF (fun _ _ => 1) k (x :: b) = (x.map fun _ => 1).sum + restF (fun _ _ => 1) (k + 1) b := rfl
      have e3 : (x.map fun _ => 1).sum = x.length := ones_sum x
      have := h2 (k + 1)
      omega
theorem ways_le (W : WfR m R) : ∀ {w : List Way}, (∀ y, y ∈ w → WayOk m R y) → w.length ≤ restW m R w ∧ ∀ y, y ∈ w → y.2.length ≤ restW m R w
  | [], _ => ⟨by simp, fun y hy => by simp at hy⟩
  | x :: w, h => by
    obtain ⟨h1, h2⟩ := ways_le W fun y hy => h y (List.mem_cons_of_mem _ hy)
    have e : restW m R (x :: w) = (x.2.map (total m R)).sum + restW m R w := rfl
    obtain ⟨_, _, hne, ht⟩ := h x (List.mem_cons_self ..)
    have p := sum_pos W ht
    have p2 : 0 < x.2.length := List.length_pos_iff.mpr hne
    refine ⟨by simp only [List.length_cons]; omega, fun y hy => ?_⟩
    rcases List.mem_cons.mp hy with rfl | hy
    · omega
    · have := h2 y hy; omega
theorem size_of (W : WfR m R) (K : StOk m R b w) {N : Nat} (h : lf m R b w ≤ N) : Size N b w := by
  have h1 := bag_le W K.bags
  have h2 := ways_le W K.ways
  unfold lf at h
  have := K.len
  have := W.m6
  refine ⟨by omega, fun g hg => by have := h1.1 g hg; omega, by have := h2.1; omega, fun y hy => by have := h2.2 y hy; omega⟩
theorem cnt_le (W : WfR m R) (K : StOk m R b w) : cntB b ≤ lf m R b w := by
  have := (bag_le W K.bags).2 0
  unfold lf cntB
  omega
theorem quiet_left (W : WfR m R) (K : StOk m R b w) (h : lf m R b w = 0) : QB b w = true := by
  have h1 := bag_le W K.bags
  have h2 := ways_le W K.ways
  unfold lf at h
  unfold QB
  rw [Bool.and_eq_true, List.all_eq_true]
  refine ⟨fun g hg => ?_, ?_⟩
  · have := h1.1 g hg
    simp only [decide_eq_true_eq]
    exact List.eq_nil_of_length_eq_zero (by omega)
  · simp only [decide_eq_true_eq]
    exact List.eq_nil_of_length_eq_zero (by have := h2.1; omega)
theorem quiet_choices (h : QB b w = true) : choicesV m b w = [] := by
  unfold QB at h
  rw [Bool.and_eq_true, List.all_eq_true] at h
  obtain ⟨h1, h2⟩ := h
  simp only [decide_eq_true_eq] at h1 h2
  subst h2
  have : working m b = [] := by
    unfold working
    rw [List.filter_eq_nil_iff]
    intro k hk
    simp only [decide_eq_true_eq]
    have : b.getD k [] = [] := by
      rw [List.getD_eq_getElem?_getD]
      by_cases q : k < b.length
      · rw [List.getElem?_eq_getElem q]
        exact h1 _ (List.getElem_mem q)
      · rw [List.getElem?_eq_none (by omega)]
        rfl
    rw [this]
    simp
  unfold choicesV
  rw [this]
  rfl
theorem choices_left (K : StOk m R b w) (h : choicesV m b w = []) : lf m R b w = 0 := by
  unfold choicesV at h
  obtain ⟨h1, h2⟩ := List.append_eq_nil_iff.mp h
  have e1 : working m b = [] := List.map_eq_nil_iff.mp h1
  have e2 : w = [] := List.map_eq_nil_iff.mp h2
  subst e2
  have := working_none (R := R) K.len e1
  unfold lf
  rw [this]
  rfl
theorem quiet_eq (W : WfR m R) (K : StOk m R b w) : QB b w = decide (lf m R b w = 0) ∧ decide ((choicesV m b w).length = 0) = decide (lf m R b w = 0) := by
  have a := quiet_left W K
  have bq := quiet_choices (m := m) (b := b) (w := w)
  have c := choices_left K
  by_cases h : lf m R b w = 0
  · have h1 := a h
    have h2 := bq h1
    rw [h1, h2, h]
    simp
  · have h1 : QB b w = false := by
      cases q : QB b w with
      | false => rfl
      | true => exact absurd (c (bq q)) h
    have h2 : ¬ (choicesV m b w).length = 0 := fun z => h (c (List.eq_nil_of_length_eq_zero z))
    rw [h1, decide_eq_false h, decide_eq_false h2]
    exact ⟨rfl, rfl⟩
theorem onW_mem_eq {y : Way} : ∀ {w : List Way}, w.Pairwise LtW → y ∈ w → onW w y.1 = y.2
  | [], _, h => by simp at h
  | x :: w, hp, h => by
    obtain ⟨p1, p2⟩ := List.pairwise_cons.mp hp
    rcases List.mem_cons.mp h with rfl | h
    · unfold onW
      rw [List.filter_cons_of_pos (by simp)]
      rfl
    · have ne : x.1 ≠ y.1 := fun z => by
        have := p1 y h
        unfold LtW endN ltK at this
        rw [z] at this
        omega
      have e2 : onW (x :: w) y.1 = onW w y.1 := by unfold onW; rw [List.filter_cons_of_neg (by simp [ne])]
      rw [e2]
      exact onW_mem_eq p2 h
/-- what can come, one by one -/
theorem choice_at (K : StOk m R b w) {i : Nat} {v : Val} (h : (choicesV m b w)[i]? = some v) :
    (∃ h t r, v = cDo h ∧ h < m ∧ b.getD h [] = t :: r) ∨ ∃ y t r, v = cHear y ∧ y.1.2 < m ∧ y.1.1 < m ∧ onW w (y.1.1, y.1.2) = t :: r := by
  have hm := List.mem_of_getElem? h
  unfold choicesV at hm
  rcases List.mem_append.mp hm with hm | hm
  · obtain ⟨k, hk, rfl⟩ := List.mem_map.mp hm
    unfold working at hk
    rw [List.mem_filter] at hk
    obtain ⟨h1, h2⟩ := hk
    simp only [decide_eq_true_eq] at h2
    left
    cases q : b.getD k [] with
    | nil => rw [q] at h2; simp at h2
    | cons t r => exact ⟨k, t, r, rfl, by simpa using h1, q⟩
  · obtain ⟨y, hy, rfl⟩ := List.mem_map.mp hm
    obtain ⟨w1, w2, hne, _⟩ := K.ways y hy
    right
    cases q : y.2 with
    | nil => exact absurd q hne
    | cons t r => exact ⟨y, t, r, rfl, w2, w1, by rw [← q]; exact onW_mem_eq K.asc hy⟩
/-! ### what holds at each turn -/
structure LInv (m : Nat) (R : List Rule) (b0 : List (List Task)) (i : Nat) (b : List (List Task)) (w : List Way) (c : List (List Task)) : Prop where
  ok : StOk m R b w
  cl : c.length = m
  wt : ∀ a G, Wt m R a G → restF a 0 c + restF G 0 b + restV G w = restF G 0 b0
  le : 2 * lf m R b w + i ≤ 2 * rest m R b0 + cntB b
theorem lf_eq : lf m R b w = restF (fun _ t => total m R t) 0 b + restV (fun _ t => total m R t) w := by
  rw [rest_restF]
  rfl
variable {b0 c : List (List Task)} {i : Nat}
theorem LInv.left (W : WfR m R) (I : LInv m R b0 i b w c) : lf m R b w ≤ rest m R b0 := by
  have := I.wt _ _ (total_wt W)
  rw [rest_restF (b := b0)] at this
  rw [lf_eq]
  omega
theorem LInv.over (W : WfR m R) (I : LInv m R b0 i b w c) (h : 2 * rest m R b0 < i) : False := by
  have := cnt_le W I.ok
  have := I.le
  omega
theorem LInv.do_ {h : Nat} {t : Task} {r : List Task} (W : WfR m R) (I : LInv m R b0 i b w c) (hh : h < m) (hb : b.getD h [] = t :: r) :
    LInv m R b0 (i + 1) (b.set h r) (doneW m R h t w) (put c (h, t)) ∧ lf m R (b.set h r) (doneW m R h t w) + 1 = lf m R b w := by
  have e1 := do_rest (total_wt W) I.ok hh hb
  have e2 : cntB (b.set h r) + 1 = cntB b := by
    have := restF_set (G := fun _ _ => 1) b 0 h r (by rw [I.ok.len]; exact hh)
    rw [hb] at this
    simp only [List.map_cons, List.sum_cons] at this
    unfold cntB
    omega
  have e3 : lf m R (b.set h r) (doneW m R h t w) + 1 = lf m R b w := by
    rw [lf_eq, lf_eq]
    omega
  refine ⟨⟨I.ok.do_ W hh hb, by rw [put_len]; exact I.cl, fun a G A => ?_, ?_⟩, e3⟩
  · have := I.wt a G A
    have := do_rest A I.ok hh hb
    rw [restF_put (by rw [I.cl]; exact hh)]
    dsimp only
    omega
  · have := I.le
    omega
theorem LInv.hear {h s : Nat} {t : Task} {r : List Task} (W : WfR m R) (I : LInv m R b0 i b w c) (hh : h < m) (hs : s < m) (ho : onW w (s, h) = t :: r) :
    LInv m R b0 (i + 1) (b.set h (b.getD h [] ++ [t])) (withW w (s, h) r) c ∧ lf m R (b.set h (b.getD h [] ++ [t])) (withW w (s, h) r) = lf m R b w := by
  have e2 : cntB (b.set h (b.getD h [] ++ [t])) = cntB b + 1 := by
    have := restF_set (G := fun _ _ => 1) b 0 h (b.getD h [] ++ [t]) (by rw [I.ok.len]; exact hh)
    simp only [List.map_append, List.sum_append, List.map_cons, List.map_nil, List.sum_cons, List.sum_nil] at this
    unfold cntB
    omega
  have e3 : lf m R (b.set h (b.getD h [] ++ [t])) (withW w (s, h) r) = lf m R b w := by
    rw [lf_eq, lf_eq]
    exact hear_rest I.ok hh ho
  refine ⟨⟨I.ok.hear hh hs ho, I.cl, fun a G A => ?_, ?_⟩, e3⟩
  · have := I.wt a G A
    have := hear_rest (G := G) I.ok hh ho
    omega
  · have := I.le
    omega
/-- quiet at last: all is done -/
theorem LInv.end_ (I : LInv m R b0 i b w c) (h : QB b w = true) {a G : Nat → Task → Nat} (A : Wt m R a G) : restF a 0 c = restF G 0 b0 := by
  have := I.wt a G A
  unfold QB at h
  rw [Bool.and_eq_true, List.all_eq_true] at h
  obtain ⟨h1, h2⟩ := h
  simp only [decide_eq_true_eq] at h1 h2
  subst h2
  have e0 : ∀ (b : List (List Task)) (k : Nat), (∀ g, g ∈ b → g = []) → restF G k b = 0 := by
    intro b
    induction b with
    | nil => intro _ _; rfl
    | cons g b ih =>
      intro k h
      have := h g (List.mem_cons_self ..)
      subst this
      show (([] : List Task).map (G k)).sum + restF G (k + 1) b = 0
      rw [ih (k + 1) fun g hg => h g (List.mem_cons_of_mem _ hg)]
      rfl
  rw [e0 b 0 h1] at this
  have e : restV G [] = 0 := rfl
  omega
end
end K04

/-! K04E: one run, statement by statement. -/
namespace K04
open Mp KQ KW KA KP KS
open PySem (Str)
theorem Bags.grow {T T' : Store} {b : Nat} {bs : List Nat} {g : List (List Task)} (B : Bags T b bs g) (G : ∀ i o, sg T i = some o → (i = b ∨ i ∈ bs) → sg T' i = some o) : Bags T' b bs g :=
  ⟨G _ _ B.at_ (.inl rfl), B.len, B.nd, B.nb, fun i k hk => G _ _ (B.each i k hk) (.inr (List.mem_of_getElem? hk))⟩
structure LSt (S0 : Store) (df m : Nat) (ds : List Nat) (c : List (List Task)) (T : Store) : Prop where
  hand : Hand T
  keep : Keep 1 S0 T
  bags : Bags T df ds c
  new : ∀ k, k ∈ ds → sl S0 ≤ k
  dfn : sl S0 ≤ df
section
variable {S0 T T' : Store} {wk df m : Nat} {R : List Rule} {ds : List Nat} {c b : List (List Task)} {w : List Way}
theorem LSt.grow (I : LSt S0 df m ds c T) (G : Grow T T') : LSt S0 df m ds c T' :=
  ⟨I.hand.of (G.2 _ I.hand.lt) (G.2 _ I.hand.pos), I.keep.trans (G.keep 1), Bags.grow I.bags fun i o h _ => G.sg h, I.new, I.dfn⟩
theorem LSt.draw (h2 : 2 ≤ sl S0) (I : LSt S0 df m ds c T) {o : Ob} (H : HOb T o) : LSt S0 df m ds c (ss T 1 o) :=
  ⟨H.1, I.keep.trans (Keep.ss 1 T o), Bags.grow I.bags fun i o' h hi => by
    rw [sg_ss_ne]
    · exact h
    · rcases hi with rfl | hi
      · have := I.dfn; omega
      · have := I.new i hi; omega, I.new, I.dfn⟩
theorem LSt.put (h2 : 2 ≤ sl S0) (I : LSt S0 df m ds c T) {h k : Nat} {t : Task} (hk : ds[h]? = some k) : LSt S0 df m ds (put c (h, t)) (ss T k (.lst ((c.getD h [] ++ [t]).map rTask))) := by
  have hk' := I.new k (List.mem_of_getElem? hk)
  exact ⟨I.hand.ss (by omega) _, ⟨by rw [sl_ss]; exact I.keep.1, fun j hj hn => by rw [sg_ss_ne (by omega)]; exact I.keep.2 j hj hn⟩, I.bags.set hk _, I.new, I.dfn⟩
theorem LSt.works (h1 : ¬ wk = 1) (hw : IsW S0 wk m R) (I : LSt S0 df m ds c T) : IsW T wk m R := ⟨by rw [I.keep.2 wk (sg_lt hw.at_) h1]; exact hw.at_, hw.wf⟩
def LL (wk m : Nat) (R : List Rule) (l : List Task) (md df tot : Nat) (st : Val) (left : Nat) (x10 x11 x12 x13 : Option Val) : Loc :=
  [some (.ref 1), some (.ref wk), some (.int m), some (rRules R), some (rTasks l), some (.int md), some st, some (.ref df), some (.int left), some (.int tot), x10, x11, x12, x13, none]
variable {l : List Task} {md tot left : Nat} {x10 x11 x12 x13 : Option Val} {i : Nat} {b0 : List (List Task)}
theorem s6_ok (W : WfR m R) (K : StOk m R b w) (hz : lf m R b w ≤ 60) :
    ∃ (ch : Nat) (T' : Store), m_law_led_s6 (LL wk m R l md df tot (rStand b w) left x10 x11 x12 x13) T = .nx (LL wk m R l md df tot (rStand b w) left x10 (some (.ref ch)) x12 x13) T' ∧ Grow T T' ∧ sg T' ch = some (.lst (choicesV m b w)) ∧ sl T ≤ ch := by
  have Z := size_of W K hz
  obtain ⟨x, d, T1, e1, g1, M⟩ := law_model_eq (S := T) K.asc (by have := Z.sh.1; omega) (fun y hy => by have := Z.sh.2 y hy; omega) Z.nb (fun g hg => by have := Z.bags g hg; omega)
  have e2 := law_choices_eq M K.asc (by have := Z.sh.1; omega) (fun y hy => (K.ways y hy).2.2.1) K.len W.m6
  refine ⟨sl T1, sp T1 (.lst (choicesV m b w)), ?_, g1.trans (Grow.sp _ _), sg_sp_new, g1.1⟩
  unfold m_law_led_s6 LL
  simp (maxDischargeDepth := 12) [e1, e2]
theorem s7_ok {ch : Nat} (hw : IsW T wk m R) (K : StOk m R b w) (hz : lf m R b w ≤ 60) (hl : left = lf m R b w) (hc : sg T ch = some (.lst (choicesV m b w))) :
    m_law_led_s7 (LL wk m R l md df tot (rStand b w) left x10 (some (.ref ch)) x12 x13) T = .nx (LL wk m R l md df tot (rStand b w) left x10 (some (.ref ch)) x12 x13) T := by
  have e1 := is_quiet_eq hw K (size_of hw.wf K hz) (by omega)
  have q := quiet_eq hw.wf K
  have e1' : KW.m_is_quiet [.ref wk, rStand b w] T = .ok (.bl (decide (lf m R b w = 0))) T := by rw [e1]; unfold QB at q; rw [q.1]
  have lz : (choicesV m b w).length ≤ 16777216 := by
    have Z := size_of hw.wf K hz
    unfold choicesV
    have := Z.sh.1
    have lw : (working m b).length ≤ m := by
      unfold working
      have := List.length_filter_le (fun h => decide (0 < (b.getD h []).length)) (List.range m)
      rwa [List.length_range] at this
    have := hw.wf.m6
    simp
    omega
  have q2 := q.2
  subst hl
  unfold m_law_led_s7 LL
  by_cases h0 : lf m R b w = 0
  · have hn : (choicesV m b w) = [] := List.eq_nil_of_length_eq_zero (by simpa [h0] using q2)
    rw [hn] at hc
    simp (maxDischargeDepth := 12) [e1', hc, h0]
  · have hn : ¬ (choicesV m b w) = [] := fun z => by rw [z] at q2; simp [h0] at q2
    simp (maxDischargeDepth := 12) [e1', hc, h0, hn]
end
end K04

/-! K04F: one run, its turns. -/
namespace K04
open Mp KQ KW KA KP KS
open PySem (Str)
section
variable {S0 T T' : Store} {wk df m : Nat} {R : List Rule} {ds : List Nat} {c b : List (List Task)} {w : List Way}
variable {l : List Task} {md tot left : Nat} {x10 x11 x12 x13 : Option Val} {i : Nat} {b0 : List (List Task)}
theorem s9_ok {ch : Nat} (hc : sg T ch = some (.lst (choicesV m b w))) :
    m_law_led_s9 (LL wk m R l md df tot (rStand b w) left x10 (some (.ref ch)) x12 x13) T = if choicesV m b w = [] then .rt (.ref df) T else .nx (LL wk m R l md df tot (rStand b w) left x10 (some (.ref ch)) x12 x13) T := by
  unfold m_law_led_s9 m_law_led_s10 LL
  by_cases hn : choicesV m b w = []
  · rw [hn] at hc
    simp (maxDischargeDepth := 12) [hc, hn]
  · simp (maxDischargeDepth := 12) [hc, hn]
theorem s11_ok {ch : Nat} {vs : List Val} (H : Hand T) (hc : sg T ch = some (.lst vs)) (hch : ¬ ch = 1) (h0 : 0 < vs.length) (hz : vs.length < 100000) (hmd : md < 3) {st : Val} :
    ∃ (j : Nat) (v : Val) (o : Ob), vs[j]? = some v ∧ m_law_led_s11 (LL wk m R l md df tot st left x10 (some (.ref ch)) x12 x13) T = .nx (LL wk m R l md df tot st left x10 (some (.ref ch)) (some v) x13) (ss T 1 o) ∧ HOb T o := by
  obtain ⟨q, o1, e1, q0, q1, h1⟩ := take_spec (S := T) (m := (vs.length : Int)) H (by omega) (by omega)
  obtain ⟨q, rfl⟩ : ∃ n : Nat, q = n := ⟨q.toNat, by omega⟩
  have hc1 : sg (ss T 1 o1) ch = some (.lst vs) := by rw [sg_ss_ne hch]; exact hc
  have hH : Hand (sp (ss T 1 o1) (.lst [.int q, .int 0, .int ((vs.length : Int) - 1)])) := h1.1.sp _
  have hK : Keep 1 T (sp (ss T 1 o1) (.lst [.int q, .int 0, .int ((vs.length : Int) - 1)])) := (Keep.ss 1 T o1).trans (Keep.sp 1 _ _)
  obtain ⟨j, hj, hjv⟩ : ∃ j : Nat, j < vs.length ∧ L2.atI [Val.int q, .int 0, .int ((vs.length : Int) - 1)] md = some (.int j) := by
    rcases (by omega : md = 0 ∨ md = 1 ∨ md = 2) with rfl | rfl | rfl
    · exact ⟨q, by omega, rfl⟩
    · exact ⟨0, h0, rfl⟩
    · refine ⟨vs.length - 1, by omega, ?_⟩
      have : ((vs.length - 1 : Nat) : Int) = (vs.length : Int) - 1 := by omega
      rw [this]
      rfl
  obtain ⟨o, eg, ho⟩ := gcR_hand (v := .int j) hK H hH (by simp)
  have hj' : vs[j]? = some vs[j] := by simp [hj]
  have hco : sg (ss T 1 o) ch = some (.lst vs) := by rw [sg_ss_ne hch]; exact hc
  refine ⟨j, vs[j], o, hj', ?_, ho⟩
  unfold m_law_led_s11 LL
  have hjv' : [Val.int q, .int 0, .int ((vs.length : Int) - 1)][md]? = some (.int j) := by
    have : md < 3 := hmd
    rw [← hjv]
    unfold L2.atI
    simp [this]
  simp (maxDischargeDepth := 12) [hc, e1, hc1, hjv', -gcR_ok, eg, hco, hj, hj']
theorem rStand_ix (h : Nat) (hh : h < b.length) : ∃ e, b[h]? = some e ∧ e = b.getD h [] := ⟨b[h], by simp [hh], by simp [hh]⟩
theorem do_do (S : Store) : pEq (.str "do") (.str "do") S = .ok (.bl true) S := by rw [pEq_str (by simp) (by simp)]; simp
theorem hear_do (S : Store) : pEq (.str "hear") (.str "do") S = .ok (.bl false) S := by rw [pEq_str (by simp) (by simp)]; simp
theorem s12_do {h : Nat} {t : Task} {r : List Task} {left' : Nat} (h2 : 2 ≤ sl S0) (h1 : ¬ wk = 1) (hw : IsW S0 wk m R) (I : LSt S0 df m ds c T) (hc : c.length = m) (hcz : (c.getD h []).length < 100000) (K : StOk m R b w) (hz : lf m R b w ≤ 60) (hh : h < m) (hb : b.getD h [] = t :: r) :
    ∃ (k : Nat) (T' : Store), m_law_led_s12 (LL wk m R l md df tot (rStand b w) (left' + 1) x10 x11 (some (cDo h)) x13) T = .nx (LL wk m R l md df tot (rStand (b.set h r) (doneW m R h t w)) left' x10 x11 (some (cDo h)) (some (.ref k))) T' ∧ LSt S0 df m ds (put c (h, t)) T' := by
  obtain ⟨k, e1, e2, e3⟩ := I.bags.ref (i := h) (by omega)
  have J := I.put h2 (t := t) e1
  have WJ := J.works h1 hw
  have ed := done_some WJ K (size_of hw.wf K hz) (by omega) hh hb
  have hbl : h < b.length := by rw [K.len]; exact hh
  have eb : (b.map rTasks)[h]? = some (rTasks (t :: r)) := by rw [bag_at hbl, hb]
  have e4 : (ds.map Val.ref)[h]? = some (.ref k) := by rw [List.getElem?_map, e1]; rfl
  have e0 := I.bags.at_
  have hcz' : ((c.getD h []).map rTask).length < 16777216 := by rw [List.length_map]; omega
  obtain ⟨cc, hcc⟩ : ∃ cc, cc = (c.getD h []).map rTask := ⟨_, rfl⟩
  rw [List.map_append, ← hcc] at J ed
  rw [← hcc] at e2 hcz'
  have ed' : KW.m_done_by [.ref wk, .tup [.tup (b.map rTasks), rWays w], .int h] (ss T k (.lst (cc ++ [rTask t]))) = .ok (rStand (b.set h r) (doneW m R h t w)) (ss T k (.lst (cc ++ [rTask t]))) := ed
  refine ⟨k, _, ?_, J⟩
  unfold m_law_led_s12 m_law_led_s13 m_law_led_s14 m_law_led_s15 m_law_led_s16 LL cDo
  rw [show rStand b w = .tup [.tup (b.map rTasks), rWays w] from rfl]
  simp (maxDischargeDepth := 12) [e0, e4, e1, e2, hcz', eb, rTasks, ed', do_do, -List.map_map]
theorem s12_hear {h s : Nat} {t : Task} {r : List Task} {y : Way} (hy : y.1 = (s, h)) (hw : IsW T wk m R) (K : StOk m R b w) (hz : lf m R b w ≤ 60) (hh : h < m) (hs : s < m) (ho : onW w (s, h) = t :: r) :
    m_law_led_s12 (LL wk m R l md df tot (rStand b w) left x10 x11 (some (cHear y)) x13) T = .nx (LL wk m R l md df tot (rStand (b.set h (b.getD h [] ++ [t])) (withW w (s, h) r)) left x10 x11 (some (cHear y)) x13) T := by
  have ed := heard_some hw K (size_of hw.wf K hz) (by omega) hh hs ho
  unfold m_law_led_s12 m_law_led_s17 LL cHear
  rw [hy]
  simp (maxDischargeDepth := 12) [ed, hear_do]
theorem s18_ok (hw : IsW T wk m R) (K : StOk m R b w) (hz : lf m R b w ≤ 60) (hl : left = lf m R b w) :
    m_law_led_s18 (LL wk m R l md df tot (rStand b w) left x10 x11 x12 x13) T = .nx (LL wk m R l md df tot (rStand b w) left x10 x11 x12 x13) T := by
  have e1 := still_to_do_eq hw K (size_of hw.wf K hz) (by omega)
  have e2 := same_int 99 (left : Int) T
  rw [show rest m R b + restW m R w = left from hl.symm] at e1
  unfold m_law_led_s18 LL
  simp (maxDischargeDepth := 12) [e1, e2]
end
end K04

/-! K04G: one run, whole. -/
namespace K04
open Mp KQ KW KA KP KS
open PySem (Str)
theorem seq_nx {a b : MS} {L L1 : Loc} {S S1 : Store} (h : a L S = .nx L1 S1) : sSeq a b L S = b L1 S1 := by rw [sSeq_app, h, F.andThen_nx]
theorem seq_rt {a b : MS} {L : Loc} {v : Val} {S S1 : Store} (h : a L S = .rt v S1) : sSeq a b L S = .rt v S1 := by rw [sSeq_app, h]; rfl
theorem one_le {h : Nat} : ∀ (c : List (List Task)) (k : Nat), (c.getD h []).length ≤ restF (fun _ _ => 1) k c := by
  intro c
  induction c generalizing h with
  | nil => intro k; simp
  | cons x c ih =>
    intro k
    have e : restF (fun _ _ => 1) k (x :: c) = (x.map fun _ => 1).sum + restF (fun _ _ => 1) (k + 1) c := rfl
    have e3 : (x.map fun _ => 1).sum = x.length := ones_sum x
    cases h with
    | zero =>
      rw [e, e3, List.getD_cons_zero]
      omega
    | succ h =>
      have := ih (h := h) (k + 1)
      rw [e, e3, List.getD_cons_succ]
      omega
section
variable {S0 T T' : Store} {wk df m : Nat} {R : List Rule} {ds : List Nat} {c b : List (List Task)} {w : List Way}
variable {l : List Task} {md tot left : Nat} {x10 x11 x12 x13 : Option Val} {i : Nat} {b0 : List (List Task)}
theorem turn_ok {v10 : Val} (h2 : 2 ≤ sl S0) (h1 : ¬ wk = 1) (hw : IsW S0 wk m R) (hmd : md < 3) (hb0 : rest m R b0 ≤ 60) (I : LSt S0 df m ds c T) (J : LInv m R b0 i b w c) :
    (∃ T', m_law_led_b1 (LL wk m R l md df tot (rStand b w) (lf m R b w) (some v10) none none none) T = .rt (.ref df) T' ∧ LSt S0 df m ds c T' ∧ QB b w = true) ∨
    ∃ b' w' c' T', m_law_led_b1 (LL wk m R l md df tot (rStand b w) (lf m R b w) (some v10) none none none) T = .nx (LL wk m R l md df tot (rStand b' w') (lf m R b' w') none none none none) T' ∧ LSt S0 df m ds c' T' ∧ LInv m R b0 (i + 1) b' w' c' := by
  have W := hw.wf
  have hz : lf m R b w ≤ 60 := Nat.le_trans (J.left W) hb0
  have K := J.ok
  obtain ⟨ch, T1, e6, g1, hc, hch⟩ := s6_ok (T := T) (l := l) (md := md) (df := df) (tot := tot) (left := lf m R b w) (x10 := some v10) (x11 := none) (x12 := none) (x13 := none) W K hz
  have I1 := I.grow g1
  have e7 := s7_ok (l := l) (md := md) (df := df) (tot := tot) (x10 := some v10) (x12 := none) (x13 := none) (I1.works h1 hw) K hz rfl hc
  have e9 := s9_ok (wk := wk) (m := m) (R := R) (l := l) (md := md) (df := df) (tot := tot) (left := lf m R b w) (x10 := some v10) (x12 := none) (x13 := none) hc
  have lS := I.keep.1
  by_cases hn : choicesV m b w = []
  · left
    rw [if_pos hn] at e9
    refine ⟨T1, ?_, I1, quiet_left W K (choices_left K hn)⟩
    unfold m_law_led_b1
    rw [sK_app, seq_nx e6, seq_nx e7, seq_rt e9]
    rfl
  · right
    rw [if_neg hn] at e9
    have hlen : (choicesV m b w).length < 100000 := by
      have Z := size_of W K hz
      have := Z.sh.1
      have lw : (working m b).length ≤ m := by
        unfold working
        have := List.length_filter_le (fun h => decide (0 < (b.getD h []).length)) (List.range m)
        rwa [List.length_range] at this
      have := W.m6
      unfold choicesV
      simp
      omega
    obtain ⟨j, v, o, hv, e11, ho⟩ := s11_ok (wk := wk) (m := m) (R := R) (l := l) (df := df) (tot := tot) (left := lf m R b w) (x10 := some v10) (x12 := none) (x13 := none) (st := rStand b w) I1.hand hc (by omega) (List.length_pos_iff.mpr hn) hlen hmd
    have I2 := I1.draw h2 ho
    rcases choice_at K hv with ⟨h, t, r, rfl, hh, hb⟩ | ⟨y, t, r, rfl, hh, hs, hon⟩
    · obtain ⟨J', ej⟩ := J.do_ W hh hb
      have hcz : (c.getD h []).length < 100000 := by
        have a1 := one_le (h := h) c 0
        have a2 := J.wt _ _ (total_wt W)
        rw [rest_restF (b := b0)] at a2
        omega
      obtain ⟨k, T3, e12, I3⟩ := s12_do (l := l) (md := md) (tot := tot) (x10 := some v10) (x11 := some (.ref ch)) (x13 := none) (left' := lf m R (b.set h r) (doneW m R h t w)) h2 h1 hw I2 J.cl hcz K hz hh hb
      rw [ej] at e12
      have e18 := s18_ok (l := l) (md := md) (df := df) (tot := tot) (x10 := some v10) (x11 := some (.ref ch)) (x12 := some (cDo h)) (x13 := some (.ref k)) (I3.works h1 hw) J'.ok (by omega) rfl
      refine ⟨_, _, _, T3, ?_, I3, J'⟩
      unfold m_law_led_b1
      rw [sK_app, seq_nx e6, seq_nx e7, seq_nx e9, seq_nx e11, seq_nx e12, e18]
      rfl
    · obtain ⟨J', ej⟩ := J.hear W hh hs hon
      have e12 := s12_hear (l := l) (md := md) (df := df) (tot := tot) (left := lf m R b w) (x10 := some v10) (x11 := some (.ref ch)) (x13 := none) (y := y) rfl (I2.works h1 hw) K hz hh hs hon
      have e18 := s18_ok (l := l) (md := md) (df := df) (tot := tot) (x10 := some v10) (x11 := some (.ref ch)) (x12 := some (cHear y)) (x13 := none) (I2.works h1 hw) J'.ok (by omega) ej.symm
      refine ⟨_, _, _, _, ?_, I2, J'⟩
      unfold m_law_led_b1
      rw [sK_app, seq_nx e6, seq_nx e7, seq_nx e9, seq_nx e11, seq_nx e12, e18, ej]
      rfl
theorem start_ok (W : WfR m R) (hl : ∀ t, t ∈ l → TaskOk R t) : StOk m R (l :: List.replicate (m - 1) []) [] := by
  have := W.m1
  refine ⟨by simp; omega, fun g hg t ht => ?_, fun y hy => by simp at hy, by simp⟩
  rcases List.mem_cons.mp hg with rfl | hg
  · exact hl t ht
  · rw [(List.mem_replicate.mp hg).2] at ht
    cases ht
theorem led_spec (h2 : 2 ≤ sl S0) (H : Hand S0) (h1 : ¬ wk = 1) (hw : IsW S0 wk m R) (hmd : md < 3) (hl : ∀ t, t ∈ l → TaskOk R t) (hl20 : l.length ≤ 20) (hs : sumT m R l ≤ 60) :
    ∃ (df : Nat) (ds : List Nat) (c : List (List Task)) (T : Store), m_law_led [.ref 1, .ref wk, .int m, rRules R, rTasks l, .int md] S0 = .ok (.ref df) T ∧ LSt S0 df m ds c T ∧ c.length = m ∧
      ∀ a G, Wt m R a G → restF a 0 c = restF G 0 (l :: List.replicate (m - 1) []) := by
  have W := hw.wf
  have hm6 := W.m6
  have hm1 := W.m1
  obtain ⟨b0, hb0⟩ : ∃ b0, b0 = l :: List.replicate (m - 1) ([] : List Task) := ⟨_, rfl⟩
  have K0 := start_ok (m := m) W hl
  have hr0 : rest m R b0 = sumT m R l := by rw [hb0]; exact rest_start
  have e1 := first_ok hw hl hl20
  rw [← hb0] at K0 e1 ⊢
  obtain ⟨T1, e2, l2, g2, h3⟩ := fresh_lists (S := S0) (L := [some (.ref 1), some (.ref wk), some (.int m), some (rRules R), some (rTasks l), some (.int md), some (rStand b0 []), none, none, none, none, none, none, none, none]) 14 m (by omega)
  obtain ⟨T2, hT2⟩ : ∃ T2, T2 = sp T1 (.lst ((List.range m).map fun j => Val.ref (sl S0 + j))) := ⟨_, rfl⟩
  have g02 : Grow S0 T2 := by rw [hT2]; exact g2.trans (Grow.sp _ _)
  have I0 : LSt S0 (sl T1) m ((List.range m).map fun j => sl S0 + j) (List.replicate m []) T2 := by
    refine ⟨H.of (g02.2 _ H.lt) (g02.2 _ H.pos), g02.keep 1, ⟨?_, by simp, ?_, ?_, fun j k hk => ?_⟩, fun k hk => ?_, by omega⟩
    · rw [hT2, List.map_map]
      exact sg_sp_new
    · rw [List.Nodup, List.pairwise_map]
      exact (List.nodup_range (n := m)).imp fun {x y} h e => h (by omega)
    · intro hk
      obtain ⟨j, hj, e⟩ := List.mem_map.mp hk
      have := List.mem_range.mp hj
      omega
    · rw [List.getElem?_map] at hk
      obtain ⟨j', hj', rfl⟩ := Option.map_eq_some_iff.mp hk
      have hjm : j < m := by
        have := (List.getElem?_eq_some_iff.mp hj').1
        simpa using this
      rw [List.getElem?_range hjm] at hj'
      cases hj'
      have : (List.replicate m ([] : List Task)).getD j [] = [] := by simp [List.getD_eq_getElem?_getD, hjm]
      rw [this, hT2, sg_sp_lt (by omega)]
      exact h3 j hjm
    · obtain ⟨j, _, rfl⟩ := List.mem_map.mp hk
      omega
  have J0 : LInv m R b0 0 b0 [] (List.replicate m []) := by
    refine ⟨K0, by simp, fun a G A => ?_, ?_⟩
    · rw [restF_empty]
      have : restV G [] = 0 := rfl
      omega
    · have : lf m R b0 [] = rest m R b0 := by unfold lf restW; simp
      omega
  have hlf : lf m R b0 [] = rest m R b0 := by unfold lf restW; simp
  have e3 := still_to_do_eq (I0.works h1 hw) K0 (size_of W K0 (N := 60) (by omega)) (by omega)
  have e3' : KW.m_still_to_do [.ref wk, rStand b0 []] T2 = .ok (.int (lf m R b0 [] : Nat)) T2 := e3
  have key := forLoop_gen (keep := fun _ => True) (g := gN 10) (b := m_law_led_b1)
    (fun i L T => ∃ b w c, L = LL wk m R l md (sl T1) (lf m R b0 []) (rStand b w) (lf m R b w) none none none none ∧ LSt S0 (sl T1) m ((List.range m).map fun j => sl S0 + j) c T ∧ LInv m R b0 i b w c)
    (fun r => ∃ T c, r = .rt (.ref (sl T1)) T ∧ LSt S0 (sl T1) m ((List.range m).map fun j => sl S0 + j) c T ∧ c.length = m ∧ ∀ a G, Wt m R a G → restF a 0 c = restF G 0 b0)
    (xs := rangeL 0 (2 * lf m R b0 [] + 1)) (L := LL wk m R l md (sl T1) (lf m R b0 []) (rStand b0 []) (lf m R b0 []) none none none none) (S := T2)
    ⟨b0, [], _, rfl, I0, J0⟩ (fun _ _ _ _ _ => trivial) (fun L T q => by
      obtain ⟨b, w, c, rfl, I, J⟩ := q
      rw [rangeL_len] at J
      exact (J.over W (by omega)).elim) (fun i x L T hx q => by
      obtain ⟨b, w, c, rfl, I, J⟩ := q
      rcases turn_ok (l := l) (md := md) (tot := lf m R b0 []) (v10 := x) h2 h1 hw hmd (by omega) I J with ⟨T', e, I', Q⟩ | ⟨b', w', c', T', e, I', J'⟩
      · exact .inr (.inr (.inl ⟨.ref (sl T1), T', e, T', c, rfl, I', J.cl, fun a G A => J.end_ Q A⟩))
      · exact .inl ⟨_, T', .inl e, b', w', c', rfl, I', J'⟩)
  obtain ⟨T, c, e5, I, hc, hA⟩ := key
  refine ⟨sl T1, _, c, T, ?_, I, hc, hA⟩
  have er : ∀ S' : Store, rngOf1 [.int (m : Nat)] S' = .ok ⟨rangeL 0 m, fun _ => True⟩ S' := fun S' => rng_nat m rfl (by omega)
  have er2 : ∀ S' : Store, rngOf1 [.int (2 * (lf m R b0 [] : Nat) + 1)] S' = .ok ⟨rangeL 0 (2 * lf m R b0 [] + 1), fun _ => True⟩ S' := fun S' => rng_nat (2 * lf m R b0 [] + 1) (by omega) (by omega)
  have hT2' := hT2.symm
  have cm : cmul 2 ((lf m R b0 [] : Nat) : Int) = true := cmul_left (by decide) (by decide)
  unfold LL at e5
  unfold m_law_led m_law_led_s1 m_law_led_s2 m_law_led_s3 m_law_led_s4 m_law_led_s5
  simp (maxDischargeDepth := 12) [startL, e1, er, e2, hT2', e3', cm, er2, e5]
end
end K04

/-! KP5: what is given is drawn. -/
namespace KP
open Mp KQ KW KA
open PySem (Str)
theorem Keep.low {h i : Nat} {S T : Store} (K : Keep h S T) (hi : sl S ≤ i) (o : Ob) : Keep h S (ss T i o) := ⟨by rw [sl_ss]; exact K.1, fun j hj hn => by rw [sg_ss_ne (by omega)]; exact K.2 j hj hn⟩
theorem Keep.spR {h : Nat} {S T : Store} (K : Keep h S T) (o : Ob) : Keep h S (sp T o) := ⟨by rw [sl_sp]; have := K.1; omega, fun j hj hn => by rw [sg_sp_lt (by have := K.1; omega)]; exact K.2 j hj hn⟩
/-- while tasks are drawn -/
structure GI (q : Int) (S T : Store) (m d f : Nat) (R : List Rule) (l : List (Nat × Nat)) : Prop where
  kp : Keep 1 S T
  hand : Hand T
  df : ¬ d = f
  dl : sl S ≤ d
  fl : sl S ≤ f
  kpt : ∃ kvs, KeptOk m R kvs ∧ sg T d = some (.dT kvs)
  fnd : sg T f = some (.lst (l.map rTask))
  ok : ∀ t, t ∈ l → TaskOk R t
  tot : ((sumT m R l : Nat) : Int) ≤ q
abbrev GL (q : Int) (m : Nat) (R : List Rule) (d f : Nat) (x6 x7 x8 x9 : Option Val) : Loc := [some (.ref 1), some (.int m), some (rRules R), some (.int q), some (.ref d), some (.ref f), x6, x7, x8, x9]
theorem given_less {q : Int} {S T : Store} {m d f i : Nat} {R : List Rule} {l : List (Nat × Nat)} {t : Nat × Nat} {x6 : Option Val} (H : Hand S) (W : WfR m R) (I : GI q S T m d f R l) (ht : TaskOk R t) (hi : i ≤ t.2) (hz : l.length < 100) :
    ∃ f' l' T', (m_law_given_b1 (GL q m R d f x6 (some (rTask t)) (some (.int (i : Nat))) none) T = .nx (GL q m R d f x6 (some (rTask t)) none none) T' ∨ m_law_given_b1 (GL q m R d f x6 (some (rTask t)) (some (.int (i : Nat))) none) T = .bk (GL q m R d f' x6 (some (rTask t)) none none) T') ∧
      GI q S T' m d f R l ∧ GI q S T' m d f' R l' ∧ l'.length ≤ l.length + 1 := by
  have hl := H.lt
  obtain ⟨kvs, K, hd⟩ := I.kpt
  have hf := I.fnd
  have dT := sg_lt hd
  have fT := sg_lt hf
  have htk : TaskOk R (t.1, t.2 - i) := ⟨ht.1, by have := ht.2; show t.2 - i ≤ 12; omega⟩
  obtain ⟨T1, hT1⟩ : ∃ T1, T1 = sp T (.lst ((l ++ [(t.1, t.2 - i)]).map rTask)) := ⟨_, rfl⟩
  have I1 : GI q S T1 m d f R l := by
    rw [hT1]
    exact ⟨Keep.spR I.kp _, I.hand.sp _, I.df, I.dl, I.fl, ⟨kvs, K, by rw [sg_sp_lt dT]; exact hd⟩, by rw [sg_sp_lt fT]; exact hf, I.ok, I.tot⟩
  have hd1 : sg T1 d = some (.dT kvs) := by rw [hT1, sg_sp_lt dT]; exact hd
  obtain ⟨kvs', K', e⟩ := law_total_lst (a := sl T) W K hd1 (l ++ [(t.1, t.2 - i)]) (by rw [hT1]; exact sg_sp_new) (fun x hx => by
    rcases List.mem_append.mp hx with hx | hx
    · exact I.ok x hx
    · simp at hx; rw [hx]; exact htk) (by simp; omega)
  have hds : (sg T1 d).isSome = true := by rw [hd1]; rfl
  have nd : ¬ sl T = d := by omega
  have nf : ¬ f = d := fun q => I.df q.symm
  have gi : ∀ f' l', ¬ d = f' → sl S ≤ f' → sg T1 f' = some (.lst (l'.map rTask)) → (∀ t, t ∈ l' → TaskOk R t) → ((sumT m R l' : Nat) : Int) ≤ q → GI q S (ss T1 d (.dT kvs')) m d f' R l' := fun f' l' a1 a2 a3 a4 a5 =>
    ⟨Keep.low I1.kp I.dl _, I1.hand.ss (by have := I.dl; omega) _, a1, I.dl, a2, ⟨kvs', K', sg_ss_same hds⟩, by rw [sg_ss_ne (fun q => a1 q.symm)]; exact a3, a4, a5⟩
  have sST := I.kp.1
  have gl := gi f l I.df I.fl I1.fnd I.ok I.tot
  have ec : ((t.2 : Int) - (i : Int)) = ((t.2 - i : Nat) : Int) := by omega
  have hlz : l.length + 1 ≤ 16777216 := by omega
  have hT1' : sp T (.lst (l.map rTask ++ [Val.tup [.int t.1, .int ((t.2 - i : Nat) : Int)]])) = T1 := by rw [hT1, List.map_append]; rfl
  have lowl : belows (sl T) (l.map rTask) = true := belows_map _ _ fun x _ => by simp [rTask]
  by_cases h3 : ((sumT m R (l ++ [(t.1, t.2 - i)]) : Nat) : Int) ≤ q
  · refine ⟨sl T, l ++ [(t.1, t.2 - i)], ss T1 d (.dT kvs'), .inr ?_, gl, gi _ _ (fun q => nd q.symm) sST (by rw [hT1]; exact sg_sp_new) (fun x hx => by
      rcases List.mem_append.mp hx with hx | hx
      · exact I.ok x hx
      · simp at hx; rw [hx]; exact htk) h3, by simp⟩
    unfold m_law_given_b1
    simp (maxDischargeDepth := 12) [rTask_0, hf, fT, ec, hlz, hT1', lowl, e, h3]
  · refine ⟨f, l, ss T1 d (.dT kvs'), .inl ?_, gl, gl, by omega⟩
    unfold m_law_given_b1
    simp (maxDischargeDepth := 12) [rTask_0, hf, fT, ec, hlz, hT1', lowl, e, h3]
theorem GI.draw {S T : Store} {m d f : Nat} {R : List Rule} {l : List (Nat × Nat)} {o : Ob} (H : Hand S) (I : GI q S T m d f R l) (h : HOb T o) : GI q S (ss T 1 o) m d f R l := by
  have hl := H.lt
  obtain ⟨kvs, K, hd⟩ := I.kpt
  have := I.dl
  have := I.fl
  exact ⟨I.kp.trans (Keep.ss 1 T o), h.1, I.df, I.dl, I.fl, ⟨kvs, K, by rw [sg_ss_ne (by omega)]; exact hd⟩, by rw [sg_ss_ne (by omega)]; exact I.fnd, I.ok, I.tot⟩
theorem given_one {q : Int} {S T : Store} {m d f : Nat} {R : List Rule} {l : List (Nat × Nat)} {x : Val} (H : Hand S) (W : WfR m R) (I : GI q S T m d f R l) (hz : l.length < 100) :
    ∃ f' l' T', m_law_given_b2 (GL q m R d f (some x) none none none) T = .nx (GL q m R d f' none none none none) T' ∧ GI q S T' m d f' R l' ∧ l'.length ≤ l.length + 1 := by
  obtain ⟨t, o, e1, h1, ht⟩ := task_spec I.hand W
  have I1 := I.draw H h1
  have ht2 := ht.2
  obtain ⟨f', l', T', e2, I2, h2⟩ := forLoop_gen (keep := fun _ => True) (g := gN 8) (b := m_law_given_b1) (fun i L T' => L = GL q m R d f (some x) (some (rTask t)) none none ∧ GI q S T' m d f R l)
    (fun r => ∃ f' l' T', r = .nx (GL q m R d f' (some x) (some (rTask t)) none none) T' ∧ GI q S T' m d f' R l' ∧ l'.length ≤ l.length + 1) (xs := rangeL 0 (t.2 + 1)) (L := GL q m R d f (some x) (some (rTask t)) none none) (S := ss T 1 o)
    ⟨rfl, I1⟩ (fun _ _ _ _ _ => trivial) (fun L T' q => by
      obtain ⟨rfl, I2⟩ := q
      exact ⟨f, l, T', rfl, I2, by omega⟩) (fun i y L T' hy q => by
      obtain ⟨rfl, I2⟩ := q
      obtain ⟨hi, rfl⟩ := rangeL_at hy
      rw [Int.zero_add]
      obtain ⟨f', l', T2, e, J1, J2, J3⟩ := given_less (i := i) (x6 := some x) H W I2 ht (by omega) hz
      rcases e with e | e
      · exact .inl ⟨_, _, .inl e, rfl, J1⟩
      · exact .inr (.inl ⟨_, _, e, f', l', T2, rfl, J2, J3⟩))
  refine ⟨f', l', T', ?_, I2, h2⟩
  have hb : t.2 + 1 < 1000000 := by omega
  unfold m_law_given_b2
  rw [rTask_0] at e1 e2
  simp (maxDischargeDepth := 12) [e1, hb, e2]
theorem law_given_spec {q : Int} {S : Store} {m : Nat} {R : List Rule} (H : Hand S) (W : WfR m R) (hq : 0 ≤ q) : ∃ (l : List (Nat × Nat)) (o : Ob), m_law_given [.ref 1, .int m, rRules R, .int q] S = .ok (rTasks l) (ss S 1 o) ∧ HOb S o ∧ (∀ t, t ∈ l → TaskOk R t) ∧ l.length ≤ 20 ∧ ((sumT m R l : Nat) : Int) ≤ q := by
  have hl := H.lt
  obtain ⟨T0, hT0⟩ : ∃ T0, T0 = sp (sp S (.dT [])) (.lst []) := ⟨_, rfl⟩
  have l1 : sl (sp S (.dT [])) = sl S + 1 := by simp
  have I0 : GI q S T0 m (sl S) (sl S + 1) R [] := by
    rw [hT0]
    exact ⟨((Grow.sp S _).trans (Grow.sp _ _)).keep 1, (H.sp _).sp _, by omega, by omega, by omega, ⟨[], KeptOk.nil m R, by rw [sg_sp_lt (by simp)]; exact sg_sp_new⟩, sg_sp_new' l1.symm, by simp, by simpa [sumT] using hq⟩
  obtain ⟨v, o1, e1, m1, h1⟩ := pick_lit (S := T0) (L := GL q m R (sl S) (sl S + 1) none none none none) (a := (aCons (mC (.int 0)) (aCons (mC (.int 1)) (aCons (mC (.int 1)) (aCons (mC (.int 2)) (aCons (mC (.int 2)) (aCons (mC (.int 3)) (aCons (mC (.int 5)) (aCons (mC (.int 20)) aNil))))))))) (vs := ([0, 1, 1, 2, 2, 3, 5, 20] : List Int).map Val.int) I0.hand rfl rfl (by decide) (by decide) (fun _ => rfl)
  obtain ⟨i1, j1, rfl⟩ := isOf m1
  have b1 : 0 ≤ i1 ∧ i1 ≤ 20 := by simp at j1; omega
  obtain ⟨k, rfl⟩ : ∃ k : Nat, i1 = k := ⟨i1.toNat, by omega⟩
  have I1 := I0.draw H h1
  obtain ⟨L', T', e2, f, l, rfl, I2, h2⟩ := forLoop_nx (keep := fun _ => True) (g := gN 6) (b := m_law_given_b2) (fun i L T' => ∃ f l, L = GL q m R (sl S) f none none none none ∧ GI q S T' m (sl S) f R l ∧ l.length ≤ i) (xs := rangeL 0 k) (L := GL q m R (sl S) (sl S + 1) none none none none) (S := ss T0 1 o1)
    ⟨_, [], rfl, I1, by simp⟩ (fun _ _ _ _ _ => trivial) (fun i x L T' hx q => by
      obtain ⟨f, l, rfl, I2, h2⟩ := q
      obtain ⟨hi, rfl⟩ := rangeL_at hx
      obtain ⟨f', l', T2, e, I3, h3⟩ := given_one (x := .int (0 + (i : Nat))) H W I2 (by omega)
      exact ⟨_, T', _, T2, rfl, .inl e, f', l', rfl, I3, by omega⟩)
  rw [rangeL_len] at h2
  have lowl : below (sl S) (rTasks l) = true := by
    unfold rTasks
    rw [below_tup]
    exact belows_map _ _ fun x _ => by simp [rTask]
  obtain ⟨o, e3, h3⟩ := gcR_hand (v := rTasks l) I2.kp H I2.hand lowl
  refine ⟨l, o, ?_, h3, I2.ok, by omega, I2.tot⟩
  have hT0' := hT0.symm
  have hk : k < 1000000 := by omega
  have ef := I2.fnd
  unfold rTasks at e3
  unfold m_law_given
  simp (maxDischargeDepth := 12) [startL, hT0', e1, hk, e2, ef, e3, -mG_app, -gcR_ok, rTasks]
end KP

/-! K04H: what is due; the plain run's lists. -/
namespace K04
open Mp KQ KW KA KP KS
open PySem (Str)
def Lq (ns : List Int) (m : Nat) (R : List Rule) (l : List Task) (x6 x7 x8 x9 x10 x11 x12 x13 : Option Val) : Loc :=
  [some (.fl ns), some (.ref 1), some (.int m), some (rRules R), some (.ref 2), some (rTasks l), x6, x7, x8, x9, x10, x11, x12, x13, none, none]
def duS (m : Nat) (R : List Rule) (l : List Task) (i : Nat) : Nat := (l.map fun t => nth (dueL m R 0 t) i).sum
def duL (m : Nat) (R : List Rule) (l : List Task) : List Nat := (List.range m).map (duS m R l)
section
variable {ns : List Int} {m : Nat} {R : List Rule} {l : List Task} {U T : Store} {x6 x7 x8 x9 x10 x11 x12 x13 : Option Val}
theorem duL_nth {i : Nat} (hi : i < m) : nth (duL m R l) i = duS m R l i := by
  unfold nth duL
  simp [List.getD_eq_getElem?_getD, hi]
theorem duL_len : (duL m R l).length = m := by simp [duL]
theorem due_body {x : Val} {t : Task} {k : Nat} {r : List Task} (hw : IsW U 2 m R) (ht : TaskOk R t) (hk : sg U k = some (.lst (rInts (duL m R r)))) :
    m_law_b1 (Lq ns m R l (some (.ref k)) (some (rTask t)) none x9 x10 x11 x12 x13) U = .nx (Lq ns m R l (some (.ref (sl U))) (some (rTask t)) none x9 x10 x11 x12 x13) (sp U (.lst (rInts (duL m R (r ++ [t]))))) := by
  have W := hw.wf
  have hm6 := W.m6
  have e1 := tasks_of_eq hw W.m1 ht
  have e1' : KW.m_tasks_of [.ref 2, .int 0, rTask t] U = .ok (.tup (rInts (dueL m R 0 t))) U := e1
  have e7 : m_law_s7 (Lq ns m R l (some (.ref k)) (some (rTask t)) none x9 x10 x11 x12 x13) U = .nx (Lq ns m R l (some (.ref k)) (some (rTask t)) (some (.tup (rInts (dueL m R 0 t)))) x9 x10 x11 x12 x13) U := by
    unfold m_law_s7 Lq
    simp (maxDischargeDepth := 12) [e1']
  have el : lcLoop (fun _ => True) (Lq ns m R l (some (.ref k)) (some (rTask t)) (some (.tup (rInts (dueL m R 0 t)))) x9 x10 x11 x12 x13) (gN 14) tYes (m2 pAdd (m2 pIx (mV 6) (mV 14)) (m2 pIx (mV 8) (mV 14))) (rangeL 0 m) [] U = .ok (rInts (duL m R (r ++ [t]))) U := by
    rw [lc_map' (fun (i : Nat) => Val.int i) (fun i => .int (duS m R (r ++ [t]) i : Nat)) (List.range m) (rangeL0 m) trivial (by rw [List.length_range]; unfold LIM; omega) ?_]
    · unfold rInts duL
      rw [List.map_map]
      rfl
    · intro i hi
      have hi' : i < m := by simpa using hi
      have g1 : (rInts (duL m R r))[i]? = some (.int (duS m R r i : Nat)) := by rw [rInts_get (by rw [duL_len]; exact hi'), duL_nth hi']
      have g2 : (rInts (dueL m R 0 t))[i]? = some (.int (nth (dueL m R 0 t) i : Nat)) := rInts_get (by rw [due_len]; exact hi')
      have g3 : ((duS m R r i : Nat) : Int) + (nth (dueL m R 0 t) i : Nat) = (duS m R (r ++ [t]) i : Nat) := by
        unfold duS
        rw [List.map_append, List.sum_append]
        simp
      have l1 : i < (duL m R r).length := by rw [duL_len]; exact hi'
      have l2 : i < (dueL m R 0 t).length := by rw [due_len]; exact hi'
      obtain ⟨_, g1'⟩ := List.getElem?_eq_some_iff.mp g1
      obtain ⟨_, g2'⟩ := List.getElem?_eq_some_iff.mp g2
      unfold Lq
      simp (maxDischargeDepth := 12) [hk, g1', g2', g3, l1, l2]
  have e8 : m_law_s8 (Lq ns m R l (some (.ref k)) (some (rTask t)) (some (.tup (rInts (dueL m R 0 t)))) x9 x10 x11 x12 x13) U = .nx (Lq ns m R l (some (.ref (sl U))) (some (rTask t)) (some (.tup (rInts (dueL m R 0 t)))) x9 x10 x11 x12 x13) (sp U (.lst (rInts (duL m R (r ++ [t]))))) := by
    have er : rngOf1 [.int (m : Nat)] U = .ok ⟨rangeL 0 m, fun _ => True⟩ U := rng_nat m rfl (by omega)
    unfold m_law_s8
    unfold Lq at el ⊢
    simp (maxDischargeDepth := 12) [er, el]
  unfold m_law_b1
  rw [sK_app, seq_nx e7, e8]
  rfl
theorem due_loop {k : Nat} (hw : IsW U 2 m R) (hl : ∀ t, t ∈ l → TaskOk R t) (hk : sg U k = some (.lst (rInts (duL m R [])))) (hk2 : 2 ≤ k) (hU2 : 2 ≤ sl U) :
    ∃ (k' : Nat) (x7' : Option Val) (T : Store), forLoop (fun _ => True) (gN 7) m_law_b1 (l.map rTask) (Lq ns m R l (some (.ref k)) x7 none x9 x10 x11 x12 x13) U = .nx (Lq ns m R l (some (.ref k')) x7' none x9 x10 x11 x12 x13) T ∧ Grow U T ∧ sg T k' = some (.lst (rInts (duL m R l))) ∧ 2 ≤ k' := by
  obtain ⟨L', T, e, k', x7', rfl, G, h, hk'⟩ := forLoop_nx (keep := fun _ => True) (g := gN 7) (b := m_law_b1)
    (fun i L T => ∃ k' x7', L = Lq ns m R l (some (.ref k')) x7' none x9 x10 x11 x12 x13 ∧ Grow U T ∧ sg T k' = some (.lst (rInts (duL m R (l.take i)))) ∧ 2 ≤ k')
    (xs := l.map rTask) (L := Lq ns m R l (some (.ref k)) x7 none x9 x10 x11 x12 x13) (S := U) ⟨k, x7, rfl, Grow.refl U, hk, hk2⟩ (fun _ _ _ _ _ => trivial) (fun i x L T hx q => by
      obtain ⟨k', x7', rfl, G, h, hk'⟩ := q
      rw [List.getElem?_map] at hx
      obtain ⟨t, ht, rfl⟩ := Option.map_eq_some_iff.mp hx
      have WT : IsW T 2 m R := ⟨G.sg hw.at_, hw.wf⟩
      have e := due_body (ns := ns) (l := l) (x := .non) (x9 := x9) (x10 := x10) (x11 := x11) (x12 := x12) (x13 := x13) WT (hl t (List.mem_of_getElem? ht)) h
      have et : l.take (i + 1) = l.take i ++ [t] := by rw [List.take_add_one, ht]; rfl
      refine ⟨_, T, _, _, rfl, .inl e, _, _, rfl, G.trans (Grow.sp _ _), ?_, by have := G.1; omega⟩
      rw [et]
      exact sg_sp_new)
  rw [List.length_map, List.take_length] at h
  exact ⟨k', x7', T, e, G, h, hk'⟩
/-! ### the plain run, house by house -/
theorem plain_loop {S0 : Store} {p a : Nat} {ds : List Nat} {rl : List (Nat × Task)} (h2 : 2 ≤ sl S0) (I : LSt S0 p m ds (List.replicate m []) U) (hr : ∀ x, x ∈ rl → x.1 < m) (hz : rl.length < 100000) (ha : sg U a = some (.lst (rl.map rDone))) (hap : ¬ a ∈ ds) :
    ∃ (x7' x11' : Option Val) (T : Store), forLoop (fun S' => sg S' a = some (.lst (rl.map rDone))) (gTup (gsCons (gN 11) (gsCons (gN 7) gsNil))) m_law_b2 (rl.map rDone) (Lq ns m R l x6 x7 x8 x9 (some (.ref p)) x11 none x13) U = .nx (Lq ns m R l x6 x7' x8 x9 (some (.ref p)) x11' none x13) T ∧ LSt S0 p m ds (rl.foldl put (List.replicate m [])) T ∧ sl T = sl U ∧ ∀ i, ¬ i ∈ ds → sg T i = sg U i := by
  have short : ∀ (i h : Nat), (((rl.take i).foldl put (List.replicate m [])).getD h []).length ≤ 0 + rl.length := by
    intro i h
    have a1 := one_le (h := h) ((rl.take i).foldl put (List.replicate m [])) 0
    rw [restF_puts _ _ (fun x hx => by rw [List.length_replicate]; exact hr x (List.mem_of_mem_take hx)), restF_empty] at a1
    have a2 : doneS (fun _ _ => 1) (rl.take i) ≤ rl.length := by
      have : ∀ q : List (Nat × Task), doneS (fun _ _ => 1) q = q.length := by
        intro q
        induction q with
        | nil => rfl
        | cons x q ih =>
          have : doneS (fun _ _ => 1) (x :: q) = 1 + doneS (fun _ _ => 1) q := rfl
          rw [this, ih, List.length_cons]
          omega
      rw [this, List.length_take]
      omega
    omega
  obtain ⟨L', T, e, x7', x11', rfl, J, h1, h3⟩ := forLoop_nx (keep := fun S' => sg S' a = some (.lst (rl.map rDone))) (g := gTup (gsCons (gN 11) (gsCons (gN 7) gsNil))) (b := m_law_b2)
    (fun i L T => ∃ x7' x11', L = Lq ns m R l x6 x7' x8 x9 (some (.ref p)) x11' none x13 ∧ LSt S0 p m ds ((rl.take i).foldl put (List.replicate m [])) T ∧ sl T = sl U ∧ ∀ i, ¬ i ∈ ds → sg T i = sg U i)
    (xs := rl.map rDone) (L := Lq ns m R l x6 x7 x8 x9 (some (.ref p)) x11 none x13) (S := U) ⟨x7, x11, rfl, I, rfl, fun _ _ => rfl⟩ (fun i L T _ q => by
      obtain ⟨_, _, _, _, _, h3⟩ := q
      rw [h3 a hap]
      exact ha) (fun i x L T hx q => by
      obtain ⟨x7', x11', rfl, J, h1, h3⟩ := q
      rw [List.getElem?_map] at hx
      obtain ⟨y, hy, rfl⟩ := Option.map_eq_some_iff.mp hx
      obtain ⟨h, t⟩ := y
      have hh : h < m := hr _ (List.mem_of_getElem? hy)
      have cl : ((rl.take i).foldl put (List.replicate m ([] : List Task))).length = m := by rw [puts_len]; simp
      obtain ⟨k, e1, e2, e3⟩ := J.bags.ref (i := h) (by rw [cl]; exact hh)
      have J' := J.put h2 (t := t) e1
      have et : rl.take (i + 1) = rl.take i ++ [(h, t)] := by rw [List.take_add_one, hy]; rfl
      have e4 : (ds.map Val.ref)[h]? = some (.ref k) := by rw [List.getElem?_map, e1]; rfl
      have e0 := J.bags.at_
      have hcz' := short i h
      obtain ⟨cc, hcc⟩ : ∃ cc, cc = ((rl.take i).foldl put (List.replicate m [])).getD h [] := ⟨_, rfl⟩
      rw [← hcc] at e2 hcz' J'
      have hcz2 : cc.length < 16777216 := by omega
      refine ⟨Lq ns m R l x6 (some (rTask t)) x8 x9 (some (.ref p)) (some (.int h)) none x13, T, Lq ns m R l x6 (some (rTask t)) x8 x9 (some (.ref p)) (some (.int h)) none x13, ss T k (.lst ((cc ++ [t]).map rTask)), ?_, .inl ?_, _, _, rfl, ?_, by rw [sl_ss]; exact h1, fun j hj => ?_⟩
      · unfold rDone Lq
        simp (maxDischargeDepth := 12)
      · unfold m_law_b2 m_law_s12 m_law_s13 Lq
        simp (maxDischargeDepth := 12) [e0, e4, e1, e2, hcz2]
      · rw [et, List.foldl_append]
        exact J'
      · rw [sg_ss_ne (fun z => hj (by rw [z]; exact List.mem_of_getElem? e1))]
        exact h3 j hj)
  rw [List.length_map, List.take_length] at J
  exact ⟨x7', x11', T, e, J, h1, h3⟩
end
end K04

/-! K04I: the two runs compared with the plain one. -/
namespace K04
open Mp KQ KW KA KP KS
open PySem (Str)
def tp (t : Task) : Int × Int := ((t.1 : Nat), (t.2 : Nat))
def srt (g : List Task) : List Val := (sortP (g.map tp)).map pv
theorem tasks_pv (g : List Task) : g.map rTask = (g.map tp).map pv := by rw [List.map_map]; rfl
theorem AtL_map {α : Type} {T : Store} {f : α → Nat} {g : α → List Val} : ∀ xs : List α, (∀ x, x ∈ xs → sg T (f x) = some (.lst (g x))) → AtL T (xs.map f) (xs.map g)
  | [], _ => trivial
  | x :: xs, h => ⟨h x (List.mem_cons_self ..), AtL_map xs fun y hy => h y (List.mem_cons_of_mem _ hy)⟩
section
variable {ns : List Int} {m : Nat} {R : List Rule} {l : List Task} {U T : Store} {x6 x7 x8 x9 x10 x11 x12 x13 : Option Val} {df p : Nat} {ds dp : List Nat} {c d : List (List Task)}
theorem bags_range (B : Bags U df ds c) (hc : c.length = m) : ds.map Val.ref = (List.range m).map fun j => Val.ref (ds.getD j 0) := by
  have hl : ds.length = m := by rw [B.len, hc]
  apply List.ext_getElem?
  intro i
  rw [List.getElem?_map, List.getElem?_map]
  by_cases hi : i < m
  · rw [List.getElem?_range hi, List.getElem?_eq_getElem (by omega)]
    simp [List.getD_eq_getElem?_getD, (by omega : i < ds.length)]
  · rw [List.getElem?_eq_none (by omega), List.getElem?_eq_none (by simpa using hi)]
    rfl
theorem bags_at (B : Bags U df ds c) (hc : c.length = m) {j : Nat} (hj : j < m) : sg U (ds.getD j 0) = some (.lst ((c.getD j []).map rTask)) := by
  have hl : ds.length = m := by rw [B.len, hc]
  refine B.each j _ ?_
  rw [List.getD_eq_getElem?_getD, List.getElem?_eq_getElem (by omega)]
  rfl
theorem lens_loop {keep : Store → Prop} {L : Loc} (hL : 15 < L.length) (hk : keep U) (hm : m ≤ 6) (B : Bags U df ds c) (hc : c.length = m) :
    lcLoop keep L (gN 15) tYes (mB fLen (aCons (mV 15) aNil)) (ds.map Val.ref) [] U = .ok (rInts ((List.range m).map fun j => (c.getD j []).length)) U := by
  rw [lc_map' (fun (j : Nat) => Val.ref (ds.getD j 0)) (fun j => .int ((c.getD j []).length : Nat)) (List.range m) (bags_range B hc) hk (by rw [List.length_range]; unfold LIM; omega) ?_]
  · unfold rInts
    rw [List.map_map]
    rfl
  · intro j hj
    have hj' : j < m := by simpa using hj
    have e := bags_at B hc hj'
    obtain ⟨q, hq⟩ : ∃ q, q = ds.getD j 0 := ⟨_, rfl⟩
    obtain ⟨g, hg⟩ : ∃ g, g = c.getD j [] := ⟨_, rfl⟩
    rw [← hq, ← hg] at e ⊢
    have g15 : (L.set 15 (some (.ref q)))[15]? = some (some (.ref q)) := List.getElem?_set_self hL
    simp (maxDischargeDepth := 12) [getL_some g15, e]
theorem s15_ok {k : Nat} (hm : m ≤ 6) (B : Bags U df ds c) (hc : c.length = m) (hk : sg U k = some (.lst (rInts (duL m R l)))) (hd : ∀ j, j < m → (c.getD j []).length = duS m R l j) :
    m_law_s15 (Lq ns m R l (some (.ref k)) x7 x8 x9 x10 x11 x12 (some (.ref df))) U = .nx (Lq ns m R l (some (.ref k)) x7 x8 x9 x10 x11 x12 (some (.ref df))) U := by
  have e0 := B.at_
  have el := lens_loop (keep := fun S' => sg S' df = some (.lst (ds.map Val.ref))) (L := Lq ns m R l (some (.ref k)) x7 x8 x9 x10 x11 x12 (some (.ref df))) (by simp [Lq]) e0 hm B hc
  have ee : (List.range m).map (fun j => (c.getD j []).length) = duL m R l := by
    unfold duL
    apply List.map_congr_left
    intro j hj
    exact hd j (by simpa using hj)
  rw [ee] at el
  obtain ⟨o, ho⟩ : ∃ o, o = Ob.lst (rInts (duL m R l)) := ⟨_, rfl⟩
  have hk' : sg (sp U o) k = some (.lst (rInts (duL m R l))) := by rw [sg_sp_lt (sg_lt hk)]; exact hk
  have eq := (eq_lists (S := sp U o) (a := sl U) (c := k) (xs := rInts (duL m R l)) (by rw [sg_sp_new, ho]) hk' (fun x hx => by
    obtain ⟨n, _, rfl⟩ := List.mem_map.mp hx
    simp)).2
  have G : GcOk U (sp U o) := gcOk_grow (Grow.sp _ _)
  have hs : sp U (Ob.lst (rInts (duL m R l))) = sp U o := by rw [ho]
  unfold m_law_s15
  unfold Lq at el ⊢
  simp (maxDischargeDepth := 12) [e0, el, hs, eq, G]
theorem sorts_loop {keep : Store → Prop} {L : Loc} (hL : 15 < L.length) (hk : ∀ T, Grow U T → keep T) (hm : m ≤ 6) (B : Bags U df ds c) (hc : c.length = m) :
    ∃ T, lcLoop keep L (gN 15) tYes (mB fSortP (aCons (mV 15) aNil)) (ds.map Val.ref) [] U = .ok ((List.range m).map fun j => Val.ref (sl U + j)) T ∧ sl T = sl U + m ∧ Grow U T ∧ ∀ j, j < m → sg T (sl U + j) = some (.lst (srt (c.getD j []))) := by
  obtain ⟨ws, T, e, rfl, h1, h2, h3⟩ := lcLoop_inv (keep := keep) (L := L) (g := gN 15) (c := tYes) (e := mB fSortP (aCons (mV 15) aNil)) (fun i acc T => acc = ((List.range i).map fun j => Val.ref (sl U + j)) ∧ sl T = sl U + i ∧ Grow U T ∧ ∀ j, j < i → sg T (sl U + j) = some (.lst (srt (c.getD j [])))) (xs := ds.map Val.ref) (S := U)
    ⟨rfl, rfl, Grow.refl U, fun j hj => by omega⟩ (fun _ _ T _ q => hk T q.2.2.1) (fun i x acc T hx q => by
      obtain ⟨rfl, h1, h2, h3⟩ := q
      rw [bags_range B hc, List.getElem?_map] at hx
      obtain ⟨j, hj, rfl⟩ := Option.map_eq_some_iff.mp hx
      have him : i < m := by
        have := (List.getElem?_eq_some_iff.mp hj).1
        simpa using this
      rw [List.getElem?_range him] at hj
      cases hj
      have e := h2.sg (bags_at B hc him)
      obtain ⟨q, hq⟩ : ∃ q, q = ds.getD i 0 := ⟨_, rfl⟩
      rw [← hq, tasks_pv] at e
      have es := fSortP_ref e
      rw [← hq]
      have g15 : (L.set 15 (some (.ref q)))[15]? = some (some (.ref q)) := List.getElem?_set_self hL
      refine ⟨L.set 15 (some (.ref q)), T, T, rfl, .inl ⟨rfl, .ref (sl T), sp T (.lst (srt (c.getD i []))), ?_, by rw [List.length_map, List.length_range]; unfold LIM; omega, ?_, by rw [sl_sp]; omega, h2.trans (Grow.sp T _), fun j hj => ?_⟩⟩
      · unfold srt
        simp (maxDischargeDepth := 12) [getL_some g15, es]
      · rw [List.range_succ, List.map_append, h1]; rfl
      · by_cases q : j = i
        · subst q
          exact sg_sp_new' (by omega)
        · rw [sg_sp_lt (by omega)]; exact h3 j (by omega))
  have hl : (ds.map Val.ref).length = m := by rw [List.length_map, B.len, hc]
  rw [hl] at h1 h3 e
  exact ⟨T, e, h1, h2, h3⟩
theorem s17_ok (hm : m ≤ 6) (B : Bags U df ds c) (hc : c.length = m) (D : Bags U p dp d) (hd : d.length = m) (hp : ∀ k, (c.getD k []).Perm (d.getD k [])) :
    m_law_s17 (Lq ns m R l x6 x7 x8 x9 (some (.ref p)) x11 x12 (some (.ref df))) U = .nx (Lq ns m R l x6 x7 x8 x9 (some (.ref p)) x11 x12 (some (.ref df))) U := by
  have e0 := B.at_
  obtain ⟨T1, e1, l1, g1, h1⟩ := sorts_loop (keep := fun S' => sg S' df = some (.lst (ds.map Val.ref))) (L := Lq ns m R l x6 x7 x8 x9 (some (.ref p)) x11 x12 (some (.ref df))) (by simp [Lq]) (fun T g => g.sg e0) hm B hc
  obtain ⟨T2, hT2⟩ : ∃ T2, T2 = sp T1 (.lst ((List.range m).map fun j => Val.ref (sl U + j))) := ⟨_, rfl⟩
  have g2 : Grow U T2 := by rw [hT2]; exact g1.trans (Grow.sp _ _)
  have l2 : sl T2 = sl U + m + 1 := by rw [hT2, sl_sp, l1]
  have D2 : Bags T2 p dp d := Bags.grow D fun i o h _ => g2.sg h
  have d0 := D2.at_
  obtain ⟨T3, e3, l3, g3, h3⟩ := sorts_loop (keep := fun S' => sg S' p = some (.lst (dp.map Val.ref))) (L := Lq ns m R l x6 x7 x8 x9 (some (.ref p)) x11 x12 (some (.ref df))) (by simp [Lq]) (fun T g => g.sg d0) hm D2 hd
  obtain ⟨T4, hT4⟩ : ∃ T4, T4 = sp T3 (.lst ((List.range m).map fun j => Val.ref (sl T2 + j))) := ⟨_, rfl⟩
  have g4 : Grow T3 T4 := by rw [hT4]; exact Grow.sp _ _
  have g24 : Grow T2 T4 := g3.trans g4
  have q1 : sg T4 (sl T1) = some (.lst (((List.range m).map fun j => sl U + j).map Val.ref)) := by
    refine g24.sg ?_
    rw [hT2, List.map_map]
    exact sg_sp_new
  have q2 : sg T4 (sl T3) = some (.lst (((List.range m).map fun j => sl T2 + j).map Val.ref)) := by
    rw [hT4, List.map_map]
    exact sg_sp_new
  have a1 : AtL T4 ((List.range m).map fun j => sl U + j) ((List.range m).map fun j => srt (c.getD j [])) := AtL_map _ fun j hj => by
    have hj' : j < m := by simpa using hj
    refine g24.sg ?_
    rw [hT2, sg_sp_lt (by omega)]
    exact h1 j hj'
  have a2 : AtL T4 ((List.range m).map fun j => sl T2 + j) ((List.range m).map fun j => srt (c.getD j [])) := AtL_map _ fun j hj => by
    have hj' : j < m := by simpa using hj
    have e : srt (c.getD j []) = srt (d.getD j []) := by
      unfold srt
      rw [sortP_of_perm ((hp j).map tp)]
    rw [e]
    exact g4.sg (h3 j hj')
  have eq := (eq_lists2 q1 q2 a1 a2 (fun cc hcc x hx => by
    obtain ⟨j, _, rfl⟩ := List.mem_map.mp hcc
    obtain ⟨y, _, rfl⟩ := List.mem_map.mp hx
    simp [pv])).2
  have G : GcOk U T4 := gcOk_grow (g2.trans g24)
  have C : cut (sl U) T4 = U := cut_grow (g2.trans g24)
  have hT2' := hT2.symm
  have hT4' := hT4.symm
  unfold m_law_s17
  unfold Lq at e1 e3 ⊢
  simp (maxDischargeDepth := 12) [e0, e1, hT2', d0, e3, hT4', eq, G, C]
theorem b3_ok {k : Nat} (hm : m ≤ 6) (B : Bags U df ds c) (hc : c.length = m) (hk : sg U k = some (.lst (rInts (duL m R l)))) (hdu : ∀ j, j < m → (c.getD j []).length = duS m R l j)
    (D : Bags U p dp d) (hd : d.length = m) (hp : ∀ k, (c.getD k []).Perm (d.getD k [])) :
    m_law_b3 (Lq ns m R l (some (.ref k)) x7 x8 x9 (some (.ref p)) x11 x12 (some (.ref df))) U = .nx (Lq ns m R l (some (.ref k)) x7 x8 x9 (some (.ref p)) x11 x12 none) U := by
  have e1 := s15_ok (ns := ns) (R := R) (l := l) (x7 := x7) (x8 := x8) (x9 := x9) (x10 := some (.ref p)) (x11 := x11) (x12 := x12) hm B hc hk hdu
  have e2 := s17_ok (ns := ns) (R := R) (l := l) (x6 := some (.ref k)) (x7 := x7) (x8 := x8) (x9 := x9) (x11 := x11) (x12 := x12) hm B hc D hd hp
  unfold m_law_b3
  rw [sK_app, seq_nx e1, e2]
  rfl
end
end K04

/-! K04J: the law. -/
namespace K04
open Mp KQ KW KA KP KS
open PySem (Str)
section
variable {ns : List Int} {m : Nat} {R : List Rule} {l : List Task}
theorem fresh_LSt {S0 T1 : Store} (H : Hand S0) (l2 : sl T1 = sl S0 + m) (g2 : Grow S0 T1) (h3 : ∀ j, j < m → sg T1 (sl S0 + j) = some (.lst [])) :
    LSt S0 (sl T1) m ((List.range m).map fun j => sl S0 + j) (List.replicate m []) (sp T1 (.lst ((List.range m).map fun j => Val.ref (sl S0 + j)))) := by
  have g02 : Grow S0 (sp T1 (.lst ((List.range m).map fun j => Val.ref (sl S0 + j)))) := g2.trans (Grow.sp _ _)
  refine ⟨H.of (g02.2 _ H.lt) (g02.2 _ H.pos), g02.keep 1, ⟨?_, by simp, ?_, ?_, fun j k hk => ?_⟩, fun k hk => ?_, by omega⟩
  · rw [List.map_map]
    exact sg_sp_new
  · rw [List.Nodup, List.pairwise_map]
    exact (List.nodup_range (n := m)).imp fun {x y} h e => h (by omega)
  · intro hk
    obtain ⟨j, hj, e⟩ := List.mem_map.mp hk
    have := List.mem_range.mp hj
    omega
  · rw [List.getElem?_map] at hk
    obtain ⟨j', hj', rfl⟩ := Option.map_eq_some_iff.mp hk
    have hjm : j < m := by
      have := (List.getElem?_eq_some_iff.mp hj').1
      simpa using this
    rw [List.getElem?_range hjm] at hj'
    cases hj'
    have : (List.replicate m ([] : List Task)).getD j [] = [] := by simp [List.getD_eq_getElem?_getD, hjm]
    rw [this, sg_sp_lt (by omega)]
    exact h3 j hjm
  · obtain ⟨j, _, rfl⟩ := List.mem_map.mp hk
    omega
theorem LSt.bound {S0 T : Store} {df m : Nat} {ds : List Nat} {c : List (List Task)} (I : LSt S0 df m ds c T) : df < sl T ∧ (∀ k, k ∈ ds → k < sl T) := by
  refine ⟨sg_lt I.bags.at_, fun k hk => ?_⟩
  obtain ⟨i, hi⟩ := List.getElem?_of_mem hk
  exact sg_lt (I.bags.each i k hi)
/-- a run's lists stand while other things are laid and drawn -/
theorem LSt.stay {S0 T U : Store} {df m : Nat} {ds : List Nat} {c : List (List Task)} (h2 : 2 ≤ sl S0) (I : LSt S0 df m ds c T) (K : ∀ i, i < sl T → ¬ i = 1 → sg U i = sg T i) : Bags U df ds c :=
  Bags.grow I.bags fun i o h hi => by
    have b := I.bound
    rw [K i (sg_lt h) (by
      rcases hi with rfl | hi
      · have := I.dfn; omega
      · have := I.new i hi; omega)]
    exact h
/-- what a run has done, house by house: as many as are due -/
theorem len_due {c : List (List Task)} (W : WfR m R) (hl : ∀ t, t ∈ l → TaskOk R t) (hA : ∀ a G, Wt m R a G → restF a 0 c = restF G 0 (l :: List.replicate (m - 1) [])) {j : Nat} (hj : j < m) : (c.getD j []).length = duS m R l j := by
  have e := hA _ _ (due_wt W hj)
  rw [restF_len] at e
  rw [if_pos (Nat.zero_le _), Nat.sub_zero] at e
  rw [e]
  show (l.map ((fun h t => nth (dueL m R h t) j : Nat → Task → Nat) 0)).sum + restF _ 1 (List.replicate (m - 1) []) = _
  rw [restF_empty]
  rfl
theorem same_plain {c : List (List Task)} (W : WfR m R) (hl : ∀ t, t ∈ l → TaskOk R t) (hs : sumT m R l ≤ 60) (hA : ∀ a G, Wt m R a G → restF a 0 c = restF G 0 (l :: List.replicate (m - 1) [])) (k : Nat) :
    (c.getD k []).Perm (((runL m R 20000 (l :: List.replicate (m - 1) [])).foldl put (List.replicate m [])).getD k []) := by
  have B : BagsOk m R (l :: List.replicate (m - 1) []) := ⟨(start_ok W hl).len, (start_ok W hl).bags⟩
  refine perm_of (fun a => ?_) k
  have A := V_wt (a := a) W
  have e2 := run_rest W A 20000 _ B (by rw [rest_start]; omega)
  rw [hA _ _ A, restF_puts _ _ (fun x hx => ?_), restF_empty, e2]
  · omega
  · rw [List.length_replicate]
    exact runL_house W 20000 _ B x hx
where
  runL_house (W : WfR m R) : ∀ (n : Nat) (b : List (List Task)), BagsOk m R b → ∀ x, x ∈ runL m R n b → x.1 < m
  | 0, b, _, x, hx => by simp [runL] at hx
  | n + 1, b, B, x, hx => by
    unfold runL at hx
    cases e : working m b with
    | nil => rw [e] at hx; cases hx
    | cons k r =>
      obtain ⟨h1, h2⟩ := working_head e
      rw [e] at hx
      cases e2 : b.getD k [] with
      | nil => rw [e2] at h2; simp at h2
      | cons t g =>
        have hl : k < b.length := by rw [B.1]; exact h1
        have e3 : b.getD k [] = b[k] := by simp [hl]
        have ht : TaskOk R t := B.2 _ (List.getElem_mem hl) t (by rw [← e3, e2]; simp)
        simp only [e2] at hx
        rcases List.mem_cons.mp hx with rfl | hx
        · exact h1
        · exact runL_house W n _ (after_ok W B h1 ht) x hx
end
theorem law_ok (ns : List Int) : ∃ S, m_law [.fl ns] [] = .ok (.bl true) S := by
  obtain ⟨S, e, H, l2⟩ := hand_spec ns
  obtain ⟨m, R, o, e1, h1, W⟩ := some_works_spec H
  have hm1 := W.m1
  have hm6 := W.m6
  have lS : sl (ss S 1 o) = 2 := by rw [sl_ss, l2]
  have e2 := works_make (S := ss S 1 o) W
  rw [lS] at e2
  obtain ⟨S1, hS1⟩ : ∃ S1, S1 = sp (ss S 1 o) (worksO m R) := ⟨_, rfl⟩
  rw [← hS1] at e2
  have lS1 : sl S1 = 3 := by rw [hS1]; simp [l2]
  have H1 : Hand S1 := by rw [hS1]; exact h1.1.sp _
  have W1 : IsW S1 2 m R := ⟨by rw [hS1]; exact sg_sp_new' lS.symm, W⟩
  -- given
  obtain ⟨l, o4, e4, h4, hl, hl20, hs60⟩ := law_given_spec (q := 60) H1 W (by decide)
  have hs : sumT m R l ≤ 60 := by omega
  obtain ⟨S2, hS2⟩ : ∃ S2, S2 = ss S1 1 o4 := ⟨_, rfl⟩
  rw [← hS2] at e4
  have lS2 : sl S2 = 3 := by rw [hS2]; simp [lS1]
  have H2 : Hand S2 := by rw [hS2]; exact h4.1
  have W2 : IsW S2 2 m R := ⟨by rw [hS2, sg_ss_ne (by decide)]; exact W1.at_, W⟩
  -- due
  obtain ⟨U, hU⟩ : ∃ U, U = sp S2 (.lst (rInts (duL m R []))) := ⟨_, rfl⟩
  have gU : Grow S2 U := by rw [hU]; exact Grow.sp _ _
  have hk0 : sg U 3 = some (.lst (rInts (duL m R []))) := by rw [hU]; exact sg_sp_new' lS2.symm
  have WU : IsW U 2 m R := ⟨gU.sg W2.at_, W⟩
  obtain ⟨k, x7, T3, e6, g3, hk, hk2⟩ := due_loop (ns := ns) (x7 := none) (x9 := none) (x10 := none) (x11 := none) (x12 := none) (x13 := none) WU hl hk0 (by decide) (by have := gU.1; omega)
  have H3 : Hand T3 := H2.of ((gU.trans g3).2 _ H2.lt) ((gU.trans g3).2 _ H2.pos)
  have W3 : IsW T3 2 m R := ⟨g3.sg WU.at_, W⟩
  have l3 : 2 ≤ sl T3 := by have := (gU.trans g3).1; omega
  -- the first run
  obtain ⟨df1, ds1, c1, T4, r1, I1, hc1, hA1⟩ := led_spec (md := 0) l3 H3 (by decide) W3 (by decide) hl hl20 hs
  obtain ⟨q, o5, e5, q0, q1, h5⟩ := take_spec (S := T4) (m := 2) I1.hand (by decide) (by decide)
  obtain ⟨q, rfl⟩ : ∃ n : Nat, q = n := ⟨q.toNat, by omega⟩
  have l4 : 2 ≤ sl (ss T4 1 o5) := by rw [sl_ss]; have := I1.keep.1; omega
  have W4 : IsW (ss T4 1 o5) 2 m R := ⟨by rw [sg_ss_ne (by decide)]; exact (I1.works (by decide) W3).at_, W⟩
  obtain ⟨df2, ds2, c2, T5, r2, I2, hc2, hA2⟩ := led_spec (md := 1 + q) l4 h5.1 (by decide) W4 (by omega) hl hl20 hs
  have W5 := I2.works (by decide) W4
  obtain ⟨T6, hT6⟩ : ∃ T6, T6 = sp T5 (.lst [.ref df1, .ref df2]) := ⟨_, rfl⟩
  have g6 : Grow T5 T6 := by rw [hT6]; exact Grow.sp _ _
  have a6 : sg T6 (sl T5) = some (.lst [.ref df1, .ref df2]) := by rw [hT6]; exact sg_sp_new
  have H6 : Hand T6 := I2.hand.of (g6.2 _ I2.hand.lt) (g6.2 _ I2.hand.pos)
  have l6 : 2 ≤ sl T6 := by have := I2.keep.1; have := g6.1; omega
  -- the plain run
  obtain ⟨T7, e7, l7, g7, h7⟩ := fresh_lists (S := T6) (L := Lq ns m R l (some (.ref k)) x7 none (some (.ref (sl T5))) none none none none) 11 m (by omega)
  have I8 := fresh_LSt (m := m) H6 l7 g7 h7
  obtain ⟨T8, hT8⟩ : ∃ T8, T8 = sp T7 (.lst ((List.range m).map fun j => Val.ref (sl T6 + j))) := ⟨_, rfl⟩
  rw [← hT8] at I8
  have g8 : Grow T6 T8 := by rw [hT8]; exact g7.trans (Grow.sp _ _)
  have W8 : IsW T8 2 m R := ⟨(g6.trans g8).sg W5.at_, W⟩
  have e8 := plain_run_eq W8 hl (by omega) hl20
  obtain ⟨rl, hrl⟩ : ∃ rl, rl = runL m R 20000 (l :: List.replicate (m - 1) []) := ⟨_, rfl⟩
  rw [← hrl] at e8
  have B0 : BagsOk m R (l :: List.replicate (m - 1) []) := ⟨(start_ok W hl).len, (start_ok W hl).bags⟩
  have hrz : rl.length ≤ 60 := by
    have := runL_len W 20000 _ B0 (by rw [rest_start]; omega)
    rw [hrl, this, rest_start]
    exact hs
  have hrh : ∀ x, x ∈ rl → x.1 < m := by rw [hrl]; exact same_plain.runL_house W 20000 _ B0
  obtain ⟨T9, hT9⟩ : ∃ T9, T9 = sp T8 (.lst (rl.map rDone)) := ⟨_, rfl⟩
  rw [← hT9] at e8
  have g9 : Grow T8 T9 := by rw [hT9]; exact Grow.sp _ _
  have a9 : sg T9 (sl T8) = some (.lst (rl.map rDone)) := by rw [hT9]; exact sg_sp_new
  have I9 := I8.grow g9
  obtain ⟨x7', x11', T10, e10, I10, l10, k10⟩ := plain_loop (ns := ns) (R := R) (l := l) (x6 := some (.ref k)) (x7 := x7) (x8 := none) (x9 := some (.ref (sl T5))) (x11 := none) (x13 := none) l6 I9 hrh (by omega) a9 (fun hm => by
    have := (I8.bound).2 _ hm
    omega)
  have new8 : ∀ i, i < sl T6 → ¬ i ∈ (List.range m).map fun j => sl T6 + j := fun i hi hm => by
    have := I8.new i hm
    omega
  -- all of it stands at the end
  have st : ∀ i, i < sl T6 → sg T10 i = sg T6 i := fun i hi => by rw [k10 i (new8 i hi), (g8.trans g9).2 i hi]
  have B1 : Bags T10 df1 ds1 c1 := I1.stay l3 fun i hi hn => by
    have hi4 : i < sl (ss T4 1 o5) := by rw [sl_ss]; exact hi
    have := I2.keep.1
    rw [st i (by have := g6.1; omega), g6.2 i (by omega), I2.keep.2 i hi4 hn, sg_ss_ne hn]
  have B2 : Bags T10 df2 ds2 c2 := I2.stay l4 fun i hi hn => by rw [st i (by have := g6.1; omega), g6.2 i hi]
  have hkT : k < sl T3 := sg_lt hk
  have hk10 : sg T10 k = some (.lst (rInts (duL m R l))) := by
    have a1 := I1.keep.1
    have a2 := I2.keep.1
    rw [sl_ss] at a2
    rw [st k (by have := g6.1; omega), g6.2 k (by omega), I2.keep.2 k (by rw [sl_ss]; omega) (by omega), sg_ss_ne (by omega), I1.keep.2 k hkT (by omega)]
    exact hk
  have a10 : sg T10 (sl T5) = some (.lst [.ref df1, .ref df2]) := by rw [st _ (by rw [hT6]; simp)]; exact a6
  have hpc : (rl.foldl put (List.replicate m ([] : List Task))).length = m := by rw [puts_len]; simp
  have p1 : ∀ k, (c1.getD k []).Perm ((rl.foldl put (List.replicate m [])).getD k []) := fun k => by rw [hrl]; exact same_plain W hl hs hA1 k
  have p2 : ∀ k, (c2.getD k []).Perm ((rl.foldl put (List.replicate m [])).getD k []) := fun k => by rw [hrl]; exact same_plain W hl hs hA2 k
  have b1 := fun x12 => b3_ok (ns := ns) (R := R) (l := l) (x7 := x7') (x8 := none) (x9 := some (.ref (sl T5))) (x11 := x11') (x12 := x12) hm6 B1 hc1 hk10 (fun j hj => len_due W hl hA1 hj) I10.bags hpc p1
  have b2 := fun x12 => b3_ok (ns := ns) (R := R) (l := l) (x7 := x7') (x8 := none) (x9 := some (.ref (sl T5))) (x11 := x11') (x12 := x12) hm6 B2 hc2 hk10 (fun j hj => len_due W hl hA2 hj) I10.bags hpc p2
  -- statement by statement
  have E1 : m_law_s1 [some (.fl ns), none, none, none, none, none, none, none, none, none, none, none, none, none, none, none] [] = .nx [some (.fl ns), some (.ref 1), none, none, none, none, none, none, none, none, none, none, none, none, none, none] S := by
    unfold m_law_s1
    simp (maxDischargeDepth := 12) [e]
  have E2 : m_law_s2 [some (.fl ns), some (.ref 1), none, none, none, none, none, none, none, none, none, none, none, none, none, none] S = .nx [some (.fl ns), some (.ref 1), some (.int m), some (rRules R), none, none, none, none, none, none, none, none, none, none, none, none] (ss S 1 o) := by
    unfold m_law_s2
    simp (maxDischargeDepth := 12) [e1]
  have E3 : m_law_s3 [some (.fl ns), some (.ref 1), some (.int m), some (rRules R), none, none, none, none, none, none, none, none, none, none, none, none] (ss S 1 o) = .nx [some (.fl ns), some (.ref 1), some (.int m), some (rRules R), some (.ref 2), none, none, none, none, none, none, none, none, none, none, none] S1 := by
    unfold m_law_s3
    simp (maxDischargeDepth := 12) [e2, -fMake_app]
  have E4 : m_law_s4 [some (.fl ns), some (.ref 1), some (.int m), some (rRules R), some (.ref 2), none, none, none, none, none, none, none, none, none, none, none] S1 = .nx (Lq ns m R l none none none none none none none none) S2 := by
    unfold m_law_s4 Lq
    simp (maxDischargeDepth := 12) [e4]
  have er : (List.replicate m [Val.int 0]).flatten = rInts (duL m R []) := by
    rw [rep_flat]
    unfold rInts duL
    rw [List.map_map]
    have : (fun (x : Nat) => Val.int (x : Nat)) ∘ duS m R [] = fun _ => Val.int 0 := by
      funext i
      rfl
    rw [this, List.map_const', List.length_range]
  have E5 : m_law_s5 (Lq ns m R l none none none none none none none none) S2 = .nx (Lq ns m R l (some (.ref 3)) none none none none none none none) U := by
    have b1 : (-1000 : Int) ≤ m := by omega
    have b2 : (m : Int) ≤ 1000 := by omega
    have hU' := hU.symm
    unfold m_law_s5 Lq
    simp (maxDischargeDepth := 12) [b1, b2, er, lS2, hU']
  have E6 : m_law_s6 (Lq ns m R l (some (.ref 3)) none none none none none none none) U = .nx (Lq ns m R l (some (.ref k)) x7 none none none none none none) T3 := by
    unfold m_law_s6
    unfold Lq at e6 ⊢
    simp (maxDischargeDepth := 12) [rTasks] at e6 ⊢
    exact e6
  have E9 : m_law_s9 (Lq ns m R l (some (.ref k)) x7 none none none none none none) T3 = .nx (Lq ns m R l (some (.ref k)) x7 none (some (.ref (sl T5))) none none none none) T6 := by
    have hT6' := hT6.symm
    unfold m_law_s9 Lq
    have r1' : m_law_led [.ref 1, .ref 2, .int m, rRules R, rTasks l, .int 0] T3 = .ok (.ref df1) T4 := r1
    have r2' : m_law_led [.ref 1, .ref 2, .int m, rRules R, rTasks l, .int (1 + (q : Nat))] (ss T4 1 o5) = .ok (.ref df2) T5 := by
      have : ((1 + q : Nat) : Int) = 1 + (q : Int) := by omega
      rw [← this]
      exact r2
    simp (maxDischargeDepth := 12) [r1', e5, r2', hT6']
  have E10 : m_law_s10 (Lq ns m R l (some (.ref k)) x7 none (some (.ref (sl T5))) none none none none) T6 = .nx (Lq ns m R l (some (.ref k)) x7 none (some (.ref (sl T5))) (some (.ref (sl T7))) none none none) T8 := by
    have er : rngOf1 [.int (m : Nat)] T6 = .ok ⟨rangeL 0 m, fun _ => True⟩ T6 := rng_nat m rfl (by omega)
    have hT8' := hT8.symm
    unfold m_law_s10
    unfold Lq at e7 ⊢
    simp (maxDischargeDepth := 12) [er, e7, hT8']
  have E11 : m_law_s11 (Lq ns m R l (some (.ref k)) x7 none (some (.ref (sl T5))) (some (.ref (sl T7))) none none none) T8 = .nx (Lq ns m R l (some (.ref k)) x7' none (some (.ref (sl T5))) (some (.ref (sl T7))) x11' none none) T10 := by
    unfold m_law_s11
    unfold Lq at e10 ⊢
    simp (maxDischargeDepth := 12) [e8, a9, e10]
  have E14 : m_law_s14 (Lq ns m R l (some (.ref k)) x7' none (some (.ref (sl T5))) (some (.ref (sl T7))) x11' none none) T10 = .nx (Lq ns m R l (some (.ref k)) x7' none (some (.ref (sl T5))) (some (.ref (sl T7))) x11' none none) T10 := by
    have e1 := b1 none
    have e2 := b2 none
    obtain ⟨L', T', ef, rfl, rfl⟩ := forLoop_nx (keep := fun S' => sg S' (sl T5) = some (.lst [.ref df1, .ref df2])) (g := gN 13) (b := m_law_b3)
      (fun _ L T => L = Lq ns m R l (some (.ref k)) x7' none (some (.ref (sl T5))) (some (.ref (sl T7))) x11' none none ∧ T = T10) (xs := [.ref df1, .ref df2]) (L := Lq ns m R l (some (.ref k)) x7' none (some (.ref (sl T5))) (some (.ref (sl T7))) x11' none none) (S := T10)
      ⟨rfl, rfl⟩ (fun i L T _ q => by rw [q.2]; exact a10) (fun i x L T hx q => by
        obtain ⟨rfl, rfl⟩ := q
        rcases List.mem_cons.mp (List.mem_of_getElem? hx) with rfl | hx
        · exact ⟨_, T, _, T, rfl, .inl e1, rfl, rfl⟩
        · have := List.mem_singleton.mp hx
          subst this
          exact ⟨_, T, _, T, rfl, .inl e2, rfl, rfl⟩)
    unfold m_law_s14
    unfold Lq at ef ⊢
    simp (maxDischargeDepth := 12) [a10, ef]
  refine ⟨T10, ?_⟩
  unfold m_law
  show endF (sSeq m_law_s1 _ [some (.fl ns), none, none, none, none, none, none, none, none, none, none, none, none, none, none, none] []) = _
  rw [seq_nx E1, seq_nx E2, seq_nx E3, seq_nx E4, seq_nx E5, seq_nx E6, seq_nx E9, seq_nx E10, seq_nx E11, seq_nx E14]
  rfl
end K04

set_option maxHeartbeats 8000000
namespace K04
open PySem PySem.Spec L2 Mp
theorem all_mk {P : Program} {w : World} {K : PySem.W.Frag} {h : Heap} {mg : Str → Option Value} {fa : Addr} (X : K.In h) (G : h.Ns mainGlobals mg) (hfa : mg "law" = some (.ref fa))
    {C_Works E_NoGiven E_NoHouse E_NoStanding E_NoTask E_NothingThere E_TooMany E_QuietError : Addr} {f0 f1 f2 f3 f4 f5 f6 f7 f8 f9 f10 f11 f12 f13 f14 f15 f16 f17 f18 f19 f20 f21 f22 f23 f24 f25 f26 f27 f28 f29 f30 f31 f32 f33 f34 f35 f36 f37 f38 f39 f40 f41 f42 f43 f44 f45 f46 f47 : Addr} {od0 an0 od1 an1 od2 an2 od3 an3 od4 an4 od5 an5 od6 an6 od7 an7 od8 an8 od9 an9 od10 an10 od11 an11 od12 an12 od13 an13 od14 an14 od15 an15 od16 an16 od17 an17 od18 an18 od19 an19 od20 an20 od21 an21 od22 an22 od23 an23 od24 an24 od25 an25 od26 an26 od27 an27 od28 an28 od29 an29 od30 an30 od31 an31 od32 an32 od33 an33 od34 an34 od35 an35 od36 an36 od37 an37 od38 an38 od39 an39 od40 an40 od41 an41 od42 an42 od43 an43 od44 an44 od45 an45 od46 an46 od47 an47 : Option Addr} {sl0 sl1 sl2 sl3 sl4 sl5 sl6 sl7 sl8 sl9 sl10 sl11 sl12 sl13 sl14 sl15 sl16 sl17 sl18 sl19 sl20 sl21 sl22 sl23 sl24 sl25 sl26 sl27 sl28 sl29 sl30 sl31 sl32 sl33 sl34 sl35 sl36 sl37 sl38 sl39 sl40 sl41 sl42 sl43 sl44 sl45 sl46 sl47 : Array (Option Value)} {oc0 kV0 dc0 pm0 cd0 ct0 oc1 kV1 dc1 pm1 cd1 ct1 oc2 kV2 dc2 pm2 cd2 ct2 oc3 kV3 dc3 pm3 cd3 ct3 oc4 kV4 dc4 pm4 cd4 ct4 oc5 kV5 dc5 pm5 cd5 ct5 oc6 kV6 dc6 pm6 cd6 ct6 oc7 kV7 dc7 pm7 cd7 ct7 oc8 kV8 dc8 pm8 cd8 ct8 oc9 kV9 dc9 pm9 cd9 ct9 oc10 kV10 dc10 pm10 cd10 ct10 oc11 kV11 dc11 pm11 cd11 ct11 oc12 kV12 dc12 pm12 cd12 ct12 oc13 kV13 dc13 pm13 cd13 ct13 oc14 kV14 dc14 pm14 cd14 ct14 oc15 kV15 dc15 pm15 cd15 ct15 oc16 kV16 dc16 pm16 cd16 ct16 oc17 kV17 dc17 pm17 cd17 ct17 oc18 kV18 dc18 pm18 cd18 ct18 oc19 kV19 dc19 pm19 cd19 ct19 oc20 kV20 dc20 pm20 cd20 ct20 oc21 kV21 dc21 pm21 cd21 ct21 oc22 kV22 dc22 pm22 cd22 ct22 oc23 kV23 dc23 pm23 cd23 ct23 oc24 kV24 dc24 pm24 cd24 ct24 oc25 kV25 dc25 pm25 cd25 ct25 oc26 kV26 dc26 pm26 cd26 ct26 oc27 kV27 dc27 pm27 cd27 ct27 oc28 kV28 dc28 pm28 cd28 ct28 oc29 kV29 dc29 pm29 cd29 ct29 oc30 kV30 dc30 pm30 cd30 ct30 oc31 kV31 dc31 pm31 cd31 ct31 oc32 kV32 dc32 pm32 cd32 ct32 oc33 kV33 dc33 pm33 cd33 ct33 oc34 kV34 dc34 pm34 cd34 ct34 oc35 kV35 dc35 pm35 cd35 ct35 oc36 kV36 dc36 pm36 cd36 ct36 oc37 kV37 dc37 pm37 cd37 ct37 oc38 kV38 dc38 pm38 cd38 ct38 oc39 kV39 dc39 pm39 cd39 ct39 oc40 kV40 dc40 pm40 cd40 ct40 oc41 kV41 dc41 pm41 cd41 ct41 oc42 kV42 dc42 pm42 cd42 ct42 oc43 kV43 dc43 pm43 cd43 ct43 oc44 kV44 dc44 pm44 cd44 ct44 oc45 kV45 dc45 pm45 cd45 ct45 oc46 kV46 dc46 pm46 cd46 ct46 oc47 kV47 dc47 pm47 cd47 ct47 : Value}
    {nm_TooMany q_q_TooMany : Str} {NN_TooMany fI_TooMany : Addr} {bs_TooMany sub_TooMany : List Value} {sn_TooMany : List Str} {ab_TooMany : Bool} {col_TooMany : Option Bool} {dd_TooMany od_TooMany an_TooMany : Option Addr} {m0_TooMany m1_TooMany m2_TooMany m3_TooMany m5_TooMany : Option Value} {oc_TooMany dc_TooMany pm_TooMany cd_TooMany ct_TooMany : Value} {sl_TooMany : Array (Option Value)}
    (a_Works : PySem.W.nsIn K mainGlobals "Works" = some (some (.ref C_Works)))
    (pg_Works : PySem.W.plainGet K C_Works Str.empty = true)
    (hd_Works : PySem.W.hasDictIn K C_Works = true)
    (po_Works : PySem.W.plainOver K C_Works = true)
    (sa_Works : PySem.W.findIn K (.ref C_Works) "__setattr__" = some (some (.builtin "object.__setattr__")))
    (mk_Works : PySem.W.makesIn K C_Works = true)
    (kc_Works : PySem.W.keepIn K (.ref C_Works) = true)
    (n_Works_many : PySem.W.findIn K (.ref C_Works) "many" = some none)
    (n_Works_rules : PySem.W.findIn K (.ref C_Works) "rules" = some none)
    (a0 : PySem.W.nsIn K mainGlobals "_law_hand" = some (some (.ref f0)))
    (l0 : K.lookup f0 = some ⟨oc0, od0, .func (PySem.W.fnOf "_law_hand" "_law_hand" (defArgs st_m_law_hand) (defBody st_m_law_hand) (defScope st_m_law_hand) .none kV0 dc0 pm0 an0 cd0 ct0), sl0⟩)
    (c0 : PySem.W.codeIn K cd0 "_law_hand" = true)
    (k0 : PySem.W.keepIn K (.ref f0) = true)
    (a1 : PySem.W.nsIn K mainGlobals "_law_take" = some (some (.ref f1)))
    (l1 : K.lookup f1 = some ⟨oc1, od1, .func (PySem.W.fnOf "_law_take" "_law_take" (defArgs st_m_law_take) (defBody st_m_law_take) (defScope st_m_law_take) .none kV1 dc1 pm1 an1 cd1 ct1), sl1⟩)
    (c1 : PySem.W.codeIn K cd1 "_law_take" = true)
    (k1 : PySem.W.keepIn K (.ref f1) = true)
    (a2 : PySem.W.nsIn K mainGlobals "_law_pick" = some (some (.ref f2)))
    (l2 : K.lookup f2 = some ⟨oc2, od2, .func (PySem.W.fnOf "_law_pick" "_law_pick" (defArgs st_m_law_pick) (defBody st_m_law_pick) (defScope st_m_law_pick) .none kV2 dc2 pm2 an2 cd2 ct2), sl2⟩)
    (c2 : PySem.W.codeIn K cd2 "_law_pick" = true)
    (k2 : PySem.W.keepIn K (.ref f2) = true)
    (a3 : PySem.W.nsIn K mainGlobals "_law_rules" = some (some (.ref f3)))
    (l3 : K.lookup f3 = some ⟨oc3, od3, .func (PySem.W.fnOf "_law_rules" "_law_rules" (defArgs st_m_law_rules) (defBody st_m_law_rules) (defScope st_m_law_rules) .none kV3 dc3 pm3 an3 cd3 ct3), sl3⟩)
    (c3 : PySem.W.codeIn K cd3 "_law_rules" = true)
    (k3 : PySem.W.keepIn K (.ref f3) = true)
    (a4 : PySem.W.nsIn K mainGlobals "_law_some_works" = some (some (.ref f4)))
    (l4 : K.lookup f4 = some ⟨oc4, od4, .func (PySem.W.fnOf "_law_some_works" "_law_some_works" (defArgs st_m_law_some_works) (defBody st_m_law_some_works) (defScope st_m_law_some_works) .none kV4 dc4 pm4 an4 cd4 ct4), sl4⟩)
    (c4 : PySem.W.codeIn K cd4 "_law_some_works" = true)
    (k4 : PySem.W.keepIn K (.ref f4) = true)
    (a5 : PySem.W.nsIn K mainGlobals "is_integer" = some (some (.ref f5)))
    (l5 : K.lookup f5 = some ⟨oc5, od5, .func (PySem.W.fnOf "is_integer" "is_integer" (defArgs st_m_is_integer) (defBody st_m_is_integer) (defScope st_m_is_integer) .none kV5 dc5 pm5 an5 cd5 ct5), sl5⟩)
    (c5 : PySem.W.codeIn K cd5 "is_integer" = true)
    (k5 : PySem.W.keepIn K (.ref f5) = true)
    (a6 : PySem.W.nsIn K mainGlobals "is_within" = some (some (.ref f6)))
    (l6 : K.lookup f6 = some ⟨oc6, od6, .func (PySem.W.fnOf "is_within" "is_within" (defArgs st_m_is_within) (defBody st_m_is_within) (defScope st_m_is_within) .none kV6 dc6 pm6 an6 cd6 ct6), sl6⟩)
    (c6 : PySem.W.codeIn K cd6 "is_within" = true)
    (k6 : PySem.W.keepIn K (.ref f6) = true)
    (a7 : PySem.W.nsIn K mainGlobals "is_sized" = some (some (.ref f7)))
    (l7 : K.lookup f7 = some ⟨oc7, od7, .func (PySem.W.fnOf "is_sized" "is_sized" (defArgs st_m_is_sized) (defBody st_m_is_sized) (defScope st_m_is_sized) .none kV7 dc7 pm7 an7 cd7 ct7), sl7⟩)
    (c7 : PySem.W.codeIn K cd7 "is_sized" = true)
    (k7 : PySem.W.keepIn K (.ref f7) = true)
    (a8 : PySem.W.nsIn K mainGlobals "is_below" = some (some (.ref f8)))
    (l8 : K.lookup f8 = some ⟨oc8, od8, .func (PySem.W.fnOf "is_below" "is_below" (defArgs st_m_is_below) (defBody st_m_is_below) (defScope st_m_is_below) .none kV8 dc8 pm8 an8 cd8 ct8), sl8⟩)
    (c8 : PySem.W.codeIn K cd8 "is_below" = true)
    (k8 : PySem.W.keepIn K (.ref f8) = true)
    (a9 : PySem.W.nsIn K mainGlobals "is_pair" = some (some (.ref f9)))
    (l9 : K.lookup f9 = some ⟨oc9, od9, .func (PySem.W.fnOf "is_pair" "is_pair" (defArgs st_m_is_pair) (defBody st_m_is_pair) (defScope st_m_is_pair) .none kV9 dc9 pm9 an9 cd9 ct9), sl9⟩)
    (c9 : PySem.W.codeIn K cd9 "is_pair" = true)
    (k9 : PySem.W.keepIn K (.ref f9) = true)
    (a10 : PySem.W.nsIn K mainGlobals "is_rule" = some (some (.ref f10)))
    (l10 : K.lookup f10 = some ⟨oc10, od10, .func (PySem.W.fnOf "is_rule" "is_rule" (defArgs st_m_is_rule) (defBody st_m_is_rule) (defScope st_m_is_rule) .none kV10 dc10 pm10 an10 cd10 ct10), sl10⟩)
    (c10 : PySem.W.codeIn K cd10 "is_rule" = true)
    (k10 : PySem.W.keepIn K (.ref f10) = true)
    (a11 : PySem.W.findIn K (.ref C_Works) "__init__" = some (some (.ref f11)))
    (i11 : PySem.W.isFn K (.ref f11) = true)
    (l11 : K.lookup f11 = some ⟨oc11, od11, .func (PySem.W.fnOf "__init__" "Works.__init__" (defArgs st_m_Works___init__) (defBody st_m_Works___init__) (defScope st_m_Works___init__) .none kV11 dc11 pm11 an11 cd11 ct11), sl11⟩)
    (c11 : PySem.W.codeIn K cd11 "Works.__init__" = true)
    (k11 : PySem.W.keepIn K (.ref f11) = true)
    (a12 : PySem.W.nsIn K mainGlobals "_law_task" = some (some (.ref f12)))
    (l12 : K.lookup f12 = some ⟨oc12, od12, .func (PySem.W.fnOf "_law_task" "_law_task" (defArgs st_m_law_task) (defBody st_m_law_task) (defScope st_m_law_task) .none kV12 dc12 pm12 an12 cd12 ct12), sl12⟩)
    (c12 : PySem.W.codeIn K cd12 "_law_task" = true)
    (k12 : PySem.W.keepIn K (.ref f12) = true)
    (a13 : PySem.W.nsIn K mainGlobals "_law_sent" = some (some (.ref f13)))
    (l13 : K.lookup f13 = some ⟨oc13, od13, .func (PySem.W.fnOf "_law_sent" "_law_sent" (defArgs st_m_law_sent) (defBody st_m_law_sent) (defScope st_m_law_sent) .none kV13 dc13 pm13 an13 cd13 ct13), sl13⟩)
    (c13 : PySem.W.codeIn K cd13 "_law_sent" = true)
    (k13 : PySem.W.keepIn K (.ref f13) = true)
    (a14 : PySem.W.nsIn K mainGlobals "_law_counts" = some (some (.ref f14)))
    (l14 : K.lookup f14 = some ⟨oc14, od14, .func (PySem.W.fnOf "_law_counts" "_law_counts" (defArgs st_m_law_counts) (defBody st_m_law_counts) (defScope st_m_law_counts) .none kV14 dc14 pm14 an14 cd14 ct14), sl14⟩)
    (c14 : PySem.W.codeIn K cd14 "_law_counts" = true)
    (k14 : PySem.W.keepIn K (.ref f14) = true)
    (a15 : PySem.W.nsIn K mainGlobals "_law_total" = some (some (.ref f15)))
    (l15 : K.lookup f15 = some ⟨oc15, od15, .func (PySem.W.fnOf "_law_total" "_law_total" (defArgs st_m_law_total) (defBody st_m_law_total) (defScope st_m_law_total) .none kV15 dc15 pm15 an15 cd15 ct15), sl15⟩)
    (c15 : PySem.W.codeIn K cd15 "_law_total" = true)
    (k15 : PySem.W.keepIn K (.ref f15) = true)
    (a16 : PySem.W.nsIn K mainGlobals "_law_given" = some (some (.ref f16)))
    (l16 : K.lookup f16 = some ⟨oc16, od16, .func (PySem.W.fnOf "_law_given" "_law_given" (defArgs st_m_law_given) (defBody st_m_law_given) (defScope st_m_law_given) .none kV16 dc16 pm16 an16 cd16 ct16), sl16⟩)
    (c16 : PySem.W.codeIn K cd16 "_law_given" = true)
    (k16 : PySem.W.keepIn K (.ref f16) = true)
    (a17 : PySem.W.nsIn K mainGlobals "is_right_task" = some (some (.ref f17)))
    (l17 : K.lookup f17 = some ⟨oc17, od17, .func (PySem.W.fnOf "is_right_task" "is_right_task" (defArgs st_m_is_right_task) (defBody st_m_is_right_task) (defScope st_m_is_right_task) .none kV17 dc17 pm17 an17 cd17 ct17), sl17⟩)
    (c17 : PySem.W.codeIn K cd17 "is_right_task" = true)
    (k17 : PySem.W.keepIn K (.ref f17) = true)
    (a18 : PySem.W.nsIn K mainGlobals "are_tasks" = some (some (.ref f18)))
    (l18 : K.lookup f18 = some ⟨oc18, od18, .func (PySem.W.fnOf "are_tasks" "are_tasks" (defArgs st_m_are_tasks) (defBody st_m_are_tasks) (defScope st_m_are_tasks) .none kV18 dc18 pm18 an18 cd18 ct18), sl18⟩)
    (c18 : PySem.W.codeIn K cd18 "are_tasks" = true)
    (k18 : PySem.W.keepIn K (.ref f18) = true)
    (a19 : PySem.W.nsIn K mainGlobals "check_given" = some (some (.ref f19)))
    (l19 : K.lookup f19 = some ⟨oc19, od19, .func (PySem.W.fnOf "check_given" "check_given" (defArgs st_m_check_given) (defBody st_m_check_given) (defScope st_m_check_given) .none kV19 dc19 pm19 an19 cd19 ct19), sl19⟩)
    (c19 : PySem.W.codeIn K cd19 "check_given" = true)
    (k19 : PySem.W.keepIn K (.ref f19) = true)
    (a20 : PySem.W.nsIn K mainGlobals "letters_of" = some (some (.ref f20)))
    (l20 : K.lookup f20 = some ⟨oc20, od20, .func (PySem.W.fnOf "letters_of" "letters_of" (defArgs st_m_letters_of) (defBody st_m_letters_of) (defScope st_m_letters_of) .none kV20 dc20 pm20 an20 cd20 ct20), sl20⟩)
    (c20 : PySem.W.codeIn K cd20 "letters_of" = true)
    (k20 : PySem.W.keepIn K (.ref f20) = true)
    (a21 : PySem.W.nsIn K mainGlobals "replaced" = some (some (.ref f21)))
    (l21 : K.lookup f21 = some ⟨oc21, od21, .func (PySem.W.fnOf "replaced" "replaced" (defArgs st_m_replaced) (defBody st_m_replaced) (defScope st_m_replaced) .none kV21 dc21 pm21 an21 cd21 ct21), sl21⟩)
    (c21 : PySem.W.codeIn K cd21 "replaced" = true)
    (k21 : PySem.W.keepIn K (.ref f21) = true)
    (a22 : PySem.W.nsIn K mainGlobals "table_of" = some (some (.ref f22)))
    (l22 : K.lookup f22 = some ⟨oc22, od22, .func (PySem.W.fnOf "table_of" "table_of" (defArgs st_m_table_of) (defBody st_m_table_of) (defScope st_m_table_of) .none kV22 dc22 pm22 an22 cd22 ct22), sl22⟩)
    (c22 : PySem.W.codeIn K cd22 "table_of" = true)
    (k22 : PySem.W.keepIn K (.ref f22) = true)
    (a23 : PySem.W.nsIn K mainGlobals "many_of" = some (some (.ref f23)))
    (l23 : K.lookup f23 = some ⟨oc23, od23, .func (PySem.W.fnOf "many_of" "many_of" (defArgs st_m_many_of) (defBody st_m_many_of) (defScope st_m_many_of) .none kV23 dc23 pm23 an23 cd23 ct23), sl23⟩)
    (c23 : PySem.W.codeIn K cd23 "many_of" = true)
    (k23 : PySem.W.keepIn K (.ref f23) = true)
    (a24 : PySem.W.nsIn K mainGlobals "plain_run" = some (some (.ref f24)))
    (l24 : K.lookup f24 = some ⟨oc24, od24, .func (PySem.W.fnOf "plain_run" "plain_run" (defArgs st_m_plain_run) (defBody st_m_plain_run) (defScope st_m_plain_run) .none kV24 dc24 pm24 an24 cd24 ct24), sl24⟩)
    (c24 : PySem.W.codeIn K cd24 "plain_run" = true)
    (k24 : PySem.W.keepIn K (.ref f24) = true)
    (a25 : PySem.W.nsIn K mainGlobals "check_house" = some (some (.ref f25)))
    (l25 : K.lookup f25 = some ⟨oc25, od25, .func (PySem.W.fnOf "check_house" "check_house" (defArgs st_m_check_house) (defBody st_m_check_house) (defScope st_m_check_house) .none kV25 dc25 pm25 an25 cd25 ct25), sl25⟩)
    (c25 : PySem.W.codeIn K cd25 "check_house" = true)
    (k25 : PySem.W.keepIn K (.ref f25) = true)
    (a26 : PySem.W.nsIn K mainGlobals "check_task" = some (some (.ref f26)))
    (l26 : K.lookup f26 = some ⟨oc26, od26, .func (PySem.W.fnOf "check_task" "check_task" (defArgs st_m_check_task) (defBody st_m_check_task) (defScope st_m_check_task) .none kV26 dc26 pm26 an26 cd26 ct26), sl26⟩)
    (c26 : PySem.W.codeIn K cd26 "check_task" = true)
    (k26 : PySem.W.keepIn K (.ref f26) = true)
    (a27 : PySem.W.nsIn K mainGlobals "tasks_of" = some (some (.ref f27)))
    (l27 : K.lookup f27 = some ⟨oc27, od27, .func (PySem.W.fnOf "tasks_of" "tasks_of" (defArgs st_m_tasks_of) (defBody st_m_tasks_of) (defScope st_m_tasks_of) .none kV27 dc27 pm27 an27 cd27 ct27), sl27⟩)
    (c27 : PySem.W.codeIn K cd27 "tasks_of" = true)
    (k27 : PySem.W.keepIn K (.ref f27) = true)
    (a28 : PySem.W.nsIn K mainGlobals "begun" = some (some (.ref f28)))
    (l28 : K.lookup f28 = some ⟨oc28, od28, .func (PySem.W.fnOf "begun" "begun" (defArgs st_m_begun) (defBody st_m_begun) (defScope st_m_begun) .none kV28 dc28 pm28 an28 cd28 ct28), sl28⟩)
    (c28 : PySem.W.codeIn K cd28 "begun" = true)
    (k28 : PySem.W.keepIn K (.ref f28) = true)
    (a29 : PySem.W.nsIn K mainGlobals "first_standing" = some (some (.ref f29)))
    (l29 : K.lookup f29 = some ⟨oc29, od29, .func (PySem.W.fnOf "first_standing" "first_standing" (defArgs st_m_first_standing) (defBody st_m_first_standing) (defScope st_m_first_standing) .none kV29 dc29 pm29 an29 cd29 ct29), sl29⟩)
    (c29 : PySem.W.codeIn K cd29 "first_standing" = true)
    (k29 : PySem.W.keepIn K (.ref f29) = true)
    (a30 : PySem.W.nsIn K mainGlobals "is_way" = some (some (.ref f30)))
    (l30 : K.lookup f30 = some ⟨oc30, od30, .func (PySem.W.fnOf "is_way" "is_way" (defArgs st_m_is_way) (defBody st_m_is_way) (defScope st_m_is_way) .none kV30 dc30 pm30 an30 cd30 ct30), sl30⟩)
    (c30 : PySem.W.codeIn K cd30 "is_way" = true)
    (k30 : PySem.W.keepIn K (.ref f30) = true)
    (a31 : PySem.W.nsIn K mainGlobals "is_right_standing" = some (some (.ref f31)))
    (l31 : K.lookup f31 = some ⟨oc31, od31, .func (PySem.W.fnOf "is_right_standing" "is_right_standing" (defArgs st_m_is_right_standing) (defBody st_m_is_right_standing) (defScope st_m_is_right_standing) .none kV31 dc31 pm31 an31 cd31 ct31), sl31⟩)
    (c31 : PySem.W.codeIn K cd31 "is_right_standing" = true)
    (k31 : PySem.W.keepIn K (.ref f31) = true)
    (a32 : PySem.W.nsIn K mainGlobals "check_standing" = some (some (.ref f32)))
    (l32 : K.lookup f32 = some ⟨oc32, od32, .func (PySem.W.fnOf "check_standing" "check_standing" (defArgs st_m_check_standing) (defBody st_m_check_standing) (defScope st_m_check_standing) .none kV32 dc32 pm32 an32 cd32 ct32), sl32⟩)
    (c32 : PySem.W.codeIn K cd32 "check_standing" = true)
    (k32 : PySem.W.keepIn K (.ref f32) = true)
    (a33 : PySem.W.nsIn K mainGlobals "still_to_do" = some (some (.ref f33)))
    (l33 : K.lookup f33 = some ⟨oc33, od33, .func (PySem.W.fnOf "still_to_do" "still_to_do" (defArgs st_m_still_to_do) (defBody st_m_still_to_do) (defScope st_m_still_to_do) .none kV33 dc33 pm33 an33 cd33 ct33), sl33⟩)
    (c33 : PySem.W.codeIn K cd33 "still_to_do" = true)
    (k33 : PySem.W.keepIn K (.ref f33) = true)
    (a34 : PySem.W.nsIn K mainGlobals "_law_choices" = some (some (.ref f34)))
    (l34 : K.lookup f34 = some ⟨oc34, od34, .func (PySem.W.fnOf "_law_choices" "_law_choices" (defArgs st_m_law_choices) (defBody st_m_law_choices) (defScope st_m_law_choices) .none kV34 dc34 pm34 an34 cd34 ct34), sl34⟩)
    (c34 : PySem.W.codeIn K cd34 "_law_choices" = true)
    (k34 : PySem.W.keepIn K (.ref f34) = true)
    (a35 : PySem.W.nsIn K mainGlobals "_law_model" = some (some (.ref f35)))
    (l35 : K.lookup f35 = some ⟨oc35, od35, .func (PySem.W.fnOf "_law_model" "_law_model" (defArgs st_m_law_model) (defBody st_m_law_model) (defScope st_m_law_model) .none kV35 dc35 pm35 an35 cd35 ct35), sl35⟩)
    (c35 : PySem.W.codeIn K cd35 "_law_model" = true)
    (k35 : PySem.W.keepIn K (.ref f35) = true)
    (a36 : PySem.W.nsIn K mainGlobals "with_way" = some (some (.ref f36)))
    (l36 : K.lookup f36 = some ⟨oc36, od36, .func (PySem.W.fnOf "with_way" "with_way" (defArgs st_m_with_way) (defBody st_m_with_way) (defScope st_m_with_way) .none kV36 dc36 pm36 an36 cd36 ct36), sl36⟩)
    (c36 : PySem.W.codeIn K cd36 "with_way" = true)
    (k36 : PySem.W.keepIn K (.ref f36) = true)
    (a37 : PySem.W.nsIn K mainGlobals "on_way" = some (some (.ref f37)))
    (l37 : K.lookup f37 = some ⟨oc37, od37, .func (PySem.W.fnOf "on_way" "on_way" (defArgs st_m_on_way) (defBody st_m_on_way) (defScope st_m_on_way) .none kV37 dc37 pm37 an37 cd37 ct37), sl37⟩)
    (c37 : PySem.W.codeIn K cd37 "on_way" = true)
    (k37 : PySem.W.keepIn K (.ref f37) = true)
    (a38 : PySem.W.nsIn K mainGlobals "after_do" = some (some (.ref f38)))
    (l38 : K.lookup f38 = some ⟨oc38, od38, .func (PySem.W.fnOf "after_do" "after_do" (defArgs st_m_after_do) (defBody st_m_after_do) (defScope st_m_after_do) .none kV38 dc38 pm38 an38 cd38 ct38), sl38⟩)
    (c38 : PySem.W.codeIn K cd38 "after_do" = true)
    (k38 : PySem.W.keepIn K (.ref f38) = true)
    (a39 : PySem.W.nsIn K mainGlobals "done_by" = some (some (.ref f39)))
    (l39 : K.lookup f39 = some ⟨oc39, od39, .func (PySem.W.fnOf "done_by" "done_by" (defArgs st_m_done_by) (defBody st_m_done_by) (defScope st_m_done_by) .none kV39 dc39 pm39 an39 cd39 ct39), sl39⟩)
    (c39 : PySem.W.codeIn K cd39 "done_by" = true)
    (k39 : PySem.W.keepIn K (.ref f39) = true)
    (a40 : PySem.W.nsIn K mainGlobals "after_hear" = some (some (.ref f40)))
    (l40 : K.lookup f40 = some ⟨oc40, od40, .func (PySem.W.fnOf "after_hear" "after_hear" (defArgs st_m_after_hear) (defBody st_m_after_hear) (defScope st_m_after_hear) .none kV40 dc40 pm40 an40 cd40 ct40), sl40⟩)
    (c40 : PySem.W.codeIn K cd40 "after_hear" = true)
    (k40 : PySem.W.keepIn K (.ref f40) = true)
    (a41 : PySem.W.nsIn K mainGlobals "heard_by" = some (some (.ref f41)))
    (l41 : K.lookup f41 = some ⟨oc41, od41, .func (PySem.W.fnOf "heard_by" "heard_by" (defArgs st_m_heard_by) (defBody st_m_heard_by) (defScope st_m_heard_by) .none kV41 dc41 pm41 an41 cd41 ct41), sl41⟩)
    (c41 : PySem.W.codeIn K cd41 "heard_by" = true)
    (k41 : PySem.W.keepIn K (.ref f41) = true)
    (a42 : PySem.W.nsIn K mainGlobals "_law_is_integer" = some (some (.ref f42)))
    (l42 : K.lookup f42 = some ⟨oc42, od42, .func (PySem.W.fnOf "_law_is_integer" "_law_is_integer" (defArgs st_m_law_is_integer) (defBody st_m_law_is_integer) (defScope st_m_law_is_integer) .none kV42 dc42 pm42 an42 cd42 ct42), sl42⟩)
    (c42 : PySem.W.codeIn K cd42 "_law_is_integer" = true)
    (k42 : PySem.W.keepIn K (.ref f42) = true)
    (a43 : PySem.W.nsIn K mainGlobals "_law_same" = some (some (.ref f43)))
    (l43 : K.lookup f43 = some ⟨oc43, od43, .func (PySem.W.fnOf "_law_same" "_law_same" (defArgs st_m_law_same) (defBody st_m_law_same) (defScope st_m_law_same) .none kV43 dc43 pm43 an43 cd43 ct43), sl43⟩)
    (c43 : PySem.W.codeIn K cd43 "_law_same" = true)
    (k43 : PySem.W.keepIn K (.ref f43) = true)
    (a44 : PySem.W.nsIn K mainGlobals "is_all_quiet" = some (some (.ref f44)))
    (l44 : K.lookup f44 = some ⟨oc44, od44, .func (PySem.W.fnOf "is_all_quiet" "is_all_quiet" (defArgs st_m_is_all_quiet) (defBody st_m_is_all_quiet) (defScope st_m_is_all_quiet) .none kV44 dc44 pm44 an44 cd44 ct44), sl44⟩)
    (c44 : PySem.W.codeIn K cd44 "is_all_quiet" = true)
    (k44 : PySem.W.keepIn K (.ref f44) = true)
    (a45 : PySem.W.nsIn K mainGlobals "is_quiet" = some (some (.ref f45)))
    (l45 : K.lookup f45 = some ⟨oc45, od45, .func (PySem.W.fnOf "is_quiet" "is_quiet" (defArgs st_m_is_quiet) (defBody st_m_is_quiet) (defScope st_m_is_quiet) .none kV45 dc45 pm45 an45 cd45 ct45), sl45⟩)
    (c45 : PySem.W.codeIn K cd45 "is_quiet" = true)
    (k45 : PySem.W.keepIn K (.ref f45) = true)
    (a46 : PySem.W.nsIn K mainGlobals "_law_led" = some (some (.ref f46)))
    (l46 : K.lookup f46 = some ⟨oc46, od46, .func (PySem.W.fnOf "_law_led" "_law_led" (defArgs st_m_law_led) (defBody st_m_law_led) (defScope st_m_law_led) .none kV46 dc46 pm46 an46 cd46 ct46), sl46⟩)
    (c46 : PySem.W.codeIn K cd46 "_law_led" = true)
    (k46 : PySem.W.keepIn K (.ref f46) = true)
    (a47 : PySem.W.nsIn K mainGlobals "law" = some (some (.ref f47)))
    (l47 : K.lookup f47 = some ⟨oc47, od47, .func (PySem.W.fnOf "law" "law" (defArgs st_m_law) (defBody st_m_law) (defScope st_m_law) .none kV47 dc47 pm47 an47 cd47 ct47), sl47⟩)
    (c47 : PySem.W.codeIn K cd47 "law" = true)
    (k47 : PySem.W.keepIn K (.ref f47) = true)
    (b_all : PySem.W.nsIn K mainGlobals "all" = some none)
    (b_bool : PySem.W.nsIn K mainGlobals "bool" = some none)
    (b_enumerate : PySem.W.nsIn K mainGlobals "enumerate" = some none)
    (b_int : PySem.W.nsIn K mainGlobals "int" = some none)
    (b_isinstance : PySem.W.nsIn K mainGlobals "isinstance" = some none)
    (b_len : PySem.W.nsIn K mainGlobals "len" = some none)
    (b_list : PySem.W.nsIn K mainGlobals "list" = some none)
    (b_range : PySem.W.nsIn K mainGlobals "range" = some none)
    (b_sorted : PySem.W.nsIn K mainGlobals "sorted" = some none)
    (b_str : PySem.W.nsIn K mainGlobals "str" = some none)
    (b_sum : PySem.W.nsIn K mainGlobals "sum" = some none)
    (b_tuple : PySem.W.nsIn K mainGlobals "tuple" = some none)
    (b_zip : PySem.W.nsIn K mainGlobals "zip" = some none)
    (v_MOST_FUEL : PySem.W.nsIn K mainGlobals "MOST_FUEL" = some (some (.int 12 t_MOST_FUEL)))
    (v_MOST_GIVEN : PySem.W.nsIn K mainGlobals "MOST_GIVEN" = some (some (.int 20 t_MOST_GIVEN)))
    (v_MOST_HOUSES : PySem.W.nsIn K mainGlobals "MOST_HOUSES" = some (some (.int 6 t_MOST_HOUSES)))
    (v_MOST_KINDS : PySem.W.nsIn K mainGlobals "MOST_KINDS" = some (some (.int 6 t_MOST_KINDS)))
    (v_MOST_RUN : PySem.W.nsIn K mainGlobals "MOST_RUN" = some (some (.int 20000 t_MOST_RUN)))
    (v_MOST_SENT : PySem.W.nsIn K mainGlobals "MOST_SENT" = some (some (.int 4 t_MOST_SENT)))
    (a_NoGiven : PySem.W.nsIn K mainGlobals "NoGiven" = some (some (.ref E_NoGiven)))
    (x_NoGiven : PySem.W.excIn K E_NoGiven [.type "ValueError", .type "Exception", .type "BaseException", .type "object"] "ValueError.__new__" = true)
    (k_NoGiven : PySem.W.keepIn K (.ref E_NoGiven) = true)
    (s_NoGiven : PySem.W.subIn K (.ref E_NoGiven) (.type "BaseException") = some true)
    (t_NoGiven : PySem.W.typeIn K (.ref E_NoGiven) = some (.type "type"))
    (a_NoHouse : PySem.W.nsIn K mainGlobals "NoHouse" = some (some (.ref E_NoHouse)))
    (x_NoHouse : PySem.W.excIn K E_NoHouse [.type "ValueError", .type "Exception", .type "BaseException", .type "object"] "ValueError.__new__" = true)
    (k_NoHouse : PySem.W.keepIn K (.ref E_NoHouse) = true)
    (s_NoHouse : PySem.W.subIn K (.ref E_NoHouse) (.type "BaseException") = some true)
    (t_NoHouse : PySem.W.typeIn K (.ref E_NoHouse) = some (.type "type"))
    (a_NoStanding : PySem.W.nsIn K mainGlobals "NoStanding" = some (some (.ref E_NoStanding)))
    (x_NoStanding : PySem.W.excIn K E_NoStanding [.type "ValueError", .type "Exception", .type "BaseException", .type "object"] "ValueError.__new__" = true)
    (k_NoStanding : PySem.W.keepIn K (.ref E_NoStanding) = true)
    (s_NoStanding : PySem.W.subIn K (.ref E_NoStanding) (.type "BaseException") = some true)
    (t_NoStanding : PySem.W.typeIn K (.ref E_NoStanding) = some (.type "type"))
    (a_NoTask : PySem.W.nsIn K mainGlobals "NoTask" = some (some (.ref E_NoTask)))
    (x_NoTask : PySem.W.excIn K E_NoTask [.type "ValueError", .type "Exception", .type "BaseException", .type "object"] "ValueError.__new__" = true)
    (k_NoTask : PySem.W.keepIn K (.ref E_NoTask) = true)
    (s_NoTask : PySem.W.subIn K (.ref E_NoTask) (.type "BaseException") = some true)
    (t_NoTask : PySem.W.typeIn K (.ref E_NoTask) = some (.type "type"))
    (a_NothingThere : PySem.W.nsIn K mainGlobals "NothingThere" = some (some (.ref E_NothingThere)))
    (x_NothingThere : PySem.W.excIn K E_NothingThere [.type "ValueError", .type "Exception", .type "BaseException", .type "object"] "ValueError.__new__" = true)
    (k_NothingThere : PySem.W.keepIn K (.ref E_NothingThere) = true)
    (s_NothingThere : PySem.W.subIn K (.ref E_NothingThere) (.type "BaseException") = some true)
    (t_NothingThere : PySem.W.typeIn K (.ref E_NothingThere) = some (.type "type"))
    (a_TooMany : PySem.W.nsIn K mainGlobals "TooMany" = some (some (.ref E_TooMany)))
    (s_TooMany : PySem.W.subIn K (.ref E_TooMany) (.type "BaseException") = some true)
    (t_TooMany : PySem.W.typeIn K (.ref E_TooMany) = some (.type "type"))
    (xL_TooMany : K.lookup E_TooMany = some (excClassObj nm_TooMany q_q_TooMany E_TooMany NN_TooMany bs_TooMany [.ref E_QuietError, .type "ValueError", .type "Exception", .type "BaseException", .type "object"] true sn_TooMany sub_TooMany ab_TooMany col_TooMany dd_TooMany m0_TooMany m1_TooMany m2_TooMany m3_TooMany m5_TooMany "ValueError.__new__"))
    (sa_TooMany : PySem.W.findIn K (.ref E_TooMany) "__setattr__" = some (some (.builtin "object.__setattr__")))
    (ga_TooMany : PySem.W.findIn K (.ref E_TooMany) "__getattribute__" = some (some (.builtin "BaseException.__getattribute__")))
    (gg_TooMany : PySem.W.findIn K (.ref E_TooMany) "__getattr__" = some none)
    (nb_TooMany : PySem.W.findIn K (.ref E_TooMany) "most" = some none)
    (ai_TooMany : PySem.W.findIn K (.ref E_TooMany) "__init__" = some (some (.ref fI_TooMany)))
    (ti_TooMany : PySem.W.typeIn K (.ref fI_TooMany) = some (.type "function"))
    (li_TooMany : K.lookup fI_TooMany = some ⟨oc_TooMany, od_TooMany, .func (PySem.W.fnOf "__init__" "TooMany.__init__" (PySem.X_most.iA ⟨20, 17, 20, 21⟩ ⟨20, 23, 20, 27⟩) (PySem.X_most.iB ⟨21, 8, 21, 12⟩ ⟨21, 8, 21, 17⟩ ⟨21, 20, 21, 24⟩ ⟨21, 8, 21, 24⟩) PySem.X_most.iS .none .none dc_TooMany pm_TooMany an_TooMany cd_TooMany ct_TooMany), sl_TooMany⟩)
    (ci_TooMany : PySem.W.codeIn K cd_TooMany "TooMany.__init__" = true)
    (k_TooMany : PySem.W.keepIn K (.ref E_TooMany) = true)
    (hC_TooMany : PySem.W.hasDictIn K E_TooMany = true)
    (q_TooMany : PySem.W.isClsIn K E_TooMany = true)
    (sC_TooMany : PySem.W.subIn K (.ref E_TooMany) (.ref E_TooMany) = some true)
    : ∃ fd : FuncData, (∀ (s : Shared) (v : Value), BindsTo s fd ⟨[v], []⟩ [("_law_script", v)]) ∧ ∀ base : Heap, K.In base → base.Ns mainGlobals mg → FnOk P w K mg base (L2.CX P w) 104 fa fd ["_law_script"] (spLaw K) := by
  have e := hfa.symm.trans (PySem.W.mg_of X G a47)
  cases e
  have cls_Works : Cls K C_Works := ⟨pg_Works, hd_Works, po_Works, sa_Works⟩
  have T : Txt K mg := {
    b_all := PySem.W.mg_none_of X G b_all
    b_bool := PySem.W.mg_none_of X G b_bool
    b_enumerate := PySem.W.mg_none_of X G b_enumerate
    b_int := PySem.W.mg_none_of X G b_int
    b_isinstance := PySem.W.mg_none_of X G b_isinstance
    b_len := PySem.W.mg_none_of X G b_len
    b_list := PySem.W.mg_none_of X G b_list
    b_range := PySem.W.mg_none_of X G b_range
    b_sorted := PySem.W.mg_none_of X G b_sorted
    b_str := PySem.W.mg_none_of X G b_str
    b_sum := PySem.W.mg_none_of X G b_sum
    b_tuple := PySem.W.mg_none_of X G b_tuple
    b_zip := PySem.W.mg_none_of X G b_zip
    c_MOST_FUEL := ⟨_, PySem.W.mg_of X G v_MOST_FUEL⟩
    c_MOST_GIVEN := ⟨_, PySem.W.mg_of X G v_MOST_GIVEN⟩
    c_MOST_HOUSES := ⟨_, PySem.W.mg_of X G v_MOST_HOUSES⟩
    c_MOST_KINDS := ⟨_, PySem.W.mg_of X G v_MOST_KINDS⟩
    c_MOST_RUN := ⟨_, PySem.W.mg_of X G v_MOST_RUN⟩
    c_MOST_SENT := ⟨_, PySem.W.mg_of X G v_MOST_SENT⟩
    f_Works_many := ⟨⟨C_Works, PySem.W.mg_of X G a_Works, cls_Works, n_Works_many⟩⟩
    f_Works_rules := ⟨⟨C_Works, PySem.W.mg_of X G a_Works, cls_Works, n_Works_rules⟩⟩
    e_NoGiven := ⟨⟨E_NoGiven, PySem.W.mg_of X G a_NoGiven, x_NoGiven, k_NoGiven, s_NoGiven, t_NoGiven⟩⟩
    e_NoHouse := ⟨⟨E_NoHouse, PySem.W.mg_of X G a_NoHouse, x_NoHouse, k_NoHouse, s_NoHouse, t_NoHouse⟩⟩
    e_NoStanding := ⟨⟨E_NoStanding, PySem.W.mg_of X G a_NoStanding, x_NoStanding, k_NoStanding, s_NoStanding, t_NoStanding⟩⟩
    e_NoTask := ⟨⟨E_NoTask, PySem.W.mg_of X G a_NoTask, x_NoTask, k_NoTask, s_NoTask, t_NoTask⟩⟩
    e_NothingThere := ⟨⟨E_NothingThere, PySem.W.mg_of X G a_NothingThere, x_NothingThere, k_NothingThere, s_NothingThere, t_NothingThere⟩⟩
    low_TooMany := ⟨E_TooMany, fI_TooMany, { gC := PySem.W.mg_of X G a_TooMany, cls := ⟨nm_TooMany, q_q_TooMany, NN_TooMany, bs_TooMany, _, sn_TooMany, sub_TooMany, ab_TooMany, col_TooMany, dd_TooMany, m0_TooMany, m1_TooMany, m2_TooMany, m3_TooMany, m5_TooMany, xL_TooMany, by first | rfl | decide +kernel⟩, sa := sa_TooMany, ga := ga_TooMany, gg := gg_TooMany, noN := nb_TooMany, iC := ai_TooMany, tC := ti_TooMany, kC := k_TooMany, exC := s_TooMany, tyC := t_TooMany, hdC := hC_TooMany, te := exm_of s_TooMany q_TooMany t_TooMany sC_TooMany, fn := ⟨_, _, _, _, _, _, _, _, _, _, _, _, _, _, li_TooMany, ci_TooMany⟩ }⟩ }
  have F0 := fun_mk (st := st_m_law_hand) l0 c0 k0
  have B0 := F0.binds (ps := ["_law_script"]) fun _ _ _ _ _ _ us hl => match us, hl with | [_], _ => rfl
  have F1 := fun_mk (st := st_m_law_take) l1 c1 k1
  have B1 := F1.binds (ps := ["_law_hand_here", "_law_many"]) fun _ _ _ _ _ _ us hl => match us, hl with | [_, _], _ => rfl
  have F2 := fun_mk (st := st_m_law_pick) l2 c2 k2
  have B2 := F2.binds (ps := ["_law_hand_here", "_law_things"]) fun _ _ _ _ _ _ us hl => match us, hl with | [_, _], _ => rfl
  have F3 := fun_mk (st := st_m_law_rules) l3 c3 k3
  have B3 := F3.binds (ps := ["_law_hand_here", "_law_many", "_law_kinds", "_law_most"]) fun _ _ _ _ _ _ us hl => match us, hl with | [_, _, _, _], _ => rfl
  have F4 := fun_mk (st := st_m_law_some_works) l4 c4 k4
  have B4 := F4.binds (ps := ["_law_hand_here"]) fun _ _ _ _ _ _ us hl => match us, hl with | [_], _ => rfl
  have F5 := fun_mk (st := st_m_is_integer) l5 c5 k5
  have B5 := F5.binds (ps := ["thing"]) fun _ _ _ _ _ _ us hl => match us, hl with | [_], _ => rfl
  have F6 := fun_mk (st := st_m_is_within) l6 c6 k6
  have B6 := F6.binds (ps := ["thing", "least", "most"]) fun _ _ _ _ _ _ us hl => match us, hl with | [_, _, _], _ => rfl
  have F7 := fun_mk (st := st_m_is_sized) l7 c7 k7
  have B7 := F7.binds (ps := ["thing", "least", "most"]) fun _ _ _ _ _ _ us hl => match us, hl with | [_, _, _], _ => rfl
  have F8 := fun_mk (st := st_m_is_below) l8 c8 k8
  have B8 := F8.binds (ps := ["thing", "many"]) fun _ _ _ _ _ _ us hl => match us, hl with | [_, _], _ => rfl
  have F9 := fun_mk (st := st_m_is_pair) l9 c9 k9
  have B9 := F9.binds (ps := ["thing"]) fun _ _ _ _ _ _ us hl => match us, hl with | [_], _ => rfl
  have F10 := fun_mk (st := st_m_is_rule) l10 c10 k10
  have B10 := F10.binds (ps := ["many", "kinds", "thing"]) fun _ _ _ _ _ _ us hl => match us, hl with | [_, _, _], _ => rfl
  have F11 := fun_mk (st := st_m_Works___init__) l11 c11 k11
  have B11 := F11.binds (ps := ["self", "many", "rules"]) fun _ _ _ _ _ _ us hl => match us, hl with | [_, _, _], _ => rfl
  have F12 := fun_mk (st := st_m_law_task) l12 c12 k12
  have B12 := F12.binds (ps := ["_law_hand_here", "_law_rules_here", "_law_most"]) fun _ _ _ _ _ _ us hl => match us, hl with | [_, _, _], _ => rfl
  have F13 := fun_mk (st := st_m_law_sent) l13 c13 k13
  have B13 := F13.binds (ps := ["_law_many", "_law_rules_here", "_law_house", "_law_task_here"]) fun _ _ _ _ _ _ us hl => match us, hl with | [_, _, _, _], _ => rfl
  have F14 := fun_mk (st := st_m_law_counts) l14 c14 k14
  have B14 := F14.binds (ps := ["_law_many", "_law_rules_here", "_law_kept", "_law_house", "_law_task_here"]) fun _ _ _ _ _ _ us hl => match us, hl with | [_, _, _, _, _], _ => rfl
  have F15 := fun_mk (st := st_m_law_total) l15 c15 k15
  have B15 := F15.binds (ps := ["_law_many", "_law_rules_here", "_law_kept", "_law_tasks"]) fun _ _ _ _ _ _ us hl => match us, hl with | [_, _, _, _], _ => rfl
  have F16 := fun_mk (st := st_m_law_given) l16 c16 k16
  have B16 := F16.binds (ps := ["_law_hand_here", "_law_many", "_law_rules_here", "_law_most"]) fun _ _ _ _ _ _ us hl => match us, hl with | [_, _, _, _], _ => rfl
  have F17 := fun_mk (st := st_m_is_right_task) l17 c17 k17
  have B17 := F17.binds (ps := ["works", "thing"]) fun _ _ _ _ _ _ us hl => match us, hl with | [_, _], _ => rfl
  have F18 := fun_mk (st := st_m_are_tasks) l18 c18 k18
  have B18 := F18.binds (ps := ["works", "thing"]) fun _ _ _ _ _ _ us hl => match us, hl with | [_, _], _ => rfl
  have F19 := fun_mk (st := st_m_check_given) l19 c19 k19
  have B19 := F19.binds (ps := ["works", "thing"]) fun _ _ _ _ _ _ us hl => match us, hl with | [_, _], _ => rfl
  have F20 := fun_mk (st := st_m_letters_of) l20 c20 k20
  have B20 := F20.binds (ps := ["works", "house", "task"]) fun _ _ _ _ _ _ us hl => match us, hl with | [_, _, _], _ => rfl
  have F21 := fun_mk (st := st_m_replaced) l21 c21 k21
  have B21 := F21.binds (ps := ["items", "number", "item"]) fun _ _ _ _ _ _ us hl => match us, hl with | [_, _, _], _ => rfl
  have F22 := fun_mk (st := st_m_table_of) l22 c22 k22
  have B22 := F22.binds (ps := ["works", "fuel"]) fun _ _ _ _ _ _ us hl => match us, hl with | [_, _], _ => rfl
  have F23 := fun_mk (st := st_m_many_of) l23 c23 k23
  have B23 := F23.binds (ps := ["works", "task"]) fun _ _ _ _ _ _ us hl => match us, hl with | [_, _], _ => rfl
  have F24 := fun_mk (st := st_m_plain_run) l24 c24 k24
  have B24 := F24.binds (ps := ["works", "given"]) fun _ _ _ _ _ _ us hl => match us, hl with | [_, _], _ => rfl
  have F25 := fun_mk (st := st_m_check_house) l25 c25 k25
  have B25 := F25.binds (ps := ["works", "thing"]) fun _ _ _ _ _ _ us hl => match us, hl with | [_, _], _ => rfl
  have F26 := fun_mk (st := st_m_check_task) l26 c26 k26
  have B26 := F26.binds (ps := ["works", "thing"]) fun _ _ _ _ _ _ us hl => match us, hl with | [_, _], _ => rfl
  have F27 := fun_mk (st := st_m_tasks_of) l27 c27 k27
  have B27 := F27.binds (ps := ["works", "house", "task"]) fun _ _ _ _ _ _ us hl => match us, hl with | [_, _, _], _ => rfl
  have F28 := fun_mk (st := st_m_begun) l28 c28 k28
  have B28 := F28.binds (ps := ["works", "given"]) fun _ _ _ _ _ _ us hl => match us, hl with | [_, _], _ => rfl
  have F29 := fun_mk (st := st_m_first_standing) l29 c29 k29
  have B29 := F29.binds (ps := ["works", "given"]) fun _ _ _ _ _ _ us hl => match us, hl with | [_, _], _ => rfl
  have F30 := fun_mk (st := st_m_is_way) l30 c30 k30
  have B30 := F30.binds (ps := ["works", "thing"]) fun _ _ _ _ _ _ us hl => match us, hl with | [_, _], _ => rfl
  have F31 := fun_mk (st := st_m_is_right_standing) l31 c31 k31
  have B31 := F31.binds (ps := ["works", "thing"]) fun _ _ _ _ _ _ us hl => match us, hl with | [_, _], _ => rfl
  have F32 := fun_mk (st := st_m_check_standing) l32 c32 k32
  have B32 := F32.binds (ps := ["works", "thing"]) fun _ _ _ _ _ _ us hl => match us, hl with | [_, _], _ => rfl
  have F33 := fun_mk (st := st_m_still_to_do) l33 c33 k33
  have B33 := F33.binds (ps := ["works", "standing"]) fun _ _ _ _ _ _ us hl => match us, hl with | [_, _], _ => rfl
  have F34 := fun_mk (st := st_m_law_choices) l34 c34 k34
  have B34 := F34.binds (ps := ["_law_model_here"]) fun _ _ _ _ _ _ us hl => match us, hl with | [_], _ => rfl
  have F35 := fun_mk (st := st_m_law_model) l35 c35 k35
  have B35 := F35.binds (ps := ["_law_standing"]) fun _ _ _ _ _ _ us hl => match us, hl with | [_], _ => rfl
  have F36 := fun_mk (st := st_m_with_way) l36 c36 k36
  have B36 := F36.binds (ps := ["ways", "ends", "tasks"]) fun _ _ _ _ _ _ us hl => match us, hl with | [_, _, _], _ => rfl
  have F37 := fun_mk (st := st_m_on_way) l37 c37 k37
  have B37 := F37.binds (ps := ["ways", "ends"]) fun _ _ _ _ _ _ us hl => match us, hl with | [_, _], _ => rfl
  have F38 := fun_mk (st := st_m_after_do) l38 c38 k38
  have B38 := F38.binds (ps := ["works", "standing", "house"]) fun _ _ _ _ _ _ us hl => match us, hl with | [_, _, _], _ => rfl
  have F39 := fun_mk (st := st_m_done_by) l39 c39 k39
  have B39 := F39.binds (ps := ["works", "standing", "house"]) fun _ _ _ _ _ _ us hl => match us, hl with | [_, _, _], _ => rfl
  have F40 := fun_mk (st := st_m_after_hear) l40 c40 k40
  have B40 := F40.binds (ps := ["standing", "house", "sender"]) fun _ _ _ _ _ _ us hl => match us, hl with | [_, _, _], _ => rfl
  have F41 := fun_mk (st := st_m_heard_by) l41 c41 k41
  have B41 := F41.binds (ps := ["works", "standing", "house", "sender"]) fun _ _ _ _ _ _ us hl => match us, hl with | [_, _, _, _], _ => rfl
  have F42 := fun_mk (st := st_m_law_is_integer) l42 c42 k42
  have B42 := F42.binds (ps := ["_law_thing"]) fun _ _ _ _ _ _ us hl => match us, hl with | [_], _ => rfl
  have F43 := fun_mk (st := st_m_law_same) l43 c43 k43
  have B43 := F43.binds (ps := ["_law_actual", "_law_due"]) fun _ _ _ _ _ _ us hl => match us, hl with | [_, _], _ => rfl
  have F44 := fun_mk (st := st_m_is_all_quiet) l44 c44 k44
  have B44 := F44.binds (ps := ["standing"]) fun _ _ _ _ _ _ us hl => match us, hl with | [_], _ => rfl
  have F45 := fun_mk (st := st_m_is_quiet) l45 c45 k45
  have B45 := F45.binds (ps := ["works", "standing"]) fun _ _ _ _ _ _ us hl => match us, hl with | [_, _], _ => rfl
  have F46 := fun_mk (st := st_m_law_led) l46 c46 k46
  have B46 := F46.binds (ps := ["_law_hand_here", "_law_works", "_law_many", "_law_rules_here", "_law_given_here", "_law_mode"]) fun _ _ _ _ _ _ us hl => match us, hl with | [_, _, _, _, _, _], _ => rfl
  have F47 := fun_mk (st := st_m_law) l47 c47 k47
  have B47 := F47.binds (ps := ["_law_script"]) fun _ _ _ _ _ _ us hl => match us, hl with | [_], _ => rfl
  refine ⟨PySem.W.fnOf "law" "law" (defArgs st_m_law) (defBody st_m_law) (defScope st_m_law) .none kV47 dc47 pm47 an47 cd47 ct47, fun s v => .of_eq rfl, fun base _ _ => ?_⟩
  have D_m_is_integer : DefAt P w K mg base 1 "is_integer" 1 KQ.m_is_integer := ⟨⟨_, _, _, rfl, PySem.W.mg_of X G a5, k5, B5, (ok_m_is_integer F5 T )⟩⟩
  have D_m_is_within : DefAt P w K mg base 2 "is_within" 3 KW.m_is_within := ⟨⟨_, _, _, rfl, PySem.W.mg_of X G a6, k6, B6, (ok_m_is_within F6 T D_m_is_integer)⟩⟩
  have D_m_is_below : DefAt P w K mg base 3 "is_below" 2 KW.m_is_below := ⟨⟨_, _, _, rfl, PySem.W.mg_of X G a8, k8, B8, (ok_m_is_below F8 T D_m_is_within)⟩⟩
  have D_m_is_sized : DefAt P w K mg base 1 "is_sized" 3 KW.m_is_sized := ⟨⟨_, _, _, rfl, PySem.W.mg_of X G a7, k7, B7, (ok_m_is_sized F7 T )⟩⟩
  have D_m_is_pair : DefAt P w K mg base 2 "is_pair" 1 KW.m_is_pair := ⟨⟨_, _, _, rfl, PySem.W.mg_of X G a9, k9, B9, (ok_m_is_pair F9 T D_m_is_sized)⟩⟩
  have D_m_is_rule : DefAt P w K mg base 4 "is_rule" 3 KW.m_is_rule := ⟨⟨_, _, _, rfl, PySem.W.mg_of X G a10, k10, B10, (ok_m_is_rule F10 T D_m_is_below D_m_is_pair D_m_is_sized)⟩⟩
  have D_m_Works___init__ : MakeAt P w K mg base 5 "Works" 2 KW.m_Works___init__ := ⟨⟨_, _, _, _, rfl, PySem.W.mg_of X G a_Works, ⟨mk_Works, a11, i11, kc_Works⟩, B11, (ok_m_Works___init__ F11 T D_m_is_rule D_m_is_sized D_m_is_within)⟩⟩
  have D_m_law_take : DefAt P w K mg base 1 "_law_take" 2 KA.m_law_take := ⟨⟨_, _, _, rfl, PySem.W.mg_of X G a1, k1, B1, (ok_m_law_take F1 T )⟩⟩
  have D_m_law_pick : DefAt P w K mg base 2 "_law_pick" 2 KA.m_law_pick := ⟨⟨_, _, _, rfl, PySem.W.mg_of X G a2, k2, B2, (ok_m_law_pick F2 T D_m_law_take)⟩⟩
  have D_m_law_task : DefAt P w K mg base 2 "_law_task" 3 KA.m_law_task := ⟨⟨_, _, _, rfl, PySem.W.mg_of X G a12, k12, B12, (ok_m_law_task F12 T D_m_law_take)⟩⟩
  have D_m_law_sent : DefAt P w K mg base 1 "_law_sent" 4 KA.m_law_sent := ⟨⟨_, _, _, rfl, PySem.W.mg_of X G a13, k13, B13, (ok_m_law_sent F13 T )⟩⟩
  have D_m_law_counts : DefAt P w K mg base 22 "_law_counts" 5 (KA.m_law_counts 20) := ⟨⟨_, _, _, rfl, PySem.W.mg_of X G a14, k14, B14, ((ok_m_law_counts F14 T (PySem.W.mg_of X G a14) B14 D_m_law_sent 20).mono (by decide))⟩⟩
  have D_m_law_total : DefAt P w K mg base 23 "_law_total" 4 KA.m_law_total := ⟨⟨_, _, _, rfl, PySem.W.mg_of X G a15, k15, B15, (ok_m_law_total F15 T D_m_law_counts)⟩⟩
  have D_m_law_given : DefAt P w K mg base 24 "_law_given" 4 KA.m_law_given := ⟨⟨_, _, _, rfl, PySem.W.mg_of X G a16, k16, B16, (ok_m_law_given F16 T D_m_law_pick D_m_law_task D_m_law_total)⟩⟩
  have D_m_law_hand : DefAt P w K mg base 1 "_law_hand" 1 KA.m_law_hand := ⟨⟨_, _, _, rfl, PySem.W.mg_of X G a0, k0, B0, (ok_m_law_hand F0 T )⟩⟩
  have D_m_law_choices : DefAt P w K mg base 1 "_law_choices" 1 m_law_choices := ⟨⟨_, _, _, rfl, PySem.W.mg_of X G a34, k34, B34, (ok_m_law_choices F34 T )⟩⟩
  have D_m_law_model : DefAt P w K mg base 1 "_law_model" 1 m_law_model := ⟨⟨_, _, _, rfl, PySem.W.mg_of X G a35, k35, B35, (ok_m_law_model F35 T )⟩⟩
  have D_m_law_is_integer : DefAt P w K mg base 1 "_law_is_integer" 1 KQ.m_is_integer := ⟨⟨_, _, _, rfl, PySem.W.mg_of X G a42, k42, B42, (ok_m_law_is_integer F42 T )⟩⟩
  have D_m_law_same : DefAt P w K mg base 102 "_law_same" 2 (KA.m_law_same 100) := ⟨⟨_, _, _, rfl, PySem.W.mg_of X G a43, k43, B43, ((ok_m_law_same F43 T (PySem.W.mg_of X G a43) B43 D_m_law_is_integer 100).mono (by decide))⟩⟩
  have D_m_letters_of : DefAt P w K mg base 1 "letters_of" 3 KW.m_letters_of := ⟨⟨_, _, _, rfl, PySem.W.mg_of X G a20, k20, B20, (ok_m_letters_of F20 T )⟩⟩
  have D_m_on_way : DefAt P w K mg base 1 "on_way" 2 KW.m_on_way := ⟨⟨_, _, _, rfl, PySem.W.mg_of X G a37, k37, B37, (ok_m_on_way F37 T )⟩⟩
  have D_m_replaced : DefAt P w K mg base 1 "replaced" 3 KW.m_replaced := ⟨⟨_, _, _, rfl, PySem.W.mg_of X G a21, k21, B21, (ok_m_replaced F21 T )⟩⟩
  have D_m_with_way : DefAt P w K mg base 1 "with_way" 3 KW.m_with_way := ⟨⟨_, _, _, rfl, PySem.W.mg_of X G a36, k36, B36, (ok_m_with_way F36 T )⟩⟩
  have D_m_after_do : DefAt P w K mg base 2 "after_do" 3 KW.m_after_do := ⟨⟨_, _, _, rfl, PySem.W.mg_of X G a38, k38, B38, (ok_m_after_do F38 T D_m_letters_of D_m_on_way D_m_replaced D_m_with_way)⟩⟩
  have D_m_check_house : DefAt P w K mg base 4 "check_house" 2 KW.m_check_house := ⟨⟨_, _, _, rfl, PySem.W.mg_of X G a25, k25, B25, (ok_m_check_house F25 T D_m_is_below)⟩⟩
  have D_m_is_right_task : DefAt P w K mg base 4 "is_right_task" 2 KW.m_is_right_task := ⟨⟨_, _, _, rfl, PySem.W.mg_of X G a17, k17, B17, (ok_m_is_right_task F17 T D_m_is_below D_m_is_pair D_m_is_within)⟩⟩
  have D_m_are_tasks : DefAt P w K mg base 5 "are_tasks" 2 KW.m_are_tasks := ⟨⟨_, _, _, rfl, PySem.W.mg_of X G a18, k18, B18, (ok_m_are_tasks F18 T D_m_is_right_task)⟩⟩
  have D_m_is_way : DefAt P w K mg base 6 "is_way" 2 KW.m_is_way := ⟨⟨_, _, _, rfl, PySem.W.mg_of X G a30, k30, B30, (ok_m_is_way F30 T D_m_are_tasks D_m_is_below D_m_is_sized)⟩⟩
  have D_m_is_right_standing : DefAt P w K mg base 7 "is_right_standing" 2 KW.m_is_right_standing := ⟨⟨_, _, _, rfl, PySem.W.mg_of X G a31, k31, B31, (ok_m_is_right_standing F31 T D_m_are_tasks D_m_is_pair D_m_is_sized D_m_is_way)⟩⟩
  have D_m_check_standing : DefAt P w K mg base 8 "check_standing" 2 KW.m_check_standing := ⟨⟨_, _, _, rfl, PySem.W.mg_of X G a32, k32, B32, (ok_m_check_standing F32 T D_m_is_right_standing)⟩⟩
  have D_m_done_by : DefAt P w K mg base 9 "done_by" 3 KW.m_done_by := ⟨⟨_, _, _, rfl, PySem.W.mg_of X G a39, k39, B39, (ok_m_done_by F39 T D_m_after_do D_m_check_house D_m_check_standing)⟩⟩
  have D_m_begun : DefAt P w K mg base 1 "begun" 2 KW.m_begun := ⟨⟨_, _, _, rfl, PySem.W.mg_of X G a28, k28, B28, (ok_m_begun F28 T )⟩⟩
  have D_m_check_given : DefAt P w K mg base 6 "check_given" 2 KW.m_check_given := ⟨⟨_, _, _, rfl, PySem.W.mg_of X G a19, k19, B19, (ok_m_check_given F19 T D_m_are_tasks)⟩⟩
  have D_m_first_standing : DefAt P w K mg base 7 "first_standing" 2 KW.m_first_standing := ⟨⟨_, _, _, rfl, PySem.W.mg_of X G a29, k29, B29, (ok_m_first_standing F29 T D_m_begun D_m_check_given)⟩⟩
  have D_m_after_hear : DefAt P w K mg base 2 "after_hear" 3 KW.m_after_hear := ⟨⟨_, _, _, rfl, PySem.W.mg_of X G a40, k40, B40, (ok_m_after_hear F40 T D_m_on_way D_m_replaced D_m_with_way)⟩⟩
  have D_m_heard_by : DefAt P w K mg base 9 "heard_by" 4 KW.m_heard_by := ⟨⟨_, _, _, rfl, PySem.W.mg_of X G a41, k41, B41, (ok_m_heard_by F41 T D_m_after_hear D_m_check_house D_m_check_standing)⟩⟩
  have D_m_is_all_quiet : DefAt P w K mg base 1 "is_all_quiet" 1 KW.m_is_all_quiet := ⟨⟨_, _, _, rfl, PySem.W.mg_of X G a44, k44, B44, (ok_m_is_all_quiet F44 T )⟩⟩
  have D_m_is_quiet : DefAt P w K mg base 9 "is_quiet" 2 KW.m_is_quiet := ⟨⟨_, _, _, rfl, PySem.W.mg_of X G a45, k45, B45, (ok_m_is_quiet F45 T D_m_check_standing D_m_is_all_quiet)⟩⟩
  have D_m_table_of : DefAt P w K mg base 2 "table_of" 2 KW.m_table_of := ⟨⟨_, _, _, rfl, PySem.W.mg_of X G a22, k22, B22, (ok_m_table_of F22 T D_m_replaced)⟩⟩
  have D_m_many_of : DefAt P w K mg base 3 "many_of" 2 KW.m_many_of := ⟨⟨_, _, _, rfl, PySem.W.mg_of X G a23, k23, B23, (ok_m_many_of F23 T D_m_table_of)⟩⟩
  have D_m_still_to_do : DefAt P w K mg base 9 "still_to_do" 2 KW.m_still_to_do := ⟨⟨_, _, _, rfl, PySem.W.mg_of X G a33, k33, B33, (ok_m_still_to_do F33 T D_m_check_standing D_m_many_of)⟩⟩
  have D_m_law_led : DefAt P w K mg base 103 "_law_led" 6 m_law_led := ⟨⟨_, _, _, rfl, PySem.W.mg_of X G a46, k46, B46, (ok_m_law_led F46 T D_m_law_choices D_m_law_model D_m_law_same D_m_law_take D_m_done_by D_m_first_standing D_m_heard_by D_m_is_quiet D_m_still_to_do)⟩⟩
  have D_m_law_rules : DefAt P w K mg base 2 "_law_rules" 4 KA.m_law_rules := ⟨⟨_, _, _, rfl, PySem.W.mg_of X G a3, k3, B3, (ok_m_law_rules F3 T D_m_law_take)⟩⟩
  have D_m_law_some_works : DefAt P w K mg base 3 "_law_some_works" 1 KA.m_law_some_works := ⟨⟨_, _, _, rfl, PySem.W.mg_of X G a4, k4, B4, (ok_m_law_some_works F4 T D_m_law_pick D_m_law_rules)⟩⟩
  have D_m_plain_run : DefAt P w K mg base 7 "plain_run" 2 KW.m_plain_run := ⟨⟨_, _, _, rfl, PySem.W.mg_of X G a24, k24, B24, (ok_m_plain_run F24 T D_m_check_given D_m_letters_of D_m_many_of)⟩⟩
  have D_m_check_task : DefAt P w K mg base 5 "check_task" 2 KW.m_check_task := ⟨⟨_, _, _, rfl, PySem.W.mg_of X G a26, k26, B26, (ok_m_check_task F26 T D_m_is_right_task)⟩⟩
  have D_m_tasks_of : DefAt P w K mg base 6 "tasks_of" 3 KW.m_tasks_of := ⟨⟨_, _, _, rfl, PySem.W.mg_of X G a27, k27, B27, (ok_m_tasks_of F27 T D_m_check_house D_m_check_task D_m_table_of)⟩⟩
  exact fn_law (ok_m_law F47 T D_m_Works___init__ D_m_law_given D_m_law_hand D_m_law_led D_m_law_some_works D_m_law_take D_m_plain_run D_m_tasks_of) fun ns hl => law_ok ns
end K04
open PySem PySem.W PyProof.Rows in
set_option maxRecDepth 100000 in
set_option maxHeartbeats 0 in
theorem PySem.Challenge.cw_knownquiet_k04_whole_runs_in_any_order_d_holds : PySem.Challenge.rw_knownquiet_k04_whole_runs_in_any_order_d.Holds := by
  w_on; o_law; k_head; (case hw => w_witness2)
  k_fill
  refine Mp.walk_mp (l := PySem.Challenge.rw_knownquiet_k04_whole_runs_in_any_order_d) (k := 104) (x := "_law_script") rfl rfl ⟨rfl, by decide, by decide⟩ (fun w h Y => PySem.W.kIn_of Y) ?F
  case F =>
    intro w mg fa h KX G hmg
    refine' K04.all_mk KX G hmg ?a_Works ?pg_Works ?hd_Works ?po_Works ?sa_Works ?mk_Works ?kc_Works ?n_Works_many ?n_Works_rules ?a0 ?l0 ?c0 ?k0 ?a1 ?l1 ?c1 ?k1 ?a2 ?l2 ?c2 ?k2 ?a3 ?l3 ?c3 ?k3 ?a4 ?l4 ?c4 ?k4 ?a5 ?l5 ?c5 ?k5 ?a6 ?l6 ?c6 ?k6 ?a7 ?l7 ?c7 ?k7 ?a8 ?l8 ?c8 ?k8 ?a9 ?l9 ?c9 ?k9 ?a10 ?l10 ?c10 ?k10 ?a11 ?i11 ?l11 ?c11 ?k11 ?a12 ?l12 ?c12 ?k12 ?a13 ?l13 ?c13 ?k13 ?a14 ?l14 ?c14 ?k14 ?a15 ?l15 ?c15 ?k15 ?a16 ?l16 ?c16 ?k16 ?a17 ?l17 ?c17 ?k17 ?a18 ?l18 ?c18 ?k18 ?a19 ?l19 ?c19 ?k19 ?a20 ?l20 ?c20 ?k20 ?a21 ?l21 ?c21 ?k21 ?a22 ?l22 ?c22 ?k22 ?a23 ?l23 ?c23 ?k23 ?a24 ?l24 ?c24 ?k24 ?a25 ?l25 ?c25 ?k25 ?a26 ?l26 ?c26 ?k26 ?a27 ?l27 ?c27 ?k27 ?a28 ?l28 ?c28 ?k28 ?a29 ?l29 ?c29 ?k29 ?a30 ?l30 ?c30 ?k30 ?a31 ?l31 ?c31 ?k31 ?a32 ?l32 ?c32 ?k32 ?a33 ?l33 ?c33 ?k33 ?a34 ?l34 ?c34 ?k34 ?a35 ?l35 ?c35 ?k35 ?a36 ?l36 ?c36 ?k36 ?a37 ?l37 ?c37 ?k37 ?a38 ?l38 ?c38 ?k38 ?a39 ?l39 ?c39 ?k39 ?a40 ?l40 ?c40 ?k40 ?a41 ?l41 ?c41 ?k41 ?a42 ?l42 ?c42 ?k42 ?a43 ?l43 ?c43 ?k43 ?a44 ?l44 ?c44 ?k44 ?a45 ?l45 ?c45 ?k45 ?a46 ?l46 ?c46 ?k46 ?a47 ?l47 ?c47 ?k47 ?b_all ?b_bool ?b_enumerate ?b_int ?b_isinstance ?b_len ?b_list ?b_range ?b_sorted ?b_str ?b_sum ?b_tuple ?b_zip ?v_MOST_FUEL ?v_MOST_GIVEN ?v_MOST_HOUSES ?v_MOST_KINDS ?v_MOST_RUN ?v_MOST_SENT ?a_NoGiven ?x_NoGiven ?k_NoGiven ?s_NoGiven ?t_NoGiven ?a_NoHouse ?x_NoHouse ?k_NoHouse ?s_NoHouse ?t_NoHouse ?a_NoStanding ?x_NoStanding ?k_NoStanding ?s_NoStanding ?t_NoStanding ?a_NoTask ?x_NoTask ?k_NoTask ?s_NoTask ?t_NoTask ?a_NothingThere ?x_NothingThere ?k_NothingThere ?s_NothingThere ?t_NothingThere ?a_TooMany ?s_TooMany ?t_TooMany ?xL_TooMany ?sa_TooMany ?ga_TooMany ?gg_TooMany ?nb_TooMany ?ai_TooMany ?ti_TooMany ?li_TooMany ?ci_TooMany ?k_TooMany ?hC_TooMany ?q_TooMany ?sC_TooMany
    (case a_Works => k_is)
    (case pg_Works => k_is)
    (case hd_Works => k_is)
    (case po_Works => k_is)
    (case sa_Works => k_is)
    (case mk_Works => k_is)
    (case kc_Works => k_is)
    (case n_Works_many => k_is)
    (case n_Works_rules => k_is)
    (case a0 => k_is)
    (case l0 => k_is)
    (case c0 => k_is)
    (case k0 => k_is)
    (case a1 => k_is)
    (case l1 => k_is)
    (case c1 => k_is)
    (case k1 => k_is)
    (case a2 => k_is)
    (case l2 => k_is)
    (case c2 => k_is)
    (case k2 => k_is)
    (case a3 => k_is)
    (case l3 => k_is)
    (case c3 => k_is)
    (case k3 => k_is)
    (case a4 => k_is)
    (case l4 => k_is)
    (case c4 => k_is)
    (case k4 => k_is)
    (case a5 => k_is)
    (case l5 => k_is)
    (case c5 => k_is)
    (case k5 => k_is)
    (case a6 => k_is)
    (case l6 => k_is)
    (case c6 => k_is)
    (case k6 => k_is)
    (case a7 => k_is)
    (case l7 => k_is)
    (case c7 => k_is)
    (case k7 => k_is)
    (case a8 => k_is)
    (case l8 => k_is)
    (case c8 => k_is)
    (case k8 => k_is)
    (case a9 => k_is)
    (case l9 => k_is)
    (case c9 => k_is)
    (case k9 => k_is)
    (case a10 => k_is)
    (case l10 => k_is)
    (case c10 => k_is)
    (case k10 => k_is)
    (case a11 => k_is)
    (case i11 => k_is)
    (case l11 => k_is)
    (case c11 => k_is)
    (case k11 => k_is)
    (case a12 => k_is)
    (case l12 => k_is)
    (case c12 => k_is)
    (case k12 => k_is)
    (case a13 => k_is)
    (case l13 => k_is)
    (case c13 => k_is)
    (case k13 => k_is)
    (case a14 => k_is)
    (case l14 => k_is)
    (case c14 => k_is)
    (case k14 => k_is)
    (case a15 => k_is)
    (case l15 => k_is)
    (case c15 => k_is)
    (case k15 => k_is)
    (case a16 => k_is)
    (case l16 => k_is)
    (case c16 => k_is)
    (case k16 => k_is)
    (case a17 => k_is)
    (case l17 => k_is)
    (case c17 => k_is)
    (case k17 => k_is)
    (case a18 => k_is)
    (case l18 => k_is)
    (case c18 => k_is)
    (case k18 => k_is)
    (case a19 => k_is)
    (case l19 => k_is)
    (case c19 => k_is)
    (case k19 => k_is)
    (case a20 => k_is)
    (case l20 => k_is)
    (case c20 => k_is)
    (case k20 => k_is)
    (case a21 => k_is)
    (case l21 => k_is)
    (case c21 => k_is)
    (case k21 => k_is)
    (case a22 => k_is)
    (case l22 => k_is)
    (case c22 => k_is)
    (case k22 => k_is)
    (case a23 => k_is)
    (case l23 => k_is)
    (case c23 => k_is)
    (case k23 => k_is)
    (case a24 => k_is)
    (case l24 => k_is)
    (case c24 => k_is)
    (case k24 => k_is)
    (case a25 => k_is)
    (case l25 => k_is)
    (case c25 => k_is)
    (case k25 => k_is)
    (case a26 => k_is)
    (case l26 => k_is)
    (case c26 => k_is)
    (case k26 => k_is)
    (case a27 => k_is)
    (case l27 => k_is)
    (case c27 => k_is)
    (case k27 => k_is)
    (case a28 => k_is)
    (case l28 => k_is)
    (case c28 => k_is)
    (case k28 => k_is)
    (case a29 => k_is)
    (case l29 => k_is)
    (case c29 => k_is)
    (case k29 => k_is)
    (case a30 => k_is)
    (case l30 => k_is)
    (case c30 => k_is)
    (case k30 => k_is)
    (case a31 => k_is)
    (case l31 => k_is)
    (case c31 => k_is)
    (case k31 => k_is)
    (case a32 => k_is)
    (case l32 => k_is)
    (case c32 => k_is)
    (case k32 => k_is)
    (case a33 => k_is)
    (case l33 => k_is)
    (case c33 => k_is)
    (case k33 => k_is)
    (case a34 => k_is)
    (case l34 => k_is)
    (case c34 => k_is)
    (case k34 => k_is)
    (case a35 => k_is)
    (case l35 => k_is)
    (case c35 => k_is)
    (case k35 => k_is)
    (case a36 => k_is)
    (case l36 => k_is)
    (case c36 => k_is)
    (case k36 => k_is)
    (case a37 => k_is)
    (case l37 => k_is)
    (case c37 => k_is)
    (case k37 => k_is)
    (case a38 => k_is)
    (case l38 => k_is)
    (case c38 => k_is)
    (case k38 => k_is)
    (case a39 => k_is)
    (case l39 => k_is)
    (case c39 => k_is)
    (case k39 => k_is)
    (case a40 => k_is)
    (case l40 => k_is)
    (case c40 => k_is)
    (case k40 => k_is)
    (case a41 => k_is)
    (case l41 => k_is)
    (case c41 => k_is)
    (case k41 => k_is)
    (case a42 => k_is)
    (case l42 => k_is)
    (case c42 => k_is)
    (case k42 => k_is)
    (case a43 => k_is)
    (case l43 => k_is)
    (case c43 => k_is)
    (case k43 => k_is)
    (case a44 => k_is)
    (case l44 => k_is)
    (case c44 => k_is)
    (case k44 => k_is)
    (case a45 => k_is)
    (case l45 => k_is)
    (case c45 => k_is)
    (case k45 => k_is)
    (case a46 => k_is)
    (case l46 => k_is)
    (case c46 => k_is)
    (case k46 => k_is)
    (case a47 => k_is)
    (case l47 => k_is)
    (case c47 => k_is)
    (case k47 => k_is)
    (case b_all => k_is)
    (case b_bool => k_is)
    (case b_enumerate => k_is)
    (case b_int => k_is)
    (case b_isinstance => k_is)
    (case b_len => k_is)
    (case b_list => k_is)
    (case b_range => k_is)
    (case b_sorted => k_is)
    (case b_str => k_is)
    (case b_sum => k_is)
    (case b_tuple => k_is)
    (case b_zip => k_is)
    (case v_MOST_FUEL => k_is)
    (case v_MOST_GIVEN => k_is)
    (case v_MOST_HOUSES => k_is)
    (case v_MOST_KINDS => k_is)
    (case v_MOST_RUN => k_is)
    (case v_MOST_SENT => k_is)
    (case a_NoGiven => k_is)
    (case x_NoGiven => k_exc)
    (case k_NoGiven => k_is)
    (case s_NoGiven => k_is)
    (case t_NoGiven => k_is)
    (case a_NoHouse => k_is)
    (case x_NoHouse => k_exc)
    (case k_NoHouse => k_is)
    (case s_NoHouse => k_is)
    (case t_NoHouse => k_is)
    (case a_NoStanding => k_is)
    (case x_NoStanding => k_exc)
    (case k_NoStanding => k_is)
    (case s_NoStanding => k_is)
    (case t_NoStanding => k_is)
    (case a_NoTask => k_is)
    (case x_NoTask => k_exc)
    (case k_NoTask => k_is)
    (case s_NoTask => k_is)
    (case t_NoTask => k_is)
    (case a_NothingThere => k_is)
    (case x_NothingThere => k_exc)
    (case k_NothingThere => k_is)
    (case s_NothingThere => k_is)
    (case t_NothingThere => k_is)
    (case a_TooMany => k_is)
    (case s_TooMany => k_is)
    (case t_TooMany => k_is)
    (case xL_TooMany => k_is)
    (case sa_TooMany => k_is)
    (case ga_TooMany => k_is)
    (case gg_TooMany => k_is)
    (case nb_TooMany => k_is)
    (case ai_TooMany => k_is)
    (case ti_TooMany => k_is)
    (case li_TooMany => k_is)
    (case ci_TooMany => k_is)
    (case k_TooMany => k_is)
    (case hC_TooMany => k_is)
    (case q_TooMany => k_is)
    (case sC_TooMany => first | rfl | k_is)
#print axioms PySem.Challenge.cw_knownquiet_k04_whole_runs_in_any_order_d_holds

