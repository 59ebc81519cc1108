import PyProof.Rows.All
import Wide.All
import OpenK.AllK
import Wide.FinOn
import KE.KStateDown
import HandS.CallLocal
import HandS.CallSlots
import HandS.Conv
import HandS.Deep
import HandS.Defaults
import HandS.Dict
import HandS.EndTab
import HandS.Ends
import HandS.ExcField
import HandS.ExcInit
import HandS.ExcIs
import HandS.ExcOwn
import HandS.ForExc
import HandS.ForMost
import HandS.Head0
import HandS.Head1
import HandS.Head2
import HandS.HeadEnd
import HandS.HeadHook1
import HandS.HeadHook2
import HandS.HeadHook4
import HandS.HotCalls
import HandS.IsInst
import HandS.Iter
import HandS.Lambda
import HandS.List
import HandS.MakeKw
import HandS.Nested
import HandS.Rev
import HandS.RevRange
import HandS.SetFor
import HandS.Small
import HandS.SortKw
import HandS.SortOrd
import HandS.Star
import HandS.Strs
import HandS.Style
import HandS.TryMany
import HandS.TryOnly
import HandS.TupAny
import HandS.TupMul
import HandS.TupSets
import HandS.Words
import HandS.Zip
import KE.DataMinMax
import KE.GoesEnum
import KE.KDictCopyH
import KE.KDictDisplayH
import KE.KDictList
import KE.KDictPairs
import KE.KExcIs
import KE.SortData
import KE.SortKeyHeap
import PySem.Str
import PySem.Challenge.RW_peakland_k14_whole_steep
set_option Elab.async false
set_option linter.all false
set_option autoImplicit false
set_option maxRecDepth 100000
set_option maxHeartbeats 4000000
/-! Pk0: a small language of plain values. Each Python def of the program and of the laws is written as a term of
these combinators; what it computes is then a plain Lean function. No heap here: lists and dicts are values; a slot
of the frame that holds a list which only this frame knows is marked `ow` (owned) and may be changed in place. -/
namespace Pk
open PySem (Str)

/-- a limit that no reckoning opens: true just where p holds -/
noncomputable def lim (p : Prop) : Bool := @decide p (Classical.propDecidable p)
theorem lim_of {p : Prop} (h : p) : lim p = true := @decide_eq_true p (Classical.propDecidable p) h
theorem of_lim {p : Prop} (h : lim p = true) : p := @of_decide_eq_true p (Classical.propDecidable p) h
@[simp] theorem lim_iff {p : Prop} : (lim p = true) ↔ p := ⟨of_lim, lim_of⟩
noncomputable section
/-- a dict's key: a number, a tuple of numbers -/
inductive Ky where
  | i (n : Int)
  | t (l : List Int)
  deriving DecidableEq, Inhabited
inductive D where
  | none | bool (b : Bool) | int (i : Int) | str (x : Str)
  | tup (l : List D) | lst (l : List D) | dct (ks : List Ky) (vs : List D)
  | fn (k : Nat) | clo (k : Nat) (l : List D) | town | obj (n : Nat) | scr (l : List Int)
  deriving Inhabited

def Ky.d : Ky → D
  | .i n => .int n
  | .t l => .tup (l.map .int)

/-- a slot of a frame: nothing known, a value that may be shared, a list or dict that only this slot knows -/
inductive Sl where
  | no | sh (d : D) | ow (d : D)
  deriving Inhabited
abbrev Env := List Sl
/-- what calls may change: how long the town is (if there is one), the fields of the objects -/
structure Sto where
  t : Option Nat
  o : List (List (Str × D))
/-- an exception: its class, what it was made with (NoCell, NoPeak) -/
structure Xc where
  cls : Nat
  arg : Option D

inductive R (α : Type) where
  | ok (a : α) (r : Env) (s : Sto)
  | exc (x : Xc) (r : Env) (s : Sto)
  | bad
abbrev M (α : Type) := Env → Sto → R α
def R.bind {α β : Type} : R α → (α → Env → Sto → R β) → R β
  | .ok a r s, f => f a r s
  | .exc x r s, _ => .exc x r s
  | .bad, _ => .bad
@[simp] theorem R.bind_ok {α β : Type} {a : α} {r : Env} {s : Sto} {f : α → Env → Sto → R β} : (R.ok a r s).bind f = f a r s := rfl
@[simp] theorem R.bind_exc {α β : Type} {x : Xc} {r : Env} {s : Sto} {f : α → Env → Sto → R β} : (R.exc x r s : R α).bind f = .exc x r s := rfl
@[simp] theorem R.bind_bad {α β : Type} {f : α → Env → Sto → R β} : (R.bad : R α).bind f = .bad := rfl

/-- a def's end -/
inductive FR where
  | ok (d : D) (s : Sto)
  | exc (x : Xc) (s : Sto)
  | bad
abbrev Fn := List D → Sto → FR

def opt {α : Type} (o : Option α) (r : Env) (s : Sto) : R α := match o with
  | some a => .ok a r s
  | .none => .bad
@[simp] theorem opt_some {α : Type} {a : α} {r : Env} {s : Sto} : opt (some a) r s = .ok a r s := rfl
@[simp] theorem opt_none {α : Type} {r : Env} {s : Sto} : opt (Option.none : Option α) r s = .bad := rfl

/-! ### expressions -/
@[simp] def eC (d : D) : M D := fun r s => .ok d r s
/-- a name; a list that only this frame knew may from now on be shared -/
@[simp] def eV (i : Nat) : M D := fun r s => match r[i]? with
  | some (.sh d) => .ok d r s
  | some (.ow d) => .ok d (r.set i (.sh d)) s
  | _ => .bad
/-- an operand: a value, or the content of a slot that is only looked at -/
inductive Opd where
  | v (m : M D)
  | b (i : Nat)
@[simp] def Opd.run : Opd → M (D ⊕ Nat)
  | .v m => fun r s => (m r s).bind fun d r s => .ok (.inl d) r s
  | .b i => fun r s => match r[i]? with
    | some (.sh _) => .ok (.inr i) r s
    | some (.ow _) => .ok (.inr i) r s
    | _ => .bad
@[simp] def look (r : Env) : D ⊕ Nat → Option D
  | .inl d => some d
  | .inr i => match r[i]? with
    | some (.sh d) => some d
    | some (.ow d) => some d
    | _ => .none
@[simp] def e1 (p : D → Option D) (a : Opd) : M D := fun r s => (a.run r s).bind fun x r s => opt ((look r x).bind p) r s
@[simp] def e2 (p : D → D → Option D) (a b : Opd) : M D := fun r s => (a.run r s).bind fun x r s => (b.run r s).bind fun y r s =>
  opt ((look r x).bind fun d => (look r y).bind fun e => p d e) r s
@[simp] def e3 (p : D → D → D → Option D) (a b c : Opd) : M D := fun r s => (a.run r s).bind fun x r s => (b.run r s).bind fun y r s => (c.run r s).bind fun z r s =>
  opt ((look r x).bind fun d => (look r y).bind fun e => (look r z).bind fun f => p d e f) r s
@[simp] def eL : List (M D) → M (List D)
  | [] => fun r s => .ok [] r s
  | m :: ms => fun r s => (m r s).bind fun d r s => (eL ms r s).bind fun ds r s => .ok (d :: ds) r s
@[simp] def eTup (ms : List (M D)) : M D := fun r s => (eL ms r s).bind fun ds r s => .ok (.tup ds) r s
@[simp] def eLst (ms : List (M D)) : M D := fun r s => (eL ms r s).bind fun ds r s => .ok (.lst ds) r s
def FR.at (f : FR) (r : Env) : R D := match f with
  | .ok d s => .ok d r s
  | .exc x s => .exc x r s
  | .bad => .bad
@[simp] theorem FR.at_ok {d : D} {s : Sto} {r : Env} : (FR.ok d s).at r = .ok d r s := rfl
@[simp] theorem FR.at_exc {x : Xc} {s : Sto} {r : Env} : (FR.exc x s).at r = .exc x r s := rfl
@[simp] theorem FR.at_bad {r : Env} : FR.bad.at r = .bad := rfl
/-- a call of a def; dv: the defaults that fill up -/
@[simp] def eCall (f : Fn) (ms : List (M D)) (dv : List D) : M D := fun r s => (eL ms r s).bind fun ds r s => (f (ds ++ dv) s).at r
@[simp] def eAnd (a b : M D) : M D := fun r s => (a r s).bind fun d r s => match d with
  | .bool true => b r s
  | .bool false => .ok (.bool false) r s
  | _ => .bad
@[simp] def eOr (a b : M D) : M D := fun r s => (a r s).bind fun d r s => match d with
  | .bool true => .ok (.bool true) r s
  | .bool false => b r s
  | _ => .bad
@[simp] def eNot (a : M D) : M D := fun r s => (a r s).bind fun d r s => match d with
  | .bool b => .ok (.bool !b) r s
  | _ => .bad
@[simp] def eIte (c a b : M D) : M D := fun r s => (c r s).bind fun d r s => match d with
  | .bool true => a r s
  | .bool false => b r s
  | _ => .bad
/-- a comparison of three -/
@[simp] def eChain (p q : D → D → Option D) (a b c : M D) : M D := fun r s => (a r s).bind fun x r s => (b r s).bind fun y r s =>
  match p x y with
  | some (.bool true) => (c r s).bind fun z r s => opt (q y z) r s
  | some (.bool false) => .ok (.bool false) r s
  | _ => .bad

/-! ### targets: names, tuples of targets -/
inductive Tg where
  | n (i : Nat)
  | t (l : List Tg)
mutual
@[simp] def setT (r : Env) : Tg → D → Option Env
  | .n i, d => some (r.set i (.sh d))
  | .t l, .tup ds => setTs r l ds
  | .t l, .lst ds => setTs r l ds
  | .t _, _ => .none
@[simp] def setTs (r : Env) : List Tg → List D → Option Env
  | [], [] => some r
  | g :: gs, d :: ds => (setT r g d).bind fun r => setTs r gs ds
  | _, _ => .none
end

def SZ : Nat := 16777216
/-! ### what a loop walks: its items -/
abbrev It := M (List D)
@[simp] def itemsOf : D → Option (List D)
  | .lst l => some l
  | .tup l => some l
  | .str x => if lim (x.cps.size ≤ SZ) then some (x.cps.toList.map fun c => .str ⟨#[c]⟩) else .none
  | _ => .none
/-- a list, a tuple, a dict's keys, a text -/
@[simp] def iOf (m : M D) : It := fun r s => (m r s).bind fun d r s => opt (itemsOf d) r s
def upto (lo : Int) (n : Nat) : List D := (List.range n).map fun (k : Nat) => .int (lo + (k : Int))
def small (i : Int) : Bool := lim (-(2 ^ 62) ≤ i ∧ i < 2 ^ 62)
@[simp] def iRange1 (a : M D) : It := fun r s => (a r s).bind fun d r s => match d with
  | .int j => if small j && lim (j ≤ (SZ : Int)) then .ok (upto 0 j.toNat) r s else .bad
  | _ => .bad
@[simp] def iRange2 (a b : M D) : It := fun r s => (a r s).bind fun d r s => (b r s).bind fun e r s => match d, e with
  | .int i, .int j => if small i && small j && lim (j - i ≤ (SZ : Int)) then .ok (upto i (j - i).toNat) r s else .bad
  | _, _ => .bad
def numbered (l : List D) : List D := (List.range l.length).map fun (k : Nat) => .tup [.int (k : Int), l.getD k .none]
def paired (l m : List D) : List D := (List.range (min l.length m.length)).map fun (k : Nat) => .tup [l.getD k .none, m.getD k .none]
/-- enumerate(list) -/
@[simp] def iEnumL (m : M D) : It := fun r s => (m r s).bind fun d r s => match d with
  | .lst l => .ok (numbered l) r s
  | _ => .bad

/-! ### comprehensions -/
@[simp] def wipeL (r : Env) : List Nat → Env
  | [] => r
  | i :: is => (wipeL r is).set i .no
/-- behind a comprehension: its own names are as ahead of it -/
def backL (r0 r : Env) : List Nat → Env
  | [] => r
  | i :: is => (backL r0 r is).set i (r0.getD i .no)
@[simp] def notOw (r : Env) (is : List Nat) : Bool := is.all fun i => match r[i]? with
  | some (.ow _) => false
  | some _ => true
  | _ => false
/-- the items one after the other: g is set, c is asked, e is reckoned -/
def compLoop (g : Tg) (own : List Nat) (c e : M D) : List D → List D → M (List D)
  | [], acc => fun r s => .ok acc.reverse r s
  | d :: ds, acc => fun r s => match setT (wipeL r own) g d with
    | some r1 => match c r1 s with
      | .ok (.bool true) r2 s2 => match e r2 s2 with
        | .ok y r3 s3 => compLoop g own c e ds (y :: acc) r3 s3
        | _ => .bad
      | .ok (.bool false) r2 s2 => compLoop g own c e ds acc r2 s2
      | _ => .bad
    | .none => .bad
def eComp (it : It) (g : Tg) (own : List Nat) (c e : M D) : M D := fun r s => (it r s).bind fun ds r s =>
  if notOw r own then (compLoop g own c e ds [] r s).bind fun ys r1 s => .ok (.lst ys) (backL r r1 own) s else .bad
@[simp] def eYes : M D := eC (.bool true)

/-! ### statements -/
inductive Fl where
  | nx | rt (d : D) | bk | ct
abbrev S := M Fl
/-- what is never reached -/
@[simp] def sNever : S := fun _ _ => .bad
@[simp] def sNil : S := fun r s => .ok .nx r s
@[simp] def sSeq (a b : S) : S := fun r s => (a r s).bind fun f r s => match f with
  | .nx => b r s
  | f => .ok f r s
@[simp] def sRet (e : M D) : S := fun r s => (e r s).bind fun d r s => .ok (.rt d) r s
@[simp] def sBrk : S := fun r s => .ok .bk r s
@[simp] def sExpr (e : M D) : S := fun r s => (e r s).bind fun _ r s => .ok .nx r s
/-- x = e; fresh: e makes a new list or dict, which only x knows from now on -/
@[simp] def sSet (fresh : Bool) (i : Nat) (e : M D) : S := fun r s => (e r s).bind fun d r s => .ok .nx (r.set i (if fresh then .ow d else .sh d)) s
/-- town = [] -/
@[simp] def sTown0 (i : Nat) : S := fun r s => match s.t with
  | .none => .ok .nx (r.set i (.sh .town)) { s with t := some 0 }
  | some _ => .bad
@[simp] def sAsg (g : Tg) (e : M D) : S := fun r s => (e r s).bind fun d r s => (opt (setT r g d) r s).bind fun r1 r s => .ok .nx r1 s
/-- x, y = a, b -/
@[simp] def sPar (f1 f2 : Bool) (i j : Nat) (a b : M D) : S := fun r s => (a r s).bind fun d r s => (b r s).bind fun e r s =>
  .ok .nx ((r.set i (if f1 then .ow d else .sh d)).set j (if f2 then .ow e else .sh e)) s
/-- x, y, .. = a, b, .. of values that may be shared -/
@[simp] def setAll (r : Env) : List Nat → List D → Env
  | i :: is, d :: ds => setAll (r.set i (.sh d)) is ds
  | _, _ => r
@[simp] def sParV (is : List Nat) (ms : List (M D)) : S := fun r s => (eL ms r s).bind fun ds r s => .ok .nx (setAll r is ds) s
@[simp] def sIf (c : M D) (a b : S) : S := fun r s => (c r s).bind fun d r s => match d with
  | .bool true => a r s
  | .bool false => b r s
  | _ => .bad
def forL (g : Tg) (b : S) : List D → S
  | [] => fun r s => .ok .nx r s
  | d :: ds => fun r s => match setT r g d with
    | some r1 => (b r1 s).bind fun f r s => match f with
      | .nx => forL g b ds r s
      | .ct => forL g b ds r s
      | .bk => .ok .nx r s
      | .rt d => .ok (.rt d) r s
    | .none => .bad
@[simp] def sFor (it : It) (g : Tg) (b : S) : S := fun r s => (it r s).bind fun ds r s => forL g b ds r s
def whileL (c : M D) (b : S) : Nat → S
  | 0 => fun _ _ => .bad
  | n + 1 => fun r s => (c r s).bind fun d r s => match d with
    | .bool true => (b r s).bind fun f r s => match f with
      | .nx => whileL c b n r s
      | .ct => whileL c b n r s
      | .bk => .ok .nx r s
      | .rt d => .ok (.rt d) r s
    | .bool false => .ok .nx r s
    | _ => .bad
/-- turns of a while: never more than so many -/
def WN : Nat := 1000000000
def sWhile (c : M D) (b : S) : S := whileL c b WN
/-- raise X(e) | raise X("..") -/
@[simp] def sRaise (k : Nat) (arg : Option (M D)) : S := fun r s => match arg with
  | .none => .exc ⟨k, .none⟩ r s
  | some m => (m r s).bind fun d r s => .exc ⟨k, some d⟩ r s

/-! ### lists and dicts changed in place: of this frame, of the town -/
@[simp] def sAppend (i : Nat) (e : M D) : S := fun r s => match r[i]? with
  | some (.ow (.lst _)) => (e r s).bind fun d r s => match r[i]? with
    | some (.ow (.lst l)) => if lim (l.length < SZ) then .ok .nx (r.set i (.ow (.lst (l ++ [d])))) s else .bad
    | _ => .bad
  | _ => .bad
/-- town.append(0) -/
@[simp] def sTown (i : Nat) : S := fun r s => match r[i]? with
  | some (.sh .town) => match s.t with
    | some n => if lim (n < SZ) then .ok .nx r { s with t := some (n + 1) } else .bad
    | .none => .bad
  | _ => .bad
@[simp] def sExtend (i : Nat) (e : M D) : S := fun r s => match r[i]? with
  | some (.ow (.lst _)) => (e r s).bind fun d r s => match r[i]?, d with
    | some (.ow (.lst l)), .lst m => if lim (l.length + m.length ≤ SZ) then .ok .nx (r.set i (.ow (.lst (l ++ m)))) s else .bad
    | _, _ => .bad
  | _ => .bad
/-- x.pop() -/
@[simp] def ePop (i : Nat) : M D := fun r s => match r[i]? with
  | some (.ow (.lst l)) => match l.getLast? with
    | some d => .ok d (r.set i (.ow (.lst l.dropLast))) s
    | .none => .bad
  | _ => .bad

/-! ### a def -/
def startL (n : Nat) (ds : List D) : Env := ds.map .sh ++ List.replicate (n - ds.length) .no
/-- p parameters, n names, a body -/
def fnOf (p n : Nat) (b : S) : Fn := fun ds s => if ds.length = p then match b (startL n ds) s with
  | .ok .nx _ s => .ok .none s
  | .ok (.rt d) _ s => .ok d s
  | .ok _ _ _ => .bad
  | .exc x _ s => .exc x s
  | .bad => .bad
  else .bad
end
end Pk
/-! Pk1: the built-in operations on plain values. -/
namespace Pk
open PySem (Str)

noncomputable section
/-! ### equality -/
mutual
def D.eqv : D → D → Bool
  | .none, .none => true
  | .bool a, .bool b => a == b
  | .bool a, .int j => (if a then 1 else 0) == j
  | .int i, .bool b => i == (if b then 1 else 0)
  | .int i, .int j => i == j
  | .str x, .str y => x == y
  | .lst xs, .lst ys => eqvL xs ys
  | .tup xs, .tup ys => eqvL xs ys
  | _, _ => false
def eqvL : List D → List D → Bool
  | [], [] => true
  | x :: xs, y :: ys => D.eqv x y && eqvL xs ys
  | _, _ => false
end
/-- data: numbers, texts, lists and tuples of data, no deeper than n -/
def D.dep : Nat → D → Bool
  | _, .none => true
  | _, .bool _ => true
  | _, .int _ => true
  | _, .str x => x.cps.all (· < 0x110000)
  | n + 1, .lst l => l.all (D.dep n)
  | n + 1, .tup l => l.all (D.dep n)
  | _, _ => false
/-- script == [] -/
@[simp] def pScr0 : D → Option D
  | .scr l => some (.bool l.isEmpty)
  | _ => .none
@[simp] def pEq (x y : D) : Option D := if x.dep 64 && y.dep 64 then some (.bool (x.eqv y)) else .none
@[simp] def pNe (x y : D) : Option D := if x.dep 64 && y.dep 64 then some (.bool !(x.eqv y)) else .none

/-! ### numbers -/
@[simp] def pInt2 (f : Int → Int → D) (c : Int → Int → Bool) : D → D → Option D
  | .int i, .int j => if c i j then some (f i j) else .none
  | _, _ => .none
def big (i : Int) : Bool := lim (-(2 ^ 64) < i ∧ i < 2 ^ 64)
@[simp] def pSub : D → D → Option D := pInt2 (fun i j => .int (i - j)) fun _ _ => true
@[simp] def pMul : D → D → Option D := pInt2 (fun i j => .int (i * j)) fun i j => big i || big j
@[simp] def pFdiv : D → D → Option D := pInt2 (fun i j => .int (i / j)) fun _ j => lim (0 < j ∧ j < 1073741824)
@[simp] def pMod : D → D → Option D := pInt2 (fun i j => .int (i % j)) fun _ j => lim (0 < j)
@[simp] def pPow : D → D → Option D := pInt2 (fun i j => .int (i ^ j.toNat)) fun i j => lim (0 ≤ j ∧ j ≤ 1000000 ∧ i.natAbs < 2 ^ 64)
@[simp] def pLt : D → D → Option D := pInt2 (fun i j => .bool (decide (i < j))) fun _ _ => true
@[simp] def pLe : D → D → Option D := pInt2 (fun i j => .bool (decide (i ≤ j))) fun _ _ => true
@[simp] def pGt : D → D → Option D := pInt2 (fun i j => .bool (decide (j < i))) fun _ _ => true
@[simp] def pGe : D → D → Option D := pInt2 (fun i j => .bool (decide (j ≤ i))) fun _ _ => true
def pAddI : D → D → Option D := pInt2 (fun i j => .int (i + j)) fun _ _ => true
@[simp] def pNeg : D → Option D
  | .int i => some (.int (-i))
  | _ => .none
@[simp] def pAbs : D → Option D
  | .int i => some (.int (if i < 0 then -i else i))
  | _ => .none
@[simp] def pMax2 : D → D → Option D := pInt2 (fun i j => .int (if j > i then j else i)) fun _ _ => true
@[simp] def pMin2 : D → D → Option D := pInt2 (fun i j => .int (if j < i then j else i)) fun _ _ => true

/-! ### kinds -/
@[simp] def pIsInt : D → Option D
  | .int _ => some (.bool true)
  | .bool _ => some (.bool true)
  | .none => some (.bool false)
  | .str _ => some (.bool false)
  | .tup _ => some (.bool false)
  | .lst _ => some (.bool false)
  | .dct _ _ => some (.bool false)
  | _ => .none
@[simp] def pIsBool : D → Option D
  | .int _ => some (.bool false)
  | .bool _ => some (.bool true)
  | .none => some (.bool false)
  | .str _ => some (.bool false)
  | .tup _ => some (.bool false)
  | .lst _ => some (.bool false)
  | .dct _ _ => some (.bool false)
  | _ => .none
@[simp] def pIsTup : D → Option D
  | .int _ => some (.bool false)
  | .bool _ => some (.bool false)
  | .none => some (.bool false)
  | .str _ => some (.bool false)
  | .tup _ => some (.bool true)
  | .lst _ => some (.bool false)
  | .dct _ _ => some (.bool false)
  | _ => .none
@[simp] def pIsLst : D → Option D
  | .int _ => some (.bool false)
  | .bool _ => some (.bool false)
  | .none => some (.bool false)
  | .str _ => some (.bool false)
  | .tup _ => some (.bool false)
  | .lst _ => some (.bool true)
  | .dct _ _ => some (.bool false)
  | _ => .none
@[simp] def pIsStr : D → Option D
  | .int _ => some (.bool false)
  | .bool _ => some (.bool false)
  | .none => some (.bool false)
  | .str _ => some (.bool true)
  | .tup _ => some (.bool false)
  | .lst _ => some (.bool false)
  | .dct _ _ => some (.bool false)
  | _ => .none
/-- x is None -/
@[simp] def pIsN : D → Option D
  | .none => some (.bool true)
  | .int _ => some (.bool false)
  | .bool _ => some (.bool false)
  | .str _ => some (.bool false)
  | .tup _ => some (.bool false)
  | .lst _ => some (.bool false)
  | .dct _ _ => some (.bool false)
  | _ => .none
@[simp] def pNotN : D → Option D
  | .none => some (.bool false)
  | .int _ => some (.bool true)
  | .bool _ => some (.bool true)
  | .str _ => some (.bool true)
  | .tup _ => some (.bool true)
  | .lst _ => some (.bool true)
  | .dct _ _ => some (.bool true)
  | _ => .none
/-- x is b, of truth values -/
@[simp] def pIs2 : D → D → Option D
  | .bool a, .bool b => some (.bool (decide (a = b)))
  | _, _ => .none
@[simp] def pIsNot2 : D → D → Option D
  | .bool a, .bool b => some (.bool !(decide (a = b)))
  | _, _ => .none

/-! ### lists and tuples -/
def ixOf (n : Nat) (i : Int) : Option Nat := if 0 ≤ i then (if i < n then some i.toNat else .none) else if -(n : Int) ≤ i then some (i + n).toNat else .none
def getI (l : List D) (i : Int) : Option D := (ixOf l.length i).bind fun j => l[j]?
/-- x[i] -/
@[simp] def pIx : D → D → Option D
  | .lst l, .int i => getI l i
  | .tup l, .int i => getI l i
  | .scr l, .int i => (ixOf l.length i).bind fun j => (l[j]?).map .int
  | _, _ => .none
def pLen : D → Option D
  | .lst l => some (.int l.length)
  | .tup l => some (.int l.length)
  | .scr l => some (.int l.length)
  | _ => .none
/-- len(x), also of the town -/
@[simp] def lenOf (s : Sto) : D → Option D
  | .lst l => some (.int l.length)
  | .tup l => some (.int l.length)
  | .scr l => some (.int l.length)
  | .town => s.t.map fun (n : Nat) => D.int (n : Int)
  | _ => .none
@[simp] def eLen (a : Opd) : M D := fun r s => (a.run r s).bind fun x r s => opt ((look r x).bind (lenOf s)) r s
/-- the place that a part of a slice means -/
def cutIx (n : Nat) (d : Nat) : Option Int → Nat
  | .none => d
  | some i => if i < 0 then (i + (n : Int)).toNat else min i.toNat n
def cutL (l : List D) (lo hi : Option Int) : List D := (l.drop (cutIx l.length 0 lo)).take (cutIx l.length l.length hi - cutIx l.length 0 lo)
/-- x + y: numbers, texts, lists, tuples -/
@[simp] def pAdd : D → D → Option D
  | .int i, .int j => some (.int (i + j))
  | .str x, .str y => if lim (x.cps.size + y.cps.size ≤ SZ) then some (.str ⟨x.cps ++ y.cps⟩) else .none
  | .lst l, .lst m => if lim (l.length + m.length ≤ SZ) then some (.lst (l ++ m)) else .none
  | .tup l, .tup m => if lim (l.length + m.length ≤ SZ) then some (.tup (l ++ m)) else .none
  | _, _ => .none
@[simp] def pAddL : D → D → Option D
  | .lst l, .lst m => if lim (l.length + m.length ≤ SZ) then some (.lst (l ++ m)) else .none
  | _, _ => .none
/-- x[::-1] of a list -/
@[simp] def pRevL : D → Option D
  | .lst l => some (.lst l.reverse)
  | _ => .none
/-- tuple(x), list(x) -/
@[simp] def pTup : D → Option D
  | .lst l => some (.tup l)
  | .tup l => some (.tup l)
  | _ => .none
@[simp] def pList : D → Option D
  | .lst l => some (.lst l)
  | .tup l => some (.lst l)
  | _ => .none
/-- [..] * n, (..) * n -/
def pRepL : D → D → Option D
  | .lst l, .int k => if lim (-(2 ^ 63) ≤ k ∧ k < 2 ^ 63 ∧ l.length * k.toNat ≤ SZ) then some (.lst (List.replicate k.toNat l).flatten) else .none
  | _, _ => .none
def pRepT : D → D → Option D
  | .tup l, .int k => if lim (l ≠ [] ∧ 2 ≤ k ∧ k ≤ 1000 ∧ l.length ≤ 1000) then some (.tup (List.replicate k.toNat l).flatten) else .none
  | _, _ => .none
@[simp] def pIn : D → D → Option D
  | d, .lst l => if d.dep 64 && D.dep 64 (.lst l) then some (.bool (l.any fun z => z.eqv d)) else .none
  | _, _ => .none
@[simp] def pNotIn : D → D → Option D
  | d, .lst l => if d.dep 64 && D.dep 64 (.lst l) then some (.bool !(l.any fun z => z.eqv d)) else .none
  | _, _ => .none
def intsOf : List D → Option (List Int)
  | [] => some []
  | .int i :: l => (intsOf l).map (i :: ·)
  | _ :: _ => .none
def boolsOf : List D → Option (List Bool)
  | [] => some []
  | .bool i :: l => (boolsOf l).map (i :: ·)
  | _ :: _ => .none
def pAll : D → Option D
  | .lst l => (boolsOf l).map fun bs => .bool (bs.all id)
  | _ => .none
def pAny : D → Option D
  | .lst l => (boolsOf l).map fun bs => .bool (bs.any id)
  | _ => .none
def pSum : D → Option D
  | .lst l => (intsOf l).map fun bs => .int bs.sum
  | _ => .none
def maxI : List Int → Option Int
  | [] => .none
  | i :: l => some (l.foldl (fun a b => if a < b then b else a) i)
def minI : List Int → Option Int
  | [] => .none
  | i :: l => some (l.foldl (fun a b => if b < a then b else a) i)
def pMaxI : D → Option D
  | .lst l => (intsOf l).bind fun bs => (maxI bs).map .int
  | _ => .none
def pMinI : D → Option D
  | .lst l => (intsOf l).bind fun bs => (minI bs).map .int
  | _ => .none
end
end Pk
/-! Pk2: order of data; sorted, min, max of a list of data. -/
namespace Pk
open PySem (Str)
noncomputable section
abbrev Tok := Int ⊕ List Nat
mutual
def D.toks : D → List Tok
  | .bool b => [.inl (if b = true then 1 else 0)]
  | .int n => [.inl n]
  | .str x => [.inr x.cps.toList]
  | .lst xs => toksL xs
  | .tup xs => toksL xs
  | _ => []
def toksL : List D → List Tok
  | [] => [.inl 0]
  | x :: xs => .inl 1 :: (D.toks x ++ toksL xs)
end
def tokLt : Tok → Tok → Bool
  | .inl a, .inl b => decide (a < b)
  | .inl _, .inr _ => true
  | .inr _, .inl _ => false
  | .inr a, .inr b => decide (a < b)
def toksLt : List Tok → List Tok → Bool
  | [], [] => false
  | [], _ :: _ => true
  | _ :: _, [] => false
  | x :: r, y :: t => tokLt x y || (!tokLt y x && toksLt r t)
def D.lt (x y : D) : Bool := toksLt x.toks y.toks
mutual
/-- the two can be compared, place by place -/
def D.alk : D → D → Bool
  | .bool _, .bool _ => true
  | .int _, .int _ => true
  | .str _, .str _ => true
  | .lst xs, .lst ys => alkL xs ys
  | .tup xs, .tup ys => alkL xs ys
  | _, _ => false
def alkL : List D → List D → Bool
  | x :: xs, y :: ys => D.alk x y && alkL xs ys
  | [], _ => true
  | _ :: _, [] => true
end
def D.tupNe : D → Bool
  | .tup (_ :: _) => true
  | _ => false
def D.notTup : D → Bool
  | .bool _ => true
  | .int _ => true
  | .str _ => true
  | .lst _ => true
  | _ => false
def allAlk (l : List D) : Bool := l.all fun x => l.all fun y => x.alk y
def ordOk (l : List D) : Bool := l.all (D.dep 62) && allAlk l
def sortOk (l : List D) : Bool := ordOk l && (l.all D.tupNe || l.all D.notTup)
def leD (x y : D) : Bool := !(y.lt x)
/-- sorted(x) -/
def pSorted : D → Option D
  | .lst l => if sortOk l then some (.lst (l.mergeSort leD)) else .none
  | _ => .none
def minD (x : D) (l : List D) : D := l.foldl (fun a y => if y.lt a then y else a) x
def maxD (x : D) (l : List D) : D := l.foldl (fun a y => if a.lt y then y else a) x
/-- min(x), max(x) -/
def pMinD : D → Option D
  | .lst (x :: l) => if ordOk (x :: l) then some (minD x l) else .none
  | .tup (x :: l) => if ordOk (x :: l) then some (minD x l) else .none
  | _ => .none
def pMaxD : D → Option D
  | .lst (x :: l) => if ordOk (x :: l) then some (maxD x l) else .none
  | .tup (x :: l) => if ordOk (x :: l) then some (maxD x l) else .none
  | _ => .none
/-- enumerate(x) of a list, a tuple -/
@[simp] def iEnumA (m : M D) : It := fun r s => (m r s).bind fun d r s => match d with
  | .lst l => .ok (numbered l) r s
  | .tup l => .ok (numbered l) r s
  | _ => .bad
/-- x[::-1] -/
@[simp] def pRev : D → Option D
  | .lst l => some (.lst l.reverse)
  | .tup l => some (.tup l.reverse)
  | _ => .none
/-- reversed(range(n)) -/
@[simp] def iRevR1 (a : M D) : It := fun r s => (a r s).bind fun d r s => match d with
  | .int j => if small j && lim (j ≤ (SZ : Int)) then .ok ((List.range j.toNat).map fun (k : Nat) => .int (j - 1 - (k : Int))) r s else .bad
  | _ => .bad
/-- x[lo:hi] -/
@[simp] def eOpt : Option (M D) → M (Option Int)
  | .none => fun r s => .ok .none r s
  | some m => fun r s => (m r s).bind fun d r s => match d with
    | .int i => .ok (some i) r s
    | _ => .bad
@[simp] def pCut (d : D) (lo hi : Option Int) : Option D := match d with
  | .lst l => some (.lst (cutL l lo hi))
  | .tup l => some (.tup (cutL l lo hi))
  | _ => .none
@[simp] def eCut (a : Opd) (lo hi : Option (M D)) : M D := fun r s => (a.run r s).bind fun x r s => (eOpt lo r s).bind fun l r s => (eOpt hi r s).bind fun h r s => opt ((look r x).bind fun d => pCut d l h) r s
/-- zip(x, y) of two lists, two tuples -/
@[simp] def iZip (a c : M D) : It := fun r s => (eL [a, c] r s).bind fun ds r s => match ds with
  | [.lst l, .lst m] => .ok (paired l m) r s
  | [.tup l, .tup m] => .ok (paired l m) r s
  | _ => .bad
end
end Pk
/-! Pk3: try; calls of one of several defs. -/
namespace Pk
open PySem (Str)
noncomputable section
inductive Hk where
  | no | cell | cell4 | peak3
def refD (k : Nat) : D := .tup [.str "refused", .int (k : Int)]
/-- what a clause answers -/
def Hk.ans (h : Hk) (x : Xc) : Option D := if x.cls < 12 then (match h with
  | .no => some (refD x.cls)
  | .cell => if x.cls = 1 then x.arg.map (fun d => .tup [.str "cell", d]) else some (refD x.cls)
  | .cell4 => if x.cls = 1 then x.arg.map (fun d => .tup [.str "cell", d, .bool true, refD 1]) else some (refD x.cls)
  | .peak3 => if x.cls = 2 then x.arg.map (fun d => .tup [.str "peak", d, refD 2]) else some (refD x.cls)) else .none
def sTry (h : Hk) (m : S) : S := fun r s => match m r s with
  | .exc x r s => (match h.ans x with
    | some d => .ok (.rt d) r s
    | .none => .bad)
  | z => z
/-- x * y of numbers, of a tuple and a number -/
@[simp] def pMulT : D → D → Option D
  | .tup l, .int k => pRepT (.tup l) (.int k)
  | a, b => pMul a b
/-- a call of one of several defs -/
def eTab (Fs : List Fn) (w : M D) (ms : List (M D)) : M D := fun r s => (w r s).bind fun d r s => match d with
  | .int i => (match (ixOf Fs.length i).bind fun j => Fs[j]? with
    | some F => (eL ms r s).bind fun ds r s => (F ds s).at r
    | .none => .bad)
  | _ => .bad
/-- len(set(x)) of a list of tuples of numbers, no two of which are equal -/
def tupIntsOf : D → Option (List Int)
  | .tup l => intsOf l
  | _ => .none
def keysOf : List D → Option (List (List Int))
  | [] => some []
  | d :: l => (tupIntsOf d).bind fun k => (keysOf l).map (k :: ·)
def pLenSet : D → Option D
  | .lst l => (keysOf l).bind fun ks => if lim (ks.Nodup ∧ l.length < 64) then some (.int l.length) else .none
  | _ => .none
/-- dict(x) of pairs whose keys are tuples of numbers, no two of which are equal -/
def pairsOf : List D → Option (List (List Int) × List D)
  | [] => some ([], [])
  | .tup [.tup k, v] :: l => (intsOf k).bind fun ks => (pairsOf l).map fun r => (ks :: r.1, v :: r.2)
  | _ :: _ => .none
def pDict : D → Option D
  | .lst l => (pairsOf l).bind fun r => if lim (r.1.Nodup) then some (.dct (r.1.map .t) r.2) else .none
  | _ => .none
/-- x[k] of a dict -/
def keyOf : D → Option Ky
  | .tup l => (intsOf l).map .t
  | _ => .none
def dctGet (ks : List Ky) (ds : List D) (k : Ky) : Option D := ((ks.zip ds).find? fun p => decide (p.1 = k)).map (·.2)
def pIxD : D → D → Option D
  | .dct ks ds, k => (keyOf k).bind fun k => dctGet ks ds k
  | _, _ => .none
/-- x, y, z = a, b, c: a a new list, b and c constants -/
def sPar3 (i j l : Nat) (m : M D) (d e : D) : S := fun r s => (m r s).bind fun a r s => .ok .nx (((r.set i (.ow a)).set j (.sh d)).set l (.sh e)) s
/-! ### dicts with keys that are tuples of numbers -/
def isTK : Ky → Bool
  | .t l => lim (l.length ≤ 8)
  | _ => false
def kyD : Ky → D
  | .t l => .tup (l.map .int)
  | .i n => .int n
def eDct0 : M D := fun r s => .ok (.dct [] []) r s
def eDct1 (mk mv : M D) : M D := fun r s => (mk r s).bind fun k r s => (mv r s).bind fun v r s => match keyOf k with
  | some k => .ok (.dct [k] [v]) r s
  | .none => .bad
def putKs (ks : List Ky) (k : Ky) : List Ky := if k ∈ ks then ks else ks ++ [k]
def putDs (ks : List Ky) (ds : List D) (k : Ky) (v : D) : List D := if k ∈ ks then (ks.zip ds).map fun p => if p.1 = k then v else p.2 else ds ++ [v]
/-- d[k] = v -/
def sPutD (i : Nat) (mk mv : M D) : S := fun r s => (mv r s).bind fun v r s => match r[i]? with
  | some (.ow (.dct _ _)) => (mk r s).bind fun k r s => (match r[i]?, keyOf k with
    | some (.ow (.dct ks ds)), some k => if lim (ks.length < SZ) && ks.all isTK then .ok .nx (r.set i (.ow (.dct (putKs ks k) (putDs ks ds k v)))) s else .bad
    | _, _ => .bad)
  | _ => .bad
/-- k in d, k not in d -/
def pInD (k d : D) : Option D := match d with
  | .dct ks _ => if ks.all isTK then (keyOf k).map fun k => .bool (decide (k ∈ ks)) else .none
  | _ => .none
def pNotInD (k d : D) : Option D := match d with
  | .dct ks _ => if ks.all isTK then (keyOf k).map fun k => .bool !(decide (k ∈ ks)) else .none
  | _ => .none
/-- list(d) -/
def pLstD : D → Option D
  | .dct ks _ => if ks.all isTK then some (.lst (ks.map kyD)) else .none
  | _ => .none
/-- d.get(k, x) -/
def pGetD (d k x : D) : Option D := match d with
  | .dct ks ds => if ks.all isTK then (keyOf k).map fun k => (dctGet ks ds k).getD x else .none
  | _ => .none
def eGetD (i : Nat) (mk mx : M D) : M D := fun r s => match look r (.inr i) with
  | some (.dct ks _) => if ks.all isTK then (eL [mk, mx] r s).bind fun xs r s => (match xs with
    | [k, x] => opt ((look r (.inr i)).bind fun d => pGetD d k x) r s
    | _ => .bad) else .bad
  | _ => .bad
/-- d.update(e) of a dict -/
def isC8 : Ky → Bool
  | .t [i, j] => lim (0 ≤ i ∧ i < 8 ∧ 0 ≤ j ∧ j < 8)
  | _ => false
def updKD : List Ky × List D → List (Ky × D) → List Ky × List D
  | a, [] => a
  | a, p :: ps => updKD (putKs a.1 p.1, putDs a.1 a.2 p.1 p.2) ps
def sUpdD (i : Nat) (m : M D) : S := fun r s => match r[i]? with
  | some (.ow (.dct _ _)) => (m r s).bind fun d r s => (match r[i]?, d with
    | some (.ow (.dct ks ds)), .dct ks2 ds2 => if lim (ks.length + ks2.length < SZ) && ks.all isTK && ks2.all isC8 then .ok .nx (r.set i (.ow (.dct (updKD (ks, ds) (ks2.zip ds2)).1 (updKD (ks, ds) (ks2.zip ds2)).2))) s else .bad
    | _, _ => .bad)
  | _ => .bad
/-- d[k], y = a, c -/
def sPut2 (i j : Nat) (mk ma mc : M D) : S := fun r s => (eL [ma, mc] r s).bind fun xs r s => match xs with
  | [v, w] => (match r[i]? with
    | some (.ow (.dct _ _)) => (mk r s).bind fun k r s => (match r[i]?, keyOf k with
      | some (.ow (.dct ks ds)), some k => if lim (ks.length < SZ) && ks.all isTK then .ok .nx ((r.set i (.ow (.dct (putKs ks k) (putDs ks ds k v)))).set j (.sh w)) s else .bad
      | _, _ => .bad)
    | _ => .bad)
  | _ => .bad
/-- order of lists of numbers -/
def lexI : List Int → List Int → Bool
  | [], [] => false
  | [], _ :: _ => true
  | _ :: _, [] => false
  | x :: xs, y :: ys => decide (x < y) || (decide (x = y) && lexI xs ys)
/-- x < y of numbers, of tuples of numbers -/
def pLtT : D → D → Option D
  | .int i, .int j => some (.bool (decide (i < j)))
  | .tup l, .tup m => (intsOf l).bind fun a => (intsOf m).map fun c => .bool (lexI a c)
  | _, _ => .none
/-- sorted(set(x)) of numbers, of cells -/
def insI (x : Int) : List Int → List Int
  | [] => [x]
  | y :: l => if x < y then x :: y :: l else if x = y then y :: l else y :: insI x l
def sortI (l : List Int) : List Int := l.foldr insI []
def insC (x : Int × Int) : List (Int × Int) → List (Int × Int)
  | [] => [x]
  | y :: l => if x.1 < y.1 ∨ (x.1 = y.1 ∧ x.2 < y.2) then x :: y :: l else if x = y then y :: l else y :: insC x l
def sortC (l : List (Int × Int)) : List (Int × Int) := l.foldr insC []
def cellsOf : List D → Option (List (Int × Int))
  | [] => some []
  | .tup [.int i, .int j] :: l => (cellsOf l).map ((i, j) :: ·)
  | _ :: _ => .none
def pSortSetI : D → Option D
  | .lst l => (intsOf l).bind fun ns => if lim (l.length < 63) then some (.lst ((sortI ns).map .int)) else .none
  | _ => .none
def pSortSetC : D → Option D
  | .lst l => (cellsOf l).bind fun cs => if lim (l.length < 64 ∧ ∀ c ∈ cs, 0 ≤ c.1 ∧ c.1 < 64 ∧ 0 ≤ c.2 ∧ c.2 < 64) then some (.lst ((sortC cs).map fun c => .tup [.int c.1, .int c.2])) else .none
  | _ => .none
/-- a call of a def that a slot holds -/
def eCallV (Fs : List Fn) (i : Nat) (ms : List (M D)) : M D := fun r s => match r[i]? with
  | some (.sh (.fn k)) => (match Fs[k]? with
    | some F => (eL ms r s).bind fun ds r s => (F ds s).at r
    | .none => .bad)
  | _ => .bad
/-! ### lambdas -/
/-- what a lambda captures: the slots of this frame -/
def capL (r : Env) : List Nat → Option (List D)
  | [] => some []
  | j :: js => match r[j]? with
    | some (.sh d) => (capL r js).map (d :: ·)
    | _ => .none
/-- a lambda with p parameters, n names in all, its body; caps: what it captured -/
def lamFn (p n : Nat) (m : M D) (caps : List D) : Fn := fun ds s => if ds.length = p then match m (startL n (ds ++ caps)) s with
  | .ok d _ s => .ok d s
  | .exc x _ s => .exc x s
  | .bad => .bad
  else .bad
/-- the keys of items, one after the other -/
def keyGo (F : Fn) : List D → Sto → Option (List D × Sto)
  | [], s => some ([], s)
  | d :: l, s => match F [d] s with
    | .ok k s => (keyGo F l s).map fun r => (k :: r.1, r.2)
    | _ => .none
def sortK (ks l : List D) : List D := ((ks.zip l).mergeSort fun p q => leD p.1 q.1).map (·.2)
/-- sorted(x, key=lambda ..) -/
def eSortK (L : List D → Fn) (js : List Nat) (a : Opd) : M D := fun r s => (a.run r s).bind fun x r s => match look r x, capL r js with
  | some (.lst l), some caps => (match keyGo (L caps) l s with
    | some (ks, s') => if sortOk ks then .ok (.lst (sortK ks l)) r s' else .bad
    | .none => .bad)
  | _, _ => .bad
end
end Pk
/-! Pk4: sorted lists without two that are equal. -/
namespace Pk
/-! ### sorted(set(x)) -/
theorem insI_mem (x y : Int) : ∀ l : List Int, y ∈ insI x l ↔ y = x ∨ y ∈ l
  | [] => by simp [insI]
  | z :: l => by
    unfold insI
    split
    · simp
    · split
      · rename_i h; subst h; simp
      · simp only [List.mem_cons, insI_mem x y l]
        exact ⟨fun h => h.elim (fun h => .inr (.inl h)) (fun h => h.elim .inl fun h => .inr (.inr h)), fun h => h.elim (fun h => .inr (.inl h)) (fun h => h.elim .inl fun h => .inr (.inr h))⟩
theorem insI_sorted (x : Int) : ∀ l : List Int, l.Pairwise (· < ·) → (insI x l).Pairwise (· < ·)
  | [], _ => by simp [insI]
  | z :: l, h => by
    obtain ⟨h1, h2⟩ := List.pairwise_cons.mp h
    unfold insI
    split
    · rename_i hx
      refine List.pairwise_cons.mpr ⟨fun y hy => ?_, h⟩
      rcases List.mem_cons.mp hy with e | e
      · rw [e]; exact hx
      · have := h1 y e; omega
    · split
      · exact h
      · rename_i n1 n2
        refine List.pairwise_cons.mpr ⟨fun y hy => ?_, insI_sorted x l h2⟩
        rcases (insI_mem x y l).mp hy with e | e
        · rw [e]; omega
        · exact h1 y e
theorem sortI_mem (y : Int) : ∀ l : List Int, y ∈ sortI l ↔ y ∈ l
  | [] => by simp [sortI]
  | x :: l => by
    have := sortI_mem y l
    unfold sortI at this ⊢
    rw [List.foldr_cons, insI_mem, List.mem_cons, this]
theorem sortI_sorted : ∀ l : List Int, (sortI l).Pairwise (· < ·)
  | [] => by simp [sortI]
  | x :: l => insI_sorted x _ (sortI_sorted l)
theorem sorted_ext {α : Type} {r : α → α → Prop} (ir : ∀ a, ¬ r a a) (as : ∀ a c, r a c → ¬ r c a) : ∀ {l m : List α}, l.Pairwise r → m.Pairwise r → (∀ y, y ∈ l ↔ y ∈ m) → l = m
  | [], [], _, _, _ => rfl
  | [], y :: m, _, _, h => by have := (h y).mpr List.mem_cons_self; cases this
  | x :: l, [], _, _, h => by have := (h x).mp List.mem_cons_self; cases this
  | x :: l, y :: m, hl, hm, h => by
    obtain ⟨l1, l2⟩ := List.pairwise_cons.mp hl
    obtain ⟨m1, m2⟩ := List.pairwise_cons.mp hm
    have e : x = y := by
      rcases List.mem_cons.mp ((h x).mp List.mem_cons_self) with e | e
      · exact e
      · rcases List.mem_cons.mp ((h y).mpr List.mem_cons_self) with e' | e'
        · exact e'.symm
        · exact absurd (l1 y e') (as _ _ (m1 x e))
    subst e
    have := sorted_ext ir as l2 m2 fun y => by
      have hy := h y
      constructor
      · intro q
        rcases List.mem_cons.mp (hy.mp (List.mem_cons_of_mem _ q)) with e | e
        · subst e; exact absurd (l1 y q) (ir _)
        · exact e
      · intro q
        rcases List.mem_cons.mp (hy.mpr (List.mem_cons_of_mem _ q)) with e | e
        · subst e; exact absurd (m1 y q) (ir _)
        · exact e
    rw [this]
abbrev ltCp (a c : Int × Int) : Prop := a.1 < c.1 ∨ (a.1 = c.1 ∧ a.2 < c.2)
theorem insC_mem (x y : Int × Int) : ∀ l : List (Int × Int), y ∈ insC x l ↔ y = x ∨ y ∈ l
  | [] => by simp [insC]
  | z :: l => by
    unfold insC
    split
    · simp
    · split
      · rename_i h; subst h; simp
      · simp only [List.mem_cons, insC_mem x y l]
        exact ⟨fun h => h.elim (fun h => .inr (.inl h)) (fun h => h.elim .inl fun h => .inr (.inr h)), fun h => h.elim (fun h => .inr (.inl h)) (fun h => h.elim .inl fun h => .inr (.inr h))⟩
theorem insC_sorted (x : Int × Int) : ∀ l : List (Int × Int), l.Pairwise ltCp → (insC x l).Pairwise ltCp
  | [], _ => by simp [insC]
  | z :: l, h => by
    obtain ⟨h1, h2⟩ := List.pairwise_cons.mp h
    unfold insC
    split
    · rename_i hx
      refine List.pairwise_cons.mpr ⟨fun y hy => ?_, h⟩
      rcases List.mem_cons.mp hy with e | e
      · rw [e]; exact hx
      · have := h1 y e; omega
    · split
      · exact h
      · rename_i n1 n2
        refine List.pairwise_cons.mpr ⟨fun y hy => ?_, insC_sorted x l h2⟩
        rcases (insC_mem x y l).mp hy with e | e
        · rw [e]
          have n2 : ¬ (x.1 = z.1 ∧ x.2 = z.2) := fun h => n2 (Prod.ext h.1 h.2)
          show z.1 < x.1 ∨ (z.1 = x.1 ∧ z.2 < x.2)
          omega
        · exact h1 y e
theorem sortC_mem (y : Int × Int) : ∀ l : List (Int × Int), y ∈ sortC l ↔ y ∈ l
  | [] => by simp [sortC]
  | x :: l => by
    have := sortC_mem y l
    unfold sortC at this ⊢
    rw [List.foldr_cons, insC_mem, List.mem_cons, this]
theorem sortC_sorted : ∀ l : List (Int × Int), (sortC l).Pairwise ltCp
  | [] => by simp [sortC]
  | x :: l => insC_sorted x _ (sortC_sorted l)
end Pk
/-! Br0: plain values stand in the abstract heap; what a def's frame knows; the judgements DE, DS, DT over the layer's PE, PS, PT. -/
namespace Pk
open PySem PySem.Spec PyProof.Rows L2

/-- who alone may change the thing at an address -/
inductive Lab where
  | town | inst (n : Nat) | idct (n : Nat) | fld (n : Nat) (f : Str) | tab (n : Nat) | loc (i : Nat) | out
  deriving DecidableEq
abbrev Lb := Addr → Option Lab
def Lab.isLoc : Lab → Bool
  | .loc _ => true
  | _ => false
def Lab.isSto : Lab → Bool
  | .loc _ => false
  | .out => false
  | _ => true
/-- a lambda of the text: its def's name, its words, the names that it captures -/
structure Lm where
  qual : Str
  params : Arguments
  body : Expr
  scope : Scope
  fr : List Str
/-- what the top left: where the defs and classes stand -/
structure Cn where
  K : PySem.W.Frag
  fn : Nat → Addr
  cls : Nat → Addr
  gr : Addr
  tb : List (Addr × Str)
  lm : Nat → Lm
/-- the object at f is the lambda m with the cells cl; the object at c is o -/
def LamO (f : Addr) (m : Lm) (cl : List (Str × Addr)) (c : Addr) : HO := .ext fun h => ∃ pm ctv, h.get? f = some (PySem.W.kla_obj "<lambda>" m.qual m.params m.body m.scope cl pm c ctv)
def CelO (c : Addr) (o : Obj) : HO := .ext fun h => h.get? c = some o

def KLst (K : PySem.W.Frag) (a : Addr) (vs : List V) : Prop :=
  ∃ (o : Obj) (its : Array Value) (n : Nat), K.lookup a = some o ∧ o.cls = .type "list" ∧ o.dict = none ∧ o.data = .seq its n ∧ its.size ≤ sizeLine ∧ Vals vs its.toList
/-- a list, a tuple that nobody changes; the script -/
def NL (lb : Lb) (H : Hp) (a : Addr) (vs : List V) : Prop := lb a = none ∧ H a = some (.lst vs)
def NT (lb : Lb) (H : Hp) (a : Addr) (vs : List V) : Prop := lb a = none ∧ H a = some (.tup vs)
def NS (K : PySem.W.Frag) (lb : Lb) (H : Hp) (a : Addr) (vs : List V) : Prop := (lb a = none ∧ Rd H a (.lst vs)) ∨ KLst K a vs
theorem NL.sq {K : PySem.W.Frag} {lb : Lb} {H : Hp} {a : Addr} {vs : List V} (h : NL lb H a vs) : SqL K H a vs := .of h.2
theorem NT.sq {K : PySem.W.Frag} {lb : Lb} {H : Hp} {a : Addr} {vs : List V} (h : NT lb H a vs) : SqT K H a vs := .of h.2
theorem NS.sq {K : PySem.W.Frag} {lb : Lb} {H : Hp} {a : Addr} {vs : List V} (h : NS K lb H a vs) : SqL K H a vs := h.elim (fun x => .inl x.2) .inr

/-- what may be marked: no tuple -/
def Nt : HO → Prop
  | .tup _ => False
  | _ => True
/-- what the captured cells hold -/
structure CelR (lb : Lb) (H : Hp) (fr : List Str) (cl : List (Str × Addr)) (ws : List V) : Prop where
  len : ws.length = fr.length
  sub : ∀ y c, cl.lookup y = some c → y ∈ fr
  inj : ∀ x y c, cl.lookup x = some c → cl.lookup y = some c → x = y
  at_ : ∀ (i : Nat) (y : Str), fr[i]? = some y → ∃ c o u v, cl.lookup y = some c ∧ lb c = none ∧ H c = some (CelO c o) ∧ o.data = .cell (some u) ∧ ws[i]? = some v ∧ L2.RelV v u
/-- a table of code objects -/
def TabL (lb : Lb) (H : Hp) (P : Addr) (q : Str) : Prop := ∃ ps : Array Value, H P = some (.tbl ps) ∧ TriplesOk ps.toList ∧ ∀ (pos : Pos) (cv : Value), codeAmong pos ps.toList = some cv → ∃ c, cv = .ref c ∧ lb c = none ∧ H c = some (LamX.CodeO c q)
mutual
def Rep (cn : Cn) (lb : Lb) (H : Hp) : D → V → Prop
  | .none, v => v = .non
  | .bool b, v => v = .bl b
  | .int i, v => v = .int i
  | .str x, v => v = .str x
  | .tup l, v => ∃ a vs, v = .ref a ∧ NT lb H a vs ∧ l.length ≤ SZ ∧ RepL cn lb H l vs
  | .lst l, v => ∃ a vs, v = .ref a ∧ NL lb H a vs ∧ l.length ≤ SZ ∧ RepL cn lb H l vs
  | .dct ks ds, v => ∃ a vs, v = .ref a ∧ lb a = none ∧ ks.length ≤ SZ ∧ RepL cn lb H ds vs ∧ ks.length = vs.length ∧ ks.Nodup ∧
      ((∃ js : List (List Int), ks = js.map .t ∧ H a = some (.dT ((js.map fun j => j.map Sum.inl).zip vs))) ∨ (∃ js : List Int, (ks = js.map .i ∧ ks ≠ []) ∧ H a = some (.dK ((js.map Sum.inl).zip vs))))
  | .fn k, v => v = .ref (cn.fn k)
  | .clo k l, v => ∃ f cl c ws, v = .ref f ∧ (lb f = none ∧ H f = some (LamO f (cn.lm k) cl c)) ∧ (lb c = none ∧ H c = some (LamX.CodeO c (cn.lm k).qual)) ∧ CelR lb H (cn.lm k).fr cl ws ∧ RepL cn lb H l ws
  | .town, v => ∃ a, v = .ref a ∧ lb a = some .town
  | .obj n, v => ∃ a, v = .ref a ∧ lb a = some (.inst n)
  | .scr l, v => ∃ a, v = .ref a ∧ NS cn.K lb H a (l.map V.int) ∧ l.length ≤ SZ
def RepL (cn : Cn) (lb : Lb) (H : Hp) : List D → List V → Prop
  | [], vs => vs = []
  | d :: ds, vs => ∃ v r, vs = v :: r ∧ Rep cn lb H d v ∧ RepL cn lb H ds r
end

/-- the heap goes on: what nobody may change stands; the callers' own things stand; a thing that is newly marked is new -/
structure Stp (lb : Lb) (H : Hp) (lb' : Lb) (H' : Hp) : Prop where
  keep : ∀ a o, H a = some o → lb a = none → H' a = some o
  out : ∀ a, lb a = some .out → lb' a = some .out ∧ H' a = H a
  new : ∀ a, lb' a ≠ none → lb a ≠ none ∨ H a = none
  sto : ∀ a l, lb a = some l → l.isSto = true → lb' a = some l
  dom : ∀ a, H a ≠ none → H' a ≠ none
theorem Stp.refl {lb : Lb} {H : Hp} : Stp lb H lb H := ⟨fun _ _ h _ => h, fun _ h => ⟨h, rfl⟩, fun _ h => .inl h, fun _ _ h _ => h, fun _ h => h⟩
theorem Stp.trans {l1 l2 l3 : Lb} {H1 H2 H3 : Hp} (a : Stp l1 H1 l2 H2) (b : Stp l2 H2 l3 H3) : Stp l1 H1 l3 H3 where
  keep := fun x o h n => by
    have h2 := a.keep x o h n
    refine b.keep x o h2 ?_
    cases q : l2 x with
    | none => rfl
    | some l =>
      rcases a.new x (by rw [q]; simp) with z | z
      · exact absurd n z
      · rw [h] at z; cases z
  out := fun x h => by
    obtain ⟨h2, e2⟩ := a.out x h
    obtain ⟨h3, e3⟩ := b.out x h2
    exact ⟨h3, e3.trans e2⟩
  new := fun x h => by
    rcases b.new x h with z | z
    · exact a.new x z
    · cases q : H1 x with
      | none => exact .inr rfl
      | some o => exact absurd z (a.dom x (by rw [q]; simp))
  sto := fun x l h i => b.sto x l (a.sto x l h i) i
  dom := fun x h => b.dom x (a.dom x h)
/-- nothing that stands is changed -/
def Ext (H H' : Hp) : Prop := ∀ a o, H a = some o → H' a = some o
theorem Ext.refl {H : Hp} : Ext H H := fun _ _ h => h
theorem Ext.trans {H1 H2 H3 : Hp} (a : Ext H1 H2) (b : Ext H2 H3) : Ext H1 H3 := fun x o h => b x o (a x o h)
theorem Ext.upd {H : Hp} {p : Addr} {o : HO} (h : H p = none) : Ext H (L2.upd H p o) := fun b x e => by
  rw [upd_ne (ne_of_none e h)]
  exact e

/-- what alone a value's standing asks -/
structure Stq (lb : Lb) (H : Hp) (lb' : Lb) (H' : Hp) : Prop where
  keep : ∀ a o, H a = some o → lb a = none → H' a = some o
  new : ∀ a, lb' a ≠ none → lb a ≠ none ∨ H a = none
  sto : ∀ a l, lb a = some l → l.isSto = true → lb' a = some l
theorem Stp.q {lb lb' : Lb} {H H' : Hp} (s : Stp lb H lb' H') : Stq lb H lb' H' := ⟨s.keep, s.new, s.sto⟩
theorem Stq.none {lb lb' : Lb} {H H' : Hp} (s : Stq lb H lb' H') {a : Addr} {o : HO} (h : H a = some o) (n : lb a = none) : lb' a = none := by
  cases q : lb' a with
  | none => rfl
  | some l =>
    rcases s.new a (by rw [q]; simp) with z | z
    · exact absurd n z
    · rw [h] at z; cases z
theorem Stq.rd {lb lb' : Lb} {H H' : Hp} (s : Stq lb H lb' H') {a : Addr} {u : HO} (n : lb a = Option.none) (h : Rd H a u) : lb' a = Option.none ∧ Rd H' a u := by
  rcases h with h | ⟨o, h⟩
  · exact ⟨s.none h n, .inl (s.keep a _ h n)⟩
  · exact ⟨s.none h n, .inr ⟨o, s.keep a _ h n⟩⟩

theorem NL.stq {lb lb' : Lb} {H H' : Hp} {a : Addr} {vs : List V} (h : NL lb H a vs) (s : Stq lb H lb' H') : NL lb' H' a vs := ⟨s.none h.2 h.1, s.keep a _ h.2 h.1⟩
theorem NT.stq {lb lb' : Lb} {H H' : Hp} {a : Addr} {vs : List V} (h : NT lb H a vs) (s : Stq lb H lb' H') : NT lb' H' a vs := ⟨s.none h.2 h.1, s.keep a _ h.2 h.1⟩
theorem NS.stq {K : PySem.W.Frag} {lb lb' : Lb} {H H' : Hp} {a : Addr} {vs : List V} (h : NS K lb H a vs) (s : Stq lb H lb' H') : NS K lb' H' a vs := by
  rcases h with ⟨n, h⟩ | h
  · exact .inl (s.rd n h)
  · exact .inr h
theorem CelR.stq {lb lb' : Lb} {H H' : Hp} {fr : List Str} {cl : List (Str × Addr)} {ws : List V} (h : CelR lb H fr cl ws) (s : Stq lb H lb' H') : CelR lb' H' fr cl ws :=
  ⟨h.len, h.sub, h.inj, fun i y e => by
    obtain ⟨c, o, u, v, h1, h2, h3, h4⟩ := h.at_ i y e
    exact ⟨c, o, u, v, h1, s.none h3 h2, s.keep c _ h3 h2, h4⟩⟩
mutual
theorem Rep.stq {cn : Cn} {lb lb' : Lb} {H H' : Hp} (s : Stq lb H lb' H') : ∀ {d : D} {v : V}, Rep cn lb H d v → Rep cn lb' H' d v
  | .none, v, h => by simpa only [Rep] using h
  | .bool b, v, h => by simpa only [Rep] using h
  | .int b, v, h => by simpa only [Rep] using h
  | .str b, v, h => by simpa only [Rep] using h
  | .tup l, v, h => by
    simp only [Rep] at h ⊢
    obtain ⟨a, vs, e, n, z, r⟩ := h
    exact ⟨a, vs, e, n.stq s, z, RepL.stq s r⟩
  | .lst l, v, h => by
    simp only [Rep] at h ⊢
    obtain ⟨a, vs, e, n, z, r⟩ := h
    exact ⟨a, vs, e, n.stq s, z, RepL.stq s r⟩
  | .dct ks ds, v, h => by
    simp only [Rep] at h ⊢
    obtain ⟨a, vs, e, n, z, r, l, nd, c⟩ := h
    rcases c with ⟨js, e1, e2⟩ | ⟨js, e1, e2⟩
    · exact ⟨a, vs, e, s.none e2 n, z, RepL.stq s r, l, nd, .inl ⟨js, e1, s.keep a _ e2 n⟩⟩
    · exact ⟨a, vs, e, s.none e2 n, z, RepL.stq s r, l, nd, .inr ⟨js, e1, s.keep a _ e2 n⟩⟩
  | .fn b, v, h => by simpa only [Rep] using h
  | .clo k l, v, h => by
    simp only [Rep] at h ⊢
    obtain ⟨f, cl, c, ws, e, ⟨f1, f2⟩, ⟨c1, c2⟩, cr, r⟩ := h
    exact ⟨f, cl, c, ws, e, ⟨s.none f2 f1, s.keep f _ f2 f1⟩, ⟨s.none c2 c1, s.keep c _ c2 c1⟩, cr.stq s, RepL.stq s r⟩
  | .town, v, h => by
    simp only [Rep] at h ⊢
    obtain ⟨a, e, n⟩ := h
    exact ⟨a, e, s.sto a _ n rfl⟩
  | .obj k, v, h => by
    simp only [Rep] at h ⊢
    obtain ⟨a, e, n⟩ := h
    exact ⟨a, e, s.sto a _ n rfl⟩
  | .scr l, v, h => by
    simp only [Rep] at h ⊢
    obtain ⟨a, e, n, z⟩ := h
    exact ⟨a, e, n.stq s, z⟩
theorem RepL.stq {cn : Cn} {lb lb' : Lb} {H H' : Hp} (s : Stq lb H lb' H') : ∀ {ds : List D} {vs : List V}, RepL cn lb H ds vs → RepL cn lb' H' ds vs
  | [], vs, h => by simpa only [RepL] using h
  | d :: ds, vs, h => by
    simp only [RepL] at h ⊢
    obtain ⟨v, r, e, h1, h2⟩ := h
    exact ⟨v, r, e, Rep.stq s h1, RepL.stq s h2⟩
end
theorem Rep.stp {cn : Cn} {lb lb' : Lb} {H H' : Hp} (s : Stp lb H lb' H') {d : D} {v : V} (h : Rep cn lb H d v) : Rep cn lb' H' d v := Rep.stq s.q h
theorem RepL.stp {cn : Cn} {lb lb' : Lb} {H H' : Hp} (s : Stp lb H lb' H') {d : List D} {v : List V} (h : RepL cn lb H d v) : RepL cn lb' H' d v := RepL.stq s.q h
theorem RepL.length {cn : Cn} {lb : Lb} {H : Hp} : ∀ {ds : List D} {vs : List V}, RepL cn lb H ds vs → ds.length = vs.length
  | [], vs, h => by simp only [RepL] at h; rw [h]; rfl
  | d :: ds, vs, h => by
    simp only [RepL] at h
    obtain ⟨v, r, e, _, h2⟩ := h
    rw [e, List.length_cons, List.length_cons, RepL.length h2]
theorem RepL.get {cn : Cn} {lb : Lb} {H : Hp} : ∀ {ds : List D} {vs : List V} {i : Nat} {d : D}, RepL cn lb H ds vs → ds[i]? = some d → ∃ v, vs[i]? = some v ∧ Rep cn lb H d v
  | [], vs, _, _, _, e => by simp at e
  | d :: ds, vs, 0, x, h, e => by
    simp only [RepL] at h
    obtain ⟨v, r, e1, h1, _⟩ := h
    simp at e
    subst e
    exact ⟨v, by rw [e1]; rfl, h1⟩
  | d :: ds, vs, i + 1, x, h, e => by
    simp only [RepL] at h
    obtain ⟨v, r, e1, _, h2⟩ := h
    obtain ⟨u, q1, q2⟩ := RepL.get (i := i) h2 (by simpa using e)
    exact ⟨u, by rw [e1]; simpa using q1, q2⟩
theorem RepL.get' {cn : Cn} {lb : Lb} {H : Hp} {ds : List D} {vs : List V} {i : Nat} {v : V} (h : RepL cn lb H ds vs) (e : vs[i]? = some v) : ∃ d, ds[i]? = some d ∧ Rep cn lb H d v := by
  have hi : i < ds.length := by rw [h.length]; exact (List.getElem?_eq_some_iff.mp e).1
  obtain ⟨u, q1, q2⟩ := h.get (List.getElem?_eq_getElem hi)
  rw [e] at q1
  cases q1
  exact ⟨_, List.getElem?_eq_getElem hi, q2⟩
theorem RepL.append {cn : Cn} {lb : Lb} {H : Hp} : ∀ {ds es : List D} {vs us : List V}, RepL cn lb H ds vs → RepL cn lb H es us → RepL cn lb H (ds ++ es) (vs ++ us)
  | [], es, vs, us, h, g => by simp only [RepL] at h; rw [h]; exact g
  | d :: ds, es, vs, us, h, g => by
    simp only [RepL, List.cons_append] at h ⊢
    obtain ⟨v, r, e, h1, h2⟩ := h
    exact ⟨v, r ++ us, by rw [e]; rfl, h1, RepL.append h2 g⟩
theorem RepL.nil {cn : Cn} {lb : Lb} {H : Hp} : RepL cn lb H [] [] := by simp only [RepL]
theorem RepL.cons {cn : Cn} {lb : Lb} {H : Hp} {d : D} {ds : List D} {v : V} {vs : List V} (h : Rep cn lb H d v) (g : RepL cn lb H ds vs) : RepL cn lb H (d :: ds) (v :: vs) := by
  simp only [RepL]; exact ⟨v, vs, rfl, h, g⟩
theorem RepL.one {cn : Cn} {lb : Lb} {H : Hp} {d : D} {v : V} (h : Rep cn lb H d v) : RepL cn lb H [d] [v] := .cons h .nil
theorem RepL.take {cn : Cn} {lb : Lb} {H : Hp} : ∀ {ds : List D} {vs : List V} (n : Nat), RepL cn lb H ds vs → RepL cn lb H (ds.take n) (vs.take n)
  | _, _, 0, _ => by simp only [List.take_zero]; exact .nil
  | [], vs, n + 1, h => by simp only [RepL] at h; rw [h]; exact .nil
  | d :: ds, vs, n + 1, h => by
    simp only [RepL] at h
    obtain ⟨v, r, e, h1, h2⟩ := h
    rw [e]
    exact .cons h1 (RepL.take n h2)
theorem RepL.drop {cn : Cn} {lb : Lb} {H : Hp} : ∀ {ds : List D} {vs : List V} (n : Nat), RepL cn lb H ds vs → RepL cn lb H (ds.drop n) (vs.drop n)
  | ds, vs, 0, h => h
  | [], vs, n + 1, h => by simp only [RepL] at h; rw [h]; exact .nil
  | d :: ds, vs, n + 1, h => by
    simp only [RepL] at h
    obtain ⟨v, r, e, h1, h2⟩ := h
    rw [e]
    exact RepL.drop n h2
theorem RepL.reverse {cn : Cn} {lb : Lb} {H : Hp} : ∀ {ds : List D} {vs : List V}, RepL cn lb H ds vs → RepL cn lb H ds.reverse vs.reverse
  | [], vs, h => by simp only [RepL] at h; rw [h]; exact .nil
  | d :: ds, vs, h => by
    simp only [RepL] at h
    obtain ⟨v, r, e, h1, h2⟩ := h
    rw [e, List.reverse_cons, List.reverse_cons]
    exact (RepL.reverse h2).append (.one h1)
end Pk
/-! Br1: what a frame knows (BOk), and how it goes on. -/
namespace Pk
open PySem PySem.Spec PyProof.Rows L2

/-- what stands at an address that one alone may change -/
def OwnO (cn : Cn) (lb : Lb) (H : Hp) : D → HO → Prop
  | .lst l, o => ∃ vs, o = .lst vs ∧ l.length ≤ SZ ∧ RepL cn lb H l vs
  | .dct ks ds, o => ∃ vs, ks.length ≤ SZ ∧ RepL cn lb H ds vs ∧ ks.length = vs.length ∧ ks.Nodup ∧
      ((∃ js : List (List Int), ks = js.map .t ∧ o = .dT ((js.map fun j => j.map Sum.inl).zip vs)) ∨ (∃ js : List Int, (ks = js.map .i ∧ ks ≠ []) ∧ o = .dK ((js.map Sum.inl).zip vs)))
  | _, _ => False
theorem OwnO.stq {cn : Cn} {lb lb' : Lb} {H H' : Hp} {d : D} {o : HO} (h : OwnO cn lb H d o) (s : Stq lb H lb' H') : OwnO cn lb' H' d o := by
  cases d with
  | lst l => obtain ⟨vs, e, z, r⟩ := h; exact ⟨vs, e, z, r.stq s⟩
  | dct ks ds => obtain ⟨vs, z, r, l, nd, c⟩ := h; exact ⟨vs, z, r.stq s, l, nd, c⟩
  | _ => exact h.elim
theorem OwnO.stp {cn : Cn} {lb lb' : Lb} {H H' : Hp} {d : D} {o : HO} (h : OwnO cn lb H d o) (s : Stp lb H lb' H') : OwnO cn lb' H' d o := h.stq s.q
theorem OwnO.rep {cn : Cn} {lb : Lb} {H : Hp} {d : D} {o : HO} {a : Addr} (h : OwnO cn lb H d o) (n : lb a = none) (e : H a = some o) : Rep cn lb H d (.ref a) := by
  cases d with
  | lst l =>
    obtain ⟨vs, rfl, z, r⟩ := h
    simp only [Rep]
    exact ⟨a, vs, rfl, ⟨n, e⟩, z, r⟩
  | dct ks ds =>
    obtain ⟨vs, z, r, l, nd, c⟩ := h
    simp only [Rep]
    refine ⟨a, vs, rfl, n, z, r, l, nd, ?_⟩
    rcases c with ⟨js, e1, rfl⟩ | ⟨js, e1, rfl⟩
    · exact .inl ⟨js, e1, e⟩
    · exact .inr ⟨js, e1, e⟩
  | _ => exact h.elim

theorem OwnO.nt {cn : Cn} {lb : Lb} {H : Hp} {d : D} {o : HO} (h : OwnO cn lb H d o) : Nt o := by
  cases d with
  | lst l => obtain ⟨vs, rfl, _⟩ := h; trivial
  | dct ks ds =>
    obtain ⟨vs, _, _, _, _, c⟩ := h
    rcases c with ⟨js, _, rfl⟩ | ⟨js, _, rfl⟩ <;> trivial
  | _ => exact h.elim
def FOk (cn : Cn) (lb : Lb) (H : Hp) (n : Nat) (f : Str) (d : D) (v : V) : Prop := match d with
  | .lst l => ∃ p o, v = .ref p ∧ lb p = some (.fld n f) ∧ H p = some o ∧ OwnO cn lb H (.lst l) o
  | d => Rep cn lb H d v
def FldOk (cn : Cn) (lb : Lb) (H : Hp) (n : Nat) : List (Str × D) → List (Str × V) → Prop
  | [], fv => fv = []
  | (f, d) :: fs, fv => ∃ v r, fv = (f, v) :: r ∧ FOk cn lb H n f d v ∧ FldOk cn lb H n fs r
structure StoOk (cn : Cn) (lb : Lb) (s : Sto) (H : Hp) : Prop where
  town : ∀ a, lb a = some .town → ∃ n, s.t = some n ∧ H a = some (.lst (List.replicate n (.int 0))) ∧ n ≤ SZ
  objs : ∀ n fs, s.o[n]? = some fs → ∃ a dx fv, lb a = some (.inst n) ∧ lb dx = some (.idct n) ∧ H a = some (.ins cn.gr dx fv) ∧ H dx = some (.own a) ∧ FldOk cn lb H n fs fv
  uniq : ∀ a b l, lb a = some l → lb b = some l → l.isSto = true → a = b
  dom : ∀ a n f, (lb a = some (.inst n) ∨ lb a = some (.idct n) ∨ lb a = some (.fld n f)) → n < s.o.length
  tabs : ∀ (n : Nat) (p : Addr × Str), cn.tb[n]? = some p → lb p.1 = some (.tab n) ∧ TabL lb H p.1 p.2
theorem TabL.stq {lb lb' : Lb} {H H' : Hp} {P : Addr} {q : Str} (h : TabL lb H P q) (s : Stq lb H lb' H') (k : H' P = H P) : TabL lb' H' P q := by
  obtain ⟨ps, h1, h2, h3⟩ := h
  refine ⟨ps, by rw [k]; exact h1, h2, fun pos cv e => ?_⟩
  obtain ⟨c, e1, e2, e3⟩ := h3 pos cv e
  exact ⟨c, e1, s.none e3 e2, s.keep c _ e3 e2⟩
theorem FOk.stp {cn : Cn} {lb lb' : Lb} {H H' : Hp} {n : Nat} {f : Str} {d : D} {v : V} (h : FOk cn lb H n f d v) (s : Stq lb H lb' H') (k : ∀ a l, lb a = some l → l.isSto = true → H' a = H a) : FOk cn lb' H' n f d v := by
  unfold FOk at h ⊢
  cases d with
  | lst l =>
    obtain ⟨p, o, e, lp, hp, w⟩ := h
    exact ⟨p, o, e, s.sto p _ lp rfl, by rw [k p _ lp rfl]; exact hp, w.stq s⟩
  | _ => exact Rep.stq s h
theorem FldOk.stp {cn : Cn} {lb lb' : Lb} {H H' : Hp} {n : Nat} (s : Stq lb H lb' H') (k : ∀ a l, lb a = some l → l.isSto = true → H' a = H a) :
    ∀ {fs : List (Str × D)} {fv : List (Str × V)}, FldOk cn lb H n fs fv → FldOk cn lb' H' n fs fv
  | [], _, h => h
  | (f, d) :: fs, fv, h => by
    obtain ⟨v, r, e, h1, h2⟩ := h
    exact ⟨v, r, e, h1.stp s k, FldOk.stp s k h2⟩
/-- the store is not touched -/
theorem StoOk.stp {cn : Cn} {lb lb' : Lb} {H H' : Hp} {t : Sto} (h : StoOk cn lb t H) (s : Stq lb H lb' H') (k : ∀ a l, lb a = some l → l.isSto = true → H' a = H a) (nw : ∀ a l, lb' a = some l → l.isSto = true → lb a = some l) : StoOk cn lb' t H' where
  town := fun a e => by
    have e1 := nw a _ e rfl
    rw [k a _ e1 rfl]
    exact h.town a e1
  objs := fun n fs e => by
    obtain ⟨a, dx, fv, l1, l2, h1, h2, w⟩ := h.objs n fs e
    exact ⟨a, dx, fv, s.sto a _ l1 rfl, s.sto dx _ l2 rfl, by rw [k a _ l1 rfl]; exact h1, by rw [k dx _ l2 rfl]; exact h2, FldOk.stp s k w⟩
  uniq := fun a b l h1 h2 i => h.uniq a b l (nw a l h1 i) (nw b l h2 i) i
  dom := fun a n f e => h.dom a n f (e.imp (nw a _ · rfl) (Or.imp (nw a _ · rfl) (nw a _ · rfl)))
  tabs := fun n p e => by
    obtain ⟨h1, h2⟩ := h.tabs n p e
    exact ⟨s.sto _ _ h1 rfl, h2.stq s (k _ _ h1 rfl)⟩

/-- what is known in a def's body: lb0, H0 at its entry -/
structure BOk (cn : Cn) (lb0 : Lb) (H0 : Hp) (lb : Lb) (ρ : Env) (s : Sto) (σ : L2.St) (H : Hp) : Prop where
  since : Stp lb0 H0 lb H
  sto : StoOk cn lb s H
  has : ∀ a l, lb a = some l → ∃ o, H a = some o ∧ Nt o
  len : ρ.length = σ.length
  sh : ∀ (i : Nat) (d : D), ρ[i]? = some (.sh d) → ∃ v, σ[i]? = some (some v) ∧ Rep cn lb H d v
  ow : ∀ (i : Nat) (d : D), ρ[i]? = some (.ow d) → ∃ a o, σ[i]? = some (some (.ref a)) ∧ lb a = some (.loc i) ∧ H a = some o ∧ OwnO cn lb H d o
  lc : ∀ (a : Addr) (i : Nat), lb a = some (.loc i) → ∃ d, ρ[i]? = some (.ow d) ∧ σ[i]? = some (some (.ref a))

section
variable {cn : Cn} {lb0 lb lb' : Lb} {H0 H H' : Hp} {ρ : Env} {s : Sto} {σ : L2.St}
theorem Stp.of_ext (h : Ext H H') (has : ∀ a l, lb a = some l → ∃ o, H a = some o ∧ Nt o) : Stp lb H lb H' where
  keep := fun a o e _ => h a o e
  out := fun a e => ⟨e, by
    obtain ⟨o, q, _⟩ := has a _ e
    rw [q, h a o q]⟩
  new := fun _ h => .inl h
  sto := fun _ _ h _ => h
  dom := fun a e => by
    cases q : H a with
    | none => exact absurd q e
    | some o => rw [h a o q]; simp
theorem BOk.stp_ext (b : BOk cn lb0 H0 lb ρ s σ H) (h : Ext H H') : Stp lb H lb H' := Stp.of_ext h b.has
theorem BOk.same (b : BOk cn lb0 H0 lb ρ s σ H) (h : Ext H H') {a : Addr} {l : Lab} (e : lb a = some l) : H' a = H a := by
  obtain ⟨o, q, _⟩ := b.has a l e
  rw [q, h a o q]
theorem BOk.ext (b : BOk cn lb0 H0 lb ρ s σ H) (h : Ext H H') : BOk cn lb0 H0 lb ρ s σ H' := by
  have st := b.stp_ext h
  refine ⟨b.since.trans st, b.sto.stp st.q (fun a l e _ => b.same h e) (fun _ _ e _ => e), fun a l e => ?_, b.len, fun i d e => ?_, fun i d e => ?_, b.lc⟩
  · obtain ⟨o, q, t⟩ := b.has a l e
    exact ⟨o, h a o q, t⟩
  · obtain ⟨v, e1, r⟩ := b.sh i d e
    exact ⟨v, e1, r.stp st⟩
  · obtain ⟨a, o, e1, l, q, w⟩ := b.ow i d e
    exact ⟨a, o, e1, l, h a o q, w.stp st⟩
/-- the mark of slot i taken off -/
def unl (lb : Lb) (i : Nat) : Lb := fun a => if lb a = some (.loc i) then none else lb a
theorem unl_ne {lb : Lb} {i : Nat} {a : Addr} {l : Lab} (h : lb a = some l) (n : l ≠ .loc i) : unl lb i a = some l := by
  unfold unl
  rw [if_neg (by rw [h]; intro e; exact n (Option.some.inj e))]
  exact h
theorem of_unl {lb : Lb} {i : Nat} {a : Addr} {l : Lab} (h : unl lb i a = some l) : lb a = some l ∧ l ≠ .loc i := by
  unfold unl at h
  split at h
  · cases h
  · rename_i n
    refine ⟨h, fun e => n ?_⟩
    rw [h, e]
theorem unl_none {lb : Lb} {i : Nat} {a : Addr} (h : lb a = none) : unl lb i a = none := by
  unfold unl
  split
  · rfl
  · exact h
theorem Stp.unl (lb : Lb) (H : Hp) (i : Nat) : Stp lb H (unl lb i) H where
  keep := fun _ _ h _ => h
  out := fun a h => ⟨unl_ne h (by intro e; cases e), rfl⟩
  new := fun a h => .inl fun e => h (unl_none e)
  sto := fun a l h i => unl_ne h (by rintro rfl; cases i)
  dom := fun _ h => h
/-- slot i holds what may be shared -/
theorem BOk.setSh (b : BOk cn lb0 H0 lb ρ s σ H) (i : Nat) {d : D} {v : V} (r : Rep cn lb H d v) : BOk cn lb0 H0 (Pk.unl lb i) (ρ.set i (.sh d)) s (σ.set i (some v)) H := by
  have st := Stp.unl lb H i
  refine ⟨b.since.trans st, b.sto.stp st.q (fun _ _ _ _ => rfl) (fun _ _ e _ => (of_unl e).1), fun a l e => b.has a l (of_unl e).1, by simpa using b.len, fun j e h => ?_, fun j e h => ?_, fun a j h => ?_⟩
  · by_cases hj : i = j
    · subst hj
      rw [List.getElem?_set] at h
      simp only [if_true] at h
      split at h
      · rename_i hl
        cases h
        refine ⟨v, ?_, r.stp st⟩
        rw [List.getElem?_set, if_pos rfl, if_pos (by rw [← b.len]; exact hl)]
      · cases h
    · rw [List.getElem?_set_ne hj] at h
      obtain ⟨u, e1, q⟩ := b.sh j e h
      exact ⟨u, by rw [List.getElem?_set_ne hj]; exact e1, q.stp st⟩
  · by_cases hj : i = j
    · subst hj
      rw [List.getElem?_set] at h
      simp only [if_true] at h
      split at h <;> cases h
    · rw [List.getElem?_set_ne hj] at h
      obtain ⟨a, o, e1, l, q, w⟩ := b.ow j e h
      exact ⟨a, o, by rw [List.getElem?_set_ne hj]; exact e1, unl_ne l (by rintro z; cases z; exact hj rfl), q, w.stp st⟩
  · obtain ⟨h1, n⟩ := of_unl h
    have hj : i ≠ j := fun e => n (by rw [e])
    obtain ⟨d', e1, e2⟩ := b.lc a j h1
    exact ⟨d', by rw [List.getElem?_set_ne hj]; exact e1, by rw [List.getElem?_set_ne hj]; exact e2⟩
theorem set_same_opt {α : Type} {l : List α} {i : Nat} {x : α} (h : l[i]? = some x) : l.set i x = l := by
  apply List.ext_getElem?
  intro j
  rw [List.getElem?_set]
  split
  · rename_i e
    subst e
    split
    · exact h.symm
    · rename_i hn
      rw [List.getElem?_eq_none (by omega)] at h
      cases h
  · rfl
/-- a list that only this frame knew may be shared from now on -/
theorem BOk.release (b : BOk cn lb0 H0 lb ρ s σ H) {i : Nat} {d : D} (h : ρ[i]? = some (.ow d)) : ∃ v, σ[i]? = some (some v) ∧ BOk cn lb0 H0 (Pk.unl lb i) (ρ.set i (.sh d)) s σ H ∧ Rep cn (Pk.unl lb i) H d v := by
  obtain ⟨a, o, e1, l, q, w⟩ := b.ow i d h
  have st := Stp.unl lb H i
  have na : Pk.unl lb i a = none := by unfold Pk.unl; rw [if_pos l]
  have r : Rep cn (Pk.unl lb i) H d (.ref a) := (w.stp st).rep na q
  refine ⟨.ref a, e1, ⟨b.since.trans st, b.sto.stp st.q (fun _ _ _ _ => rfl) (fun _ _ e _ => (of_unl e).1), fun a l e => b.has a l (of_unl e).1, by simpa using b.len, fun j e h => ?_, fun j e h => ?_, fun a j h => ?_⟩, r⟩
  · by_cases hj : i = j
    · subst hj
      rw [List.getElem?_set] at h
      simp only [if_true] at h
      split at h
      · cases h; exact ⟨.ref a, e1, r⟩
      · cases h
    · rw [List.getElem?_set_ne hj] at h
      obtain ⟨u, e1, q⟩ := b.sh j e h
      exact ⟨u, e1, q.stp st⟩
  · by_cases hj : i = j
    · subst hj
      rw [List.getElem?_set] at h
      simp only [if_true] at h
      split at h <;> cases h
    · rw [List.getElem?_set_ne hj] at h
      obtain ⟨a, o, e1, l, q, w⟩ := b.ow j e h
      exact ⟨a, o, e1, unl_ne l (by rintro z; cases z; exact hj rfl), q, w.stp st⟩
  · obtain ⟨h1, n⟩ := of_unl h
    have hj : i ≠ j := fun e => n (by rw [e])
    obtain ⟨d', e1, e2⟩ := b.lc a j h1
    exact ⟨d', by rw [List.getElem?_set_ne hj]; exact e1, e2⟩
/-- a new mark -/
def mrk (lb : Lb) (p : Addr) (l : Lab) : Lb := fun a => if a = p then some l else lb a
theorem mrk_same {p : Addr} {l : Lab} : mrk lb p l p = some l := by unfold mrk; rw [if_pos rfl]
theorem mrk_ne {p a : Addr} {l : Lab} (h : a ≠ p) : mrk lb p l a = lb a := by unfold mrk; rw [if_neg h]
/-- slot i holds a new thing, that only it knows -/
theorem BOk.setOw (b : BOk cn lb0 H0 lb ρ s σ H) (i : Nat) {p : Addr} {d : D} {o : HO} (hi : i < ρ.length) (np : H p = none) (w : OwnO cn lb H d o) :
    BOk cn lb0 H0 (mrk (Pk.unl lb i) p (.loc i)) (ρ.set i (.ow d)) s (σ.set i (some (.ref p))) (L2.upd H p o) ∧ Stp lb H (mrk (Pk.unl lb i) p (.loc i)) (L2.upd H p o) := by
  have lp : lb p = none := by
    cases q : lb p with
    | none => rfl
    | some l => obtain ⟨o, e, _⟩ := b.has p l q; rw [np] at e; cases e
  have ne : ∀ a l, lb a = some l → a ≠ p := fun a l e z => by rw [z, lp] at e; cases e
  have st : Stp lb H (mrk (Pk.unl lb i) p (.loc i)) (L2.upd H p o) :=
    { keep := fun a o e n => Ext.upd np a o e
      out := fun a e => by
        have na := ne a _ e
        exact ⟨by rw [mrk_ne na]; exact unl_ne e (by intro z; cases z), by rw [upd_ne na]⟩
      new := fun a h => by
        by_cases ha : a = p
        · rw [ha]; exact .inr np
        · rw [mrk_ne ha] at h
          exact .inl fun z => h (unl_none z)
      sto := fun a l e z => by
        rw [mrk_ne (ne a l e)]
        exact unl_ne e (by rintro rfl; cases z)
      dom := fun a e => by
        cases q : H a with
        | none => exact absurd q e
        | some u => rw [Ext.upd np a u q]; simp }
  have back : ∀ a l, mrk (Pk.unl lb i) p (.loc i) a = some l → l ≠ .loc i → lb a = some l ∧ a ≠ p := fun a l e z => by
    by_cases ha : a = p
    · rw [ha, mrk_same] at e
      exact absurd (Option.some.inj e).symm z
    · rw [mrk_ne ha] at e
      exact ⟨(of_unl e).1, ha⟩
  refine ⟨⟨b.since.trans st, b.sto.stp st.q (fun a l e _ => by rw [upd_ne (ne a l e)]) (fun a l e z => (back a l e (by rintro rfl; cases z)).1), fun a l e => ?_, by simpa using b.len, fun j e h => ?_, fun j e h => ?_, fun a j h => ?_⟩, st⟩
  · by_cases ha : a = p
    · exact ⟨o, by rw [ha, upd_same], w.nt⟩
    · rw [mrk_ne ha] at e
      obtain ⟨u, q, t⟩ := b.has a l (of_unl e).1
      exact ⟨u, by rw [upd_ne ha]; exact q, t⟩
  · by_cases hj : i = j
    · subst hj
      rw [List.getElem?_set] at h
      simp only [if_true] at h
      split at h <;> cases h
    · rw [List.getElem?_set_ne hj] at h
      obtain ⟨u, e1, q⟩ := b.sh j e h
      exact ⟨u, by rw [List.getElem?_set_ne hj]; exact e1, q.stp st⟩
  · by_cases hj : i = j
    · subst hj
      rw [List.getElem?_set, if_pos rfl, if_pos hi] at h
      cases h
      exact ⟨p, o, by rw [List.getElem?_set, if_pos rfl, if_pos (by rw [← b.len]; exact hi)], mrk_same, upd_same, w.stp st⟩
    · rw [List.getElem?_set_ne hj] at h
      obtain ⟨a, o', e1, l, q, w⟩ := b.ow j e h
      have na := ne a _ l
      refine ⟨a, o', by rw [List.getElem?_set_ne hj]; exact e1, ?_, by rw [upd_ne na]; exact q, w.stp st⟩
      rw [mrk_ne na]
      exact unl_ne l (by rintro z; cases z; exact hj rfl)
  · by_cases hj : i = j
    · subst hj
      have ha : a = p := by
        refine Classical.byContradiction fun ha => ?_
        rw [mrk_ne ha] at h
        exact (of_unl h).2 rfl
      subst ha
      exact ⟨d, by rw [List.getElem?_set, if_pos rfl, if_pos hi], by rw [List.getElem?_set, if_pos rfl, if_pos (by rw [← b.len]; exact hi)]⟩
    · obtain ⟨h1, ha⟩ := back a _ h (by rintro z; cases z; exact hj rfl)
      obtain ⟨d', e1, e2⟩ := b.lc a j h1
      exact ⟨d', by rw [List.getElem?_set_ne hj]; exact e1, by rw [List.getElem?_set_ne hj]; exact e2⟩
/-- the thing of slot i is changed -/
theorem BOk.change (b : BOk cn lb0 H0 lb ρ s σ H) {i : Nat} {a : Addr} {d d' : D} {o o' : HO} (h : ρ[i]? = some (.ow d)) (e : σ[i]? = some (some (.ref a))) (q : H a = some o) (w : OwnO cn lb H d' o') :
    BOk cn lb0 H0 lb (ρ.set i (.ow d')) s σ (L2.upd H a o') ∧ Stp lb H lb (L2.upd H a o') := by
  obtain ⟨a', _, e1, l, _, _⟩ := b.ow i d h
  rw [e] at e1
  cases e1
  have hi : i < ρ.length := (List.getElem?_eq_some_iff.mp h).1
  have ne : ∀ x l', lb x = some l' → l' ≠ .loc i → x ≠ a := fun x l' e n z => by rw [z, l] at e; exact n (Option.some.inj e).symm
  have st : Stp lb H lb (L2.upd H a o') :=
    { keep := fun x u h n => by rw [upd_ne (by rintro rfl; rw [l] at n; cases n)]; exact h
      out := fun x h => ⟨h, by rw [upd_ne (ne x _ h (by intro z; cases z))]⟩
      new := fun _ h => .inl h
      sto := fun _ _ h _ => h
      dom := fun x h => by
        by_cases hx : x = a
        · rw [hx, upd_same]; simp
        · rw [upd_ne hx]; exact h }
  refine ⟨⟨b.since.trans st, b.sto.stp st.q (fun x l' e z => by rw [upd_ne (ne x l' e (by rintro rfl; cases z))]) (fun _ _ e _ => e), fun x l' e => ?_, by simpa using b.len, fun j u h => ?_, fun j u h => ?_, fun x j h => ?_⟩, st⟩
  · by_cases hx : x = a
    · exact ⟨o', by rw [hx, upd_same], w.nt⟩
    · obtain ⟨u, q, t⟩ := b.has x l' e
      exact ⟨u, by rw [upd_ne hx]; exact q, t⟩
  · by_cases hj : i = j
    · subst hj
      rw [List.getElem?_set, if_pos rfl, if_pos hi] at h
      cases h
    · rw [List.getElem?_set_ne hj] at h
      obtain ⟨u, e1, q⟩ := b.sh j u h
      exact ⟨u, e1, q.stp st⟩
  · by_cases hj : i = j
    · subst hj
      rw [List.getElem?_set, if_pos rfl, if_pos hi] at h
      cases h
      exact ⟨a, o', e, l, upd_same, w.stp st⟩
    · rw [List.getElem?_set_ne hj] at h
      obtain ⟨x, u, e1, l', q, w⟩ := b.ow j u h
      exact ⟨x, u, e1, l', by rw [upd_ne (ne x _ l' (by rintro z; cases z; exact hj rfl))]; exact q, w.stp st⟩
  · obtain ⟨u, e1, e2⟩ := b.lc x j h
    by_cases hj : i = j
    · subst hj
      exact ⟨d', by rw [List.getElem?_set, if_pos rfl, if_pos hi], e2⟩
    · exact ⟨u, by rw [List.getElem?_set_ne hj]; exact e1, e2⟩
end
end Pk
/-! Br2: the judgements over plain values, expressions. -/
namespace Pk
open PySem PySem.Spec PyProof.Rows L2

/-- a def's body at work: the entry, what is wanted of an exception -/
structure Bd where
  cn : Cn
  lb0 : Lb
  H0 : Hp
  W : WX
abbrev Ok (b : Bd) (lb : Lb) (ρ : Env) (s : Sto) (σ : L2.St) (H : Hp) : Prop := BOk b.cn b.lb0 b.H0 lb ρ s σ H
/-- an exception as it flies: its class, its own dict -/
def XRep (cn : Cn) (lb : Lb) (H : Hp) (x : Xc) (cls : Value) (dx : Option Addr) : Prop :=
  cls = .ref (cn.cls x.cls) ∧ match x.arg with
    | .none => dx = none
    | some d => ∃ p v, dx = some p ∧ lb p = none ∧ H p = some (.xd [("cell", v)]) ∧ Rep cn lb H d v
def Post {α : Type} (b : Bd) (σ : L2.St) (lb : Lb) (H : Hp) (r : R α) (k : α → Env → Sto → Lb → Hp → Prop) : Prop := match r with
  | .ok a ρ s => ∀ lb' H', Stp lb H lb' H' → Ok b lb' ρ s σ H' → k a ρ s lb' H'
  | .exc x ρ s => ∀ lb' H' cls dx, Stp lb H lb' H' → Ok b lb' ρ s σ H' → XRep b.cn lb' H' x cls dx → b.W cls dx σ H'
  | .bad => False
section
variable {α β : Type} {b : Bd} {σ : L2.St} {lb lb1 : Lb} {H H1 : Hp} {r : R α} {k k' : α → Env → Sto → Lb → Hp → Prop}
theorem Post.from (h : Post b σ lb H r k) (st : Stp lb H lb1 H1) : Post b σ lb1 H1 r k := by
  cases r with
  | ok a ρ s => exact fun lb' H' s1 o => h lb' H' (st.trans s1) o
  | exc x ρ s => exact fun lb' H' c d s1 o z => h lb' H' c d (st.trans s1) o z
  | bad => exact h
theorem Post.mono (h : Post b σ lb H r k) (f : ∀ a ρ s lb' H', Stp lb H lb' H' → Ok b lb' ρ s σ H' → k a ρ s lb' H' → k' a ρ s lb' H') : Post b σ lb H r k' := by
  cases r with
  | ok a ρ s => exact fun lb' H' s1 o => f a ρ s lb' H' s1 o (h lb' H' s1 o)
  | exc x ρ s => exact h
  | bad => exact h
theorem Post.bind {f : α → Env → Sto → R β} {k : β → Env → Sto → Lb → Hp → Prop} (h : Post b σ lb H (r.bind f) k) : Post b σ lb H r fun a ρ s lb' H' => Post b σ lb' H' (f a ρ s) k := by
  cases r with
  | ok a ρ s => exact fun lb' H' s1 o => Post.from h s1
  | exc x ρ s => exact h
  | bad => exact h
end

/-- what follows: a value that stands; a new thing that nobody else knows -/
def KV (cn : Cn) (lb : Lb) (H : Hp) (d : D) (Q : VK) : Prop := ∀ v H', Ext H H' → Rep cn lb H' d v → Q v H'
def KF (cn : Cn) (lb : Lb) (H : Hp) (d : D) (Q : VK) : Prop := ∀ p o, H p = none → OwnO cn lb H d o → Q (.ref p) (L2.upd H p o)
def Kt (fresh : Bool) (cn : Cn) (lb : Lb) (H : Hp) (d : D) (Q : VK) : Prop := if fresh then KF cn lb H d Q else KV cn lb H d Q
abbrev Has (lb : Lb) (H : Hp) : Prop := ∀ a l, lb a = some l → ∃ o, H a = some o ∧ Nt o
theorem Has.none {lb : Lb} {H : Hp} (h : Has lb H) {p : Addr} (e : H p = none) : lb p = none := by
  cases q : lb p with
  | none => rfl
  | some l => obtain ⟨o, z, _⟩ := h p l q; rw [e] at z; cases z
theorem KV.kf {cn : Cn} {lb : Lb} {H : Hp} {d : D} {Q : VK} (hs : Has lb H) (h : KV cn lb H d Q) : KF cn lb H d Q := fun p o np w =>
  h _ _ (Ext.upd np) ((w.stp (Stp.of_ext (Ext.upd np) hs)).rep (hs.none np) upd_same)
theorem Kt.kf {fresh : Bool} {cn : Cn} {lb : Lb} {H : Hp} {d : D} {Q : VK} (hs : Has lb H) (h : Kt fresh cn lb H d Q) : KF cn lb H d Q := by
  cases fresh with
  | true => exact h
  | false => exact KV.kf hs h
theorem KV.now {cn : Cn} {lb : Lb} {H : Hp} {d : D} {Q : VK} (h : KV cn lb H d Q) {v : V} (r : Rep cn lb H d v) : Q v H := h v H Ext.refl r

/-- the reading of an expression -/
def tK (fresh : Bool) (b : Bd) (m : M D) : TE := fun σ H Q => ∃ lb ρ s, Ok b lb ρ s σ H ∧ Post b σ lb H (m ρ s) fun d _ _ lb' H' => Kt fresh b.cn lb' H' d Q
abbrev DE (X : Cx) (b : Bd) (e : Expr) (m : M D) : Prop := PE X e (tK false b m)
/-- .. that makes a new list or dict -/
abbrev DF (X : Cx) (b : Bd) (e : Expr) (m : M D) : Prop := PE X e (tK true b m)
theorem PE.imp {X : Cx} {e : Expr} {t t' : TE} (h : PE X e t) (f : ∀ σ H Q, t' σ H Q → t σ H Q) : PE X e t' := ⟨fun pins s σ H Q I q => h.run pins s σ H Q I (f σ H Q q)⟩
theorem PT.imp {X : Cx} {e : Expr} {t t' : TT} (h : PT X e t) (f : ∀ σ H Q, t' σ H Q → t σ H Q) : PT X e t' := ⟨fun pins s σ H Q I q => h.run pins s σ H Q I (f σ H Q q)⟩
theorem PA.imp {X : Cx} {e : List Expr} {t t' : TA} (h : PA X e t) (f : ∀ σ H Q, t' σ H Q → t σ H Q) : PA X e t' := ⟨fun pos pins s σ H Q I q => h.run pos pins s σ H Q I (f σ H Q q)⟩
theorem PS.imp {X : Cx} {e : Stmt} {t t' : TS} (h : PS X e t) (f : ∀ D σ H, t' D σ H → t D σ H) : PS X e t' := ⟨fun pins s σ H D I q => h.run pins s σ H D I (f D σ H q)⟩
theorem PSs.imp {X : Cx} {e : List Stmt} {t t' : TS} (h : PSs X e t) (f : ∀ D σ H, t' D σ H → t D σ H) : PSs X e t' := ⟨fun pins s σ H D I q => h.run pins s σ H D I (f D σ H q)⟩

section
variable {X : Cx} {b : Bd}
theorem de_f {e : Expr} {m : M D} (h : DF X b e m) : DE X b e m := PE.imp h fun σ H Q ⟨lb, ρ, s, o, p⟩ => ⟨lb, ρ, s, o, p.mono fun d ρ s lb' H' _ o' q => Kt.kf o'.has q⟩
/-- a constant -/
theorem de_c {e : Expr} {v : V} {d : D} (h : PE X e (tC v)) (r : ∀ lb H, Rep b.cn lb H d v) : DE X b e (eC d) := PE.imp h fun σ H Q ⟨lb, ρ, s, o, p⟩ =>
  (show Kt false b.cn lb H d Q from p lb H .refl o) v H .refl (r _ _)
theorem de_int {i : Int} {j pos} : DE X b (.Constant (.int i) j pos) (eC (.int i)) := de_c pe_int fun _ _ => by simp only [Rep]
theorem de_bool {c : Bool} {j pos} : DE X b (.Constant (.bool c) j pos) (eC (.bool c)) := de_c pe_bl fun _ _ => by simp only [Rep]
theorem de_none {j pos} : DE X b (.Constant .none j pos) (eC .none) := de_c pe_non fun _ _ => by simp only [Rep]
theorem de_str {x : Str} {j pos} : DE X b (.Constant (.str x) j pos) (eC (.str x)) := de_c pe_str fun _ _ => by simp only [Rep]
/-- a name of the frame -/
theorem de_v {e : Expr} (i : Nat) (h : PE X e (tVar i)) : DE X b e (eV i) := PE.imp h fun σ H Q ⟨lb, ρ, s, o, p⟩ => by
  unfold eV at p
  cases q : ρ[i]? with
  | none => rw [q] at p; exact False.elim p
  | some z =>
    rw [q] at p
    cases z with
    | no => exact False.elim p
    | sh d =>
      obtain ⟨v, e1, r⟩ := o.sh i d q
      exact ⟨v, e1, KV.now (show KV b.cn lb H d Q from p lb H .refl o) r⟩
    | ow d =>
      obtain ⟨v, e1, o', r⟩ := o.release q
      exact ⟨v, e1, KV.now (show KV b.cn (unl lb i) H d Q from p (unl lb i) H (.unl lb H i) o') r⟩

/-- an operand that is looked at: its root may be the frame's own -/
def RepB (cn : Cn) (lb : Lb) (H : Hp) (d : D) (v : V) : Prop := Rep cn lb H d v ∨ ∃ a o, v = .ref a ∧ H a = some o ∧ OwnO cn lb H d o
theorem RepB.lst {cn : Cn} {lb : Lb} {H : Hp} {l : List D} {v : V} (h : RepB cn lb H (.lst l) v) : ∃ a vs, v = .ref a ∧ H a = some (.lst vs) ∧ l.length ≤ SZ ∧ RepL cn lb H l vs := by
  rcases h with h | ⟨a, o, e, q, w⟩
  · simp only [Rep] at h
    obtain ⟨a, vs, e, n, z, r⟩ := h
    exact ⟨a, vs, e, n.2, z, r⟩
  · obtain ⟨vs, rfl, z, r⟩ := w
    exact ⟨a, vs, e, q, z, r⟩
theorem RepB.tup {cn : Cn} {lb : Lb} {H : Hp} {l : List D} {v : V} (h : RepB cn lb H (.tup l) v) : ∃ a vs, v = .ref a ∧ H a = some (.tup vs) ∧ l.length ≤ SZ ∧ RepL cn lb H l vs := by
  rcases h with h | ⟨a, o, e, q, w⟩
  · simp only [Rep] at h
    obtain ⟨a, vs, e, n, z, r⟩ := h
    exact ⟨a, vs, e, n.2, z, r⟩
  · exact w.elim
theorem RepB.dct {cn : Cn} {lb : Lb} {H : Hp} {ks : List Ky} {ds : List D} {v : V} (h : RepB cn lb H (.dct ks ds) v) : ∃ a vs, v = .ref a ∧ RepL cn lb H ds vs ∧ ks.length = vs.length ∧ ks.Nodup ∧ ks.length ≤ SZ ∧
    ((∃ js : List (List Int), ks = js.map .t ∧ H a = some (.dT ((js.map fun j => j.map Sum.inl).zip vs))) ∨ (∃ js : List Int, (ks = js.map .i ∧ ks ≠ []) ∧ H a = some (.dK ((js.map Sum.inl).zip vs)))) := by
  rcases h with h | ⟨a, o, e, q, w⟩
  · simp only [Rep] at h
    obtain ⟨a, vs, e, n, z, r, l, nd, c⟩ := h
    exact ⟨a, vs, e, r, l, nd, z, c⟩
  · obtain ⟨vs, z, r, l, nd, c⟩ := w
    refine ⟨a, vs, e, r, l, nd, z, ?_⟩
    rcases c with ⟨js, e1, rfl⟩ | ⟨js, e1, rfl⟩
    · exact .inl ⟨js, e1, q⟩
    · exact .inr ⟨js, e1, q⟩
theorem RepB.scr {cn : Cn} {lb : Lb} {H : Hp} {l : List Int} {v : V} (h : RepB cn lb H (.scr l) v) : ∃ a, v = .ref a ∧ SqL cn.K H a (l.map V.int) ∧ l.length ≤ SZ := by
  rcases h with h | ⟨a, o, e, q, w⟩
  · simp only [Rep] at h
    obtain ⟨a, e, n, z⟩ := h
    exact ⟨a, e, n.sq, z⟩
  · exact w.elim
/-- the scalars -/
theorem RepB.flat {cn : Cn} {lb : Lb} {H : Hp} {d : D} {v : V} (h : RepB cn lb H d v) (n : ∀ l, d ≠ .lst l) (m : ∀ ks ds, d ≠ .dct ks ds) : Rep cn lb H d v := by
  rcases h with h | ⟨a, o, e, q, w⟩
  · exact h
  · cases d with
    | lst l => exact absurd rfl (n l)
    | dct ks ds => exact absurd rfl (m ks ds)
    | _ => exact w.elim
theorem RepB.int {cn : Cn} {lb : Lb} {H : Hp} {i : Int} {v : V} (h : RepB cn lb H (.int i) v) : v = .int i := by
  have q := h.flat (fun _ e => nomatch e) (fun _ _ e => nomatch e)
  simpa only [Rep] using q
theorem RepB.bool {cn : Cn} {lb : Lb} {H : Hp} {i : Bool} {v : V} (h : RepB cn lb H (.bool i) v) : v = .bl i := by
  have q := h.flat (fun _ e => nomatch e) (fun _ _ e => nomatch e)
  simpa only [Rep] using q
theorem RepB.none {cn : Cn} {lb : Lb} {H : Hp} {v : V} (h : RepB cn lb H .none v) : v = .non := by
  have q := h.flat (fun _ e => nomatch e) (fun _ _ e => nomatch e)
  simpa only [Rep] using q
theorem RepB.str {cn : Cn} {lb : Lb} {H : Hp} {i : Str} {v : V} (h : RepB cn lb H (.str i) v) : v = .str i := by
  have q := h.flat (fun _ e => nomatch e) (fun _ _ e => nomatch e)
  simpa only [Rep] using q

/-- an operand's judgement -/
def DO (X : Cx) (b : Bd) (e : Expr) : Opd → Prop
  | .v m => DE X b e m
  | .b i => PE X e (tVar i)
def tOpd (b : Bd) : Opd → TE
  | .v m => tK false b m
  | .b i => tVar i
theorem DO.pe {e : Expr} {a : Opd} (h : DO X b e a) : PE X e (tOpd b a) := by
  cases a with
  | v m => exact h
  | b i => exact h
/-- what an operand's value stands for -/
def Stands (cn : Cn) (lb : Lb) (σ : L2.St) (H : Hp) (x : D ⊕ Nat) (v : V) : Prop := match x with
  | .inl d => Rep cn lb H d v
  | .inr i => σ[i]? = some (some v)
theorem Stands.stp {cn : Cn} {lb lb' : Lb} {σ : L2.St} {H H' : Hp} {x : D ⊕ Nat} {v : V} (h : Stands cn lb σ H x v) (s : Stp lb H lb' H') : Stands cn lb' σ H' x v := by
  cases x with
  | inl d => exact Rep.stp s h
  | inr i => exact h
theorem Stands.look {lb : Lb} {σ : L2.St} {H : Hp} {ρ : Env} {s : Sto} {x : D ⊕ Nat} {v : V} {d : D} (h : Stands b.cn lb σ H x v) (o : Ok b lb ρ s σ H) (e : look ρ x = some d) : RepB b.cn lb H d v := by
  cases x with
  | inl d' => cases e; exact .inl h
  | inr i =>
    have h : σ[i]? = some (some v) := h
    unfold Pk.look at e
    cases q : ρ[i]? with
    | none => simp only [q] at e; cases e
    | some z =>
      simp only [q] at e
      cases z with
      | no => cases e
      | sh d' =>
        cases e
        obtain ⟨u, e1, r⟩ := o.sh i d q
        rw [h] at e1; cases e1
        exact .inl r
      | ow d' =>
        cases e
        obtain ⟨a, ob, e1, l, z, w⟩ := o.ow i d q
        rw [h] at e1; cases e1
        exact .inr ⟨a, ob, rfl, z, w⟩
/-- an operand is reckoned -/
theorem tOpd_run {σ : L2.St} {lb : Lb} {H : Hp} {ρ : Env} {s : Sto} {a : Opd} {k : D ⊕ Nat → Env → Sto → Lb → Hp → Prop} {Q : VK} (o : Ok b lb ρ s σ H) (h : Post b σ lb H (a.run ρ s) k)
    (f : ∀ x ρ s lb' H' v, Stp lb H lb' H' → Ok b lb' ρ s σ H' → k x ρ s lb' H' → Stands b.cn lb' σ H' x v → Q v H') : tOpd b a σ H Q := by
  cases a with
  | v m =>
    refine ⟨lb, ρ, s, o, (Post.bind h).mono fun d ρ1 s1 lb1 H1 st o1 p v H2 ex r => ?_⟩
    have q := p lb1 H2 (o1.stp_ext ex) (o1.ext ex)
    exact f (.inl d) ρ1 s1 lb1 H2 v (st.trans (o1.stp_ext ex)) (o1.ext ex) q r
  | b i =>
    simp only [Opd.run] at h
    cases q : ρ[i]? with
    | none => rw [q] at h; exact False.elim h
    | some z =>
      rw [q] at h
      cases z with
      | no => exact False.elim h
      | sh d =>
        obtain ⟨v, e, _⟩ := o.sh i d q
        exact ⟨v, e, f (.inr i) ρ s lb H v .refl o (h lb H .refl o) e⟩
      | ow d =>
        obtain ⟨a, _, e, _⟩ := o.ow i d q
        exact ⟨.ref a, e, f (.inr i) ρ s lb H (.ref a) .refl o (h lb H .refl o) e⟩

theorem opt_post {α : Type} {σ : L2.St} {lb : Lb} {H : Hp} {ρ : Env} {s : Sto} {v : Option α} {k : α → Env → Sto → Lb → Hp → Prop} (o : Ok b lb ρ s σ H) (h : Post b σ lb H (opt v ρ s) k) : ∃ a, v = some a ∧ k a ρ s lb H := by
  cases v with
  | none => exact False.elim h
  | some a => exact ⟨a, rfl, h lb H .refl o⟩
/-! ### operations on values -/
def P1 (fresh : Bool) (cn : Cn) (r : V → Hp → VK → Prop) (p : D → Option D) : Prop := ∀ (lb : Lb) (H : Hp) (x : V) (d e : D) (Q : VK), Has lb H → RepB cn lb H d x → p d = some e → Kt fresh cn lb H e Q → r x H Q
def P2 (fresh : Bool) (cn : Cn) (r : R2) (p : D → D → Option D) : Prop := ∀ (lb : Lb) (H : Hp) (x y : V) (d1 d2 e : D) (Q : VK), Has lb H → RepB cn lb H d1 x → RepB cn lb H d2 y → p d1 d2 = some e → Kt fresh cn lb H e Q → r x y H Q
def tOp1 (r : V → Hp → VK → Prop) (ta : TE) : TE := fun σ H Q => ta σ H fun x H1 => r x H1 Q
theorem t1_run {fresh : Bool} {a : Opd} {r : V → Hp → VK → Prop} {p : D → Option D} (hp : P1 fresh b.cn r p) {σ : L2.St} {H : Hp} {Q : VK} (h : tK fresh b (e1 p a) σ H Q) : tOp1 r (tOpd b a) σ H Q := by
  obtain ⟨lb, ρ, s, o, h⟩ := h
  refine tOpd_run o (Post.bind h) fun x ρ1 s1 lb1 H1 v st o1 q sd => ?_
  obtain ⟨e, e1, k⟩ := opt_post o1 q
  cases e2 : look ρ1 x with
  | none => rw [e2] at e1; cases e1
  | some d =>
    rw [e2] at e1
    exact hp lb1 H1 v d e Q o1.has (sd.look o1 e2) e1 k
theorem t2_run {fresh : Bool} {a c : Opd} {r : R2} {p : D → D → Option D} (hp : P2 fresh b.cn r p) {σ : L2.St} {H : Hp} {Q : VK} (h : tK fresh b (e2 p a c) σ H Q) : tOp r (tOpd b a) (tOpd b c) σ H Q := by
  obtain ⟨lb, ρ, s, o, h⟩ := h
  refine tOpd_run o (Post.bind h) fun x ρ1 s1 lb1 H1 v st o1 q sd => ?_
  refine tOpd_run o1 (Post.bind q) fun y ρ2 s2 lb2 H2 u st2 o2 q2 sd2 => ?_
  obtain ⟨e, e1, k⟩ := opt_post o2 q2
  cases e2 : look ρ2 x with
  | none => rw [e2] at e1; cases e1
  | some d =>
    rw [e2] at e1
    cases e3 : look ρ2 y with
    | none => rw [e3] at e1; cases e1
    | some d' =>
      rw [e3] at e1
      exact hp lb2 H2 v u d d' e Q o2.has ((sd.stp st2).look o2 e2) (sd2.look o2 e3) e1 k
/-- a + b and their like -/
theorem de_bin {fresh : Bool} {op : Operator} {r : R2} {p : D → D → Option D} {ea ec : Expr} {a c : Opd} {pos : Pos} (ho : OpR X (binaryOp op) r) (hp : P2 fresh b.cn r p) (ha : DO X b ea a) (hc : DO X b ec c) :
    PE X (.BinOp ea op ec pos) (tK fresh b (e2 p a c)) := PE.imp (pe_op ho ha.pe hc.pe) fun _ _ _ h => t2_run hp h
theorem de_un {op : UnaryOp} {r : V → Hp → VK → Prop} {p : D → Option D} {ea : Expr} {a : Opd} {pos : Pos} (ho : UnR X (unaryOp op) r) (hp : P1 false b.cn r p) (ha : DO X b ea a) :
    DE X b (.UnaryOp op ea pos) (e1 p a) := PE.imp (pe_un ho ha.pe) fun _ _ _ h => t1_run hp h
theorem de_cmp {op : CmpOp} {r : R2} {p : D → D → Option D} {ea ec : Expr} {a c : Opd} {pos : Pos} (ho : OpR X (compareOp op) r) (hp : P2 false b.cn r p) (ha : DO X b ea a) (hc : DO X b ec c) (hm : behindInMarks op ec = false) :
    DE X b (.Compare ea [op] [ec] pos) (e2 p a c) := PE.imp (pe_cmpR ho ha.pe hc.pe hm) fun _ _ _ h => t2_run hp h

/-! ### tests -/
def tT (b : Bd) (m : M D) : TT := fun σ H Q => ∃ lb ρ s, Ok b lb ρ s σ H ∧ Post b σ lb H (m ρ s) fun d _ _ _ H' => match d with
  | .bool c => ∀ H2, Ext H' H2 → Q c H2
  | _ => False
abbrev DT (X : Cx) (b : Bd) (e : Expr) (m : M D) : Prop := PT X e (tT b m)
theorem tT_test {m : M D} {σ : L2.St} {H : Hp} {Q : Bool → Hp → Prop} (h : tT b m σ H Q) : tTest (tK false b m) σ H Q := by
  obtain ⟨lb, ρ, s, o, h⟩ := h
  refine ⟨lb, ρ, s, o, h.mono fun d ρ1 s1 lb1 H1 st o1 q => fun v H2 ex r => ?_⟩
  cases d with
  | bool c =>
    simp only [Rep] at r
    exact ⟨c, r, q H2 ex⟩
  | _ => exact False.elim q
/-- any expression but and, or, not, comparisons -/
theorem dt_val {e : Expr} {m : M D} (h : DE X b e m) (he : ∀ whole, isTrue e X.env whole = (do let v ← whole; standAt e.pos; holding [v] (truthy v)) := by intro _; rfl) : DT X b e m :=
  PT.imp (pt_val h he) fun _ _ _ h => tT_test h
theorem dt_cmp {op : CmpOp} {r : R2} {p : D → D → Option D} {ea ec : Expr} {a c : Opd} {pos : Pos} (ho : OpR X (compareOp op) r) (hp : P2 false b.cn r p) (ha : DO X b ea a) (hc : DO X b ec c) (hm : behindInMarks op ec = false) :
    DT X b (.Compare ea [op] [ec] pos) (e2 p a c) := PT.imp (pt_cmpR ho ha.pe hc.pe hm) fun σ H Q h => t2_run (Q := fun x H' => ∃ k, x = .bl k ∧ Q k H') hp (tT_test h)
end
end Pk
/-! Br3: argument lists, displays, calls, and | or | not, statements, a def. -/
namespace Pk
open PySem PySem.Spec PyProof.Rows L2

theorem SZ_eq : SZ = sizeLine := by decide
section
variable {X : Cx} {b : Bd}
def tAL (b : Bd) (ms : List (M D)) : TA := fun σ H Q => ∃ lb ρ s, Ok b lb ρ s σ H ∧ Post b σ lb H (eL ms ρ s) fun ds _ _ lb' H' => ∀ vs H2, Ext H' H2 → RepL b.cn lb' H2 ds vs → Q vs H2
abbrev DA (X : Cx) (b : Bd) (es : List Expr) (ms : List (M D)) : Prop := PA X es (tAL b ms)
theorem da_nil : DA X b [] [] := PA.imp pa_nil fun σ H Q ⟨lb, ρ, s, o, p⟩ => p lb H .refl o [] H .refl .nil
theorem da_cons {e : Expr} {es : List Expr} {m : M D} {ms : List (M D)} (h : DE X b e m) (hs : DA X b es ms) (hx : starEach (e :: es) X.env = (false, eval e X.env) :: starEach es X.env := by rfl) : DA X b (e :: es) (m :: ms) := by
  refine PA.imp (pa_cons h hs hx) fun σ H Q ⟨lb, ρ, s, o, p⟩ => ?_
  have p : Post b σ lb H ((m ρ s).bind fun d r s => (eL ms r s).bind fun ds r s => .ok (d :: ds) r s) _ := p
  refine ⟨lb, ρ, s, o, (Post.bind p).mono fun d ρ1 s1 lb1 H1 st o1 q => fun v H2 ex r => ?_⟩
  refine ⟨lb1, ρ1, s1, o1.ext ex, ((Post.bind q).from (o1.stp_ext ex)).mono fun ds ρ2 s2 lb2 H3 st2 o2 q2 => fun vs H4 ex4 rl => ?_⟩
  exact q2 lb2 H4 (o2.stp_ext ex4) (o2.ext ex4) (v :: vs) H4 .refl (.cons (r.stp (st2.trans (o2.stp_ext ex4))) rl)
theorem eL_len : ∀ {ms : List (M D)} {ρ ρ' : Env} {s s' : Sto} {ds : List D}, eL ms ρ s = .ok ds ρ' s' → ds.length = ms.length
  | [], ρ, ρ', s, s', ds, h => by cases h; rfl
  | m :: ms, ρ, ρ', s, s', ds, h => by
    have h : (m ρ s).bind (fun d r s => (eL ms r s).bind fun ds r s => .ok (d :: ds) r s) = .ok ds ρ' s' := h
    cases e : m ρ s with
    | ok d r1 s1 =>
      rw [e, R.bind_ok] at h
      cases e2 : eL ms r1 s1 with
      | ok ds2 r2 s2 =>
        rw [e2, R.bind_ok] at h
        cases h
        rw [List.length_cons, List.length_cons, eL_len e2]
      | exc x r s => rw [e2] at h; cases h
      | bad => rw [e2] at h; cases h
    | exc x r s => rw [e] at h; cases h
    | bad => rw [e] at h; cases h
/-- the items of a written tuple or list, with their number -/
theorem tAL_len {ms : List (M D)} {σ : L2.St} {lb : Lb} {H : Hp} {ρ : Env} {s : Sto} {k k' : List D → Env → Sto → Lb → Hp → Prop} (h : Post b σ lb H (eL ms ρ s) k) (f : ∀ ds ρ s lb' H', ds.length = ms.length → Stp lb H lb' H' → Ok b lb' ρ s σ H' → k ds ρ s lb' H' → k' ds ρ s lb' H') : Post b σ lb H (eL ms ρ s) k' := by
  cases e : eL ms ρ s with
  | ok ds r1 s1 => rw [e] at h; exact fun lb' H' st o => f ds r1 s1 lb' H' (eL_len e) st o (h lb' H' st o)
  | exc x r s => rw [e] at h; exact h
  | bad => rw [e] at h; exact h
theorem de_tup {es : List Expr} {ms : List (M D)} {x1 pos} (h : DA X b es ms) (hl : ms.length ≤ SZ := by decide) : DE X b (.Tuple es x1 pos) (eTup ms) := by
  refine PE.imp (pe_tup h) fun σ H Q ⟨lb, ρ, s, o, p⟩ => ⟨lb, ρ, s, o, tAL_len (Post.bind p) fun ds ρ1 s1 lb1 H1 hn st o1 q => fun vs H2 ex r => ?_⟩
  have hv : vs.length ≤ sizeLine := by rw [← r.length, hn, ← SZ_eq]; exact hl
  refine ⟨hv, fun a na => ?_⟩
  have ex2 : Ext H1 (L2.upd H2 a (.tup vs)) := ex.trans (Ext.upd na)
  have o2 := o1.ext ex2
  have la : lb1 a = none := (o1.ext ex).has |> fun z => Has.none z na
  refine KV.now (show KV b.cn lb1 (L2.upd H2 a (.tup vs)) (.tup ds) Q from q lb1 _ (o1.stp_ext ex2) o2) ?_
  simp only [Rep]
  exact ⟨a, vs, rfl, ⟨la, upd_same⟩, by rw [hn]; exact hl, r.stp ((o1.ext ex).stp_ext (Ext.upd na))⟩
theorem df_lst {es : List Expr} {ms : List (M D)} {pos} (h : DA X b es ms) (hl : ms.length ≤ SZ := by decide) : DF X b (.List es pos) (eLst ms) := by
  refine PE.imp (pe_lst h) fun σ H Q ⟨lb, ρ, s, o, p⟩ => ⟨lb, ρ, s, o, tAL_len (Post.bind p) fun ds ρ1 s1 lb1 H1 hn st o1 q => fun vs H2 ex r => ?_⟩
  have hv : vs.length ≤ sizeLine := by rw [← r.length, hn, ← SZ_eq]; exact hl
  refine ⟨hv, fun a na => ?_⟩
  exact (show KF b.cn lb1 H2 (.lst ds) Q from q lb1 H2 (o1.stp_ext ex) (o1.ext ex)) a (.lst vs) na ⟨vs, rfl, by rw [hn]; exact hl, r⟩

/-! ### and, or, not, if as values and tests -/
theorem bool_of {cn : Cn} {lb : Lb} {H : Hp} {c : Bool} {v : V} (h : Rep cn lb H (.bool c) v) : v = .bl c := by simpa only [Rep] using h
/-- the first of two: a bool -/
theorem first_bool {m : M D} {f : Bool → M D} {g : D → Env → Sto → R D} {σ : L2.St} {lb : Lb} {H : Hp} {ρ : Env} {s : Sto} {Q : VK} {k : D → Env → Sto → Lb → Hp → Prop} (o : Ok b lb ρ s σ H) (hg : ∀ c r s, g (.bool c) r s = f c r s) (hb : ∀ (d : D) (r : Env) (s : Sto), match d with | .bool _ => True | d => g d r s = .bad)
    (h : Post b σ lb H ((m ρ s).bind g) k) (hk : ∀ c H1, (∃ lb ρ s, Ok b lb ρ s σ H1 ∧ Post b σ lb H1 (f c ρ s) k) → Q (.bl c) H1) : tK false b m σ H Q := by
  refine ⟨lb, ρ, s, o, (Post.bind h).mono fun d ρ1 s1 lb1 H1 st o1 q => fun v H2 ex r => ?_⟩
  have hz := hb d ρ1 s1
  cases d with
  | bool c =>
    rw [bool_of r]
    rw [hg] at q
    exact hk c H2 ⟨lb1, ρ1, s1, o1.ext ex, Post.from q (o1.stp_ext ex)⟩
  | _ => rw [show g _ ρ1 s1 = R.bad from hz] at q; exact False.elim q
theorem first_test {m : M D} {f : Bool → M D} {g : D → Env → Sto → R D} {σ : L2.St} {lb : Lb} {H : Hp} {ρ : Env} {s : Sto} {Q : Bool → Hp → Prop} {k : D → Env → Sto → Lb → Hp → Prop} (o : Ok b lb ρ s σ H) (hg : ∀ c r s, g (.bool c) r s = f c r s) (hb : ∀ (d : D) (r : Env) (s : Sto), match d with | .bool _ => True | d => g d r s = .bad)
    (h : Post b σ lb H ((m ρ s).bind g) k) (hk : ∀ c H1, (∃ lb ρ s, Ok b lb ρ s σ H1 ∧ Post b σ lb H1 (f c ρ s) k) → Q c H1) : tT b m σ H Q := by
  refine ⟨lb, ρ, s, o, (Post.bind h).mono fun d ρ1 s1 lb1 H1 st o1 q => ?_⟩
  have hz := hb d ρ1 s1
  cases d with
  | bool c =>
    rw [hg] at q
    exact fun H2 ex => hk c H2 ⟨lb1, ρ1, s1, o1.ext ex, Post.from q (o1.stp_ext ex)⟩
  | _ => rw [show g _ ρ1 s1 = R.bad from hz] at q; exact False.elim q
theorem done_val {d : D} {σ : L2.St} {H : Hp} {Q : VK} {v : V} (h : ∃ lb ρ s, Ok b lb ρ s σ H ∧ Post b σ lb H ((eC d) ρ s) fun d _ _ lb' H' => Kt false b.cn lb' H' d Q) (r : ∀ lb, Rep b.cn lb H d v) : Q v H := by
  obtain ⟨lb, ρ, s, o, p⟩ := h
  exact KV.now (show KV b.cn lb H d Q from p lb H .refl o) (r lb)
abbrev andK (n : M D) (c : Bool) : M D := if c = true then n else eC (.bool false)
abbrev orK (n : M D) (c : Bool) : M D := if c = true then eC (.bool true) else n
theorem de_and1 {op a m pos} (h : DE X b a m) : DE X b (.BoolOp op [a] pos) m := pe_one h
theorem de_and {a c : Expr} {rest : List Expr} {m n : M D} {pos : Pos} (ha : DE X b a m) (hc : DE X b (.BoolOp .And (c :: rest) pos) n) : DE X b (.BoolOp .And (a :: c :: rest) pos) (eAnd m n) := by
  refine PE.imp (pe_and ha hc) fun σ H Q ⟨lb, ρ, s, o, p⟩ => ?_
  refine first_bool (f := andK n) o (fun c r s => by cases c <;> rfl) (fun d r s => by cases d <;> first | rfl | trivial) p fun c H1 h => ⟨c, rfl, ?_⟩
  cases c with
  | true => exact h
  | false => exact done_val h fun lb => by simp only [Rep]
theorem de_or {a c : Expr} {rest : List Expr} {m n : M D} {pos : Pos} (ha : DE X b a m) (hc : DE X b (.BoolOp .Or (c :: rest) pos) n) : DE X b (.BoolOp .Or (a :: c :: rest) pos) (eOr m n) := by
  refine PE.imp (pe_or ha hc) fun σ H Q ⟨lb, ρ, s, o, p⟩ => ?_
  refine first_bool (f := orK n) o (fun c r s => by cases c <;> rfl) (fun d r s => by cases d <;> first | rfl | trivial) p fun c H1 h => ⟨c, rfl, ?_⟩
  cases c with
  | false => exact h
  | true => exact done_val h fun lb => by simp only [Rep]
theorem de_not {a : Expr} {m : M D} {pos : Pos} (ha : DE X b a m) : DE X b (.UnaryOp .Not a pos) (eNot m) := by
  refine PE.imp (pe_not ha) fun σ H Q ⟨lb, ρ, s, o, p⟩ => ?_
  refine first_bool (f := fun c => eC (.bool !c)) o (fun c r s => rfl) (fun d r s => by cases d <;> first | rfl | trivial) p fun c H1 h => ⟨c, rfl, ?_⟩
  exact done_val h fun lb => by simp only [Rep]
theorem done_test {c : Bool} {σ : L2.St} {H : Hp} {Q : Bool → Hp → Prop} (h : ∃ lb ρ s, Ok b lb ρ s σ H ∧ Post b σ lb H ((eC (.bool c)) ρ s) fun d _ _ _ H' => match d with
  | .bool c => ∀ H2, Ext H' H2 → Q c H2
  | _ => False) : Q c H := by
  obtain ⟨lb, ρ, s, o, p⟩ := h
  exact (show ∀ H2, Ext H H2 → Q c H2 from p lb H .refl o) H .refl
/-- tests of and, or: whatever their whole -/
abbrev DW (X : Cx) (b : Bd) (e : Expr) (m : M D) : Prop := PW X e (tT b m)
theorem PW.imp {X : Cx} {e : Expr} {t t' : TT} (h : PW X e t) (f : ∀ σ H Q, t' σ H Q → t σ H Q) : PW X e t' := ⟨fun wh pins s σ H Q I q => h.run wh pins s σ H Q I (f σ H Q q)⟩
theorem dw_and1 {a m pos} (h : DT X b a m) : DW X b (.BoolOp .And [a] pos) m := pw_and1 h
theorem dw_or1 {a m pos} (h : DT X b a m) : DW X b (.BoolOp .Or [a] pos) m := pw_or1 h
theorem dw_and {a c : Expr} {rest : List Expr} {m n : M D} {pos : Pos} (ha : DT X b a m) (hc : DW X b (.BoolOp .And (c :: rest) pos) n) : DW X b (.BoolOp .And (a :: c :: rest) pos) (eAnd m n) := by
  refine PW.imp (pw_and ha hc) fun σ H Q ⟨lb, ρ, s, o, p⟩ => ?_
  refine first_test (f := andK n) o (fun c r s => by cases c <;> rfl) (fun d r s => by cases d <;> first | rfl | trivial) p fun c H1 h => ?_
  cases c with
  | true => exact h
  | false => exact done_test h
theorem dw_or {a c : Expr} {rest : List Expr} {m n : M D} {pos : Pos} (ha : DT X b a m) (hc : DW X b (.BoolOp .Or (c :: rest) pos) n) : DW X b (.BoolOp .Or (a :: c :: rest) pos) (eOr m n) := by
  refine PW.imp (pw_or ha hc) fun σ H Q ⟨lb, ρ, s, o, p⟩ => ?_
  refine first_test (f := orK n) o (fun c r s => by cases c <;> rfl) (fun d r s => by cases d <;> first | rfl | trivial) p fun c H1 h => ?_
  cases c with
  | false => exact h
  | true => exact done_test h
theorem dt_w {e : Expr} {m : M D} (h : DW X b e m) : DT X b e m := h.pt
theorem dt_not {a : Expr} {m : M D} {pos : Pos} (ha : DT X b a m) : DT X b (.UnaryOp .Not a pos) (eNot m) := by
  refine PT.imp (pt_not ha) fun σ H Q ⟨lb, ρ, s, o, p⟩ => ?_
  refine first_test (f := fun c => eC (.bool !c)) o (fun c r s => rfl) (fun d r s => by cases d <;> first | rfl | trivial) p fun c H1 h => ?_
  exact done_test h
theorem de_ite {c x y : Expr} {m n k : M D} {pos : Pos} {fresh : Bool} (hc : DT X b c m) (hx : PE X x (tK fresh b n)) (hy : PE X y (tK fresh b k)) : PE X (.IfExp c x y pos) (tK fresh b (eIte m n k)) := by
  refine PE.imp (pe_ifExp hc hx hy) fun σ H Q ⟨lb, ρ, s, o, p⟩ => ?_
  refine first_test (f := fun c => if c = true then n else k) o (fun c r s => by cases c <;> rfl) (fun d r s => by cases d <;> first | rfl | trivial) p fun c H1 h => ?_
  cases c with
  | true => exact h
  | false => exact h
/-- a < b <= c -/
theorem chain_run {p q : D → D → Option D} {r r' : R2} {m1 m2 m3 : M D} (hp : P2 false b.cn r p) (hq : P2 false b.cn r' q) {σ : L2.St} {H : Hp} {Q : VK} (h : tK false b (eChain p q m1 m2 m3) σ H Q) : tChain r r' (tK false b m1) (tK false b m2) (tK false b m3) σ H Q := by
  obtain ⟨lb, ρ, s, o, h⟩ := h
  refine ⟨lb, ρ, s, o, (Post.bind h).mono fun x ρ1 s1 lb1 H1 st o1 h1 => fun vx H2 ex r1 => ?_⟩
  refine ⟨lb1, ρ1, s1, o1.ext ex, (Post.bind (Post.from h1 (o1.stp_ext ex))).mono fun y ρ2 s2 lb2 H3 st2 o2 h2 => fun vy H4 ex2 r2 => ?_⟩
  have h2 := Post.from h2 (o2.stp_ext ex2)
  have o4 := o2.ext ex2
  have rx := r1.stp (st2.trans (o2.stp_ext ex2))
  cases e : p x y with
  | none => rw [e] at h2; exact False.elim h2
  | some d =>
    rw [e] at h2
    cases d with
    | bool c =>
      refine hp lb2 H4 vx vy x y (.bool c) _ o4.has (.inl rx) (.inl r2) e fun v H5 ex5 r5 => ⟨c, bool_of r5, ?_⟩
      cases c with
      | true =>
        refine ⟨lb2, ρ2, s2, o4.ext ex5, (Post.bind (Post.from h2 (o4.stp_ext ex5))).mono fun z ρ3 s3 lb3 H6 st6 o6 h6 => fun vz H7 ex7 r7 => ?_⟩
        obtain ⟨d, e6, k⟩ := opt_post (o6.ext ex7) (Post.from h6 (o6.stp_ext ex7))
        exact hq lb3 H7 vy vz y z d Q (o6.ext ex7).has (.inl (r2.stp ((o4.stp_ext ex5).trans (st6.trans (o6.stp_ext ex7))))) (.inl r7) e6 k
      | false => exact KV.now (show KV b.cn lb2 H5 (.bool false) Q from h2 lb2 H5 (o4.stp_ext ex5) (o4.ext ex5)) (by simp only [Rep])
    | _ => exact False.elim h2
theorem de_chain {p q : D → D → Option D} {r r' : R2} {op op' : CmpOp} {e1 e2 e3 : Expr} {m1 m2 m3 : M D} {pos : Pos} (ho : OpR X (compareOp op) r) (hp : P2 false b.cn r p) (ho' : OpR X (compareOp op') r') (hq : P2 false b.cn r' q)
    (h1 : DE X b e1 m1) (h2 : DE X b e2 m2) (h3 : DE X b e3 m3) (hm : lastMarks [op, op'] [e2, e3] = false := by with_unfolding_all rfl) : DE X b (.Compare e1 [op, op'] [e2, e3] pos) (eChain p q m1 m2 m3) :=
  PE.imp (pe_chain ho ho' h1 h2 h3 hm) fun _ _ _ h => chain_run hp hq h
theorem dt_chain {p q : D → D → Option D} {r r' : R2} {op op' : CmpOp} {e1 e2 e3 : Expr} {m1 m2 m3 : M D} {pos : Pos} (ho : OpR X (compareOp op) r) (hp : P2 false b.cn r p) (ho' : OpR X (compareOp op') r') (hq : P2 false b.cn r' q)
    (h1 : DE X b e1 m1) (h2 : DE X b e2 m2) (h3 : DE X b e3 m3) (hm : lastMarks [op, op'] [e2, e3] = false := by with_unfolding_all rfl) : DT X b (.Compare e1 [op, op'] [e2, e3] pos) (eChain p q m1 m2 m3) :=
  PT.imp (pt_chain ho ho' h1 h2 h3 hm) fun σ H Q h => chain_run (Q := fun x H' => ∃ k, x = .bl k ∧ Q k H') hp hq (tT_test h)
end
end Pk
/-! Br4: calls of defs, statements, loops, a def's promise. -/
namespace Pk
open PySem PySem.Spec PyProof.Rows L2

/-- at a def's entry and end: no frame's own marks -/
structure EOk (cn : Cn) (lb : Lb) (s : Sto) (H : Hp) : Prop where
  sto : StoOk cn lb s H
  has : Has lb H
  nl : ∀ a l, lb a = some l → l.isLoc = false
/-- a def's promise -/
def spOf (cn : Cn) (F : Fn) : Sp := fun vs H Q E => ∃ lb s ds, EOk cn lb s H ∧ RepL cn lb H ds vs ∧ match F ds s with
  | .ok d s' => ∀ lb' H' v, Stp lb H lb' H' → EOk cn lb' s' H' → Rep cn lb' H' d v → Q v H'
  | .exc x s' => ∀ lb' H' cls dx, Stp lb H lb' H' → EOk cn lb' s' H' → XRep cn lb' H' x cls dx → E cls dx H'
  | .bad => False

/-- for a callee the caller's own things are others' -/
def rel (lb : Lb) : Lb := fun a => match lb a with
  | some (.loc _) => some .out
  | x => x
theorem rel_loc {lb : Lb} {a : Addr} {i : Nat} (h : lb a = some (.loc i)) : rel lb a = some .out := by unfold rel; rw [h]
theorem rel_ne {lb : Lb} {a : Addr} (h : ∀ i, lb a ≠ some (.loc i)) : rel lb a = lb a := by
  unfold rel
  cases q : lb a with
  | none => rfl
  | some l =>
    cases l with
    | loc i => exact absurd q (h i)
    | _ => rfl
theorem rel_none {lb : Lb} {a : Addr} : rel lb a = none ↔ lb a = none := by
  unfold rel
  cases q : lb a with
  | none => simp
  | some l => cases l <;> simp
theorem rel_sto {lb : Lb} {a : Addr} {l : Lab} (h : lb a = some l) (i : l.isSto = true) : rel lb a = some l := by
  rw [rel_ne (by rintro j e; rw [h] at e; cases e; cases i)]
  exact h
theorem of_rel_sto {lb : Lb} {a : Addr} {l : Lab} (h : rel lb a = some l) (i : l.isSto = true) : lb a = some l := by
  unfold rel at h
  cases q : lb a with
  | none => rw [q] at h; cases h
  | some l' =>
    rw [q] at h
    cases l' with
    | loc j => cases h; cases i
    | _ => exact h
theorem Stq.rel {lb : Lb} {H : Hp} : Stq lb H (rel lb) H := ⟨fun _ _ h _ => h, fun a h => .inl fun e => h (rel_none.mpr e), fun _ _ h i => rel_sto h i⟩
/-- back at the caller -/
def unrel (lb lc : Lb) : Lb := fun a => match lb a with
  | some (.loc i) => some (.loc i)
  | _ => lc a
theorem unrel_loc {lb lc : Lb} {a : Addr} {i : Nat} (h : lb a = some (.loc i)) : unrel lb lc a = some (.loc i) := by unfold unrel; rw [h]
theorem unrel_ne {lb lc : Lb} {a : Addr} (h : ∀ i, lb a ≠ some (.loc i)) : unrel lb lc a = lc a := by
  unfold unrel
  cases q : lb a with
  | none => rfl
  | some l =>
    cases l with
    | loc i => exact absurd q (h i)
    | _ => rfl
section
variable {cn : Cn} {lb lc : Lb} {H H' : Hp}
theorem unrel_case (lb : Lb) (a : Addr) : (∃ i, lb a = some (.loc i)) ∨ ∀ i, lb a ≠ some (.loc i) := by
  cases q : lb a with
  | none => exact .inr fun i e => nomatch e
  | some l =>
    cases l with
    | loc i => exact .inl ⟨i, rfl⟩
    | _ => exact .inr fun i e => by cases e
theorem Stp.unrel (s : Stp (rel lb) H lc H') : Stp lb H (Pk.unrel lb lc) H' where
  keep := fun a o h n => s.keep a o h (rel_none.mpr n)
  out := fun a h => by
    have h1 : rel lb a = some .out := by rw [rel_ne (by rintro i e; rw [h] at e; cases e)]; exact h
    rw [unrel_ne (by rintro i e; rw [h] at e; cases e)]
    exact s.out a h1
  new := fun a h => by
    rcases unrel_case lb a with ⟨i, e⟩ | e
    · exact .inl (by rw [e]; simp)
    · rw [unrel_ne e] at h
      exact (s.new a h).imp (fun z q => z (rel_none.mpr q)) id
  sto := fun a l h i => by
    rw [unrel_ne (by rintro j e; rw [h] at e; cases e; cases i)]
    exact s.sto a l (rel_sto h i) i
  dom := s.dom
/-- a store mark behind the call is one for the caller -/
theorem unrel_sto (s : Stp (rel lb) H lc H') {a : Addr} {l : Lab} (h : lc a = some l) (i : l.isSto = true) : Pk.unrel lb lc a = some l := by
  rw [unrel_ne ?_]
  · exact h
  · intro j e
    have := (s.out a (rel_loc e)).1
    rw [h] at this
    cases this
    cases i
theorem unrel_none (s : Stp (rel lb) H lc H') {a : Addr} (h : lc a = none) : Pk.unrel lb lc a = none := by
  rw [unrel_ne ?_]
  · exact h
  · intro j e
    have := (s.out a (rel_loc e)).1
    rw [h] at this
    cases this
theorem Stq.back (s : Stp (Pk.rel lb) H lc H') : Stq lc H' (Pk.unrel lb lc) H' := ⟨fun _ _ h _ => h, fun a h => .inl fun e => h (unrel_none s e), fun _ _ h i => unrel_sto s h i⟩
theorem of_unrel_sto {a : Addr} {l : Lab} (h : Pk.unrel lb lc a = some l) (i : l.isSto = true) : lc a = some l := by
  rcases unrel_case lb a with ⟨j, e⟩ | e
  · rw [unrel_loc e] at h; cases h; cases i
  · rw [unrel_ne e] at h; exact h
variable {lb0 : Lb} {H0 : Hp} {ρ : Env} {s s' : Sto} {σ : L2.St}
theorem BOk.entry (o : BOk cn lb0 H0 lb ρ s σ H) : EOk cn (rel lb) s H :=
  ⟨o.sto.stp .rel (fun _ _ _ _ => rfl) (fun _ _ e i => of_rel_sto e i), fun a l e => by
    cases q : lb a with
    | none => rw [rel_none.mpr q] at e; cases e
    | some l' => exact o.has a l' q, fun a l e => by
    unfold rel at e
    cases q : lb a with
    | none => rw [q] at e; cases e
    | some l' => rw [q] at e; cases l' <;> cases e <;> rfl⟩
theorem BOk.after (o : BOk cn lb0 H0 lb ρ s σ H) (st : Stp (rel lb) H lc H') (e : EOk cn lc s' H') : BOk cn lb0 H0 (Pk.unrel lb lc) ρ s' σ H' := by
  have st' := st.unrel
  refine ⟨o.since.trans st', e.sto.stp (Stq.back st) (fun _ _ _ _ => rfl) (fun _ _ h i => of_unrel_sto h i), fun a l h => ?_, o.len, fun i d h => ?_, fun i d h => ?_, fun a i h => ?_⟩
  · rcases unrel_case lb a with ⟨i, q⟩ | q
    · obtain ⟨u, hu, t⟩ := o.has a _ q
      exact ⟨u, by rw [(st.out a (rel_loc q)).2]; exact hu, t⟩
    · rw [unrel_ne q] at h
      exact e.has a l h
  · obtain ⟨v, e1, r⟩ := o.sh i d h
    exact ⟨v, e1, r.stp st'⟩
  · obtain ⟨a, u, e1, l, q, w⟩ := o.ow i d h
    exact ⟨a, u, e1, unrel_loc l, by rw [(st.out a (rel_loc l)).2]; exact q, w.stp st'⟩
  · rcases unrel_case lb a with ⟨j, q⟩ | q
    · rw [unrel_loc q] at h
      cases h
      exact o.lc a i q
    · rw [unrel_ne q] at h
      have := e.nl a _ h
      cases this
end
theorem XRep.stq {cn : Cn} {lb lb' : Lb} {H H' : Hp} {x : Xc} {cls : Value} {dx : Option Addr} (h : XRep cn lb H x cls dx) (s : Stq lb H lb' H') : XRep cn lb' H' x cls dx := by
  obtain ⟨e, h⟩ := h
  refine ⟨e, ?_⟩
  cases q : x.arg with
  | none => rw [q] at h; exact h
  | some d =>
    rw [q] at h
    obtain ⟨p, v, e1, l, hp, r⟩ := h
    exact ⟨p, v, e1, s.none hp l, s.keep p _ hp l, r.stq s⟩
theorem XRep.stp {cn : Cn} {lb lb' : Lb} {H H' : Hp} {x : Xc} {cls : Value} {dx : Option Addr} (h : XRep cn lb H x cls dx) (s : Stp lb H lb' H') : XRep cn lb' H' x cls dx := h.stq s.q

section
variable {X : Cx} {b : Bd}
/-- a def of the text, called -/
structure Gd (n : Nat) (X : Cx) (b : Bd) : Prop where
  kk : b.cn.K = X.K
  calm : X.calm = true
  nd : X.N.Nodup
  tk : Takes X b.W
  room : Room n X.A
  po : PassesOwn (model X.prog X.w) X.A X.env X.xe
theorem call_run {F : Fn} {σ : L2.St} {lb : Lb} {H : Hp} {ρ : Env} {s : Sto} {ds : List D} {vs : List V} {Q : VK} (o : Ok b lb ρ s σ H) (r : RepL b.cn lb H ds vs) (h : Post b σ lb H ((F ds s).at ρ) fun d _ _ lb' H' => Kt false b.cn lb' H' d Q) :
    spOf b.cn F vs H Q (WE b.W σ) := by
  refine ⟨rel lb, s, ds, o.entry, r.stq .rel, ?_⟩
  cases e : F ds s with
  | ok d s' =>
    rw [e] at h
    exact fun lc H' v st e' rv => KV.now (show KV b.cn (unrel lb lc) H' d Q from h _ _ st.unrel (o.after st e')) (rv.stq (Stq.back st))
  | exc x s' =>
    rw [e] at h
    exact fun lc H' cls dx st e' rv => h _ _ _ _ st.unrel (o.after st e') (rv.stq (Stq.back st))
  | bad => rw [e] at h; exact h
theorem de_call {n k : Nat} {f : Addr} {fd : FuncData} {ps : List Str} {F : Fn} {dvs : List V} {dv : List D} {dsv : List Value} {x : Str} {p pos : Pos} {e : Expr} {es : List Expr} {ms : List (M D)} (g : Gd n X b) (hf : FnOk X.prog X.w X.K X.mg X.base (L2.CX X.prog X.w) k f fd ps (spOf b.cn F)) (hk : k ≤ n)
    (hg : Gl X x) (hm : X.mg x = some (.ref f)) (hkp : PySem.W.keepIn X.K (.ref f) = true) (hb : Binds X.K fd ps dsv) (hd : Vals dvs dsv) (hdv : ∀ lb H, RepL b.cn lb H dv dvs) (ha : DA X b (e :: es) ms)
    (hdb : (x == ("__debug__" : Str)) = false := by decide) (he : starEach (e :: es) X.env = (false, eval e X.env) :: starEach es X.env := by rfl) (hpl : (backTo pos (starEach es X.env)).any (·.1) = false := by rfl) :
    DE X b (.Call (.Name x p) (e :: es) [] pos) (eCall F ms dv) := by
  refine PE.imp (pe_callSD (E := WE b.W) hf (g.room.mono hk) hg hm hkp hb hd (fun σ => passAt g.tk σ) ha hdb he hpl) fun σ H Q ⟨lb, ρ, s, o, p⟩ => ?_
  refine ⟨lb, ρ, s, o, (Post.bind p).mono fun ds ρ1 s1 lb1 H1 st o1 q => fun vs H2 ex r => ?_⟩
  exact call_run (o1.ext ex) (r.append (hdv _ _)) (Post.from q (o1.stp_ext ex))

/-! ### statements -/
def tS (b : Bd) (m : S) : TS := fun D σ H => ∃ lb ρ s, Ok b lb ρ s σ H ∧ match m ρ s with
  | .ok f ρ' s' => ∀ lb' σ' H', Stp lb H lb' H' → Ok b lb' ρ' s' σ' H' → (match f with
    | .nx => D.nx σ' H'
    | .bk => D.bk σ' H'
    | .ct => D.ct σ' H'
    | .rt d => ∀ v, Rep b.cn lb' H' d v → D.rt v H')
  | .exc x ρ' s' => ∀ lb' σ' H' cls dx, Stp lb H lb' H' → Ok b lb' ρ' s' σ' H' → XRep b.cn lb' H' x cls dx → b.W cls dx σ' H'
  | .bad => False
abbrev DS (X : Cx) (b : Bd) (st : Stmt) (m : S) : Prop := PS X st (tS b m)
abbrev DSs (X : Cx) (b : Bd) (sts : List Stmt) (m : S) : Prop := PSs X sts (tS b m)
/-- what is wanted behind a statement, at a point of the body -/
def SPost (b : Bd) (D : Ends) (lb : Lb) (H : Hp) (r : R Fl) : Prop := match r with
  | .ok f ρ' s' => ∀ lb' σ' H', Stp lb H lb' H' → Ok b lb' ρ' s' σ' H' → (match f with
    | .nx => D.nx σ' H'
    | .bk => D.bk σ' H'
    | .ct => D.ct σ' H'
    | .rt d => ∀ v, Rep b.cn lb' H' d v → D.rt v H')
  | .exc x ρ' s' => ∀ lb' σ' H' cls dx, Stp lb H lb' H' → Ok b lb' ρ' s' σ' H' → XRep b.cn lb' H' x cls dx → b.W cls dx σ' H'
  | .bad => False
theorem SPost.from {D : Ends} {lb lb1 : Lb} {H H1 : Hp} {r : R Fl} (h : SPost b D lb H r) (st : Stp lb H lb1 H1) : SPost b D lb1 H1 r := by
  cases r with
  | ok f ρ s => exact fun lb' σ' H' s1 o => h lb' σ' H' (st.trans s1) o
  | exc x ρ s => exact fun lb' σ' H' c d s1 o z => h lb' σ' H' c d (st.trans s1) o z
  | bad => exact h
theorem tS_of {D : Ends} {σ : L2.St} {lb : Lb} {H : Hp} {ρ : Env} {s : Sto} {m : S} (o : Ok b lb ρ s σ H) (h : SPost b D lb H (m ρ s)) : tS b m D σ H := ⟨lb, ρ, s, o, h⟩
/-- an expression, then the rest -/
theorem SPost.bind {α : Type} {D : Ends} {σ : L2.St} {lb : Lb} {H : Hp} {r : R α} {f : α → Env → Sto → R Fl} (h : SPost b D lb H (r.bind f)) : Post b σ lb H r fun a ρ s lb' H' => SPost b D lb' H' (f a ρ s) := by
  cases r with
  | ok a ρ s => exact fun lb' H' st o => SPost.from h st
  | exc x ρ s => exact fun lb' H' c d st o z => h lb' σ H' c d st o z
  | bad => exact h
theorem ds_nil : DSs X b [] sNil := PSs.imp pss_nil fun D σ H ⟨lb, ρ, s, o, h⟩ => h lb σ H .refl o
theorem ds_pass {pos : Pos} : DS X b (.Pass pos) sNil := PS.imp ps_pass fun D σ H ⟨lb, ρ, s, o, h⟩ => h lb σ H .refl o
theorem ds_brk {pos : Pos} : DS X b (.Break pos) sBrk := PS.imp ps_break fun D σ H ⟨lb, ρ, s, o, h⟩ => h lb σ H .refl o
theorem seq_run {m n : S} {D : Ends} {σ : L2.St} {H : Hp} (h : tS b (sSeq m n) D σ H) : tSeq (tS b m) (tS b n) D σ H := by
  obtain ⟨lb, ρ, s, o, h⟩ := h
  have h : SPost b D lb H ((m ρ s).bind fun f r s => match f with | .nx => n r s | f => .ok f r s) := h
  refine ⟨lb, ρ, s, o, ?_⟩
  cases e : m ρ s with
  | ok f ρ1 s1 =>
    rw [e, R.bind_ok] at h
    intro lb1 σ1 H1 st o1
    cases f with
    | nx => exact ⟨lb1, ρ1, s1, o1, SPost.from h st⟩
    | bk => exact h lb1 σ1 H1 st o1
    | ct => exact h lb1 σ1 H1 st o1
    | rt d => exact h lb1 σ1 H1 st o1
  | exc x ρ1 s1 => rw [e] at h; exact h
  | bad => rw [e] at h; exact h
theorem ds_cons {st : Stmt} {rest : List Stmt} {m n : S} (h1 : DS X b st m) (h2 : DSs X b rest n) : DSs X b (st :: rest) (sSeq m n) := PSs.imp (pss_cons h1 h2) fun _ _ _ h => seq_run h
theorem ds_one {st : Stmt} {m : S} (h1 : DS X b st m) : DSs X b [st] m := pss_one h1
theorem ds_ret {e : Expr} {m : M D} {pos : Pos} (h : DE X b e m) : DS X b (.Return (some e) pos) (sRet m) := PS.imp (ps_ret h) fun D σ H ⟨lb, ρ, s, o, p⟩ => by
  refine ⟨lb, ρ, s, o, (SPost.bind (D := D) p).mono fun d ρ1 s1 lb1 H1 st o1 q => fun v H2 ex r => ?_⟩
  exact q lb1 σ H2 (o1.stp_ext ex) (o1.ext ex) v r
theorem ds_expr {e : Expr} {m : M D} {pos : Pos} (h : DE X b e m) (hs : swapsWith e none pos.line X.env = pure false := by rfl) : DS X b (.Expr e pos) (sExpr m) := PS.imp (ps_expr h hs) fun D σ H ⟨lb, ρ, s, o, p⟩ => by
  refine ⟨lb, ρ, s, o, (SPost.bind (D := D) p).mono fun d ρ1 s1 lb1 H1 st o1 q => fun v H2 ex r => ?_⟩
  exact q lb1 σ H2 (o1.stp_ext ex) (o1.ext ex)
/-- x = e -/
theorem set_run {e : M D} {i : Nat} {D : Ends} {σ : L2.St} {H : Hp} (h : tS b (sSet false i e) D σ H) : tAsg (tK false b e) (gName i) D σ H := by
  obtain ⟨lb, ρ, s, o, p⟩ := h
  refine ⟨lb, ρ, s, o, (SPost.bind (D := D) p).mono fun d ρ1 s1 lb1 H1 st o1 q => fun v H2 ex r => ?_⟩
  exact q (unl lb1 i) (σ.set i (some v)) H2 ((o1.stp_ext ex).trans (.unl _ _ _)) ((o1.ext ex).setSh i r)
theorem setF_run {e : M D} {i : Nat} {D : Ends} {σ : L2.St} {H : Hp} (hi : i < σ.length) (h : tS b (sSet true i e) D σ H) : tAsg (tK true b e) (gName i) D σ H := by
  obtain ⟨lb, ρ, s, o, p⟩ := h
  refine ⟨lb, ρ, s, o, (SPost.bind (D := D) p).mono fun d ρ1 s1 lb1 H1 st o1 q => fun a u na w => ?_⟩
  obtain ⟨o2, st2⟩ := o1.setOw i (by rw [o1.len]; exact hi) na w
  exact q _ _ _ st2 o2
theorem ds_set {i : Nat} {x : Str} {e : Expr} {m : M D} {pos pos' : Pos} {n : Nat} (g : Gd n X b) (hi : X.N[i]? = some x) (hx : Loc X.env.scope x) (h : DE X b e m) (hs : swapsWith e (some (.Name x pos')) pos.line X.env = pure false := by rfl)
    (hf : X.fn x = true ∨ X.env.scope.names.lookup x = some .local := by first | exact .inl rfl | exact .inr rfl | assumption) : DS X b (.Assign [.Name x pos'] e pos) (sSet false i m) := PS.imp (ps_set g.nd hi hx h hs hf) fun _ _ _ h => set_run h
theorem inv_len {X : Cx} {pins : List (Addr × Obj)} {σ : L2.St} {H : Hp} {s : Shared} (I : Inv X pins σ H s) : σ.length = X.N.length := I.len
theorem ds_setF {i : Nat} {x : Str} {e : Expr} {m : M D} {pos pos' : Pos} {n : Nat} (g : Gd n X b) (hi : X.N[i]? = some x) (hx : Loc X.env.scope x) (h : DF X b e m) (hs : swapsWith e (some (.Name x pos')) pos.line X.env = pure false := by rfl)
    (hf : X.fn x = true ∨ X.env.scope.names.lookup x = some .local := by first | exact .inl rfl | exact .inr rfl | assumption) : DS X b (.Assign [.Name x pos'] e pos) (sSet true i m) :=
  ⟨fun pins s σ H D I q => (ps_set g.nd hi hx h hs hf).run pins s σ H D I (setF_run (by rw [inv_len I]; exact (List.getElem?_eq_some_iff.mp hi).1) q)⟩
theorem ds_if {c : Expr} {p q : List Stmt} {m : M D} {n k : S} {pos : Pos} (hc : DT X b c m) (hp : DSs X b p n) (hq : DSs X b q k) : DS X b (.If c p q pos) (sIf m n k) := by
  refine PS.imp (ps_if hc hp hq) fun D σ H ⟨lb, ρ, s, o, p⟩ => ⟨lb, ρ, s, o, (SPost.bind (D := D) p).mono fun d ρ1 s1 lb1 H1 st o1 q => ?_⟩
  cases d with
  | bool c =>
    intro H2 ex
    cases c with
    | true => exact ⟨lb1, ρ1, s1, o1.ext ex, SPost.from q (o1.stp_ext ex)⟩
    | false => exact ⟨lb1, ρ1, s1, o1.ext ex, SPost.from q (o1.stp_ext ex)⟩
  | _ => exact False.elim q
/-- what is never reached -/
theorem ds_never {st : Stmt} : DS X b st sNever := PS.imp ps_never fun D σ H ⟨lb, ρ, s, o, p⟩ => p
theorem dss_never {st : List Stmt} : DSs X b st sNever := PSs.imp pss_never fun D σ H ⟨lb, ρ, s, o, p⟩ => p
end
end Pk
/-! Br5: what a loop walks, targets, for, comprehensions, while. -/
namespace Pk
open PySem PySem.Spec PyProof.Rows L2

/-- J yields the items ds, one behind the other, as long as what nobody may change stands -/
def ItOk (cn : Cn) (lb : Lb) (H : Hp) (ds : List D) (J : L2.It) : Prop := ∀ lb' H', Stq lb H lb' H' → J.stop ds.length H' ∧
  ∀ (i : Nat) (d : D), ds[i]? = some d → J.go i H' ∧ ∀ x H2, J.yld i H' x H2 → Ext H' H2 ∧ (Has lb' H' → Rep cn lb' H2 d x)
def tI (b : Bd) (it : It) : TI := fun σ H R => ∃ lb ρ s, Ok b lb ρ s σ H ∧ Post b σ lb H (it ρ s) fun ds _ _ lb' H' => ds.length ≤ SZ → ∀ J H2, Ext H' H2 → ItOk b.cn lb' H2 ds J → R J H2
abbrev DI (X : Cx) (b : Bd) (tg iter : Expr) (it : It) : Prop := PI X tg iter (tI b it)

theorem Stq.trans {l1 l2 l3 : Lb} {H1 H2 H3 : Hp} (a : Stq l1 H1 l2 H2) (b : Stq l2 H2 l3 H3) : Stq l1 H1 l3 H3 where
  keep := fun x o h n => b.keep x o (a.keep x o h n) (a.none h n)
  new := fun x h => by
    rcases b.new x h with z | z
    · exact a.new x z
    · cases q : H1 x with
      | none => exact .inr rfl
      | some o =>
        refine .inl fun n => ?_
        rw [a.keep x o q n] at z
        cases z
  sto := fun x l h i => b.sto x l (a.sto x l h i) i
theorem ItOk.stq {cn : Cn} {lb lb' : Lb} {H H' : Hp} {ds : List D} {J : L2.It} (h : ItOk cn lb H ds J) (s : Stq lb H lb' H') : ItOk cn lb' H' ds J := fun l2 H2 s2 => h l2 H2 (s.trans s2)
theorem Stq.of_ext {lb : Lb} {H H' : Hp} (h : Ext H H') : Stq lb H lb H' := ⟨fun a o e _ => h a o e, fun _ e => .inl e, fun _ _ e _ => e⟩

/-! ### targets -/
mutual
def Tg.slots : Tg → List Nat
  | .n i => [i]
  | .t l => Tg.slotsL l
def Tg.slotsL : List Tg → List Nat
  | [] => []
  | g :: gs => g.slots ++ Tg.slotsL gs
end
/-- outside these slots nothing is set -/
def SameOut (is : List Nat) (σ σ' : L2.St) : Prop := ∀ own : List Nat, (∀ i ∈ is, i ∈ own) → wipe σ' own = wipe σ own
theorem wipe_set {σ : L2.St} {i : Nat} {x : Option V} : ∀ {vs : List Nat}, i ∈ vs → wipe (σ.set i x) vs = wipe σ vs
  | [], h => by cases h
  | v :: vs, h => by
    unfold wipe
    by_cases e : i ∈ vs
    · rw [wipe_set e]
    · have hv : v = i := by
        rcases List.mem_cons.mp h with z | z
        · exact z.symm
        · exact absurd z e
      subst hv
      have q : ∀ (ws : List Nat), v ∉ ws → wipe (σ.set v x) ws = (wipe σ ws).set v x := by
        intro ws
        induction ws with
        | nil => intro _; rfl
        | cons w ws ih =>
          intro hw
          have h1 : w ≠ v := fun e => hw (by rw [e]; exact List.mem_cons_self)
          have h2 : v ∉ ws := fun e => hw (List.mem_cons_of_mem _ e)
          unfold wipe
          rw [ih h2, List.set_comm _ _ (Ne.symm h1)]
      rw [q vs e, List.set_set]
def tG (b : Bd) (g : Tg) : TG := fun v σ H Q => ∃ lb ρ s d ρ', Ok b lb ρ s σ H ∧ Rep b.cn lb H d v ∧ setT ρ g d = some ρ' ∧ ∀ lb' σ', Stp lb H lb' H → Ok b lb' ρ' s σ' H → SameOut g.slots σ σ' → Q σ' H
def tGs (b : Bd) (gs : List Tg) : TGs := fun vs σ H Q => ∃ lb ρ s ds ρ', Ok b lb ρ s σ H ∧ RepL b.cn lb H ds vs ∧ setTs ρ gs ds = some ρ' ∧ ∀ lb' σ', Stp lb H lb' H → Ok b lb' ρ' s σ' H → SameOut (Tg.slotsL gs) σ σ' → Q σ' H
abbrev DG (X : Cx) (b : Bd) (tg : Expr) (g : Tg) : Prop := PG X tg (tG b g)
abbrev DGs (X : Cx) (b : Bd) (tgs : List Expr) (gs : List Tg) : Prop := PGs X tgs (tGs b gs)
theorem PG.imp {X : Cx} {e : Expr} {t t' : TG} (h : PG X e t) (f : ∀ v σ H Q, t' v σ H Q → t v σ H Q) : PG X e t' := ⟨fun pins s σ H x u Q I r q => h.run pins s σ H x u Q I r (f x σ H Q q)⟩
theorem PGs.imp {X : Cx} {e : List Expr} {t t' : TGs} (h : PGs X e t) (f : ∀ v σ H Q, t' v σ H Q → t v σ H Q) : PGs X e t' := ⟨fun pins s σ H x u Q I r q => h.run pins s σ H x u Q I r (f x σ H Q q)⟩
section
variable {X : Cx} {b : Bd}
theorem dg_n {i : Nat} {x : Str} {pos : Pos} (hN : X.N.Nodup) (hi : X.N[i]? = some x) (hx : Loc X.env.scope x) (hf : X.fn x = true ∨ X.env.scope.names.lookup x = some .local := by first | exact .inl rfl | exact .inr rfl | assumption) : DG X b (.Name x pos) (.n i) :=
  PG.imp (pg_name hN hi hx hf) fun v σ H Q ⟨lb, ρ, s, d, ρ', o, r, e, k⟩ => by
    simp only [setT, Option.some.injEq] at e
    subst e
    exact k (unl lb i) (σ.set i (some v)) (.unl _ _ _) (o.setSh i r) fun own hs => wipe_set (hs i (by simp only [Tg.slots]; exact List.mem_singleton.mpr rfl))
theorem dgs_nil : DGs X b [] [] := PGs.imp pgs_nil fun v σ H Q ⟨lb, ρ, s, ds, ρ', o, r, e, k⟩ => by
  cases ds with
  | nil =>
    simp only [setTs, Option.some.injEq] at e
    subst e
    simp only [RepL] at r
    exact ⟨r, k lb σ .refl o fun _ _ => rfl⟩
  | cons d ds => simp only [setTs] at e; cases e
theorem dgs_cons {e : Expr} {es : List Expr} {g : Tg} {gs : List Tg} (h : DG X b e g) (hs : DGs X b es gs) (hx : (assignEach (e :: es) X.env).map (·.2) = assign e X.env :: (assignEach es X.env).map (·.2) := by rfl) : DGs X b (e :: es) (g :: gs) := PGs.imp (pgs_cons h hs hx) fun v σ H Q ⟨lb, ρ, s, ds, ρ', o, r, e, k⟩ => by
  cases ds with
  | nil => simp only [setTs] at e; cases e
  | cons d ds =>
    simp only [setTs] at e
    cases q : setT ρ g d with
    | none => rw [q] at e; cases e
    | some ρ1 =>
      rw [q] at e
      have e : setTs ρ1 gs ds = some ρ' := e
      simp only [RepL] at r
      obtain ⟨v1, r1, e1, h1, h2⟩ := r
      refine ⟨v1, r1, e1, lb, ρ, s, d, ρ1, o, h1, q, fun lb1 σ1 st o1 so => ?_⟩
      refine ⟨lb1, ρ1, s, ds, ρ', o1, h2.stp st, e, fun lb2 σ2 st2 o2 so2 => k lb2 σ2 (st.trans st2) o2 fun own hi => ?_⟩
      simp only [Tg.slotsL] at hi
      rw [so2 own fun i m => hi i (List.mem_append_right _ m), so own fun i m => hi i (List.mem_append_left _ m)]
theorem PG.or {X : Cx} {e : Expr} {t u : TG} (h : PG X e t) (k : PG X e u) : PG X e (fun v σ H Q => t v σ H Q ∨ u v σ H Q) := ⟨fun pins s σ H x w Q I r q => q.elim (fun q => h.run pins s σ H x w Q I r q) (fun q => k.run pins s σ H x w Q I r q)⟩
theorem setTs_len : ∀ (gs : List Tg) (ρ ρ' : Env) (ds : List D), setTs ρ gs ds = some ρ' → ds.length = gs.length := by
  intro gs
  induction gs with
  | nil => intro ρ ρ' ds e; cases ds with | nil => rfl | cons _ _ => simp only [setTs] at e; cases e
  | cons g gs ih =>
    intro ρ ρ' ds e
    cases ds with
    | nil => simp only [setTs] at e; cases e
    | cons d ds =>
      simp only [setTs] at e
      cases q : setT ρ g d with
      | none => rw [q] at e; cases e
      | some ρ1 =>
        rw [q] at e
        rw [List.length_cons, List.length_cons, ih ρ1 ρ' ds e]
theorem dg_t {es : List Expr} {k : Nat} {pos : Pos} {gs : List Tg} {n : Nat} (g : Gd n X b) (h : DGs X b es gs) (hn : (assignEach es X.env).length = gs.length := by rfl) (hst : (assignEach es X.env).findIdx? (·.1) = none := by rfl) : DG X b (.Tuple es k pos) (.t gs) :=
  PG.imp (PG.or (pg_tup g.calm h hn hst) (pg_lst g.calm h hn hst)) fun v σ H Q ⟨lb, ρ, s, d, ρ', o, r, e, kk⟩ => by
    cases d with
    | tup ds =>
      simp only [setT] at e
      simp only [Rep] at r
      obtain ⟨a, vs, rfl, nt, z, rl⟩ := r
      refine .inl ⟨a, vs, rfl, nt.sq, by rw [← rl.length]; exact setTs_len _ _ _ _ e, lb, ρ, s, ds, ρ', o, rl, e, fun lb' σ' st o' so => kk lb' σ' st o' ?_⟩
      simp only [Tg.slots]
      exact so
    | lst ds =>
      simp only [setT] at e
      simp only [Rep] at r
      obtain ⟨a, vs, rfl, nt, z, rl⟩ := r
      refine .inr ⟨a, vs, rfl, nt.sq, by rw [← rl.length]; exact setTs_len _ _ _ _ e, lb, ρ, s, ds, ρ', o, rl, e, fun lb' σ' st o' so => kk lb' σ' st o' ?_⟩
      simp only [Tg.slots]
      exact so
    | _ => simp only [setT] at e; cases e

/-! ### for -/
theorem forL_cons {g : Tg} {body : S} {d : D} {ds : List D} {ρ ρ1 : Env} {s : Sto} (e : setT ρ g d = some ρ1) : forL g body (d :: ds) ρ s = (body ρ1 s).bind fun f r s => match f with
      | .nx => forL g body ds r s
      | .ct => forL g body ds r s
      | .bk => .ok .nx r s
      | .rt d => .ok (.rt d) r s := by
  simp only [forL, e] <;> rfl
theorem for_run {it : It} {g : Tg} {body : S} {D : Ends} {σ : L2.St} {H : Hp} (h : tS b (sFor it g body) D σ H) : tFor (tI b it) (tG b g) (tS b body) D σ H := by
  obtain ⟨lb, ρ, s, o, h⟩ := h
  have h : SPost b D lb H ((it ρ s).bind fun ds r s => forL g body ds r s) := h
  refine ⟨lb, ρ, s, o, (SPost.bind (D := D) h).mono fun ds ρ1 s1 lb1 H1 st o1 q => fun _ J H2 ex io => ?_⟩
  refine ⟨fun i m σ' H' => m = ds.length - i ∧ i ≤ ds.length ∧ ∃ lb ρ s, Ok b lb ρ s σ' H' ∧ ItOk b.cn lb H' ds J ∧ SPost b D lb H' (forL g body (ds.drop i) ρ s),
    ⟨ds.length, by simp, Nat.zero_le _, lb1, ρ1, s1, o1.ext ex, io, by simpa using SPost.from q (o1.stp_ext ex)⟩, ?_⟩
  rintro i m σ' H' ⟨rfl, hi, lb2, ρ2, s2, o2, io2, q2⟩
  obtain ⟨stop, go⟩ := io2 lb2 H' ⟨fun _ _ h _ => h, fun _ h => .inl h, fun _ _ h _ => h⟩
  by_cases hlt : i < ds.length
  · have hd : ds[i]? = some ds[i] := List.getElem?_eq_getElem hlt
    obtain ⟨hgo, hy⟩ := go i _ hd
    refine .inr ⟨hgo, fun σ3 H3 => ∃ lb ρ s, Ok b lb ρ s σ3 H3 ∧ ItOk b.cn lb H3 ds J ∧ SPost b D lb H3 (forL g body (ds.drop (i + 1)) ρ s), fun σ3 H3 h3 => ⟨ds.length - (i + 1), by omega, rfl, hlt, h3⟩, fun x H3 y => ?_⟩
    obtain ⟨ex3, rx⟩ := hy x H3 y
    rw [List.drop_eq_getElem_cons hlt] at q2
    have o3 := o2.ext ex3
    have st3 := o2.stp_ext ex3
    cases e : setT ρ2 g ds[i] with
    | none =>
      simp only [forL, e] at q2
      exact False.elim q2
    | some ρ3 =>
      rw [forL_cons e] at q2
      refine ⟨lb2, ρ2, s2, ds[i], ρ3, o3, rx o2.has, e, fun lb4 σ4 st4 o4 _ => ⟨lb4, ρ3, s2, o4, ?_⟩⟩
      have q4 := SPost.from q2 (st3.trans st4)
      cases eb : body ρ3 s2 with
      | ok f ρ5 s5 =>
        rw [eb, R.bind_ok] at q4
        intro lb5 σ5 H5 st5 o5
        have io5 : ItOk b.cn lb5 H5 ds J := io2.stq ((st3.trans st4).trans st5).q
        cases f with
        | nx => exact ⟨lb5, ρ5, s5, o5, io5, SPost.from q4 st5⟩
        | ct => exact ⟨lb5, ρ5, s5, o5, io5, SPost.from q4 st5⟩
        | bk => exact q4 lb5 σ5 H5 st5 o5
        | rt d => exact q4 lb5 σ5 H5 st5 o5
      | exc x ρ5 s5 => rw [eb] at q4; exact q4
      | bad => rw [eb] at q4; exact q4
  · have e : i = ds.length := by omega
    subst e
    refine .inl ⟨stop, ?_⟩
    rw [List.drop_length] at q2
    exact q2 lb2 σ' H' .refl o2
theorem while_run {c : M D} {body : S} {D : Ends} {σ : L2.St} {H : Hp} (h : tS b (sWhile c body) D σ H) : tWhile (tT b c) (tS b body) D σ H := by
  obtain ⟨lb, ρ, s, o, h⟩ := h
  refine ⟨fun m σ' H' => ∃ lb ρ s, Ok b lb ρ s σ' H' ∧ SPost b D lb H' (whileL c body m ρ s), ⟨WN, lb, ρ, s, o, h⟩, ?_⟩
  rintro m σ1 H1 ⟨lb1, ρ1, s1, o1, q1⟩
  cases m with
  | zero => exact False.elim q1
  | succ m =>
    refine ⟨lb1, ρ1, s1, o1, (SPost.bind (D := D) q1).mono fun d ρ2 s2 lb2 H2 st2 o2 q2 => ?_⟩
    cases d with
    | bool c =>
      intro H3 ex
      have q3 := SPost.from q2 (o2.stp_ext ex)
      have o3 := o2.ext ex
      cases c with
      | false => exact q3 lb2 σ1 H3 .refl o3
      | true =>
        refine ⟨fun σ4 H4 => ∃ lb ρ s, Ok b lb ρ s σ4 H4 ∧ SPost b D lb H4 (whileL c body m ρ s), fun σ4 H4 h4 => ⟨m, Nat.lt_succ_self m, h4⟩, lb2, ρ2, s2, o3, ?_⟩
        have q4 : SPost b D lb2 H3 ((body ρ2 s2).bind _) := q3
        cases eb : body ρ2 s2 with
        | ok f ρ5 s5 =>
          rw [eb, R.bind_ok] at q4
          intro lb5 σ5 H5 st5 o5
          cases f with
          | nx => exact ⟨lb5, ρ5, s5, o5, SPost.from q4 st5⟩
          | ct => exact ⟨lb5, ρ5, s5, o5, SPost.from q4 st5⟩
          | bk => exact q4 lb5 σ5 H5 st5 o5
          | rt d => exact q4 lb5 σ5 H5 st5 o5
        | exc x ρ5 s5 => rw [eb] at q4; exact q4
        | bad => rw [eb] at q4; exact q4
    | _ => exact False.elim q2
theorem ds_for {tg iter : Expr} {body : List Stmt} {it : It} {gt : Tg} {k : S} {pos : Pos} {n : Nat} (g : Gd n X b) (hi : DI X b tg iter it) (hg : DG X b tg gt) (hb : DSs X b body k)
    (hs : ∀ x, foldedSetIterable iter X.env x = pure x := by intro _; rfl) : DS X b (.For tg iter body [] pos) (sFor it gt k) := PS.imp (ps_for g.po g.calm hi hg hb hs) fun _ _ _ h => for_run h
theorem ds_while {c : Expr} {body : List Stmt} {m : M D} {k : S} {pos : Pos} {n : Nat} (g : Gd n X b) (hc : DT X b c m) (hb : DSs X b body k) : DS X b (.While c body [] pos) (sWhile m k) := PS.imp (ps_while g.po hc hb) fun _ _ _ h => while_run h
end
end Pk
/-! Br6: comprehensions. -/
namespace Pk
open PySem PySem.Spec PyProof.Rows L2

section
variable {cn : Cn} {lb0 lb : Lb} {H0 H : Hp} {ρ : Env} {s : Sto} {σ : L2.St}
/-- slot i forgotten -/
theorem BOk.forget (b : BOk cn lb0 H0 lb ρ s σ H) (i : Nat) : BOk cn lb0 H0 (unl lb i) (ρ.set i .no) s (σ.set i none) H := by
  have st := Stp.unl lb H i
  refine ⟨b.since.trans st, b.sto.stp st.q (fun _ _ _ _ => rfl) (fun _ _ e _ => (of_unl e).1), fun a l e => b.has a l (of_unl e).1, by simpa using b.len, fun j e h => ?_, fun j e h => ?_, fun a j h => ?_⟩
  · by_cases hj : i = j
    · subst hj
      rw [List.getElem?_set] at h
      simp only [if_true] at h
      split at h <;> cases h
    · rw [List.getElem?_set_ne hj] at h
      obtain ⟨u, e1, q⟩ := b.sh j e h
      exact ⟨u, by rw [List.getElem?_set_ne hj]; exact e1, q.stp st⟩
  · by_cases hj : i = j
    · subst hj
      rw [List.getElem?_set] at h
      simp only [if_true] at h
      split at h <;> cases h
    · rw [List.getElem?_set_ne hj] at h
      obtain ⟨a, o, e1, l, q, w⟩ := b.ow j e h
      exact ⟨a, o, by rw [List.getElem?_set_ne hj]; exact e1, unl_ne l (by rintro z; cases z; exact hj rfl), q, w.stp st⟩
  · obtain ⟨h1, n⟩ := of_unl h
    have hj : i ≠ j := fun e => n (by rw [e])
    obtain ⟨d', e1, e2⟩ := b.lc a j h1
    exact ⟨d', by rw [List.getElem?_set_ne hj]; exact e1, by rw [List.getElem?_set_ne hj]; exact e2⟩
def unlL (lb : Lb) : List Nat → Lb
  | [] => lb
  | i :: is => unl (unlL lb is) i
theorem Stp.unlL (lb : Lb) (H : Hp) : ∀ is : List Nat, Stp lb H (unlL lb is) H
  | [] => .refl
  | i :: is => (Stp.unlL lb H is).trans (.unl _ _ _)
theorem BOk.forgetL (b : BOk cn lb0 H0 lb ρ s σ H) : ∀ is : List Nat, BOk cn lb0 H0 (unlL lb is) (wipeL ρ is) s (wipe σ is) H
  | [] => b
  | i :: is => (b.forgetL is).forget i
theorem unlL_out {a : Addr} (h : lb a = some .out) : ∀ is : List Nat, unlL lb is a = some .out
  | [] => h
  | i :: is => unl_ne (unlL_out h is) (by intro z; cases z)
/-- a new thing that no value knows, marked as another's -/
theorem BOk.side (b : BOk cn lb0 H0 lb ρ s σ H) {p : Addr} (o : HO) (np : H p = none) (nt : Nt o := by exact trivial) : BOk cn lb0 H0 (mrk lb p .out) ρ s σ (L2.upd H p o) ∧ Stp lb H (mrk lb p .out) (L2.upd H p o) := by
  have lp : lb p = none := Has.none b.has np
  have ne : ∀ a l, lb a = some l → a ≠ p := fun a l e z => by rw [z, lp] at e; cases e
  have st : Stp lb H (mrk lb p .out) (L2.upd H p o) :=
    { keep := fun a o e n => Ext.upd np a o e
      out := fun a e => ⟨by rw [mrk_ne (ne a _ e)]; exact e, by rw [upd_ne (ne a _ e)]⟩
      new := fun a h => by
        by_cases ha : a = p
        · rw [ha]; exact .inr np
        · rw [mrk_ne ha] at h; exact .inl h
      sto := fun a l e z => by rw [mrk_ne (ne a l e)]; exact e
      dom := fun a e => by
        cases q : H a with
        | none => exact absurd q e
        | some u => rw [Ext.upd np a u q]; simp }
  have back : ∀ a l, mrk lb p .out a = some l → l ≠ .out → lb a = some l ∧ a ≠ p := fun a l e z => by
    by_cases ha : a = p
    · rw [ha, mrk_same] at e
      exact absurd (Option.some.inj e).symm z
    · rw [mrk_ne ha] at e
      exact ⟨e, ha⟩
  refine ⟨⟨b.since.trans st, b.sto.stp st.q (fun a l e _ => by rw [upd_ne (ne a l e)]) (fun a l e z => (back a l e (by rintro rfl; cases z)).1), fun a l e => ?_, b.len, fun j e h => ?_, fun j e h => ?_, fun a j h => b.lc a j (back a _ h (by intro z; cases z)).1⟩, st⟩
  · by_cases ha : a = p
    · exact ⟨o, by rw [ha, upd_same], nt⟩
    · rw [mrk_ne ha] at e
      obtain ⟨u, q, t⟩ := b.has a l e
      exact ⟨u, by rw [upd_ne ha]; exact q, t⟩
  · obtain ⟨u, e1, q⟩ := b.sh j e h
    exact ⟨u, e1, q.stp st⟩
  · obtain ⟨a, o', e1, l, q, w⟩ := b.ow j e h
    exact ⟨a, o', e1, by rw [mrk_ne (ne a _ l)]; exact l, by rw [upd_ne (ne a _ l)]; exact q, w.stp st⟩
/-- a thing that no value knows (marked as another's, not from ahead of the entry) is changed -/
theorem BOk.chgSide (b : BOk cn lb0 H0 lb ρ s σ H) {p : Addr} (o : HO) (lp : lb p = some .out) (n0 : lb0 p ≠ some .out) (h0 : H0 p = none) (nt : Nt o := by exact trivial) : BOk cn lb0 H0 lb ρ s σ (L2.upd H p o) ∧ Stq lb H lb (L2.upd H p o) := by
  have ne : ∀ a l, lb a = some l → l ≠ .out → a ≠ p := fun a l e n z => by rw [z, lp] at e; exact n (Option.some.inj e).symm
  have st : Stq lb H lb (L2.upd H p o) :=
    { keep := fun a u h n => by rw [upd_ne (by rintro rfl; rw [lp] at n; cases n)]; exact h
      new := fun _ h => .inl h
      sto := fun _ _ h _ => h }
  have si := b.since
  refine ⟨⟨⟨fun a u h n => ?_, fun a h => ?_, si.new, si.sto, fun a h => ?_⟩, b.sto.stp st (fun a l e z => by rw [upd_ne (ne a l e (by rintro rfl; cases z))]) (fun _ _ e _ => e), fun a l e => ?_, b.len, fun j e h => ?_, fun j e h => ?_, b.lc⟩, st⟩
  · rw [upd_ne (by rintro rfl; rw [h0] at h; cases h)]
    exact si.keep a u h n
  · have na : a ≠ p := by rintro rfl; exact n0 h
    rw [upd_ne na]
    exact si.out a h
  · by_cases ha : a = p
    · rw [ha, upd_same]; simp
    · rw [upd_ne ha]; exact si.dom a h
  · by_cases ha : a = p
    · exact ⟨o, by rw [ha, upd_same], nt⟩
    · obtain ⟨u, q, t⟩ := b.has a l e
      exact ⟨u, by rw [upd_ne ha]; exact q, t⟩
  · obtain ⟨u, e1, q⟩ := b.sh j e h
    exact ⟨u, e1, q.stq st⟩
  · obtain ⟨a, o', e1, l, q, w⟩ := b.ow j e h
    exact ⟨a, o', e1, l, by rw [upd_ne (ne a _ l (by intro z; cases z))]; exact q, w.stq st⟩
/-- .. taken away -/
def hid (H : Hp) (p : Addr) : Hp := fun a => if a = p then none else H a
def unm (lb : Lb) (p : Addr) : Lb := fun a => if a = p then none else lb a
theorem hid_ne {p a : Addr} (h : a ≠ p) : hid H p a = H a := by unfold hid; rw [if_neg h]
theorem hid_same {p : Addr} : hid H p p = none := by unfold hid; rw [if_pos rfl]
theorem unm_ne {p a : Addr} (h : a ≠ p) : unm lb p a = lb a := by unfold unm; rw [if_neg h]
theorem unm_same {p : Addr} : unm lb p p = none := by unfold unm; rw [if_pos rfl]
theorem upd_hid {p : Addr} {o : HO} (h : H p = some o) : L2.upd (hid H p) p o = H := by
  funext a
  by_cases ha : a = p
  · rw [ha, upd_same, h]
  · rw [upd_ne ha, hid_ne ha]
theorem Stq.gone {p : Addr} (lp : lb p = some .out) : Stq lb H (unm lb p) (hid H p) where
  keep := fun a u h n => by rw [hid_ne (by rintro rfl; rw [lp] at n; cases n)]; exact h
  new := fun a h => by
    by_cases ha : a = p
    · rw [ha, unm_same] at h; exact absurd rfl h
    · rw [unm_ne ha] at h; exact .inl h
  sto := fun a l h i => by rw [unm_ne (by rintro rfl; rw [lp] at h; cases h; cases i)]; exact h
theorem BOk.gone (b : BOk cn lb0 H0 lb ρ s σ H) {p : Addr} (lp : lb p = some .out) (n0 : lb0 p ≠ some .out) (h0 : H0 p = none) : BOk cn lb0 H0 (unm lb p) ρ s σ (hid H p) := by
  have ne : ∀ a l, lb a = some l → l ≠ .out → a ≠ p := fun a l e n z => by rw [z, lp] at e; exact n (Option.some.inj e).symm
  have st : Stq lb H (unm lb p) (hid H p) := .gone lp
  have si := b.since
  have of : ∀ a l, unm lb p a = some l → lb a = some l ∧ a ≠ p := fun a l e => by
    by_cases ha : a = p
    · rw [ha, unm_same] at e; cases e
    · rw [unm_ne ha] at e; exact ⟨e, ha⟩
  refine ⟨⟨fun a u h n => ?_, fun a h => ?_, fun a h => ?_, fun a l h i => ?_, fun a h => ?_⟩, b.sto.stp st (fun a l e z => by rw [hid_ne (ne a l e (by rintro rfl; cases z))]) (fun a l e _ => (of a l e).1), fun a l e => ?_, b.len, fun j e h => ?_, fun j e h => ?_, fun a j h => b.lc a j (of a _ h).1⟩
  · rw [hid_ne (by rintro rfl; rw [h0] at h; cases h)]
    exact si.keep a u h n
  · have na : a ≠ p := by rintro rfl; exact n0 h
    rw [hid_ne na, unm_ne na]
    exact si.out a h
  · by_cases ha : a = p
    · rw [ha, unm_same] at h; exact absurd rfl h
    · rw [unm_ne ha] at h; exact si.new a h
  · have q := si.sto a l h i
    rw [unm_ne (ne a l q (by rintro rfl; cases i))]
    exact q
  · rw [hid_ne (by rintro rfl; exact h h0)]
    exact si.dom a h
  · obtain ⟨e, ha⟩ := of a l e
    obtain ⟨u, q, t⟩ := b.has a l e
    exact ⟨u, by rw [hid_ne ha]; exact q, t⟩
  · obtain ⟨u, e1, q⟩ := b.sh j e h
    exact ⟨u, e1, q.stq st⟩
  · obtain ⟨a, o', e1, l, q, w⟩ := b.ow j e h
    have na := ne a _ l (by intro z; cases z)
    exact ⟨a, o', e1, by rw [unm_ne na]; exact l, by rw [hid_ne na]; exact q, w.stq st⟩
theorem set_getD {α : Type} (l : List α) (i : Nat) (x : α) : (l.set i (l.getD i x)) = l := by
  by_cases h : i < l.length
  · apply set_same_opt
    simp [List.getD, List.getElem?_eq_getElem h]
  · rw [List.set_eq_of_length_le (by omega)]
/-- behind the block: the slots of its own names are as ahead of it -/
theorem BOk.backL (lb1 : Lb) (H1 : Hp) {ρ1 : Env} {σ1 : L2.St} (st : Stp lb1 H1 lb H) (hl1 : ρ1.length = ρ.length) (b1 : ∀ (i : Nat) (d : D), ρ1[i]? = some (.sh d) → ∃ v, σ1[i]? = some (some v) ∧ Rep cn lb1 H1 d v) :
    ∀ (is : List Nat), notOw ρ1 is = true → BOk cn lb0 H0 lb (wipeL ρ is) s (wipe σ1 is) H → BOk cn lb0 H0 lb (Pk.backL ρ1 ρ is) s σ1 H := by
  intro is hn b
  have len : (Pk.backL ρ1 ρ is).length = σ1.length := by
    have h1 : ∀ is : List Nat, (Pk.backL ρ1 ρ is).length = ρ.length := fun is => by
      induction is with
      | nil => rfl
      | cons i is ih => unfold Pk.backL; rw [List.length_set, ih]
    have h2 : ∀ is : List Nat, (wipeL ρ is).length = ρ.length := fun is => by
      induction is with
      | nil => rfl
      | cons i is ih => unfold wipeL; rw [List.length_set, ih]
    have h3 := b.len
    rw [wipe_length, h2] at h3
    rw [h1, h3]
  have out : ∀ (is : List Nat) (j : Nat), j ∉ is → (Pk.backL ρ1 ρ is)[j]? = (wipeL ρ is)[j]? := fun is j => by
    induction is with
    | nil => intro _; rfl
    | cons i is ih =>
      intro h
      have hj : i ≠ j := fun e => h (by rw [e]; exact List.mem_cons_self)
      unfold Pk.backL wipeL
      rw [List.getElem?_set_ne hj, List.getElem?_set_ne hj, ih fun z => h (List.mem_cons_of_mem _ z)]
  have outσ : ∀ (is : List Nat) (j : Nat), j ∉ is → (wipe σ1 is)[j]? = σ1[j]? := fun is j h => wipe_out h
  have inn : ∀ (is : List Nat) (j : Nat), j ∈ is → j < ρ.length → (Pk.backL ρ1 ρ is)[j]? = some (ρ1.getD j .no) := fun is j => by
    induction is with
    | nil => intro h; cases h
    | cons i is ih =>
      intro h hl
      have hlen : ∀ is : List Nat, (Pk.backL ρ1 ρ is).length = ρ.length := fun is => by
        induction is with
        | nil => rfl
        | cons i is ih => unfold Pk.backL; rw [List.length_set, ih]
      unfold Pk.backL
      by_cases hj : i = j
      · subst hj
        rw [List.getElem?_set, if_pos rfl, if_pos (by rw [hlen]; exact hl)]
      · rw [List.getElem?_set_ne hj]
        rcases List.mem_cons.mp h with z | z
        · exact absurd z.symm hj
        · exact ih z hl
  have wno : ∀ (is : List Nat) (j : Nat), j ∈ is → j < ρ.length → (wipeL ρ is)[j]? = some .no := fun is j => by
    induction is with
    | nil => intro h; cases h
    | cons i is ih =>
      intro h hl
      have hlen : ∀ is : List Nat, (wipeL ρ is).length = ρ.length := fun is => by
        induction is with
        | nil => rfl
        | cons i is ih => unfold wipeL; rw [List.length_set, ih]
      unfold wipeL
      by_cases hj : i = j
      · subst hj
        rw [List.getElem?_set, if_pos rfl, if_pos (by rw [hlen]; exact hl)]
      · rw [List.getElem?_set_ne hj]
        rcases List.mem_cons.mp h with z | z
        · exact absurd z.symm hj
        · exact ih z hl
  have big : ∀ (j : Nat), ρ.length ≤ j → (Pk.backL ρ1 ρ is)[j]? = none := fun j h => by
    apply List.getElem?_eq_none
    have h1 : ∀ is : List Nat, (Pk.backL ρ1 ρ is).length = ρ.length := fun is => by
      induction is with
      | nil => rfl
      | cons i is ih => unfold Pk.backL; rw [List.length_set, ih]
    rw [h1]; exact h
  refine ⟨b.since, b.sto, b.has, len, fun j d h => ?_, fun j d h => ?_, fun a j h => ?_⟩
  · by_cases hj : j ∈ is
    · by_cases hlt : j < ρ.length
      · rw [inn is j hj hlt] at h
        have e : ρ1[j]? = some (.sh d) := by
          have h := Option.some.inj h
          rw [List.getD_eq_getElem?_getD] at h
          cases q : ρ1[j]? with
          | none => rw [q] at h; cases h
          | some x => rw [q] at h; exact congrArg some h
        obtain ⟨v, e1, r⟩ := b1 j d e
        exact ⟨v, e1, r.stp st⟩
      · rw [big j (by omega)] at h; cases h
    · rw [out is j hj] at h
      obtain ⟨v, e1, r⟩ := b.sh j d h
      rw [outσ is j hj] at e1
      exact ⟨v, e1, r⟩
  · by_cases hj : j ∈ is
    · by_cases hlt : j < ρ.length
      · rw [inn is j hj hlt] at h
        have hno := List.all_eq_true.mp hn j hj
        have h := Option.some.inj h
        rw [List.getD_eq_getElem?_getD] at h
        cases q : ρ1[j]? with
        | none => rw [q] at h; cases h
        | some x =>
          rw [q] at h hno
          have h : x = .ow d := h
          rw [h] at hno
          cases hno
      · rw [big j (by omega)] at h; cases h
    · rw [out is j hj] at h
      obtain ⟨a, o, e1, l, q, w⟩ := b.ow j d h
      rw [outσ is j hj] at e1
      exact ⟨a, o, e1, l, q, w⟩
  · obtain ⟨d, e1, e2⟩ := b.lc a j h
    have hj : j ∉ is := fun hj => by
      have hlt : j < ρ.length := by
        have := (List.getElem?_eq_some_iff.mp e1).1
        have h2 : ∀ is : List Nat, (wipeL ρ is).length = ρ.length := fun is => by
          induction is with
          | nil => rfl
          | cons i is ih => unfold wipeL; rw [List.length_set, ih]
        rw [h2] at this
        exact this
      rw [wno is j hj hlt] at e1
      cases e1
    rw [outσ is j hj] at e2
    exact ⟨d, by rw [out is j hj]; exact e1, e2⟩
end
end Pk
/-! Br7: comprehensions, the rule. -/
namespace Pk
open PySem PySem.Spec PyProof.Rows L2

theorem wipe_wipe (σ : L2.St) (own : List Nat) : wipe (wipe σ own) own = wipe σ own := by
  apply List.ext_getElem?
  intro j
  by_cases h : j ∈ own
  · have e : ∀ (σ : L2.St) (vs : List Nat), j ∈ vs → j < σ.length → (wipe σ vs)[j]? = some none := by
      intro σ vs
      induction vs with
      | nil => intro h; cases h
      | cons v vs ih =>
        intro h hl
        unfold wipe
        by_cases hj : v = j
        · subst hj
          rw [List.getElem?_set, if_pos rfl, if_pos (by rw [wipe_length]; exact hl)]
        · rw [List.getElem?_set_ne hj]
          rcases List.mem_cons.mp h with z | z
          · exact absurd z.symm hj
          · exact ih z hl
    by_cases hl : j < σ.length
    · rw [e _ own h (by rw [wipe_length]; exact hl), e _ own h hl]
    · rw [List.getElem?_eq_none (by rw [wipe_length, wipe_length]; omega), List.getElem?_eq_none (by rw [wipe_length]; omega)]
  · rw [wipe_out h]
section
variable {lb lb1 : Lb} {H H1 : Hp}
theorem Stp.updNew {p : Addr} {o : HO} (s : Stp lb1 H1 lb H) (np : H1 p = none) (hs : Has lb1 H1) : Stp lb1 H1 lb (L2.upd H p o) where
  keep := fun a u h n => by rw [upd_ne (by rintro rfl; rw [np] at h; cases h)]; exact s.keep a u h n
  out := fun a h => by
    have na : a ≠ p := by
      rintro rfl
      obtain ⟨u, q, _⟩ := hs _ _ h
      rw [np] at q; cases q
    rw [upd_ne na]
    exact s.out a h
  new := s.new
  sto := s.sto
  dom := fun a h => by
    by_cases ha : a = p
    · rw [ha, upd_same]; simp
    · rw [upd_ne ha]; exact s.dom a h
theorem Stp.goneNew {p : Addr} (s : Stp lb1 H1 lb H) (np : H1 p = Option.none) (hs : Has lb1 H1) (lp : lb p = some .out) : Stp lb1 H1 (unm lb p) (hid H p) where
  keep := fun a u h n => by rw [hid_ne (by rintro rfl; rw [np] at h; cases h)]; exact s.keep a u h n
  out := fun a h => by
    have na : a ≠ p := by
      rintro rfl
      obtain ⟨u, q, _⟩ := hs _ _ h
      rw [np] at q; cases q
    rw [hid_ne na, unm_ne na]
    exact s.out a h
  new := fun a h => by
    by_cases ha : a = p
    · rw [ha, unm_same] at h; exact absurd rfl h
    · rw [unm_ne ha] at h; exact s.new a h
  sto := fun a l h i => by
    have q := s.sto a l h i
    rw [unm_ne (by rintro rfl; rw [lp] at q; cases q; cases i)]
    exact q
  dom := fun a h => by
    rw [hid_ne (by rintro rfl; exact h np)]
    exact s.dom a h
end
/-- within a comprehension nothing is raised -/
abbrev Bd.in (b : Bd) : Bd := { b with W := fun _ _ _ _ => False }
section
variable {X : Cx} {b : Bd}
theorem wipeL_len (ρ : Env) : ∀ is : List Nat, (wipeL ρ is).length = ρ.length
  | [] => rfl
  | i :: is => by unfold wipeL; rw [List.length_set, wipeL_len ρ is]
theorem comp_run {it : It} {g : Tg} {own : List Nat} {c e : M D} {σ : L2.St} {H : Hp} {Q : VK} (hg : ∀ i ∈ g.slots, i ∈ own) (h : tK true b (eComp it g own c e) σ H Q) : tLc (tI b it) (tG b.in g) (tT b.in c) (tK false b.in e) own σ H Q := by
  obtain ⟨lb, ρ, s, o, h⟩ := h
  refine ⟨lb, ρ, s, o, (Post.bind h).mono fun ds ρ1 s1 lb1 H1 st o1 q => fun hz J H2 ex io D nD => ?_⟩
  have o2 := o1.ext ex
  have q2 := Post.from q (o1.stp_ext ex)
  clear q h o o1 ex st
  cases hn : notOw ρ1 own with
  | false => rw [hn] at q2; exact False.elim q2
  | true =>
    rw [hn, if_pos rfl] at q2
    have h0 : b.H0 D = none := by
      cases z : b.H0 D with
      | none => rfl
      | some u => exact absurd nD (o2.since.dom D (by rw [z]; simp))
    have n0 : b.lb0 D ≠ some .out := fun z => by
      obtain ⟨u, w, _⟩ := o2.has D _ (o2.since.out D z).1
      rw [nD] at w; cases w
    let W : Nat → Nat → Hp → Prop := fun i m H' => m = ds.length - i ∧ i ≤ ds.length ∧ ∃ lb ρ s ys acc, Ok b lb (wipeL ρ own) s (wipe σ own) H' ∧ lb D = some .out ∧ H' D = some (.lst acc) ∧ RepL b.cn lb H' ys acc ∧ ys.length ≤ i ∧ ItOk b.cn lb H' ds J ∧
      Stp lb1 H2 lb H' ∧ Post b σ lb1 H2 ((compLoop g own c e (ds.drop i) ys.reverse ρ s).bind fun ys r1 s => .ok (.lst ys) (backL ρ1 r1 own) s) fun d _ _ lb' H' => Kt true b.cn lb' H' d Q
    obtain ⟨o3, st3⟩ := o2.side (.lst []) nD
    have o4 := o3.forgetL own
    refine ⟨W, ⟨ds.length, by simp, Nat.zero_le _, unlL (mrk lb1 D .out) own, ρ1, s1, [], [], o4, unlL_out mrk_same own, upd_same, .nil, Nat.le_refl _, io.stq (st3.trans (.unlL _ _ own)).q, st3.trans (.unlL _ _ own), by simpa using q2⟩, ?_⟩
    rintro i m H3 ⟨rfl, hi, lb3, ρ3, s3, ys, acc, o5, lD, hD, ry, hy, io3, st5, q5⟩
    obtain ⟨stop, go⟩ := io3 lb3 H3 ⟨fun _ _ h _ => h, fun _ h => .inl h, fun _ _ h _ => h⟩
    by_cases hlt : i < ds.length
    · have hd : ds[i]? = some ds[i] := List.getElem?_eq_getElem hlt
      obtain ⟨hgo, hyl⟩ := go i _ hd
      refine .inr ⟨hgo, fun H' => W (i + 1) (ds.length - (i + 1)) H', fun H' h' => ⟨_, by omega, h'⟩, fun x H4 y => ?_⟩
      obtain ⟨ex4, rx⟩ := hyl x H4 y
      have rx := rx o5.has
      rw [List.drop_eq_getElem_cons hlt] at q5
      simp only [compLoop] at q5
      have o6 := o5.ext ex4
      have st6 := o5.stp_ext ex4
      cases e1 : setT (wipeL ρ3 own) g ds[i] with
      | none => rw [e1] at q5; exact False.elim q5
      | some r1 =>
        rw [e1] at q5
        simp only at q5
        refine ⟨lb3, wipeL ρ3 own, s3, ds[i], r1, o6, rx, e1, fun lb7 σ7 st7 o7 so => ?_⟩
        have so : wipe σ7 own = wipe σ own := (so own hg).trans (wipe_wipe σ own)
        refine ⟨so, lb7, r1, s3, o7, ?_⟩
        have stA : Stp lb3 H3 lb7 H4 := st6.trans st7
        cases e2 : c r1 s3 with
        | exc x r2 s2 => rw [e2] at q5; exact False.elim q5
        | bad => rw [e2] at q5; exact False.elim q5
        | ok dc r2 s2 =>
          rw [e2] at q5
          intro lb8 H8 st8 o8
          cases dc with
          | bool t =>
            intro H9 ex9
            have o9 := o8.ext ex9
            have stB : Stp lb3 H3 lb8 H9 := (stA.trans st8).trans (o8.stp_ext ex9)
            cases t with
            | true =>
              refine ⟨lb8, r2, s2, o9, ?_⟩
              simp only at q5
              cases e3 : e r2 s2 with
              | exc x r4 s4 => rw [e3] at q5; exact False.elim q5
              | bad => rw [e3] at q5; exact False.elim q5
              | ok yv r4 s4 =>
                rw [e3] at q5
                simp only at q5
                intro lb10 H10 st10 o10 v H11 ex11 rv
                have o11 := o10.ext ex11
                have stC : Stp lb3 H3 lb10 H11 := (stB.trans st10).trans (o10.stp_ext ex11)
                obtain ⟨lD11, hD11⟩ := stC.out D lD
                rw [hD] at hD11
                have hlen : acc.length < sizeLine := by
                  rw [← ry.length, ← SZ_eq]
                  omega
                refine ⟨acc, hD11, hlen, rfl, hlt, ?_⟩
                obtain ⟨o12, st12⟩ := o11.chgSide (.lst (acc ++ [v])) lD11 n0 h0
                have o13 := o12.forgetL own
                rw [so] at o13
                have stF : Stq lb3 H3 (unlL lb10 own) (L2.upd H11 D (.lst (acc ++ [v]))) := (stC.q.trans st12).trans (Stp.unlL _ _ own).q
                have stG : Stq lb10 H11 (unlL lb10 own) (L2.upd H11 D (.lst (acc ++ [v]))) := st12.trans (Stp.unlL _ _ own).q
                refine ⟨unlL lb10 own, r4, s4, ys ++ [yv], acc ++ [v], o13, unlL_out lD11 own, upd_same, (ry.stq stF).append (.one (rv.stq stG)), by rw [List.length_append]; exact Nat.add_le_add_right hy 1, io3.stq stF,
                  ((st5.trans stC).updNew nD o2.has).trans (.unlL _ _ own), ?_⟩
                simpa using q5
            | false =>
              simp only at q5
              have o13 := o9.forgetL own
              rw [so] at o13
              obtain ⟨lD11, hD11⟩ := stB.out D lD
              have stF : Stp lb3 H3 (unlL lb8 own) H9 := stB.trans (.unlL _ _ own)
              exact ⟨rfl, hlt, unlL lb8 own, r2, s2, ys, acc, o13, unlL_out lD11 own, by rw [hD11]; exact hD, ry.stp stF, Nat.le_succ_of_le hy, io3.stq stF.q, st5.trans stF, q5⟩
          | _ => exact False.elim q5
    · have e : i = ds.length := by omega
      subst e
      refine .inl ⟨stop, ?_⟩
      rw [List.drop_length] at q5
      simp only [compLoop, List.reverse_reverse] at q5
      have stN := st5.goneNew nD o2.has lD
      have o6 := o5.gone lD n0 h0
      have hl : ρ1.length = ρ3.length := by
        have h1 := o5.len
        rw [wipeL_len, wipe_length] at h1
        rw [h1]
        exact o2.len
      have o7 := BOk.backL (ρ := ρ3) lb1 H2 stN hl o2.sh own hn o6
      have k := q5 (unm lb3 D) (hid H3 D) stN o7
      have k : KF b.cn (unm lb3 D) (hid H3 D) (.lst ys) Q := k
      have z := k D (.lst acc) hid_same ⟨acc, rfl, by omega, ry.stq (.gone lD)⟩
      rw [upd_hid hD] at z
      exact z
/-- a clause's test -/
abbrev DTs (X : Cx) (b : Bd) (ifs : List Expr) (c : M D) : Prop := PTs X ifs (tT b c)
theorem PTs.imp {X : Cx} {e : List Expr} {t t' : TT} (h : PTs X e t) (f : ∀ σ H Q, t' σ H Q → t σ H Q) : PTs X e t' := ⟨fun pins s σ H Q I q => h.run pins s σ H Q I (f σ H Q q)⟩
theorem dts_nil : DTs X b [] eYes := PTs.imp pts_nil fun σ H Q ⟨lb, ρ, s, o, p⟩ => (show ∀ H2, Ext H H2 → Q true H2 from p lb H .refl o) H .refl
theorem dts_one {c : Expr} {m : M D} (h : DT X b c m) : DTs X b [c] m := pts_one h
/-- the context of a comprehension's block -/
theorem Gd.blk {n : Nat} (g : Gd n X b) (s : Shared) (H : Hp) (scope : Scope) (cenv : PySem.Env) (fp : List Addr) : Gd n (X.blk s H scope cenv fp) b.in :=
  ⟨g.kk, g.calm, g.nd, takes0, g.room, PassesOwn.never⟩
theorem df_comp {n : Nat} {elt tg iter : Expr} {ifs : List Expr} {scope : Scope} {own : List (Str × Nat)} {pos : Pos} {it : It} {gt : Tg} {c e : M D} (g : Gd n X b) (hi : DI X b tg iter it) (ok : BlkOk X.N X.env.scope scope own)
    (hg : ∀ (s : Shared) (H : Hp) (C : Addr) (cl : List (Str × Addr)) (fp : List Addr), Gd n (X.blk s H scope (compEnvC scope cl C X.env) fp) b.in → DG (X.blk s H scope (compEnvC scope cl C X.env) fp) b.in tg gt)
    (ht : ∀ (s : Shared) (H : Hp) (C : Addr) (cl : List (Str × Addr)) (fp : List Addr), Gd n (X.blk s H scope (compEnvC scope cl C X.env) fp) b.in → DTs (X.blk s H scope (compEnvC scope cl C X.env) fp) b.in ifs c)
    (he : ∀ (s : Shared) (H : Hp) (C : Addr) (cl : List (Str × Addr)) (fp : List Addr), Gd n (X.blk s H scope (compEnvC scope cl C X.env) fp) b.in → DE (X.blk s H scope (compEnvC scope cl C X.env) fp) b.in elt e)
    (hsl : ∀ i ∈ gt.slots, i ∈ own.map (·.2) := by decide) (hs : ∀ x, foldedSetIterable iter X.env x = pure x := by intro _; rfl) :
    DF X b (.ListComp elt [⟨tg, iter, ifs, 0⟩] scope pos) (eComp it gt (own.map (·.2)) c e) :=
  PE.imp (pe_lc g.calm g.nd hi ok (fun s H C cl fp => hg s H C cl fp (g.blk ..)) (fun s H C cl fp => ht s H C cl fp (g.blk ..)) (fun s H C cl fp => he s H C cl fp (g.blk ..)) hs) fun _ _ _ h => comp_run hsl h
end
end Pk
/-! Br8: the built-in operations stand. -/
namespace Pk
open PySem PySem.Spec PyProof.Rows L2

/-! ### plain data as the library's -/
mutual
def toPy : D → PyData
  | .bool b => .bool b
  | .int i => .int i
  | .str x => .str x
  | .lst l => .list (toPyL l)
  | .tup l => .tuple (toPyL l)
  | _ => .none
def toPyL : List D → List PyData
  | [] => []
  | d :: ds => toPy d :: toPyL ds
end
mutual
theorem eqv_py : ∀ (x y : D) (n m : Nat), x.dep n = true → y.dep m = true → PyData.eqv (toPy x) (toPy y) = x.eqv y
  | .none, y, n, m, hx, hy => by cases y <;> first | rfl | (cases m <;> simp [D.dep] at hy) | simp [toPy, PyData.eqv, D.eqv]
  | .bool b, y, n, m, hx, hy => by cases y <;> first | rfl | (cases m <;> simp [D.dep] at hy) | simp [toPy, PyData.eqv, D.eqv]
  | .int b, y, n, m, hx, hy => by cases y <;> first | rfl | (cases m <;> simp [D.dep] at hy) | simp [toPy, PyData.eqv, D.eqv]
  | .str b, y, n, m, hx, hy => by cases y <;> first | rfl | (cases m <;> simp [D.dep] at hy) | simp [toPy, PyData.eqv, D.eqv]
  | .lst l, y, 0, m, hx, hy => by simp [D.dep] at hx
  | .tup l, y, 0, m, hx, hy => by simp [D.dep] at hx
  | .lst l, y, n + 1, m, hx, hy => by
    cases y with
    | lst k =>
      cases m with
      | zero => simp [D.dep] at hy
      | succ m =>
        simp only [D.dep] at hx hy
        simp only [toPy, PyData.eqv, D.eqv]
        exact eqvL_py l k n m hx hy
    | _ => first | rfl | (cases m <;> simp [D.dep] at hy) | simp [toPy, PyData.eqv, D.eqv]
  | .tup l, y, n + 1, m, hx, hy => by
    cases y with
    | tup k =>
      cases m with
      | zero => simp [D.dep] at hy
      | succ m =>
        simp only [D.dep] at hx hy
        simp only [toPy, PyData.eqv, D.eqv]
        exact eqvL_py l k n m hx hy
    | _ => first | rfl | (cases m <;> simp [D.dep] at hy) | simp [toPy, PyData.eqv, D.eqv]
  | .dct _ _, y, n, m, hx, hy => by cases n <;> simp [D.dep] at hx
  | .fn _, y, n, m, hx, hy => by cases n <;> simp [D.dep] at hx
  | .clo _ _, y, n, m, hx, hy => by cases n <;> simp [D.dep] at hx
  | .town, y, n, m, hx, hy => by cases n <;> simp [D.dep] at hx
  | .obj _, y, n, m, hx, hy => by cases n <;> simp [D.dep] at hx
  | .scr _, y, n, m, hx, hy => by cases n <;> simp [D.dep] at hx
theorem eqvL_py : ∀ (l k : List D) (n m : Nat), l.all (D.dep n) = true → k.all (D.dep m) = true → PyData.eqvAll (toPyL l) (toPyL k) = eqvL l k
  | [], [], n, m, hx, hy => by simp [toPyL, PyData.eqvAll, eqvL]
  | [], _ :: _, n, m, hx, hy => by simp [toPyL, PyData.eqvAll, eqvL]
  | _ :: _, [], n, m, hx, hy => by simp [toPyL, PyData.eqvAll, eqvL]
  | x :: l, y :: k, n, m, hx, hy => by
    simp only [List.all_cons, Bool.and_eq_true] at hx hy
    simp only [toPyL, PyData.eqvAll, eqvL]
    rw [eqv_py x y n m hx.1 hy.1, eqvL_py l k n m hx.2 hy.2]
end
mutual
theorem lay_py : ∀ (x : D) (n : Nat), x.dep n = true → (toPy x).canLay0 = true ∧ (toPy x).depth ≤ n
  | .none, n, h => ⟨by simp [toPy, PyData.canLay0], by simp [toPy, PyData.depth]⟩
  | .bool _, n, h => ⟨by simp [toPy, PyData.canLay0], by simp [toPy, PyData.depth]⟩
  | .int _, n, h => ⟨by simp [toPy, PyData.canLay0], by simp [toPy, PyData.depth]⟩
  | .str x, n, h => ⟨by
      have h : x.cps.all (· < 0x110000) = true := by cases n <;> simpa [D.dep] using h
      simp only [toPy, PyData.canLay0, PyData.strOk]
      exact h, by simp [toPy, PyData.depth]⟩
  | .lst l, 0, h => by simp [D.dep] at h
  | .tup l, 0, h => by simp [D.dep] at h
  | .lst l, n + 1, h => by
    simp only [D.dep] at h
    obtain ⟨h1, h2⟩ := layL_py l n h
    exact ⟨by simp only [toPy, PyData.canLay0]; exact h1, by simp only [toPy, PyData.depth]; exact Nat.succ_le_succ h2⟩
  | .tup l, n + 1, h => by
    simp only [D.dep] at h
    obtain ⟨h1, h2⟩ := layL_py l n h
    exact ⟨by simp only [toPy, PyData.canLay0]; exact h1, by simp only [toPy, PyData.depth]; exact Nat.succ_le_succ h2⟩
  | .dct _ _, n, h => by cases n <;> simp [D.dep] at h
  | .fn _, n, h => by cases n <;> simp [D.dep] at h
  | .clo _ _, n, h => by cases n <;> simp [D.dep] at h
  | .town, n, h => by cases n <;> simp [D.dep] at h
  | .obj _, n, h => by cases n <;> simp [D.dep] at h
  | .scr _, n, h => by cases n <;> simp [D.dep] at h
theorem layL_py : ∀ (l : List D) (n : Nat), l.all (D.dep n) = true → PyData.canLayAll0 (toPyL l) = true ∧ PyData.depthAll (toPyL l) ≤ n
  | [], n, h => ⟨by simp [toPyL, PyData.canLayAll0], by simp [toPyL, PyData.depthAll]⟩
  | x :: l, n, h => by
    simp only [List.all_cons, Bool.and_eq_true] at h
    obtain ⟨h1, h2⟩ := lay_py x n h.1
    obtain ⟨h3, h4⟩ := layL_py l n h.2
    exact ⟨by simp only [toPyL, PyData.canLayAll0, h1, h3]; rfl, by simp only [toPyL, PyData.depthAll]; omega⟩
end
theorem shaped_py {x : D} (h : x.dep 64 = true) : SeqAt.shaped (toPy x) = true := by
  obtain ⟨h1, h2⟩ := lay_py x 64 h
  unfold SeqAt.shaped
  rw [h1, decide_eq_true h2]
  rfl
section
variable {cn : Cn} {lb : Lb} {H : Hp}
mutual
theorem dp_rep : ∀ {x : D} {v : V} {n : Nat}, x.dep n = true → Rep cn lb H x v → Dp cn.K H v (toPy x)
  | .none, v, n, h, r => by simp only [Rep] at r; subst r; simp only [toPy]; exact .non
  | .bool b, v, n, h, r => by simp only [Rep] at r; subst r; simp only [toPy]; exact .bl b
  | .int b, v, n, h, r => by simp only [Rep] at r; subst r; simp only [toPy]; exact .int b
  | .str b, v, n, h, r => by simp only [Rep] at r; subst r; simp only [toPy]; exact .str b
  | .lst l, v, 0, h, r => by simp [D.dep] at h
  | .tup l, v, 0, h, r => by simp [D.dep] at h
  | .lst l, v, n + 1, h, r => by
    simp only [Rep] at r
    simp only [D.dep] at h
    obtain ⟨a, vs, rfl, nl, z, rl⟩ := r
    simp only [toPy]
    exact .lst nl.sq (dpL_rep h rl)
  | .tup l, v, n + 1, h, r => by
    simp only [Rep] at r
    simp only [D.dep] at h
    obtain ⟨a, vs, rfl, nl, z, rl⟩ := r
    simp only [toPy]
    exact .tup nl.sq (dpL_rep h rl)
  | .dct _ _, v, n, h, r => by cases n <;> simp [D.dep] at h
  | .fn _, v, n, h, r => by cases n <;> simp [D.dep] at h
  | .clo _ _, v, n, h, r => by cases n <;> simp [D.dep] at h
  | .town, v, n, h, r => by cases n <;> simp [D.dep] at h
  | .obj _, v, n, h, r => by cases n <;> simp [D.dep] at h
  | .scr _, v, n, h, r => by cases n <;> simp [D.dep] at h
theorem dpL_rep : ∀ {l : List D} {vs : List V} {n : Nat}, l.all (D.dep n) = true → RepL cn lb H l vs → DpAll cn.K H vs (toPyL l)
  | [], vs, n, h, r => by simp only [RepL] at r; subst r; simp only [toPyL]; exact .nil
  | x :: l, vs, n, h, r => by
    simp only [RepL] at r
    simp only [List.all_cons, Bool.and_eq_true] at h
    obtain ⟨v, r', rfl, r1, r2⟩ := r
    simp only [toPyL]
    exact .cons (dp_rep h.1 r1) (dpL_rep h.2 r2)
end
theorem dp_repB {x : D} {v : V} {n : Nat} (h : x.dep n = true) (r : RepB cn lb H x v) : Dp cn.K H v (toPy x) := by
  cases x with
  | lst l =>
    obtain ⟨a, vs, rfl, e, z, rl⟩ := r.lst
    cases n with
    | zero => simp [D.dep] at h
    | succ n =>
      simp only [D.dep] at h
      simp only [toPy]
      exact .lst (.of e) (dpL_rep h rl)
  | dct ks ds => cases n <;> simp [D.dep] at h
  | _ => exact dp_rep h (r.flat (fun _ e => nomatch e) (fun _ _ e => nomatch e))
theorem p2_eq : P2 false cn (rEqD cn.K) pEq := by
  intro lb H x y d1 d2 e Q hs r1 r2 h k
  unfold pEq at h
  split at h
  · rename_i hh
    obtain ⟨h1, h2⟩ := Bool.and_eq_true_iff.mp hh
    cases h
    refine ⟨_, _, dp_repB h1 r1, dp_repB h2 r2, shaped_py h1, shaped_py h2, ?_⟩
    rw [eqv_py d1 d2 64 64 h1 h2]
    exact KV.now k (by simp only [Rep])
  · cases h
theorem p2_ne : P2 false cn (rNeD cn.K) pNe := by
  intro lb H x y d1 d2 e Q hs r1 r2 h k
  unfold pNe at h
  split at h
  · rename_i hh
    obtain ⟨h1, h2⟩ := Bool.and_eq_true_iff.mp hh
    cases h
    refine ⟨_, _, dp_repB h1 r1, dp_repB h2 r2, shaped_py h1, shaped_py h2, ?_⟩
    rw [eqv_py d1 d2 64 64 h1 h2]
    exact KV.now k (by simp only [Rep])
  · cases h
theorem any_py : ∀ (l : List D) (d : D) (n m : Nat), l.all (D.dep n) = true → d.dep m = true → ((toPyL l).any fun z => PyData.eqv z (toPy d)) = l.any fun z => z.eqv d
  | [], d, n, m, h, hd => by simp [toPyL]
  | x :: l, d, n, m, h, hd => by
    simp only [List.all_cons, Bool.and_eq_true] at h
    simp only [toPyL, List.any_cons]
    rw [eqv_py x d n m h.1 hd, any_py l d n m h.2 hd]
theorem p2_in : P2 false cn (rInD cn.K) pIn := by
  intro lb H x y d1 d2 e Q hs r1 r2 h k
  cases d2 with
  | lst l =>
    simp only [pIn] at h
    split at h
    · rename_i hh
      obtain ⟨h1, h2⟩ := Bool.and_eq_true_iff.mp hh
      cases h
      have sh := shaped_py h2
      have dp := dp_repB h2 r2
      simp only [toPy] at sh dp
      refine ⟨_, _, dp_repB h1 r1, dp, shaped_py h1, sh, ?_⟩
      rw [any_py l d1 63 64 (by simpa [D.dep] using h2) h1]
      exact KV.now k (by simp only [Rep])
    · cases h
  | _ => cases h
theorem p2_notIn : P2 false cn (rNotInD cn.K) pNotIn := by
  intro lb H x y d1 d2 e Q hs r1 r2 h k
  cases d2 with
  | lst l =>
    simp only [pNotIn] at h
    split at h
    · rename_i hh
      obtain ⟨h1, h2⟩ := Bool.and_eq_true_iff.mp hh
      cases h
      have sh := shaped_py h2
      have dp := dp_repB h2 r2
      simp only [toPy] at sh dp
      refine ⟨_, _, dp_repB h1 r1, dp, shaped_py h1, sh, ?_⟩
      rw [any_py l d1 63 64 (by simpa [D.dep] using h2) h1]
      exact KV.now k (by simp only [Rep])
    · cases h
  | _ => cases h
/-! ### numbers -/
theorem p2_int0 {g : Int → Int → V} {f : Int → Int → D} {c : Int → Int → Bool} (hr : ∀ lb H i j, Rep cn lb H (f i j) (g i j)) : P2 false cn (rI0 g) (pInt2 f c) := by
  intro lb H x y d1 d2 e Q hs r1 r2 h k
  cases d1 with
  | int i =>
    cases d2 with
    | int j =>
      simp only [pInt2] at h
      split at h
      · cases h
        exact ⟨i, j, r1.int, r2.int, KV.now k (hr _ _ _ _)⟩
      · cases h
    | _ => cases h
  | _ => cases h
theorem p2_intC {g : Int → Int → V} {f : Int → Int → D} {c : Int → Int → Bool} {C : Int → Int → Prop} (hr : ∀ lb H i j, Rep cn lb H (f i j) (g i j)) (hc : ∀ i j, c i j = true → C i j) : P2 false cn (rI C g) (pInt2 f c) := by
  intro lb H x y d1 d2 e Q hs r1 r2 h k
  cases d1 with
  | int i =>
    cases d2 with
    | int j =>
      simp only [pInt2] at h
      split at h
      · rename_i hh
        cases h
        exact ⟨i, j, r1.int, r2.int, hc i j hh, KV.now k (hr _ _ _ _)⟩
      · cases h
    | _ => cases h
  | _ => cases h
theorem p2_sub : P2 false cn (rI0 fun i j => .int (i - j)) pSub := p2_int0 fun _ _ _ _ => by simp only [Rep]
theorem p2_mul : P2 false cn (rI CMul fun i j => .int (i * j)) pMul := p2_intC (fun _ _ _ _ => by simp only [Rep]) fun i j h => by
  simp only [big, Bool.or_eq_true, lim_iff] at h
  exact h
theorem p2_fdiv : P2 false cn (rI CDiv fun i j => .int (i / j)) pFdiv := p2_intC (fun _ _ _ _ => by simp only [Rep]) fun i j h => of_lim h
theorem p2_mod : P2 false cn (rI (fun _ j => 0 < j) fun i j => .int (i % j)) pMod := p2_intC (fun _ _ _ _ => by simp only [Rep]) fun i j h => of_lim h
theorem p2_pow : P2 false cn (rI CPow fun i j => .int (i ^ j.toNat)) pPow := p2_intC (fun _ _ _ _ => by simp only [Rep]) fun i j h => of_lim h
theorem p2_lt : P2 false cn (rI0 fun i j => .bl (decide (i < j))) pLt := p2_int0 fun _ _ _ _ => by simp only [Rep]
theorem p2_le : P2 false cn (rI0 fun i j => .bl (decide (i ≤ j))) pLe := p2_int0 fun _ _ _ _ => by simp only [Rep]
theorem p2_gt : P2 false cn (rI0 fun i j => .bl (decide (j < i))) pGt := p2_int0 fun _ _ _ _ => by simp only [Rep]
theorem p2_ge : P2 false cn (rI0 fun i j => .bl (decide (j ≤ i))) pGe := p2_int0 fun _ _ _ _ => by simp only [Rep]
theorem p1_neg : P1 false cn (rU fun i => .int (-i)) pNeg := by
  intro lb H x d e Q hs r h k
  cases d with
  | int i => cases h; exact ⟨i, r.int, KV.now k (by simp only [Rep])⟩
  | _ => cases h
theorem p1_abs : P1 false cn (fun x H Q => ∃ i, [x] = [V.int i] ∧ Q (.int (if i < 0 then -i else i)) H) pAbs := by
  intro lb H x d e Q hs r h k
  cases d with
  | int i => cases h; exact ⟨i, by rw [r.int], KV.now k (by simp only [Rep])⟩
  | _ => cases h
theorem p2_max2 : P2 false cn (fun x y H Q => ∃ i j, [x, y] = [V.int i, V.int j] ∧ Q (.int (if j > i then j else i)) H) pMax2 := by
  intro lb H x y d1 d2 e Q hs r1 r2 h k
  cases d1 with
  | int i =>
    cases d2 with
    | int j => cases h; exact ⟨i, j, by rw [r1.int, r2.int], KV.now k (by simp only [Rep])⟩
    | _ => cases h
  | _ => cases h
theorem p2_min2 : P2 false cn (fun x y H Q => ∃ i j, [x, y] = [V.int i, V.int j] ∧ Q (.int (if j < i then j else i)) H) pMin2 := by
  intro lb H x y d1 d2 e Q hs r1 r2 h k
  cases d1 with
  | int i =>
    cases d2 with
    | int j => cases h; exact ⟨i, j, by rw [r1.int, r2.int], KV.now k (by simp only [Rep])⟩
    | _ => cases h
  | _ => cases h
end
end Pk
/-! Br9: places, kinds, sums of lists, and the rules of expressions with built-ins. -/
namespace Pk
open PySem PySem.Spec PyProof.Rows L2
section
variable {cn : Cn} {lb : Lb} {H : Hp}
theorem ixOf_eq (n : Nat) (i : Int) : ixOf n i = ixN n i := rfl
theorem getI_rep {l : List D} {vs : List V} {i : Int} {d : D} (r : RepL cn lb H l vs) (h : getI l i = some d) : ∃ v, atI vs i = some v ∧ Rep cn lb H d v := by
  unfold getI at h
  cases e : ixOf l.length i with
  | none => rw [e] at h; cases h
  | some j =>
    rw [e] at h
    obtain ⟨v, e1, r1⟩ := r.get (show l[j]? = some d from h)
    refine ⟨v, ?_, r1⟩
    unfold atI
    rw [← r.length, ← ixOf_eq, e]
    exact e1
theorem p2_ix : P2 false cn (rIx cn.K) pIx := by
  intro lb H x y d1 d2 e Q hs r1 r2 h k
  cases d2 with
  | int i =>
    cases d1 with
    | lst l =>
      obtain ⟨a, vs, rfl, e1, z, rl⟩ := r1.lst
      obtain ⟨v, e2, rv⟩ := getI_rep rl h
      exact .inl ⟨a, vs, i, v, rfl, r2.int, .of e1, e2, KV.now k rv⟩
    | tup l =>
      obtain ⟨a, vs, rfl, e1, z, rl⟩ := r1.tup
      obtain ⟨v, e2, rv⟩ := getI_rep rl h
      exact .inr (.inl ⟨a, vs, i, v, rfl, r2.int, .of e1, e2, KV.now k rv⟩)
    | scr l =>
      obtain ⟨a, rfl, e1, z⟩ := r1.scr
      simp only [pIx] at h
      cases e2 : ixOf l.length i with
      | none => rw [e2] at h; cases h
      | some j =>
        rw [e2] at h
        cases e3 : l[j]? with
        | none => simp only [Option.bind_some, e3] at h; cases h
        | some n =>
          simp only [Option.bind_some, e3, Option.map_some, Option.some.injEq] at h
          subst h
          refine .inl ⟨a, _, i, .int n, rfl, r2.int, e1, ?_, KV.now k (by simp only [Rep])⟩
          unfold atI
          rw [List.length_map, ← ixOf_eq, e2]
          simp [e3]
    | _ => cases h
  | _ => cases d1 <;> cases h
/-! ### kinds -/
def TyD (K : PySem.W.Frag) (H : Hp) (v : V) (d : D) : Prop := match d with
    | .none => TyX K H v (.type "NoneType")
    | .bool _ => TyX K H v (.type "bool")
    | .int _ => TyX K H v (.type "int")
    | .str _ => TyX K H v (.type "str")
    | .tup _ => TyX K H v (.type "tuple")
    | .lst _ => TyX K H v (.type "list")
    | .dct _ _ => TyX K H v (.type "dict")
    | _ => True
theorem tyx {d : D} {v : V} (r : RepB cn lb H d v) : TyD cn.K H v d := by
  cases d with
  | none => rw [r.none]; exact .base .non
  | bool b => rw [r.bool]; exact .base (.bl b)
  | int b => rw [r.int]; exact .base (.int b)
  | str b => rw [r.str]; exact .base (.str b)
  | tup l => obtain ⟨a, vs, rfl, e, _⟩ := r.tup; exact .base (.tup e)
  | lst l => obtain ⟨a, vs, rfl, e, _⟩ := r.lst; exact .base (.lst e)
  | dct ks ds =>
    obtain ⟨a, vs, rfl, _, _, _, _, c⟩ := r.dct
    rcases c with ⟨_, _, e⟩ | ⟨_, _, e⟩
    · exact .base (.dT e)
    · exact .base (.dK e)
  | _ => trivial
theorem p1_isi (T : String) (p : D → Option D) (h0 : ∀ e, p .none = some e → ∃ c, e = .bool c ∧ kitB "NoneType" T = some c) (h1 : ∀ b e, p (.bool b) = some e → ∃ c, e = .bool c ∧ kitB "bool" T = some c)
    (h2 : ∀ b e, p (.int b) = some e → ∃ c, e = .bool c ∧ kitB "int" T = some c) (h3 : ∀ b e, p (.str b) = some e → ∃ c, e = .bool c ∧ kitB "str" T = some c) (h4 : ∀ b e, p (.tup b) = some e → ∃ c, e = .bool c ∧ kitB "tuple" T = some c)
    (h5 : ∀ b e, p (.lst b) = some e → ∃ c, e = .bool c ∧ kitB "list" T = some c) (h6 : ∀ b a e, p (.dct b a) = some e → ∃ c, e = .bool c ∧ kitB "dict" T = some c)
    (h7 : ∀ n, p (.fn n) = none) (h8 : ∀ n l, p (.clo n l) = none) (h9 : p .town = none) (h10 : ∀ n, p (.obj n) = none) (h11 : ∀ n, p (.scr n) = none) :
    P1 false cn (fun x H Q => rIsi cn.K [x, .ty T] H Q) p := by
  intro lb H x d e Q hs r h k
  have t := tyx r
  have fin : ∀ s, (∃ c, e = .bool c ∧ kitB s T = some c) → TyX cn.K H x (.type s) → rIsi cn.K [x, .ty T] H Q := fun s ⟨c, e1, e2⟩ t => by
    subst e1
    exact ⟨x, .ty T, .type s, .type T, c, rfl, .ty T, t, kit_ty e2, KV.now k (by simp only [Rep])⟩
  cases d with
  | none => exact fin _ (h0 e h) t
  | bool b => exact fin _ (h1 b e h) t
  | int b => exact fin _ (h2 b e h) t
  | str b => exact fin _ (h3 b e h) t
  | tup b => exact fin _ (h4 b e h) t
  | lst b => exact fin _ (h5 b e h) t
  | dct b a => exact fin _ (h6 b a e h) t
  | fn n => rw [h7] at h; cases h
  | clo n l => rw [h8] at h; cases h
  | town => rw [h9] at h; cases h
  | obj n => rw [h10] at h; cases h
  | scr n => rw [h11] at h; cases h
theorem p1_isInt : P1 false cn (fun x H Q => rIsi cn.K [x, .ty "int"] H Q) pIsInt := by
  refine p1_isi "int" pIsInt ?_ ?_ ?_ ?_ ?_ ?_ ?_ (fun _ => rfl) (fun _ _ => rfl) rfl (fun _ => rfl) (fun _ => rfl) <;> (intros; rename_i h; cases h; exact ⟨_, rfl, by decide +kernel⟩)
theorem p1_isBool : P1 false cn (fun x H Q => rIsi cn.K [x, .ty "bool"] H Q) pIsBool := by
  refine p1_isi "bool" pIsBool ?_ ?_ ?_ ?_ ?_ ?_ ?_ (fun _ => rfl) (fun _ _ => rfl) rfl (fun _ => rfl) (fun _ => rfl) <;> (intros; rename_i h; cases h; exact ⟨_, rfl, by decide +kernel⟩)
theorem p1_isTup : P1 false cn (fun x H Q => rIsi cn.K [x, .ty "tuple"] H Q) pIsTup := by
  refine p1_isi "tuple" pIsTup ?_ ?_ ?_ ?_ ?_ ?_ ?_ (fun _ => rfl) (fun _ _ => rfl) rfl (fun _ => rfl) (fun _ => rfl) <;> (intros; rename_i h; cases h; exact ⟨_, rfl, by decide +kernel⟩)
theorem p1_isLst : P1 false cn (fun x H Q => rIsi cn.K [x, .ty "list"] H Q) pIsLst := by
  refine p1_isi "list" pIsLst ?_ ?_ ?_ ?_ ?_ ?_ ?_ (fun _ => rfl) (fun _ _ => rfl) rfl (fun _ => rfl) (fun _ => rfl) <;> (intros; rename_i h; cases h; exact ⟨_, rfl, by decide +kernel⟩)
theorem p1_isStr : P1 false cn (fun x H Q => rIsi cn.K [x, .ty "str"] H Q) pIsStr := by
  refine p1_isi "str" pIsStr ?_ ?_ ?_ ?_ ?_ ?_ ?_ (fun _ => rfl) (fun _ _ => rfl) rfl (fun _ => rfl) (fun _ => rfl) <;> (intros; rename_i h; cases h; exact ⟨_, rfl, by decide +kernel⟩)
theorem p1_isN : P1 false cn (fun x H Q => Q (.bl (decide (x = .non))) H) pIsN := by
  intro lb H x d e Q hs r h k
  have fin : ∀ c : Bool, e = .bool c → decide (x = .non) = c → Q (.bl (decide (x = .non))) H := fun c e1 e2 => by
    subst e1
    rw [e2]
    exact KV.now k (by simp only [Rep])
  cases d with
  | none => cases h; exact fin true rfl (by rw [r.none]; rfl)
  | bool b => cases h; exact fin false rfl (by rw [r.bool]; rfl)
  | int b => cases h; exact fin false rfl (by rw [r.int]; rfl)
  | str b => cases h; exact fin false rfl (by rw [r.str]; rfl)
  | tup l => cases h; obtain ⟨a, vs, rfl, _⟩ := r.tup; exact fin false rfl rfl
  | lst l => cases h; obtain ⟨a, vs, rfl, _⟩ := r.lst; exact fin false rfl rfl
  | dct l m => cases h; obtain ⟨a, vs, rfl, _⟩ := r.dct; exact fin false rfl rfl
  | _ => cases h
theorem p1_notN : P1 false cn (fun x H Q => Q (.bl (!decide (x = .non))) H) pNotN := by
  intro lb H x d e Q hs r h k
  have fin : ∀ c : Bool, e = .bool c → (!decide (x = .non)) = c → Q (.bl (!decide (x = .non))) H := fun c e1 e2 => by
    subst e1
    rw [e2]
    exact KV.now k (by simp only [Rep])
  cases d with
  | none => cases h; exact fin false rfl (by rw [r.none]; rfl)
  | bool b => cases h; exact fin true rfl (by rw [r.bool]; rfl)
  | int b => cases h; exact fin true rfl (by rw [r.int]; rfl)
  | str b => cases h; exact fin true rfl (by rw [r.str]; rfl)
  | tup l => cases h; obtain ⟨a, vs, rfl, _⟩ := r.tup; exact fin true rfl rfl
  | lst l => cases h; obtain ⟨a, vs, rfl, _⟩ := r.lst; exact fin true rfl rfl
  | dct l m => cases h; obtain ⟨a, vs, rfl, _⟩ := r.dct; exact fin true rfl rfl
  | _ => cases h
theorem p2_is2 : P2 false cn rIsB pIs2 := by
  intro lb H x y d1 d2 e Q hs r1 r2 h k
  cases d1 with
  | bool a =>
    cases d2 with
    | bool b => cases h; exact ⟨a, b, r1.bool, r2.bool, KV.now k (by simp only [Rep])⟩
    | _ => cases h
  | _ => cases d2 <;> cases h
theorem p2_isNot2 : P2 false cn rNotB pIsNot2 := by
  intro lb H x y d1 d2 e Q hs r1 r2 h k
  cases d1 with
  | bool a =>
    cases d2 with
    | bool b => cases h; exact ⟨a, b, r1.bool, r2.bool, KV.now k (by simp only [Rep])⟩
    | _ => cases h
  | _ => cases d2 <;> cases h
/-! ### lists of numbers, of truth values -/
theorem ints_rep : ∀ {l : List D} {vs : List V} {ns : List Int}, RepL cn lb H l vs → intsOf l = some ns → vs = ns.map V.int
  | [], vs, ns, r, h => by simp only [RepL] at r; cases h; rw [r]; rfl
  | d :: l, vs, ns, r, h => by
    simp only [RepL] at r
    obtain ⟨v, r', rfl, r1, r2⟩ := r
    cases d with
    | int i =>
      simp only [intsOf] at h
      cases e : intsOf l with
      | none => rw [e] at h; cases h
      | some ms =>
        rw [e] at h
        cases h
        simp only [Rep] at r1
        rw [r1, ints_rep r2 e]
        rfl
    | _ => cases h
theorem bools_rep : ∀ {l : List D} {vs : List V} {ns : List Bool}, RepL cn lb H l vs → boolsOf l = some ns → vs = ns.map V.bl
  | [], vs, ns, r, h => by simp only [RepL] at r; cases h; rw [r]; rfl
  | d :: l, vs, ns, r, h => by
    simp only [RepL] at r
    obtain ⟨v, r', rfl, r1, r2⟩ := r
    cases d with
    | bool i =>
      simp only [boolsOf] at h
      cases e : boolsOf l with
      | none => rw [e] at h; cases h
      | some ms =>
        rw [e] at h
        cases h
        simp only [Rep] at r1
        rw [r1, bools_rep r2 e]
        rfl
    | _ => cases h
theorem p1_all : P1 false cn (fun x H Q => rAll cn.K [x] H Q) pAll := by
  intro lb H x d e Q hs r h k
  cases d with
  | lst l =>
    obtain ⟨a, vs, rfl, e1, z, rl⟩ := r.lst
    simp only [pAll] at h
    cases e2 : boolsOf l with
    | none => rw [e2] at h; cases h
    | some bs =>
      rw [e2] at h
      cases h
      rw [bools_rep rl e2] at e1
      exact ⟨a, bs, rfl, .of e1, KV.now k (by simp only [Rep])⟩
  | _ => cases h
theorem p1_any : P1 false cn (fun x H Q => rAny cn.K [x] H Q) pAny := by
  intro lb H x d e Q hs r h k
  cases d with
  | lst l =>
    obtain ⟨a, vs, rfl, e1, z, rl⟩ := r.lst
    simp only [pAny] at h
    cases e2 : boolsOf l with
    | none => rw [e2] at h; cases h
    | some bs =>
      rw [e2] at h
      cases h
      rw [bools_rep rl e2] at e1
      exact ⟨a, bs, rfl, .of e1, KV.now k (by simp only [Rep])⟩
  | _ => cases h
theorem p1_sum : P1 false cn (fun x H Q => rSum cn.K [x] H Q) pSum := by
  intro lb H x d e Q hs r h k
  cases d with
  | lst l =>
    obtain ⟨a, vs, rfl, e1, z, rl⟩ := r.lst
    simp only [pSum] at h
    cases e2 : intsOf l with
    | none => rw [e2] at h; cases h
    | some bs =>
      rw [e2] at h
      cases h
      rw [ints_rep rl e2] at e1
      exact ⟨a, bs, rfl, .of e1, KV.now k (by simp only [Rep])⟩
  | _ => cases h
theorem foldMax (l : List Int) : ∀ i : Int, i ≤ l.foldl (fun a b => if a < b then b else a) i ∧ (∀ j ∈ l, j ≤ l.foldl (fun a b => if a < b then b else a) i) ∧ (l.foldl (fun a b => if a < b then b else a) i = i ∨ l.foldl (fun a b => if a < b then b else a) i ∈ l) := by
  induction l with
  | nil => intro i; exact ⟨Int.le_refl _, fun _ h => (by cases h), .inl rfl⟩
  | cons x l ih =>
    intro i
    simp only [List.foldl_cons]
    obtain ⟨h1, h2, h3⟩ := ih (if i < x then x else i)
    have hi : i ≤ (if i < x then x else i) := by split <;> omega
    have hx : x ≤ (if i < x then x else i) := by split <;> omega
    refine ⟨by omega, fun j hj => ?_, ?_⟩
    · rcases List.mem_cons.mp hj with rfl | hj
      · omega
      · exact h2 j hj
    · rcases h3 with h3 | h3
      · rw [h3]
        split
        · exact .inr List.mem_cons_self
        · exact .inl rfl
      · exact .inr (List.mem_cons_of_mem _ h3)
theorem foldMin (l : List Int) : ∀ i : Int, l.foldl (fun a b => if b < a then b else a) i ≤ i ∧ (∀ j ∈ l, l.foldl (fun a b => if b < a then b else a) i ≤ j) ∧ (l.foldl (fun a b => if b < a then b else a) i = i ∨ l.foldl (fun a b => if b < a then b else a) i ∈ l) := by
  induction l with
  | nil => intro i; exact ⟨Int.le_refl _, fun _ h => (by cases h), .inl rfl⟩
  | cons x l ih =>
    intro i
    simp only [List.foldl_cons]
    obtain ⟨h1, h2, h3⟩ := ih (if x < i then x else i)
    have hi : (if x < i then x else i) ≤ i := by split <;> omega
    have hx : (if x < i then x else i) ≤ x := by split <;> omega
    refine ⟨by omega, fun j hj => ?_, ?_⟩
    · rcases List.mem_cons.mp hj with rfl | hj
      · omega
      · exact h2 j hj
    · rcases h3 with h3 | h3
      · rw [h3]
        split
        · exact .inr List.mem_cons_self
        · exact .inl rfl
      · exact .inr (List.mem_cons_of_mem _ h3)
theorem p1_maxI : P1 false cn (fun x H Q => rMax cn.K [x] H Q) pMaxI := by
  intro lb H x d e Q hs r h k
  cases d with
  | lst l =>
    obtain ⟨a, vs, rfl, e1, z, rl⟩ := r.lst
    simp only [pMaxI] at h
    cases e2 : intsOf l with
    | none => rw [e2] at h; cases h
    | some bs =>
      rw [e2] at h
      cases bs with
      | nil => cases h
      | cons i bs =>
        simp only [maxI, Option.bind_some, Option.map_some, Option.some.injEq] at h
        subst h
        rw [ints_rep rl e2] at e1
        refine ⟨a, i :: bs, rfl, .of e1, by simp, fun m hm hy => ?_⟩
        obtain ⟨g1, g2, g3⟩ := foldMax bs i
        have em : m = bs.foldl (fun a b => if a < b then b else a) i := by
          apply Int.le_antisymm
          · rcases List.mem_cons.mp hm with rfl | hm
            · exact g1
            · exact g2 m hm
          · rcases g3 with g3 | g3
            · rw [g3]; exact hy _ List.mem_cons_self
            · exact hy _ (List.mem_cons_of_mem _ g3)
        rw [em]
        exact KV.now k (by simp only [Rep])
  | _ => cases h
theorem p1_minI : P1 false cn (fun x H Q => rMin cn.K [x] H Q) pMinI := by
  intro lb H x d e Q hs r h k
  cases d with
  | lst l =>
    obtain ⟨a, vs, rfl, e1, z, rl⟩ := r.lst
    simp only [pMinI] at h
    cases e2 : intsOf l with
    | none => rw [e2] at h; cases h
    | some bs =>
      rw [e2] at h
      cases bs with
      | nil => cases h
      | cons i bs =>
        simp only [minI, Option.bind_some, Option.map_some, Option.some.injEq] at h
        subst h
        rw [ints_rep rl e2] at e1
        refine ⟨a, i :: bs, rfl, .of e1, by simp, fun m hm hy => ?_⟩
        obtain ⟨g1, g2, g3⟩ := foldMin bs i
        have em : m = bs.foldl (fun a b => if b < a then b else a) i := by
          apply Int.le_antisymm
          · rcases g3 with g3 | g3
            · rw [g3]; exact hy _ List.mem_cons_self
            · exact hy _ (List.mem_cons_of_mem _ g3)
          · rcases List.mem_cons.mp hm with rfl | hm
            · exact g1
            · exact g2 m hm
        rw [em]
        exact KV.now k (by simp only [Rep])
  | _ => cases h
/-! ### x + y -/
def rAddA (K : PySem.W.Frag) : R2 := fun x y H Q => (rI0 (fun i j => .int (i + j)) x y H Q) ∨ ((∃ i j, x = .str i ∧ y = .str j ∧ i.length + j.length ≤ sizeLine ∧ Q (.str (i ++ j)) H) ∨ (rCat x y H Q ∨ rCatA K x y H Q))
theorem op_addA {X : Cx} : OpR X (binaryOp .Add) (rAddA X.K) := op_add.or (op_add_str.or (op_cat.or op_catA))
theorem KV.tup {d : List D} {Q : VK} (k : KV cn lb H (.tup d) Q) (hs : Has lb H) {vs : List V} {p : Addr} (np : H p = none) (r : RepL cn lb H d vs) (z : d.length ≤ SZ) : Q (.ref p) (L2.upd H p (.tup vs)) := by
  refine k _ _ (Ext.upd np) ?_
  simp only [Rep]
  exact ⟨p, vs, rfl, ⟨hs.none np, upd_same⟩, z, r.stq (.of_ext (Ext.upd np))⟩
theorem p2_add : P2 false cn (rAddA cn.K) pAdd := by
  intro lb H x y d1 d2 e Q hs r1 r2 h k
  cases d1 with
  | int i =>
    cases d2 with
    | int j => cases h; exact .inl ⟨i, j, r1.int, r2.int, KV.now k (by simp only [Rep])⟩
    | _ => cases h
  | str i =>
    cases d2 with
    | str j =>
      simp only [pAdd] at h
      split at h
      · rename_i hz
        cases h
        exact .inr (.inl ⟨i, j, r1.str, r2.str, by have := of_lim hz; rw [← SZ_eq]; exact this, KV.now k (by simp only [Rep]; rfl)⟩)
      · cases h
    | _ => cases h
  | lst l =>
    cases d2 with
    | lst m =>
      simp only [pAdd] at h
      split at h
      · rename_i hz
        cases h
        have hz := of_lim hz
        obtain ⟨a, vs, rfl, e1, z1, rl⟩ := r1.lst
        obtain ⟨c, us, rfl, e2, z2, rm⟩ := r2.lst
        refine .inr (.inr (.inl ⟨a, c, vs, us, rfl, rfl, e1, e2, by rw [← rl.length, ← rm.length, ← SZ_eq]; exact hz, fun p np => ?_⟩))
        exact KV.kf hs k p _ np ⟨vs ++ us, rfl, by rw [List.length_append]; exact hz, rl.append rm⟩
      · cases h
    | _ => cases h
  | tup l =>
    cases d2 with
    | tup m =>
      simp only [pAdd] at h
      split at h
      · rename_i hz
        cases h
        have hz := of_lim hz
        have r1' := r1
        have r2' := r2
        obtain ⟨a, vs, rfl, e1, z1, rl⟩ := r1.tup
        obtain ⟨c, us, rfl, e2, z2, rm⟩ := r2.tup
        have f1 := r1'.flat (fun _ e => nomatch e) (fun _ _ e => nomatch e)
        have f2 := r2'.flat (fun _ e => nomatch e) (fun _ _ e => nomatch e)
        refine .inr (.inr (.inr ⟨a, c, vs, us, rfl, rfl, .of e1, .of e2, by rw [← rl.length, ← rm.length, ← SZ_eq]; exact hz, fun h0 => ?_, fun _ h0 => ?_, fun _ _ p np => ?_⟩))
        · have hl : l = [] := by
            have := rl.length
            rw [h0] at this
            exact List.length_eq_zero_iff.mp this
          subst hl
          exact KV.now k f2
        · have hl : m = [] := by
            have := rm.length
            rw [h0] at this
            exact List.length_eq_zero_iff.mp this
          subst hl
          have k2 : Kt false cn lb H (.tup l) Q := by simpa using k
          exact KV.now k2 f1
        · exact KV.tup k hs np (rl.append rm) (by rw [List.length_append]; exact hz)
      · cases h
    | _ => cases h
  | _ => cases h
theorem p2_addL : P2 true cn rCat pAddL := by
  intro lb H x y d1 d2 e Q hs r1 r2 h k
  cases d1 with
  | lst l =>
    cases d2 with
    | lst m =>
      simp only [pAddL] at h
      split at h
      · rename_i hz
        cases h
        have hz := of_lim hz
        obtain ⟨a, vs, rfl, e1, z1, rl⟩ := r1.lst
        obtain ⟨c, us, rfl, e2, z2, rm⟩ := r2.lst
        refine ⟨a, c, vs, us, rfl, rfl, e1, e2, by rw [← rl.length, ← rm.length, ← SZ_eq]; exact hz, fun p np => ?_⟩
        exact (show KF cn lb H _ Q from k) p _ np ⟨vs ++ us, rfl, by rw [List.length_append]; exact hz, rl.append rm⟩
      · cases h
    | _ => cases h
  | _ => cases h
end
end Pk
/-! Br10: rules of expressions with built-ins; lists changed in place; what a loop walks; a def. -/
namespace Pk
open PySem PySem.Spec PyProof.Rows L2
section
variable {X : Cx} {b : Bd} {n : Nat}
theorem Gd.units (g : Gd n X b) : X.A.units + 65 < cLine := by have := g.room.un; omega
theorem Gd.eqD (g : Gd n X b) : OpR X (compareOp .Eq) (rEqD b.cn.K) := by rw [g.kk]; exact op_eqD (by have := g.units; omega)
theorem Gd.neD (g : Gd n X b) : OpR X (compareOp .NotEq) (rNeD b.cn.K) := by rw [g.kk]; exact op_neD (by have := g.units; omega)
theorem Gd.inD (g : Gd n X b) : OpR X (compareOp .In) (rInD b.cn.K) := by rw [g.kk]; exact op_inD g.units
theorem Gd.notInD (g : Gd n X b) : OpR X (compareOp .NotIn) (rNotInD b.cn.K) := by rw [g.kk]; exact op_notInD g.units
theorem Gd.addA (g : Gd n X b) : OpR X (binaryOp .Add) (rAddA b.cn.K) := by rw [g.kk]; exact op_addA
theorem de_ix {ea ec : Expr} {a c : Opd} {pos : Pos} (g : Gd n X b) (ha : DO X b ea a) (hc : DO X b ec c) (hs : PlainIx ec := by exact fun _ _ => rfl) : DE X b (.Subscript ea ec pos) (e2 pIx a c) :=
  PE.imp (pe_ix (by rw [g.kk]; exact ix_seq : IxR X (rIx b.cn.K)) ha.pe hc.pe hs) fun _ _ _ h => t2_run p2_ix h
/-- f(a), f(a, c) of built-in functions -/
theorem de_b1 {fresh : Bool} {x : Str} {id : String} {r : List V → Hp → VK → Prop} {p : D → Option D} {ea : Expr} {a : Opd} {q pos : Pos} (hc : CallR X (.builtin id) r) (hp : P1 fresh b.cn (fun x H Q => r [x] H Q) p) (hg : Gl X x) (hm : X.mg x = none) (hv : bootBuiltins x = some (.builtin id)) (ha : DO X b ea a)
    (hn : x ≠ "__name__" := by decide) (hdb : (x == ("__debug__" : Str)) = false := by decide) (he : starEach [ea] X.env = [(false, eval ea X.env)] := by rfl) : PE X (.Call (.Name x q) [ea] [] pos) (tK fresh b (e1 p a)) :=
  PE.imp (pe_callB hc hg hm hv (pa_cons ha.pe pa_nil he) hn hdb he rfl) fun _ _ _ h => t1_run hp h
theorem de_b2 {fresh : Bool} {x : Str} {id : String} {r : List V → Hp → VK → Prop} {p : D → D → Option D} {ea ec : Expr} {a c : Opd} {q pos : Pos} (hc : CallR X (.builtin id) r) (hp : P2 fresh b.cn (fun x y H Q => r [x, y] H Q) p) (hg : Gl X x) (hm : X.mg x = none) (hv : bootBuiltins x = some (.builtin id)) (ha : DO X b ea a) (hb : DO X b ec c)
    (hn : x ≠ "__name__" := by decide) (hdb : (x == ("__debug__" : Str)) = false := by decide) (he : starEach [ea, ec] X.env = (false, eval ea X.env) :: starEach [ec] X.env := by rfl) (he2 : starEach [ec] X.env = [(false, eval ec X.env)] := by rfl) : PE X (.Call (.Name x q) [ea, ec] [] pos) (tK fresh b (e2 p a c)) :=
  PE.imp (pe_callB hc hg hm hv (pa_cons ha.pe (pa_cons hb.pe pa_nil he2) he) hn hdb he (by rw [he2]; rfl)) fun _ _ _ h => t2_run hp h
/-- T(a) of a built-in type -/
theorem de_ty1 {fresh : Bool} {x : Str} {T : String} {r : List V → Hp → VK → Prop} {p : D → Option D} {ea : Expr} {a : Opd} {q pos : Pos} (hc : CallR X (.type T) r) (hp : P1 fresh b.cn (fun x H Q => r [x] H Q) p) (hg : Gl X x) (hm : X.mg x = none) (hv : bootBuiltins x = some (.type T)) (ha : DO X b ea a)
    (hn : x ≠ "__name__" := by decide) (hdb : (x == ("__debug__" : Str)) = false := by decide) (he : starEach [ea] X.env = [(false, eval ea X.env)] := by rfl) : PE X (.Call (.Name x q) [ea] [] pos) (tK fresh b (e1 p a)) :=
  PE.imp (pe_callTy hc hg hm hv (pa_cons ha.pe pa_nil he) hn hdb he rfl) fun _ _ _ h => t1_run hp h
/-- isinstance(a, T) -/
theorem de_isi {y : Str} {T : String} {p : D → Option D} {ea : Expr} {a : Opd} {q q2 pos : Pos} (g : Gd n X b) (hp : P1 false b.cn (fun x H Q => rIsi b.cn.K [x, .ty T] H Q) p) (hg : Gl X "isinstance") (hm : X.mg "isinstance" = none) (ha : DO X b ea a) (hgy : Gl X y) (hmy : X.mg y = none) (hvy : bootBuiltins y = some (.type T))
    (hny : y ≠ "__name__" := by decide) (hdy : (y == ("__debug__" : Str)) = false := by decide) (he : starEach [ea, .Name y q2] X.env = (false, eval ea X.env) :: starEach [.Name y q2] X.env := by rfl) : DE X b (.Call (.Name "isinstance" q) [ea, .Name y q2] [] pos) (e1 p a) :=
  PE.imp (pe_callB (by rw [g.kk]; exact call_isi : CallR X (.builtin "isinstance") (rIsi b.cn.K)) hg hm boot_isinstance (pa_cons ha.pe (pa_cons (pe_bltn hgy hmy hvy (v := .ty T) rfl hny hdy) pa_nil) he) (by decide) (by decide) he rfl) fun _ _ _ h => t1_run hp h
/-- len(a) -/
theorem de_len {ea : Expr} {a : Opd} {q pos : Pos} (g : Gd n X b) (hg : Gl X "len") (hm : X.mg "len" = none) (ha : DO X b ea a) (he : starEach [ea] X.env = [(false, eval ea X.env)] := by rfl) : DE X b (.Call (.Name "len" q) [ea] [] pos) (eLen a) := by
  refine PE.imp (pe_callB call_len_seq hg hm boot_len (pa_cons ha.pe pa_nil he) (by decide) (by decide) he rfl) fun σ H Q ⟨lb, ρ, s, o, h⟩ => ?_
  refine tOpd_run o (Post.bind h) fun x ρ1 s1 lb1 H1 v st o1 q sd => ?_
  obtain ⟨e, e1, k⟩ := opt_post o1 q
  cases e2 : look ρ1 x with
  | none => rw [e2] at e1; cases e1
  | some d =>
    rw [e2] at e1
    have rb := sd.look o1 e2
    cases d with
    | lst l =>
      cases e1
      obtain ⟨p, vs, rfl, hp, _, rl⟩ := rb.lst
      exact ⟨p, vs, rfl, .inl (.of hp), by rw [← rl.length]; exact KV.now k (by simp only [Rep])⟩
    | tup l =>
      cases e1
      obtain ⟨p, vs, rfl, hp, _, rl⟩ := rb.tup
      exact ⟨p, vs, rfl, .inr (.of hp), by rw [← rl.length]; exact KV.now k (by simp only [Rep])⟩
    | scr l =>
      cases e1
      obtain ⟨p, rfl, hp, _⟩ := rb.scr
      refine ⟨p, _, rfl, .inl (by rw [← g.kk]; exact hp), ?_⟩
      rw [List.length_map]
      exact KV.now k (by simp only [Rep])
    | town =>
      have r := rb.flat (fun _ e => nomatch e) (fun _ _ e => nomatch e)
      simp only [Rep] at r
      obtain ⟨p, rfl, lp⟩ := r
      obtain ⟨m, em, hp, _⟩ := o1.sto.town p lp
      refine ⟨p, _, rfl, .inl (.of hp), ?_⟩
      rw [List.length_replicate]
      simp only [Option.bind_some, lenOf, em, Option.map_some, Option.some.injEq] at e1
      subst e1
      exact KV.now k (by simp only [Rep])
    | _ => cases e1
/-- script == [] -/
theorem dp_ints {K : PySem.W.Frag} {H : Hp} : ∀ l : List Int, DpAll K H (l.map V.int) (l.map PyData.int)
  | [] => .nil
  | i :: l => .cons (.int i) (dp_ints l)
theorem lay_ints : ∀ l : List Int, PyData.canLayAll0 (l.map PyData.int) = true ∧ PyData.depthAll (l.map PyData.int) = 0
  | [] => ⟨by simp [PyData.canLayAll0], by simp [PyData.depthAll]⟩
  | i :: l => by
    obtain ⟨h1, h2⟩ := lay_ints l
    exact ⟨by simp [PyData.canLayAll0, PyData.canLay0, h1], by simp [PyData.depthAll, PyData.depth, h2]⟩
theorem scr0_run {a : Opd} {σ : L2.St} {H : Hp} {Q : VK} {tb : TE} (htb : ∀ σ H Q, (∀ p, H p = none → Q (.ref p) (L2.upd H p (.lst []))) → tb σ H Q) (h : tK false b (e1 pScr0 a) σ H Q) : tOp (rEqD b.cn.K) (tOpd b a) tb σ H Q := by
  obtain ⟨lb, ρ, s, o, h⟩ := h
  refine tOpd_run o (Post.bind h) fun x ρ1 s1 lb1 H1 v st o1 q sd => ?_
  obtain ⟨e, e1, k⟩ := opt_post o1 q
  cases e2 : look ρ1 x with
  | none => rw [e2] at e1; cases e1
  | some d =>
    rw [e2] at e1
    cases d with
    | scr l =>
      obtain ⟨p, rfl, hp, _⟩ := (sd.look o1 e2).scr
      simp only [Option.bind_some, pScr0, Option.some.injEq] at e1
      subst e1
      refine htb _ _ _ fun p2 np => ?_
      have hp2 : SqL b.cn.K (L2.upd H1 p2 (.lst [])) p (l.map V.int) := by
        rcases hp with hp | hp
        · rcases hp with hp | ⟨ob, hp⟩
          · exact .inl (.inl (Ext.upd np _ _ hp))
          · exact .inl (.inr ⟨ob, Ext.upd np _ _ hp⟩)
        · exact .inr hp
      obtain ⟨l1, l2⟩ := lay_ints l
      refine ⟨.list (l.map .int), .list [], .lst hp2 (dp_ints l), .lst (.of upd_same) .nil, ?_, by decide, ?_⟩
      · simp [SeqAt.shaped, PyData.canLay0, PyData.depth, l1, l2]
      · have ee : PyData.eqv (.list (l.map .int)) (.list []) = l.isEmpty := by cases l <;> simp [PyData.eqv, PyData.eqvAll]
        rw [ee]
        exact k _ _ (Ext.upd np) (by simp only [Rep])
    | _ => cases e1
theorem dt_scr0 {ea : Expr} {a : Opd} {p2 pos : Pos} (g : Gd n X b) (ha : DO X b ea a) (hm : behindInMarks .Eq (.List [] p2) = false := by rfl) : DT X b (.Compare ea [.Eq] [.List [] p2] pos) (e1 pScr0 a) :=
  PT.imp (pt_cmpR g.eqD ha.pe (pe_lst pa_nil) hm) fun σ H Q h => scr0_run (Q := fun x H' => ∃ k, x = .bl k ∧ Q k H') (fun σ H Q h => ⟨Nat.zero_le _, h⟩) (tT_test h)
/-- a is None -/
theorem isN_run {a : Opd} {σ : L2.St} {H : Hp} {Q : VK} {p : D → Option D} {f : V → Bool} (hp : P1 false b.cn (fun x H Q => Q (.bl (f x)) H) p) (h : tK false b (e1 p a) σ H Q) : tOp (fun x y H Q => y = .non ∧ Q (.bl (f x)) H) (tOpd b a) (tC .non) σ H Q :=
  show tOpd b a σ H (fun x H1 => V.non = .non ∧ Q (.bl (f x)) H1) from t1_run (r := fun x H Q => V.non = .non ∧ Q (.bl (f x)) H) (fun lb H x d e Q hs r h k => ⟨rfl, hp lb H x d e Q hs r h k⟩) h
theorem de_isN {ea : Expr} {a : Opd} {j : Nat} {p2 pos : Pos} (ha : DO X b ea a) (hm : behindInMarks .Is (.Constant .none j p2) = false := by rfl) : DE X b (.Compare ea [.Is] [.Constant .none j p2] pos) (e1 pIsN a) := PE.imp (pe_cmpR op_isN ha.pe pe_non hm) fun _ _ _ h => isN_run p1_isN h
theorem de_notN {ea : Expr} {a : Opd} {j : Nat} {p2 pos : Pos} (ha : DO X b ea a) (hm : behindInMarks .IsNot (.Constant .none j p2) = false := by rfl) : DE X b (.Compare ea [.IsNot] [.Constant .none j p2] pos) (e1 pNotN a) := PE.imp (pe_cmpR op_notN ha.pe pe_non hm) fun _ _ _ h => isN_run p1_notN h
theorem dt_isN {ea : Expr} {a : Opd} {j : Nat} {p2 pos : Pos} (ha : DO X b ea a) (hm : behindInMarks .Is (.Constant .none j p2) = false := by rfl) : DT X b (.Compare ea [.Is] [.Constant .none j p2] pos) (e1 pIsN a) := PT.imp (pt_cmpR op_isN ha.pe pe_non hm) fun σ H Q h => isN_run (Q := fun x H' => ∃ k, x = .bl k ∧ Q k H') p1_isN (tT_test h)
theorem dt_notN {ea : Expr} {a : Opd} {j : Nat} {p2 pos : Pos} (ha : DO X b ea a) (hm : behindInMarks .IsNot (.Constant .none j p2) = false := by rfl) : DT X b (.Compare ea [.IsNot] [.Constant .none j p2] pos) (e1 pNotN a) := PT.imp (pt_cmpR op_notN ha.pe pe_non hm) fun σ H Q h => isN_run (Q := fun x H' => ∃ k, x = .bl k ∧ Q k H') p1_notN (tT_test h)
/-- a[::-1] of a list -/
theorem df_revL {ea : Expr} {a : Opd} {k : Nat} {p1 p2 p3 pos : Pos} (g : Gd n X b) (ha : DO X b ea a) : DF X b (.Subscript ea (.Slice none none (some (.UnaryOp .USub (.Constant (.int 1) k p1) p2)) p3) pos) (e1 pRevL a) := by
  refine PE.imp (pe_revL ha.pe) fun σ H Q h => ?_
  refine t1_run (r := fun x H1 Q => ∃ a xs, x = .ref a ∧ SqL X.K H1 a xs ∧ ∀ p, H1 p = none → Q (.ref p) (L2.upd H1 p (.lst xs.reverse))) (fun lb H x d e Q hs r h k => ?_) h
  cases d with
  | lst l =>
    cases h
    obtain ⟨p, vs, rfl, hp, z, rl⟩ := r.lst
    exact ⟨p, vs, rfl, .of hp, fun p2 np => (show KF b.cn lb H _ Q from k) p2 _ np ⟨vs.reverse, rfl, by rw [List.length_reverse]; exact z, rl.reverse⟩⟩
  | _ => cases h

/-! ### lists changed in place -/
theorem ow_lst {lb : Lb} {ρ : Env} {s : Sto} {σ : L2.St} {H : Hp} {i : Nat} {l : List D} (o : Ok b lb ρ s σ H) (h : ρ[i]? = some (.ow (.lst l))) : ∃ a vs, σ[i]? = some (some (.ref a)) ∧ lb a = some (.loc i) ∧ H a = some (.lst vs) ∧ l.length ≤ SZ ∧ RepL b.cn lb H l vs := by
  obtain ⟨a, u, e1, l1, q, w⟩ := o.ow i _ h
  obtain ⟨vs, rfl, z, r⟩ := w
  exact ⟨a, vs, e1, l1, q, z, r⟩
theorem ds_append {x : Expr} {i : Nat} {e : Expr} {m : M D} {apos cpos pos : Pos} (hx : PE X x (tVar i)) (h : DE X b e m) (hbase : attributeBase x "append" X.env (eval x X.env) = eval x X.env := by rfl)
    (hfew : ((backTo cpos (starEach [e] X.env)).all (fun x => !x.1) && (backToKw cpos (keywordEach [] X.env)).all (fun x => x.1.isSome) && decide ([e].length + ([] : List Keyword).length + (if ([] : List Keyword).isEmpty then 0 else 1) < 30)) = true := by rfl)
    (hline : (apos.endLine == cpos.line) = true := by rfl) (hs : starEach [e] X.env = (false, eval e X.env) :: starEach [] X.env := by rfl) (hsw : swapsWith (.Call (.Attribute x "append" apos) [e] [] cpos) none pos.line X.env = pure false := by rfl) :
    DS X b (.Expr (.Call (.Attribute x "append" apos) [e] [] cpos) pos) (sAppend i m) := by
  refine PS.imp (ps_expr (pe_bm PySem.F.plainAttrs_list PySem.F.slot_list_append PySem.F.type_list_append mt_append hx (pa_cons h pa_nil hs) hbase hfew hline hs rfl) hsw) fun D σ H ⟨lb, ρ, s, o, p⟩ => ?_
  have p : SPost b D lb H (sAppend i m ρ s) := p
  unfold sAppend at p
  cases q : ρ[i]? with
  | none => rw [q] at p; exact False.elim p
  | some z =>
    cases z with
    | ow d =>
      cases d with
      | lst l =>
        simp only [q] at p
        obtain ⟨a, vs, e1, l1, h1, _, _⟩ := ow_lst o q
        refine ⟨.ref a, e1, .inl ⟨rfl, vs, .of h1⟩, lb, ρ, s, o, (SPost.bind (D := D) p).mono fun dv ρ1 s1 lb1 H1 st o1 k => fun v H2 ex r => ?_⟩
        have o2 := o1.ext ex
        have k := SPost.from k (o1.stp_ext ex)
        cases q1 : ρ1[i]? with
        | none => rw [q1] at k; exact False.elim k
        | some z =>
          cases z with
          | ow d =>
            cases d with
            | lst l =>
              simp only [q1] at k
              split at k
              · rename_i hz
                have hz := of_lim hz
                obtain ⟨a', ws, e2, l2, h2, z2, rl⟩ := ow_lst o2 q1
                rw [e1] at e2
                cases e2
                refine ⟨a, ws, v, rfl, rfl, h2, by rw [← rl.length, ← SZ_eq]; exact hz, ?_⟩
                obtain ⟨o3, st3⟩ := o2.change q1 e1 h2 (d' := .lst (l ++ [dv])) (o' := .lst (ws ++ [v])) ⟨_, rfl, by rw [List.length_append]; exact hz, rl.append (.one r)⟩
                exact k lb1 σ _ st3 o3
              · exact False.elim k
            | _ => simp only [q1] at k; exact False.elim k
          | _ => simp only [q1] at k; exact False.elim k
      | _ => simp only [q] at p; exact False.elim p
    | _ => simp only [q] at p; exact False.elim p
theorem ds_extend {x : Expr} {i : Nat} {e : Expr} {m : M D} {apos cpos pos : Pos} (hx : PE X x (tVar i)) (h : DE X b e m) (hbase : attributeBase x "extend" X.env (eval x X.env) = eval x X.env := by rfl)
    (hfew : ((backTo cpos (starEach [e] X.env)).all (fun x => !x.1) && (backToKw cpos (keywordEach [] X.env)).all (fun x => x.1.isSome) && decide ([e].length + ([] : List Keyword).length + (if ([] : List Keyword).isEmpty then 0 else 1) < 30)) = true := by rfl)
    (hline : (apos.endLine == cpos.line) = true := by rfl) (hs : starEach [e] X.env = (false, eval e X.env) :: starEach [] X.env := by rfl) (hsw : swapsWith (.Call (.Attribute x "extend" apos) [e] [] cpos) none pos.line X.env = pure false := by rfl) :
    DS X b (.Expr (.Call (.Attribute x "extend" apos) [e] [] cpos) pos) (sExtend i m) := by
  refine PS.imp (ps_expr (pe_bm PySem.F.plainAttrs_list PySem.F.slot_list_extend PySem.F.type_list_extend mt_extend hx (pa_cons h pa_nil hs) hbase hfew hline hs rfl) hsw) fun D σ H ⟨lb, ρ, s, o, p⟩ => ?_
  have p : SPost b D lb H (sExtend i m ρ s) := p
  unfold sExtend at p
  cases q : ρ[i]? with
  | none => rw [q] at p; exact False.elim p
  | some z =>
    cases z with
    | ow d =>
      cases d with
      | lst l =>
        simp only [q] at p
        obtain ⟨a, vs, e1, l1, h1, _, _⟩ := ow_lst o q
        refine ⟨.ref a, e1, .inl ⟨rfl, vs, .of h1⟩, lb, ρ, s, o, (SPost.bind (D := D) p).mono fun dv ρ1 s1 lb1 H1 st o1 k => fun v H2 ex r => ?_⟩
        have o2 := o1.ext ex
        have k := SPost.from k (o1.stp_ext ex)
        cases q1 : ρ1[i]? with
        | none => rw [q1] at k; exact False.elim k
        | some z =>
          cases z with
          | ow d =>
            cases d with
            | lst l =>
              cases dv with
              | lst m =>
                simp only [q1] at k
                split at k
                · rename_i hz
                  have hz := of_lim hz
                  obtain ⟨a', ws, e2, l2, h2, z2, rl⟩ := ow_lst o2 q1
                  rw [e1] at e2
                  cases e2
                  simp only [Rep] at r
                  obtain ⟨c, us, rfl, nl, z3, rm⟩ := r
                  refine ⟨a, c, ws, us, rfl, rfl, h2, nl.2, by rw [← rl.length, ← rm.length, ← SZ_eq]; exact hz, ?_⟩
                  obtain ⟨o3, st3⟩ := o2.change q1 e1 h2 (d' := .lst (l ++ m)) (o' := .lst (ws ++ us)) ⟨_, rfl, by rw [List.length_append]; exact hz, rl.append rm⟩
                  exact k lb1 σ _ st3 o3
                · exact False.elim k
              | _ => simp only [q1] at k; exact False.elim k
            | _ => simp only [q1] at k; exact False.elim k
          | _ => simp only [q1] at k; exact False.elim k
      | _ => simp only [q] at p; exact False.elim p
    | _ => simp only [q] at p; exact False.elim p
theorem de_pop {x : Expr} {i : Nat} {apos cpos : Pos} (hx : PE X x (tVar i)) (hbase : attributeBase x "pop" X.env (eval x X.env) = eval x X.env := by rfl) (hline : (apos.endLine == cpos.line) = true := by rfl) :
    DE X b (.Call (.Attribute x "pop" apos) [] [] cpos) (ePop i) := by
  refine PE.imp (pe_bm0 PySem.F.plainAttrs_list PySem.F.slot_list_pop PySem.F.type_list_pop mt_pop hx hbase hline) fun σ H Q ⟨lb, ρ, s, o, p⟩ => ?_
  unfold ePop at p
  cases q : ρ[i]? with
  | none => rw [q] at p; exact False.elim p
  | some z =>
    cases z with
    | ow d =>
      cases d with
      | lst l =>
        simp only [q] at p
        obtain ⟨a, vs, e1, l1, h1, z1, rl⟩ := ow_lst o q
        cases ql : l.getLast? with
        | none => rw [ql] at p; exact False.elim p
        | some dl =>
          rw [ql] at p
          have hl : l[l.length - 1]? = some dl := by rw [← List.getLast?_eq_getElem?]; exact ql
          obtain ⟨v, e2, rv⟩ := rl.get hl
          refine ⟨.ref a, e1, .inl ⟨rfl, vs, .of h1⟩, a, vs, v, rfl, rfl, h1, by rw [← rl.length]; exact e2, ?_⟩
          have ed : RepL b.cn lb H l.dropLast vs.dropLast := by
            rw [List.dropLast_eq_take, List.dropLast_eq_take, ← rl.length]
            exact rl.take _
          obtain ⟨o3, st3⟩ := o.change q e1 h1 (d' := .lst l.dropLast) (o' := .lst vs.dropLast) ⟨_, rfl, by rw [List.length_dropLast]; omega, ed⟩
          exact KV.now (show KV b.cn lb (L2.upd H a (.lst vs.dropLast)) dl Q from p lb _ st3 o3) (rv.stp st3)
      | _ => simp only [q] at p; exact False.elim p
    | _ => simp only [q] at p; exact False.elim p
end
end Pk
/-! Br11: two names at once; the town; what a loop walks; a def. -/
namespace Pk
open PySem PySem.Spec PyProof.Rows L2
section
variable {X : Cx} {b : Bd} {n : Nat}
/-- slot i gets a value, or a new thing that stands at its place already -/
theorem BOk.put {cn : Cn} {lb0 lb : Lb} {H0 H : Hp} {ρ : Env} {s : Sto} {σ : L2.St} {p : Addr} {d : D} {o : HO} (i : Nat) (k : BOk cn lb0 H0 lb ρ s σ (hid H p)) (hi : i < σ.length) (hp : H p = some o) (w : OwnO cn lb (hid H p) d o) :
    ∃ lb', BOk cn lb0 H0 lb' (ρ.set i (.ow d)) s (σ.set i (some (.ref p))) H ∧ Stp lb (hid H p) lb' H := by
  obtain ⟨k2, st⟩ := k.setOw i (by rw [k.len]; exact hi) hid_same w
  rw [upd_hid hp] at k2 st
  exact ⟨_, k2, st⟩
theorem Ext.hid {H H' : Hp} {p : Addr} (h : Ext H H') (np : H p = none) : Ext H (hid H' p) := fun a o e => by
  rw [hid_ne (by rintro rfl; rw [np] at e; cases e)]
  exact h a o e
theorem Ext.hid2 {H H' : Hp} {p : Addr} (h : Ext H H') : Ext (Pk.hid H p) (Pk.hid H' p) := fun a o e => by
  by_cases ha : a = p
  · rw [ha, hid_same] at e; cases e
  · rw [hid_ne ha] at e ⊢
    exact h a o e
theorem hid_of {H : Hp} {p q : Addr} {o : HO} (h : H p = some o) (n : p ≠ q) : hid H q p = some o := by rw [hid_ne n]; exact h
theorem par_run {f1 f2 : Bool} {i j : Nat} {m1 m2 : M D} {D : Ends} {σ : L2.St} {H : Hp} (hij : i ≠ j) (hi : i < σ.length) (hj : j < σ.length) (h : tS b (sPar f1 f2 i j m1 m2) D σ H) :
    tCons (tK f1 b m1) (tCons (tK f2 b m2) tNil) σ H fun vs H1 => ∃ v w, vs = [v, w] ∧ ∀ H3, Ext H1 H3 → D.nx ((σ.set i (some v)).set j (some w)) H3 := by
  obtain ⟨lb, ρ, s, o, h⟩ := h
  have h : SPost b D lb H ((m1 ρ s).bind fun d r s => (m2 r s).bind fun e r s => .ok .nx ((r.set i (if f1 then .ow d else .sh d)).set j (if f2 then .ow e else .sh e)) s) := h
  refine ⟨lb, ρ, s, o, ?_⟩
  cases e1 : m1 ρ s with
  | bad => rw [e1] at h; exact False.elim h
  | exc x r1 s1 => rw [e1] at h; exact fun lb' H' c d st o z => h lb' σ H' c d st o z
  | ok d1 ρ1 s1 =>
    rw [e1, R.bind_ok] at h
    intro lb1 H1 st1 o1
    have hj2 : ∀ v : Option V, j < (σ.set i v).length := fun v => by rw [List.length_set]; exact hj
    cases f1 with
    | false =>
      intro v1 H1' ex1 r1
      have o1' := o1.ext ex1
      have st1' := st1.trans (o1.stp_ext ex1)
      refine ⟨lb1, ρ1, s1, o1', ?_⟩
      cases e2 : m2 ρ1 s1 with
      | bad => rw [e2] at h; exact False.elim h
      | exc x r1 s1 => rw [e2] at h; exact fun lb' H' c d st o z => h lb' σ H' c d (st1'.trans st) o z
      | ok d2 ρ2 s2 =>
        rw [e2, R.bind_ok] at h
        intro lb2 H2 st2 o2
        cases f2 with
        | false =>
          intro v2 H2' ex2 r2
          refine ⟨v1, v2, rfl, fun H3 ex3 => ?_⟩
          have exs := ex2.trans ex3
          have o3 := o2.ext exs
          have st3 := o2.stp_ext exs
          have ra : Rep b.cn lb2 H3 d1 v1 := r1.stp (st2.trans st3)
          have rb : Rep b.cn lb2 H3 d2 v2 := r2.stp ((o2.ext ex2).stp_ext ex3)
          have o4 := o3.setSh i ra
          have o5 := o4.setSh j (rb.stp (.unl _ _ i))
          exact h _ _ _ ((st1'.trans (st2.trans st3)).trans ((Stp.unl _ _ i).trans (.unl _ _ j))) o5
        | true =>
          intro p2 ob2 np2 w2
          refine ⟨v1, .ref p2, rfl, fun H3 ex3 => ?_⟩
          have hp2 : H3 p2 = some ob2 := ex3 _ _ upd_same
          have exG : Ext H2 (hid H3 p2) := ((Ext.upd np2).trans ex3).hid np2
          have o3 := o2.ext exG
          have st3 := o2.stp_ext exG
          have ra : Rep b.cn lb2 (hid H3 p2) d1 v1 := r1.stp (st2.trans st3)
          have o4 := o3.setSh i ra
          obtain ⟨lb5, o5, st5⟩ := BOk.put j o4 (hj2 _) hp2 ((w2.stp st3).stp (.unl _ _ i))
          exact h _ _ _ ((st1'.trans (st2.trans st3)).trans ((Stp.unl _ _ i).trans st5)) o5
    | true =>
      intro p1 ob1 np1 w1
      obtain ⟨oS, stS⟩ := o1.side ob1 np1 w1.nt
      have st1' := st1.trans stS
      refine ⟨_, ρ1, s1, oS, ?_⟩
      have h0 : b.H0 p1 = none := by
        cases z : b.H0 p1 with
        | none => rfl
        | some u => exact absurd np1 (o1.since.dom p1 (by rw [z]; simp))
      have n0 : b.lb0 p1 ≠ some .out := fun z => by
        obtain ⟨u, w, _⟩ := o1.has p1 _ (o1.since.out p1 z).1
        rw [np1] at w; cases w
      cases e2 : m2 ρ1 s1 with
      | bad => rw [e2] at h; exact False.elim h
      | exc x r1 s1 => rw [e2] at h; exact fun lb' H' c d st o z => h lb' σ H' c d (st1'.trans st) o z
      | ok d2 ρ2 s2 =>
        rw [e2, R.bind_ok] at h
        intro lb2 H2 st2 o2
        obtain ⟨lp, hp⟩ := st2.out p1 mrk_same
        rw [upd_same] at hp
        have oG := o2.gone lp n0 h0
        have wG : OwnO b.cn (unm lb2 p1) (hid H2 p1) d1 ob1 := (w1.stp (stS.trans st2)).stq (.gone lp)
        have stG : Stp lb1 H1 (unm lb2 p1) (hid H2 p1) := (stS.trans st2).goneNew np1 o1.has lp
        cases f2 with
        | false =>
          intro v2 H2' ex2 r2
          refine ⟨.ref p1, v2, rfl, fun H3 ex3 => ?_⟩
          have exs := ex2.trans ex3
          have hp3 : H3 p1 = some ob1 := exs _ _ hp
          have exG : Ext (hid H2 p1) (hid H3 p1) := exs.hid2
          obtain ⟨lb4, o4, st4⟩ := BOk.put i (oG.ext exG) hi hp3 (wG.stp (oG.stp_ext exG))
          have rb : Rep b.cn lb2 H3 d2 v2 := r2.stp ((o2.ext ex2).stp_ext ex3)
          have rc : Rep b.cn lb4 H3 d2 v2 := rb.stq ((Stq.gone lp).trans st4.q)
          have o5 := o4.setSh j rc
          exact h _ _ _ ((st1.trans (stG.trans ((oG.stp_ext exG).trans st4))).trans (.unl _ _ j)) o5
        | true =>
          intro p2 ob2 np2 w2
          refine ⟨.ref p1, .ref p2, rfl, fun H3 ex3 => ?_⟩
          have hp2 : H3 p2 = some ob2 := ex3 _ _ upd_same
          have ex23 : Ext H2 (hid H3 p2) := ((Ext.upd np2).trans ex3).hid np2
          have hp3 : hid H3 p2 p1 = some ob1 := ex23 _ _ hp
          have exG : Ext (hid H2 p1) (hid (hid H3 p2) p1) := ex23.hid2
          obtain ⟨lb4, o4, st4⟩ := BOk.put i (oG.ext exG) hi hp3 (wG.stp (oG.stp_ext exG))
          have wc : OwnO b.cn lb4 (hid H3 p2) d2 ob2 := (w2.stq (.of_ext ex23)).stq ((Stq.gone lp).trans st4.q)
          obtain ⟨lb5, o5, st5⟩ := BOk.put j o4 (hj2 _) hp2 wc
          exact h _ _ _ ((st1.trans (stG.trans ((oG.stp_ext exG).trans st4))).trans st5) o5
theorem tK_mono {f : Bool} {m : M D} {σ : L2.St} {H : Hp} {Q Q' : VK} (h : tK f b m σ H Q) (hq : ∀ v H, Q v H → Q' v H) : tK f b m σ H Q' := by
  obtain ⟨lb, ρ, s, o, p⟩ := h
  refine ⟨lb, ρ, s, o, p.mono fun d ρ s lb' H' _ _ k => ?_⟩
  cases f with
  | true => exact fun p o np w => hq _ _ (k p o np w)
  | false => exact fun v H2 ex r => hq _ _ (k v H2 ex r)
theorem tA2_mono {f1 f2 : Bool} {m1 m2 : M D} {σ : L2.St} {H : Hp} {Q Q' : List V → Hp → Prop} (h : tCons (tK f1 b m1) (tCons (tK f2 b m2) tNil) σ H Q) (hq : ∀ v w H, Q [v, w] H → Q' [v, w] H) : tCons (tK f1 b m1) (tCons (tK f2 b m2) tNil) σ H Q' :=
  tK_mono h fun v H1 z2 => tK_mono z2 fun w H2 k => hq v w H2 k
/-- x, y = a, c: two plain local names -/
theorem ds_par {f1 f2 : Bool} {i j : Nat} {x y : Str} {ea ec : Expr} {m1 m2 : M D} {px py pt pos pt2 : Pos} {kt k2 : Nat} (g : Gd n X b) (hi : X.N[i]? = some x) (hj : X.N[j]? = some y) (hij : i ≠ j)
    (hx : X.env.scope.names.lookup x = some .local) (hy : X.env.scope.names.lookup y = some .local) (ha : PE X ea (tK f1 b m1)) (hc : PE X ec (tK f2 b m2))
    (hw : swappedStores [.Tuple [.Name x px, .Name y py] kt pt] (.Tuple [ea, ec] k2 pt2) X.env = pure (some [x, y]))
    (hs : swapsWithSole [.Tuple [.Name x px, .Name y py] kt pt] (.Tuple [ea, ec] k2 pt2) pos.line X.env = pure false := by rfl)
    (h1 : starEach [ea, ec] X.env = (false, eval ea X.env) :: starEach [ec] X.env := by rfl) (h2 : starEach [ec] X.env = (false, eval ec X.env) :: starEach [] X.env := by rfl) :
    DS X b (.Assign [.Tuple [.Name x px, .Name y py] kt pt] (.Tuple [ea, ec] k2 pt2) pos) (sPar f1 f2 i j m1 m2) := by
  refine ⟨fun pins s σ H D I q => (ps_par g.calm g.nd hi hj hij hx hy (pa_cons ha (pa_cons hc pa_nil h2) h1) hw hs).run pins s σ H D I ?_⟩
  have li : i < σ.length := by rw [I.len]; exact (List.getElem?_eq_some_iff.mp hi).1
  have lj : j < σ.length := by rw [I.len]; exact (List.getElem?_eq_some_iff.mp hj).1
  exact tA2_mono (par_run hij li lj q) fun v w H1 ⟨v', w', e, k⟩ => ⟨v', w', e, k H1 .refl⟩
end
end Pk
/-! Br12: several names at once, the town, what a loop walks, a def. -/
namespace Pk
open PySem PySem.Spec PyProof.Rows L2
section
variable {X : Cx} {b : Bd} {n : Nat}
/-- x, y = a, c by a tuple (a name that a comprehension reads) -/
theorem ds_parC {f1 f2 : Bool} {i j : Nat} {x y : Str} {ea ec : Expr} {m1 m2 : M D} {px py pt pos pt2 : Pos} {kt k2 : Nat} (g : Gd n X b) (hi : X.N[i]? = some x) (hj : X.N[j]? = some y) (hij : i ≠ j)
    (hx : Loc X.env.scope x) (hy : Loc X.env.scope y) (ha : PE X ea (tK f1 b m1)) (hc : PE X ec (tK f2 b m2))
    (hw : swappedStores [.Tuple [.Name x px, .Name y py] kt pt] (.Tuple [ea, ec] k2 pt2) X.env = pure none := by rfl)
    (hs : swapsWithSole [.Tuple [.Name x px, .Name y py] kt pt] (.Tuple [ea, ec] k2 pt2) pos.line X.env = pure false := by rfl)
    (h1 : starEach [ea, ec] X.env = (false, eval ea X.env) :: starEach [ec] X.env := by rfl) (h2 : starEach [ec] X.env = (false, eval ec X.env) :: starEach [] X.env := by rfl)
    (h3 : (assignEach [.Tuple [.Name x px, .Name y py] kt pt] X.env).map (·.2) = [assign (.Tuple [.Name x px, .Name y py] kt pt) X.env] := by rfl)
    (hn : (assignEach [.Name x px, .Name y py] X.env).length = 2 := by rfl) (hst : (assignEach [.Name x px, .Name y py] X.env).findIdx? (·.1) = none := by rfl)
    (hf : X.fn x = true ∨ X.env.scope.names.lookup x = some .local := by first | exact .inl rfl | exact .inr rfl | assumption) (hf2 : X.fn y = true ∨ X.env.scope.names.lookup y = some .local := by first | exact .inl rfl | exact .inr rfl | assumption)
    (h4 : (assignEach [.Name x px, .Name y py] X.env).map (·.2) = assign (.Name x px) X.env :: (assignEach [.Name y py] X.env).map (·.2) := by rfl) (h5 : (assignEach [.Name y py] X.env).map (·.2) = assign (.Name y py) X.env :: (assignEach [] X.env).map (·.2) := by rfl) :
    DS X b (.Assign [.Tuple [.Name x px, .Name y py] kt pt] (.Tuple [ea, ec] k2 pt2) pos) (sPar f1 f2 i j m1 m2) := by
  refine ⟨fun pins s σ H D I q => (ps_asg (pe_tup (pa_cons ha (pa_cons hc pa_nil h2) h1)) (pg_tup g.calm (pgs_cons (pg_name g.nd hi hx hf) (pgs_cons (pg_name g.nd hj hy hf2) pgs_nil h5) h4) hn hst) hs hw h3).run pins s σ H D I ?_⟩
  have li : i < σ.length := by rw [I.len]; exact (List.getElem?_eq_some_iff.mp hi).1
  have lj : j < σ.length := by rw [I.len]; exact (List.getElem?_eq_some_iff.mp hj).1
  show tCons (tK f1 b m1) (tCons (tK f2 b m2) tNil) σ H fun xs H1 => xs.length ≤ sizeLine ∧ ∀ p, H1 p = none → gTup X.K 2 (gCons (gName i) (gCons (gName j) gNil)) (.ref p) σ (L2.upd H1 p (.tup xs)) D.nx
  refine tA2_mono (par_run hij li lj q) fun v w H1 ⟨v', w', e, k⟩ => ?_
  cases e
  refine ⟨by show 2 ≤ sizeLine; decide, fun p np => ⟨p, [v, w], rfl, .of upd_same, rfl, v, [w], rfl, w, [], rfl, rfl, k _ (Ext.upd np)⟩⟩
/-- several values at once, by a tuple -/
theorem setAll_run : ∀ {σ : L2.St} {lb : Lb} {H : Hp} {ρ : Env} {s : Sto} {ds : List Pk.D} {vs : List V} {is : List Nat}, is.length = ds.length → Ok b lb ρ s σ H → RepL b.cn lb H ds vs → ∃ lb', Stp lb H lb' H ∧ Ok b lb' (setAll ρ is ds) s (is.zip vs |>.foldl (fun σ p => σ.set p.1 (some p.2)) σ) H
  | σ, lb, H, ρ, s, [], vs, [], _, o, r => by
    simp only [RepL] at r
    subst r
    exact ⟨lb, .refl, o⟩
  | σ, lb, H, ρ, s, d :: ds, vs, i :: is, hl, o, r => by
    simp only [RepL] at r
    obtain ⟨v, vr, rfl, r1, r2⟩ := r
    obtain ⟨lb', st, o'⟩ := setAll_run (is := is) (by simpa using hl) (o.setSh i r1) (r2.stp (.unl _ _ i))
    exact ⟨lb', (Stp.unl _ _ i).trans st, o'⟩
  | σ, lb, H, ρ, s, [], vs, _ :: _, hl, o, r => by simp at hl
  | σ, lb, H, ρ, s, _ :: _, vs, [], hl, o, r => by simp at hl
theorem ds_parV {is : List Nat} {es tgs : List Expr} {ms : List (M D)} {px pos pt2 : Pos} {kt k2 : Nat} (g : Gd n X b) (ha : DA X b es ms)
    (hg : PG X (.Tuple tgs kt px) (gTup X.K is.length fun vs σ H Q => ∃ h : vs.length = is.length, Q (is.zip vs |>.foldl (fun σ p => σ.set p.1 (some p.2)) σ) H)) (hl : is.length = ms.length) (hz : ms.length ≤ SZ := by decide)
    (hw : swappedStores [.Tuple tgs kt px] (.Tuple es k2 pt2) X.env = pure none := by rfl) (hs : swapsWithSole [.Tuple tgs kt px] (.Tuple es k2 pt2) pos.line X.env = pure false := by rfl)
    (h3 : (assignEach [.Tuple tgs kt px] X.env).map (·.2) = [assign (.Tuple tgs kt px) X.env] := by rfl) :
    DS X b (.Assign [.Tuple tgs kt px] (.Tuple es k2 pt2) pos) (sParV is ms) := by
  refine PS.imp (ps_asg (pe_tup ha) hg hs hw h3) fun D σ H ⟨lb, ρ, s, o, h⟩ => ?_
  have h : SPost b D lb H ((eL ms ρ s).bind fun ds r s => .ok .nx (setAll r is ds) s) := h
  refine ⟨lb, ρ, s, o, tAL_len (SPost.bind (D := D) h) fun ds ρ1 s1 lb1 H1 hn st o1 q => fun vs H2 ex r => ?_⟩
  have hv : vs.length ≤ sizeLine := by rw [← r.length, hn, ← SZ_eq]; exact hz
  refine ⟨hv, fun a na => ⟨a, vs, rfl, .of upd_same, by rw [← r.length, hn, hl], by rw [← r.length, hn, hl], ?_⟩⟩
  have ex2 : Ext H1 (L2.upd H2 a (.tup vs)) := ex.trans (Ext.upd na)
  have o2 := o1.ext ex2
  obtain ⟨lb', st', o'⟩ := setAll_run (is := is) (by rw [hl, hn]) o2 (r.stp ((o1.ext ex).stp_ext (Ext.upd na)))
  exact q lb' _ _ ((o1.stp_ext ex2).trans st') o'
/-- .. the targets: names -/
theorem pg_names {kt : Nat} {px : Pos} {tgs : List Expr} {is : List Nat} (g : Gd n X b) (h : PGs X tgs fun vs σ H Q => ∃ h : vs.length = is.length, Q (is.zip vs |>.foldl (fun σ p => σ.set p.1 (some p.2)) σ) H)
    (hn : (assignEach tgs X.env).length = is.length := by rfl) (hst : (assignEach tgs X.env).findIdx? (·.1) = none := by rfl) :
    PG X (.Tuple tgs kt px) (gTup X.K is.length fun vs σ H Q => ∃ h : vs.length = is.length, Q (is.zip vs |>.foldl (fun σ p => σ.set p.1 (some p.2)) σ) H) := pg_tup g.calm h hn hst
theorem pgn_nil : PGs X [] fun vs σ H Q => ∃ h : vs.length = ([] : List Nat).length, Q (([] : List Nat).zip vs |>.foldl (fun σ p => σ.set p.1 (some p.2)) σ) H :=
  PGs.imp pgs_nil fun vs σ H Q ⟨h, q⟩ => ⟨List.length_eq_zero_iff.mp h, q⟩
theorem pgn_cons {x : Str} {i : Nat} {px : Pos} {tgs : List Expr} {is : List Nat} (g : Gd n X b) (hi : X.N[i]? = some x) (hx : Loc X.env.scope x) (h : PGs X tgs fun vs σ H Q => ∃ h : vs.length = is.length, Q (is.zip vs |>.foldl (fun σ p => σ.set p.1 (some p.2)) σ) H)
    (hf : X.fn x = true ∨ X.env.scope.names.lookup x = some .local := by first | exact .inl rfl | exact .inr rfl | assumption) (h4 : (assignEach (.Name x px :: tgs) X.env).map (·.2) = assign (.Name x px) X.env :: (assignEach tgs X.env).map (·.2) := by rfl) :
    PGs X (.Name x px :: tgs) fun vs σ H Q => ∃ h : vs.length = (i :: is).length, Q ((i :: is).zip vs |>.foldl (fun σ p => σ.set p.1 (some p.2)) σ) H :=
  PGs.imp (pgs_cons (pg_name g.nd hi hx hf) h h4) fun vs σ H Q ⟨hl, q⟩ => by
    cases vs with
    | nil => simp at hl
    | cons v vs => exact ⟨v, vs, rfl, by simpa using hl, q⟩
/-- x, y = e -/
theorem ds_asg {tg e : Expr} {gt : Tg} {m : M D} {pos : Pos} (hg : DG X b tg gt) (h : DE X b e m) (hs : swapsWithSole [tg] e pos.line X.env = pure false := by rfl) (hw : swappedStores [tg] e X.env = pure none := by rfl)
    (h1 : (assignEach [tg] X.env).map (·.2) = [assign tg X.env] := by rfl) : DS X b (.Assign [tg] e pos) (sAsg gt m) := PS.imp (ps_asg h hg hs hw h1) fun D σ H ⟨lb, ρ, s, o, h⟩ => by
  have h : SPost b D lb H ((m ρ s).bind fun d r s => (opt (setT r gt d) r s).bind fun r1 r s => .ok .nx r1 s) := h
  refine ⟨lb, ρ, s, o, (SPost.bind (D := D) h).mono fun d ρ1 s1 lb1 H1 st o1 q => fun v H2 ex r => ?_⟩
  cases e : setT ρ1 gt d with
  | none => rw [e] at q; exact False.elim q
  | some ρ2 =>
    rw [e] at q
    exact ⟨lb1, ρ1, s1, d, ρ2, o1.ext ex, r, e, fun lb' σ' st' o' _ => q lb' σ' H2 ((o1.stp_ext ex).trans st') o'⟩
/-! ### the town -/
theorem BOk.town0 {cn : Cn} {lb0 lb : Lb} {H0 H : Hp} {ρ : Env} {s : Sto} {σ : L2.St} {p : Addr} (o : BOk cn lb0 H0 lb ρ s σ H) (i : Nat) (np : H p = none) (ht : s.t = none) :
    ∃ lb', Stp lb H lb' (L2.upd H p (.lst [])) ∧ BOk cn lb0 H0 lb' (ρ.set i (.sh .town)) { s with t := some 0 } (σ.set i (some (.ref p))) (L2.upd H p (.lst [])) := by
  have lp : lb p = none := Has.none o.has np
  have ne : ∀ a l, lb a = some l → a ≠ p := fun a l e z => by rw [z, lp] at e; cases e
  have st : Stp lb H (mrk lb p .town) (L2.upd H p (.lst [])) :=
    { keep := fun a o e n => Ext.upd np a o e
      out := fun a e => ⟨by rw [mrk_ne (ne a _ e)]; exact e, by rw [upd_ne (ne a _ e)]⟩
      new := fun a h => by
        by_cases ha : a = p
        · rw [ha]; exact .inr np
        · rw [mrk_ne ha] at h; exact .inl h
      sto := fun a l e z => by rw [mrk_ne (ne a l e)]; exact e
      dom := fun a e => by
        cases q : H a with
        | none => exact absurd q e
        | some u => rw [Ext.upd np a u q]; simp }
  have back : ∀ a l, mrk lb p .town a = some l → l ≠ .town → lb a = some l ∧ a ≠ p := fun a l e z => by
    by_cases ha : a = p
    · rw [ha, mrk_same] at e
      exact absurd (Option.some.inj e).symm z
    · rw [mrk_ne ha] at e
      exact ⟨e, ha⟩
  have notown : ∀ a, lb a ≠ some .town := fun a e => by
    obtain ⟨m, em, _⟩ := o.sto.town a e
    rw [ht] at em; cases em
  have only : ∀ a, mrk lb p .town a = some .town → a = p := fun a e => by
    refine Classical.byContradiction fun ha => ?_
    rw [mrk_ne ha] at e
    exact notown a e
  have sto : StoOk cn (mrk lb p .town) { s with t := some 0 } (L2.upd H p (.lst [])) :=
    { town := fun a e => by
        rw [only a e]
        exact ⟨0, rfl, upd_same, Nat.zero_le _⟩
      objs := fun m fs e => by
        obtain ⟨a, dx, fv, l1, l2, h1, h2, w⟩ := o.sto.objs m fs e
        exact ⟨a, dx, fv, st.sto a _ l1 rfl, st.sto dx _ l2 rfl, by rw [upd_ne (ne a _ l1)]; exact h1, by rw [upd_ne (ne dx _ l2)]; exact h2, FldOk.stp st.q (fun a l e _ => by rw [upd_ne (ne a l e)]) w⟩
      uniq := fun a c l h1 h2 z => by
        by_cases hl : l = .town
        · subst hl
          rw [only a h1, only c h2]
        · exact o.sto.uniq a c l (back a l h1 hl).1 (back c l h2 hl).1 z
      dom := fun a m f e => o.sto.dom a m f (e.imp (fun e => (back a _ e (by intro z; cases z)).1) (Or.imp (fun e => (back a _ e (by intro z; cases z)).1) (fun e => (back a _ e (by intro z; cases z)).1)))
      tabs := fun n q e => by
        obtain ⟨h1, h2⟩ := o.sto.tabs n q e
        exact ⟨st.sto _ _ h1 rfl, h2.stq st.q (by rw [upd_ne (ne _ _ h1)])⟩ }
  have o2 : BOk cn lb0 H0 (mrk lb p .town) ρ { s with t := some 0 } σ (L2.upd H p (.lst [])) := by
    refine ⟨o.since.trans st, sto, fun a l e => ?_, o.len, fun j e h => ?_, fun j e h => ?_, fun a j h => o.lc a j (back a _ h (by intro z; cases z)).1⟩
    · by_cases ha : a = p
      · exact ⟨_, by rw [ha, upd_same], by exact trivial⟩
      · rw [mrk_ne ha] at e
        obtain ⟨u, q, t⟩ := o.has a l e
        exact ⟨u, by rw [upd_ne ha]; exact q, t⟩
    · obtain ⟨u, e1, q⟩ := o.sh j e h
      exact ⟨u, e1, q.stp st⟩
    · obtain ⟨a, o', e1, l, q, w⟩ := o.ow j e h
      exact ⟨a, o', e1, by rw [mrk_ne (ne a _ l)]; exact l, by rw [upd_ne (ne a _ l)]; exact q, w.stp st⟩
  have r : Rep cn (mrk lb p .town) (L2.upd H p (.lst [])) .town (.ref p) := by simp only [Rep]; exact ⟨p, rfl, mrk_same⟩
  exact ⟨_, st.trans (.unl _ _ i), o2.setSh i r⟩
/-- town = [] -/
theorem ds_town0 {i : Nat} {x : Str} {p2 pos pos' : Pos} (g : Gd n X b) (hi : X.N[i]? = some x) (hx : Loc X.env.scope x) (hs : swapsWith (.List [] p2) (some (.Name x pos')) pos.line X.env = pure false := by rfl)
    (hf : X.fn x = true ∨ X.env.scope.names.lookup x = some .local := by first | exact .inl rfl | exact .inr rfl | assumption) : DS X b (.Assign [.Name x pos'] (.List [] p2) pos) (sTown0 i) := PS.imp (ps_set g.nd hi hx (pe_lst pa_nil) hs hf) fun D σ H ⟨lb, ρ, s, o, h⟩ => by
  have h : SPost b D lb H (sTown0 i ρ s) := h
  unfold sTown0 at h
  cases e : s.t with
  | some m => rw [e] at h; exact False.elim h
  | none =>
    rw [e] at h
    refine ⟨Nat.zero_le _, fun p np => ?_⟩
    obtain ⟨lb', st, o'⟩ := o.town0 i np e
    exact h lb' _ _ st o'
theorem BOk.townUp {cn : Cn} {lb0 lb : Lb} {H0 H : Hp} {ρ : Env} {s : Sto} {σ : L2.St} {p : Addr} {m : Nat} (o : BOk cn lb0 H0 lb ρ s σ H) (lp : lb p = some .town) (ht : s.t = some m) (hm : m < SZ) :
    BOk cn lb0 H0 lb ρ { s with t := some (m + 1) } σ (L2.upd H p (.lst (List.replicate m (.int 0) ++ [.int 0]))) ∧ Stp lb H lb (L2.upd H p (.lst (List.replicate m (.int 0) ++ [.int 0]))) := by
  have ne : ∀ x l', lb x = some l' → l' ≠ .town → x ≠ p := fun x l' e n z => by rw [z, lp] at e; exact n (Option.some.inj e).symm
  have st : Stp lb H lb (L2.upd H p (.lst (List.replicate m (.int 0) ++ [.int 0]))) :=
    { keep := fun x u h n => by rw [upd_ne (by rintro rfl; rw [lp] at n; cases n)]; exact h
      out := fun x h => ⟨h, by rw [upd_ne (ne x _ h (by intro z; cases z))]⟩
      new := fun _ h => .inl h
      sto := fun _ _ h _ => h
      dom := fun x h => by
        by_cases hx : x = p
        · rw [hx, upd_same]; simp
        · rw [upd_ne hx]; exact h }
  have sto : StoOk cn lb { s with t := some (m + 1) } (L2.upd H p (.lst (List.replicate m (.int 0) ++ [.int 0]))) :=
    { town := fun a e => by
        rw [o.sto.uniq a p _ e lp rfl]
        exact ⟨m + 1, rfl, by rw [upd_same, List.replicate_succ'], hm⟩
      objs := fun k fs e => by
        obtain ⟨a, dx, fv, l1, l2, h1, h2, w⟩ := o.sto.objs k fs e
        refine ⟨a, dx, fv, l1, l2, by rw [upd_ne (ne a _ l1 (by intro z; cases z))]; exact h1, by rw [upd_ne (ne dx _ l2 (by intro z; cases z))]; exact h2, ?_⟩
        have fl : ∀ {fs : List (Str × Pk.D)} {fv : List (Str × V)}, FldOk cn lb H k fs fv → FldOk cn lb (L2.upd H p (.lst (List.replicate m (.int 0) ++ [.int 0]))) k fs fv := by
          intro fs
          induction fs with
          | nil => intro fv h; exact h
          | cons q fs ih =>
            intro fv h
            obtain ⟨f, d⟩ := q
            obtain ⟨v, r, e, h1, h2⟩ := h
            refine ⟨v, r, e, ?_, ih h2⟩
            unfold FOk at h1 ⊢
            cases d with
            | lst l =>
              obtain ⟨q, u, e, lq, hq, w⟩ := h1
              exact ⟨q, u, e, lq, by rw [upd_ne (ne q _ lq (by intro z; cases z))]; exact hq, w.stp st⟩
            | _ => exact Rep.stp st h1
        exact fl w
      uniq := o.sto.uniq
      dom := o.sto.dom
      tabs := fun n q e => by
        obtain ⟨h1, h2⟩ := o.sto.tabs n q e
        exact ⟨h1, h2.stq st.q (by rw [upd_ne (ne _ _ h1 (by intro z; cases z))])⟩ }
  refine ⟨⟨o.since.trans st, sto, fun x l' e => ?_, o.len, fun j u h => ?_, fun j u h => ?_, o.lc⟩, st⟩
  · by_cases hx : x = p
    · exact ⟨_, by rw [hx, upd_same], by exact trivial⟩
    · obtain ⟨u, q, t⟩ := o.has x l' e
      exact ⟨u, by rw [upd_ne hx]; exact q, t⟩
  · obtain ⟨u, e1, q⟩ := o.sh j u h
    exact ⟨u, e1, q.stp st⟩
  · obtain ⟨x, u, e1, l', q, w⟩ := o.ow j u h
    exact ⟨x, u, e1, l', by rw [upd_ne (ne x _ l' (by intro z; cases z))]; exact q, w.stp st⟩
/-- town.append(0) -/
theorem ds_town {x : Expr} {i j : Nat} {p2 apos cpos pos : Pos} (hx : PE X x (tVar i)) (hbase : attributeBase x "append" X.env (eval x X.env) = eval x X.env := by rfl)
    (hfew : ((backTo cpos (starEach [.Constant (.int 0) j p2] X.env)).all (fun x => !x.1) && (backToKw cpos (keywordEach [] X.env)).all (fun x => x.1.isSome) && decide ([Expr.Constant (.int 0) j p2].length + ([] : List Keyword).length + (if ([] : List Keyword).isEmpty then 0 else 1) < 30)) = true := by rfl)
    (hline : (apos.endLine == cpos.line) = true := by rfl) (hsw : swapsWith (.Call (.Attribute x "append" apos) [.Constant (.int 0) j p2] [] cpos) none pos.line X.env = pure false := by rfl) :
    DS X b (.Expr (.Call (.Attribute x "append" apos) [.Constant (.int 0) j p2] [] cpos) pos) (sTown i) := by
  refine PS.imp (ps_expr (pe_bm PySem.F.plainAttrs_list PySem.F.slot_list_append PySem.F.type_list_append mt_append hx (pa_cons pe_int pa_nil) hbase hfew hline rfl rfl) hsw) fun D σ H ⟨lb, ρ, s, o, p⟩ => ?_
  have p : SPost b D lb H (sTown i ρ s) := p
  unfold sTown at p
  cases q : ρ[i]? with
  | none => rw [q] at p; exact False.elim p
  | some z =>
    cases z with
    | sh d =>
      cases d with
      | town =>
        simp only [q] at p
        cases e : s.t with
        | none => rw [e] at p; exact False.elim p
        | some m =>
          simp only [e] at p
          split at p
          · rename_i hz
            have hz := of_lim hz
            obtain ⟨v, e1, r⟩ := o.sh i _ q
            simp only [Rep] at r
            obtain ⟨a, rfl, la⟩ := r
            obtain ⟨m', em, ha, _⟩ := o.sto.town a la
            rw [e] at em
            cases em
            obtain ⟨o', st⟩ := o.townUp la e hz
            exact ⟨.ref a, e1, .inl ⟨rfl, _, .of ha⟩, a, _, .int 0, rfl, rfl, ha, by rw [List.length_replicate, ← SZ_eq]; exact hz, p lb σ _ st o'⟩
          · exact False.elim p
      | _ => simp only [q] at p; exact False.elim p
    | _ => simp only [q] at p; exact False.elim p
end
end Pk
/-! Br13: what a loop walks; a def. -/
namespace Pk
open PySem PySem.Spec PyProof.Rows L2
theorem PI.imp {X : Cx} {tg e : Expr} {t t' : TI} (h : PI X tg e t) (f : ∀ σ H R, t' σ H R → t σ H R) : PI X tg e t' := ⟨fun pins s σ H R I q => h.run pins s σ H R I (f σ H R q)⟩
section
variable {X : Cx} {b : Bd} {n : Nat} {tg : Expr}
/-- a list, a tuple, a text: by the value that comes -/
def iAny (K : PySem.W.Frag) (tl : TE) : TI := fun σ H R => tl σ H fun x H1 =>
  (∃ a, x = .ref a ∧ (∃ xs, SqL K H1 a xs) ∧ R (Itl K a) H1) ∨ (∃ a, x = .ref a ∧ (∃ xs, SqT K H1 a xs) ∧ R (Itt K a) H1) ∨ ∃ y, x = .str y ∧ R (Its y) H1
theorem pi_any {l : Expr} {tl : TE} (hl : PE X l tl) : PI X tg l (iAny X.K tl) := by
  refine ⟨fun pins s σ H R I h => thn (hl.run pins s σ H _ I h) fun v s1 z => ?_⟩
  obtain ⟨x, H1, I1, r1, q1⟩ := z
  have own : ∀ c : Addr, c ∈ [s1.heap.objs.size] → FpOk X pins H1 c := fun c hc => by
    rw [List.mem_singleton.mp hc]
    exact I1.fpOk (Nat.le_refl _) (I1.hok.fresh (Nat.le_refl _))
  rcases q1 with ⟨a, rfl, ⟨xs, hq⟩, q⟩ | ⟨a, rfl, ⟨xs, hq⟩, q⟩ | ⟨y, rfl, q⟩
  · cases r1
    obtain ⟨its, _, p, _⟩ := I1.list hq
    exact wpAny_pyIter_list p.isList ⟨_, _, _, _, H1, rfl, I1.kept (t' := s1.toks) fun c o e => Heap.get?_push_of_some _ e, turn_list a _, ⟨_, Heap.get?_push_size _ rfl, rfl, rfl⟩, own, q⟩
  · cases r1
    obtain ⟨its, _, p, _⟩ := I1.tuple hq
    exact wpAny_pyIter_tuple (show s1.heap.IsTuple a its.toArray from p) ⟨_, _, _, _, H1, rfl, I1.kept (t' := s1.toks) fun c o e => Heap.get?_push_of_some _ e, turn_tuple a _, ⟨_, Heap.get?_push_size _ rfl, rfl, rfl⟩, own, q⟩
  · obtain ⟨t, rfl⟩ := r1
    cases ha : y.cps.all (· < 128)
    · exact wpAny_pyIter_wide ha ⟨_, _, _, _, H1, rfl, I1.kept (t' := s1.toks) fun c o e => Heap.get?_push_of_some _ e, turn_str _ y t "str_iterator" (.inr rfl), ⟨_, Heap.get?_push_size _ rfl, rfl, rfl⟩, own, q⟩
    · exact wpAny_pyIter_ascii ha ⟨_, _, _, _, H1, rfl, I1.kept (t' := s1.toks) fun c o e => Heap.get?_push_of_some _ e, turn_str _ y t "str_ascii_iterator" (.inl rfl), ⟨_, Heap.get?_push_size _ rfl, rfl, rfl⟩, own, q⟩
theorem itOk_l {cn : Cn} {lb : Lb} {H : Hp} {K : PySem.W.Frag} {a : Addr} {l : List D} {vs : List V} (nl : NL lb H a vs) (r : RepL cn lb H l vs) : ItOk cn lb H l (Itl K a) := fun lb' H' s => by
  have nl' := nl.stq s
  have r' := r.stq s
  refine ⟨⟨vs, .of nl'.2, by rw [r.length]; exact Nat.le_refl _⟩, fun i d h => ?_⟩
  obtain ⟨v, e, rv⟩ := r'.get h
  refine ⟨⟨vs, v, .of nl'.2, e⟩, fun x H2 y => ?_⟩
  obtain ⟨rfl, y⟩ := y
  have := y vs (.of nl'.2)
  rw [e] at this
  cases this
  exact ⟨.refl, fun _ => rv⟩
theorem itOk_t {cn : Cn} {lb : Lb} {H : Hp} {K : PySem.W.Frag} {a : Addr} {l : List D} {vs : List V} (nl : NT lb H a vs) (r : RepL cn lb H l vs) : ItOk cn lb H l (Itt K a) := fun lb' H' s => by
  have nl' := nl.stq s
  have r' := r.stq s
  refine ⟨⟨vs, .of nl'.2, by rw [r.length]; exact Nat.le_refl _⟩, fun i d h => ?_⟩
  obtain ⟨v, e, rv⟩ := r'.get h
  refine ⟨⟨vs, v, .of nl'.2, e⟩, fun x H2 y => ?_⟩
  obtain ⟨rfl, y⟩ := y
  have := y vs (.of nl'.2)
  rw [e] at this
  cases this
  exact ⟨.refl, fun _ => rv⟩
theorem itOk_s {cn : Cn} {lb : Lb} {H : Hp} (x : Str) : ItOk cn lb H (x.cps.toList.map fun c => .str ⟨#[c]⟩) (Its x) := fun lb' H' s => by
  refine ⟨by show x.cps.size ≤ _; rw [List.length_map]; exact Nat.le_refl _, fun i d h => ?_⟩
  rw [List.getElem?_map] at h
  cases e : x.cps.toList[i]? with
  | none => rw [e] at h; cases h
  | some c =>
    rw [e] at h
    cases h
    have hi : i < x.cps.size := (List.getElem?_eq_some_iff.mp e).1
    refine ⟨hi, fun y H2 z => ?_⟩
    obtain ⟨rfl, c', e2, rfl⟩ := z
    have : c' = c := by
      rw [Array.getElem?_toList] at e
      rw [e] at e2
      exact (Option.some.inj e2).symm
    subst this
    exact ⟨.refl, fun _ => by simp only [Rep]⟩
theorem di_any {l : Expr} {m : M D} (g : Gd n X b) (h : DE X b l m) : DI X b tg l (iOf m) := by
  refine PI.imp (pi_any h) fun σ H R ⟨lb, ρ, s, o, h⟩ => ⟨lb, ρ, s, o, (Post.bind h).mono fun d ρ1 s1 lb1 H1 st o1 q => fun v H2 ex r => ?_⟩
  have o2 := o1.ext ex
  obtain ⟨ds, e1, k⟩ := opt_post o2 (Post.from q (o1.stp_ext ex))
  cases d with
  | lst l =>
    cases e1
    simp only [Rep] at r
    obtain ⟨a, vs, rfl, nl, z, rl⟩ := r
    exact .inl ⟨a, rfl, ⟨vs, .of nl.2⟩, k z _ H2 .refl (itOk_l nl rl)⟩
  | tup l =>
    cases e1
    simp only [Rep] at r
    obtain ⟨a, vs, rfl, nl, z, rl⟩ := r
    exact .inr (.inl ⟨a, rfl, ⟨vs, .of nl.2⟩, k z _ H2 .refl (itOk_t nl rl)⟩)
  | str y =>
    simp only [itemsOf] at e1
    split at e1
    · rename_i hz
      cases e1
      simp only [Rep] at r
      subst r
      exact .inr (.inr ⟨y, rfl, k (by simpa using of_lim hz) _ H2 .refl (itOk_s y)⟩)
    · cases e1
  | _ => cases e1
theorem itOk_r {cn : Cn} {lb : Lb} {H : Hp} (lo : Int) (m : Nat) : ItOk cn lb H (upto lo m) (Itr lo m) := fun lb' H' s => by
  unfold upto
  refine ⟨by show m ≤ _; rw [List.length_map, List.length_range]; exact Nat.le_refl _, fun i d h => ?_⟩
  rw [List.getElem?_map] at h
  cases e : (List.range m)[i]? with
  | none => rw [e] at h; cases h
  | some c =>
    rw [e] at h
    cases h
    obtain ⟨hi, e2⟩ := List.getElem?_eq_some_iff.mp e
    rw [List.length_range] at hi
    rw [List.getElem_range] at e2
    subst e2
    refine ⟨hi, fun y H2 z => ?_⟩
    obtain ⟨rfl, rfl⟩ := z
    exact ⟨.refl, fun _ => by simp only [Rep]⟩
theorem di_range1 {e : Expr} {m : M D} {p pos : Pos} (hg : Gl X "range") (hm : X.mg "range" = none) (h : DE X b e m) (hs : starEach [e] X.env = [(false, eval e X.env)] := by rfl) : DI X b tg (.Call (.Name "range" p) [e] [] pos) (iRange1 m) := by
  refine PI.imp (pi_range1 hg hm (pa_cons h pa_nil hs) hs) fun σ H R ⟨lb, ρ, s, o, h⟩ => ⟨lb, ρ, s, o, (Post.bind h).mono fun d ρ1 s1 lb1 H1 st o1 q => fun v H2 ex r => ?_⟩
  have o2 := o1.ext ex
  have q := Post.from q (o1.stp_ext ex)
  cases d with
  | int j =>
    simp only [Rep] at r
    subst r
    simp only at q
    split at q
    · rename_i hj
      simp only [small, Bool.and_eq_true, lim_iff] at hj
      refine ⟨j, rfl, hj.1.1, hj.1.2, q lb1 H2 .refl o2 ?_ _ H2 .refl (itOk_r 0 j.toNat)⟩
      simp only [upto, List.length_map, List.length_range]
      omega
    · exact False.elim q
  | _ => exact False.elim q
theorem di_range2 {e f : Expr} {m k : M D} {p pos : Pos} (hg : Gl X "range") (hm : X.mg "range" = none) (h : DE X b e m) (h2 : DE X b f k) (hs : starEach [e, f] X.env = [(false, eval e X.env), (false, eval f X.env)] := by rfl) (hs2 : starEach [f] X.env = [(false, eval f X.env)] := by rfl) :
    DI X b tg (.Call (.Name "range" p) [e, f] [] pos) (iRange2 m k) := by
  refine PI.imp (pi_range2 hg hm (pa_cons h (pa_cons h2 pa_nil hs2) (by rw [hs, hs2])) hs hs2) fun σ H R ⟨lb, ρ, s, o, h⟩ => ⟨lb, ρ, s, o, (Post.bind h).mono fun d ρ1 s1 lb1 H1 st o1 q => fun v H2 ex r => ?_⟩
  refine ⟨lb1, ρ1, s1, o1.ext ex, (Post.bind (Post.from q (o1.stp_ext ex))).mono fun d2 ρ3 s3 lb3 H3 st3 o3 q3 => fun v3 H4 ex4 r4 => ?_⟩
  have o4 := o3.ext ex4
  have q := Post.from q3 (o3.stp_ext ex4)
  cases d with
  | int i =>
    cases d2 with
    | int j =>
      simp only [Rep] at r r4
      subst r r4
      simp only at q
      split at q
      · rename_i hj
        simp only [small, Bool.and_eq_true, lim_iff] at hj
        refine ⟨i, j, rfl, ⟨hj.1.1.1, hj.1.1.2, hj.1.2.1, hj.1.2.2⟩, q lb3 H4 .refl o4 ?_ _ H4 .refl (itOk_r i (j - i).toNat)⟩
        simp only [upto, List.length_map, List.length_range]
        omega
      · exact False.elim q
    | _ => exact False.elim q
  | _ => exact False.elim q
theorem tup2_new {cn : Cn} {lb : Lb} {H : Hp} {T : Addr} {d e : D} {x y : V} (hs : Has lb H) (nT : H T = none) (r1 : Rep cn lb H d x) (r2 : Rep cn lb H e y) : Rep cn lb (L2.upd H T (.tup [x, y])) (.tup [d, e]) (.ref T) := by
  have st : Stq lb H lb (L2.upd H T (.tup [x, y])) := .of_ext (Ext.upd nT)
  simp only [Rep]
  exact ⟨T, [x, y], rfl, ⟨hs.none nT, upd_same⟩, by show 2 ≤ SZ; decide, .cons (r1.stq st) (.one (r2.stq st))⟩
theorem itOk_e {cn : Cn} {lb : Lb} {H : Hp} {K : PySem.W.Frag} {a : Addr} {l : List D} {vs : List V} (nl : NL lb H a vs) (r : RepL cn lb H l vs) : ItOk cn lb H (numbered l) (Ite K a) := fun lb' H' s => by
  have nl' := nl.stq s
  have r' := r.stq s
  refine ⟨⟨vs, .of nl'.2, by rw [← r.length]; simp [numbered]⟩, fun i d h => ?_⟩
  simp only [numbered, List.getElem?_map] at h
  cases e : (List.range l.length)[i]? with
  | none => rw [e] at h; cases h
  | some c =>
    rw [e] at h
    obtain ⟨hi, e2⟩ := List.getElem?_eq_some_iff.mp e
    rw [List.length_range] at hi
    rw [List.getElem_range] at e2
    subst e2
    have hd : l[i]? = some l[i] := List.getElem?_eq_getElem hi
    obtain ⟨v, ev, rv⟩ := r'.get hd
    have h : D.tup [.int (i : Int), l.getD i .none] = d := Option.some.inj h
    rw [List.getD_eq_getElem?_getD, hd] at h
    subst h
    refine ⟨⟨vs, v, .of nl'.2, ev⟩, fun x H2 y => ?_⟩
    obtain ⟨T, x', rfl, nT, rfl, y⟩ := y
    have := y vs (.of nl'.2)
    rw [ev] at this
    cases this
    exact ⟨Ext.upd nT, fun hs => tup2_new hs nT (by simp only [Rep]) rv⟩
theorem di_enumL {e : Expr} {m : M D} {elts : List Expr} {kk : Nat} {p pos tpos : Pos} (hg : Gl X "enumerate") (hm : X.mg "enumerate" = none) (h : DE X b e m) (hs : starEach [e] X.env = [(false, eval e X.env)] := by rfl) :
    DI X b (.Tuple elts kk tpos) (.Call (.Name "enumerate" p) [e] [] pos) (iEnumL m) := by
  refine PI.imp (pi_enum hg hm (pa_cons h pa_nil hs) hs) fun σ H R ⟨lb, ρ, s, o, h⟩ => ⟨lb, ρ, s, o, (Post.bind h).mono fun d ρ1 s1 lb1 H1 st o1 q => fun v H2 ex r => ?_⟩
  have o2 := o1.ext ex
  have q := Post.from q (o1.stp_ext ex)
  cases d with
  | lst l =>
    simp only [Rep] at r
    obtain ⟨a, vs, rfl, nl, z, rl⟩ := r
    exact ⟨a, vs, rfl, .of nl.2, q lb1 H2 .refl o2 (by simpa [numbered] using z) _ H2 .refl (itOk_e nl rl)⟩
  | _ => exact False.elim q

/-! ### a def -/
/-- no frame's own marks at the end -/
def dl (lb : Lb) : Lb := fun a => match lb a with
  | some (.loc _) => none
  | x => x
theorem dl_loc {lb : Lb} {a : Addr} {i : Nat} (h : lb a = some (.loc i)) : dl lb a = none := by unfold dl; rw [h]
theorem dl_ne {lb : Lb} {a : Addr} (h : ∀ i, lb a ≠ some (.loc i)) : dl lb a = lb a := by
  unfold dl
  cases q : lb a with
  | none => rfl
  | some l =>
    cases l with
    | loc i => exact absurd q (h i)
    | _ => rfl
theorem of_dl {lb : Lb} {a : Addr} {l : Lab} (h : dl lb a = some l) : lb a = some l ∧ l.isLoc = false := by
  rcases unrel_case lb a with ⟨i, q⟩ | q
  · rw [dl_loc q] at h; cases h
  · rw [dl_ne q] at h
    refine ⟨h, ?_⟩
    cases l with
    | loc i => exact absurd h (q i)
    | _ => rfl
theorem Stp.dl (lb : Lb) (H : Hp) : Stp lb H (dl lb) H where
  keep := fun _ _ h _ => h
  out := fun a h => ⟨by rw [dl_ne (by rintro i e; rw [h] at e; cases e)]; exact h, rfl⟩
  new := fun a h => by
    cases q : Pk.dl lb a with
    | none => exact absurd q h
    | some l => exact .inl (by rw [(of_dl q).1]; simp)
  sto := fun a l h i => by rw [dl_ne (by rintro j e; rw [h] at e; cases e; cases i)]; exact h
  dom := fun _ h => h
theorem BOk.leave {cn : Cn} {lb0 lb : Lb} {H0 H : Hp} {ρ : Env} {s : Sto} {σ : L2.St} (o : BOk cn lb0 H0 lb ρ s σ H) : EOk cn (dl lb) s H :=
  ⟨o.sto.stp (Stp.dl lb H).q (fun _ _ _ _ => rfl) (fun _ _ e _ => (of_dl e).1), fun a l e => o.has a l (of_dl e).1, fun a l e => (of_dl e).2⟩
theorem startL_get {k : Nat} {ds : List D} {i : Nat} {z : Sl} (h : (startL k ds)[i]? = some z) : (∃ d, ds[i]? = some d ∧ z = .sh d) ∨ z = .no := by
  unfold startL at h
  by_cases hi : i < ds.length
  · rw [List.getElem?_append_left (by simpa using hi), List.getElem?_map, List.getElem?_eq_getElem hi] at h
    cases h
    exact .inl ⟨_, List.getElem?_eq_getElem hi, rfl⟩
  · rw [List.getElem?_append_right (by simpa using hi), List.getElem?_replicate] at h
    split at h
    · cases h; exact .inr rfl
    · cases h
theorem EOk.start {cn : Cn} {lb : Lb} {H : Hp} {s : Sto} {ds : List D} {vs : List V} {N : List Str} (e : EOk cn lb s H) (r : RepL cn lb H ds vs) (hl : vs.length ≤ N.length) : BOk cn lb H lb (startL N.length ds) s (L2.start N vs) H := by
  refine ⟨.refl, e.sto, e.has, ?_, fun i d h => ?_, fun i d h => ?_, fun a i h => ?_⟩
  · have := r.length
    simp only [startL, L2.start, List.length_append, List.length_map, List.length_replicate]
    omega
  · rcases startL_get h with ⟨d', e1, e2⟩ | e2
    · cases e2
      obtain ⟨v, e3, rv⟩ := r.get e1
      refine ⟨v, ?_, rv⟩
      have hi : i < vs.length := (List.getElem?_eq_some_iff.mp e3).1
      unfold L2.start
      rw [List.getElem?_append_left (by simpa using hi), List.getElem?_map, e3]
      rfl
    · cases e2
  · rcases startL_get h with ⟨d', e1, e2⟩ | e2 <;> cases e2
  · have := e.nl a _ h
    cases this
theorem fn_ok {P : Program} {w : World} {mg : Str → Option Value} {base : Heap} {x qual : Str} {params : Arguments} {body : List Stmt} {scope : Scope} {dvs : List V} {kws : List (Str × V)} {f : Addr} {fd : FuncData} {N ps : List Str} {k : Nat} {cn : Cn} {m : S}
    (F : FunD cn.K x qual params body scope dvs kws f fd) (S : FnScope N ps scope)
    (hb : ∀ (cdv : Value) (A : Around) (outer : List PySem.Env) (s : Shared) (H : Hp) (E : XK) (c : Bd), c.cn = cn → Gd k (cxOf (L2.CX P w) P w cn.K mg base N qual scope f cdv A outer s H E) c → DSs (cxOf (L2.CX P w) P w cn.K mg base N qual scope f cdv A outer s H E) c body m) :
    FnOk P w cn.K mg base (L2.CX P w) (k + 1) f fd ps (spOf cn (fnOf ps.length N.length m)) := by
  have hpl : ps.length ≤ N.length := by have := congrArg List.length S.pre; rw [List.length_take] at this; omega
  refine F.ok S (fun vs H Q E h => ?_) fun cdv A outer s H vs Q E hr h => ?_
  · obtain ⟨lb, st, ds, eo, r, h⟩ := h
    unfold fnOf at h
    by_cases hl : ds.length = ps.length
    · rw [← r.length]; exact hl
    · rw [if_neg hl] at h; exact False.elim h
  · obtain ⟨lb, st, ds, eo, r, h⟩ := h
    unfold fnOf at h
    by_cases hl : ds.length = ps.length
    · rw [if_pos hl] at h
      let c : Bd := ⟨cn, lb, H, fun cls dx _ H' => E cls dx H'⟩
      have tk : Takes (cxOf (L2.CX P w) P w cn.K mg base N qual scope f cdv A outer s H E) c.W := takes_of rfl rfl rfl rfl
      have g : Gd k (cxOf (L2.CX P w) P w cn.K mg base N qual scope f cdv A outer s H E) c := ⟨rfl, rfl, S.nd, tk, hr, passes_of rfl⟩
      refine ⟨_, hb cdv A outer s H E c rfl g, lb, startL N.length ds, st, eo.start r (by rw [← r.length, hl]; exact hpl), ?_⟩
      cases e : m (startL N.length ds) st with
      | bad => rw [e] at h; exact h
      | exc z ρ1 s1 =>
        rw [e] at h
        exact fun lb' σ' H' cls dx st' o' xr => h (dl lb') H' cls dx (st'.trans (.dl _ _)) o'.leave (xr.stp (.dl _ _))
      | ok fl ρ1 s1 =>
        rw [e] at h
        cases fl with
        | nx => exact fun lb' σ' H' st' o' => h (dl lb') H' .non (st'.trans (.dl _ _)) o'.leave (by simp only [Rep])
        | rt d => exact fun lb' σ' H' st' o' v rv => h (dl lb') H' v (st'.trans (.dl _ _)) o'.leave (rv.stp (.dl _ _))
        | bk => exact False.elim h
        | ct => exact False.elim h
    · rw [if_neg hl] at h; exact False.elim h
end
end Pk
/-! Br14: short forms for the printed derivations. -/
namespace Pk
open PySem PySem.Spec PyProof.Rows L2
/-- a def of the text that keeps its promise: dv the defaults that fill up -/
def FnG (cn : Cn) (P : Program) (w : World) (mg : Str → Option Value) (base : Heap) (k : Nat) (x : Str) (F : Fn) (dv : List D) : Prop :=
  ∃ (f : Addr) (fd : FuncData) (ps : List Str) (dsv : List Value) (dvs : List V), FnOk P w cn.K mg base (L2.CX P w) k f fd ps (spOf cn F) ∧ mg x = some (.ref f) ∧ PySem.W.keepIn cn.K (.ref f) = true ∧ Binds cn.K fd ps dsv ∧ Vals dvs dsv ∧ ∀ lb H, RepL cn lb H dv dvs
theorem fn_okF {P : Program} {w : World} {mg : Str → Option Value} {base : Heap} {x qual : Str} {params : Arguments} {body : List Stmt} {scope : Scope} {dvs : List V} {kws : List (Str × V)} {f : Addr} {fd : FuncData} {N ps : List Str} {k p q : Nat} {cn : Cn} {m : S} {Fp : Fn}
    (F : FunD cn.K x qual params body scope dvs kws f fd) (S : FnScope N ps scope) (hp : ps.length = p) (hq : N.length = q) (hF : Fp = fnOf p q m)
    (hb : ∀ (cdv : Value) (A : Around) (outer : List PySem.Env) (s : Shared) (H : Hp) (E : XK) (c : Bd), c.cn = cn → Gd k (cxOf (L2.CX P w) P w cn.K mg base N qual scope f cdv A outer s H E) c → DSs (cxOf (L2.CX P w) P w cn.K mg base N qual scope f cdv A outer s H E) c body m) :
    FnOk P w cn.K mg base (L2.CX P w) (k + 1) f fd ps (spOf cn Fp) := by
  subst hF hp hq
  exact fn_ok F S hb
section
variable {X : Cx} {b : Bd} {n : Nat}
theorem do_v {e : Expr} {m : M D} (h : DE X b e m) : DO X b e (.v m) := h
theorem do_b {e : Expr} {i : Nat} (h : PE X e (tVar i)) : DO X b e (.b i) := h
theorem tK_f {m : M D} {σ : L2.St} {H : Hp} {Q : VK} (h : tK false b m σ H Q) : tK true b m σ H Q := by
  obtain ⟨lb, ρ, s, o, p⟩ := h
  exact ⟨lb, ρ, s, o, p.mono fun d ρ s lb' H' _ o' q => Kt.kf o'.has q⟩
theorem de_callG {k : Nat} {F : Fn} {dv : List D} {x : Str} {p pos : Pos} {e : Expr} {es : List Expr} {ms : List (M D)} {P : Program} {w : World} {mg : Str → Option Value} {base : Heap} (g : Gd n X b) (G : FnG b.cn P w mg base k x F dv) (hk : k ≤ n) (hP : X.prog = P) (hw : X.w = w) (hm : X.mg = mg) (hb : X.base = base)
    (hg : Gl X x) (ha : DA X b (e :: es) ms) (hdb : (x == ("__debug__" : Str)) = false := by decide) (he : starEach (e :: es) X.env = (false, eval e X.env) :: starEach es X.env := by rfl) (hpl : (backTo pos (starEach es X.env)).any (·.1) = false := by rfl) :
    DE X b (.Call (.Name x p) (e :: es) [] pos) (eCall F ms dv) := by
  subst hP hw hm hb
  obtain ⟨f, fd, ps, dsv, dvs, F1, F2, F3, F4, F5, F6⟩ := G
  rw [g.kk] at F1 F3 F4
  exact de_call g F1 hk hg F2 F3 F4 F5 F6 ha hdb he hpl
theorem de_gi {x : Str} {i : Int} {pos : Pos} {mg : Str → Option Value} (hm : X.mg = mg) (hg : Gl X x) (h : ∃ t, mg x = some (.int i t)) (hd : (x == ("__debug__" : Str)) = false := by decide) : DE X b (.Name x pos) (eC (.int i)) := by
  subst hm
  obtain ⟨t, h⟩ := h
  exact de_c (pe_glob hg h (v := .int i) ⟨t, rfl⟩ hd) fun _ _ => by simp only [Rep]
theorem de_gs {x z : Str} {pos : Pos} {mg : Str → Option Value} (hm : X.mg = mg) (hg : Gl X x) (h : ∃ t, mg x = some (.str z t)) (hd : (x == ("__debug__" : Str)) = false := by decide) : DE X b (.Name x pos) (eC (.str z)) := by
  subst hm
  obtain ⟨t, h⟩ := h
  exact de_c (pe_glob hg h (v := .str z) ⟨t, rfl⟩ hd) fun _ _ => by simp only [Rep]
/-- name = [..] on one line -/
theorem ds_setLc {f : Bool} {i : Nat} {y : Str} {py : Pos} {elt tg iter : Expr} {ifs : List Expr} {scope : Scope} {own : List (Str × Nat)} {pos spos : Pos} {it : It} {gt : Tg} {c e : M D} (g : Gd n X b) (hy : X.N[i]? = some y) (hyl : X.env.scope.names.lookup y = some .local)
    (hi : DI X b tg iter it) (ok : BlkOk X.N X.env.scope scope own)
    (hg : ∀ (s : Shared) (H : Hp) (C : Addr) (cl : List (Str × Addr)) (fp : List Addr), Gd n (X.blk s H scope (compEnvC scope cl C X.env) fp) b.in → DG (X.blk s H scope (compEnvC scope cl C X.env) fp) b.in tg gt)
    (ht : ∀ (s : Shared) (H : Hp) (C : Addr) (cl : List (Str × Addr)) (fp : List Addr), Gd n (X.blk s H scope (compEnvC scope cl C X.env) fp) b.in → DTs (X.blk s H scope (compEnvC scope cl C X.env) fp) b.in ifs c)
    (he : ∀ (s : Shared) (H : Hp) (C : Addr) (cl : List (Str × Addr)) (fp : List Addr), Gd n (X.blk s H scope (compEnvC scope cl C X.env) fp) b.in → DE (X.blk s H scope (compEnvC scope cl C X.env) fp) b.in elt e)
    (hsw : swapsWith (.ListComp elt [⟨tg, iter, ifs, 0⟩] scope pos) (some (.Name y py)) spos.line X.env = pure true)
    (hsl : ∀ i ∈ gt.slots, i ∈ own.map (·.2) := by decide) (hs : ∀ x, foldedSetIterable iter X.env x = pure x := by intro _; rfl) :
    DS X b (.Assign [.Name y py] (.ListComp elt [⟨tg, iter, ifs, 0⟩] scope pos) spos) (sSet f i (eComp it gt (own.map (·.2)) c e)) := by
  refine ⟨fun pins s σ H D I q => (ps_setLc g.calm g.nd hy hyl hsw hi ok (fun s H C cl fp => hg s H C cl fp (g.blk ..)) (fun s H C cl fp => ht s H C cl fp (g.blk ..)) (fun s H C cl fp => he s H C cl fp (g.blk ..)) hs).run pins s σ H D I ?_⟩
  refine comp_run hsl (Q := fun x H1 => gName i x σ H1 D.nx) ?_
  cases f with
  | true => exact setF_run (by rw [I.len]; exact (List.getElem?_eq_some_iff.mp hy).1) q
  | false => exact tK_f (set_run q)
end
end Pk
/-! Br15: more built-ins. -/
namespace Pk
open PySem PySem.Spec PyProof.Rows L2
section
variable {X : Cx} {b : Bd} {n : Nat} {cn : Cn}
theorem Gd.all (g : Gd n X b) : CallR X (.builtin "all") (rAll b.cn.K) := by rw [g.kk]; exact cr_all g.calm
theorem Gd.any (g : Gd n X b) : CallR X (.builtin "any") (rAny b.cn.K) := by rw [g.kk]; exact cr_any g.calm
theorem Gd.sum (g : Gd n X b) : CallR X (.builtin "sum") (rSum b.cn.K) := by rw [g.kk]; exact cr_sum g.calm
theorem Gd.maxI (g : Gd n X b) : CallR X (.builtin "max") (rMax b.cn.K) := by rw [g.kk]; exact cr_max g.calm
theorem Gd.minI (g : Gd n X b) : CallR X (.builtin "min") (rMin b.cn.K) := by rw [g.kk]; exact cr_min g.calm
abbrev rTupOf (K : PySem.W.Frag) : List V → Hp → VK → Prop := fun xs H Q => ∃ p ys, xs = [.ref p] ∧ ((SqL K H p ys ∧ ∀ l, H l = none → Q (.ref l) (L2.upd H l (.tup ys))) ∨ (SqT K H p ys ∧ Q (.ref p) H))
abbrev rLstOf (K : PySem.W.Frag) : List V → Hp → VK → Prop := fun xs H Q => ∃ p ys, xs = [.ref p] ∧ (SqL K H p ys ∨ SqT K H p ys) ∧ ∀ l, H l = none → Q (.ref l) (L2.upd H l (.lst ys))
theorem Gd.tuple (g : Gd n X b) : CallR X (.type "tuple") (rTupOf b.cn.K) := by rw [g.kk]; exact call_tuple_of
theorem Gd.list (g : Gd n X b) : CallR X (.type "list") (rLstOf b.cn.K) := by rw [g.kk]; exact call_list_of
theorem Gd.repT (g : Gd n X b) : OpR X (binaryOp .Mult) (rRepT b.cn.K) := by rw [g.kk]; exact op_repT
theorem p1_tuple : P1 false cn (fun x H Q => rTupOf cn.K [x] H Q) pTup := by
  intro lb H x d e Q hs r h k
  cases d with
  | lst l =>
    cases h
    obtain ⟨a, vs, rfl, e1, z, rl⟩ := r.lst
    exact ⟨a, vs, rfl, .inl ⟨.of e1, fun p np => KV.tup k hs np rl z⟩⟩
  | tup l =>
    cases h
    have r' := r.flat (fun _ e => nomatch e) (fun _ _ e => nomatch e)
    obtain ⟨a, vs, rfl, e1, z, rl⟩ := r.tup
    exact ⟨a, vs, rfl, .inr ⟨.of e1, KV.now k r'⟩⟩
  | _ => cases h
theorem p1_list : P1 true cn (fun x H Q => rLstOf cn.K [x] H Q) pList := by
  intro lb H x d e Q hs r h k
  have k : KF cn lb H e Q := k
  cases d with
  | lst l =>
    cases h
    obtain ⟨a, vs, rfl, e1, z, rl⟩ := r.lst
    exact ⟨a, vs, rfl, .inl (.of e1), fun p np => k p _ np ⟨vs, rfl, z, rl⟩⟩
  | tup l =>
    cases h
    obtain ⟨a, vs, rfl, e1, z, rl⟩ := r.tup
    exact ⟨a, vs, rfl, .inr (.of e1), fun p np => k p _ np ⟨vs, rfl, z, rl⟩⟩
  | _ => cases h
theorem RepL.reps {lb : Lb} {H : Hp} {l : List D} {vs : List V} (r : RepL cn lb H l vs) : ∀ m : Nat, RepL cn lb H (List.replicate m l).flatten (List.replicate m vs).flatten
  | 0 => .nil
  | m + 1 => by
    rw [List.replicate_succ, List.replicate_succ, List.flatten_cons, List.flatten_cons]
    exact r.append (RepL.reps r m)
theorem reps_len (l : List D) (m : Nat) : (List.replicate m l).flatten.length = m * l.length := by
  induction m with
  | zero => simp
  | succ m ih => rw [List.replicate_succ, List.flatten_cons, List.length_append, ih, Nat.succ_mul]; omega
theorem p2_repL : P2 true cn rRep pRepL := by
  intro lb H x y d1 d2 e Q hs r1 r2 h k
  have k : KF cn lb H e Q := k
  cases d1 with
  | lst l =>
    cases d2 with
    | int j =>
      simp only [pRepL] at h
      split at h
      · rename_i hz
        have hz := of_lim hz
        cases h
        obtain ⟨a, vs, rfl, e1, z1, rl⟩ := r1.lst
        refine ⟨a, j, vs, rfl, r2.int, e1, hz.1, hz.2.1, by rw [← rl.length, ← SZ_eq]; exact hz.2.2, fun p np => ?_⟩
        exact k p _ np ⟨_, rfl, by rw [reps_len, Nat.mul_comm]; exact hz.2.2, rl.reps _⟩
      · cases h
    | _ => cases h
  | _ => cases h
theorem p2_repT : P2 false cn (rRepT cn.K) pRepT := by
  intro lb H x y d1 d2 e Q hs r1 r2 h k
  cases d1 with
  | tup l =>
    cases d2 with
    | int j =>
      simp only [pRepT] at h
      split at h
      · rename_i hz
        have hz := of_lim hz
        cases h
        obtain ⟨a, vs, rfl, e1, z1, rl⟩ := r1.tup
        refine ⟨a, j, vs, rfl, r2.int, .of e1, fun e => hz.1 ?_, hz.2.1, hz.2.2.1, by rw [← rl.length]; exact hz.2.2.2, fun p np => KV.tup k hs np (rl.reps _) ?_⟩
        · have := rl.length
          rw [e] at this
          exact List.length_eq_zero_iff.mp this
        · rw [reps_len]
          have h1 : j.toNat ≤ 1000 := by have := hz.2.2.1; omega
          calc j.toNat * l.length ≤ 1000 * 1000 := Nat.mul_le_mul h1 hz.2.2.2
            _ ≤ SZ := by decide
      · cases h
    | _ => cases h
  | _ => cases h
/-- x, y, z = a, b, c: plain local names -/
theorem ds_parV3 {i j l : Nat} {x y z : Str} {ea eb ec : Expr} {ms : List (M D)} {px py pz pt pos pt2 : Pos} {kt k2 : Nat} (g : Gd n X b) (hi : X.N[i]? = some x) (hj : X.N[j]? = some y) (hl : X.N[l]? = some z) (hd : i ≠ j ∧ i ≠ l ∧ j ≠ l)
    (hx : X.env.scope.names.lookup x = some .local) (hy : X.env.scope.names.lookup y = some .local) (hz : X.env.scope.names.lookup z = some .local) (ha : DA X b [ea, eb, ec] ms)
    (hw : swappedStores [.Tuple [.Name x px, .Name y py, .Name z pz] kt pt] (.Tuple [ea, eb, ec] k2 pt2) X.env = pure (some [x, y, z]))
    (hs : swapsWithSole [.Tuple [.Name x px, .Name y py, .Name z pz] kt pt] (.Tuple [ea, eb, ec] k2 pt2) pos.line X.env = pure false := by rfl) (hm : ms.length = 3 := by rfl) :
    DS X b (.Assign [.Tuple [.Name x px, .Name y py, .Name z pz] kt pt] (.Tuple [ea, eb, ec] k2 pt2) pos) (sParV [i, j, l] ms) := by
  refine PS.imp (ps_par3 g.calm g.nd hi hj hl hd.1 hd.2.1 hd.2.2 hx hy hz ha hw hs) fun D σ H ⟨lb, ρ, s, o, h⟩ => ?_
  have h : SPost b D lb H ((eL ms ρ s).bind fun ds r s => .ok .nx (setAll r [i, j, l] ds) s) := h
  refine ⟨lb, ρ, s, o, tAL_len (SPost.bind (D := D) h) fun ds ρ1 s1 lb1 H1 hn st o1 q => fun vs H2 ex r => ?_⟩
  have o2 := o1.ext ex
  obtain ⟨lb', st', o'⟩ := setAll_run (is := [i, j, l]) (by rw [hn, hm]; rfl) o2 r
  have k := q lb' _ _ ((o1.stp_ext ex).trans st') o'
  have hv : vs.length = 3 := by rw [← r.length, hn, hm]
  match vs, hv with
  | [u, v, w], _ => exact ⟨u, v, w, rfl, k⟩
end
end Pk
/-! Br16: the law's def at its entry. -/
namespace Pk
open PySem PySem.Spec PyProof.Rows L2
theorem eok_empty {cn : Cn} {H : Hp} (ht : cn.tb = []) : EOk cn (fun _ => none) ⟨none, []⟩ H where
  sto := ⟨fun a e => (by cases e), fun n fs e => (by simp at e), fun a b l e => (by cases e), fun a n f e => (by rcases e with e | e | e <;> cases e), fun n p e => by rw [ht] at e; simp at e⟩
  has := fun a l e => by cases e
  nl := fun a l e => by cases e
theorem sp_law {cn : Cn} {F : Fn} {n : Nat} (ht : cn.tb = []) (hn : n ≤ SZ) (hF : ∀ ns : List Int, ns.length ≤ n → ∃ s', F [.scr ns] ⟨none, []⟩ = .ok (.bool true) s') (H : Hp) (a : Addr) (ns : List Int) (hl : ns.length ≤ n) (hS : SqL cn.K H a (ns.map V.int)) :
    spOf cn F [.ref a] H (fun v _ => v = .bl true) fun _ _ _ => False := by
  obtain ⟨s', e⟩ := hF ns hl
  refine ⟨fun _ => none, ⟨none, []⟩, [.scr ns], eok_empty ht, ?_, ?_⟩
  · refine ⟨_, _, rfl, ?_, rfl⟩
    simp only [Rep]
    exact ⟨a, rfl, hS.elim (fun x => .inl ⟨rfl, x⟩) .inr, Nat.le_trans hl hn⟩
  · rw [e]
    intro lb' H' v st eo r
    simpa only [Rep] using r
/-- a def without defaults, by what the head told -/
theorem fnG_of {cn : Cn} {P : Program} {w : World} {mg : Str → Option Value} {base : Heap} {k : Nat} {x y qual : Str} {params : Arguments} {body : List Stmt} {scope : Scope} {kws : List (Str × V)} {f : Addr} {fd : FuncData} {ps : List Str} {Fp : Fn}
    (F : FunD cn.K y qual params body scope [] kws f fd) (ok : FnOk P w cn.K mg base (L2.CX P w) k f fd ps (spOf cn Fp)) (g : mg x = some (.ref f))
    (h : ∀ (kV doc pm : Value) (an : Option Addr) (cdv ct : Value) (us : List Value), us.length = ps.length → bindArgs (PySem.W.fnOf y qual params body scope .none kV doc pm an cdv ct) ⟨us, []⟩ = pure (ps.zip us)) :
    FnG cn P w mg base k x Fp [] :=
  ⟨f, fd, ps, [], [], ok, g, F.kp, F.bindsN h, .nil, fun _ _ => rfl⟩
/-- the end of a law -/
theorem law_end {l : PySem.W.OpenLaw} {n k : Nat} {q : Program} {loose : List Str} {XP : (Str → Option Value) → Heap → Prop} {YP : World → Heap → Prop} {d : DefRec} {x : Str} {Fp : Fn}
    (hn : l.most = some n) (hn2 : n ≤ SZ) (hdf : d.params.defaults = []) (hr : Room k callerA)
    (F : ∀ (w : World) (mg : Str → Option Value) (fa : Addr) (h : Heap), YP w h → h.Ns mainGlobals mg → mg d.name = some (.ref fa) →
      ∃ (cn : Cn) (fd : FuncData), cn.tb = [] ∧ cn.K.In h ∧ (∀ (s : Shared) (u : Value), BindsTo s fd ⟨[u], []⟩ [(x, u)]) ∧ ∀ base : Heap, FnOk l.prog w cn.K mg base (L2.CX l.prog w) k fa fd [x] (spOf cn Fp))
    (hF : ∀ ns : List Int, ns.length ≤ n → ∃ s', Fp [.scr ns] ⟨none, []⟩ = .ok (.bool true) s') :
    PySem.W.WalkO q loose XP YP l.row.toRowW d [] (fun f vs => PySem.call f vs) := by
  refine Att.attach_call hn hdf fun w s₀ s₁ mg mb fa o pm cd doc a vs ns G Y ho hd hcd hmg hobj hints hlen hg => ?_
  obtain ⟨cn, fd, ht, KX, hb, ok⟩ := F w mg fa _ Y G.T.g hmg
  refine law_call (k := k) (sp := spOf cn Fp) KX G.T.g G.T.b G.T.builtins G.T.nolimit hg hobj hints (Nat.le_trans hlen (Nat.le_trans hn2 (by decide))) hr (fun base _ _ => ok base) hb (fun H hO hS => sp_law ht hn2 hF H a ns hlen hS) fun H e s' hc => ?_
  obtain ⟨_, _, _, _, _, _, _, _, _, _, _, _, z⟩ := hc
  exact z
end Pk
/-! Br17: sorted, min, max of data. -/
namespace Pk
open PySem PySem.Spec PyProof.Rows L2
mutual
theorem toks_py : ∀ x : D, PySem.W.keyToks (toPy x) = x.toks
  | .none => by simp [toPy, PySem.W.keyToks, D.toks]
  | .bool b => by simp [toPy, PySem.W.keyToks, D.toks]
  | .int b => by simp [toPy, PySem.W.keyToks, D.toks]
  | .str b => by simp [toPy, PySem.W.keyToks, D.toks]
  | .lst l => by simp only [toPy, PySem.W.keyToks, D.toks]; exact toksL_py l
  | .tup l => by simp only [toPy, PySem.W.keyToks, D.toks]; exact toksL_py l
  | .dct _ _ => by simp [toPy, PySem.W.keyToks, D.toks]
  | .fn _ => by simp [toPy, PySem.W.keyToks, D.toks]
  | .clo _ _ => by simp [toPy, PySem.W.keyToks, D.toks]
  | .town => by simp [toPy, PySem.W.keyToks, D.toks]
  | .obj _ => by simp [toPy, PySem.W.keyToks, D.toks]
  | .scr _ => by simp [toPy, PySem.W.keyToks, D.toks]
theorem toksL_py : ∀ l : List D, PySem.W.keyToksAll (toPyL l) = toksL l
  | [] => by simp [toPyL, PySem.W.keyToksAll, toksL]
  | x :: l => by simp only [toPyL, PySem.W.keyToksAll, toksL]; rw [toks_py x, toksL_py l]
end
theorem tokLt_py : ∀ x y : Tok, itemLt x y = tokLt x y
  | .inl a, .inl b => rfl
  | .inl a, .inr b => rfl
  | .inr a, .inl b => rfl
  | .inr a, .inr b => rfl
theorem toksLt_py : ∀ x y : List Tok, lexLt itemOrd x y = toksLt x y
  | [], [] => rfl
  | [], _ :: _ => rfl
  | _ :: _, [] => rfl
  | x :: r, y :: t => by
    rw [lex_cons]
    show (itemLt x y || (!itemLt y x && lexLt itemOrd r t)) = _
    rw [tokLt_py, tokLt_py, toksLt_py r t]
    rfl
theorem lt_py (x y : D) : PySem.W.dataLt (toPy x) (toPy y) = x.lt y := by
  unfold PySem.W.dataLt D.lt
  rw [toks_py, toks_py, toksLt_py]
theorem le_py : PySem.W.dataLe false toPy = leD := by
  funext x y
  show (!lexLt itemOrd (PySem.W.keyToks (toPy y)) (PySem.W.keyToks (toPy x))) = _
  rw [toks_py, toks_py, toksLt_py]
  rfl
mutual
theorem alk_py : ∀ x y : D, x.alk y = true → PySem.W.alike (toPy x) (toPy y) = true
  | .bool _, y, h => by cases y <;> first | (simp [D.alk] at h; done) | simp [toPy, PySem.W.alike]
  | .int _, y, h => by cases y <;> first | (simp [D.alk] at h; done) | simp [toPy, PySem.W.alike]
  | .str _, y, h => by cases y <;> first | (simp [D.alk] at h; done) | simp [toPy, PySem.W.alike]
  | .lst l, y, h => by
    cases y with
    | lst m => simp only [D.alk] at h; simp only [toPy, PySem.W.alike]; exact alkL_py l m h
    | _ => simp [D.alk] at h
  | .tup l, y, h => by
    cases y with
    | tup m => simp only [D.alk] at h; simp only [toPy, PySem.W.alike]; exact alkL_py l m h
    | _ => simp [D.alk] at h
  | .none, y, h => by simp [D.alk] at h
  | .dct _ _, y, h => by simp [D.alk] at h
  | .fn _, y, h => by simp [D.alk] at h
  | .clo _ _, y, h => by simp [D.alk] at h
  | .town, y, h => by simp [D.alk] at h
  | .obj _, y, h => by simp [D.alk] at h
  | .scr _, y, h => by simp [D.alk] at h
theorem alkL_py : ∀ l m : List D, alkL l m = true → PySem.W.alikeAll (toPyL l) (toPyL m) = true
  | [], m, h => by simp [toPyL, PySem.W.alikeAll]
  | x :: l, [], h => by simp [toPyL, PySem.W.alikeAll]
  | x :: l, y :: m, h => by
    simp only [alkL, Bool.and_eq_true] at h
    simp only [toPyL, PySem.W.alikeAll, alk_py x y h.1, alkL_py l m h.2, Bool.and_self]
end
theorem toPyL_map : ∀ l : List D, toPyL l = l.map toPy
  | [] => rfl
  | x :: l => by simp only [toPyL, List.map_cons, toPyL_map l]
theorem allAlk_py {l : List D} (h : allAlk l = true) : PySem.W.AllAlike (l.map toPy) := by
  intro d hd e he
  obtain ⟨x, hx, rfl⟩ := List.mem_map.mp hd
  obtain ⟨y, hy, rfl⟩ := List.mem_map.mp he
  exact alk_py x y (List.all_eq_true.mp (List.all_eq_true.mp h x hx) y hy)
theorem sortable_py {l : List D} (h : (l.all D.tupNe || l.all D.notTup) = true) : PySem.W.Sortable (l.map toPy) := by
  rcases Bool.or_eq_true_iff.mp h with h | h
  · refine .inl fun d hd => ?_
    obtain ⟨x, hx, rfl⟩ := List.mem_map.mp hd
    have := List.all_eq_true.mp h x hx
    cases x with
    | tup m =>
      cases m with
      | nil => simp [D.tupNe] at this
      | cons y m => exact ⟨toPy y, toPyL m, by simp only [toPy, toPyL]⟩
    | _ => simp [D.tupNe] at this
  · refine .inr fun d hd => ?_
    obtain ⟨x, hx, rfl⟩ := List.mem_map.mp hd
    have := List.all_eq_true.mp h x hx
    cases x <;> first | (simp [D.notTup] at this; done) | (simp only [toPy]; exact ⟨by simp, by simp⟩)
mutual
theorem toPy_inj : ∀ x y : D, x.alk y = true → toPy x = toPy y → x = y
  | .bool a, y, h, e => by
    cases y with
    | bool b => simp only [toPy] at e; cases e; rfl
    | _ => simp [D.alk] at h
  | .int a, y, h, e => by
    cases y with
    | int b => simp only [toPy] at e; cases e; rfl
    | _ => simp [D.alk] at h
  | .str a, y, h, e => by
    cases y with
    | str b => simp only [toPy] at e; cases e; rfl
    | _ => simp [D.alk] at h
  | .lst l, y, h, e => by
    cases y with
    | lst m =>
      simp only [D.alk] at h
      simp only [toPy, PyData.list.injEq] at e
      rw [toPyL_inj l m h e]
    | _ => simp [D.alk] at h
  | .tup l, y, h, e => by
    cases y with
    | tup m =>
      simp only [D.alk] at h
      simp only [toPy, PyData.tuple.injEq] at e
      rw [toPyL_inj l m h e]
    | _ => simp [D.alk] at h
  | .none, y, h, e => by simp [D.alk] at h
  | .dct _ _, y, h, e => by simp [D.alk] at h
  | .fn _, y, h, e => by simp [D.alk] at h
  | .clo _ _, y, h, e => by simp [D.alk] at h
  | .town, y, h, e => by simp [D.alk] at h
  | .obj _, y, h, e => by simp [D.alk] at h
  | .scr _, y, h, e => by simp [D.alk] at h
theorem toPyL_inj : ∀ l m : List D, alkL l m = true → toPyL l = toPyL m → l = m
  | [], [], h, e => rfl
  | [], _ :: _, h, e => by simp [toPyL] at e
  | _ :: _, [], h, e => by simp [toPyL] at e
  | x :: l, y :: m, h, e => by
    simp only [alkL, Bool.and_eq_true] at h
    simp only [toPyL, List.cons.injEq] at e
    rw [toPy_inj x y h.1 e.1, toPyL_inj l m h.2 e.2]
end
/-! ### sorted -/
def rSortedD (K : PySem.W.Frag) : List V → Hp → VK → Prop := fun vs H Q => ∃ (a : Addr) (bs : List (D × V)), vs = [.ref a] ∧ SqL K H a (bs.map (·.2)) ∧ (∀ c ∈ bs, Dp K H c.2 (toPy c.1)) ∧ sortOk (bs.map (·.1)) = true ∧
  ∀ p, H p = none → Q (.ref p) (L2.upd H p (.lst ((bs.mergeSort fun x y => leD x.1 y.1).map (·.2))))
theorem each_rel {bs : List (D × V)} {us : List Value} (r : Vals (bs.map (·.2)) us) : PySem.W.EachIs (fun (v : Value) (c : D × V) => RelV c.2 v) us bs := by
  induction bs generalizing us with
  | nil => cases r; exact .nil
  | cons c bs ih =>
    rw [List.map_cons] at r
    cases r with
    | cons r1 r2 => exact .cons r1 (ih r2)
theorem rel_each {bs : List (D × V)} {us : List Value} (r : PySem.W.EachIs (fun (v : Value) (c : D × V) => RelV c.2 v) us bs) : Vals (bs.map (·.2)) us := by
  induction r with
  | nil => exact .nil
  | cons h t ih => exact .cons h ih
theorem dep_le_py {x : D} (h : x.dep 62 = true) : (toPy x).depth ≤ 62 := (lay_py x 62 h).2
section
variable {X : Cx}
theorem cr_sortedD (hu : X.A.units + 65 < cLine) : CallR X (.builtin "sorted") (rSortedD X.K) := by
  intro pins s σ H vs us Q I r h
  obtain ⟨a, bs, rfl, hs, hd, ho, q⟩ := h
  obtain ⟨its, rv, hl, hz⟩ := I.list hs
  rw [Vals.ref1 r]
  simp only [sortOk, ordOk, Bool.and_eq_true] at ho
  obtain ⟨⟨o1, o2⟩, o3⟩ := ho
  have e1 := each_rel rv
  have er : PySem.W.EachIs (fun (v : Value) (c : D × V) => ∃ as, Reads s.heap v (toPy c.1) as) its bs := (PySem.W.each_mem e1).mono fun v c ⟨hr, hm⟩ => Dp.reads I _ _ _ (hd c hm) hr
  have em : bs.map (fun c : D × V => toPy c.1) = (bs.map (·.1)).map toPy := by rw [List.map_map]; rfl
  refine PySem.W.sorted_data (enc := fun c : D × V => toPy c.1) hl.isList e1 er (by rw [em]; exact allAlk_py o2) (by rw [em]; exact sortable_py o3) (by rw [List.length_map] at hz; exact hz) (fun c hc => ?_) fun out hlen eo => ?_
  · have := dep_le_py (List.all_eq_true.mp o1 c.1 (List.mem_map.mpr ⟨c, hc, rfl⟩))
    omega
  · obtain ⟨ep, he'⟩ := PyProof.Rows.sortedAll_at s.heap its out.toArray
    have le2 : PySem.W.dataLe false (fun c : D × V => toPy c.1) = fun x y => leD x.1 y.1 := by
      funext x y
      exact congrFun (congrFun le_py x.1) y.1
    rw [le2] at eo
    have hz2 : ((bs.mergeSort fun x y => leD x.1 y.1).map (·.2)).length ≤ sizeLine := by
      rw [List.length_map, (List.mergeSort_perm _ _).length_eq]
      rw [List.length_map] at hz
      exact hz
    exact ⟨.ref _, L2.upd H (s.heap.objs.size + 1) (.lst ((bs.mergeSort fun x y => leD x.1 y.1).map (·.2))), I.laid (t' := s.toks) (fun _ _ => PyProof.Rows.sortedAll_old) (Nat.le_succ _) ⟨hz2, out, ep, rel_each eo, he'⟩, rfl, q _ (I.hok.fresh (Nat.le_succ _))⟩
theorem Gd.sortedD {b : Bd} {n : Nat} (g : Gd n X b) : CallR X (.builtin "sorted") (rSortedD b.cn.K) := by rw [g.kk]; exact cr_sortedD g.units
end
section
variable {cn : Cn} {lb : Lb} {H : Hp}
theorem repL_zip : ∀ {l : List D} {vs : List V}, RepL cn lb H l vs → ∀ c ∈ l.zip vs, Rep cn lb H c.1 c.2
  | [], vs, r, c, hc => by simp at hc
  | d :: l, vs, r, c, hc => by
    obtain ⟨v, r', rfl, r1, r2⟩ := r
    rw [List.zip_cons_cons] at hc
    rcases List.mem_cons.mp hc with rfl | hc
    · exact r1
    · exact repL_zip r2 c hc
theorem repL_pairs : ∀ {bs : List (D × V)}, (∀ c ∈ bs, Rep cn lb H c.1 c.2) → RepL cn lb H (bs.map (·.1)) (bs.map (·.2))
  | [], _ => .nil
  | c :: bs, h => .cons (h c List.mem_cons_self) (repL_pairs fun c hc => h c (List.mem_cons_of_mem _ hc))
theorem zip_fst {l : List D} {vs : List V} (r : RepL cn lb H l vs) : (l.zip vs).map (·.1) = l := List.map_fst_zip (Nat.le_of_eq r.length)
theorem zip_snd {l : List D} {vs : List V} (r : RepL cn lb H l vs) : (l.zip vs).map (·.2) = vs := List.map_snd_zip (Nat.le_of_eq r.length.symm)
theorem p1_sorted : P1 true cn (fun x H Q => rSortedD cn.K [x] H Q) pSorted := by
  intro lb H x d e Q hs r h k
  have k : KF cn lb H e Q := k
  cases d with
  | lst l =>
    simp only [pSorted] at h
    split at h
    · rename_i ho
      cases h
      obtain ⟨a, vs, rfl, e1, z, rl⟩ := r.lst
      have ef := zip_fst rl
      have es := zip_snd rl
      have o1 : l.all (D.dep 62) = true := by
        simp only [sortOk, ordOk, Bool.and_eq_true] at ho
        exact ho.1.1
      refine ⟨a, l.zip vs, rfl, .of (by rw [es]; exact e1), fun c hc => ?_, by rw [ef]; exact ho, fun p np => k p _ np ⟨_, rfl, ?_, ?_⟩⟩
      · exact dp_rep (List.all_eq_true.mp o1 c.1 (by have : c.1 ∈ (l.zip vs).map (·.1) := List.mem_map.mpr ⟨c, hc, rfl⟩; rw [ef] at this; exact this)) (repL_zip rl c hc)
      · rw [List.length_mergeSort]; exact z
      · have m : ((l.zip vs).mergeSort (fun x y => leD x.1 y.1)).map (·.1) = l.mergeSort leD := by
          rw [List.map_mergeSort (r := fun x y => leD x.1 y.1) (s := leD) (f := fun c : D × V => c.1) (fun _ _ _ _ => rfl), ef]
        rw [← m]
        exact repL_pairs fun c hc => repL_zip rl c (List.mem_mergeSort.mp hc)
    · cases h
  | _ => cases h
/-! ### min, max -/
theorem minD_mem (x : D) : ∀ l : List D, minD x l ∈ x :: l := by
  intro l
  induction l generalizing x with
  | nil => simp [minD]
  | cons y l ih =>
    have := ih (if y.lt x then y else x)
    unfold minD at this ⊢
    rw [List.foldl_cons]
    rcases List.mem_cons.mp this with q | q
    · rw [q]; split <;> simp
    · exact List.mem_cons_of_mem _ (List.mem_cons_of_mem _ q)
theorem maxD_mem (x : D) : ∀ l : List D, maxD x l ∈ x :: l := by
  intro l
  induction l generalizing x with
  | nil => simp [maxD]
  | cons y l ih =>
    have := ih (if x.lt y then y else x)
    unfold maxD at this ⊢
    rw [List.foldl_cons]
    rcases List.mem_cons.mp this with q | q
    · rw [q]; split <;> simp
    · exact List.mem_cons_of_mem _ (List.mem_cons_of_mem _ q)
theorem minD_py (x : D) (l : List D) : PySem.W.minD (toPy x) (l.map toPy) = toPy (minD x l) := by
  induction l generalizing x with
  | nil => rfl
  | cons y l ih =>
    have := ih (if y.lt x then y else x)
    unfold PySem.W.minD minD at this ⊢
    rw [List.map_cons, List.foldl_cons, List.foldl_cons, ← this, lt_py]
    split <;> rfl
theorem maxD_py (x : D) (l : List D) : PySem.W.maxD (toPy x) (l.map toPy) = toPy (maxD x l) := by
  induction l generalizing x with
  | nil => rfl
  | cons y l ih =>
    have := ih (if x.lt y then y else x)
    unfold PySem.W.maxD maxD at this ⊢
    rw [List.map_cons, List.foldl_cons, List.foldl_cons, ← this, lt_py]
    split <;> rfl
end
def rBestD (f : D → List D → D) (K : PySem.W.Frag) : List V → Hp → VK → Prop := fun vs H Q => ∃ (a : Addr) (x : D × V) (bs : List (D × V)), vs = [.ref a] ∧ (SqL K H a ((x :: bs).map (·.2)) ∨ SqT K H a ((x :: bs).map (·.2))) ∧ (∀ c ∈ x :: bs, Dp K H c.2 (toPy c.1)) ∧ ordOk ((x :: bs).map (·.1)) = true ∧
  ∀ c ∈ x :: bs, c.1 = f x.1 (bs.map (·.1)) → Q c.2 H
section
variable {X : Cx}
theorem alikeAll_py {l : List D} (h : allAlk l = true) : PySem.W.AlikeAll (l.map toPy) := by
  refine ⟨fun x hx y hy => allAlk_py h x hx y hy, fun x hx => ?_⟩
  obtain ⟨d, hd, rfl⟩ := List.mem_map.mp hx
  have := List.all_eq_true.mp (List.all_eq_true.mp h d hd) d hd
  cases d <;> first | (simp [D.alk] at this; done) | simp [toPy]
theorem dpAll_pairs {K : PySem.W.Frag} {H : Hp} : ∀ {bs : List (D × V)}, (∀ c ∈ bs, Dp K H c.2 (toPy c.1)) → DpAll K H (bs.map (·.2)) ((bs.map (·.1)).map toPy)
  | [], _ => .nil
  | c :: bs, h => .cons (h c List.mem_cons_self) (dpAll_pairs fun c hc => h c (List.mem_cons_of_mem _ hc))
theorem depthAll_py {l : List D} (h : l.all (D.dep 62) = true) : PyData.depthAll (l.map toPy) ≤ 62 := by
  rw [← toPyL_map]
  exact (layL_py l 62 h).2
theorem best_run {f : D → List D → D} {pins : List (Addr × Obj)} {s : Shared} {σ : L2.St} {H : Hp} {x : D × V} {bs : List (D × V)} {its : List Value} {i : Nat} {v : Value} {h' : Heap} {tk : Nat} {as : List Addr} {Q : VK} {d : PyData} (I : Inv X pins σ H s)
    (hm : ∀ l, f x.1 l ∈ x.1 :: l) (hf : d = toPy (f x.1 (bs.map (·.1)))) (hd : ∀ c ∈ x :: bs, Dp X.K H c.2 (toPy c.1)) (o2 : allAlk ((x :: bs).map (·.1)) = true) (rv : Vals ((x :: bs).map (·.2)) its) (hi : its[i]? = some v) (hr : Reads h' v d as)
    (hk : ∀ b o, s.heap.get? b = some o → h'.get? b = some o) (q : ∀ c ∈ x :: bs, c.1 = f x.1 (bs.map (·.1)) → Q c.2 H) : ∃ (z : V) (H' : Hp), Inv X pins σ H' { s with heap := h', toks := tk } ∧ RelV z v ∧ Q z H' := by
  have hlt : i < its.length := (List.getElem?_eq_some_iff.mp hi).1
  have hl := rv.length
  rw [List.length_map] at hl
  have hb : (x :: bs)[i]? = some (x :: bs)[i] := List.getElem?_eq_getElem (by omega)
  have hv : ((x :: bs).map (·.2))[i]? = some ((x :: bs)[i]).2 := by rw [List.getElem?_map, hb]; rfl
  obtain ⟨u, hu, ru⟩ := rv.get hv
  rw [hi] at hu
  cases hu
  have hmem : (x :: bs)[i] ∈ x :: bs := List.getElem_mem _
  obtain ⟨as2, r2⟩ := Dp.reads I _ _ _ (hd _ hmem) ru
  have r3 := PyProof.Rows.Reads.keeps hk r2
  have ml : ((x :: bs)[i]).1 ∈ (x :: bs).map (·.1) := List.mem_map.mpr ⟨_, hmem, rfl⟩
  have mf : f x.1 (bs.map (·.1)) ∈ (x :: bs).map (·.1) := hm _
  have ak : (((x :: bs)[i]).1).alk (f x.1 (bs.map (·.1))) = true := List.all_eq_true.mp (List.all_eq_true.mp o2 _ ml) _ mf
  subst hf
  have e := PySem.W.alike_unique _ _ v _ _ (alk_py _ _ ak) r3 hr
  exact ⟨_, H, I.kept hk, ru, q _ hmem (toPy_inj _ _ ak e)⟩
theorem cr_minD (hc : X.calm = true) (hu : X.A.units + 65 < cLine) : CallR X (.builtin "min") (rBestD minD X.K) := by
  intro pins s σ H vs us Q I r h
  obtain ⟨a, x, bs, rfl, hs, hd, ho, q⟩ := h
  simp only [ordOk, Bool.and_eq_true] at ho
  obtain ⟨o1, o2⟩ := ho
  have dl := depthAll_py o1
  rcases hs with hs | hs
  · obtain ⟨its, rv, hl, hz⟩ := I.list hs
    rw [Vals.ref1 r]
    obtain ⟨as, ra⟩ := Dp.readsAll I _ _ its (dpAll_pairs hd) rv
    exact PySem.W.min_list_data (I.ok.hd hc) hl.isList ra (alikeAll_py o2) (Nat.lt_of_le_of_lt (Nat.add_le_add_left dl _) (by omega)) fun i v h' tk bs' hi hr hk => best_run I (minD_mem x.1) (minD_py x.1 _) hd o2 rv (by simpa using hi) hr hk q
  · obtain ⟨its, rv, hl, hz⟩ := I.tuple hs
    rw [Vals.ref1 r]
    obtain ⟨as, ra⟩ := Dp.readsAll I _ _ its (dpAll_pairs hd) rv
    exact PySem.W.min_tuple_data (I.ok.hd hc) hl ra (alikeAll_py o2) (Nat.lt_of_le_of_lt (Nat.add_le_add_left dl _) (by omega)) fun i v h' tk bs' hi hr hk => best_run I (minD_mem x.1) (minD_py x.1 _) hd o2 rv (by simpa using hi) hr hk q
theorem cr_maxD (hc : X.calm = true) (hu : X.A.units + 65 < cLine) : CallR X (.builtin "max") (rBestD maxD X.K) := by
  intro pins s σ H vs us Q I r h
  obtain ⟨a, x, bs, rfl, hs, hd, ho, q⟩ := h
  simp only [ordOk, Bool.and_eq_true] at ho
  obtain ⟨o1, o2⟩ := ho
  have dl := depthAll_py o1
  rcases hs with hs | hs
  · obtain ⟨its, rv, hl, hz⟩ := I.list hs
    rw [Vals.ref1 r]
    obtain ⟨as, ra⟩ := Dp.readsAll I _ _ its (dpAll_pairs hd) rv
    exact PySem.W.max_list_data (I.ok.hd hc) hl.isList ra (alikeAll_py o2) (Nat.lt_of_le_of_lt (Nat.add_le_add_left dl _) (by omega)) fun i v h' tk bs' hi hr hk => best_run I (maxD_mem x.1) (maxD_py x.1 _) hd o2 rv (by simpa using hi) hr hk q
  · obtain ⟨its, rv, hl, hz⟩ := I.tuple hs
    rw [Vals.ref1 r]
    obtain ⟨as, ra⟩ := Dp.readsAll I _ _ its (dpAll_pairs hd) rv
    exact PySem.W.max_tuple_data (I.ok.hd hc) hl ra (alikeAll_py o2) (Nat.lt_of_le_of_lt (Nat.add_le_add_left dl _) (by omega)) fun i v h' tk bs' hi hr hk => best_run I (maxD_mem x.1) (maxD_py x.1 _) hd o2 rv (by simpa using hi) hr hk q
theorem Gd.minD {b : Bd} {n : Nat} (g : Gd n X b) : CallR X (.builtin "min") (rBestD minD b.cn.K) := by rw [g.kk]; exact cr_minD g.calm g.units
theorem Gd.maxD {b : Bd} {n : Nat} (g : Gd n X b) : CallR X (.builtin "max") (rBestD maxD b.cn.K) := by rw [g.kk]; exact cr_maxD g.calm g.units
end
section
variable {cn : Cn}
theorem best_rep {f : D → List D → D} {lb : Lb} {H : Hp} {x : D} {l : List D} {vs : List V} {a : Addr} {Q : VK} (sq : SqL cn.K H a vs ∨ SqT cn.K H a vs) (rl : RepL cn lb H (x :: l) vs) (ho : ordOk (x :: l) = true) (k : KV cn lb H (f x l) Q) : rBestD f cn.K [.ref a] H Q := by
  obtain ⟨v, ws, rfl, r1, r2⟩ := rl
  have ef := zip_fst r2
  have es := zip_snd r2
  have o1 : (x :: l).all (D.dep 62) = true := by
    simp only [ordOk, Bool.and_eq_true] at ho
    exact ho.1
  have rp : ∀ c ∈ (x, v) :: l.zip ws, Rep cn lb H c.1 c.2 := fun c hc => by
    rcases List.mem_cons.mp hc with rfl | hc
    · exact r1
    · exact repL_zip r2 c hc
  have em : ((x, v) :: l.zip ws).map (·.1) = x :: l := by rw [List.map_cons, ef]
  have es2 : ((x, v) :: l.zip ws).map (·.2) = v :: ws := by rw [List.map_cons, es]
  refine ⟨a, (x, v), l.zip ws, rfl, by rw [es2]; exact sq, fun c hc => ?_, by rw [em]; exact ho, fun c hc e => ?_⟩
  · exact dp_rep (List.all_eq_true.mp o1 c.1 (by rw [← em]; exact List.mem_map.mpr ⟨c, hc, rfl⟩)) (rp c hc)
  · rw [ef] at e
    have := rp c hc
    rw [e] at this
    exact KV.now k this
theorem p1_minD : P1 false cn (fun x H Q => rBestD minD cn.K [x] H Q) pMinD := by
  intro lb H x d e Q hs r h k
  cases d with
  | lst l =>
    cases l with
    | nil => cases h
    | cons y l =>
      simp only [pMinD] at h
      split at h
      · rename_i ho
        cases h
        obtain ⟨a, vs, rfl, e1, z, rl⟩ := r.lst
        exact best_rep (.inl (.of e1)) rl ho k
      · cases h
  | tup l =>
    cases l with
    | nil => cases h
    | cons y l =>
      simp only [pMinD] at h
      split at h
      · rename_i ho
        cases h
        obtain ⟨a, vs, rfl, e1, z, rl⟩ := r.tup
        exact best_rep (.inr (.of e1)) rl ho k
      · cases h
  | _ => cases h
theorem p1_maxD : P1 false cn (fun x H Q => rBestD maxD cn.K [x] H Q) pMaxD := by
  intro lb H x d e Q hs r h k
  cases d with
  | lst l =>
    cases l with
    | nil => cases h
    | cons y l =>
      simp only [pMaxD] at h
      split at h
      · rename_i ho
        cases h
        obtain ⟨a, vs, rfl, e1, z, rl⟩ := r.lst
        exact best_rep (.inl (.of e1)) rl ho k
      · cases h
  | tup l =>
    cases l with
    | nil => cases h
    | cons y l =>
      simp only [pMaxD] at h
      split at h
      · rename_i ho
        cases h
        obtain ⟨a, vs, rfl, e1, z, rl⟩ := r.tup
        exact best_rep (.inr (.of e1)) rl ho k
      · cases h
  | _ => cases h
end
end Pk
/-! Br18: enumerate of a tuple. -/
namespace Pk
open PySem PySem.Spec PyProof.Rows L2
theorem enum1_new {v : Value} {o : Obj} {Z : Heap → Prop} (B : Begins v o Z) : Meets (Builtin.«enumerate.__new__» ⟨[.type "enumerate", v], []⟩) (fun _ R s => Z s.heap ∧
      R (.ok (.ret (.ref (s.heap.push o).objs.size))) { s with heap := (s.heap.push o).push { cls := .type "enumerate", data := .fields #[.none, .bool false, .ref s.heap.objs.size, rawInt 0, .none, .none] } }) :=
  .of_wp fun prog w A R s h => by
    obtain ⟨hp, g, d, tk, os⟩ := s
    obtain ⟨h1, h⟩ := h
    have hsub := sub_enumerate
    have step : ∀ {A2 : Around} {E : Value → Shared → Prop} {Q : Value → Shared → Prop}, Q (.ref hp.objs.size) ⟨hp.push o, g, d, tk, os⟩ → wpAny (model prog w) A2 (pyIter v) Q E ⟨hp, g, d, tk, os⟩ :=
      fun q => B.iter prog w _ _ ⟨hp, g, d, tk, os⟩ _ h1 q
    wp_walk using step
    refine wpAny_stack_any fun st => wpAny_pure ?_
    split
    · rename_i c _ _ _ _ _
      cases (c == Value.type "enumerate") <;> (wp_walk using step; exact ⟨_, rfl, h⟩)
    · wp_walk using step
      exact ⟨_, rfl, h⟩
section
variable {prog : Program} {w : World} {A : Around} {E : Value → Shared → Prop} {s : Shared}
theorem enum1_call {v : Value} {o : Obj} {Z : Heap → Prop} {Q : Value → Shared → Prop} (B : Begins v o Z) (h1 : Z s.heap)
    (h : ∀ h', IsEnum h' (s.heap.objs.size + 1) s.heap.objs.size 0 .none → h'.get? s.heap.objs.size = some o → (∀ b u, s.heap.get? b = some u → h'.get? b = some u) → Q (.ref (s.heap.objs.size + 1)) { s with heap := h' }) :
    wpAny (model prog w) A (call (.type "enumerate") [v]) Q E s := by
  refine callType_new F.called_enumerate (by decide) (F.typeCall_enumerate_1 _) (F.newCall_enumerate_1 _) (fun obj => F.args_object_init_2 obj _) F.entry_enumerate_new (enum1_new B) ⟨h1, ?_⟩
  have sz : (s.heap.push o).objs.size = s.heap.objs.size + 1 := Heap.size_push ..
  show _ ∧ _
  rw [sz]
  have ie : IsEnum ((s.heap.push o).push { cls := .type "enumerate", data := .fields #[.none, .bool false, .ref s.heap.objs.size, rawInt 0, .none, .none] }) (s.heap.objs.size + 1) s.heap.objs.size 0 .none := by
    have q := Heap.get?_push_size (s.heap.push o) (o := { cls := .type "enumerate", data := .fields #[.none, .bool false, .ref s.heap.objs.size, rawInt 0, .none, .none] }) rfl
    rw [sz] at q
    exact q
  exact ⟨⟨_, ie, rfl⟩, h _ ie (Heap.get?_push_of_some _ (Heap.get?_push_size _ B.free)) fun b u q => Heap.get?_push_of_some _ (Heap.get?_push_of_some _ q)⟩
end
/-- the tuple at a, each item in a new pair -/
def IteT (K : PySem.W.Frag) (a : Addr) : L2.It :=
  ⟨fun i H => ∃ (xs : List V) (x : V), SqT K H a xs ∧ xs[i]? = some x, fun i H v H' => ∃ T x, v = .ref T ∧ H T = none ∧ H' = L2.upd H T (.tup [.int (i : Nat), x]) ∧ ∀ xs, SqT K H a xs → xs[i]? = some x, fun i H => ∃ xs : List V, SqT K H a xs ∧ xs.length = i⟩
theorem turn_enumT {P : Program} {w : World} {K : PySem.W.Frag} {elts : List Expr} {kk : Nat} {tpos : Pos} (a e it : Addr) (hai : a ≠ it) (hae : a ≠ e) :
    Turn P w K (.Tuple elts kk tpos) (IteT K a) [e, it] e (fun i h => (∃ old, IsEnum h e it ((i : Nat) : Int) old) ∧ h.IsTupleIter it a i ∧ e ≠ it) where
  mem := by simp
  obj := fun i h st b hb => by
    obtain ⟨⟨old, he⟩, ⟨o, ho, hc, hd⟩, _⟩ := st
    have z : b = e ∨ b = it := by simpa using hb
    rcases z with rfl | rfl
    · exact ⟨_, he, fun v q => nomatch q⟩
    · exact ⟨o, ho, fun v q => by rw [hd] at q; cases q⟩
  keep := fun i h h' st k => by
    obtain ⟨⟨old, he⟩, hi, hne⟩ := st
    exact ⟨⟨old, k e (by simp) _ he⟩, hi.at (fun o q => k it (by simp) o q), hne⟩
  item := by
    intro X hP hw hK hc i pins s σ H E I hf st hg
    subst hP hw hK
    obtain ⟨⟨old, he⟩, hit, hne⟩ := st
    obtain ⟨xs, x, hq, hx⟩ := hg
    obtain ⟨its, rv, tp, hz⟩ := I.tuple hq
    obtain ⟨u, hu, ru⟩ := rv.get hx
    have hel : e < s.heap.objs.size := Heap.lt_size he
    have hil : it < s.heap.objs.size := by obtain ⟨_, q, _⟩ := hit; exact Heap.lt_size q
    have hlt : i < its.toArray.size := by have := (List.getElem?_eq_some_iff.mp hu).1; simpa using this
    refine wpAny_pyNext_enum_itemD (Draws.tuple (A := X.A.in1) (I.ok.hd hc) it a hai its.toArray) he ⟨hit, tp⟩ hlt hne (fun m => (List.mem_cons.mp m).elim hne fun m2 => hae (List.mem_singleton.mp m2).symm) fun y h' tk hy ho st' hT hsz hk => ?_
    have ey : y = u := by
      have q : its.toArray[i]? = some u := by simpa using hu
      rw [q] at hy
      exact (Option.some.inj hy).symm
    subst ey
    refine ⟨_, rfl, wpAny_letOwnedTupleGo_enum (s := { s with heap := h', toks := tk + 1 }) ho fun h'' he' sb => ?_⟩
    have hT2 : h''.get? s.heap.objs.size = some { cls := .type "tuple", data := .seq #[.int i tk, y] } := (sb.2 _ (Nat.ne_of_gt hel)).trans hT
    have new : ObjOk X.prog X.w (L2.upd H s.heap.objs.size (.tup [.int (i : Nat), x])) h'' s.heap.objs.size (.tup [.int (i : Nat), x]) :=
      ⟨by show 2 ≤ sizeLine; decide, [.int i tk, y], .cons ⟨_, rfl⟩ (.cons ru .nil), ⟨_, hT2, rfl, _, rfl⟩⟩
    have I1 : Inv X pins σ (L2.upd H s.heap.objs.size (.tup [.int (i : Nat), x])) { s with heap := h'', toks := tk + 1 } :=
      I.turnedNew (ch := [e, it]) (fun b ob hb q => (sb.2 b (fun z => hb (by simp [z]))).trans (hk b ob (fun z => hb (by simp [z])) (fun z => hb (by simp [z])) q)) hf (Nat.le_refl _) new
    refine ⟨.ref s.heap.objs.size, _, I1, rfl, ⟨_, x, rfl, I.hok.fresh (Nat.le_refl _), rfl, fun ys hys => by rw [I.tuple_inj hys hq]; exact hx⟩, ⟨⟨y, ?_⟩, st'.1.at fun o q => (sb.2 it (Ne.symm hne)).trans q, hne⟩, fun b hb => ?_⟩
    · have e1 : ((i + 1 : Nat) : Int) = (i : Int) + 1 := by omega
      rw [e1]
      exact he'
    · have z : b = e ∨ b = it := by simpa using hb
      have hb' : b < s.heap.objs.size := by rcases z with rfl | rfl <;> assumption
      rw [upd_ne (Nat.ne_of_lt hb')]
      exact (hf b hb).1
  done := by
    intro X hP hw hK hc i pins s σ H E I hf st hg
    subst hP hw hK
    obtain ⟨⟨old, he⟩, hit, hne⟩ := st
    obtain ⟨xs, hq, hx⟩ := hg
    obtain ⟨its, rv, tp, hz⟩ := I.tuple hq
    obtain ⟨f0, f1, f2, f3, f4, f5⟩ := hf it (by simp)
    have hl := rv.length
    have hi : its.toArray.size = i := by simp; omega
    refine wpAny_pyNext_enum_endD (Draws.tuple (A := X.A.in1) (I.ok.hd hc) it a hai its.toArray) he ⟨by rw [hi]; exact hit, tp⟩ fun h' eb => ⟨rfl, ?_⟩
    exact I.turned (t' := s.toks) (fun b o hb q => eb b o hb q) f0 f1 f3 f4 f5
  self := fun A i s Q E st h => by
    obtain ⟨⟨_, he⟩, _⟩ := st
    exact wpAny_pyIter_enum he h
def iEnmA (K : PySem.W.Frag) (ta : TA) : TI := fun σ H R => ta σ H fun vs H1 => ∃ a xs, vs = [.ref a] ∧ ((SqL K H1 a xs ∧ R (Ite K a) H1) ∨ (SqT K H1 a xs ∧ R (IteT K a) H1))
theorem pi_enumA {X : Cx} {e : Expr} {ta : TA} {p pos tpos : Pos} {elts : List Expr} {kk : Nat} (hg : Gl X "enumerate") (hm : X.mg "enumerate" = none) (ha : PA X [e] ta) (hs : starEach [e] X.env = [(false, eval e X.env)]) :
    PI X (.Tuple elts kk tpos) (.Call (.Name "enumerate" p) [e] [] pos) (iEnmA X.K ta) := by
  refine ⟨fun pins s σ H R I h => ?_⟩
  refine Call_ (ld_blt I hg hm boot_enumerate (PyProof.Rows.callWith_type1 (thn (ha.run pos pins s σ H _ I h) fun us s1 ⟨vs, H1, I1, r1, q1⟩ => ?_) hs rfl))
  obtain ⟨a, xs, ex, q1⟩ := q1
  subst ex
  have fp : ∀ b ∈ [s1.heap.objs.size + 1, s1.heap.objs.size], FpOk X pins H1 b := fun b hb => by
    have z : b = s1.heap.objs.size + 1 ∨ b = s1.heap.objs.size := by simpa using hb
    have hle : s1.heap.objs.size ≤ b := by rcases z with rfl | rfl <;> omega
    exact I1.fpOk hle (I1.hok.fresh hle)
  obtain rfl := Vals.ref1 r1
  rcases q1 with ⟨hq, q⟩ | ⟨hq, q⟩
  · obtain ⟨its, rv, pl, hz⟩ := I1.list hq
    refine call_enumerate_list pl.isList fun h' he hit hsz hk => wpAny_pyIter_enum he ?_
    exact ⟨s1.heap.objs.size + 1, _, _, _, H1, rfl, I1.kept (t' := s1.toks) hk, turn_enum a (s1.heap.objs.size + 1) s1.heap.objs.size, ⟨⟨.none, he⟩, hit, Nat.succ_ne_self _⟩, fp, q⟩
  · obtain ⟨its, rv, tp, hz⟩ := I1.tuple hq
    have hal : a < s1.heap.objs.size := by obtain ⟨_, w, _⟩ := tp; exact Heap.lt_size w
    refine enum1_call (begins_tuple a its.toArray) tp fun h' he hit hk => wpAny_pyIter_enum he ?_
    exact ⟨s1.heap.objs.size + 1, _, _, _, H1, rfl, I1.kept (t' := s1.toks) hk, turn_enumT a (s1.heap.objs.size + 1) s1.heap.objs.size (Nat.ne_of_lt hal) (Nat.ne_of_lt (Nat.lt_succ_of_lt hal)), ⟨⟨.none, he⟩, ⟨_, hit, rfl, rfl⟩, Nat.succ_ne_self _⟩, fp, q⟩
section
variable {X : Cx} {b : Bd} {n : Nat}
theorem itOk_eT {cn : Cn} {lb : Lb} {H : Hp} {K : PySem.W.Frag} {a : Addr} {l : List D} {vs : List V} (nl : NT lb H a vs) (r : RepL cn lb H l vs) : ItOk cn lb H (numbered l) (IteT K a) := fun lb' H' s => by
  have nl' := nl.stq s
  have r' := r.stq s
  refine ⟨⟨vs, .of nl'.2, by rw [← r.length]; simp [numbered]⟩, fun i d h => ?_⟩
  simp only [numbered, List.getElem?_map] at h
  cases e : (List.range l.length)[i]? with
  | none => rw [e] at h; cases h
  | some c =>
    rw [e] at h
    obtain ⟨hi, e2⟩ := List.getElem?_eq_some_iff.mp e
    rw [List.length_range] at hi
    rw [List.getElem_range] at e2
    subst e2
    have hd : l[i]? = some l[i] := List.getElem?_eq_getElem hi
    obtain ⟨v, ev, rv⟩ := r'.get hd
    have h : D.tup [.int (i : Int), l.getD i .none] = d := Option.some.inj h
    rw [List.getD_eq_getElem?_getD, hd] at h
    subst h
    refine ⟨⟨vs, v, .of nl'.2, ev⟩, fun x H2 y => ?_⟩
    obtain ⟨T, x', rfl, nT, rfl, y⟩ := y
    have := y vs (.of nl'.2)
    rw [ev] at this
    cases this
    exact ⟨Ext.upd nT, fun hs => tup2_new hs nT (by simp only [Rep]) rv⟩
theorem di_enumA {e : Expr} {m : M D} {elts : List Expr} {kk : Nat} {p pos tpos : Pos} (hg : Gl X "enumerate") (hm : X.mg "enumerate" = none) (h : DE X b e m) (hs : starEach [e] X.env = [(false, eval e X.env)] := by rfl) :
    DI X b (.Tuple elts kk tpos) (.Call (.Name "enumerate" p) [e] [] pos) (iEnumA m) := by
  refine PI.imp (pi_enumA hg hm (pa_cons h pa_nil hs) hs) fun σ H R ⟨lb, ρ, s, o, h⟩ => ⟨lb, ρ, s, o, (Post.bind h).mono fun d ρ1 s1 lb1 H1 st o1 q => fun v H2 ex r => ?_⟩
  have o2 := o1.ext ex
  have q := Post.from q (o1.stp_ext ex)
  cases d with
  | lst l =>
    simp only [Rep] at r
    obtain ⟨a, vs, rfl, nl, z, rl⟩ := r
    exact ⟨a, vs, rfl, .inl ⟨.of nl.2, q lb1 H2 .refl o2 (by simpa [numbered] using z) _ H2 .refl (itOk_e nl rl)⟩⟩
  | tup l =>
    simp only [Rep] at r
    obtain ⟨a, vs, rfl, nl, z, rl⟩ := r
    exact ⟨a, vs, rfl, .inr ⟨.of nl.2, q lb1 H2 .refl o2 (by simpa [numbered] using z) _ H2 .refl (itOk_eT nl rl)⟩⟩
  | _ => exact False.elim q
end
end Pk
/-! Br19: t[::-1] of a tuple; reversed(range(..)). -/
namespace Pk
open PySem PySem.Spec PyProof.Rows L2 HT
theorem rev_places (n : Nat) : Builtin.Slice.slicePlaces ((n : Int) - 1) (-1) (-1) = n := by
  unfold Builtin.Slice.slicePlaces
  have h1 : ¬ ((-1 : Int) > 0) := by omega
  simp only [h1, if_false, Int.neg_neg, Int.ediv_one]
  split <;> omega
theorem rev_adjust (n : Nat) : Builtin.Slice.sliceAdjust none none (-1) (n : Int) = ((n : Int) - 1, -1) := by
  unfold Builtin.Slice.sliceAdjust
  simp
theorem fm_map {α β : Type} {f : α → Option β} {g : α → β} : ∀ {l : List α}, (∀ m ∈ l, f m = some (g m)) → l.filterMap f = l.map g
  | [], _ => rfl
  | x :: l, h => by rw [List.filterMap_cons, h x List.mem_cons_self, List.map_cons, fm_map fun m hm => h m (List.mem_cons_of_mem _ hm)]
theorem rev_pick (xs : Array Value) : ((List.range xs.size).filterMap fun (m : Nat) => xs[(((xs.size : Int) - 1) + (m : Int) * (-1)).toNat]?).toArray = xs.toList.reverse.toArray := by
  congr 1
  have e : ∀ m ∈ List.range xs.size, xs[(((xs.size : Int) - 1) + (m : Int) * (-1)).toNat]? = some (xs.toList.reverse.getD m .none) := fun m hm => by
    have hm := List.mem_range.mp hm
    have h1 : (((xs.size : Int) - 1) + (m : Int) * (-1)).toNat = xs.size - 1 - m := by omega
    rw [h1, List.getD_eq_getElem?_getD, List.getElem?_reverse (by simpa using hm)]
    simp
    rw [Array.getElem?_eq_getElem (by omega)]
    rfl
  have e2 : (List.range xs.size).filterMap (fun (m : Nat) => xs[(((xs.size : Int) - 1) + (m : Int) * (-1)).toNat]?) = (List.range xs.size).map fun m => xs.toList.reverse.getD m .none := fm_map e
  rw [e2]
  apply List.ext_getElem
  · simp
  · intro i h1 h2
    rw [List.getElem_map, List.getElem_range, List.getD_eq_getElem?_getD, List.getElem?_eq_getElem h2]
    rfl
section
variable {prog : Program} {w : World} {A : Around} {E : Value → Shared → Prop} {s : Shared}
theorem rev_applied {sl : Addr} {vl vu vs : Value} {n : Nat} {Q : Int × Int × Nat → Shared → Prop} (hs : s.heap.IsSliceOf sl vl vu vs) (pl : IsPart vl none) (pu : IsPart vu none) (ps : IsPart vs (some (-1)))
    (h : Q ((n : Int) - 1, -1, n) s) : wpAny (model prog w) A (Builtin.Slice.sliceApplied (.ref sl) (pure (n : Int))) Q E s := by
  obtain ⟨os, hos, hcs, hds⟩ := id hs
  unfold Builtin.Slice.sliceApplied Builtin.Slice.sliceFields
  refine wpAny_bind (wpAny_bind (wpAny_field hos hds (x := vl) rfl (wpAny_bind (wpAny_field hos hds (x := vu) rfl (wpAny_bind (wpAny_field hos hds (x := vs) rfl (wpAny_pure ?_)))))))
  refine wpAny_bind (slicePart_ ps ?_)
  show wpAny _ _ (if ((-1 : Int) == 0) = true then _ else _) _ _ s
  rw [if_neg (by decide)]
  refine wpAny_bind (slicePart_ pl (wpAny_bind (slicePart_ pu (wpAny_bind (wpAny_pure ?_)))))
  show wpAny _ _ (match Builtin.Slice.sliceAdjust none none (-1) (n : Int) with | (lo, hi) => pure (lo, (-1 : Int), Builtin.Slice.slicePlaces lo hi (-1))) _ _ s
  rw [rev_adjust n]
  show wpAny _ _ (pure ((n : Int) - 1, (-1 : Int), Builtin.Slice.slicePlaces ((n : Int) - 1) (-1) (-1))) _ _ s
  rw [rev_places]
  exact wpAny_pure h
theorem getItem_tuple_rev {t sl : Addr} {items : Array Value} {vl vu vs : Value} {Q : Value → Shared → Prop} (ht : IsTup s.heap t items) (hs : s.heap.IsSliceOf sl vl vu vs) (pl : IsPart vl none) (pu : IsPart vu none) (ps : IsPart vs (some (-1)))
    (h : Q (.ref s.heap.objs.size) { s with heap := s.heap.push { cls := .type "tuple", data := .seq items.toList.reverse.toArray } }) (hsz : items.size ≤ sizeLine) : wpAny (model prog w) A (getItem (.ref t) (.ref sl)) Q E s := by
  have htake : sizeOk (.seq items.toList.reverse.toArray) := by
    show items.toList.reverse.toArray.size ≤ sizeLine
    rw [List.size_toArray, List.length_reverse, Array.length_toList]
    exact hsz
  obtain ⟨os, hos, hcs, hds⟩ := id hs
  have hTs : s.TypeIs (.ref sl) "slice" := ⟨os, hos, hcs⟩
  unfold getItem
  try with_reducible refine wpAny_holding ?_
  first | refine wpAny_bind (wpAny_pure ?_) | skip
  refine wpAny_bind (wpAny_sequenceKey ht.typeIs (by decide) ?_)
  refine wpAny_bind (wpAny_callSpecial?_slot (name := Str.ofString "__getitem__") ht.typeIs PyProof.Rows.slot_tuple_getitem (wpAny_call_entry PyProof.Rows.slot_tuple_getitem ht.typeIs PyProof.Rows.entry_tuple_getitem ?_ (PyProof.Rows.args_tuple_getitem _ _)))
  show wpAny _ _ (Builtin.Tuple.tupleItemsOf (.ref t) >>= _) _ _ s
  refine wpAny_bind (tupleItemsOf_ ht (wpAny_bind (wpAny_typeOf hTs ?_)))
  rw [if_pos (by decide)]
  refine wpAny_bind (rev_applied hs pl pu ps ?_)
  have hno : ¬ ((((items.size : Int) - 1) == 0 && (-1 : Int) == 1 && items.size == items.size) = true) := by simp
  show wpAny _ _ (if (((items.size : Int) - 1) == 0 && (-1 : Int) == 1 && items.size == items.size) = true then _ else _) _ _ s
  rw [if_neg hno, rev_pick]
  first
    | exact wpAny_bind (m := Builtin.Tuple.tupleExact _) (wpAny_newObj_type (wpAny_pure ⟨_, rfl, wpAny_pure h⟩) htake)
    | exact wpAny_bind (wpAny_bind (m := Builtin.Tuple.tupleExact _) (wpAny_newObj_type (wpAny_pure (wpAny_pure ⟨_, rfl, wpAny_pure h⟩)) htake))
    | exact wpAny_bind (wpAny_bind (m := Builtin.Tuple.tupleExact _) (wpAny_newObj_type (wpAny_pure ⟨_, rfl, wpAny_pure h⟩) htake))
end
section
variable {X : Cx} {b : Bd} {n : Nat}
def rRevA (K : PySem.W.Frag) : V → Hp → VK → Prop := fun x H1 Q => ∃ a xs, x = .ref a ∧ ((SqL K H1 a xs ∧ ∀ p, H1 p = none → Q (.ref p) (L2.upd H1 p (.lst xs.reverse))) ∨ (SqT K H1 a xs ∧ ∀ p, H1 p = none → Q (.ref p) (L2.upd H1 p (.tup xs.reverse))))
theorem pe_revA {e : Expr} {te : TE} {k : Nat} {p1 p2 p3 pos : Pos} (he : PE X e te) : PE X (.Subscript e (.Slice none none (some (.UnaryOp .USub (.Constant (.int 1) k p1) p2)) p3) pos) (tOp1 (rRevA X.K) te) := by
  refine ⟨fun pins s σ H Q I h => ?_⟩
  refine Subscript_ (thn (he.run pins s σ H _ I h) fun v s1 ⟨x, H1, I1, r1, q1⟩ => ?_)
  obtain ⟨a, xs, ex, hxq⟩ := q1
  subst ex
  cases r1
  have hst : PO X (some (.UnaryOp .USub (.Constant (.int 1) k p1) p2)) (tPart (tUn (rU fun i => .int (-i)) (tC (.int 1)))) := po_some (pe_un un_neg pe_int)
  refine wpAny_Slice (thn (po_none.run pins s1 σ H1 (fun o H2 => o = none ∧ H2 = H1) I1 ⟨rfl, rfl⟩) fun vl s2 ⟨l, H2, I2, pl, el, e2⟩ => ?_)
  subst el e2
  refine thn (po_none.run pins s2 σ H2 (fun o H3 => o = none ∧ H3 = H2) I2 ⟨rfl, rfl⟩) fun vu s3 ⟨u, H3, I3, pu, eu, e3⟩ => ?_
  subst eu e3
  refine thn (hst.run pins s3 σ H3 (fun o H4 => o = some (-1) ∧ H4 = H3) I3 ⟨1, rfl, -1, rfl, rfl, rfl⟩) fun vs s4 ⟨o, H4, I4, ps, eo, e4⟩ => ?_
  subst eo e4
  have I5 : Inv X pins σ H4 { s4 with heap := s4.heap.push { cls := .type "slice", data := .fields #[vl, vu, vs] } } := I4.kept (t' := s4.toks) fun b ob q => Heap.get?_push_of_some _ q
  show wpAny (model X.prog X.w) X.A (subscriptTail e (.Slice none none (some (.UnaryOp .USub (.Constant (.int 1) k p1) p2)) p3) (.ref a) (.ref s4.heap.objs.size)) (EP X pins σ Q) X.xe { s4 with heap := s4.heap.push { cls := .type "slice", data := .fields #[vl, vu, vs] } }
  rcases hxq with ⟨hx, q⟩ | ⟨hx, q⟩
  · obtain ⟨its, r, ht, hz⟩ := I5.list hx
    have hlen := r.length
    refine tail_any (ops := [.ref a, .ref s4.heap.objs.size]) ht.isList.typeIs (PySem.slot_list_getitem.lookup) ?_ (by with_unfolding_all rfl)
    refine wpAny_getItem_list_slice ht.isList (Heap.IsSliceOf.new _ vl vu vs) pl pu ps (by decide) ?_ (by rw [List.size_toArray]; omega)
    rw [PySem.W.krv_pick]
    refine ⟨.ref _, _, I5.laid (t' := s4.toks) (o := .lst xs.reverse) (fun b ob q => Heap.get?_push_of_some _ q) (Nat.le_refl _) ?_, rfl, q _ (I5.hok.fresh (Nat.le_refl _))⟩
    exact ⟨by rw [List.length_reverse]; exact hz, _, 0, r.reverse, Heap.get?_push_size _ rfl⟩
  · obtain ⟨its, r, ht, hz⟩ := I5.tuple hx
    have hlen := r.length
    refine tail_any (ops := [.ref a, .ref s4.heap.objs.size]) ht.typeIs (PyProof.Rows.slot_tuple_getitem.lookup) ?_ (by with_unfolding_all rfl)
    refine getItem_tuple_rev ht (Heap.IsSliceOf.new _ vl vu vs) pl pu ps ?_ (by rw [List.size_toArray]; omega)
    refine ⟨.ref _, _, I5.laid (t' := s4.toks) (o := .tup xs.reverse) (fun b ob q => Heap.get?_push_of_some _ q) (Nat.le_refl _) ?_, rfl, q _ (I5.hok.fresh (Nat.le_refl _))⟩
    exact ⟨by rw [List.length_reverse]; exact hz, _, r.reverse, ⟨_, Heap.get?_push_size _ rfl, rfl, _, rfl⟩⟩
theorem KV_lst {cn : Cn} {lb : Lb} {H : Hp} {d : List D} {Q : VK} (k : KV cn lb H (.lst d) Q) (hs : Has lb H) {vs : List V} {p : Addr} (np : H p = none) (r : RepL cn lb H d vs) (z : d.length ≤ SZ) : Q (.ref p) (L2.upd H p (.lst vs)) :=
  (Kt.kf (fresh := false) hs k : KF cn lb H (.lst d) Q) p _ np ⟨vs, rfl, z, r⟩
theorem de_rev {ea : Expr} {a : Opd} {k : Nat} {p1 p2 p3 pos : Pos} (g : Gd n X b) (ha : DO X b ea a) : DE X b (.Subscript ea (.Slice none none (some (.UnaryOp .USub (.Constant (.int 1) k p1) p2)) p3) pos) (e1 pRev a) := by
  refine PE.imp (pe_revA ha.pe) fun σ H Q h => ?_
  refine t1_run (r := rRevA X.K) (fun lb H x d e Q hs r h k => ?_) h
  have k : KV b.cn lb H e Q := k
  cases d with
  | lst l =>
    cases h
    obtain ⟨p, vs, rfl, hp, z, rl⟩ := r.lst
    exact ⟨p, vs, rfl, .inl ⟨.of hp, fun p2 np => KV_lst k hs np rl.reverse (by rw [List.length_reverse]; exact z)⟩⟩
  | tup l =>
    cases h
    obtain ⟨p, vs, rfl, hp, z, rl⟩ := r.tup
    exact ⟨p, vs, rfl, .inr ⟨.of hp, fun p2 np => KV.tup k hs np rl.reverse (by rw [List.length_reverse]; exact z)⟩⟩
  | _ => cases h
theorem itOk_c {cn : Cn} {lb : Lb} {H : Hp} (j lo : Int) (m : Nat) (hlo : 0 < m → lo = j - 1) : ItOk cn lb H ((List.range m).map fun (k : Nat) => .int (j - 1 - (k : Int))) (Itc lo (-1) m) := fun lb' H' s => by
  refine ⟨by show m ≤ _; rw [List.length_map, List.length_range]; exact Nat.le_refl _, fun i d h => ?_⟩
  rw [List.getElem?_map] at h
  cases e : (List.range m)[i]? with
  | none => rw [e] at h; cases h
  | some c =>
    rw [e] at h
    cases h
    obtain ⟨hi, e2⟩ := List.getElem?_eq_some_iff.mp e
    rw [List.length_range] at hi
    rw [List.getElem_range] at e2
    subst e2
    refine ⟨hi, fun y H2 z => ?_⟩
    obtain ⟨rfl, rfl⟩ := z
    have el := hlo (by omega)
    have ee : lo + (i : Int) * (-1) = j - 1 - (i : Int) := by omega
    exact ⟨.refl, fun _ => by simp only [Rep]; rw [ee]⟩
theorem di_revR1 {tg e : Expr} {m : M D} {p p2 pos pos2 : Pos} (hg : Gl X "reversed") (hm : X.mg "reversed" = none) (hg2 : Gl X "range") (hm2 : X.mg "range" = none) (h : DE X b e m) (na : starEach [e] X.env = (false, eval e X.env) :: starEach [] X.env := by rfl)
    (hs : starEach [Expr.Call (.Name "range" p2) [e] [] pos2] X.env = (false, eval (.Call (.Name "range" p2) [e] [] pos2) X.env) :: starEach [] X.env := by rfl) :
    DI X b tg (.Call (.Name "reversed" p) [.Call (.Name "range" p2) [e] [] pos2] [] pos) (iRevR1 m) := by
  refine PI.imp (pi_revR hg hm (prg_1 hg2 hm2 h na) hs) fun σ H R ⟨lb, ρ, s, o, h⟩ => ⟨lb, ρ, s, o, (Post.bind h).mono fun d ρ1 s1 lb1 H1 st o1 q => fun v H2 ex r => ?_⟩
  have o2 := o1.ext ex
  have q := Post.from q (o1.stp_ext ex)
  cases d with
  | int j =>
    simp only [Rep] at r
    subst r
    simp only at q
    split at q
    · rename_i hj
      simp only [small, Bool.and_eq_true, lim_iff] at hj
      have e0 : (j - 0).toNat = j.toNat := by omega
      refine ⟨j, rfl, by omega, by omega, hj.1.1, hj.1.2, ?_⟩
      rw [e0]
      refine q lb1 H2 .refl o2 ?_ _ H2 .refl (itOk_c j _ j.toNat fun hp => by omega)
      simp only [List.length_map, List.length_range]
      omega
    · exact False.elim q
  | _ => exact False.elim q
end
end Pk
/-! Br20: x[lo:hi] of lists and tuples. -/
namespace Pk
open PySem PySem.Spec PyProof.Rows L2
section
variable {X : Cx} {b : Bd} {n : Nat}
def tPt (b : Bd) (m : Option (M D)) : TO := fun σ H R => ∃ lb ρ s, Ok b lb ρ s σ H ∧ Post b σ lb H (eOpt m ρ s) fun o _ _ _ H' => ∀ H2, Ext H' H2 → R o H2
abbrev DP (X : Cx) (b : Bd) (e : Option Expr) (m : Option (M D)) : Prop := PO X e (tPt b m)
theorem dp_none : DP X b none none := ⟨fun pins s σ H Q I h => po_none.run pins s σ H Q I (by
  obtain ⟨lb, ρ, t, o, p⟩ := h
  exact p lb H .refl o H .refl)⟩
theorem dp_some {e : Expr} {m : M D} (h : DE X b e m) : DP X b (some e) (some m) := ⟨fun pins s σ H Q I q => (po_some h).run pins s σ H Q I (by
  obtain ⟨lb, ρ, t, o, p⟩ := q
  refine ⟨lb, ρ, t, o, (Post.bind p).mono fun d ρ1 s1 lb1 H1 st o1 q v H2 ex r => ?_⟩
  have q := Post.from q (o1.stp_ext ex)
  cases d with
  | int i =>
    simp only [Rep] at r
    subst r
    exact ⟨i, rfl, q lb1 H2 .refl (o1.ext ex) H2 .refl⟩
  | _ => exact False.elim q)⟩
theorem cut_ix (n d : Nat) (lo : Option Int) : HT.sIx n d lo = cutIx n d lo := by cases lo <;> rfl
theorem repL_drop {cn : Cn} {lb : Lb} {H : Hp} : ∀ (i : Nat) {l : List D} {vs : List V}, RepL cn lb H l vs → RepL cn lb H (l.drop i) (vs.drop i)
  | 0, _, _, r => r
  | i + 1, [], _, r => by simp only [RepL] at r; subst r; exact .nil
  | i + 1, d :: l, _, r => by
    obtain ⟨v, r', rfl, _, r2⟩ := r
    exact repL_drop i r2
theorem repL_take {cn : Cn} {lb : Lb} {H : Hp} : ∀ (i : Nat) {l : List D} {vs : List V}, RepL cn lb H l vs → RepL cn lb H (l.take i) (vs.take i)
  | 0, _, _, r => by rw [List.take_zero, List.take_zero]; exact .nil
  | i + 1, [], _, r => by simp only [RepL] at r; subst r; exact .nil
  | i + 1, d :: l, _, r => by
    obtain ⟨v, r', rfl, r1, r2⟩ := r
    exact .cons r1 (repL_take i r2)
theorem repL_cut {cn : Cn} {lb : Lb} {H : Hp} {l : List D} {vs : List V} (r : RepL cn lb H l vs) (lo hi : Option Int) : RepL cn lb H (cutL l lo hi) (cutV vs lo hi) := by
  unfold cutL cutV
  rw [cut_ix, cut_ix, ← r.length]
  exact repL_take _ (repL_drop _ r)
theorem cutL_len (l : List D) (lo hi : Option Int) : (cutL l lo hi).length ≤ l.length := by
  unfold cutL
  rw [List.length_take, List.length_drop]
  omega
theorem de_cut {ea : Expr} {lo hi : Option Expr} {a : Opd} {ml mh : Option (M D)} {p2 pos : Pos} (g : Gd n X b) (ha : DO X b ea a) (hl : DP X b lo ml) (hh : DP X b hi mh) : DE X b (.Subscript ea (.Slice lo hi none p2) pos) (eCut a ml mh) := by
  refine PE.imp (pe_slice (sl_list.or sl_tupA) ha.pe hl hh) fun σ H Q ⟨lb, ρ, s, o, h⟩ => ?_
  refine tOpd_run o (Post.bind h) fun x ρ1 s1 lb1 H1 v st o1 q sd => ?_
  refine ⟨lb1, ρ1, s1, o1, (Post.bind q).mono fun l0 ρ2 s2 lb2 H2 st2 o2 q2 => fun H2' ex => ?_⟩
  have o2' := o2.ext ex
  have q2' := Post.from q2 (o2.stp_ext ex)
  refine ⟨lb2, ρ2, s2, o2', (Post.bind q2').mono fun u0 ρ3 s3 lb3 H3 st3 o3 q3 => fun H3' ex3 => ?_⟩
  have o3' := o3.ext ex3
  have q3' := Post.from q3 (o3.stp_ext ex3)
  obtain ⟨e, e1, k⟩ := opt_post o3' q3'
  have k : KV b.cn lb3 H3' e Q := k
  cases e2 : look ρ3 x with
  | none => rw [e2] at e1; cases e1
  | some d =>
    rw [e2] at e1
    have r : RepB b.cn lb3 H3' d v := ((((sd.stp st2).stp (o2.stp_ext ex)).stp st3).stp (o3.stp_ext ex3)).look o3' e2
    cases d with
    | lst l =>
      cases e1
      obtain ⟨p, vs, rfl, hp, z, rl⟩ := r.lst
      exact .inl ⟨p, vs, rfl, .of hp, fun p3 np => KV_lst k o3'.has np (repL_cut rl l0 u0) (Nat.le_trans (cutL_len _ _ _) z)⟩
    | tup l =>
      cases e1
      have rf := r.flat (fun _ e => nomatch e) (fun _ _ e => nomatch e)
      obtain ⟨p, vs, rfl, hp, z, rl⟩ := r.tup
      refine .inr ⟨p, vs, rfl, .of hp, fun hw => ?_, fun _ p3 np => KV.tup k o3'.has np (repL_cut rl l0 u0) (Nat.le_trans (cutL_len _ _ _) z)⟩
      have ew : cutL l l0 u0 = l := by
        unfold cutL
        rw [cut_ix, cut_ix, ← rl.length] at hw
        rw [hw.1, hw.2]
        simp
      rw [ew] at k
      exact KV.now k rf
    | _ => cases e1
end
end Pk
/-! Br21: zip of two lists, of two tuples. -/
namespace Pk
open PySem PySem.Spec PyProof.Rows L2
section
variable {X : Cx} {b : Bd} {n : Nat}
theorem paired_get {l m : List D} {i : Nat} {d : D} (h : (paired l m)[i]? = some d) : ∃ x y, l[i]? = some x ∧ m[i]? = some y ∧ d = .tup [x, y] := by
  simp only [paired, List.getElem?_map] at h
  cases e : (List.range (min l.length m.length))[i]? with
  | none => rw [e] at h; cases h
  | some c =>
    rw [e] at h
    obtain ⟨hi, e2⟩ := List.getElem?_eq_some_iff.mp e
    rw [List.length_range] at hi
    rw [List.getElem_range] at e2
    subst e2
    have h1 : i < l.length := by omega
    have h2 : i < m.length := by omega
    refine ⟨l[i], m[i], List.getElem?_eq_getElem h1, List.getElem?_eq_getElem h2, ?_⟩
    have h : D.tup [l.getD i .none, m.getD i .none] = d := Option.some.inj h
    rw [List.getD_eq_getElem?_getD, List.getD_eq_getElem?_getD, List.getElem?_eq_getElem h1, List.getElem?_eq_getElem h2] at h
    exact h.symm
theorem paired_len (l m : List D) : (paired l m).length = min l.length m.length := by simp [paired]
theorem itOk_z {cn : Cn} {lb : Lb} {H : Hp} {K : PySem.W.Frag} {a c : Addr} {l m : List D} {vs ws : List V} (nl : NL lb H a vs) (nm : NL lb H c ws) (r : RepL cn lb H l vs) (q : RepL cn lb H m ws) : ItOk cn lb H (paired l m) (Itz K a c) := fun lb' H' s => by
  have nl' := nl.stq s
  have nm' := nm.stq s
  have r' := r.stq s
  have q' := q.stq s
  refine ⟨⟨vs, ws, .of nl'.2, .of nm'.2, by rw [paired_len, ← r.length, ← q.length]; omega⟩, fun i d h => ?_⟩
  obtain ⟨x, y, hx, hy, rfl⟩ := paired_get h
  obtain ⟨v, ev, rv⟩ := r'.get hx
  obtain ⟨u, eu, ru⟩ := q'.get hy
  refine ⟨⟨vs, ws, v, u, .of nl'.2, .of nm'.2, ev, eu⟩, fun z H2 y2 => ?_⟩
  obtain ⟨T, x', y', rfl, nT, rfl, k1, k2⟩ := y2
  have j1 := k1 vs (.of nl'.2)
  have j2 := k2 ws (.of nm'.2)
  rw [ev] at j1
  rw [eu] at j2
  cases j1
  cases j2
  exact ⟨Ext.upd nT, fun hs => tup2_new hs nT rv ru⟩
theorem itOk_zT {cn : Cn} {lb : Lb} {H : Hp} {K : PySem.W.Frag} {a c : Addr} {l m : List D} {vs ws : List V} (nl : NT lb H a vs) (nm : NT lb H c ws) (r : RepL cn lb H l vs) (q : RepL cn lb H m ws) : ItOk cn lb H (paired l m) (RZ.ItzT K a c) := fun lb' H' s => by
  have nl' := nl.stq s
  have nm' := nm.stq s
  have r' := r.stq s
  have q' := q.stq s
  refine ⟨⟨vs, ws, .of nl'.2, .of nm'.2, by rw [paired_len, ← r.length, ← q.length]; omega⟩, fun i d h => ?_⟩
  obtain ⟨x, y, hx, hy, rfl⟩ := paired_get h
  obtain ⟨v, ev, rv⟩ := r'.get hx
  obtain ⟨u, eu, ru⟩ := q'.get hy
  refine ⟨⟨vs, ws, v, u, .of nl'.2, .of nm'.2, ev, eu⟩, fun z H2 y2 => ?_⟩
  obtain ⟨T, x', y', rfl, nT, rfl, k1, k2⟩ := y2
  have j1 := k1 vs (.of nl'.2)
  have j2 := k2 ws (.of nm'.2)
  rw [ev] at j1
  rw [eu] at j2
  cases j1
  cases j2
  exact ⟨Ext.upd nT, fun hs => tup2_new hs nT rv ru⟩
theorem di_zip {ea ec : Expr} {ma mc : M D} {elts : List Expr} {kk : Nat} {p pos tpos : Pos} (hg : Gl X "zip") (hm : X.mg "zip" = none) (h : DA X b [ea, ec] [ma, mc])
    (hs : starEach [ea, ec] X.env = (false, eval ea X.env) :: starEach [ec] X.env := by rfl) (hpl : (backTo pos (starEach [ec] X.env)).any (·.1) = false := by rfl) :
    DI X b (.Tuple elts kk tpos) (.Call (.Name "zip" p) [ea, ec] [] pos) (iZip ma mc) := by
  refine PI.imp (RZ.pi_zipA hg hm h hs hpl) fun σ H R ⟨lb, ρ, s, o, h⟩ => ⟨lb, ρ, s, o, (Post.bind h).mono fun ds ρ1 s1 lb1 H1 st o1 q => fun vs H2 ex r => ?_⟩
  have o2 := o1.ext ex
  have q := Post.from q (o1.stp_ext ex)
  obtain ⟨d1, ds1, rfl⟩ : ∃ d1 ds1, ds = d1 :: ds1 := by
    cases ds with
    | nil => exact False.elim q
    | cons d1 ds1 => exact ⟨d1, ds1, rfl⟩
  obtain ⟨d2, ds2, rfl⟩ : ∃ d2 ds2, ds1 = d2 :: ds2 := by
    cases ds1 with
    | nil => cases d1 <;> exact False.elim q
    | cons d2 ds2 => exact ⟨d2, ds2, rfl⟩
  obtain ⟨v, r2, rfl, r3, u, r4, rfl, r5, r6⟩ := r
  cases ds2 with
  | cons d3 ds3 => cases d1 <;> cases d2 <;> exact False.elim q
  | nil =>
    simp only [RepL] at r6
    subst r6
    cases d1 with
    | lst l =>
      cases d2 with
      | lst m =>
        simp only [Rep] at r3 r5
        obtain ⟨a, ws, rfl, nl, z, rl⟩ := r3
        obtain ⟨c, ys, rfl, nm, z2, rm⟩ := r5
        exact ⟨a, c, ws, ys, rfl, .inl ⟨.of nl.2, .of nm.2, q lb1 H2 .refl o2 (by rw [paired_len]; omega) _ H2 .refl (itOk_z nl nm rl rm)⟩⟩
      | _ => exact False.elim q
    | tup l =>
      cases d2 with
      | tup m =>
        simp only [Rep] at r3 r5
        obtain ⟨a, ws, rfl, nl, z, rl⟩ := r3
        obtain ⟨c, ys, rfl, nm, z2, rm⟩ := r5
        exact ⟨a, c, ws, ys, rfl, .inr ⟨.of nl.2, .of nm.2, q lb1 H2 .refl o2 (by rw [paired_len]; omega) _ H2 .refl (itOk_zT nl nm rl rm)⟩⟩
      | _ => exact False.elim q
    | _ => exact False.elim q
end
end Pk
/-! Br22: raise X('..'). -/
namespace Pk
open PySem PySem.Spec PyProof.Rows L2
/-- the class number k stands in the text as x: an own error over ValueError without an own __init__ -/
structure ErrC (cn : Cn) (mg : Str → Option Value) (k : Nat) (x : Str) : Prop where
  ex : PySem.W.excIn cn.K (cn.cls k) He.veBase "ValueError.__new__" = true
  at_ : mg x = some (.ref (cn.cls k))
  kp : PySem.W.keepIn cn.K (.ref (cn.cls k)) = true
  sub : PySem.W.subIn cn.K (.ref (cn.cls k)) (.type "BaseException") = some true
  ty : PySem.W.typeIn cn.K (.ref (cn.cls k)) = some (.type "type")
section
variable {X : Cx} {b : Bd} {n : Nat}
theorem ds_raiseT {k j : Nat} {x m : Str} {mg : Str → Option Value} {p p2 pos pos' : Pos} {initId : String} (g : Gd n X b) (hm : X.mg = mg) (F : ExcBaseFacts "ValueError" "ValueError.__new__" initId He.veBase) (C : ErrC b.cn mg k x) (hg : Gl X x) (hdb : (x == ("__debug__" : Str)) = false := by decide) :
    DS X b (.Raise (some (.Call (.Name x p) [.Constant (.str m) j p2] [] pos)) none pos') (sRaise k .none) := by
  subst hm
  obtain ⟨c1, c2, c3, c4, c5⟩ := C
  have kk := g.kk
  rw [kk] at c1 c3 c4 c5
  refine PS.imp (ps_raise g.calm g.tk (pmk_own F c1 c2 c3 (raises_own c4 c5) hg hdb)) fun D σ H ⟨lb, ρ, s, o, h⟩ => ?_
  exact h lb σ H _ _ .refl o ⟨rfl, rfl⟩
end
end Pk
/-! Br23: try: .. except X as e: .. , several clauses with the same name. -/
namespace Pk
open PySem PySem.Spec PyProof.Rows L2
/-- what the clauses wish of an exception of the body, one after the other; slot i is the name's -/
def wAsM (K : PySem.W.Frag) (i : Nat) (Wout : WX) (D : Ends) : List (Value × (Addr → Value → Option Addr → TS)) → WX
  | [] => Wout
  | (c, ts) :: r => fun cls d σ H => ∃ b, PySem.W.exmOne K cls c = some b ∧
      (b = true → ∀ a, H a = none → i < σ.length → ts a cls d { nx := fun σ' H' => D.nx (σ'.set i none) H', rt := D.rt, bk := fun σ' H' => D.bk (σ'.set i none) H', ct := fun σ' H' => D.ct (σ'.set i none) H' } (σ.set i (some (.ref a))) H) ∧
      (b = false → wAsM K i Wout D r cls d σ H)
inductive HdsAs (X : Cx) (n : Str) : List ExceptHandler → List (Value × (Addr → Value → Option Addr → TS)) → Prop
  | nil : HdsAs X n [] []
  | cons {x : Str} {c : Value} {ts : Addr → Value → Option Addr → TS} {b₀ : Stmt} {suite : List Stmt} {np pos' : Pos} {hds : List ExceptHandler} {l : List (Value × (Addr → Value → Option Addr → TS))} (hc : Names X x c)
      (hsu : ∀ (a : Addr) (oe : Obj) (cls : Value) (d : Option Addr) (pn : List (Addr × Obj)), Zc cls d oe → (∃ vs, oe.data = .fields vs) → PSs (X.suite a ((a, oe) :: pn)) (b₀ :: suite) (ts a cls d)) (r : HdsAs X n hds l) :
      HdsAs X n (.ExceptHandler (some (.Name x np)) (some n) (b₀ :: suite) pos' :: hds) ((c, ts) :: l)
section
variable {X : Cx} {n : Str} {i : Nat} {body : List Stmt} {h₀ : ExceptHandler} {hds : List ExceptHandler} {l : List (Value × (Addr → Value → Option Addr → TS))} {pos : Pos} {tb : WX → TS} {Wout : WX}
theorem ps_try_asM (hs : X.stack = X.env :: X.outer) (hf : X.env.frame = some X.env.locals) (hN : X.N.Nodup) (hi : X.N[i]? = some n) (hln : X.env.kindOf n = some .local) (tk : Takes X Wout)
    (hb : ∀ (W : WX) (pn : List (Addr × Obj)) (xe : Value → Shared → Prop), Takes (X.tr pn xe) W → PassesOwn (model X.prog X.w) X.A X.env xe → PSs (X.tr pn xe) body (tb W))
    (hh : HdsAs X n (h₀ :: hds) l) : PS X (.Try body (h₀ :: hds) [] [] pos) (fun D σ H => tb (wAsM X.K i Wout D l) D σ H) := by
  refine ⟨fun pins s σ H D I h => ?_⟩
  have ok := I.ok
  have hfr : X.A.frames = some (X.env :: X.outer) := by rw [ok.frames, hs]
  have hloc : Loc X.env.scope n := .inl hln
  refine wpAny_Try_except ?_
  refine wpAny_mono ((hb (wAsM X.K i Wout D l) (X.pn ++ pins) (fun e s₁ => wpAny (model X.prog X.w) X.A (noteFrame e X.env) (fun _ s₂ => wpAny (model X.prog X.w) X.A (setFlight e none) (fun _ s₃ =>
    wpAny (model X.prog X.w) X.A (handleBy e X.env (h₀ :: hds)) (SP X pins D) X.xe s₃) X.xe s₂) X.xe s₁) (fun u s' xx => ?_) PassesOwn.looking).run [] s σ H D (I.toTry _) h) (fun f s1 hsp => ?_) (fun e s1 he => he)
  · -- the catch
    obtain ⟨a, B, sI, pins', σ', H', cls, d, rfl, J', nb, up, sky, na, os, ag, w⟩ := xx
    have J : Inv X pins σ' H' sI := J'.ofTry ok
    have sky' : Sky B (X.env :: X.outer) a (Zc cls d) X.env.locals s'.heap := by rw [← hs]; exact sky
    show wpAny (model X.prog X.w) X.A (noteFrame (.ref a) X.env) _ _ _
    refine Sky.land Zc.steady hfr hf sky' fun h3 fl3 up3 => ?_
    have J3 : Inv X pins σ' H' { s' with heap := h3 } := J.landed nb fl3.1 (up.trans up3) os ag
    obtain ⟨oe3, vs3, he3, hz3, hd3⟩ := fl3.there
    have notFr : ∀ {h : Heap} {o : Obj} {vs : Array Value}, h.FunFrames B (X.env :: X.outer) → h.get? a = some o → o.data = .fields vs → a ∉ frs (X.env :: X.outer) := fun {h o vs} ff e dd hm => by
      obtain ⟨_, o', e', hnf⟩ := ff.mem hm
      rw [e] at e'; cases e'
      exact hnf _ dd
    have nfr := notFr fl3.2.2.1 he3 hd3
    have nL : a ≠ X.env.locals := fun z => nfr (List.mem_filterMap.mpr ⟨X.env, List.mem_cons_self, by rw [hf, z]⟩)
    have nF : a ∉ X.fs := fun hm => by
      obtain ⟨e, he, q⟩ := List.mem_filterMap.mp hm
      exact nfr (List.mem_filterMap.mpr ⟨e, List.mem_cons_of_mem _ he, q⟩)
    have S3 := J3.suite he3 hd3 na nL nF
    have go : ∀ {hds' : List ExceptHandler} {l' : List (Value × (Addr → Value → Option Addr → TS))}, HdsAs X n hds' l' → wAsM X.K i Wout D l' cls d σ' H' →
        wpAny (model X.prog X.w) X.A (handleBy (.ref a) X.env hds') (SP X pins D) X.xe { s' with heap := h3 } := by
      intro hds' l' hk
      induction hk with
      | nil =>
        intro w
        refine wpAny_handleBy_nil ?_
        obtain ⟨k1, k2, k3, oe, vs, T, oT, ts', he, hz, hd, h1, hr⟩ := id fl3
        unfold PySem.passOn
        refine wpAny_bind (wpAny_field he hd h1 ?_)
        rw [if_neg (show ¬ ((Value.ref T == Value.none) = true) from by simp)]
        have fin : wpAny (model X.prog X.w) X.A (setFlight (.ref a) X.env.frame) (fun _ s4 => wpAny (model X.prog X.w) X.A (throw (.ref a) : Sem Flow) (SP X pins D) X.xe s4) X.xe { s' with heap := h3 } := by
          rw [hf]
          refine HandSPX.setFlight_upZ fl3 fun h4 hh4 up4 => wpAny_throw (tk _ _ ?_)
          exact ⟨a, B, sI, pins, σ', H', cls, d, rfl, J, nb, (up.trans up3).trans up4, .inr (.inr (by rw [hs]; exact hh4)), na, os, ag, w⟩
        first
          | exact wpAny_bind (wpAny_pure (wpAny_bind fin))
          | exact wpAny_bind fin
      | @cons x c ts b₀ suite np pos' hds2 l2 hc hsu r ih =>
        intro w
        obtain ⟨b, hb1, hyes, hno⟩ := w
        refine wpAny_handleBy_cons (codeAny_handlers_test ?_) (by intro q; cases q)
        have LT : PySem.W.Looks (model X.prog X.w) h3 (typeOf (.ref a)) cls := fun A Q E s k q => wpAny_typeOf_ref (k _ _ he3) (by rw [hz3.1]; exact q)
        have LM := PySem.W.exm_one (M := model X.prog X.w) (J3.kIn) LT hb1
        have test : ∀ {Q : Value → Shared → Prop} {E : Value → Shared → Prop}, Q c { s' with heap := h3 } → wpAny (model X.prog X.w) (X.A.mark (some (.ref a))) (eval (.Name x np) X.env) Q E { s' with heap := h3 } := fun {Q E} q => by
          obtain ⟨hg, hdbg, hm | ⟨hm, hv, hnn⟩⟩ := hc
          · exact ld_glob (X := X.suite a ((a, oe3) :: (X.pn ++ pins))) S3 hg hm q hdbg
          · exact ld_blt (X := X.suite a ((a, oe3) :: (X.pn ++ pins))) S3 hg hm hv q hnn hdbg
        refine test (LM.here ?_)
        cases b with
        | true =>
          refine codeAny_handlers_suite_as ?_
          refine HandSPX.lands_againZ fl3 fun h4 fl4 up4 => ?_
          have J4 : Inv X pins σ' H' { s' with heap := h4 } := J.landed nb fl4.1 ((up.trans up3).trans up4) os ag
          obtain ⟨oe4, vs4, he4, hz4, hd4⟩ := fl4.there
          have S4 := J4.suite he4 hd4 na nL nF
          refine store_ok (X := X.suite a ((a, oe4) :: (X.pn ++ pins))) (v := .ref a) S4 hN hi hloc rfl (fun s5 S5 => ?_) (.inr hln)
          refine wpAny_mono ((hsu a oe4 cls d (X.pn ++ pins) hz4 ⟨_, hd4⟩).run [] s5 _ H' _ S5 (hyes rfl a na (by rw [J.len]; exact (List.getElem?_eq_some_iff.mp hi).1))) (fun f s6 hsp => ?_) (fun _ _ z => False.elim z)
          have end_ : ∀ {σ6 : L2.St} {H6 : Hp} {Q : Shared → Prop}, Inv (X.suite a ((a, oe4) :: (X.pn ++ pins))) [] σ6 H6 s6 → (∀ s7, Inv X pins (σ6.set i none) H6 s7 → Q s7) →
              wpAny (model X.prog X.w) X.A (do bindName X.env n .none; unbindBehindTheSuite X.env n pos') (fun _ s7 => Q s7) X.xe s6 := fun {σ6 H6 Q} S6 hq => gone_ok (S6.unsuite ok) hN hi hln hq
          cases f with
          | next =>
            obtain ⟨σ6, H6, S6, q6⟩ := hsp
            exact end_ S6 fun s7 J7 => ⟨_, _, J7, q6⟩
          | brk =>
            obtain ⟨σ6, H6, S6, q6⟩ := hsp
            exact end_ S6 fun s7 J7 => ⟨_, _, J7, q6⟩
          | cont =>
            obtain ⟨σ6, H6, S6, q6⟩ := hsp
            exact end_ S6 fun s7 J7 => ⟨_, _, J7, q6⟩
          | ret u =>
            obtain ⟨v6, σ6, H6, S6, r6, q6⟩ := hsp
            exact end_ S6 fun s7 J7 => ⟨_, _, _, J7, r6, q6⟩
        | false =>
          show wpAny _ X.A (handleBy (.ref a) X.env hds2) _ _ _
          exact ih (hno rfl)
    exact go hh w
  · cases f with
    | next =>
      obtain ⟨σ', H', J', q⟩ := hsp
      exact wpAny_execs_nil ⟨σ', H', J'.ofTry ok, q⟩
    | brk =>
      obtain ⟨σ', H', J', q⟩ := hsp
      exact ⟨σ', H', J'.ofTry ok, q⟩
    | cont =>
      obtain ⟨σ', H', J', q⟩ := hsp
      exact ⟨σ', H', J'.ofTry ok, q⟩
    | ret u =>
      obtain ⟨v, σ', H', J', r, q⟩ := hsp
      exact ⟨v, σ', H', J'.ofTry ok, r, q⟩
end
end Pk
/-! Br24: isinstance of the exception that is held; a def that gets it; _law_which. -/
namespace Pk
open PySem PySem.Spec PyProof.Rows L2

/-- the exception's dict stands -/
def DOk (d : Option Addr) (H : Hp) : Prop := ∀ dx, d = some dx → ∃ fs, H dx = some (.xd fs)
theorem DOk.ext {d : Option Addr} {H H' : Hp} (h : DOk d H) (e : Ext H H') : DOk d H' := fun dx z => by
  obtain ⟨fs, q⟩ := h dx z
  exact ⟨fs, e _ _ q⟩
def rIsP (K : PySem.W.Frag) (D a : Addr) (d : Option Addr) : List V → Hp → VK → Prop := fun xs H Q => ∃ (c : V) (cv : Value) (b : Bool), xs = [.ref a, c] ∧ (∀ u, RelV c u → u = cv) ∧ PySem.W.kitOne K (.ref D) cv = some b ∧ DOk d H ∧ Q (.bl b) H
theorem call_isP {X : Cx} {a D : Addr} {oe : Obj} {d : Option Addr} (C : ExcC X.K D) (hz : Zc (.ref D) d oe) (hf : ∃ vs, oe.data = .fields vs) (hp : (a, oe) ∈ X.pn) : CallR X (.builtin "isinstance") (rIsP X.K D a d) := by
  intro pins s σ H xs us Q I r h
  obtain ⟨c, cv, b, rfl, hcv, e, dk, q⟩ := h
  cases r with
  | cons rx rr =>
    cases rr with
    | cons rt rr =>
      cases rr
      cases rx
      have ec := hcv _ rt
      subst ec
      obtain ⟨hget, _⟩ := I.pin (a, oe) (List.mem_append.mpr (.inl hp))
      obtain ⟨vs, hv⟩ := hf
      obtain ⟨cdD, hcD, _⟩ := PySem.W.any_some C.hd
      have J : ∃ od, PySem.W.InstAt s.heap a oe D od := by
        cases d with
        | none =>
          refine ⟨none, ?_⟩
          obtain ⟨oc, od, oda, osl⟩ := oe
          obtain ⟨h1, h2⟩ := hz
          dsimp only at h1 h2 hv
          subst h1 h2 hv
          exact ⟨hget, rfl, rfl, trivial⟩
        | some dx =>
          obtain ⟨fs, hx⟩ := dk dx rfl
          have hx : ObjOk X.prog X.w H s.heap dx (.xd fs) := I.hok dx _ hx
          obtain ⟨mA, hns, hr⟩ := hx
          obtain ⟨od, ho, hl⟩ := lookIn_ns hns
          exact ⟨some od, hget, hz.1, by unfold PySem.W.notCls; rw [hv] <;> rfl, by rw [hz.2]; exact ho⟩
      obtain ⟨od, J⟩ := J
      exact PySem.W.kia_one (PySem.W.kitx_exc (by rw [hcD]; rfl) C.hg C.hk C.hs C.ha C.hn C.ht C.hm) I.kIn J e (fun z => nomatch z) fun tk => ⟨.bl b, H, I.kept (t' := tk) fun _ _ z => z, rfl, q⟩
def tIs (i : Nat) (a : Addr) (d : Option Addr) (b : Bool) : TE := fun σ H Q => σ[i]? = some (some (.ref a)) ∧ DOk d H ∧ Q (.bl b) H
def tIsL (i : Nat) (a : Addr) (d : Option Addr) (bs : List Bool) : TA := fun σ H Q => σ[i]? = some (some (.ref a)) ∧ DOk d H ∧ Q (bs.map V.bl) H
section
variable {X : Cx} {a D : Addr} {oe : Obj} {d : Option Addr}
theorem pe_isG {i : Nat} {e0 : Expr} {x : Str} {E : Addr} {b : Bool} {q q3 pos : Pos} (C : ExcC X.K D) (hz : Zc (.ref D) d oe) (hf : ∃ vs, oe.data = .fields vs) (hp : (a, oe) ∈ X.pn) (hgI : Gl X "isinstance") (hmI : X.mg "isinstance" = none) (hv : PE X e0 (tVar i)) (hg : Gl X x) (hm : X.mg x = some (.ref E))
    (kit : PySem.W.kitOne X.K (.ref D) (.ref E) = some b) (hdb : (x == ("__debug__" : Str)) = false := by decide) (he : starEach [e0, .Name x q3] X.env = (false, eval e0 X.env) :: starEach [.Name x q3] X.env := by rfl) :
    PE X (.Call (.Name "isinstance" q) [e0, .Name x q3] [] pos) (tIs i a d b) :=
  PE.imp (pe_callB (call_isP C hz hf hp) hgI hmI boot_isinstance (pa_cons hv (pa_cons (pe_glob hg hm (v := .ref E) rfl hdb) pa_nil) he) (by decide) (by decide) he rfl) fun σ H Q ⟨h1, h2, h3⟩ =>
    ⟨.ref a, h1, .ref E, .ref E, b, rfl, fun u h => h, kit, h2, h3⟩
theorem pe_isT {i : Nat} {e0 : Expr} {x : Str} {T : String} {b : Bool} {q q3 pos : Pos} (C : ExcC X.K D) (hz : Zc (.ref D) d oe) (hf : ∃ vs, oe.data = .fields vs) (hp : (a, oe) ∈ X.pn) (hgI : Gl X "isinstance") (hmI : X.mg "isinstance" = none) (hv : PE X e0 (tVar i)) (hg : Gl X x) (hm : X.mg x = none)
    (hb : bootBuiltins x = some (.type T)) (kit : PySem.W.kitOne X.K (.ref D) (.type T) = some b) (hny : x ≠ "__name__" := by decide) (hdb : (x == ("__debug__" : Str)) = false := by decide) (he : starEach [e0, .Name x q3] X.env = (false, eval e0 X.env) :: starEach [.Name x q3] X.env := by rfl) :
    PE X (.Call (.Name "isinstance" q) [e0, .Name x q3] [] pos) (tIs i a d b) :=
  PE.imp (pe_callB (call_isP C hz hf hp) hgI hmI boot_isinstance (pa_cons hv (pa_cons (pe_bltn hg hm hb (v := .ty T) rfl hny hdb) pa_nil) he) (by decide) (by decide) he rfl) fun σ H Q ⟨h1, h2, h3⟩ =>
    ⟨.ref a, h1, .ty T, .type T, b, rfl, fun u h => h, kit, h2, h3⟩
theorem pa_is0 {i : Nat} : PA X [] (tIsL i a d []) := PA.imp pa_nil fun σ H Q ⟨_, _, h⟩ => h
theorem pa_is1 {i : Nat} {e : Expr} {es : List Expr} {b : Bool} {bs : List Bool} (h : PE X e (tIs i a d b)) (hr : PA X es (tIsL i a d bs)) (hs : starEach (e :: es) X.env = (false, eval e X.env) :: starEach es X.env := by rfl) : PA X (e :: es) (tIsL i a d (b :: bs)) :=
  PA.imp (pa_cons h hr hs) fun σ H Q ⟨h1, h2, h3⟩ => ⟨h1, h2, h1, h2, h3⟩
end
/-! ### l.count(x) of truth values -/
def rCountD (K : PySem.W.Frag) : V → List V → Hp → VK → Prop := fun x xs H Q => ∃ (a : Addr) (y : V) (d : PyData) (ds : List PyData), x = V.ref a ∧ xs = [y] ∧ Dp K H (V.ref a) (.list ds) ∧ Dp K H y d ∧
  SeqAt.shaped (.list ds) = true ∧ SeqAt.shaped d = true ∧ Q (.int ((ds.countP fun z => PyData.eqv z d : Nat) : Int)) H
theorem mt_countD {X : Cx} (hu : X.A.units + 65 < cLine) : MtR X "list.count" (rCountD X.K) := by
  intro pins s σ H x xs v us Q I rx rxs h
  obtain ⟨a, y, d, ds, rfl, rfl, hl, hy, sl, sd, q⟩ := h
  cases rx
  cases rxs with
  | cons ry rt =>
    rename_i uy ut
    cases rt
    obtain ⟨bs, r1⟩ := Dp.reads I d y uy hy ry
    have hxs : PyData.canLayAll0 ds = true := SeqAt.canLay_of_shaped sl
    have hroom : X.A.units + 1 + min (PyData.depthAll ds) d.depth < cLine := room_in_shaped sd hu
    cases hl with
    | lst hs ha =>
      obtain ⟨its, rv, ⟨⟨cls, dd, data, sls⟩, n, ho, hc, hdn, hdt⟩, hlen⟩ := I.list hs
      simp only at hc hdt
      subst hc hdt
      obtain ⟨as, h4⟩ := Dp.readsAll I ds _ its ha rv
      have hmap : its.map (SeqAt.readOf s.heap) = ds := SeqAt.readsAll_map ds its as hxs h4
      have hcnt : its.toArray.toList.countP (fun u => PyData.eqv (SeqAt.readOf s.heap u) d) = ds.countP fun z => PyData.eqv z d := by
        rw [← hmap, List.countP_map]
        rfl
      refine call_meets PySem.F.slot_list_count ⟨_, ho, rfl⟩ PySem.F.entry_list_count (PySem.F.args_list_count_2 _ _)
        (SeqAt.list_countAt a its.toArray n dd sls uy (fun u => PyData.eqv (SeqAt.readOf s.heap u) d)) ⟨ho, SeqAt.items_eqAt (vs := its.toArray) (show ReadsAll s.heap its.toArray.toList ds as from h4) r1 hxs (SeqAt.canLay_of_shaped sd) hroom, ?_⟩
      rw [hcnt]
      exact ⟨.int _, H, I.tok _, ⟨_, rfl⟩, q⟩
/-! ### a def that gets the exception -/
structure FnP (P : Program) (w : World) (K : PySem.W.Frag) (mg : Str → Option Value) (base : Heap) (CX : CXT) (k : Nat) (f : Addr) (fd : FuncData) (ps : List Str) (sp : Addr × Obj → Sp) : Prop where
  len : ∀ p vs H Q E, sp p vs H Q E → vs.length = ps.length
  run : ∀ (A : Around) (outer : List PySem.Env) (s : Shared) (H : Hp) (args : Args) (us : List Value) (vs : List V) (Q : VK) (E : XK) (p : Addr × Obj), L2H.RoomH k A → L2H.PinOk outer H s p → Env0 P w K mg base A outer s H → BindsTo s fd args (ps.zip us) → Vals vs us → sp p vs H Q E →
    codeAny (model P w) A (.call (.ref f) args) (CR CX outer P w H s Q E) s
theorem fn_ofP {CX : CXT} {P : Program} {w : World} {K : PySem.W.Frag} {mg : Str → Option Value} {base : Heap} {k : Nat} {f : Addr} {name qual : Str} {params : Arguments} {body : List Stmt} {scope : Scope} {dV kV doc pm cdv ct oc : Value} {an od : Option Addr}
    {osl : Array (Option Value)} {N ps : List Str} {sp : Addr × Obj → Sp} (lk : K.lookup f = some ⟨oc, od, .func (PySem.W.fnOf name qual params body scope dV kV doc pm an cdv ct), osl⟩) (hcd : PySem.W.codeIn K cdv qual = true) (S : FnScope N ps scope)
    (len : ∀ p vs H Q E, sp p vs H Q E → vs.length = ps.length)
    (hbody : ∀ (A : Around) (outer : List PySem.Env) (s : Shared) (H : Hp) (vs : List V) (Q : VK) (E : XK) (p : Addr × Obj), L2H.RoomH k (A.deeper (envOfC qual scope s.heap.objs.size f cdv)) → sp p vs H Q E →
      ∃ t, PSs (L2H.cxH CX P w K mg base N qual scope f cdv A outer s H E p) body t ∧ t { nx := fun _ H' => Q .non H', rt := Q } (L2.start N vs) H) :
    FnP P w K mg base CX (k + 1) f (PySem.W.fnOf name qual params body scope dV kV doc pm an cdv ct) ps sp := by
  refine ⟨len, fun A outer s H args us vs Q E p hr hpin e0 hb r hsp => ?_⟩
  have hl := len _ _ _ _ _ hsp
  have KX : K.In s.heap := e0.mod.kin.keeps fun b o e => (e0.bs b o e).1
  have lim : s.heap.NoLimit := e0.mod.nolimit.keeps fun b o e => (e0.bs b o e).1
  have hkind : ∀ y ∈ ps.zip us, scope.names.lookup y.1 = some .local ∨ (scope.names.lookup y.1 = some .cell ∧ ((cellsFrom (s.heap.objs.size + 1) scope.names []).lookup y.1).isSome = true) := fun ⟨n, v⟩ hy => by
    rcases S.par n (List.of_mem_zip hy).1 with q | q
    · exact .inl q
    · exact .inr ⟨q, PySem.W.cellsFrom_some _ _ _ (.inl q)⟩
  refine codeAny_call_function hr.depth (KX _ _ lk) rfl S.co S.gen rfl (PySem.W.codeRec_of KX hcd) (hb _ _ _ _ ?_)
  refine wpAny_newFunctionEnv_cells S.kind hkind fun env he s1 x => ?_
  subst he
  refine ⟨lim.keeps x.toInCall.keep, codeAny_func ?_⟩
  obtain ⟨t, ht, hq⟩ := hbody A outer s H vs Q E p (hr.deeper _) hsp
  have I : Inv (L2H.cxH CX P w K mg base N qual scope f cdv A outer s H E p) [] (L2.start N vs) H s1 := L2H.inv_startH S hpin e0 hl r x
  refine wpAny_mono (ht.run [] s1 (L2.start N vs) H _ I hq) (fun fl s' hs => ?_) fun e s' hs => hs
  have fin : ∀ {σ' : L2.St} {H' : Hp} {v : V} {u : Value}, Inv (L2H.cxH CX P w K mg base N qual scope f cdv A outer s H E p) [] σ' H' s' → RelV v u → Q v H' → CE outer P w H s Q u s' :=
    fun {σ' H' v u} J rv q => ⟨v, H', J.os, J.bare, J.base, J.hok, rv, q⟩
  cases fl with
  | ret u =>
    obtain ⟨v, σ', H', J, rv, q⟩ := hs
    exact fin J rv q
  | next =>
    obtain ⟨σ', H', J, q⟩ := hs
    exact fin (v := V.non) (u := Value.none) J rfl q
  | brk =>
    obtain ⟨_, _, _, q⟩ := hs
    exact False.elim q
  | cont =>
    obtain ⟨_, _, _, q⟩ := hs
    exact False.elim q
section
variable {X : Cx} {CX : CXT} {k : Nat} {f : Addr} {fd : FuncData} {ps : List Str} {sp : Addr × Obj → Sp} {E : XK} {x : Str} {q pos : Pos} {e : Expr} {es : List Expr} {t : TA} {p : Addr × Obj}
theorem run_fnP {pins : List (Addr × Obj)} {σ : L2.St} {H : Hp} {s : Shared} {Q : VK} {us : List Value} {vs : List V} (F : FnP X.prog X.w X.K X.mg X.base CX k f fd ps sp) (hr : L2H.RoomH k X.A) (hp : p ∈ X.pn) (hb : Binds X.K fd ps []) (hx : PassesAt CX X σ E)
    (I : Inv X pins σ H s) (r : Vals vs us) (h : sp p vs H Q E) : wpAny (model X.prog X.w) X.A (call (.ref f) us) (EP X pins σ Q) X.xe s := by
  have hl : us.length = ps.length := by rw [← r.length]; exact F.len _ _ _ _ _ h
  have b := hb s us I.kIn (by rw [List.append_nil]; exact hl)
  rw [List.append_nil] at b
  have P1 := I.pin p (List.mem_append_left _ hp)
  have hpin : L2H.PinOk X.stack H s p := ⟨P1.1, P1.2.1, fun hm => (List.mem_cons.mp (I.stkSub p.1 hm)).elim P1.2.2.1 P1.2.2.2.1, P1.2.2.2.2⟩
  refine wpAny_call (codeAny_mono (F.run X.A X.stack s H ⟨us, []⟩ us vs Q E p hr hpin I.env0 b r h) fun r s' hq => ?_)
  cases r with
  | error e => exact hx pins H s e s' I hq
  | ok fl =>
    cases fl with
    | ret u => exact I.after hq
    | next => exact False.elim hq
    | brk => exact False.elim hq
    | cont => exact False.elim hq
def tCallP (sp : Sp) (E : XK) (t : TA) : TE := fun σ H Q => t σ H fun vs H1 => sp vs H1 Q E
theorem pe_callP (F : FnP X.prog X.w X.K X.mg X.base CX k f fd ps sp) (hr : L2H.RoomH k X.A) (hp : p ∈ X.pn) (hg : Gl X x) (hm : X.mg x = some (.ref f)) (hk : PySem.W.keepIn X.K (.ref f) = true) (hb : Binds X.K fd ps []) (hx : ∀ σ, PassesAt CX X σ E)
    (ha : PA X (e :: es) t) (hdb : (x == ("__debug__" : Str)) = false := by decide) (he : starEach (e :: es) X.env = (false, eval e X.env) :: starEach es X.env := by rfl) (hpl : (backTo pos (starEach es X.env)).any (·.1) = false := by rfl) :
    PE X (.Call (.Name x q) (e :: es) [] pos) (tCallP (sp p) E t) := by
  refine ⟨fun pins s σ H Q I h => ?_⟩
  refine wpAny_Call_Name_kw (ld_glob I hg hm ?_ hdb)
  refine PySem.W.callWith_K (h₀ := X.base) I.ok.mod.kin hk (thn (ha.run pos pins s σ H _ I h) fun us s1 ⟨vs, H1, I1, r, q⟩ => ⟨I1.kIn, ?_⟩) he hpl
  exact run_fnP F hr hp hb (hx σ) I1 r q
end
end Pk
/-! Br25: _law_which. -/
namespace Pk
open PySem PySem.Spec PyProof.Rows L2

theorem dp_bools {K : PySem.W.Frag} {H : Hp} : ∀ l : List Bool, DpAll K H (l.map V.bl) (l.map PyData.bool)
  | [] => .nil
  | i :: l => .cons (.bl i) (dp_bools l)
theorem lay_bools : ∀ l : List Bool, PyData.canLayAll0 (l.map PyData.bool) = true ∧ PyData.depthAll (l.map PyData.bool) = 0
  | [] => ⟨by simp [PyData.canLayAll0], by simp [PyData.depthAll]⟩
  | i :: l => by
    obtain ⟨h1, h2⟩ := lay_bools l
    exact ⟨by simp [PyData.canLayAll0, PyData.canLay0, h1], by simp [PyData.depthAll, PyData.depth, h2]⟩
theorem shaped_bools (l : List Bool) : SeqAt.shaped (.list (l.map PyData.bool)) = true := by
  obtain ⟨h1, h2⟩ := lay_bools l
  simp [SeqAt.shaped, PyData.canLay0, PyData.depth, h1, h2]
theorem hot_count (k : Nat) (hk : k < 12) : ((([k == 0, k == 1, k == 2, k == 3] ++ [k == 4, k == 5, k == 6, k == 7]) ++ [k == 8, k == 9, k == 10, k == 11]).map PyData.bool).countP (fun z => PyData.eqv z (.bool true)) = 1 := by
  match k, hk with
  | 0, _ => simp [PyData.eqv] | 1, _ => simp [PyData.eqv] | 2, _ => simp [PyData.eqv] | 3, _ => simp [PyData.eqv] | 4, _ => simp [PyData.eqv] | 5, _ => simp [PyData.eqv] | 6, _ => simp [PyData.eqv] | 7, _ => simp [PyData.eqv] | 8, _ => simp [PyData.eqv] | 9, _ => simp [PyData.eqv] | 10, _ => simp [PyData.eqv] | 11, _ => simp [PyData.eqv]
theorem hot_index (k : Nat) (hk : k < 12) : (((([k == 0, k == 1, k == 2, k == 3] ++ [k == 4, k == 5, k == 6, k == 7]) ++ [k == 8, k == 9, k == 10, k == 11]).map PyData.bool)[k]? = some (.bool true)) ∧
    ∀ (m : Nat) (z : PyData), m < k → ((([k == 0, k == 1, k == 2, k == 3] ++ [k == 4, k == 5, k == 6, k == 7]) ++ [k == 8, k == 9, k == 10, k == 11]).map PyData.bool)[m]? = some z → PyData.eqv z (.bool true) = false := by
  have key : ∀ k, k < 12 → ((([k == 0, k == 1, k == 2, k == 3] ++ [k == 4, k == 5, k == 6, k == 7]) ++ [k == 8, k == 9, k == 10, k == 11])) = (List.range 12).map fun m => k == m := fun k _ => by simp [List.range, List.range.loop]
  rw [key k hk]
  refine ⟨by simp [hk], fun m z hm hz => ?_⟩
  have : m < 12 := by omega
  simp [this] at hz
  have e : (k == m) = false := by simp; omega
  rw [e] at hz
  subst hz
  simp [PyData.eqv]
section
variable {X : Cx} {a : Addr} {d : Option Addr}
/-- what _law_which tells -/
def tWhich (a : Addr) (d : Option Addr) (k : Nat) : TS := fun D σ H => σ[0]? = some (some (.ref a)) ∧ σ.length = 2 ∧ DOk d H ∧ ∀ q H', Ext H H' → H q = none → H' q = some (.tup [.str "refused", .int (k : Nat)]) → D.rt (.ref q) H'
theorem Ext.same {H H' : Hp} {p : Addr} {o : HO} (e : Ext H H') (n : H p = none) : Ext H (L2.upd H' p o) := fun b x h => by
  rw [upd_ne (ne_of_none h n)]
  exact e b x h
theorem which_body {k : Nat} {es1 es2 es3 : List Expr} {eV : Expr} {p1 p2 p3 p4 p5 p6 p7 p8 p9 p10 p11 p12 p13 p14 p15 p16 p17 p18 p19 p20 p21 p22 p23 p24 p25 p26 p27 p28 p29 p30 p31 p32 p33 p34 : Pos} {j1 j2 j3 j4 j5 j6 j7 j8 : Nat} (hk : k < 12) (hN : X.N.Nodup) (hN1 : X.N[1]? = some ("own" : Str)) (hx : Loc X.env.scope "own") (hf : X.fn ("own" : Str) = true ∨ X.env.scope.names.lookup ("own" : Str) = some .local) (hv : Vis X.env.scope "own") (hu : X.A.units + 65 < cLine)
    (h1 : PA X es1 (tIsL 0 a d [k == 0, k == 1, k == 2, k == 3])) (h2 : PA X es2 (tIsL 0 a d [k == 4, k == 5, k == 6, k == 7])) (h3 : PA X es3 (tIsL 0 a d [k == 8, k == 9, k == 10, k == 11])) (hV : PE X eV (tIs 0 a d true)) (hVt : ∀ whole, isTrue eV X.env whole = (do let v ← whole; standAt eV.pos; holding [v] (truthy v)))
    (l1 : (p5.endLine == p7.line) = true) (l2 : (p10.endLine == p12.line) = true) (l3 : (p15.endLine == p17.line) = true) (l4 : (p30.endLine == p32.line) = true) :
    PSs X [.Assign [.Name "own" p1] (.List es1 p2) p3, .Expr (.Call (.Attribute (.Name "own" p4) "extend" p5) [.List es2 p6] [] p7) p8, .Expr (.Call (.Attribute (.Name "own" p9) "extend" p10) [.List es3 p11] [] p12) p13,
      .If (.BoolOp .Or [.Compare (.Call (.Attribute (.Name "own" p14) "count" p15) [.Constant (.bool true) j1 p16] [] p17) [.NotEq] [.Constant (.int 1) j2 p18] p19, .UnaryOp .Not eV p20] p21)
        [.Return (some (.Tuple [.Constant (.str "refused") j3 p22, .UnaryOp .USub (.Constant (.int 1) j4 p23) p24] j5 p25)) p26] [] p27,
      .Return (some (.Tuple [.Constant (.str "refused") j6 p28, .Call (.Attribute (.Name "own" p29) "index" p30) [.Constant (.bool true) j7 p31] [] p32] j8 p33)) p34] (tWhich a d k) := by
  have pv1 : ∀ {p : Pos}, PE X (.Name "own" p) (tVar 1) := fun {p} => pe_var hN1 hv
  refine PSs.imp (pss_cons (ps_set (i := 1) hN hN1 hx (pe_lst h1) rfl hf) (pss_cons (ps_expr (pe_bm PySem.F.plainAttrs_list PySem.F.slot_list_extend PySem.F.type_list_extend mt_extend pv1 (pa_cons (pe_lst h2) pa_nil) rfl rfl l1)) (pss_cons (ps_expr (pe_bm PySem.F.plainAttrs_list PySem.F.slot_list_extend PySem.F.type_list_extend mt_extend pv1 (pa_cons (pe_lst h3) pa_nil) rfl rfl l2))
    (pss_cons (ps_if (PW.pt (pw_or (pt_cmpR (op_neD (by omega)) (pe_bm PySem.F.plainAttrs_list PySem.F.slot_list_count PySem.F.type_list_count (mt_countD hu) pv1 (pa_cons pe_bl pa_nil) rfl rfl l3) pe_int rfl) (pw_or1 (pt_not (pt_val hV hVt))))) pss_never pss_nil)
    (pss_one (ps_ret (pe_tup (pa_cons pe_str (pa_cons (pe_bm PySem.F.plainAttrs_list PySem.F.slot_list_index PySem.F.type_list_index (mt_indexD hu) pv1 (pa_cons pe_bl pa_nil) rfl rfl l4) pa_nil))))))))) fun D σ H ⟨hσ, hlen, hd, hq⟩ => ?_
  have sz : ∀ n : Nat, n ≤ 12 → n ≤ sizeLine := fun n h => Nat.le_trans h (by decide)
  have hg : ∀ {v : V}, (σ.set 1 (some v))[1]? = some (some v) := fun {v} => by rw [List.getElem?_set, if_pos rfl, if_pos (by omega)]
  have hg0 : ∀ {v : V}, (σ.set 1 (some v))[0]? = some (some (.ref a)) := fun {v} => by rw [List.getElem?_set_ne (by decide)]; exact hσ
  refine ⟨hσ, hd, sz 4 (by decide), fun q1 n1 => ?_⟩
  have x1 : Ext H (L2.upd H q1 (.lst ([k == 0, k == 1, k == 2, k == 3].map V.bl))) := Ext.upd n1
  refine ⟨.ref q1, hg, .inl ⟨rfl, _, .of upd_same⟩, hg0, hd.ext x1, sz 4 (by decide), fun q2 n2 => ?_⟩
  have n2' : H q2 = none := by
    cases z : H q2 with
    | none => rfl
    | some o => rw [x1 _ _ z] at n2; cases n2
  have ne21 : q1 ≠ q2 := fun z => by rw [← z, upd_same] at n2; cases n2
  refine ⟨q1, q2, _, _, rfl, rfl, by rw [upd_ne ne21]; exact upd_same, upd_same, by simp; exact sz 8 (by decide), ?_⟩
  generalize hH2 : L2.upd (L2.upd (L2.upd H q1 (.lst ([k == 0, k == 1, k == 2, k == 3].map V.bl))) q2 (.lst ([k == 4, k == 5, k == 6, k == 7].map V.bl))) q1 (.lst ([k == 0, k == 1, k == 2, k == 3].map V.bl ++ [k == 4, k == 5, k == 6, k == 7].map V.bl)) = H2
  have x2 : Ext H H2 := by rw [← hH2]; exact (x1.trans (Ext.upd n2)).same n1
  have g2 : H2 q1 = some (.lst (([k == 0, k == 1, k == 2, k == 3] ++ [k == 4, k == 5, k == 6, k == 7]).map V.bl)) := by rw [← hH2, upd_same, List.map_append]
  clear hH2 x1 ne21 n2 n2'
  refine ⟨.ref q1, hg, .inl ⟨rfl, _, .of g2⟩, hg0, hd.ext x2, sz 4 (by decide), fun q3 n3 => ?_⟩
  have ne31 : q1 ≠ q3 := fun z => by rw [← z, g2] at n3; cases n3
  refine ⟨q1, q3, _, _, rfl, rfl, by rw [upd_ne ne31]; exact g2, upd_same, by simp; exact sz 12 (by decide), ?_⟩
  generalize hH3 : L2.upd (L2.upd H2 q3 (.lst ([k == 8, k == 9, k == 10, k == 11].map V.bl))) q1 (.lst (([k == 0, k == 1, k == 2, k == 3] ++ [k == 4, k == 5, k == 6, k == 7]).map V.bl ++ [k == 8, k == 9, k == 10, k == 11].map V.bl)) = H3
  have x3 : Ext H H3 := by rw [← hH3]; exact (x2.trans (Ext.upd n3)).same n1
  have g3 : H3 q1 = some (.lst ((([k == 0, k == 1, k == 2, k == 3] ++ [k == 4, k == 5, k == 6, k == 7]) ++ [k == 8, k == 9, k == 10, k == 11]).map V.bl)) := by rw [← hH3, upd_same, List.map_append, List.map_append (l₂ := [k == 8, k == 9, k == 10, k == 11]), List.map_append]
  clear hH3 ne31 n3 g2 x2
  have dl : Dp X.K H3 (.ref q1) (.list ((([k == 0, k == 1, k == 2, k == 3] ++ [k == 4, k == 5, k == 6, k == 7]) ++ [k == 8, k == 9, k == 10, k == 11]).map PyData.bool)) := .lst (.of g3) (dp_bools _)
  refine ⟨.ref q1, hg, .inl ⟨rfl, _, .of g3⟩, q1, .bl true, .bool true, _, rfl, rfl, dl, .bl true, shaped_bools _, by decide, ?_⟩
  rw [hot_count k hk]
  refine ⟨.int _, .int 1, .int _, .int 1, by decide +kernel, by decide, ?_⟩
  refine ⟨_, rfl, ?_⟩
  have ev : (!PyData.eqv (.int ((1 : Nat) : Int)) (.int 1)) = false := by simp [PyData.eqv]
  rw [ev]
  refine ⟨hg0, hd.ext x3, true, rfl, ?_⟩
  refine ⟨.ref q1, hg, .inl ⟨rfl, _, .of g3⟩, q1, .bl true, .bool true, _, k, .bool true, rfl, rfl, dl, .bl true, shaped_bools _, by decide, (hot_index k hk).1, by simp [PyData.eqv], (hot_index k hk).2, sz 2 (by decide), fun q4 n4 => ?_⟩
  have n4' : H q4 = none := by
    cases z : H q4 with
    | none => rfl
    | some o => rw [x3 _ _ z] at n4; cases n4
  exact hq q4 _ (x3.trans (Ext.upd n4)) n4' upd_same
end
/-- the classes of the errors -/
structure ExX (cn : Cn) : Prop where
  exc : ∀ k, k < 12 → ExcC cn.K (cn.cls k)
  kit : ∀ k j, k < 12 → j < 12 → PySem.W.kitOne cn.K (.ref (cn.cls k)) (.ref (cn.cls j)) = some (k == j)
  kve : ∀ k, k < 12 → PySem.W.kitOne cn.K (.ref (cn.cls k)) (.type "ValueError") = some true
  kle : ∀ k, k < 12 → PySem.W.kitOne cn.K (.ref (cn.cls k)) (.ref (cn.cls 12)) = some true
  exm : ∀ k, k < 12 → PySem.W.exmOne cn.K (.ref (cn.cls k)) (.ref (cn.cls 12)) = some true
  ex1 : ∀ k, k < 12 → PySem.W.exmOne cn.K (.ref (cn.cls k)) (.ref (cn.cls 1)) = some (k == 1)
  ex2 : ∀ k, k < 12 → PySem.W.exmOne cn.K (.ref (cn.cls k)) (.ref (cn.cls 2)) = some (k == 2)
/-- _law_which's promise: the exception p of class number k -/
def spW (cn : Cn) (p : Addr × Obj) : Sp := fun vs H Q _ => ∃ (k : Nat) (d : Option Addr), k < 12 ∧ vs = [.ref p.1] ∧ Zc (.ref (cn.cls k)) d p.2 ∧ (∃ us, p.2.data = .fields us) ∧ DOk d H ∧
  ∀ q H', Ext H H' → H q = none → H' q = some (.tup [.str "refused", .int (k : Nat)]) → Q (.ref q) H'
/-- the names of the error classes in the text -/
structure ExN (cn : Cn) (mg : Str → Option Value) : Prop where
  n0 : mg "NoLand" = some (.ref (cn.cls 0))
  n1 : mg "NoCell" = some (.ref (cn.cls 1))
  n2 : mg "NoPeak" = some (.ref (cn.cls 2))
  n3 : mg "NoLevel" = some (.ref (cn.cls 3))
  n4 : mg "NoSlope" = some (.ref (cn.cls 4))
  n5 : mg "NoWalk" = some (.ref (cn.cls 5))
  n6 : mg "NoHeight" = some (.ref (cn.cls 6))
  n7 : mg "NoFit" = some (.ref (cn.cls 7))
  n8 : mg "NoKind" = some (.ref (cn.cls 8))
  n9 : mg "NoText" = some (.ref (cn.cls 9))
  n10 : mg "TooMany" = some (.ref (cn.cls 10))
  n11 : mg "Nothing" = some (.ref (cn.cls 11))
  n12 : mg "LandError" = some (.ref (cn.cls 12))
  is : mg "isinstance" = none
  ve : mg "ValueError" = none
end Pk
/-! Br26: the suites of the laws' try; raise NoCell(x). -/
namespace Pk
open PySem PySem.Spec PyProof.Rows L2

theorem which_ok {cn : Cn} {P : Program} {w : World} {mg : Str → Option Value} {base : Heap} {x qual : Str} {params : Arguments} {body : List Stmt} {scope : Scope} {kws : List (Str × V)} {f : Addr} {fd : FuncData}
    (F : FunD cn.K x qual params body scope [] kws f fd) (S : FnScope ["e", "own"] ["e"] scope)
    (hb : ∀ (cdv : Value) (A : Around) (outer : List PySem.Env) (s : Shared) (H : Hp) (E : XK) (p : Addr × Obj) (k : Nat) (d : Option Addr), k < 12 → Zc (.ref (cn.cls k)) d p.2 → (∃ us, p.2.data = .fields us) → (L2H.cxH (L2.CX P w) P w cn.K mg base ["e", "own"] qual scope f cdv A outer s H E p).A.units + 65 < cLine →
      PSs (L2H.cxH (L2.CX P w) P w cn.K mg base ["e", "own"] qual scope f cdv A outer s H E p) body (tWhich p.1 d k)) :
    FnP P w cn.K mg base (L2.CX P w) 1 f fd ["e"] (spW cn) := by
  obtain ⟨oc, od, dV, kV, doc, pm, an, cdv, ct, osl, rfl, lk, hcd, _, _⟩ := F.ex
  refine fn_ofP lk hcd S (fun p vs H Q E h => ?_) fun A outer s H vs Q E p hr h => ?_
  · obtain ⟨k, d, _, rfl, _⟩ := h
    rfl
  · obtain ⟨k, d, hk, rfl, hz, hf, hd, hq⟩ := h
    exact ⟨_, hb cdv A outer s H E p k d hk hz hf (by have := hr.un; show (A.deeper _).units + 65 < cLine; omega), rfl, rfl, hd, hq⟩
/-- a def of the text that gets the exception -/
def FnW (cn : Cn) (P : Program) (w : World) (mg : Str → Option Value) (base : Heap) : Prop :=
  ∃ (f : Addr) (fd : FuncData), FnP P w cn.K mg base (L2.CX P w) 1 f fd ["e"] (spW cn) ∧ mg "_law_which" = some (.ref f) ∧ PySem.W.keepIn cn.K (.ref f) = true ∧ Binds cn.K fd ["e"] []
/-! ### suites -/
def tsWhich (cn : Cn) (i : Nat) : Addr → Value → Option Addr → TS := fun a cls d D σ H => ∃ k, k < 12 ∧ cls = .ref (cn.cls k) ∧ σ[i]? = some (some (.ref a)) ∧ DOk d H ∧ ∀ q H', Ext H H' → H q = none → H' q = some (.tup [.str "refused", .int (k : Nat)]) → D.rt (.ref q) H'
def tsCell (cn : Cn) (i : Nat) (m : Nat) (txt : Str) : Addr → Value → Option Addr → TS := fun a cls d D σ H => cls = .ref (cn.cls m) ∧ σ[i]? = some (some (.ref a)) ∧ ∃ dd v, d = some dd ∧ H dd = some (.xd [("cell", v)]) ∧ ∀ q H', Ext H H' → H q = none → H' q = some (.tup [.str txt, v]) → D.rt (.ref q) H'
def tsCell4 (cn : Cn) (i : Nat) : Addr → Value → Option Addr → TS := fun a cls d D σ H => cls = .ref (cn.cls 1) ∧ σ[i]? = some (some (.ref a)) ∧ ∃ dd v, d = some dd ∧ H dd = some (.xd [("cell", v)]) ∧ ∀ q q' H', Ext H H' → H q = none → H q' = none → H' q' = some (.tup [.str "refused", .int (1 : Nat)]) → H' q = some (.tup [.str "cell", v, .bl true, .ref q']) → D.rt (.ref q) H'
def tsPeak3 (cn : Cn) (i : Nat) : Addr → Value → Option Addr → TS := fun a cls d D σ H => cls = .ref (cn.cls 2) ∧ σ[i]? = some (some (.ref a)) ∧ ∃ dd v, d = some dd ∧ H dd = some (.xd [("cell", v)]) ∧ ∀ q q' H', Ext H H' → H q = none → H q' = none → H' q' = some (.tup [.str "refused", .int (2 : Nat)]) → H' q = some (.tup [.str "peak", v, .ref q']) → D.rt (.ref q) H'
section
variable {X : Cx} {a : Addr} {oe : Obj} {cls : Value} {d : Option Addr} {pn : List (Addr × Obj)} {cn : Cn} {i : Nat}
/-- _law_which(e) within a suite -/
theorem pe_which {q q2 pos : Pos} {e : Expr} (kk : cn.K = X.K) (W : FnW cn X.prog X.w X.mg X.base) (hr : Room 1 X.A) (hg : Gl X "_law_which") (he : PE (X.suite a ((a, oe) :: pn)) e (tVar i)) (hst : starEach [e] X.env = (false, eval e X.env) :: starEach [] X.env := by rfl) :
    PE (X.suite a ((a, oe) :: pn)) (.Call (.Name "_law_which" q) [e] [] pos) (tCallP (spW cn (a, oe)) (fun _ _ _ => False) (tCons (tVar i) tNil)) := by
  obtain ⟨f, fd, F, hm, hk, hb⟩ := W
  rw [kk] at F hk hb
  exact pe_callP (X := X.suite a ((a, oe) :: pn)) F ⟨hr.dp, hr.un⟩ List.mem_cons_self hg hm hk hb (fun σ pins H s e s' I c => by obtain ⟨_, _, _, _, _, _, _, _, _, _, _, _, z⟩ := c; exact z) (pa_cons he pa_nil hst) (by decide) hst rfl
theorem su_which {q pos pos2 : Pos} {e : Expr} (kk : cn.K = X.K) (W : FnW cn X.prog X.w X.mg X.base) (hr : Room 1 X.A) (hg : Gl X "_law_which") (hz : Zc cls d oe) (hf : ∃ vs, oe.data = .fields vs) (he : PE (X.suite a ((a, oe) :: pn)) e (tVar i)) (hst : starEach [e] X.env = (false, eval e X.env) :: starEach [] X.env := by rfl) :
    PSs (X.suite a ((a, oe) :: pn)) [.Return (some (.Call (.Name "_law_which" q) [e] [] pos)) pos2] (tsWhich cn i a cls d) :=
  PSs.imp (pss_one (ps_ret (pe_which (q2 := q) kk W hr hg he hst))) fun D σ H ⟨k, hk, ec, hσ, hd, hq⟩ => ⟨.ref a, hσ, k, d, hk, rfl, by rw [← ec]; exact hz, hf, hd, hq⟩
theorem su_cell {m : Nat} {txt : Str} {j j2 : Nat} {p p2 p3 pos : Pos} {e : Expr} (kk : cn.K = X.K) (T : XfC cn.K (cn.cls m)) (hno : PySem.W.findIn cn.K (.ref (cn.cls m)) "cell" = some none) (hz : Zc cls d oe) (hf : ∃ vs, oe.data = .fields vs) (he : PE (X.suite a ((a, oe) :: pn)) e (tVar i))
    (hb : attributeBase e "cell" X.env (eval e X.env) = eval e X.env := by rfl) :
    PSs (X.suite a ((a, oe) :: pn)) [.Return (some (.Tuple [.Constant (.str txt) j p, .Attribute e "cell" p2] j2 p3)) pos] (tsCell cn i m txt a cls d) := by
  rw [kk] at T hno
  refine PSs.imp (pss_one (ps_ret (pe_tup (pa_cons (pe_str (x := txt)) (pa_cons (pe_xf (X := X) T hno hz hf he hb) pa_nil))))) fun D σ H ⟨ec, hσ, dd, v, ed, hdd, hq⟩ => ?_
  refine ⟨.ref a, hσ, rfl, ec, dd, _, v, ed, hdd, by simp, Nat.le_trans (show 2 ≤ 12 by decide) (by decide), fun q nq => ?_⟩
  exact hq q _ (Ext.upd nq) nq upd_same
theorem su_cell4 {j j2 : Nat} {p p2 p3 pos q1 q2 q3 q4 pos4 : Pos} {e e' e'' : Expr} (kk : cn.K = X.K) (W : FnW cn X.prog X.w X.mg X.base) (hr : Room 1 X.A) (hg : Gl X "_law_which") (N : ExN cn X.mg) (C : ExX cn) (hgI : Gl X "isinstance") (hgL : Gl X "LandError") (T : XfC cn.K (cn.cls 1)) (hno : PySem.W.findIn cn.K (.ref (cn.cls 1)) "cell" = some none) (hz : Zc cls d oe) (hf : ∃ vs, oe.data = .fields vs)
    (he : PE (X.suite a ((a, oe) :: pn)) e (tVar i)) (he' : PE (X.suite a ((a, oe) :: pn)) e' (tVar i)) (he'' : PE (X.suite a ((a, oe) :: pn)) e'' (tVar i)) (hec : cls = .ref (cn.cls 1) → True)
    (hb : attributeBase e "cell" X.env (eval e X.env) = eval e X.env := by rfl) (hs1 : starEach [e', .Name "LandError" q2] X.env = (false, eval e' X.env) :: starEach [.Name "LandError" q2] X.env := by rfl) (hst : starEach [e''] X.env = (false, eval e'' X.env) :: starEach [] X.env := by rfl) :
    PSs (X.suite a ((a, oe) :: pn)) [.Return (some (.Tuple [.Constant (.str "cell") j p, .Attribute e "cell" p2, .Call (.Name "isinstance" q1) [e', .Name "LandError" q2] [] q3, .Call (.Name "_law_which" q4) [e''] [] pos4] j2 p3)) pos] (tsCell4 cn i a cls d) := by
  by_cases ec : cls = .ref (cn.cls 1)
  · subst ec
    have C0 := C.exc 1 (by decide)
    have C1 := C.kle 1 (by decide)
    rw [kk] at T hno C0 C1
    refine PSs.imp (pss_one (ps_ret (pe_tup (pa_cons (pe_str (x := "cell")) (pa_cons (pe_xf (X := X) T hno hz hf he hb) (pa_cons (pe_isG (X := X.suite a ((a, oe) :: pn)) C0 hz hf List.mem_cons_self hgI N.is he' hgL N.n12 C1 (by decide) hs1) (pa_cons (pe_which (q2 := q4) kk W hr hg he'' hst) pa_nil))))))) fun D σ H ⟨_, hσ, dd, v, ed, hdd, hq⟩ => ?_
    have dk : DOk d H := fun dx z => by rw [ed] at z; cases z; exact ⟨_, hdd⟩
    refine ⟨.ref a, hσ, rfl, rfl, dd, _, v, ed, hdd, by simp, hσ, dk, .ref a, hσ, 1, d, by decide, rfl, hz, hf, dk, fun q' H' ex nq hq' => ?_⟩
    refine ⟨Nat.le_trans (show 4 ≤ 12 by decide) (by decide), fun q nq2 => ?_⟩
    have nq3 : H q = none := by
      cases z : H q with
      | none => rfl
      | some o => rw [ex _ _ z] at nq2; cases nq2
    exact hq q q' _ (ex.trans (Ext.upd nq2)) nq3 nq (Ext.upd nq2 _ _ hq') upd_same
  · exact PSs.imp pss_never fun D σ H ⟨h, _⟩ => ec h
theorem su_peak3 {j j2 : Nat} {p p2 p3 pos q1 q2 q3 q4 pos4 : Pos} {e e'' : Expr} (kk : cn.K = X.K) (W : FnW cn X.prog X.w X.mg X.base) (hr : Room 1 X.A) (hg : Gl X "_law_which") (T : XfC cn.K (cn.cls 2)) (hno : PySem.W.findIn cn.K (.ref (cn.cls 2)) "cell" = some none) (hz : Zc cls d oe) (hf : ∃ vs, oe.data = .fields vs)
    (he : PE (X.suite a ((a, oe) :: pn)) e (tVar i)) (he'' : PE (X.suite a ((a, oe) :: pn)) e'' (tVar i))
    (hb : attributeBase e "cell" X.env (eval e X.env) = eval e X.env := by rfl) (hst : starEach [e''] X.env = (false, eval e'' X.env) :: starEach [] X.env := by rfl) :
    PSs (X.suite a ((a, oe) :: pn)) [.Return (some (.Tuple [.Constant (.str "peak") j p, .Attribute e "cell" p2, .Call (.Name "_law_which" q4) [e''] [] pos4] j2 p3)) pos] (tsPeak3 cn i a cls d) := by
  by_cases ec : cls = .ref (cn.cls 2)
  · subst ec
    rw [kk] at T hno
    refine PSs.imp (pss_one (ps_ret (pe_tup (pa_cons (pe_str (x := "peak")) (pa_cons (pe_xf (X := X) T hno hz hf he hb) (pa_cons (pe_which (q2 := q4) kk W hr hg he'' hst) pa_nil)))))) fun D σ H ⟨_, hσ, dd, v, ed, hdd, hq⟩ => ?_
    have dk : DOk d H := fun dx z => by rw [ed] at z; cases z; exact ⟨_, hdd⟩
    refine ⟨.ref a, hσ, rfl, rfl, dd, _, v, ed, hdd, by simp, .ref a, hσ, 2, d, by decide, rfl, hz, hf, dk, fun q' H' ex nq hq' => ?_⟩
    refine ⟨Nat.le_trans (show 3 ≤ 12 by decide) (by decide), fun q nq2 => ?_⟩
    have nq3 : H q = none := by
      cases z : H q with
      | none => rfl
      | some o => rw [ex _ _ z] at nq2; cases nq2
    exact hq q q' _ (ex.trans (Ext.upd nq2)) nq3 nq (Ext.upd nq2 _ _ hq') upd_same
  · exact PSs.imp pss_never fun D σ H ⟨h, _⟩ => ec h
end
/-! ### try -/
def Hk.cls (h : Hk) (cn : Cn) (i : Nat) : List (Value × (Addr → Value → Option Addr → TS)) := match h with
  | .no => [(.ref (cn.cls 12), tsWhich cn i)]
  | .cell => [(.ref (cn.cls 1), tsCell cn i 1 "cell"), (.ref (cn.cls 12), tsWhich cn i)]
  | .cell4 => [(.ref (cn.cls 1), tsCell4 cn i), (.ref (cn.cls 12), tsWhich cn i)]
  | .peak3 => [(.ref (cn.cls 2), tsPeak3 cn i), (.ref (cn.cls 12), tsWhich cn i)]
section
variable {X : Cx} {b : Bd} {n : Nat}
theorem tup_new {cn : Cn} {lb : Lb} {H H' : Hp} {q : Addr} {ds : List D} {vs : List V} (hs : Has lb H) (nq : H q = none) (hq : H' q = some (.tup vs)) (r : RepL cn lb H' ds vs) (hl : ds.length ≤ SZ) : Rep cn lb H' (.tup ds) (.ref q) := by
  simp only [Rep]
  exact ⟨q, vs, rfl, ⟨hs.none nq, hq⟩, hl, r⟩
theorem sz_of {n : Nat} (h : n ≤ 12) : n ≤ SZ := Nat.le_trans h (by decide)
theorem ref_new {cn : Cn} {lb : Lb} {H H' : Hp} {q : Addr} {k : Nat} (hs : Has lb H) (nq : H q = none) (hq : H' q = some (.tup [.str "refused", .int (k : Nat)])) : Rep cn lb H' (refD k) (.ref q) :=
  tup_new hs nq hq (.cons (by simp only [Rep]) (.one (by simp only [Rep]))) (sz_of (by simp))
theorem ds_try {i : Nat} {h : Hk} {body : List Stmt} {h₀ : ExceptHandler} {hds : List ExceptHandler} {m : S} {pos : Pos} (g : Gd n X b) (C : ExX b.cn) (hs : X.stack = X.env :: X.outer) (hf : X.env.frame = some X.env.locals) (hi : X.N[i]? = some "e") (hln : X.env.kindOf "e" = some .local)
    (hb : ∀ (W : WX) (pn : List (Addr × Obj)) (xe : Value → Shared → Prop), Gd n (X.tr pn xe) { b with W := W } → DSs (X.tr pn xe) { b with W := W } body m)
    (hh : HdsAs X "e" (h₀ :: hds) (h.cls b.cn i)) : DS X b (.Try body (h₀ :: hds) [] [] pos) (sTry h m) := by
  refine PS.imp (ps_try_asM (tb := fun W => tS { b with W := W } m) hs hf g.nd hi hln g.tk (fun W pn xe tk po => hb W pn xe ⟨g.kk, g.calm, g.nd, tk, g.room, po⟩) hh) fun D σ H ⟨lb, ρ, s, o, p⟩ => ⟨lb, ρ, s, o, ?_⟩
  have p : SPost b D lb H (sTry h m ρ s) := p
  unfold sTry at p
  cases e : m ρ s with
  | bad => rw [e] at p; exact p
  | ok f ρ' s' => rw [e] at p; exact p
  | exc x ρ' s' =>
    rw [e] at p
    simp only at p
    intro lb' σ' H' cls dx st o' xr
    have xr : XRep b.cn lb' H' x cls dx := xr
    have o' : Ok b lb' ρ' s' σ' H' := o'
    cases ea : h.ans x with
    | none => rw [ea] at p; exact False.elim p
    | some d =>
      rw [ea] at p
      simp only at p
      have fin : ∀ v H2, Ext H' H2 → Rep b.cn lb' H2 d v → D.rt v H2 := fun v H2 ex r => p lb' σ' H2 (st.trans (o'.stp_ext ex)) (o'.ext ex) v r
      clear p
      obtain ⟨ec, xa⟩ := xr
      unfold Hk.ans at ea
      by_cases hk : x.cls < 12
      · rw [if_pos hk] at ea
        have dk : DOk dx H' := fun q z => by
          cases q2 : x.arg with
          | none => rw [q2] at xa; rw [xa] at z; cases z
          | some d0 =>
            rw [q2] at xa
            obtain ⟨p0, v0, e0, _, hp0, _⟩ := xa
            rw [z] at e0; cases e0
            exact ⟨_, hp0⟩
        have set_ : ∀ a, i < σ'.length → (σ'.set i (some (V.ref a)))[i]? = some (some (.ref a)) := fun a hl => by rw [List.getElem?_set, if_pos rfl, if_pos hl]
        have nn : ∀ {q : Addr} {o : HO}, H' q = some o → True := fun _ => trivial
        have hw : ∀ (D' : Ends), D'.rt = D.rt → some (refD x.cls) = some d → ∀ a, i < σ'.length → tsWhich b.cn i a cls dx D' (σ'.set i (some (.ref a))) H' := fun D' eD ed a hl => by
          cases ed
          exact ⟨x.cls, hk, ec, set_ a hl, dk, fun q H2 ex nq hq => by rw [eD]; exact fin _ _ ex (ref_new o'.has nq hq)⟩
        have lst : ∀ (D' : Ends), D'.rt = D.rt → some (refD x.cls) = some d → wAsM X.K i b.W D [(.ref (b.cn.cls 12), tsWhich b.cn i)] cls dx σ' H' := fun D' eD ed =>
          ⟨true, by rw [ec, ← g.kk]; exact C.exm _ hk, fun _ a _ hl => hw _ rfl ed a hl, fun z => nomatch z⟩
        cases h with
        | no => exact lst D rfl ea
        | cell =>
          refine ⟨x.cls == 1, by rw [ec, ← g.kk]; exact C.ex1 _ hk, fun z a na hl => ?_, fun z => ?_⟩
          · have z : x.cls = 1 := by simpa using z
            simp only [z, if_true] at ea
            cases q2 : x.arg with
            | none => rw [q2] at ea; cases ea
            | some d0 =>
              rw [q2] at ea xa
              cases ea
              obtain ⟨p0, v0, e0, lp0, hp0, r0⟩ := xa
              exact ⟨by rw [ec, z], set_ a hl, p0, v0, e0, hp0, fun q H2 ex nq hq => fin _ _ ex (tup_new o'.has nq hq (.cons (by simp only [Rep]) (.one (r0.stp (o'.stp_ext ex)))) (sz_of (by simp)))⟩
          · have z : ¬ x.cls = 1 := by simpa using z
            simp only [z, if_false] at ea
            exact lst D rfl ea
        | cell4 =>
          refine ⟨x.cls == 1, by rw [ec, ← g.kk]; exact C.ex1 _ hk, fun z a na hl => ?_, fun z => ?_⟩
          · have z : x.cls = 1 := by simpa using z
            simp only [z, if_true] at ea
            cases q2 : x.arg with
            | none => rw [q2] at ea; cases ea
            | some d0 =>
              rw [q2] at ea xa
              cases ea
              obtain ⟨p0, v0, e0, lp0, hp0, r0⟩ := xa
              exact ⟨by rw [ec, z], set_ a hl, p0, v0, e0, hp0, fun q q' H2 ex nq nq' hq' hq => fin _ _ ex (tup_new o'.has nq hq (.cons (by simp only [Rep]) (.cons (r0.stp (o'.stp_ext ex)) (.cons (by simp only [Rep]) (.one (ref_new o'.has nq' hq'))))) (sz_of (by simp)))⟩
          · have z : ¬ x.cls = 1 := by simpa using z
            simp only [z, if_false] at ea
            exact lst D rfl ea
        | peak3 =>
          refine ⟨x.cls == 2, by rw [ec, ← g.kk]; exact C.ex2 _ hk, fun z a na hl => ?_, fun z => ?_⟩
          · have z : x.cls = 2 := by simpa using z
            simp only [z, if_true] at ea
            cases q2 : x.arg with
            | none => rw [q2] at ea; cases ea
            | some d0 =>
              rw [q2] at ea xa
              cases ea
              obtain ⟨p0, v0, e0, lp0, hp0, r0⟩ := xa
              exact ⟨by rw [ec, z], set_ a hl, p0, v0, e0, hp0, fun q q' H2 ex nq nq' hq' hq => fin _ _ ex (tup_new o'.has nq hq (.cons (by simp only [Rep]) (.cons (r0.stp (o'.stp_ext ex)) (.one (ref_new o'.has nq' hq')))) (sz_of (by simp)))⟩
          · have z : ¬ x.cls = 2 := by simpa using z
            simp only [z, if_false] at ea
            exact lst D rfl ea
      · rw [if_neg hk] at ea; cases ea

/-! ### raise NoCell(x) -/
def oexB (K : PySem.W.Frag) (C : Addr) : Bool := match K.lookup C with
  | some ⟨.type "type", _, .cls cd, sl⟩ => (match cd.mro, sl.toList with
    | .ref C' :: bm, [_, _, _, _, some (.builtin n), _] => C' == C && n == "ValueError.__new__" && !cd.hasDel && cd.hasDict && PySem.HandSPX.refsVE bm
    | _, _ => false)
  | _ => false
theorem oexB_ok {K : PySem.W.Frag} {C : Addr} (q : oexB K C = true) : ∃ nm q N bs bm sn sub ab col dd k0 k1 k2 k3 k5, K.lookup C = some (excClassObj nm q C N bs bm true sn sub ab col dd k0 k1 k2 k3 k5 "ValueError.__new__") ∧ PySem.HandSPX.refsVE bm = true := by
  unfold oexB at q
  split at q
  · rename_i dd cd sl ho
    split at q
    · rename_i C' bm k0 k1 k2 k3 n k5 hm hs
      simp only [Bool.and_eq_true, beq_iff_eq, Bool.not_eq_true'] at q
      obtain ⟨⟨⟨⟨rfl, rfl⟩, hdel⟩, hdc⟩, ht⟩ := q
      obtain ⟨nm, bs, mro, ns, qn, hd, sn, sub, ab, col, del⟩ := cd
      dsimp only at hm hdel hdc
      subst hm hdel hdc
      have hsl : sl = #[k0, k1, k2, k3, some (.builtin "ValueError.__new__"), k5] := by
        obtain ⟨l⟩ := sl
        simp only at hs
        rw [hs]
      subst hsl
      exact ⟨nm, qn, ns, bs, bm, sn, sub, ab, col, dd, k0, k1, k2, k3, k5, ho, ht⟩
    · cases q
  · cases q
/-- __init__'s promise -/
def spI (C : Addr) : Sp := fun vs H Q _ => ∃ a v, vs = [.ref a, v] ∧ H a = some (exo a C none) ∧ ∀ dx, H dx = none → dx ≠ a → Q .non (L2.upd (L2.upd H dx (exd dx [("cell", v)])) a (exo a C (some dx)))
theorem init_ok {cn : Cn} {P : Program} {w : World} {mg : Str → Option Value} {base : Heap} {x qual : Str} {params : Arguments} {body : List Stmt} {scope : Scope} {kws : List (Str × V)} {f C : Addr} {fd : FuncData}
    (F : FunD cn.K x qual params body scope [] kws f fd) (S : FnScope ["self", "cell"] ["self", "cell"] scope) (T : OexC cn.K C) (hno : PySem.W.findIn cn.K (.ref C) "cell" = some none)
    (hb : ∀ (cdv : Value) (A : Around) (outer : List PySem.Env) (s : Shared) (H : Hp) (E : XK), PSs (cxOf (L2.CX P w) P w cn.K mg base ["self", "cell"] qual scope f cdv A outer s H E) body (tOst cn.K "cell" (tVar 0) (tVar 1))) :
    FnOk P w cn.K mg base (L2.CX P w) 1 f fd ["self", "cell"] (spI C) := by
  refine F.ok S (fun vs H Q E h => ?_) fun cdv A outer s H vs Q E hr h => ?_
  · obtain ⟨a, v, rfl, _⟩ := h
    rfl
  · obtain ⟨a, v, rfl, ha, hq⟩ := h
    exact ⟨_, hb cdv A outer s H E, v, rfl, .ref a, rfl, a, C, rfl, T, hno, .inl ⟨ha, fun dx n ne => hq dx n ne⟩⟩
/-- the class number k, with __init__(self, cell) -/
structure ErrI (cn : Cn) (P : Program) (w : World) (mg : Str → Option Value) (base : Heap) (k : Nat) (x : Str) : Prop where
  T : OexC cn.K (cn.cls k)
  at_ : mg x = some (.ref (cn.cls k))
  ini : ∃ (f : Addr) (fd : FuncData), FnOk P w cn.K mg base (L2.CX P w) 1 f fd ["self", "cell"] (spI (cn.cls k)) ∧ PySem.W.findIn cn.K (.ref (cn.cls k)) "__init__" = some (some (.ref f)) ∧ PySem.W.typeIn cn.K (.ref f) = some (.type "function") ∧ Binds cn.K fd ["self", "cell"] []
theorem ds_raiseC {k : Nat} {x : Str} {e : Expr} {m : M D} {p pos pos' : Pos} {P : Program} {w : World} {mg : Str → Option Value} {base : Heap} (g : Gd n X b) (I : ErrI b.cn P w mg base k x) (hn : 2 ≤ n) (hP : X.prog = P) (hw : X.w = w) (hm : X.mg = mg) (hb : X.base = base) (hg : Gl X x) (h : DE X b e m)
    (hdb : (x == ("__debug__" : Str)) = false := by decide) (he : starEach [e] X.env = (false, eval e X.env) :: starEach [] X.env := by rfl) :
    DS X b (.Raise (some (.Call (.Name x p) [e] [] pos)) none pos') (sRaise k (some m)) := by
  subst hP hw hm hb
  obtain ⟨T, at_, f, fd, F, iC, tI, hbd⟩ := I
  have kk := g.kk
  rw [kk] at T F iC tI hbd
  refine PS.imp (ps_raise g.calm g.tk (pmk_oex (dvs := []) T iC tI F (g.room.mono hn) hbd .nil (fun _ _ _ _ _ _ _ z => by obtain ⟨_, _, _, _, _, _, _, _, _, _, _, _, z⟩ := z; exact z.elim) hg at_ (pa_cons h pa_nil he) hdb he rfl)) fun D σ H ⟨lb, ρ, s, o, p⟩ => ?_
  have p : SPost b D lb H ((m ρ s).bind fun d r s => .exc ⟨k, some d⟩ r s) := p
  refine ⟨lb, ρ, s, o, (SPost.bind (D := D) (σ := σ) p).mono fun dv ρ1 s1 lb1 H1 st o1 q => fun v H2 ex r => ?_⟩
  have o2 := o1.ext ex
  have st2 := o1.stp_ext ex
  refine ⟨by simp, fun a na => ⟨a, v, rfl, upd_same, fun dx nd ne => ⟨rfl, dx, [("cell", v)], upd_same, by rw [upd_ne ne]; exact upd_same, ?_, ?_⟩⟩⟩
  · rw [upd_ne ne] at nd; exact nd
  · have nd2 : H2 dx = none := by rw [upd_ne ne] at nd; exact nd
    have eH : L2.upd (del (L2.upd (L2.upd (L2.upd H2 a (exo a (b.cn.cls k) none)) dx (exd dx [("cell", v)])) a (exo a (b.cn.cls k) (some dx))) a) dx (.xd [("cell", v)]) = L2.upd H2 dx (.xd [("cell", v)]) := by
      funext c
      by_cases hc : c = dx
      · rw [hc, upd_same, upd_same]
      · rw [upd_ne hc, upd_ne hc]
        by_cases ha : c = a
        · rw [ha, del_same, na]
        · rw [del_ne ha, upd_ne ha, upd_ne hc, upd_ne ha]
    rw [eH]
    have ex3 := Ext.upd (o := .xd [("cell", v)]) nd2
    exact q lb1 σ _ _ _ (st2.trans (o2.stp_ext ex3)) (o2.ext ex3) ⟨rfl, dx, v, rfl, Has.none o2.has nd2, upd_same, r.stp (o2.stp_ext ex3)⟩
end
end Pk
/-! Br27: [f, g, ..][i](a, ..). -/
namespace Pk
open PySem PySem.Spec PyProof.Rows L2
section
variable {X : Cx} {b : Bd} {n : Nat}
def tTab (cn : Cn) (W : WX) (S : Addr → Fn → Prop) (tf : TE) (t : TA) : TE := fun σ H Q => tf σ H fun y H1 => ∃ f F, y = .ref f ∧ S f F ∧ t σ H1 fun vs H2 => spOf cn F vs H2 Q (WE W σ)
theorem pe_tab {S : Addr → Fn → Prop} {fe e : Expr} {es : List Expr} {tf : TE} {t : TA} {pos : Pos} (g : Gd n X b) (hf : PE X fe tf)
    (hS : ∀ f F, S f F → ∃ (k : Nat) (fd : FuncData) (ps : List Str) (dsv : List Value), FnOk X.prog X.w X.K X.mg X.base (L2.CX X.prog X.w) k f fd ps (spOf b.cn F) ∧ k ≤ n ∧ PySem.W.keepIn X.K (.ref f) = true ∧ Binds X.K fd ps dsv ∧ Vals [] dsv) (ha : PA X (e :: es) t)
    (ht : eval (.Call fe (e :: es) [] pos) X.env = (do callWith pos (← eval fe X.env) [] (backTo pos (starEach (e :: es) X.env)) (backToKw pos (keywordEach [] X.env))) := by rfl)
    (he : starEach (e :: es) X.env = (false, eval e X.env) :: starEach es X.env := by rfl) (hpl : (backTo pos (starEach es X.env)).any (·.1) = false := by rfl) : PE X (.Call fe (e :: es) [] pos) (tTab b.cn b.W S tf t) := by
  refine ⟨fun pins s σ H Q I h => ?_⟩
  refine Call_ (thn (hf.run pins s σ H _ I h) fun u s1 ⟨y, H1, I1, ry, f, F, ey, hSf, q⟩ => ?_) ht
  subst ey
  obtain rfl : u = Value.ref f := ry
  obtain ⟨k, fd, ps, dsv, F1, hk, kp, hb, hv⟩ := hS f F hSf
  refine PySem.W.callWith_K (h₀ := X.base) I.ok.mod.kin kp (thn (ha.run pos pins s1 σ H1 _ I1 q) fun us s2 ⟨vs, H2, I2, r, q2⟩ => ⟨I2.kIn, ?_⟩) he hpl
  exact run_fnSD (dvs := []) F1 (g.room.mono hk) hb hv (passAt g.tk σ) I2 r (by rw [List.append_nil]; exact q2)
/-- the defs of a table -/
inductive TabOk (X : Cx) (b : Bd) (n : Nat) : List Expr → List Fn → Prop
  | nil : TabOk X b n [] []
  | cons {k : Nat} {x : Str} {F : Fn} {p : Pos} {es : List Expr} {Fs : List Fn} (G : FnG b.cn X.prog X.w X.mg X.base k x F []) (hk : k ≤ n) (hg : Gl X x) (hd : (x == ("__debug__" : Str)) = false) (r : TabOk X b n es Fs) : TabOk X b n (.Name x p :: es) (F :: Fs)
theorem tab_cons {k : Nat} {x : Str} {F : Fn} {p : Pos} {es : List Expr} {Fs : List Fn} {P : Program} {w : World} {mg : Str → Option Value} {base : Heap} (G : FnG b.cn P w mg base k x F []) (hk : k ≤ n) (hP : X.prog = P) (hw : X.w = w) (hm : X.mg = mg) (hb : X.base = base) (hg : Gl X x) (hd : (x == ("__debug__" : Str)) = false) (r : TabOk X b n es Fs) : TabOk X b n (.Name x p :: es) (F :: Fs) := by
  subst hP hw hm hb
  exact .cons G hk hg hd r
def tCs (vs : List V) : TA := fun _ H Q => Q vs H
theorem TabOk.pa {es : List Expr} {Fs : List Fn} (kk : b.cn.K = X.K) (T : TabOk X b n es Fs) : ∃ fs : List Addr, PA X es (tCs (fs.map V.ref)) ∧ fs.length = Fs.length ∧ ∀ (j : Nat) (f : Addr) (F : Fn), fs[j]? = some f → Fs[j]? = some F →
    ∃ (k : Nat) (fd : FuncData) (ps : List Str) (dsv : List Value), FnOk X.prog X.w X.K X.mg X.base (L2.CX X.prog X.w) k f fd ps (spOf b.cn F) ∧ k ≤ n ∧ PySem.W.keepIn X.K (.ref f) = true ∧ Binds X.K fd ps dsv ∧ Vals [] dsv := by
  induction T with
  | nil => exact ⟨[], PA.imp pa_nil fun _ _ _ h => h, rfl, fun j f F h => by simp at h⟩
  | @cons k x F p es Fs G hk hg hd r ih =>
    obtain ⟨fs, h1, h2, h3⟩ := ih
    obtain ⟨f, fd, ps, dsv, dvs, F1, F2, F3, F4, F5, F6⟩ := G
    rw [kk] at F1 F3 F4
    have e0 : dvs = [] := by
      have := (F6 (fun _ => none) (fun _ => none)).length
      exact List.length_eq_zero_iff.mp this.symm
    subst e0
    refine ⟨f :: fs, PA.imp (pa_cons (pe_glob hg F2 (v := .ref f) rfl hd) h1) fun σ H Q h => h, by rw [List.length_cons, List.length_cons, h2], fun j f' F' q1 q2 => ?_⟩
    cases j with
    | zero =>
      cases q1
      cases q2
      exact ⟨k, fd, ps, dsv, F1, hk, F3, F4, F5⟩
    | succ j => exact h3 j f' F' (by simpa using q1) (by simpa using q2)
theorem de_tab {ec e : Expr} {es fes : List Expr} {Fs : List Fn} {w : M D} {ms : List (M D)} {p2 pos pos2 : Pos} (g : Gd n X b) (T : TabOk X b n fes Fs) (hw : DE X b ec w) (ha : DA X b (e :: es) ms) (hl : Fs.length ≤ 12) (hs : PlainIx ec := by exact fun _ _ => rfl)
    (ht : eval (.Call (.Subscript (.List fes p2) ec pos2) (e :: es) [] pos) X.env = (do callWith pos (← eval (.Subscript (.List fes p2) ec pos2) X.env) [] (backTo pos (starEach (e :: es) X.env)) (backToKw pos (keywordEach [] X.env))) := by rfl)
    (he : starEach (e :: es) X.env = (false, eval e X.env) :: starEach es X.env := by rfl) (hpl : (backTo pos (starEach es X.env)).any (·.1) = false := by rfl) :
    DE X b (.Call (.Subscript (.List fes p2) ec pos2) (e :: es) [] pos) (eTab Fs w ms) := by
  obtain ⟨fs, h1, h2, h3⟩ := T.pa g.kk
  refine PE.imp (pe_tab (S := fun f F => ∃ j, fs[j]? = some f ∧ Fs[j]? = some F) g (pe_ix (by rw [g.kk]; exact ix_seq : IxR X (rIx b.cn.K)) (pe_lst h1) hw hs) (fun f F ⟨j, q1, q2⟩ => h3 j f F q1 q2) ha ht he hpl) fun σ H Q ⟨lb, ρ, s, o, h⟩ => ?_
  refine ⟨Nat.le_trans (show (fs.map V.ref).length ≤ 12 by rw [List.length_map, h2]; exact hl) (by decide), fun q nq => ?_⟩
  have h : Post b σ lb H ((w ρ s).bind _) _ := h
  have ex0 := Ext.upd (o := .lst (fs.map V.ref)) nq
  refine ⟨lb, ρ, s, o.ext ex0, (Post.bind (Post.from h (o.stp_ext ex0))).mono fun d ρ1 s1 lb1 H1 st o1 h1 => fun v H2 ex r => ?_⟩
  have hq : H2 q = some (.lst (fs.map V.ref)) := by
    have lq : lb q = none := Has.none o.has nq
    exact ex _ _ (st.keep q _ upd_same lq)
  have o2 := o1.ext ex
  have h1 := Post.from h1 (o1.stp_ext ex)
  cases d with
  | int i =>
    simp only at h1
    cases e1 : ixOf Fs.length i with
    | none => rw [e1] at h1; exact False.elim h1
    | some j =>
      rw [e1] at h1
      simp only [Option.bind_some] at h1
      cases e2 : Fs[j]? with
      | none => rw [e2] at h1; exact False.elim h1
      | some F =>
        rw [e2] at h1
        simp only at h1
        have hj : j < fs.length := by rw [h2]; exact (List.getElem?_eq_some_iff.mp e2).1
        have ev : v = .int i := by simpa only [Rep] using r
        refine .inl ⟨q, fs.map V.ref, i, .ref fs[j], rfl, ev, .of hq, ?_, fs[j], F, rfl, ⟨j, List.getElem?_eq_getElem hj, e2⟩, ?_⟩
        · unfold atI
          rw [List.length_map, ← ixOf_eq, h2, e1]
          simp [hj]
        · refine ⟨lb1, ρ1, s1, o2, (Post.bind h1).mono fun ds ρ2 s2 lb2 H3 st3 o3 q3 => fun vs H4 ex4 r4 => ?_⟩
          exact call_run (o3.ext ex4) r4 (Post.from q3 (o3.stp_ext ex4))
  | _ => exact False.elim h1
end
end Pk
/-! Br28: the head's facts, with the error classes. -/
namespace Pk
open PySem PySem.Spec PyProof.Rows L2
/-- the first def of a class -/
def clsM (s : Stmt) : Stmt := match s with
  | .ClassDef _ _ _ (m :: _) .. => m
  | s => s
def obsX (fa : List He.Fa) (fn : List He.DefD) (fx : PySem.W.Frag → Bool) (K : PySem.W.Frag) : He.AlD := (((fa.all fun f => f.ok K) && fn.all fun d => d.ok K) && fx K, fn.map fun d => He.fnW K d.at_)
def SaysX (fa : List He.Fa) (fn : List He.DefD) (fx : PySem.W.Frag → Bool) (K : PySem.W.Frag) : Prop := obsX fa fn fx K = He.valD fn
def obsXG (n : Nat) (fa : List He.Fa) (fn : List He.DefD) (fx : PySem.W.Frag → Bool) (g : Addr → Option Obj) : He.AlD := obsX fa fn fx (He.frG g (He.asD g n))
def hookX (n : Nat) (fa : List He.Fa) (fn : List He.DefD) (fx : PySem.W.Frag → Bool) : PySem.W.Hook where
  α := He.AlD
  obs := fun s => obsXG n fa fn fx s.heap.get?
  val := fun _ => He.valD fn
  says := fun _ h => ∃ K : PySem.W.Frag, K.In h ∧ SaysX fa fn fx K
  of := fun _ _ e => ⟨_, He.frG_in, e⟩
  keeps := fun _ _ _ ⟨K, hK, c⟩ k => ⟨K, PySem.W.Frag.In.keeps hK k, c⟩
theorem obsXG_eq {n : Nat} {fa : List He.Fa} {fn : List He.DefD} {fx : PySem.W.Frag → Bool} {g : Addr → Option Obj} {s : Shared} (h : ∀ a, g a = s.heap.get? a) : obsXG n fa fn fx g = (hookX n fa fn fx).obs s := by
  have e : g = s.heap.get? := funext h
  rw [e] <;> rfl
section
variable {fa : List He.Fa} {fn : List He.DefD} {fx : PySem.W.Frag → Bool} {K : PySem.W.Frag}
theorem SaysX.d (c : SaysX fa fn fx K) : He.SaysD fa fn K := by
  have h1 := (He.ba (show (((fa.all fun f => f.ok K) && fn.all fun d => d.ok K) && fx K) = true from congrArg (fun z : He.AlD => z.1) c)).1
  have h2 : fn.map (fun d => He.fnW K d.at_) = fn.map He.DefD.val := congrArg (fun z : He.AlD => z.2) c
  show He.obsD fa fn K = He.valD fn
  unfold He.obsD He.valD
  rw [h1, h2]
theorem SaysX.x (c : SaysX fa fn fx K) : fx K = true := (He.ba (show (((fa.all fun f => f.ok K) && fn.all fun d => d.ok K) && fx K) = true from congrArg (fun z : He.AlD => z.1) c)).2
end
/-! ### the error classes -/
def exNames : List Str := ["NoLand", "NoCell", "NoPeak", "NoLevel", "NoSlope", "NoWalk", "NoHeight", "NoFit", "NoKind", "NoText", "TooMany", "Nothing", "LandError"]
def exCls (K : PySem.W.Frag) (k : Nat) : Addr := He.ga K (exNames.getD k "")
def excCB (K : PySem.W.Frag) (D : Addr) : Bool := He.eqO (PySem.W.findIn K (.ref D) "__getattribute__") (some (some (.builtin "BaseException.__getattribute__"))) && (He.eqO (PySem.W.findIn K (.ref D) "__getattr__") (some none) && (decide (PySem.W.subIn K (.ref D) (.type "BaseException") = some true) && (PySem.W.hasDictIn K D &&
  (He.eqO (PySem.W.findIn K (.ref D) "__class__") (some (some (.builtin "object.__class__"))) && (He.eqO (PySem.W.specialIn K (.builtin "object.__class__") "__get__") (some (some (.builtin "getset_descriptor.__get__"))) && (decide (PySem.W.takesIn K (.builtin "object.__class__") = some true) && decide (PySem.W.mroIn K D (.type "object") = some true)))))))
theorem excCB_ok {K : PySem.W.Frag} {D : Addr} (h : excCB K D = true) : ExcC K D := by
  obtain ⟨h1, h⟩ := He.ba h
  obtain ⟨h2, h⟩ := He.ba h
  obtain ⟨h3, h⟩ := He.ba h
  obtain ⟨h4, h⟩ := He.ba h
  obtain ⟨h5, h⟩ := He.ba h
  obtain ⟨h6, h⟩ := He.ba h
  obtain ⟨h7, h8⟩ := He.ba h
  exact ⟨He.eqO_ok h1, He.eqO_ok h2, of_decide_eq_true h3, h4, He.eqO_ok h5, He.eqO_ok h6, of_decide_eq_true h7, of_decide_eq_true h8⟩
def exBk (K : PySem.W.Frag) (k : Nat) : Bool := excCB K (exCls K k) && (((List.range 12).all fun j => decide (PySem.W.kitOne K (.ref (exCls K k)) (.ref (exCls K j)) = some (k == j))) && (decide (PySem.W.kitOne K (.ref (exCls K k)) (.type "ValueError") = some true) && (decide (PySem.W.kitOne K (.ref (exCls K k)) (.ref (exCls K 12)) = some true) &&
  (decide (PySem.W.exmOne K (.ref (exCls K k)) (.ref (exCls K 12)) = some true) && (decide (PySem.W.exmOne K (.ref (exCls K k)) (.ref (exCls K 1)) = some (k == 1)) && decide (PySem.W.exmOne K (.ref (exCls K k)) (.ref (exCls K 2)) = some (k == 2)))))))
/-- a class with __init__(self, cell) -/
def oexA (K : PySem.W.Frag) (C : Addr) : Bool := oexB K C && (He.eqO (PySem.W.findIn K (.ref C) "__setattr__") (some (some (.builtin "object.__setattr__"))) && (decide (PySem.W.subIn K (.ref C) (.type "BaseException") = some true) && (decide (PySem.W.typeIn K (.ref C) = some (.type "type")) && (PySem.W.keepIn K (.ref C) &&
  (He.eqO (PySem.W.findIn K (.ref C) "cell") (some none) && (He.eqO (PySem.W.findIn K (.ref C) "__init__") (some (some (.ref (He.ma K C "__init__")))) && (decide (PySem.W.typeIn K (.ref (He.ma K C "__init__")) = some (.type "function")) && xfB K C)))))))
structure OexA (K : PySem.W.Frag) (C : Addr) : Prop where
  T : OexC K C
  no : PySem.W.findIn K (.ref C) "cell" = some none
  ini : PySem.W.findIn K (.ref C) "__init__" = some (some (.ref (He.ma K C "__init__")))
  ty : PySem.W.typeIn K (.ref (He.ma K C "__init__")) = some (.type "function")
  xf : XfC K C
theorem oexA_ok {K : PySem.W.Frag} {C : Addr} (h : oexA K C = true) : OexA K C := by
  obtain ⟨h1, h⟩ := He.ba h
  obtain ⟨h2, h⟩ := He.ba h
  obtain ⟨h3, h⟩ := He.ba h
  obtain ⟨h4, h⟩ := He.ba h
  obtain ⟨h5, h⟩ := He.ba h
  obtain ⟨h6, h⟩ := He.ba h
  obtain ⟨h7, h⟩ := He.ba h
  obtain ⟨h8, h9⟩ := He.ba h
  exact ⟨⟨oexB_ok h1, He.eqO_ok h2, of_decide_eq_true h3, of_decide_eq_true h4, h5⟩, He.eqO_ok h6, He.eqO_ok h7, of_decide_eq_true h8, xfB_ok h9⟩
def exAll (K : PySem.W.Frag) : Bool := ((List.range 12).all fun k => exBk K k) && (oexA K (exCls K 1) && oexA K (exCls K 2))
theorem exAll_ok {cn : Cn} (hc : cn.cls = exCls cn.K) (h : exAll cn.K = true) : ExX cn ∧ OexA cn.K (cn.cls 1) ∧ OexA cn.K (cn.cls 2) := by
  obtain ⟨h1, h⟩ := He.ba h
  obtain ⟨h2, h3⟩ := He.ba h
  rw [hc]
  have key : ∀ k, k < 12 → exBk cn.K k = true := fun k hk => List.all_eq_true.mp h1 k (List.mem_range.mpr hk)
  refine ⟨⟨fun k hk => ?_, fun k j hk hj => ?_, fun k hk => ?_, fun k hk => ?_, fun k hk => ?_, fun k hk => ?_, fun k hk => ?_⟩, oexA_ok h2, oexA_ok h3⟩
  all_goals
    obtain ⟨a1, a⟩ := He.ba (key k hk)
    obtain ⟨a2, a⟩ := He.ba a
    obtain ⟨a3, a⟩ := He.ba a
    obtain ⟨a4, a⟩ := He.ba a
    obtain ⟨a5, a⟩ := He.ba a
    obtain ⟨a6, a7⟩ := He.ba a
    rw [hc]
  · exact excCB_ok a1
  · exact of_decide_eq_true (List.all_eq_true.mp a2 j (List.mem_range.mpr hj))
  · exact of_decide_eq_true a3
  · exact of_decide_eq_true a4
  · exact of_decide_eq_true a5
  · exact of_decide_eq_true a6
  · exact of_decide_eq_true a7
/-- by what the head told -/
theorem errC_of {cn : Cn} {h : Heap} {mg : Str → Option Value} {x : Str} {k : Nat} (hc : cn.cls = exCls cn.K) (hx : exNames.getD k "" = x) (X : cn.K.In h) (G : h.Ns mainGlobals mg) (c : (He.Fa.exc x).ok cn.K = true) (c2 : (He.Fa.glo x).ok cn.K = true) : ErrC cn mg k x := by
  have e : cn.cls k = He.ga cn.K x := by rw [hc]; unfold exCls; rw [hx]
  obtain ⟨c1, c3, c4, c5⟩ := He.exc_ok c
  refine ⟨?_, ?_, ?_, ?_, ?_⟩ <;> rw [e]
  · exact c1
  · exact He.glo_ok X G c2
  · exact c3
  · exact c4
  · exact c5
theorem errI_of {cn : Cn} {P : Program} {w : World} {mg : Str → Option Value} {base : Heap} {h : Heap} {x qual : Str} {params : Arguments} {body : List Stmt} {scope : Scope} {fd : FuncData} {k : Nat} (hc : cn.cls = exCls cn.K) (hx : exNames.getD k "" = x) (X : cn.K.In h) (G : h.Ns mainGlobals mg) (c2 : (He.Fa.glo x).ok cn.K = true)
    (O : OexA cn.K (cn.cls k)) (F : FunD cn.K "__init__" qual params body scope [] [] (He.fAd cn.K (x, some "__init__")) fd) (S : FnScope ["self", "cell"] ["self", "cell"] scope)
    (hb : ∀ (f : Addr) (cdv : Value) (A : Around) (outer : List PySem.Env) (s : Shared) (H : Hp) (E : XK), PSs (cxOf (L2.CX P w) P w cn.K mg base ["self", "cell"] qual scope f cdv A outer s H E) body (tOst cn.K "cell" (tVar 0) (tVar 1)))
    (h2 : ∀ (kV doc pm : Value) (an : Option Addr) (cdv ct : Value) (us : List Value), us.length = 2 → bindArgs (PySem.W.fnOf "__init__" qual params body scope .none kV doc pm an cdv ct) ⟨us, []⟩ = pure ((["self", "cell"] : List Str).zip us)) : ErrI cn P w mg base k x := by
  have e : cn.cls k = He.ga cn.K x := by rw [hc]; unfold exCls; rw [hx]
  have ef : He.fAd cn.K (x, some "__init__") = He.ma cn.K (cn.cls k) "__init__" := by rw [e]; rfl
  rw [ef] at F
  refine ⟨O.T, by rw [e]; exact He.glo_ok X G c2, _, fd, init_ok F S O.T O.no (fun cdv A outer s H E => hb _ cdv A outer s H E), O.ini, O.ty, F.bindsN h2⟩
end Pk
/-! Br29: x * y of a tuple and a number. -/
namespace Pk
open PySem PySem.Spec PyProof.Rows L2
section
variable {X : Cx} {b : Bd} {n : Nat} {cn : Cn}
theorem p2_mulT {r : R2} (h0 : P2 false cn r pMul) : P2 false cn (fun x y H Q => r x y H Q ∨ rRepT cn.K x y H Q) pMulT := by
  intro lb H x y d1 d2 e Q hs r1 r2 h k
  cases d1 with
  | tup l =>
    cases d2 with
    | int j => exact .inr (p2_repT lb H x y _ _ e Q hs r1 r2 h k)
    | _ => exact .inl (h0 lb H x y _ _ e Q hs r1 r2 h k)
  | _ => exact .inl (h0 lb H x y _ _ e Q hs r1 r2 h k)
end
end Pk
/-! Br30: len(set(x)) of tuples of numbers. -/
namespace Pk
open PySem PySem.Spec PyProof.Rows L2
section
variable {X : Cx} {b : Bd} {n : Nat} {cn : Cn}
theorem keys_rep {lb : Lb} {H : Hp} : ∀ {l : List D} {vs : List V} {ks : List (List Int)}, RepL cn lb H l vs → keysOf l = some ks → ∃ ps : List (Addr × List Int), vs = (ps.map fun p => V.ref p.1) ∧ ps.map (·.2) = ks ∧ ∀ p ∈ ps, H p.1 = some (.tup (p.2.map V.int))
  | [], vs, ks, r, h => by
    simp only [RepL] at r
    cases h
    exact ⟨[], r, rfl, fun p hp => by cases hp⟩
  | d :: l, vs, ks, r, h => by
    simp only [RepL] at r
    obtain ⟨v, r', rfl, r1, r2⟩ := r
    cases d with
    | tup x =>
      simp only [keysOf, tupIntsOf] at h
      cases e1 : intsOf x with
      | none => rw [e1] at h; cases h
      | some k =>
        rw [e1] at h
        simp only [Option.bind_some] at h
        cases e2 : keysOf l with
        | none => rw [e2] at h; cases h
        | some ks' =>
          rw [e2] at h
          cases h
          obtain ⟨ps, p1, p2, p3⟩ := keys_rep r2 e2
          simp only [Rep] at r1
          obtain ⟨a, xs, rfl, nt, _, rx⟩ := r1
          refine ⟨(a, k) :: ps, by rw [p1]; rfl, by rw [List.map_cons, p2], fun p hp => ?_⟩
          rcases List.mem_cons.mp hp with rfl | hp
          · rw [← ints_rep rx e1]
            exact nt.2
          · exact p3 p hp
    | _ => simp [keysOf, tupIntsOf] at h
/-- the length of a set of tuples -/
def rLenT (P : Program) (w : World) : List V → Hp → VK → Prop := fun xs H Q => ∃ (a : Addr) (L : List (Addr × List Int)), xs = [V.ref a] ∧ H a = some (SetTO P w a L) ∧ ((L.map (·.2)).Nodup → Q (.int (L.length : Nat)) H)
theorem call_lenT : CallR X (.builtin "len") (rLenT X.prog X.w) := by
  intro pins s σ H xs us Q I r h
  obtain ⟨a, L, rfl, ha, q⟩ := h
  cases r with
  | cons rx rr =>
    cases rr
    cases rx
    have x : ObjOk X.prog X.w H s.heap a (.ext fun h => SetT0 X.prog X.w h a L) := I.hok a _ ha
    obtain ⟨es, ep, t, ⟨o, ho, hex, hd⟩, e1, e2, e3, e4, e5, e6, e7⟩ := x.1.ex
    have hn : es.size = L.length := by
      have : es.toList.length = (rowsOf X.prog X.w L).length := by rw [e1]
      simpa [rowsOf] using this
    refine call_len_set ho hex hd ?_ (by rw [hn]; omega) ⟨.int (L.length : Nat), H, I.tok _, ⟨_, by rw [hn]⟩, q e3⟩
    have h1 : t.place.size = L.length := by rw [e2.sz, List.length_map]
    unfold SetTable.fits SetTable.fill
    rw [e2.dm, hn]
    simp [h1]
    omega
theorem perm_len {α : Type} : ∀ (L K : List α), L.Nodup → K.Nodup → (∀ x ∈ L, x ∈ K) → (∀ x ∈ K, x ∈ L) → L.length = K.length := fun L K hL hK h1 h2 =>
  ((List.perm_ext_iff_of_nodup hL hK).mpr fun x => ⟨h1 x, h2 x⟩).length_eq
theorem de_lenSet {ea : Expr} {a : Opd} {p p2 q pos : Pos} (g : Gd n X b) (hg : Gl X "len") (hm : X.mg "len" = none) (hg2 : Gl X "set") (hm2 : X.mg "set" = none) (ha : DO X b ea a)
    (na : starEach [ea] X.env = (false, eval ea X.env) :: starEach [] X.env := by rfl) (nb : starEach [.Call (.Name "set" p2) [ea] [] q] X.env = (false, eval (.Call (.Name "set" p2) [ea] [] q) X.env) :: starEach [] X.env := by rfl) :
    DE X b (.Call (.Name "len" p) [.Call (.Name "set" p2) [ea] [] q] [] pos) (e1 pLenSet a) := by
  refine PE.imp (pe_callB call_lenT hg hm boot_len (pa_cons (pe_callTy (cr_setOfT g.calm (by have := g.units; omega)) hg2 hm2 PyProof.Rows.boot_set (pa_cons ha.pe pa_nil na) (by decide) (by decide) na rfl) pa_nil nb) (by decide) (by decide) nb rfl) fun σ H Q h => ?_
  refine t1_run (r := fun x H Q => rSetOfT X.K X.prog X.w [x] H fun v H2 => rLenT X.prog X.w [v] H2 Q) (fun lb H x d e Q hs r h k => ?_) h
  cases d with
  | lst l =>
    simp only [pLenSet] at h
    cases e1 : keysOf l with
    | none => rw [e1] at h; cases h
    | some ks =>
      rw [e1] at h
      simp only [Option.bind_some] at h
      split at h
      · rename_i hz
        have hz := of_lim hz
        cases h
        obtain ⟨a, vs, rfl, ea, _, rl⟩ := r.lst
        obtain ⟨ps, p1, p2, p3⟩ := keys_rep rl e1
        have hlen : ps.length = l.length := by rw [rl.length, p1, List.length_map]
        rw [p1] at ea
        refine ⟨a, ps, rfl, .of ea, fun q hq => .of (p3 q hq), by rw [hlen]; exact hz.2, fun c L nc h1 h2 => ⟨c, L, rfl, upd_same, ?_⟩⟩
        intro nd
        have e : L.length = l.length := by
          have := perm_len (L.map (·.2)) ks nd hz.1 (fun x hx => ?_) (fun x hx => ?_)
          · rw [List.length_map] at this
            rw [this, ← p2, List.length_map, hlen]
          · obtain ⟨q, hq, rfl⟩ := List.mem_map.mp hx
            rw [← p2]
            exact List.mem_map.mpr ⟨q, h1 q hq, rfl⟩
          · rw [← p2] at hx
            obtain ⟨q, hq, rfl⟩ := List.mem_map.mp hx
            exact h2 q hq
        rw [e]
        exact k _ _ (Ext.upd nc) (by simp only [Rep])
      · cases h
  | _ => cases h
end
end Pk
/-! Br31: list(reversed(x)). -/
namespace Pk
open PySem PySem.Spec PyProof.Rows L2 RT
section
variable {prog : Program} {w : World} {A : Around} {E : Value → Shared → Prop} {s : Shared}
theorem extend_rev {it l S : Addr} {items : Array Value} {res : Value} {c₀ : Nat} {R : Result → Shared → Prop} (hh : A.handled = none) (hit : s.heap.IsRevIter it l ((items.size : Int) - 1)) (hl : s.heap.IsList l items) (hne : l ≠ it) (hn : items.size ≤ sizeLine) (hSi : S ≠ it) (hSl : S ≠ l)
    (hS : s.heap.get? S = some { cls := .type "list", data := .seq #[] c₀ })
    (hR : ∀ (h' : Heap) (tk : Nat) (acc : Array Value) (c' : Nat), (∀ b o, b ≠ S → b ≠ it → s.heap.get? b = some o → h'.get? b = some o) → h'.get? S = some { cls := .type "list", dict := none, data := .seq acc c', slots := #[] } → ItemsOf (fun i v => items[items.size - 1 - i]? = some v) acc items.size → R (.ok (.ret res)) { s with heap := h', toks := tk }) :
    wpAny (model prog w) A.in1 (Builtin.List.listExtendWith (.ref S) (.ref it) res)
      (fun fin s' => match fin with | .done f => R (.ok f) s' | .again c' => c'.quiet = true ∧ codeAny (model prog w) A c' R s') (fun e s' => R (.error e) s') s := by
  have W := (Walks.listRev (prog := prog) (w := w) (A := A.in1) hh it l hne items).toS
  have hSf : S ∉ [it, l] := by simp only [List.mem_cons, List.not_mem_nil, or_false, not_or]; exact ⟨hSi, hSl⟩
  have hT : s.TypeIs (.ref it) "list_reverseiterator" := hit.typeIs
  have h1 : Builtin.List.listSameRef (.ref S) (.ref it) = false := by simp [Builtin.List.listSameRef, hSi]
  unfold Builtin.List.listExtendWith
  refine wpAny_bind (wpAny_typeOf hT ?_)
  rw [if_neg (by rw [h1]; decide)]
  refine wpAny_bind (wpAny_pyIter_revIter hit ?_)
  refine wpAny_bind (wpAny_holding ?_)
  unfold Builtin.List.listLengthHint
  refine wpAny_bind (wpAny_specialOf hT nolen_lri ?_)
  show wpAny _ A.in1 (specialOf (Value.ref it) (Str.ofString "__length_hint__") >>= _) _ _ _
  refine wpAny_bind (wpAny_specialOf hT hint_lri ?_)
  generalize hid : ("list_reverseiterator.__length_hint__" : String) = id0
  wp_delta
  rw [show splitId id0 = some ("list_reverseiterator", "__length_hint__") from by subst hid; decide +kernel]
  subst hid
  refine wpAny_bind (wpAny_isInstance (b := true) hT (by rw [isSubtype_type]; kernel_rfl) ?_)
  refine wpAny_pure ?_
  rw [if_neg (by decide)]
  have e0 : ((items.size : Nat) : Int) - 1 - ((0 : Nat) : Int) = (items.size : Int) - 1 := by omega
  refine wpAny_pure ⟨plainId_quiet F.plain_extend_loop _, codeAny_extend_loopS W hn _ hSf _ items.size 0 _ _ _ rfl (Nat.zero_le _) ⟨Nat.zero_le _, by rw [e0]; exact hit, hl⟩ hS (ItemsOf.nil _) fun s' acc' c' hm hS' hacc => ?_⟩
  rw [Moved.eq_with hm]
  refine hR s'.heap s'.toks acc' c' (fun b o hb hb2 e => hm.heap b o (fun hmem => ?_) e) hS' hacc
  rcases List.mem_cons.mp hmem with e' | hmem
  · exact hb e'
  · exact hb2 (List.mem_singleton.mp hmem)
theorem call_list_rev {it l : Addr} {items : Array Value} {Q : Value → Shared → Prop} (hh : A.handled = none) (hit : s.heap.IsRevIter it l ((items.size : Int) - 1)) (hl : s.heap.IsList l items) (hne : l ≠ it) (hn : items.size ≤ sizeLine)
    (hQ : ∀ (h' : Heap) (tk : Nat) (acc : Array Value) (c' : Nat), (∀ b o, b ≠ it → s.heap.get? b = some o → h'.get? b = some o) → h'.get? s.heap.objs.size = some { cls := .type "list", dict := none, data := .seq acc c', slots := #[] } → ItemsOf (fun i v => items[items.size - 1 - i]? = some v) acc items.size →
      Q (.ref s.heap.objs.size) { s with heap := h', toks := tk }) :
    wpAny (model prog w) A (call (.type "list") [.ref it]) Q E s := by
  refine callType_codes (Q₁ := fun obj s₁ => obj = .ref s.heap.objs.size ∧ s₁ = { s with heap := s.heap.push { cls := .type "list", data := .seq #[] } }) PySem.F.called_list (PySem.F.typeCall_list_1 _) PySem.F.entry_list_init
    (code_list_new _ ⟨rfl, rfl⟩) fun obj s₁ h₁ => ?_
  obtain ⟨rfl, rfl⟩ := h₁
  have hS : (s.heap.push { cls := .type "list", data := .seq #[] }).get? s.heap.objs.size = some { cls := .type "list", data := .seq #[] } := Heap.get?_push_size _ rfl
  obtain ⟨oi, hoi, _⟩ := id hit
  obtain ⟨ol, hol, _⟩ := id hl
  have hSi : s.heap.objs.size ≠ it := Nat.ne_of_gt (Heap.lt_size hoi)
  have hSl : s.heap.objs.size ≠ l := Nat.ne_of_gt (Heap.lt_size hol)
  refine ⟨⟨_, hS, rfl⟩, PySem.F.args_list_init_2 _ _, ?_⟩
  show wpAny _ _ (do let old ← Builtin.List.listItems (.ref s.heap.objs.size); Builtin.List.listUpdate (.ref s.heap.objs.size) (fun _ => #[]); letGo old.toList.reverse; Builtin.List.listExtendWith (.ref s.heap.objs.size) (.ref it) .none) _ _ _
  refine wpAny_bind ?_
  unfold Builtin.List.listItems
  refine wpAny_bind (wpAny_seqItems hS rfl (wpAny_pure ?_))
  show wpAny _ _ (updateSeq s.heap.objs.size (fun _ => #[]) >>= fun _ => letGo (#[] : Array Value).toList.reverse >>= fun _ => Builtin.List.listExtendWith (.ref s.heap.objs.size) (.ref it) .none) _ _ _
  refine wpAny_bind (wpAny_updateSeq hS rfl ?_)
  have hS₂ := Heap.get?_update_self (Obj.mapSeq (fun _ => (#[] : Array Value))) hS rfl
  have oth : ∀ b o, b ≠ s.heap.objs.size → s.heap.get? b = some o → ((s.heap.push { cls := .type "list", data := .seq #[] }).update s.heap.objs.size (Obj.mapSeq (fun _ => (#[] : Array Value)))).get? b = some o :=
    fun b o hb e => (Heap.get?_update_other _ _ (Ne.symm hb)).trans (Heap.get?_push_of_some _ e)
  refine wpAny_bind (wpAny_letGo ?_)
  refine extend_rev (A := A.in1) (s := { s with heap := (s.heap.push { cls := .type "list", data := .seq #[] }).update s.heap.objs.size (Obj.mapSeq (fun _ => (#[] : Array Value))) }) hh (hit.at fun o e => oth _ _ (Ne.symm hSi) e) (hl.at fun o e => oth _ _ (Ne.symm hSl) e) hne hn hSi hSl hS₂ fun h' tk acc c' hk hS' hacc => ?_
  exact ⟨rfl, hQ h' tk acc c' (fun b o hb e => hk b o (Nat.ne_of_lt (Heap.lt_size e)) hb (oth b o (Nat.ne_of_lt (Heap.lt_size e)) e)) hS' hacc⟩
end
section
variable {X : Cx} {b : Bd} {n : Nat}
def tLstRev (K : PySem.W.Frag) (te : TE) : TE := fun σ H Q => te σ H fun v H1 => ∃ (a : Addr) (xs : List V), v = .ref a ∧ SqL K H1 a xs ∧ ∀ q, H1 q = none → Q (.ref q) (L2.upd H1 q (.lst xs.reverse))
theorem pe_lstRev {e : Expr} {te : TE} {p p2 pos pos2 : Pos} (hc : X.calm = true) (hg : Gl X "list") (hm : X.mg "list" = none) (hg2 : Gl X "reversed") (hm2 : X.mg "reversed" = none) (he : PE X e te)
    (hs : starEach [e] X.env = (false, eval e X.env) :: starEach [] X.env := by rfl)
    (hs2 : starEach [.Call (.Name "reversed" p2) [e] [] pos2] X.env = (false, eval (.Call (.Name "reversed" p2) [e] [] pos2) X.env) :: starEach [] X.env := by rfl) :
    PE X (.Call (.Name "list" p) [.Call (.Name "reversed" p2) [e] [] pos2] [] pos) (tLstRev X.K te) := by
  refine ⟨fun pins s σ H Q I h => ?_⟩
  refine Call_ (ld_blt I hg hm PyProof.Rows.boot_list (PyProof.Rows.callWith_type1 (args_cons (Call_ (ld_blt I hg2 hm2 PyProof.Rows.boot_reversed (PyProof.Rows.callWith_type1 (args_cons (thn (he.run pins s σ H _ I h) fun u s1 ⟨v, H1, I1, r1, q1⟩ => args_nil ?_) hs) hs rfl))) hs2) hs2 rfl))
  obtain ⟨a, xs, ev, hq, q⟩ := q1
  subst ev
  obtain rfl : u = Value.ref a := r1
  obtain ⟨its, rv, p', hz⟩ := I1.list hq
  refine call_reversed_list p'.isList (args_nil ?_)
  have k0 : ∀ b o, s1.heap.get? b = some o → (s1.heap.push (revObj a ((its.toArray.size : Int) - 1))).get? b = some o := fun b o e => Heap.get?_push_of_some _ e
  have I2 : Inv X pins σ H1 { s1 with heap := s1.heap.push (revObj a ((its.toArray.size : Int) - 1)) } := I1.kept (t' := s1.toks) k0
  obtain ⟨f0, f1, f2, f3, f4, f5⟩ := I1.fpOk (H' := H1) (b := s1.heap.objs.size) (Nat.le_refl _) (I1.hok.fresh (Nat.le_refl _))
  have hl := p'.isList
  obtain ⟨ol, hol, _⟩ := id hl
  have hne : a ≠ s1.heap.objs.size := Nat.ne_of_lt (Heap.lt_size hol)
  have hn : its.toArray.size ≤ sizeLine := by rw [List.size_toArray, ← rv.length]; exact hz
  refine call_list_rev (s := { s1 with heap := s1.heap.push (revObj a ((its.toArray.size : Int) - 1)) }) (I1.ok.hd hc) ⟨_, Heap.get?_push_size _ rfl, rfl, rfl⟩ (hl.push _) hne hn fun h' tk acc c' hk hS hi => ?_
  have kp : ∀ b o, s1.heap.get? b = some o → h'.get? b = some o := fun b o e => hk b o (Nat.ne_of_lt (Heap.lt_size e)) (k0 b o e)
  have hsz : s1.heap.objs.size ≤ (s1.heap.push (revObj a ((its.toArray.size : Int) - 1))).objs.size := by rw [Heap.size_push]; exact Nat.le_succ _
  refine ⟨.ref (s1.heap.push (revObj a ((its.toArray.size : Int) - 1))).objs.size, _, I1.laid (t' := tk) (o := .lst xs.reverse) kp hsz ?_, rfl, q _ (I1.hok.fresh hsz)⟩
  exact ⟨by rw [List.length_reverse]; exact hz, acc.toList, c', vals_rev rv hi, by rw [Array.toArray_toList]; exact hS⟩
theorem df_lstRev {ea : Expr} {a : Opd} {p p2 pos pos2 : Pos} (g : Gd n X b) (hg : Gl X "list") (hm : X.mg "list" = none) (hg2 : Gl X "reversed") (hm2 : X.mg "reversed" = none) (ha : DO X b ea a)
    (hs : starEach [ea] X.env = (false, eval ea X.env) :: starEach [] X.env := by rfl)
    (hs2 : starEach [.Call (.Name "reversed" p2) [ea] [] pos2] X.env = (false, eval (.Call (.Name "reversed" p2) [ea] [] pos2) X.env) :: starEach [] X.env := by rfl) :
    DF X b (.Call (.Name "list" p) [.Call (.Name "reversed" p2) [ea] [] pos2] [] pos) (e1 pRevL a) := by
  refine PE.imp (pe_lstRev g.calm hg hm hg2 hm2 ha.pe hs hs2) fun σ H Q h => ?_
  refine t1_run (r := fun x H1 Q => ∃ a xs, x = .ref a ∧ SqL X.K H1 a xs ∧ ∀ p, H1 p = none → Q (.ref p) (L2.upd H1 p (.lst xs.reverse))) (fun lb H x d e Q hs r h k => ?_) h
  cases d with
  | lst l =>
    cases h
    obtain ⟨p, vs, rfl, hp, z, rl⟩ := r.lst
    exact ⟨p, vs, rfl, .of hp, fun p2 np => (show KF b.cn lb H _ Q from k) p2 _ np ⟨vs.reverse, rfl, by rw [List.length_reverse]; exact z, rl.reverse⟩⟩
  | _ => cases h
end
end Pk
/-! Br32: dict(pairs), d[k] with keys that are tuples of numbers. -/
namespace Pk
open PySem PySem.Spec PyProof.Rows L2
section
variable {X : Cx} {b : Bd} {n : Nat} {cn : Cn}
theorem pairsT_of {pins : List (Addr × Obj)} {σ : L2.St} {H : Hp} {s : Shared} (I : Inv X pins σ H s) : ∀ {ps : List Addr} {kvs : List (List Int × Addr × V)}, Paired (fun p kv => H p = some (.tup [.ref kv.2.1, kv.2.2]) ∧ H kv.2.1 = some (.tup (kv.1.map V.int))) ps kvs →
    ∃ prs : List (List Key × Addr × Value), Paired (fun (kv : List Int × Addr × V) q => kv.1.map Sum.inl = q.1 ∧ q.2.1 = kv.2.1 ∧ RelV kv.2.2 q.2.2) kvs prs ∧ prs.length = ps.length ∧ ∀ (j : Nat) (q : List Key × Addr × Value), prs[j]? = some q → ∃ c : Addr, ps[j]? = some c ∧ IsTup s.heap c #[.ref q.2.1, q.2.2] ∧ H q.2.1 = some (.tup (q.1.map kV))
  | _, _, .nil => ⟨[], .nil, rfl, fun j q e => by simp at e⟩
  | _, _, .cons (a := p) (b := kv) h t => by
    obtain ⟨prs, r, hl, hp⟩ := pairsT_of I t
    obtain ⟨its, rv, ht, _⟩ := I.tuple (.of h.1)
    obtain ⟨u, y, ei, ru, ry⟩ := vals2 rv
    subst ei
    obtain rfl : u = Value.ref kv.2.1 := ru
    refine ⟨(kv.1.map Sum.inl, kv.2.1, y) :: prs, .cons ⟨rfl, rfl, ry⟩ r, by rw [List.length_cons, List.length_cons, hl], fun j q e => ?_⟩
    cases j with
    | zero =>
      have e' : (kv.1.map Sum.inl, kv.2.1, y) = q := Option.some.inj e
      subst e'
      refine ⟨p, rfl, ht, ?_⟩
      rw [List.map_map]
      exact h.2
    | succ j =>
      obtain ⟨c, e1, e2, e3⟩ := hp j q (by simpa using e)
      exact ⟨c, by simpa using e1, e2, e3⟩
theorem stored_nodup : ∀ (ps xs : List (List Key × Addr × Value)), ((xs ++ ps).map (·.1)).Nodup → storedAllH xs ps = xs ++ ps
  | [], xs, _ => by simp [storedAllH]
  | p :: ps, xs, h => by
    have hn : atKey xs p.1 = none := by
      unfold atKey
      have : xs.find? (fun x => decide (x.1 = p.1)) = none := List.find?_eq_none.mpr fun x hx z => by
        have z : x.1 = p.1 := of_decide_eq_true z
        rw [List.map_append, List.nodup_append] at h
        exact h.2.2 x.1 (List.mem_map.mpr ⟨x, hx, rfl⟩) p.1 (by simp) z
      rw [this]
      rfl
    have e : storedAllH xs (p :: ps) = storedAllH (storedH xs p.1 p.2.1 p.2.2) ps := rfl
    rw [e, storedH_new hn, stored_nodup ps (xs ++ [(p.1, p.2.1, p.2.2)]) (by simpa using h)]
    simp
/-- dict(x), x a list of pairs (tuple of numbers, value), no two keys alike -/
def rDictT (K : PySem.W.Frag) : List V → Hp → VK → Prop := fun xs H Q => ∃ (a : Addr) (ps : List Addr) (kvs : List (List Int × Addr × V)), xs = [.ref a] ∧ SqL K H a (ps.map V.ref) ∧ Paired (fun p kv => H p = some (.tup [.ref kv.2.1, kv.2.2]) ∧ H kv.2.1 = some (.tup (kv.1.map V.int))) ps kvs ∧ (kvs.map (·.1)).Nodup ∧
  ∀ p, H p = none → Q (.ref p) (L2.upd H p (.dT (kvs.map fun kv => (kv.1.map Sum.inl, kv.2.2))))
theorem call_dictT (hcalm : X.calm = true) (hu : X.A.units + 10 < cLine) : CallR X (.type "dict") (rDictT X.K) := by
  intro pins s σ H xs us Q I r q
  obtain ⟨a, ps, kvs, ex, hq, hp, nd, q⟩ := q
  subst ex
  obtain ⟨u, eu, rx⟩ := vals1 r
  subst eu
  cases rx
  obtain ⟨its, rv, pl, hz⟩ := I.list hq
  have ei := refs_at rv
  subst ei
  rw [List.length_map] at hz
  obtain ⟨prs, rel, hl, hpr⟩ := pairsT_of I hp
  obtain ⟨o, nn, ho, hc, hd, hdat⟩ := pl
  have ndp : (prs.map (·.1)).Nodup := by
    have key : ∀ {kvs : List (List Int × Addr × V)} {prs : List (List Key × Addr × Value)}, Paired (fun (kv : List Int × Addr × V) q => kv.1.map Sum.inl = q.1 ∧ q.2.1 = kv.2.1 ∧ RelV kv.2.2 q.2.2) kvs prs → prs.map (·.1) = (kvs.map (·.1)).map (List.map Sum.inl) := fun h => by
      induction h with
      | nil => rfl
      | cons h t ih => rw [List.map_cons, List.map_cons, List.map_cons, ih, ← h.1]
    rw [key rel]
    refine List.pairwise_map.mpr (nd.imp fun {x y} hxy e => hxy ?_)
    have := congrArg (List.map fun k : Key => match k with | .inl i => i | .inr _ => 0) e
    simpa [List.map_map, Function.comp_def] using this
  have hkeys : ∀ x ∈ prs, H x.2.1 = some (.tup (x.1.map kV)) := fun x hx => by
    obtain ⟨j, hj, e⟩ := List.getElem_of_mem hx
    obtain ⟨c, _, _, e3⟩ := hpr j x (by rw [List.getElem?_eq_getElem hj, e])
    exact e3
  let Ts : Nat → Addr := fun j => ps.getD j 0
  have PA := PairArg.list (prog := X.prog) (w := X.w) a (ps.map Value.ref).toArray Ts (prs.map fun x => (Value.ref x.2.1, x.2.2))
  have hOK : PlainSeq "list" s.heap a (ps.map Value.ref).toArray ∧ PairItems s.heap (ps.map Value.ref).toArray Ts (prs.map fun x => (Value.ref x.2.1, x.2.2)) := by
    refine ⟨⟨o, nn, ho, hc, hd, hdat⟩, by simp [hl], fun j k v e => ?_⟩
    rw [List.getElem?_map] at e
    cases ej : prs[j]? with
    | none => rw [ej] at e; cases e
    | some x =>
      rw [ej] at e
      simp only [Option.map_some, Option.some.injEq, Prod.mk.injEq] at e
      obtain ⟨rfl, rfl⟩ := e
      obtain ⟨c, e1, e2, _⟩ := hpr j x ej
      have ec : Ts j = c := by show ps.getD j 0 = c; rw [List.getD_eq_getElem?_getD, e1]; rfl
      rw [ec]
      exact ⟨by simp [e1], .inl e2⟩
  refine call_dict_pairsH (knd := tupleKind (mixKind X.prog X.w)) (ps := prs) PA (I.ok.hd hcalm) (show X.A.in1.in1.units < cLine from by show X.A.units + 1 + 1 < cLine; omega) hOK ⟨by simp, fun i key v e => ?_⟩ (fun h' hk x hx => ?_) (by simp [hl]; exact hz) fun h' tk hd' hk => ?_
  · rw [PairRel, List.getElem?_map] at e
    cases ej : prs[i]? with
    | none => rw [ej] at e; cases e
    | some x =>
      rw [ej] at e
      simp only [Option.map_some, Option.some.injEq, Prod.mk.injEq] at e
      exact ⟨x.1, x.2.1, by rw [← e.2], e.1.symm⟩
  · obtain ⟨ob, its, m, h1, h2, h3, h4⟩ := key_of I.hok (hkeys x hx)
    exact ⟨ob, its, m, hk _ _ (Nat.ne_of_lt (Heap.lt_size h1)) (by simp) h1, h2, h3, h4⟩
  · have hm : (s.heap.objs.size == sysModules) = false := beq_eq_false_iff_ne.mpr (Nat.ne_of_gt I.big)
    have hlen : (kvs.map fun kv => ((kv.1.map Sum.inl : List Key), kv.2.2)).length ≤ sizeLine := by rw [List.length_map, Paired.length rel, hl]; exact hz
    have nH : H s.heap.objs.size = none := I.hok.fresh (Nat.le_refl _)
    rw [stored_nodup prs [] (by simpa using ndp), List.nil_append] at hd'
    obtain ⟨od, es, ep, d1, d2, d3, d4, d5, d6⟩ := hd'
    refine ⟨.ref s.heap.objs.size, _, I.laid (t' := tk) (o := .dT (kvs.map fun kv => (kv.1.map Sum.inl, kv.2.2))) (fun b o e => hk b o (by simp) e) (Nat.le_refl _) ⟨hlen, hm, prs, ?_, od, es, ep, d1, d2, d3, d4, d6⟩, rfl, q _ nH⟩
    have key : ∀ (H2 : Hp) {kvs : List (List Int × Addr × V)} {prs : List (List Key × Addr × Value)}, Paired (fun (kv : List Int × Addr × V) q => kv.1.map Sum.inl = q.1 ∧ q.2.1 = kv.2.1 ∧ RelV kv.2.2 q.2.2) kvs prs → (∀ x ∈ prs, H2 x.2.1 = some (.tup (x.1.map kV))) →
        Paired (fun (p : List Key × V) (q : List Key × Addr × Value) => p.1 = q.1 ∧ H2 q.2.1 = some (.tup (p.1.map kV)) ∧ RelV p.2 q.2.2) (kvs.map fun kv => (kv.1.map Sum.inl, kv.2.2)) prs := fun H2 {kvs prs} h => by
      induction h with
      | nil => intro _; exact .nil
      | @cons x y xs ys h t ih =>
        intro hk
        rw [List.map_cons]
        refine .cons ⟨h.1, ?_, h.2.2⟩ (ih fun z hz => hk z (List.mem_cons_of_mem _ hz))
        rw [h.1]
        exact hk y List.mem_cons_self
    exact key _ rel fun x hx => by rw [upd_ne (ne_of_none (hkeys x hx) nH)]; exact hkeys x hx
/-! ### plain -/
theorem pairs_rep {lb : Lb} {H : Hp} : ∀ {l : List D} {vs : List V} {r : List (List Int) × List D}, RepL cn lb H l vs → pairsOf l = some r → ∃ (ps : List Addr) (kvs : List (List Int × Addr × V)), vs = ps.map V.ref ∧ Paired (fun p kv => H p = some (.tup [.ref kv.2.1, kv.2.2]) ∧ H kv.2.1 = some (.tup (kv.1.map V.int))) ps kvs ∧
    kvs.map (·.1) = r.1 ∧ RepL cn lb H r.2 (kvs.map (·.2.2)) ∧ r.1.length = r.2.length
  | [], vs, r, h, e => by
    simp only [RepL] at h
    cases e
    exact ⟨[], [], h, .nil, rfl, .nil, rfl⟩
  | d :: l, vs, r, h, e => by
    simp only [RepL] at h
    obtain ⟨v, r', rfl, r1, r2⟩ := h
    unfold pairsOf at e
    split at e
    · rename_i heq
      cases heq
    · rename_i k x l' heq
      cases heq
      cases e1 : intsOf k with
      | none => rw [e1] at e; cases e
      | some ks =>
        rw [e1] at e
        simp only [Option.bind_some] at e
        cases e2 : pairsOf l with
        | none => rw [e2] at e; cases e
        | some rr =>
          rw [e2] at e
          cases e
          obtain ⟨ps, kvs, p1, p2, p3, p4, p5⟩ := pairs_rep r2 e2
          simp only [Rep] at r1
          obtain ⟨a, xs, rfl, nt, _, rx⟩ := r1
          simp only [RepL] at rx
          obtain ⟨v1, q1, rfl, s1, v2, q2, rfl, s2, rfl⟩ := rx
          simp only [Rep] at s1
          obtain ⟨c, ys, rfl, nc, _, ry⟩ := s1
          rw [ints_rep ry e1] at nc
          exact ⟨a :: ps, (ks, c, v2) :: kvs, by rw [p1]; rfl, .cons ⟨nt.2, nc.2⟩ p2, by rw [List.map_cons, p3], .cons s2 p4, by rw [List.length_cons, List.length_cons, p5]⟩
    · cases e
theorem p1_dict : P1 true cn (fun x H Q => rDictT cn.K [x] H Q) pDict := by
  intro lb H x d e Q hs r h k
  have k : KF cn lb H e Q := k
  cases d with
  | lst l =>
    simp only [pDict] at h
    cases e1 : pairsOf l with
    | none => rw [e1] at h; cases h
    | some rr =>
      rw [e1] at h
      simp only [Option.bind_some] at h
      split at h
      · rename_i hz
        have hz := of_lim hz
        cases h
        obtain ⟨a, vs, rfl, ea, sz, rl⟩ := r.lst
        obtain ⟨ps, kvs, p1, p2, p3, p4, p5⟩ := pairs_rep rl e1
        rw [p1] at ea
        have hlen : rr.1.length ≤ SZ := by rw [← p3, List.length_map, ← Paired.length p2]; have := rl.length; rw [p1, List.length_map] at this; omega
        refine ⟨a, ps, kvs, rfl, .of ea, p2, by rw [p3]; exact hz, fun p np => k p _ np ⟨kvs.map (·.2.2), by rw [List.length_map]; exact hlen, p4, by rw [List.length_map, List.length_map, ← p3, List.length_map], ?_, .inl ⟨rr.1, rfl, ?_⟩⟩⟩
        · exact List.pairwise_map.mpr (hz.imp fun {x y} hxy e => hxy (Ky.t.inj e))
        · rw [← p3, List.map_map, List.zip_map']
          rfl
      · cases h
  | _ => cases h
theorem Gd.dictT (g : Gd n X b) : CallR X (.type "dict") (rDictT b.cn.K) := by rw [g.kk]; exact call_dictT g.calm (by have := g.units; omega)
theorem dget_rep {lb : Lb} {H : Hp} {j : List Int} {d : D} : ∀ {js : List (List Int)} {ds : List D} {vs : List V}, RepL cn lb H ds vs → dctGet (js.map .t) ds (.t j) = some d → ∃ v, valV ((js.map fun j => (j.map Sum.inl : List Key)).zip vs) (j.map Sum.inl : List Key) = some v ∧ Rep cn lb H d v
  | [], ds, vs, r, h => by simp [dctGet] at h
  | k :: js, [], vs, r, h => by simp [dctGet] at h
  | k :: js, e :: ds, vs, r, h => by
    simp only [RepL] at r
    obtain ⟨v, r', rfl, r1, r2⟩ := r
    by_cases hk : k = j
    · subst hk
      simp [dctGet] at h
      subst h
      exact ⟨v, by simp [valV], r1⟩
    · have hk2 : ¬ ((k.map Sum.inl : List Key) = j.map Sum.inl) := fun e => hk (by
        have := congrArg (List.map fun k : Key => match k with | .inl i => i | .inr _ => 0) e
        simpa [List.map_map, Function.comp_def] using this)
      have h' : dctGet (js.map .t) ds (.t j) = some d := by simpa [dctGet, hk] using h
      obtain ⟨u, e1, e2⟩ := dget_rep r2 h'
      refine ⟨u, ?_, e2⟩
      rw [← e1]
      simp only [valV, List.map_cons, List.zip_cons_cons, List.find?_cons, hk2, decide_false]
def rDIx : R2 := fun x y H Q => ∃ a v, x = .ref a ∧ DGet H a y (some v) ∧ Q v H
theorem p2_ixD : P2 false cn rDIx pIxD := by
  intro lb H x y d1 d2 e Q hs r1 r2 h k
  cases d1 with
  | dct ks ds =>
    simp only [pIxD] at h
    cases d2 with
    | tup l =>
      simp only [keyOf] at h
      cases e1 : intsOf l with
      | none => rw [e1] at h; cases h
      | some j =>
        rw [e1] at h
        simp only [Option.map_some, Option.bind_some] at h
        obtain ⟨a, vs, rfl, rl, hl, nd, _, c⟩ := r1.dct
        obtain ⟨p, us, rfl, ep, _, ru⟩ := r2.tup
        rw [ints_rep ru e1] at ep
        rcases c with ⟨js, rfl, ea⟩ | ⟨js, ⟨rfl, _⟩, ea⟩
        · obtain ⟨v, e2, rv⟩ := dget_rep rl h
          refine ⟨a, v, rfl, ?_, KV.now k rv⟩
          have := DGet.t (k := j.map Sum.inl) ea (by rw [List.map_map]; exact ep)
          rw [e2] at this
          exact this
        · exfalso
          have : ((js.map Ky.i).zip ds).find? (fun p => decide (p.1 = Ky.t j)) = none := List.find?_eq_none.mpr fun p hp z => by
            have z : p.1 = Ky.t j := of_decide_eq_true z
            obtain ⟨i, _, e⟩ := List.mem_map.mp (List.of_mem_zip (show (p.1, p.2) ∈ _ from hp)).1
            rw [z] at e
            cases e
          simp only [dctGet, this] at h
          cases h
    | _ => cases h
  | _ => cases h
theorem de_ixD {ea ec : Expr} {a c : Opd} {pos : Pos} (g : Gd n X b) (ha : DO X b ea a) (hc : DO X b ec c) (hs : NoSl ec := by exact fun _ _ => rfl) : DE X b (.Subscript ea ec pos) (e2 pIxD a c) :=
  PE.imp (pe_dget (by have := g.units; omega) ha.pe hc.pe hs) fun _ _ _ h => t2_run (r := rDIx) p2_ixD h
theorem ds_par3 {i j l : Nat} {x y z : Str} {ea eb ec : Expr} {m : M D} {d2 d3 : D} {v2 v3 : V} {px py pz pt pos pt2 : Pos} {kt k2 : Nat} (g : Gd n X b) (hi : X.N[i]? = some x) (hj : X.N[j]? = some y) (hl : X.N[l]? = some z) (hd : i ≠ j ∧ i ≠ l ∧ j ≠ l)
    (hx : X.env.scope.names.lookup x = some .local) (hy : X.env.scope.names.lookup y = some .local) (hz : X.env.scope.names.lookup z = some .local) (ha : DF X b ea m) (hb : PE X eb (tC v2)) (rb : ∀ lb H, Rep b.cn lb H d2 v2) (hc : PE X ec (tC v3)) (rc : ∀ lb H, Rep b.cn lb H d3 v3)
    (hw : swappedStores [.Tuple [.Name x px, .Name y py, .Name z pz] kt pt] (.Tuple [ea, eb, ec] k2 pt2) X.env = pure (some [x, y, z]))
    (hs : swapsWithSole [.Tuple [.Name x px, .Name y py, .Name z pz] kt pt] (.Tuple [ea, eb, ec] k2 pt2) pos.line X.env = pure false := by rfl)
    (s1 : starEach [ea, eb, ec] X.env = (false, eval ea X.env) :: starEach [eb, ec] X.env := by rfl) (s2 : starEach [eb, ec] X.env = (false, eval eb X.env) :: starEach [ec] X.env := by rfl) (s3 : starEach [ec] X.env = (false, eval ec X.env) :: starEach [] X.env := by rfl) :
    DS X b (.Assign [.Tuple [.Name x px, .Name y py, .Name z pz] kt pt] (.Tuple [ea, eb, ec] k2 pt2) pos) (sPar3 i j l m d2 d3) := by
  have hln : i < X.N.length := (List.getElem?_eq_some_iff.mp hi).1
  refine ⟨fun pins s σ H D I q => (ps_par3 g.calm g.nd hi hj hl hd.1 hd.2.1 hd.2.2 hx hy hz (pa_cons ha (pa_cons hb (pa_cons hc pa_nil s3) s2) s1) hw hs).run pins s σ H D I ?_⟩
  obtain ⟨lb, ρ, st, o, h⟩ := q
  have h : SPost b D lb H ((m ρ st).bind fun a r s => .ok .nx (((r.set i (.ow a)).set j (.sh d2)).set l (.sh d3)) s) := h
  refine ⟨lb, ρ, st, o, (SPost.bind (D := D) (σ := σ) h).mono fun dv ρ1 s1 lb1 H1 st1 o1 k => fun p ob np w => ?_⟩
  obtain ⟨o2, st2⟩ := o1.setOw i (by rw [o1.len, inv_len I]; exact hln) np w
  have o3 := o2.setSh j (rb _ _)
  have o4 := o3.setSh l (rc _ _)
  exact ⟨.ref p, v2, v3, rfl, k _ _ _ ((st2.trans (.unl _ _ _)).trans (.unl _ _ _)) o4⟩
end
end Pk
/-! Br33: dicts whose keys are tuples of numbers: {}, k in d, list(d), d[k] = v, d.get(k, x). -/
namespace Pk
open PySem PySem.Spec PyProof.Rows L2
abbrev zipF (js : List (List Int)) (vs : List V) : List (List Key × V) := (js.map fun j => (j.map Sum.inl : List Key)).zip vs
theorem inl_inj {a c : List Int} (e : (a.map Sum.inl : List Key) = c.map Sum.inl) : a = c := by
  have := congrArg (List.map fun k : Key => match k with | .inl i => i | .inr _ => 0) e
  simpa [List.map_map, Function.comp_def] using this
theorem kV_inl (k : List Int) : ((k.map Sum.inl : List Key).map kV) = k.map V.int := by rw [List.map_map]; rfl
theorem valV_mem (j : List Int) : ∀ {js : List (List Int)} {vs : List V}, js.length = vs.length → (valV (zipF js vs) (j.map Sum.inl)).isSome = decide (j ∈ js)
  | [], vs, _ => by simp [zipF, valV]
  | k :: js, [], h => by simp at h
  | k :: js, v :: vs, h => by
    have ih := valV_mem j (js := js) (vs := vs) (by simpa using h)
    by_cases e : k = j
    · subst e
      simp [zipF, valV]
    · have e' : ¬ ((k.map Sum.inl : List Key) = j.map Sum.inl) := fun z => e (inl_inj z)
      have z : valV (zipF (k :: js) (v :: vs)) (j.map Sum.inl) = valV (zipF js vs) (j.map Sum.inl) := valV_neg (p := (k.map Sum.inl, v)) (r := zipF js vs) e'
      rw [z, ih]
      have : decide (j ∈ k :: js) = decide (j ∈ js) := by
        have : (j ∈ k :: js) ↔ j ∈ js := by rw [List.mem_cons]; exact ⟨fun h => h.resolve_left fun q => e q.symm, .inr⟩
        exact decide_eq_decide.mpr this
      rw [this]
theorem mem_t {j : List Int} {js : List (List Int)} : (Ky.t j ∈ js.map Ky.t) ↔ j ∈ js := by
  rw [List.mem_map]
  exact ⟨fun ⟨x, h, e⟩ => by cases e; exact h, fun h => ⟨j, h, rfl⟩⟩
section
variable {X : Cx} {b : Bd} {n : Nat} {cn : Cn}
theorem allT_not {js : List Int} (h : (js.map Ky.i).all isTK = true) (n : js.map Ky.i ≠ []) : False := by
  cases js with
  | nil => exact n rfl
  | cons j js => simp [isTK] at h
theorem RepB.dctT {lb : Lb} {H : Hp} {ks : List Ky} {ds : List D} {v : V} (h : RepB cn lb H (.dct ks ds) v) (t : ks.all isTK = true) : ∃ a vs js, v = .ref a ∧ ks = js.map Ky.t ∧ H a = some (.dT (zipF js vs)) ∧ RepL cn lb H ds vs ∧ js.length = vs.length ∧ js.Nodup ∧ js.length ≤ SZ := by
  obtain ⟨a, vs, rfl, rl, hl, nd, sz, c⟩ := h.dct
  rcases c with ⟨js, rfl, e⟩ | ⟨js, ⟨rfl, ne⟩, e⟩
  · rw [List.length_map] at hl sz
    exact ⟨a, vs, js, rfl, rfl, e, rl, hl, (List.pairwise_map.mp nd).imp fun {x y} h e => h (by rw [e]), sz⟩
  · exact (allT_not t ne).elim
theorem OwnO.dctT {lb : Lb} {H : Hp} {ks : List Ky} {ds : List D} {o : HO} (h : OwnO cn lb H (.dct ks ds) o) (t : ks.all isTK = true) : ∃ vs js, ks = js.map Ky.t ∧ o = .dT (zipF js vs) ∧ RepL cn lb H ds vs ∧ js.length = vs.length ∧ js.Nodup ∧ js.length ≤ SZ := by
  obtain ⟨vs, sz, rl, hl, nd, c⟩ := h
  rcases c with ⟨js, rfl, e⟩ | ⟨js, ⟨rfl, ne⟩, e⟩
  · rw [List.length_map] at hl sz
    exact ⟨vs, js, rfl, e, rl, hl, (List.pairwise_map.mp nd).imp fun {x y} h e => h (by rw [e]), sz⟩
  · exact (allT_not t ne).elim
theorem OwnO.ofT {lb : Lb} {H : Hp} {ds : List D} {vs : List V} {js : List (List Int)} (rl : RepL cn lb H ds vs) (hl : js.length = vs.length) (nd : js.Nodup) (sz : js.length ≤ SZ) : OwnO cn lb H (.dct (js.map Ky.t) ds) (.dT (zipF js vs)) :=
  ⟨vs, by rw [List.length_map]; exact sz, rl, by rw [List.length_map]; exact hl, List.pairwise_map.mpr (nd.imp fun {x y} h e => h (Ky.t.inj e)), .inl ⟨js, rfl, rfl⟩⟩
theorem keyOf_rep {lb : Lb} {H : Hp} {d : D} {v : V} {k : Ky} (r : RepB cn lb H d v) (h : keyOf d = some k) : ∃ p j, v = .ref p ∧ k = .t j ∧ H p = some (.tup (j.map V.int)) := by
  cases d with
  | tup l =>
    simp only [keyOf] at h
    cases e : intsOf l with
    | none => rw [e] at h; cases h
    | some j =>
      rw [e] at h
      cases h
      obtain ⟨p, us, rfl, ep, _, ru⟩ := r.tup
      rw [ints_rep ru e] at ep
      exact ⟨p, j, rfl, rfl, ep⟩
  | _ => cases h
/-! ### {} -/
theorem df_dct0 {pos : Pos} : DF X b (.Dict [] [] pos) eDct0 := PE.imp pe_dnewT fun σ H Q ⟨lb, ρ, s, o, p⟩ => fun q nq => by
  have k : KF b.cn lb H (.dct [] []) Q := p lb H .refl o
  exact k q _ nq (OwnO.ofT (js := []) .nil rfl List.nodup_nil (by decide))
/-! ### in -/
def rDIn : R2 := fun y x H Q => ∃ a o, x = .ref a ∧ DGet H a y o ∧ Q (.bl o.isSome) H
def rDNotIn : R2 := fun y x H Q => ∃ a o, x = .ref a ∧ DGet H a y o ∧ Q (.bl (!o.isSome)) H
theorem op_din (hu : X.A.units + 1 < cLine) : OpR X (compareOp .In) rDIn := by
  intro pins s σ H y x v u Q I ry rx h
  obtain ⟨a, o, rfl, g, q⟩ := h
  obtain rfl : u = Value.ref a := rx
  exact d_in hu I g ry fun s' I' => ⟨.bl o.isSome, H, I', rfl, q⟩
theorem op_dnotin (hu : X.A.units + 1 < cLine) : OpR X (compareOp .NotIn) rDNotIn := by
  intro pins s σ H y x v u Q I ry rx h
  obtain ⟨a, o, rfl, g, q⟩ := h
  obtain rfl : u = Value.ref a := rx
  exact d_notIn hu I g ry fun s' I' => ⟨.bl (!o.isSome), H, I', rfl, q⟩
theorem dget_at {lb : Lb} {H : Hp} {d1 : D} {x y : V} {ks : List Ky} {ds : List D} {k : Ky} (r1 : RepB cn lb H d1 x) (r2 : RepB cn lb H (.dct ks ds) y) (t : ks.all isTK = true) (h : keyOf d1 = some k) : ∃ a o, y = .ref a ∧ DGet H a x o ∧ o.isSome = decide (k ∈ ks) := by
  obtain ⟨p, j, rfl, rfl, ep⟩ := keyOf_rep r1 h
  obtain ⟨a, vs, js, rfl, rfl, ea, rl, hl, _⟩ := r2.dctT t
  refine ⟨a, _, rfl, DGet.t (k := j.map Sum.inl) ea (by rw [kV_inl]; exact ep), ?_⟩
  rw [valV_mem j hl]
  exact decide_eq_decide.mpr mem_t.symm
theorem p2_inDct : P2 false cn rDIn pInD := by
  intro lb H x y d1 d2 e Q hs r1 r2 h k
  cases d2 with
  | dct ks ds =>
    simp only [pInD] at h
    split at h
    · rename_i t
      cases e1 : keyOf d1 with
      | none => rw [e1] at h; cases h
      | some key =>
        rw [e1] at h
        cases h
        obtain ⟨a, o, rfl, g, eo⟩ := dget_at r1 r2 t e1
        exact ⟨a, o, rfl, g, KV.now k (by rw [eo]; simp only [Rep])⟩
    · cases h
  | _ => cases h
theorem p2_notInDct : P2 false cn rDNotIn pNotInD := by
  intro lb H x y d1 d2 e Q hs r1 r2 h k
  cases d2 with
  | dct ks ds =>
    simp only [pNotInD] at h
    split at h
    · rename_i t
      cases e1 : keyOf d1 with
      | none => rw [e1] at h; cases h
      | some key =>
        rw [e1] at h
        cases h
        obtain ⟨a, o, rfl, g, eo⟩ := dget_at r1 r2 t e1
        exact ⟨a, o, rfl, g, KV.now k (by rw [eo]; simp only [Rep])⟩
    · cases h
  | _ => cases h
theorem Gd.inDct (g : Gd n X b) : OpR X (compareOp .In) rDIn := op_din (by have := g.units; omega)
theorem Gd.notInDct (g : Gd n X b) : OpR X (compareOp .NotIn) rDNotIn := op_dnotin (by have := g.units; omega)
/-! ### list(d) -/
def rListT : List V → Hp → VK → Prop := fun xs H Q => ∃ d kvs, xs = [V.ref d] ∧ Rd H d (.dT kvs) ∧ ∀ p bs, H p = none → IsKeys H kvs bs → Q (.ref p) (L2.upd H p (.lst (bs.map V.ref)))
theorem Gd.listT (g : Gd n X b) : CallR X (.type "list") rListT := call_list_dT g.calm
theorem rep_ints {lb : Lb} {H : Hp} : ∀ j : List Int, RepL cn lb H (j.map D.int) (j.map V.int)
  | [] => .nil
  | i :: j => .cons (by simp only [Rep]) (rep_ints j)
theorem keys_repL {lb : Lb} {H : Hp} (hs : Has lb H) : ∀ {js : List (List Int)} {vs : List V} {bs : List Addr}, js.length = vs.length → (∀ j ∈ js, j.length ≤ SZ) → IsKeys H (zipF js vs) bs → RepL cn lb H (js.map fun j => .tup (j.map D.int)) (bs.map V.ref)
  | [], vs, bs, _, _, h => by
    have h : Paired _ ([] : List (List Key × V)) bs := h
    cases h
    exact .nil
  | j :: js, [], bs, hl, _, _ => by simp at hl
  | j :: js, v :: vs, bs, hl, hz, h => by
    have h : Paired _ ((j.map Sum.inl, v) :: zipF js vs) bs := h
    cases h with
    | cons h1 h2 =>
      rename_i c cs
      have h1 : H c = some (.tup ((j.map Sum.inl : List Key).map kV)) := h1
      rw [kV_inl] at h1
      refine .cons ?_ (keys_repL hs (by simpa using hl) (fun x hx => hz x (List.mem_cons_of_mem _ hx)) h2)
      simp only [Rep]
      refine ⟨c, _, rfl, ⟨?_, h1⟩, by rw [List.length_map]; exact hz j List.mem_cons_self, rep_ints j⟩
      cases q : lb c with
      | none => rfl
      | some l =>
        obtain ⟨o, e, nt⟩ := hs c l q
        rw [h1] at e
        cases e
        exact nt.elim
theorem p1_lstD : P1 true cn (fun x H Q => rListT [x] H Q) pLstD := by
  intro lb H x d e Q hs r h k
  have k : KF cn lb H e Q := k
  cases d with
  | dct ks ds =>
    simp only [pLstD] at h
    split at h
    · rename_i t
      cases h
      obtain ⟨a, vs, js, rfl, rfl, ea, rl, hl, nd, sz⟩ := r.dctT t
      refine ⟨a, zipF js vs, rfl, .inl ea, fun p bs np ik => ?_⟩
      have hz : ∀ j ∈ js, j.length ≤ SZ := fun j hj => by
        have := List.all_eq_true.mp t (.t j) (List.mem_map.mpr ⟨j, hj, rfl⟩)
        have := of_lim this
        exact Nat.le_trans this (by decide)
      have rr := keys_repL (cn := cn) hs hl hz ik
      refine k p _ np ⟨_, rfl, by rw [List.length_map, List.length_map]; exact sz, ?_⟩
      rw [List.map_map]
      exact rr
    · cases h
  | _ => cases h
/-! ### d[k] = v -/
theorem putK_zip {j : List Int} {v : V} {dv : D} {lb : Lb} {H : Hp} (rv : Rep cn lb H dv v) {js : List (List Int)} {vs : List V} {ds : List D} (hl : js.length = vs.length) (rl : RepL cn lb H ds vs) (nd : js.Nodup) :
    ∃ js' vs', putK (zipF js vs) (j.map Sum.inl) v = zipF js' vs' ∧ putKs (js.map Ky.t) (.t j) = js'.map Ky.t ∧ js'.length = vs'.length ∧ js'.Nodup ∧ js'.length ≤ js.length + 1 ∧ RepL cn lb H (putDs (js.map Ky.t) ds (.t j) dv) vs' := by
  have ha : ((zipF js vs).any fun kv => decide (kv.1 = (j.map Sum.inl : List Key))) = decide (j ∈ js) := by rw [valV_any, valV_mem j hl]
  unfold putK putKs putDs
  rw [ha]
  by_cases hj : j ∈ js
  · rw [if_pos (by simpa using hj), if_pos (mem_t.mpr hj), if_pos (mem_t.mpr hj)]
    refine ⟨js, (js.zip vs).map fun p => if p.1 = j then v else p.2, ?_, rfl, ?_, nd, by omega, ?_⟩
    · have key : ∀ (js : List (List Int)) (vs : List V), js.length = vs.length → (zipF js vs).map (fun kv => if kv.1 = (j.map Sum.inl : List Key) then (kv.1, v) else kv) = zipF js ((js.zip vs).map fun p => if p.1 = j then v else p.2) := by
        intro js
        induction js with
        | nil => intro vs _; simp [zipF]
        | cons i js ih =>
          intro vs h
          cases vs with
          | nil => simp at h
          | cons u vs =>
            have := ih vs (by simpa using h)
            simp only [zipF, List.map_cons, List.zip_cons_cons] at this ⊢
            rw [this]
            congr 1
            by_cases e : i = j
            · simp [e]
            · have e' : ¬ ((i.map Sum.inl : List Key) = j.map Sum.inl) := fun z => e (inl_inj z)
              simp [e, e']
      exact key js vs hl
    · rw [List.length_map, List.length_zip, ← hl]; simp
    · have key : ∀ (js : List (List Int)) (vs : List V) (ds : List D), js.length = vs.length → RepL cn lb H ds vs → RepL cn lb H (((js.map Ky.t).zip ds).map fun p => if p.1 = .t j then dv else p.2) ((js.zip vs).map fun p => if p.1 = j then v else p.2) := by
        intro js
        induction js with
        | nil => intro vs ds _ _; simp only [List.map_nil, List.zip_nil_left]; exact .nil
        | cons i js ih =>
          intro vs ds h r
          cases ds with
          | nil => simp only [RepL] at r; subst r; simp at h
          | cons d ds =>
            simp only [RepL] at r
            obtain ⟨u, us, rfl, r1, r2⟩ := r
            simp only [List.map_cons, List.zip_cons_cons]
            refine .cons ?_ (ih us ds (by simpa using h) r2)
            by_cases e : i = j
            · simp only [e, if_true]; exact rv
            · have e' : ¬ (Ky.t i = Ky.t j) := fun z => e (Ky.t.inj z)
              simp only [e, e', if_false]; exact r1
      exact key js vs ds hl rl
  · rw [if_neg (by simpa using hj), if_neg (fun z => hj (mem_t.mp z)), if_neg (fun z => hj (mem_t.mp z))]
    refine ⟨js ++ [j], vs ++ [v], ?_, by simp, by simp [hl], ?_, by simp, rl.append (.one rv)⟩
    · simp only [zipF, List.map_append, List.map_cons, List.map_nil]
      rw [List.zip_append (by rw [List.length_map]; exact hl)]
      rfl
    · rw [List.nodup_append]
      exact ⟨nd, by simp, fun x hx y hy e => by rw [List.mem_singleton.mp hy] at e; exact hj (e ▸ hx)⟩
theorem ow_dct {lb : Lb} {ρ : Env} {s : Sto} {σ : L2.St} {H : Hp} {i : Nat} {ks : List Ky} {ds : List D} (o : Ok b lb ρ s σ H) (h : ρ[i]? = some (.ow (.dct ks ds))) (t : ks.all isTK = true) : ∃ a vs js, σ[i]? = some (some (.ref a)) ∧ lb a = some (.loc i) ∧ ks = js.map Ky.t ∧ H a = some (.dT (zipF js vs)) ∧ RepL b.cn lb H ds vs ∧ js.length = vs.length ∧ js.Nodup ∧ js.length ≤ SZ := by
  obtain ⟨a, u, e1, l1, q, w⟩ := o.ow i _ h
  obtain ⟨vs, js, rfl, rfl, rl, hl, nd, sz⟩ := w.dctT t
  exact ⟨a, vs, js, e1, l1, rfl, q, rl, hl, nd, sz⟩
theorem ds_putD {x ek ev : Expr} {i : Nat} {mk mv : M D} {pos' pos : Pos} (g : Gd n X b) (hx : PE X x (tVar i)) (hk : DE X b ek mk) (hv : DE X b ev mv) (hs : swapsWith ev (some (.Subscript x ek pos')) pos.line X.env = pure false := by rfl) :
    DS X b (.Assign [.Subscript x ek pos'] ev pos) (sPutD i mk mv) := by
  refine PS.imp (ps_dput (by have := g.units; omega) hx hk hv hs) fun D σ H ⟨lb, ρ, s, o, p⟩ => ?_
  have p : SPost b D lb H (sPutD i mk mv ρ s) := p
  unfold sPutD at p
  refine ⟨lb, ρ, s, o, (SPost.bind (D := D) p).mono fun dv ρ1 s1 lb1 H1 st o1 k => fun v H2 ex r => ?_⟩
  have o2 := o1.ext ex
  have k := SPost.from k (o1.stp_ext ex)
  cases q : ρ1[i]? with
  | none => rw [q] at k; exact False.elim k
  | some z =>
    cases z with
    | ow d =>
      cases d with
      | dct ks0 ds0 =>
        simp only [q] at k
        obtain ⟨a, ob, e1, l1, h1, w1⟩ := o2.ow i _ q
        refine ⟨.ref a, e1, lb1, ρ1, s1, o2, (SPost.bind (D := D) k).mono fun dk ρ3 s3 lb3 H3 st3 o3 k3 => fun y H4 ex4 ry => ?_⟩
        have o4 := o3.ext ex4
        have k3 := SPost.from k3 (o3.stp_ext ex4)
        cases q3 : ρ3[i]? with
        | none => rw [q3] at k3; exact False.elim k3
        | some z =>
          cases z with
          | ow d =>
            cases d with
            | dct ks ds =>
              cases ek : keyOf dk with
              | none => simp only [q3, ek] at k3; exact False.elim k3
              | some key =>
                simp only [q3, ek] at k3
                split at k3
                · rename_i hz
                  rw [Bool.and_eq_true] at hz
                  obtain ⟨hz, t⟩ := hz
                  have hz := of_lim hz
                  obtain ⟨a', vs, js, e2, l2, rfl, ha, rl, hl, nd, sz⟩ := ow_dct o4 q3 t
                  rw [e1] at e2
                  cases e2
                  obtain ⟨p1, j, rfl, rfl, ep⟩ := keyOf_rep (.inl ry) ek
                  have rv : Rep b.cn lb3 H4 dv v := (r.stp st3).stp (o3.stp_ext ex4)
                  obtain ⟨js', vs', z1, z2, z3, z4, z5, z6⟩ := putK_zip rv (j := j) hl rl nd
                  rw [List.length_map] at hz
                  have hlen : (zipF js vs).length < sizeLine := by
                    rw [← SZ_eq]
                    simp only [zipF, List.length_zip, List.length_map]
                    omega
                  refine ⟨a, _, rfl, DPut.t (k := j.map Sum.inl) ha (by rw [kV_inl]; exact ep) hlen, ?_⟩
                  rw [z1]
                  have w' : OwnO b.cn lb3 H4 (.dct (putKs (js.map Ky.t) (.t j)) (putDs (js.map Ky.t) ds (.t j) dv)) (.dT (zipF js' vs')) := by
                    rw [z2]
                    exact OwnO.ofT z6 z3 z4 (by omega)
                  obtain ⟨o5, st5⟩ := o4.change q3 e1 ha w'
                  exact k3 lb3 σ _ st5 o5
                · exact False.elim k3
            | _ => simp only [q3] at k3; exact False.elim k3
          | _ => simp only [q3] at k3; exact False.elim k3
      | _ => simp only [q] at k; exact False.elim k
    | _ => simp only [q] at k; exact False.elim k
end
end Pk
/-! Br34: d.get(k, x), d.update(e), {k: v}. -/
namespace Pk
open PySem PySem.Spec PyProof.Rows L2
section
variable {X : Cx} {b : Bd} {n : Nat} {cn : Cn}
theorem look_slot {lb : Lb} {ρ : Env} {s : Sto} {σ : L2.St} {H : Hp} {i : Nat} {d : D} (o : Ok b lb ρ s σ H) (h : look ρ (.inr i) = some d) : ∃ v, σ[i]? = some (some v) ∧ RepB b.cn lb H d v := by
  unfold look at h
  cases q : ρ[i]? with
  | none => simp only [q] at h; cases h
  | some z =>
    simp only [q] at h
    cases z with
    | no => cases h
    | sh d' =>
      cases h
      obtain ⟨v, e1, r⟩ := o.sh i d q
      exact ⟨v, e1, .inl r⟩
    | ow d' =>
      cases h
      obtain ⟨a, ob, e1, l, z, w⟩ := o.ow i d q
      exact ⟨.ref a, e1, .inr ⟨a, ob, rfl, z, w⟩⟩
/-! ### d.get(k, x) -/
def rDGet2 : V → List V → Hp → VK → Prop := fun x xs H Q => ∃ a y z o, x = .ref a ∧ xs = [y, z] ∧ DGet H a y o ∧ Q (o.getD z) H
theorem mt_dget2 (hu : X.A.units + 1 < cLine) : MtR X "dict.get" rDGet2 := by
  intro pins s σ H x xs v us Q I rx rv h
  obtain ⟨a, y, z, o, rfl, rfl, g, q⟩ := h
  cases rx
  obtain ⟨u, w, rfl, ru, rw'⟩ := vals2 rv
  exact d_get2 hu I g ru rw' fun w' s' I' r' => ⟨_, H, I', r', q⟩
theorem dget_val {lb : Lb} {H : Hp} {j : List Int} {dx : D} {z : V} (rz : Rep cn lb H dx z) : ∀ {js : List (List Int)} {ds : List D} {vs : List V}, RepL cn lb H ds vs → js.length = vs.length → Rep cn lb H ((dctGet (js.map .t) ds (.t j)).getD dx) ((valV (zipF js vs) (j.map Sum.inl : List Key)).getD z)
  | js, ds, vs, rl, hl => by
    cases e : dctGet (js.map .t) ds (.t j) with
    | some d =>
      obtain ⟨v, e1, r⟩ := dget_rep rl e
      have e1 : valV (zipF js vs) (j.map Sum.inl) = some v := e1
      rw [e1]
      exact r
    | none =>
      have hn : valV (zipF js vs) (j.map Sum.inl) = none := by
        cases q : valV (zipF js vs) (j.map Sum.inl) with
        | none => rfl
        | some v =>
          have hm := valV_mem j hl
          rw [q] at hm
          have hm : j ∈ js := of_decide_eq_true hm.symm
          exfalso
          have key : ∀ (js : List (List Int)) (ds : List D) (vs : List V), RepL cn lb H ds vs → js.length = vs.length → j ∈ js → dctGet (js.map .t) ds (.t j) ≠ none := by
            intro js
            induction js with
            | nil => intro ds vs _ _ h; cases h
            | cons i js ih =>
              intro ds vs r hl h
              cases ds with
              | nil => simp only [RepL] at r; subst r; simp at hl
              | cons d ds =>
                simp only [RepL] at r
                obtain ⟨u, us, rfl, _, r2⟩ := r
                by_cases e : i = j
                · subst e; simp [dctGet]
                · have := ih ds us r2 (by simpa using hl) ((List.mem_cons.mp h).resolve_left fun q => e q.symm)
                  simpa [dctGet, e] using this
          exact key js ds vs rl hl hm e
      rw [hn]
      exact rz
theorem de_getD {x e f : Expr} {i : Nat} {mk mx : M D} {apos cpos : Pos} (g : Gd n X b) (hx : PE X x (tVar i)) (ha : DA X b [e, f] [mk, mx]) (hbase : attributeBase x "get" X.env (eval x X.env) = eval x X.env := by rfl)
    (hfew : ((backTo cpos (starEach [e, f] X.env)).all (fun x => !x.1) && (backToKw cpos (keywordEach [] X.env)).all (fun x => x.1.isSome) && decide ([e, f].length + ([] : List Keyword).length + (if ([] : List Keyword).isEmpty then 0 else 1) < 30)) = true := by rfl)
    (hline : (apos.endLine == cpos.line) = true := by rfl) (hs : starEach [e, f] X.env = (false, eval e X.env) :: starEach [f] X.env := by rfl) (hp : (backTo cpos (starEach [f] X.env)).any (·.1) = false := by rfl) :
    DE X b (.Call (.Attribute x "get" apos) [e, f] [] cpos) (eGetD i mk mx) := by
  refine PE.imp (pe_bm PySem.F.plainAttrs_dict PySem.F.slot_dict_get PySem.F.type_dict_get (mt_dget2 (by have := g.units; omega)) hx ha hbase hfew hline hs hp) fun σ H Q ⟨lb, ρ, s, o, p⟩ => ?_
  unfold eGetD at p
  cases q : look ρ (.inr i) with
  | none => rw [q] at p; exact False.elim p
  | some d =>
    cases d with
    | dct ks0 ds0 =>
      simp only [q] at p
      split at p
      · rename_i t0
        obtain ⟨v, e1, r0⟩ := look_slot o q
        obtain ⟨a, vs0, js0, rfl, _, ea0, _⟩ := r0.dctT t0
        refine ⟨.ref a, e1, .inr (.inr (.inl ⟨rfl, .inr ⟨_, ea0⟩⟩)), lb, ρ, s, o, (tAL_len (Post.bind p) fun xs ρ1 s1 lb1 H1 hlen st o1 k => fun us H2 ex rl => ?_)⟩
        have o2 := o1.ext ex
        have k := Post.from k (o1.stp_ext ex)
        match xs, hlen, k, rl with
        | [dk, dx], _, k, rl =>
          simp only at k
          obtain ⟨e, ee, k⟩ := opt_post o2 k
          cases q1 : look ρ1 (.inr i) with
          | none => rw [q1] at ee; cases ee
          | some d =>
            rw [q1] at ee
            simp only [Option.bind_some] at ee
            cases d with
            | dct ks ds =>
              simp only [pGetD] at ee
              split at ee
              · rename_i t
                cases ek : keyOf dk with
                | none => rw [ek] at ee; cases ee
                | some key =>
                  rw [ek] at ee
                  cases ee
                  obtain ⟨v1, e2, r1⟩ := look_slot o2 q1
                  rw [e1] at e2
                  cases e2
                  obtain ⟨a', vs, js, ea', rfl, ea, rds, hl, _⟩ := r1.dctT t
                  cases ea'
                  simp only [RepL] at rl
                  obtain ⟨y, r', rfl, ry, z, r'', rfl, rz, rfl⟩ := rl
                  obtain ⟨p1, j, rfl, rfl, ep⟩ := keyOf_rep (.inl ry) ek
                  refine ⟨a, .ref p1, z, _, rfl, rfl, DGet.t (k := j.map Sum.inl) ea (by rw [kV_inl]; exact ep), ?_⟩
                  exact KV.now (show KV b.cn lb1 H2 _ Q from k) (dget_val rz rds hl)
              · cases ee
            | _ => cases ee
      · exact False.elim p
    | _ => simp only [q] at p; exact False.elim p
/-! ### d.update(e) -/
def mergeT (kvs more : List (List Key × V)) : List (List Key × V) := more.foldl (fun acc kv => putK acc kv.1 kv.2) kvs
theorem KT.merge {H : Hp} : ∀ {more : List (List Key × V)} {ys : List (List Key × Addr × Value)} {kvs : List (List Key × V)} {xs : List (List Key × Addr × Value)}, KT H more ys → KT H kvs xs → KT H (mergeT kvs more) (storedAllH xs ys) := by
  intro more ys kvs xs r
  induction r generalizing kvs xs with
  | nil => intro q; exact q
  | @cons p q ps qs h t ih =>
    intro r0
    have e : KT H (putK kvs p.1 p.2) (storedH xs q.1 q.2.1 q.2.2) := by
      rw [← h.1]
      exact r0.put p.1 h.2.1 h.2.2
    exact ih e
theorem length_mergeT : ∀ (more kvs : List (List Key × V)), (mergeT kvs more).length ≤ kvs.length + more.length
  | [], kvs => by show kvs.length ≤ kvs.length + 0; omega
  | p :: r, kvs => by
    have h1 := length_mergeT r (putK kvs p.1 p.2)
    have h2 := length_putK kvs p.1 p.2
    show (mergeT (putK kvs p.1 p.2) r).length ≤ _
    rw [List.length_cons]; omega
/-- the hashes of the cells -/
def hz (i j : Int) : Int := reduceHash (Builtin.Tuple.tupleHashOf [hashInt i, hashInt j])
def cells8 : List (Int × Int) := (List.range 64).map fun n => (((n / 8 : Nat) : Int), ((n % 8 : Nat) : Int))
theorem hz_nodup : (cells8.map fun c => hz c.1 c.2).Nodup := by decide +kernel
theorem mem_cells8 {i j : Int} (h : 0 ≤ i ∧ i < 8 ∧ 0 ≤ j ∧ j < 8) : (i, j) ∈ cells8 := by
  refine List.mem_map.mpr ⟨i.toNat * 8 + j.toNat, List.mem_range.mpr (by omega), ?_⟩
  rw [Prod.mk.injEq]
  constructor <;> omega
theorem nodup_inj {α β : Type} {f : α → β} : ∀ {l : List α}, (l.map f).Nodup → ∀ x ∈ l, ∀ y ∈ l, f x = f y → x = y
  | [], _, x, hx, _, _, _ => by cases hx
  | a :: l, h, x, hx, y, hy, e => by
    rw [List.map_cons, List.nodup_cons] at h
    rcases List.mem_cons.mp hx with h1 | h1
    · rcases List.mem_cons.mp hy with h2 | h2
      · rw [h1, h2]
      · rw [h1] at e
        exact absurd (List.mem_map.mpr ⟨y, h2, e.symm⟩) h.1
    · rcases List.mem_cons.mp hy with h2 | h2
      · rw [h2] at e
        exact absurd (List.mem_map.mpr ⟨x, h1, e⟩) h.1
      · exact nodup_inj h.2 x h1 y h2 e
theorem hz_inj {i j k l : Int} (h1 : 0 ≤ i ∧ i < 8 ∧ 0 ≤ j ∧ j < 8) (h2 : 0 ≤ k ∧ k < 8 ∧ 0 ≤ l ∧ l < 8) (e : hz i j = hz k l) : i = k ∧ j = l := by
  have := nodup_inj hz_nodup (i, j) (mem_cells8 h1) (k, l) (mem_cells8 h2) e
  exact ⟨congrArg Prod.fst this, congrArg Prod.snd this⟩
def C8 (k : List Key) : Prop := ∃ i j : Int, k = [Sum.inl i, Sum.inl j] ∧ 0 ≤ i ∧ i < 8 ∧ 0 ≤ j ∧ j < 8
theorem hash_nodup {P : Program} {w : World} : ∀ {ys : List (List Key × Addr × Value)}, (∀ x ∈ ys, C8 x.1) → (ys.map (·.1)).Nodup → (ys.map fun x => (tupleKind (mixKind P w)).hash x.1).Nodup := by
  intro ys h nd
  have em : (ys.map fun x => (tupleKind (mixKind P w)).hash x.1) = (ys.map (·.1)).map fun k => (tupleKind (mixKind P w)).hash k := by rw [List.map_map]; rfl
  rw [em]
  refine List.pairwise_map.mpr (nd.imp_of_mem fun {x y} hx hy hxy e => hxy ?_)
  obtain ⟨p, hp, rfl⟩ := List.mem_map.mp hx
  obtain ⟨q, hq, rfl⟩ := List.mem_map.mp hy
  obtain ⟨i, j, e1, h1⟩ := h p hp
  obtain ⟨k, l, e2, h2⟩ := h q hq
  rw [e1, e2] at e ⊢
  have e : hz i j = hz k l := e
  obtain ⟨rfl, rfl⟩ := hz_inj h1 h2 e
  rfl
def rDUpd : V → List V → Hp → VK → Prop := fun x xs H Q => ∃ a c kvs more, x = .ref a ∧ xs = [.ref c] ∧ a ≠ c ∧ H a = some (.dT kvs) ∧ H c = some (.dT more) ∧ (∀ p ∈ more, C8 p.1) ∧ kvs.length + more.length ≤ sizeLine ∧ Q .non (L2.upd H a (.dT (mergeT kvs more)))
theorem KT.mem {H : Hp} {kvs : List (List Key × V)} {xs : List (List Key × Addr × Value)} (r : KT H kvs xs) : ∀ x ∈ xs, ∃ p ∈ kvs, p.1 = x.1 := by
  induction r with
  | nil => intro x hx; cases hx
  | @cons p q ps qs h t ih =>
    intro x hx
    rcases List.mem_cons.mp hx with rfl | hx
    · exact ⟨p, List.mem_cons_self, h.1⟩
    · obtain ⟨p', h1, h2⟩ := ih x hx
      exact ⟨p', List.mem_cons_of_mem _ h1, h2⟩
theorem mt_dupd (hu : X.A.units + 1 < cLine) : MtR X "dict.update" rDUpd := by
  intro pins s σ H x xs v us Q I rx rv h
  obtain ⟨a, c, kvs, more, rfl, rfl, hac, ha, hc, h8, hz, q⟩ := h
  cases rx
  obtain ⟨u, rfl, ru⟩ := rv.one
  cases ru
  obtain ⟨z1, hd1, ks, rel1, dd1⟩ := dt_of I.hok ha
  obtain ⟨z2, hd2, ys, rel2, dd2⟩ := dt_of I.hok hc
  have l1 : kvs.length = ks.length := Paired.length rel1
  have l2 : more.length = ys.length := Paired.length rel2
  have nd := dd2.nodup
  have hty : ∀ x ∈ ys, s.TypeIs (.ref x.2.1) "tuple" := fun x hx => by
    obtain ⟨_, _, _, _, _, _, _, his, _⟩ := id dd2
    exact IsTupleKey.typeIs (his x hx)
  refine call_update_dictH (knd := tupleKind (mixKind X.prog X.w)) (tupleKind_room_in1 hu) hac hd2 dd1 dd2 (.inr ⟨hty, hash_nodup (fun x hx => ?_) nd⟩) (by omega) fun h' dd' _ hs => ?_
  · obtain ⟨p, hp, e⟩ := KT.mem rel2 x hx
    rw [← e]
    exact h8 p hp
  · obtain ⟨ob, es, ep, hq, h2, h3, h4, _, h5⟩ := dd'
    have hl : (mergeT kvs more).length ≤ sizeLine := by have := length_mergeT more kvs; omega
    refine ⟨.non, _, d_write I (t' := s.toks) (ob := .dT (mergeT kvs more)) (by rw [ha]; exact True.intro) hs ⟨ob, hq⟩ ⟨hl, hd1, _, (KT.merge rel2 rel1).keeps fun e ys ec => ?_, ob, es, ep, hq, h2, h3, h4, h5⟩, rfl, q⟩
    rw [upd_ne (ne_of ec ha (fun z => nomatch z))]
    exact ec
theorem merge_zip {lb : Lb} {H : Hp} : ∀ {js2 : List (List Int)} {ds2 : List D} {vs2 : List V} {js : List (List Int)} {ds : List D} {vs : List V}, js2.length = vs2.length → RepL cn lb H ds2 vs2 → js.length = vs.length → RepL cn lb H ds vs → js.Nodup →
    ∃ js' vs', mergeT (zipF js vs) (zipF js2 vs2) = zipF js' vs' ∧ (updKD (js.map Ky.t, ds) ((js2.map Ky.t).zip ds2)).1 = js'.map Ky.t ∧ js'.length = vs'.length ∧ js'.Nodup ∧ js'.length ≤ js.length + js2.length ∧ RepL cn lb H (updKD (js.map Ky.t, ds) ((js2.map Ky.t).zip ds2)).2 vs'
  | [], ds2, vs2, js, ds, vs, _, _, hl, rl, nd => ⟨js, vs, rfl, rfl, hl, nd, by simp, rl⟩
  | j :: js2, ds2, [], js, ds, vs, h2, _, hl, rl, nd => by simp at h2
  | j :: js2, [], v :: vs2, js, ds, vs, h2, r2, hl, rl, nd => by simp only [RepL] at r2; cases r2
  | j :: js2, d :: ds2, v :: vs2, js, ds, vs, h2, r2, hl, rl, nd => by
    simp only [RepL] at r2
    obtain ⟨u, us, e, r1, r2⟩ := r2
    cases e
    obtain ⟨js1, vs1, z1, z2, z3, z4, z5, z6⟩ := putK_zip r1 (j := j) hl rl nd
    obtain ⟨js', vs', y1, y2, y3, y4, y5, y6⟩ := merge_zip (js2 := js2) (ds2 := ds2) (vs2 := vs2) (by simpa using h2) r2 z3 z6 z4
    have e1 : mergeT (zipF js vs) (zipF (j :: js2) (v :: vs2)) = mergeT (putK (zipF js vs) (j.map Sum.inl) v) (zipF js2 vs2) := rfl
    have e2 : updKD (js.map Ky.t, ds) (((j :: js2).map Ky.t).zip (d :: ds2)) = updKD (putKs (js.map Ky.t) (.t j), putDs (js.map Ky.t) ds (.t j) d) ((js2.map Ky.t).zip ds2) := rfl
    rw [e1, e2, z1, z2]
    exact ⟨js', vs', y1, y2, y3, y4, by rw [List.length_cons]; omega, y6⟩
theorem isC8_T {ks : List Ky} (h : ks.all isC8 = true) : ks.all isTK = true := by
  rw [List.all_eq_true] at h ⊢
  intro k hk
  have := h k hk
  unfold isC8 at this
  split at this
  · exact lim_of (by simp)
  · cases this
theorem ds_updD {x e : Expr} {i : Nat} {m : M D} {apos cpos pos : Pos} (g : Gd n X b) (hx : PE X x (tVar i)) (h : DE X b e m) (hbase : attributeBase x "update" X.env (eval x X.env) = eval x X.env := by rfl)
    (hfew : ((backTo cpos (starEach [e] X.env)).all (fun x => !x.1) && (backToKw cpos (keywordEach [] X.env)).all (fun x => x.1.isSome) && decide ([e].length + ([] : List Keyword).length + (if ([] : List Keyword).isEmpty then 0 else 1) < 30)) = true := by rfl)
    (hline : (apos.endLine == cpos.line) = true := by rfl) (hs : starEach [e] X.env = (false, eval e X.env) :: starEach [] X.env := by rfl) (hsw : swapsWith (.Call (.Attribute x "update" apos) [e] [] cpos) none pos.line X.env = pure false := by rfl) :
    DS X b (.Expr (.Call (.Attribute x "update" apos) [e] [] cpos) pos) (sUpdD i m) := by
  refine PS.imp (ps_expr (pe_bm PySem.F.plainAttrs_dict PySem.F.slot_dict_update PySem.F.type_dict_update (mt_dupd (by have := g.units; omega)) hx (pa_cons h pa_nil hs) hbase hfew hline hs rfl) hsw) fun D σ H ⟨lb, ρ, s, o, p⟩ => ?_
  have p : SPost b D lb H (sUpdD i m ρ s) := p
  unfold sUpdD at p
  cases q : ρ[i]? with
  | none => rw [q] at p; exact False.elim p
  | some z =>
    cases z with
    | ow d =>
      cases d with
      | dct ks0 ds0 =>
        simp only [q] at p
        obtain ⟨a, ob, e1, l1, h1, w1⟩ := o.ow i _ q
        have ty : tyV X.K "dict" (.ref a) H := .inr (.inr (.inl ⟨rfl, by
          obtain ⟨vs, _, _, _, _, c⟩ := w1
          rcases c with ⟨js, _, rfl⟩ | ⟨js, _, rfl⟩
          · exact .inr ⟨_, h1⟩
          · exact .inl ⟨_, h1⟩⟩))
        refine ⟨.ref a, e1, ty, lb, ρ, s, o, (SPost.bind (D := D) p).mono fun dv ρ1 s1 lb1 H1 st o1 k => fun v H2 ex r => ?_⟩
        have o2 := o1.ext ex
        have k := SPost.from k (o1.stp_ext ex)
        cases q1 : ρ1[i]? with
        | none => rw [q1] at k; exact False.elim k
        | some z =>
          cases z with
          | ow d =>
            cases d with
            | dct ks ds =>
              cases dv with
              | dct ks2 ds2 =>
                simp only [q1] at k
                split at k
                · rename_i hz
                  simp only [Bool.and_eq_true] at hz
                  obtain ⟨⟨hz, t⟩, t2⟩ := hz
                  have hz := of_lim hz
                  obtain ⟨a', vs, js, e2, l2, rfl, ha, rl, hl, nd, sz⟩ := ow_dct o2 q1 t
                  rw [e1] at e2
                  cases e2
                  have r0 := r
                  obtain ⟨c, vs2, js2, rfl, rfl, hc, rl2, hl2, nd2, sz2⟩ := RepB.dctT (.inl r) (isC8_T t2)
                  have lc : lb1 c = none := by
                    simp only [Rep] at r0
                    obtain ⟨c', _, e, n, _⟩ := r0
                    cases e
                    exact n
                  have hac : a ≠ c := fun z => by rw [z, lc] at l2; cases l2
                  simp only [List.length_map] at hz
                  obtain ⟨js', vs', z1, z2, z3, z4, z5, z6⟩ := merge_zip hl2 rl2 hl rl nd
                  have hlen : (zipF js vs).length + (zipF js2 vs2).length ≤ sizeLine := by
                    rw [← SZ_eq]
                    simp only [zipF, List.length_zip, List.length_map]
                    omega
                  refine ⟨a, c, _, _, rfl, rfl, hac, ha, hc, fun p hp => ?_, hlen, ?_⟩
                  · have hm := (List.of_mem_zip (show (p.1, p.2) ∈ _ from hp)).1
                    obtain ⟨j, hj, ej⟩ := List.mem_map.mp hm
                    have := List.all_eq_true.mp t2 (.t j) (List.mem_map.mpr ⟨j, hj, rfl⟩)
                    unfold isC8 at this
                    split at this
                    · rename_i i' j' heq
                      cases heq
                      exact ⟨i', j', ej.symm, of_lim this⟩
                    · cases this
                  · rw [z1]
                    have w' : OwnO b.cn lb1 H2 (.dct (updKD (js.map Ky.t, ds) ((js2.map Ky.t).zip ds2)).1 (updKD (js.map Ky.t, ds) ((js2.map Ky.t).zip ds2)).2) (.dT (zipF js' vs')) := by
                      rw [z2]
                      exact OwnO.ofT z6 z3 z4 (by omega)
                    obtain ⟨o5, st5⟩ := o2.change q1 e1 ha w'
                    exact k lb1 σ _ st5 o5
                · exact False.elim k
              | _ => simp only [q1] at k; exact False.elim k
            | _ => simp only [q1] at k; exact False.elim k
          | _ => simp only [q1] at k; exact False.elim k
      | _ => simp only [q] at p; exact False.elim p
    | _ => simp only [q] at p; exact False.elim p
end
end Pk
/-! Br35: {k: v}. -/
namespace Pk
open PySem PySem.Spec PyProof.Rows L2
section
variable {X : Cx} {b : Bd} {n : Nat} {cn : Cn}
def tDispT1 (tk tv : TE) : TE := fun σ H Q => ∀ p, H p = none → tk σ (L2.upd H p (.dT [])) fun x H1 => tv σ H1 fun y H2 => H2 p = some (.dT []) ∧ ∃ c k, x = .ref c ∧ H2 c = some (.tup (k.map kV)) ∧ Q (.ref p) (L2.upd H2 p (.dT [(k, y)]))
theorem pe_dispT1 {ek ev : Expr} {pos : Pos} {tk tv : TE} (hu : X.A.units + 1 < cLine) (hk : PE X ek tk) (hv : PE X ev tv) : PE X (.Dict [some ek] [ev] pos) (tDispT1 tk tv) := by
  refine ⟨fun pins s σ H Q I q => ?_⟩
  have hn := I.hok.fresh (Nat.le_refl s.heap.objs.size)
  have I1 := I.laid (a := s.heap.objs.size) (o := .dT []) (h' := s.heap.push { cls := .type "dict", data := .dict #[] }) (t' := s.toks) (fun _ _ q => Heap.get?_push_of_some _ q) (Nat.le_refl _) (dt_empty s.heap I.big)
  refine wpAny_Dict_any rfl rfl (by simp) (by simp) (thn ((pps_cons hk hv pps_nil).run pins _ σ _ (fun ps H2 => match ps with
    | [(x, y)] => H2 s.heap.objs.size = some (.dT []) ∧ ∃ c k, x = .ref c ∧ H2 c = some (.tup (k.map kV)) ∧ Q (.ref s.heap.objs.size) (L2.upd H2 s.heap.objs.size (.dT [(k, y)]))
    | _ => False) I1 (q _ hn)) fun ws s2 ⟨ps, H2, I2, rel, hq⟩ => ?_)
  match ps, rel, hq with
  | [(x, y)], rel, ⟨e, c, k, ex, ec, q2⟩ =>
    subst ex
    cases rel with
    | @cons _ w _ _ h t =>
      cases t
      obtain ⟨u, v⟩ := w
      obtain ⟨r1, r2⟩ := h
      have r1 : u = Value.ref c := r1
      subst r1
      obtain ⟨z, hd, xs, rel, dd⟩ := dt_of I2.hok e
      have hx : xs = [] := by cases rel; rfl
      subst hx
      refine wpAny_storeAllH (knd := tupleKind (mixKind X.prog X.w)) (show X.A.units < cLine by omega) [(Value.ref c, v)] [(k, c, v)] [] s2 _ ⟨rfl, rfl, key_of I2.hok ec, trivial⟩ dd (by rw [sizeLine_eq]; simp) fun h' tk dd' hs => ?_
      obtain ⟨ob, es, ep, hq, h2, h3, h4, _, h5⟩ := dd'
      refine ⟨.ref s.heap.objs.size, _, d_write I2 (t' := tk) (ob := .dT [(k, y)]) (by rw [e]; exact True.intro) hs ⟨ob, hq⟩ ⟨by rw [sizeLine_eq]; simp, hd, _, KT.keeps (show KT H2 [(k, y)] (storedAllH [] [(k, c, v)]) from .cons ⟨rfl, ec, r2⟩ .nil) fun e' ys ec' => ?_, ob, es, ep, hq, h2, h3, h4, h5⟩, rfl, q2⟩
      rw [upd_ne (ne_of ec' e (fun z => nomatch z))]
      exact ec'
theorem df_dct1 {ek ev : Expr} {mk mv : M D} {pos : Pos} (g : Gd n X b) (hk : DE X b ek mk) (hv : DE X b ev mv) : DF X b (.Dict [some ek] [ev] pos) (eDct1 mk mv) := by
  refine PE.imp (pe_dispT1 (by have := g.units; omega) hk hv) fun σ H Q ⟨lb, ρ, s, o, p⟩ => fun p0 np => ?_
  unfold eDct1 at p
  obtain ⟨oS, stS⟩ := o.side (.dT []) np
  refine ⟨_, ρ, s, oS, ?_⟩
  cases e1 : mk ρ s with
  | bad => rw [e1] at p; exact False.elim p
  | exc x r1 s1 => rw [e1] at p; exact fun lb' H' c d st o z => p lb' H' c d (stS.trans st) o z
  | ok dk ρ1 s1 =>
    rw [e1] at p
    intro lb1 H1 st1 o1 x H2 ex2 rx
    have o2 := o1.ext ex2
    have st2 := st1.trans (o1.stp_ext ex2)
    refine ⟨lb1, ρ1, s1, o2, ?_⟩
    have p : Post b σ lb H ((mv ρ1 s1).bind fun v r s => match keyOf dk with
      | some k => .ok (.dct [k] [v]) r s
      | .none => .bad) fun d _ _ lb' H' => Kt true b.cn lb' H' d Q := p
    cases e2 : mv ρ1 s1 with
    | bad => rw [e2] at p; exact False.elim p
    | exc x r1 s1 => rw [e2] at p; exact fun lb' H' c d st o z => p lb' H' c d (stS.trans (st2.trans st)) o z
    | ok dv ρ2 s2 =>
      rw [e2] at p
      intro lb3 H3 st3 o3 y H4 ex4 ry
      have o4 := o3.ext ex4
      have stx := st3.trans (o3.stp_ext ex4)
      have st4 := st2.trans stx
      obtain ⟨lD, hD⟩ := st4.out p0 mrk_same
      rw [upd_same] at hD
      have p : Post b σ lb H (match keyOf dk with
        | some k => .ok (.dct [k] [dv]) ρ2 s2
        | .none => .bad) fun d _ _ lb' H' => Kt true b.cn lb' H' d Q := p
      cases ek : keyOf dk with
      | none => rw [ek] at p; exact False.elim p
      | some key =>
        rw [ek] at p
        obtain ⟨c, j, rfl, rfl, ec⟩ := keyOf_rep (.inl (rx.stp stx)) ek
        refine ⟨hD, c, j.map Sum.inl, rfl, by rw [kV_inl]; exact ec, ?_⟩
        have h0 : b.H0 p0 = none := by
          cases z : b.H0 p0 with
          | none => rfl
          | some u => exact absurd np (o.since.dom p0 (by rw [z]; simp))
        have n0 : b.lb0 p0 ≠ some .out := fun z => by
          obtain ⟨u, w, _⟩ := o.has p0 _ (o.since.out p0 z).1
          rw [np] at w; cases w
        have stN := (stS.trans st4).goneNew np o.has lD
        have o6 := o4.gone lD n0 h0
        have k : KF b.cn (unm lb3 p0) (hid H4 p0) (.dct [.t j] [dv]) Q := p (unm lb3 p0) (hid H4 p0) stN o6
        have z := k p0 (.dT [(j.map Sum.inl, y)]) hid_same (OwnO.ofT (js := [j]) (vs := [y]) (.one (ry.stq (.gone lD))) rfl (by simp) (by simp only [List.length_singleton, SZ]; omega))
        have eH : L2.upd (hid H4 p0) p0 (.dT [(j.map Sum.inl, y)]) = L2.upd H4 p0 (.dT [(j.map Sum.inl, y)]) := by
          funext a
          by_cases ha : a = p0
          · rw [ha, upd_same, upd_same]
          · rw [upd_ne ha, upd_ne ha, hid_ne ha]
        rw [eH] at z
        exact z
end
end Pk
/-! Br36: d[k], y = a, c; x < y of tuples of numbers; sorted(set(x)). -/
namespace Pk
open PySem PySem.Spec PyProof.Rows L2
section
variable {X : Cx} {b : Bd} {n : Nat} {cn : Cn}
theorem ds_put2 {x ek ea ec : Expr} {y : Str} {i j : Nat} {mk ma mc : M D} {p1 p2 pt pos pt2 : Pos} {kt k2 : Nat} (g : Gd n X b) (hj : X.N[j]? = some y) (hy : Loc X.env.scope y) (hx : PE X x (tVar i)) (hk : DE X b ek mk) (ha : DA X b [ea, ec] [ma, mc])
    (hw : swappedStores [.Tuple [.Subscript x ek p1, .Name y p2] kt pt] (.Tuple [ea, ec] k2 pt2) X.env = pure none := by rfl)
    (hs : swapsWithSole [.Tuple [.Subscript x ek p1, .Name y p2] kt pt] (.Tuple [ea, ec] k2 pt2) pos.line X.env = pure false := by rfl)
    (h3 : (assignEach [.Tuple [.Subscript x ek p1, .Name y p2] kt pt] X.env).map (·.2) = [assign (.Tuple [.Subscript x ek p1, .Name y p2] kt pt) X.env] := by rfl)
    (hn : (assignEach [.Subscript x ek p1, .Name y p2] X.env).length = 2 := by rfl) (hst : (assignEach [.Subscript x ek p1, .Name y p2] X.env).findIdx? (·.1) = none := by rfl)
    (hf2 : X.fn y = true ∨ X.env.scope.names.lookup y = some .local := by first | exact .inl rfl | exact .inr rfl | assumption)
    (h4 : (assignEach [.Subscript x ek p1, .Name y p2] X.env).map (·.2) = assign (.Subscript x ek p1) X.env :: (assignEach [.Name y p2] X.env).map (·.2) := by rfl) (h5 : (assignEach [.Name y p2] X.env).map (·.2) = assign (.Name y p2) X.env :: (assignEach [] X.env).map (·.2) := by rfl)
    (h6 : ∀ v, assign (.Subscript x ek p1) X.env v = (do
      let ov ← holding [v] (eval x X.env)
      let iv ← holding [v, ov] (eval ek X.env)
      standAt p1
      holding [v, ov, iv] (setItem ov iv v)
      release [v, ov, iv] []) := by intro _; rfl) :
    DS X b (.Assign [.Tuple [.Subscript x ek p1, .Name y p2] kt pt] (.Tuple [ea, ec] k2 pt2) pos) (sPut2 i j mk ma mc) := by
  refine PS.imp (ps_asg (pe_tup ha) (pg_tup g.calm (pgs_cons (pg_sub hx hk (set_dict (by have := g.units; omega)) h6) (pgs_cons (pg_name g.nd hj hy hf2) pgs_nil h5) h4) hn hst) hs hw h3) fun D σ H ⟨lb, ρ, s, o, p⟩ => ?_
  have p : SPost b D lb H (sPut2 i j mk ma mc ρ s) := p
  unfold sPut2 at p
  refine ⟨lb, ρ, s, o, tAL_len (SPost.bind (D := D) p) fun xs ρ1 s1 lb1 H1 hlen st o1 k => fun vs H2 ex r => ?_⟩
  have hv : vs.length ≤ sizeLine := by rw [← r.length, hlen, ← SZ_eq]; show 2 ≤ SZ; decide
  refine ⟨hv, fun a na => ⟨a, vs, rfl, .of upd_same, by rw [← r.length, hlen]; rfl, ?_⟩⟩
  have ex2 : Ext H1 (L2.upd H2 a (.tup vs)) := ex.trans (Ext.upd na)
  have o2 := o1.ext ex2
  have k := SPost.from k (o1.stp_ext ex2)
  have r : RepL b.cn lb1 (L2.upd H2 a (.tup vs)) xs vs := r.stp ((o1.ext ex).stp_ext (Ext.upd na))
  match xs, hlen, k, r with
  | [dv, dw], _, k, r =>
    simp only [RepL] at r
    obtain ⟨v, r', rfl, rv, w, r'', rfl, rw', rfl⟩ := r
    refine ⟨v, [w], rfl, ?_⟩
    simp only at k
    cases q : ρ1[i]? with
    | none => rw [q] at k; exact False.elim k
    | some z =>
      cases z with
      | ow d =>
        cases d with
        | dct ks0 ds0 =>
          simp only [q] at k
          obtain ⟨c, ob, e1, l1, h1, w1⟩ := o2.ow i _ q
          refine ⟨.ref c, e1, lb1, ρ1, s1, o2, (SPost.bind (D := D) k).mono fun dk ρ3 s3 lb3 H3 st3 o3 k3 => fun y' H4 ex4 ry => ?_⟩
          have o4 := o3.ext ex4
          have k3 := SPost.from k3 (o3.stp_ext ex4)
          cases q3 : ρ3[i]? with
          | none => rw [q3] at k3; exact False.elim k3
          | some z =>
            cases z with
            | ow d =>
              cases d with
              | dct ks ds =>
                cases ek : keyOf dk with
                | none => simp only [q3, ek] at k3; exact False.elim k3
                | some key =>
                  simp only [q3, ek] at k3
                  split at k3
                  · rename_i hz
                    rw [Bool.and_eq_true] at hz
                    obtain ⟨hz, t⟩ := hz
                    have hz := of_lim hz
                    obtain ⟨a', us, js, e2, l2, rfl, hc, rl, hl, nd, sz⟩ := ow_dct o4 q3 t
                    rw [e1] at e2
                    cases e2
                    obtain ⟨p1, j', rfl, rfl, ep⟩ := keyOf_rep (.inl ry) ek
                    have st34 := st3.trans (o3.stp_ext ex4)
                    obtain ⟨js', vs', z1, z2, z3, z4, z5, z6⟩ := putK_zip (rv.stp st34) (j := j') hl rl nd
                    rw [List.length_map] at hz
                    have hlen : (zipF js us).length < sizeLine := by
                      rw [← SZ_eq]
                      simp only [zipF, List.length_zip, List.length_map]
                      omega
                    refine ⟨c, _, rfl, DPut.t (k := j'.map Sum.inl) hc (by rw [kV_inl]; exact ep) hlen, w, [], rfl, rfl, ?_⟩
                    rw [z1]
                    have w' : OwnO b.cn lb3 H4 (.dct (putKs (js.map Ky.t) (.t j')) (putDs (js.map Ky.t) ds (.t j') dv)) (.dT (zipF js' vs')) := by
                      rw [z2]
                      exact OwnO.ofT z6 z3 z4 (by omega)
                    obtain ⟨o5, st5⟩ := o4.change q3 e1 hc w'
                    exact k3 _ _ _ (st5.trans (.unl _ _ j)) (o5.setSh j ((rw'.stp st34).stp st5))
                  · exact False.elim k3
              | _ => simp only [q3] at k3; exact False.elim k3
            | _ => simp only [q3] at k3; exact False.elim k3
        | _ => simp only [q] at k; exact False.elim k
      | _ => simp only [q] at k; exact False.elim k
/-! ### x < y -/
theorem lexI_eq : ∀ a c : List Int, HT.lexLt a c = lexI a c := by
  intro a
  induction a with
  | nil => intro c; cases c <;> simp [HT.lexLt, lexI]
  | cons x a ih => intro c; cases c with
    | nil => simp [HT.lexLt, lexI]
    | cons y c =>
      simp only [HT.lexLt, lexI, ih]
      by_cases h : x = y
      · simp [h]
      · simp [h]
theorem tup_ints {lb : Lb} {H : Hp} {l : List D} {v : V} {a : List Int} (r : RepB cn lb H (.tup l) v) (h : intsOf l = some a) : ∃ p, v = .ref p ∧ H p = some (.tup (a.map V.int)) := by
  obtain ⟨p, us, rfl, ep, _, ru⟩ := r.tup
  rw [ints_rep ru h] at ep
  exact ⟨p, rfl, ep⟩
def rLtA (K : PySem.W.Frag) : R2 := fun x y H Q => (∃ i j, x = .int i ∧ y = .int j ∧ Q (.bl (decide (i < j))) H) ∨ rLtT K x y H Q
theorem Gd.ltA (g : Gd n X b) : OpR X (compareOp .Lt) (rLtA b.cn.K) := by
  intro pins s σ H x y v u Q I rx ry h
  rcases h with ⟨i, j, e1, e2, q⟩ | h
  · exact op_lt pins s σ H x y v u Q I rx ry ⟨i, j, e1, e2, q⟩
  · rw [g.kk] at h
    exact op_ltT (by have := g.units; omega) pins s σ H x y v u Q I rx ry h
theorem p2_ltT : P2 false cn (rLtA cn.K) pLtT := by
  intro lb H x y d1 d2 e Q hs r1 r2 h k
  cases d1 with
  | int i =>
    cases d2 with
    | int j =>
      simp only [pLtT] at h
      cases h
      exact .inl ⟨i, j, r1.int, r2.int, KV.now k (by simp only [Rep])⟩
    | _ => simp [pLtT] at h
  | tup l =>
    cases d2 with
    | tup m =>
      simp only [pLtT] at h
      cases e1 : intsOf l with
      | none => rw [e1] at h; cases h
      | some a =>
        cases e2 : intsOf m with
        | none => rw [e1, e2] at h; cases h
        | some c =>
          rw [e1, e2] at h
          cases h
          obtain ⟨p, rfl, hp⟩ := tup_ints r1 e1
          obtain ⟨q, rfl, hq⟩ := tup_ints r2 e2
          exact .inr ⟨p, q, a, c, rfl, rfl, .of hp, .of hq, KV.now k (by rw [lexI_eq]; simp only [Rep])⟩
    | _ => simp [pLtT] at h
  | _ => simp [pLtT] at h
/-- sorted(set(x)), x a list of pairs -/
theorem cells_rep {lb : Lb} {H : Hp} : ∀ {l : List D} {vs : List V} {cs : List (Int × Int)}, RepL cn lb H l vs → cellsOf l = some cs → ∃ ps : List (Addr × List Int), vs = (ps.map fun p => V.ref p.1) ∧ ps.map (·.2) = cs.map (fun c => [c.1, c.2]) ∧ ∀ p ∈ ps, NT lb H p.1 (p.2.map V.int)
  | [], vs, cs, r, h => by
    simp only [RepL] at r
    cases h
    exact ⟨[], r, rfl, fun p hp => by cases hp⟩
  | d :: l, vs, cs, r, h => by
    simp only [RepL] at r
    obtain ⟨v, r', rfl, r1, r2⟩ := r
    unfold cellsOf at h
    split at h
    · rename_i heq; cases heq
    · rename_i i j l' heq
      cases heq
      cases e2 : cellsOf l with
      | none => rw [e2] at h; cases h
      | some cs' =>
        rw [e2] at h
        cases h
        obtain ⟨ps, p1, p2, p3⟩ := cells_rep r2 e2
        simp only [Rep] at r1
        obtain ⟨a, xs, rfl, nt, _, rx⟩ := r1
        simp only [RepL, Rep] at rx
        obtain ⟨_, _, rfl, rfl, _, _, rfl, rfl, rfl⟩ := rx
        refine ⟨(a, [i, j]) :: ps, by rw [p1]; rfl, by rw [List.map_cons, p2]; rfl, fun p hp => ?_⟩
        rcases List.mem_cons.mp hp with rfl | hp
        · exact nt
        · exact p3 p hp
    · cases h
theorem bd_two {i j : Int} (h : 0 ≤ i ∧ i < 64 ∧ 0 ≤ j ∧ j < 64) : TS.Bd 64 [i, j] := by
  intro x hx
  rcases List.mem_cons.mp hx with e | e
  · subst e; exact ⟨h.1, h.2.1⟩
  · rw [List.mem_singleton.mp e]; exact ⟨h.2.2.1, h.2.2.2⟩
theorem de_sortSetC {ea : Expr} {a : Opd} {p p2 q pos : Pos} (g : Gd n X b) (hg : Gl X "sorted") (hm : X.mg "sorted" = none) (hg2 : Gl X "set") (hm2 : X.mg "set" = none) (ha : DO X b ea a)
    (na : starEach [ea] X.env = (false, eval ea X.env) :: starEach [] X.env := by rfl) (nb : starEach [.Call (.Name "set" p2) [ea] [] q] X.env = (false, eval (.Call (.Name "set" p2) [ea] [] q) X.env) :: starEach [] X.env := by rfl) :
    DE X b (.Call (.Name "sorted" p) [.Call (.Name "set" p2) [ea] [] q] [] pos) (e1 pSortSetC a) := by
  refine PE.imp (pe_callB (cr_sortedT g.calm) hg hm boot_sorted (pa_cons (pe_callTy (cr_setOfT g.calm (by have := g.units; omega)) hg2 hm2 PyProof.Rows.boot_set (pa_cons ha.pe pa_nil na) (by decide) (by decide) na rfl) pa_nil nb) (by decide) (by decide) nb rfl) fun σ H Q h => ?_
  refine t1_run (r := fun x H Q => rSetOfT X.K X.prog X.w [x] H fun v H2 => rSortedT X.K X.prog X.w [v] H2 Q) (fun lb H x d e Q hs r h k => ?_) h
  cases d with
  | lst l =>
    simp only [pSortSetC] at h
    cases e1 : cellsOf l with
    | none => rw [e1] at h; cases h
    | some cs =>
      rw [e1] at h
      simp only [Option.bind_some] at h
      split at h
      · rename_i hz
        have hz := of_lim hz
        cases h
        obtain ⟨c, vs, rfl, ec, _, rl⟩ := r.lst
        obtain ⟨ps, p1, p2, p3⟩ := cells_rep rl e1
        have hlen : ps.length = l.length := by rw [rl.length, p1, List.length_map]
        have hof : ∀ q ∈ ps, ∃ c ∈ cs, q.2 = [c.1, c.2] := fun q hq => by
          have : q.2 ∈ cs.map fun c => [c.1, c.2] := by rw [← p2]; exact List.mem_map.mpr ⟨q, hq, rfl⟩
          obtain ⟨c, h1, h2⟩ := List.mem_map.mp this
          exact ⟨c, h1, h2.symm⟩
        rw [p1] at ec
        refine ⟨c, ps, rfl, .of ec, fun q hq => .of (p3 q hq).2, by rw [hlen]; exact hz.1, fun c2 L nc h1 h2 => ?_⟩
        have hex : Ext H (L2.upd H c2 (SetTO X.prog X.w c2 L)) := Ext.upd nc
        refine ⟨c2, L, 2, 64, rfl, upd_same, fun q hq => .of (hex _ _ (p3 q (h1 q hq)).2), by decide, fun q hq => ?_, fun L' p0 pm nd few pw np => ?_⟩
        · obtain ⟨c, hc, e⟩ := hof q (h1 q hq)
          rw [e]
          exact ⟨rfl, bd_two (hz.2 c hc)⟩
        · have lL : ∀ q ∈ L', ∃ c ∈ cs, q.2 = [c.1, c.2] := fun q hq => hof q (h1 q (pm.mem_iff.mp hq))
          have key : L'.map (·.2) = (sortC cs).map fun c => [c.1, c.2] := by
            have a1 : ∃ ms : List (Int × Int), L'.map (·.2) = ms.map (fun c => [c.1, c.2]) ∧ (∀ m ∈ ms, m ∈ cs) := by
              clear pm nd pw few
              induction L' with
              | nil => exact ⟨[], rfl, fun m hm => by cases hm⟩
              | cons q L' ih =>
                obtain ⟨ms, e, i⟩ := ih fun q hq => lL q (List.mem_cons_of_mem _ hq)
                obtain ⟨c, hc, e2⟩ := lL q List.mem_cons_self
                refine ⟨c :: ms, by rw [List.map_cons, e, e2]; rfl, fun m hm => ?_⟩
                rcases List.mem_cons.mp hm with rfl | hm
                · exact hc
                · exact i m hm
            obtain ⟨ms, em, im⟩ := a1
            have nd2 : ms.Nodup := by
              rw [em] at nd
              exact (List.pairwise_map.mp nd).imp fun {x y} h e => h (by rw [e])
            have pw2 : ms.Pairwise fun x y => TS.code 64 [x.1, x.2] ≤ TS.code 64 [y.1, y.2] := by
              have : (L'.map (·.2)).Pairwise fun x y => TS.code 64 x ≤ TS.code 64 y := List.pairwise_map.mpr pw
              rw [em] at this
              exact (List.pairwise_map (f := fun c : Int × Int => [c.1, c.2]) (R := fun x y => TS.code 64 x ≤ TS.code 64 y)).mp this
            have pw3 : ms.Pairwise ltCp := by
              refine (List.pairwise_and_iff.mpr ⟨pw2, nd2⟩).imp_of_mem fun {x y} hx hy h => ?_
              have b1 := hz.2 x (im x hx)
              have b2 := hz.2 y (im y hy)
              exact pair_lt h.1 (fun e => h.2 (by injection e with e1 e; injection e with e2; exact Prod.ext e1 e2)) ⟨b1.1, b1.2.1⟩ ⟨b1.2.2.1, b1.2.2.2⟩ ⟨b2.1, b2.2.1⟩ ⟨b2.2.2.1, b2.2.2.2⟩
            have em2 : ms = sortC cs := sorted_ext (r := ltCp) (fun a => by show ¬ (_ ∨ _); omega) (fun a c h => by have h : _ ∨ _ := h; show ¬ (_ ∨ _); omega) pw3 (sortC_sorted cs) fun y => by
              rw [sortC_mem]
              refine ⟨im y, fun hy => ?_⟩
              have h3 : [y.1, y.2] ∈ ps.map (·.2) := by rw [p2]; exact List.mem_map.mpr ⟨y, hy, rfl⟩
              obtain ⟨q, hq, eq⟩ := List.mem_map.mp h3
              have h4 := h2 q hq
              rw [eq] at h4
              have h5 : [y.1, y.2] ∈ L'.map (·.2) := (pm.map (·.2)).mem_iff.mpr h4
              rw [em] at h5
              obtain ⟨z, hz, ez⟩ := List.mem_map.mp h5
              injection ez with e1 ez
              injection ez with e2
              have : z = y := Prod.ext e1 e2
              rw [← this]; exact hz
            rw [em, em2]
          have hex2 : Ext H (L2.upd (L2.upd H c2 (SetTO X.prog X.w c2 L)) p0 (.lst (L'.map fun q => V.ref q.1))) := hex.trans (Ext.upd np)
          have np0 : H p0 = none := by
            cases q : H p0 with
            | none => rfl
            | some u => rw [hex p0 u q] at np; cases np
          have rr : ∀ (ms : List (Int × Int)) (K : List (Addr × List Int)), (∀ q ∈ K, q ∈ ps) → K.map (·.2) = ms.map (fun c => [c.1, c.2]) → RepL b.cn lb (L2.upd (L2.upd H c2 (SetTO X.prog X.w c2 L)) p0 (.lst (L'.map fun q => V.ref q.1))) (ms.map fun c => .tup [.int c.1, .int c.2]) (K.map fun q => V.ref q.1) := by
            intro ms
            induction ms with
            | nil =>
              intro K _ e
              cases K with
              | nil => exact .nil
              | cons _ _ => simp at e
            | cons m ms ih =>
              intro K hK e
              cases K with
              | nil => simp at e
              | cons q K =>
                simp only [List.map_cons, List.cons.injEq] at e
                refine .cons ?_ (ih K (fun q hq => hK q (List.mem_cons_of_mem _ hq)) e.2)
                have nt := p3 q (hK q List.mem_cons_self)
                rw [e.1] at nt
                simp only [Rep]
                exact ⟨q.1, _, rfl, ⟨nt.1, hex2 _ _ nt.2⟩, (show 2 ≤ SZ by decide), .cons (by simp only [Rep]) (.cons (by simp only [Rep]) .nil)⟩
          have k : KV b.cn lb H _ Q := k
          refine k (.ref p0) _ hex2 ?_
          simp only [Rep]
          refine ⟨p0, _, rfl, ⟨hs.none np0, upd_same⟩, ?_, rr _ L' (fun q hq => h1 q (pm.mem_iff.mp hq)) key⟩
          rw [List.length_map]
          have e2 := congrArg List.length key
          rw [List.length_map, List.length_map] at e2
          rw [← e2]
          exact Nat.le_trans (Nat.le_of_lt few) (by decide)
      · cases h
  | _ => cases h
end
end Pk
/-! Br37: set(x) of numbers. -/
namespace Pk
open PySem PySem.Spec PyProof.Rows L2
/-- a new set -/
abbrev nSet (w : World) : Obj := { cls := .type "set", dict := none, data := .set #[] 0 (.fresh 0 0 (!w.params.followText "set-order")) }
section
variable {P : Program} {w : World} {A : Around} {E : Value → Shared → Prop} {s : Shared}
theorem setI_new {l : Addr} {xs : Array Value} (ns : List Int) {Q : Value → Shared → Prop} (hh : A.handled = none) (hl : s.heap.IsList l xs) (hi : IntsAre xs.toList ns) (hb : ns.length + 1 < scanBound)
    (h : ∀ (h' : Heap) (tk c : Nat), SetR w h' s.heap.objs.size (fun j => decide (j ∈ ns)) c → c ≤ ns.length → (∀ d o, s.heap.get? d = some o → h'.get? d = some o) → Q (.ref s.heap.objs.size) { s with heap := h', toks := tk }) :
    wpAny (model P w) A (call (.type "set") [.ref l]) Q E s := by
  have sz : xs.size = ns.length := by have q := IntsAre.length hi; rwa [Array.length_toList] at q
  have ⟨c, tl, m1⟩ := F.called_set.mro
  have m2 := F.called_set.made; have m3 := F.called_set.sub
  refine wpAny_call (codeAny_of_tree ?_); show wpAny _ _ (callAny (.type "set") _) _ _ _
  refine wpAny_pure ⟨Code.quiet_builtin _ (by decide +kernel), codeAny_builtin F.entry_type_call ?_⟩; rw [Around.under_plain (weight_type_call_type "set" [.ref l] []) rfl]
  have m4 := F.called_set.notType; have m5 := F.called_set.canCreate; have m6 := F.typeCall_set_1 (.ref l)
  repeat (any_goals (first | assumption | wp_step))
  refine codeAny_mono (code_set_led1 (.ref l) (E := E) (Q₁ := fun z t => z = .ref s.heap.objs.size ∧ t = { s with heap := s.heap.push (nSet w) }) ⟨rfl, rfl⟩) fun r s1 hr => ?_
  cases r with
  | error e => exact hr
  | ok f1 =>
    cases f1 with
    | ret z =>
      obtain ⟨rfl, rfl⟩ := hr
      have gS : (s.heap.push (nSet w)).get? s.heap.objs.size = some (nSet w) := Heap.get?_push_size _ rfl
      have tS : Shared.TypeIs { s with heap := s.heap.push (nSet w) } (.ref s.heap.objs.size) "set" := ⟨_, gS, rfl⟩
      have m7 := F.called_set.init.lookup; have m8 := F.called_set.init.bind (.ref s.heap.objs.size)
      repeat (any_goals (first | assumption | wp_step))
      refine codeAny_mono (codeAny_call_builtin (R := wants (fun r t => r = .none ∧ ∃ h' tk c, t = { s with heap := h', toks := tk } ∧ SetR w h' s.heap.objs.size (fun j => decide (j ∈ ns)) c ∧ c ≤ ns.length ∧ ∀ d o, s.heap.get? d = some o → h'.get? d = some o) E) F.called_set.init.plain F.entry_set_init (check_set_init_1 tS ?_)) fun r2 s2 hr2 => ?_
      · obtain ⟨⟨oc, od, oda, osl⟩, h1, h2, n1, h3⟩ := hl
        simp only at h2 h3
        subst h2; subst h3
        have g1 : (s.heap.push (nSet w)).get? l = some { cls := .type "list", dict := od, data := .seq xs n1, slots := osl } := Heap.get?_push_of_some _ h1
        have m9 := F.sub_list_set; have m10 := F.sub_list_frozenset
        have m11 : (Value.type "list" == Value.type "dict") = false := by decide
        have l1 : (s.heap.push (nSet w)).IsList l xs := ⟨_, g1, rfl, n1, rfl⟩
        unfold Builtin.«set.__init__» noKeywords Builtin.Frozenset.updateFrom
        generalize ePI : pyIter = PI
        wp_walk
        subst ePI
        refine wpAny_pyIter_list l1 (wpAny_bind (wpAny_runValue ?_))
        have lt : l < s.heap.objs.size := Heap.lt_size h1
        have hh3 : A.in1.in1.in1.handled = none := by simp [hh]
        have z1 : (s.heap.push (nSet w)).objs.size = s.heap.objs.size + 1 := Heap.size_push ..
        have n2 : l ≠ (s.heap.push (nSet w)).objs.size := by rw [z1]; exact Nat.ne_of_lt (Nat.lt_succ_of_lt lt)
        have n3 : s.heap.objs.size ∉ [(s.heap.push (nSet w)).objs.size, l] := by
          rw [z1]
          intro z
          rcases List.mem_cons.mp z with e | e
          · exact absurd e (Nat.ne_of_lt (Nat.lt_succ_self _))
          · rw [List.mem_singleton.mp e] at lt; exact Nat.lt_irrefl _ lt
        have val : ∀ (i : Nat) (v : Value), xs[i]? = some v → ∃ k t, ns[i]? = some k ∧ v = .int k t := fun i v hv => by
          have hi' : i < ns.length := sz ▸ (Array.getElem?_eq_some_iff.mp hv).1
          obtain ⟨t, e⟩ := PyProof.Rows.IntsAre.int_at hi i v ((Array.getElem?_toList ..).trans hv)
          refine ⟨ns[i], t, List.getElem?_eq_getElem hi', e.trans ?_⟩
          rw [List.getD_eq_getElem?_getD, List.getElem?_eq_getElem hi']; rfl
        refine set_update_ints ((Walks.list hh3 _ l n2 xs).toS) s.heap.objs.size n3 ns sz hb val (xs.size - 0) 0 _ (by omega) (Nat.zero_le _) ⟨⟨_, Heap.get?_push_size _ rfl, rfl, rfl⟩, (l1.push _)⟩ ?hS ?hR
        case hS => exact ⟨0, Nat.le_refl 0, setR_new_at (Heap.get?_push_of_some _ gS)⟩
        case hR =>
          intro s' c' mv hc hS
          obtain ⟨h', g2, d2, t2, o2⟩ := s'
          obtain rfl : g2 = s.gens := mv.gens
          obtain rfl : d2 = s.drawn := mv.drawn
          obtain rfl : o2 = s.os := mv.os
          show wpAny _ _ _ _ _ _
          refine wpAny_pure ?_
          show wpAny _ _ (ret Value.none) _ _ _
          refine wpAny_pure ⟨rfl, h', t2, c', rfl, hS, sz ▸ hc, fun d o e => ?_⟩
          have lt2 : d < s.heap.objs.size := Heap.lt_size e
          refine mv.heap d o (fun z => ?_) (Heap.get?_push_of_some _ (Heap.get?_push_of_some _ e))
          rcases List.mem_cons.mp z with q | q
          · exact absurd q (Nat.ne_of_lt lt2)
          · have q := List.mem_singleton.mp q
            rw [z1] at q
            exact absurd q (Nat.ne_of_lt (Nat.lt_succ_of_lt lt2))
      · cases r2 with
        | error e => exact hr2
        | ok f2 =>
          cases f2 with
          | ret r =>
            obtain ⟨rfl, h', tk, c', rfl, q1, q2, q3⟩ := hr2
            repeat (any_goals (first | assumption | wp_step))
            exact h _ _ _ q1 q2 q3
          | _ => exact hr2.elim
    | _ => exact hr.elim
end
end Pk
/-! Br38: sorted(set(x)) of numbers; a call of a def that a slot holds; a def as a value. -/
namespace Pk
open PySem PySem.Spec PyProof.Rows L2
section
variable {X : Cx} {b : Bd} {n : Nat} {cn : Cn}
def rSetI (K : PySem.W.Frag) (w : World) : List V → Hp → VK → Prop := fun xs H Q => ∃ (l : Addr) (ns : List Int), xs = [V.ref l] ∧ SqL K H l (ns.map V.int) ∧ ns.length + 1 < scanBound ∧ ∀ p c, H p = none → c ≤ ns.length → Q (.ref p) (L2.upd H p (SetO w p (fun j => decide (j ∈ ns)) c))
theorem cr_setI (hc : X.calm = true) : CallR X (.type "set") (rSetI X.K X.w) := by
  intro pins s σ H xs us Q I r h
  obtain ⟨l, ns, rfl, hl, hb, q⟩ := h
  rw [Vals.ref1 r]
  obtain ⟨its, rv, pl, hz⟩ := I.list hl
  refine setI_new ns (I.ok.hd hc) pl.isList (by simpa using rv.ints) hb fun h' tk c R hc k => ?_
  exact ⟨.ref s.heap.objs.size, L2.upd H s.heap.objs.size (SetO X.w s.heap.objs.size (fun j => decide (j ∈ ns)) c), I.laid (t' := tk) k (Nat.le_refl _) (setO_new R), rfl, q _ c (I.hok.fresh (Nat.le_refl _)) hc⟩
theorem ints_repL {lb : Lb} {H : Hp} (ns : List Int) : RepL cn lb H (ns.map D.int) (ns.map V.int) := rep_ints ns
theorem de_sortSetI {ea : Expr} {a : Opd} {p p2 q pos : Pos} (g : Gd n X b) (hg : Gl X "sorted") (hm : X.mg "sorted" = none) (hg2 : Gl X "set") (hm2 : X.mg "set" = none) (ha : DO X b ea a)
    (na : starEach [ea] X.env = (false, eval ea X.env) :: starEach [] X.env := by rfl) (nb : starEach [.Call (.Name "set" p2) [ea] [] q] X.env = (false, eval (.Call (.Name "set" p2) [ea] [] q) X.env) :: starEach [] X.env := by rfl) :
    DE X b (.Call (.Name "sorted" p) [.Call (.Name "set" p2) [ea] [] q] [] pos) (e1 pSortSetI a) := by
  refine PE.imp (pe_callB (cr_sortedSet g.calm) hg hm boot_sorted (pa_cons (pe_callTy (cr_setI g.calm) hg2 hm2 PyProof.Rows.boot_set (pa_cons ha.pe pa_nil na) (by decide) (by decide) na rfl) pa_nil nb) (by decide) (by decide) nb rfl) fun σ H Q h => ?_
  refine t1_run (r := fun x H Q => rSetI X.K X.w [x] H fun v H2 => rSortedSet X.w [v] H2 Q) (fun lb H x d e Q hs r h k => ?_) h
  cases d with
  | lst l =>
    simp only [pSortSetI] at h
    cases e1 : intsOf l with
    | none => rw [e1] at h; cases h
    | some ns =>
      rw [e1] at h
      simp only [Option.bind_some] at h
      split at h
      · rename_i hz
        have hz := of_lim hz
        cases h
        obtain ⟨c, vs, rfl, ec, _, rl⟩ := r.lst
        have ev := ints_rep rl e1
        rw [ev] at ec
        have hlen : ns.length = l.length := by rw [rl.length, ev, List.length_map]
        refine ⟨c, ns, rfl, .of ec, ?_, fun p0 c0 np hc => ⟨p0, _, c0, rfl, upd_same, by omega, fun ms p1 pw mm ml np1 => ?_⟩⟩
        · have : (64 : Nat) < scanBound := by decide
          omega
        · have em : ms = sortI ns := sorted_ext (r := (· < ·)) (fun a => by omega) (fun a c h => by omega) pw (sortI_sorted ns) fun y => by rw [mm y, sortI_mem]; simp
          have hex : Ext H (L2.upd (L2.upd H p0 (SetO X.w p0 (fun j => decide (j ∈ ns)) c0)) p1 (.lst (ms.map V.int))) := (Ext.upd np).trans (Ext.upd np1)
          have np2 : H p1 = none := by
            cases q : H p1 with
            | none => rfl
            | some u => rw [Ext.upd np p1 u q] at np1; cases np1
          have k : KV b.cn lb H _ Q := k
          refine k (.ref p1) _ hex ?_
          simp only [Rep]
          refine ⟨p1, _, rfl, ⟨hs.none np2, upd_same⟩, ?_, ?_⟩
          · rw [List.length_map, ← em, ml]
            exact Nat.le_trans (show c0 ≤ 64 by omega) (by decide)
          · rw [em]
            exact ints_repL _
      · cases h
  | _ => cases h
/-! ### defs as values -/
theorem de_fn {j : Nat} {x : Str} {pos : Pos} {mg : Str → Option Value} (hm : X.mg = mg) (hg : Gl X x) (h : mg x = some (.ref (b.cn.fn j))) (hd : (x == ("__debug__" : Str)) = false := by decide) : DE X b (.Name x pos) (eC (.fn j)) := by
  subst hm
  exact de_c (pe_glob hg h (v := .ref (b.cn.fn j)) rfl hd) fun _ _ => by simp only [Rep]
/-- the defs that may come as values -/
def VTab (cn : Cn) (P : Program) (w : World) (mg : Str → Option Value) (base : Heap) (n : Nat) (Fs : List Fn) : Prop := ∀ (j : Nat) (F : Fn), Fs[j]? = some F → ∃ k x, k ≤ n ∧ FnG cn P w mg base k x F [] ∧ mg x = some (.ref (cn.fn j))
theorem VTab.nil {cn : Cn} {P : Program} {w : World} {mg : Str → Option Value} {base : Heap} {n : Nat} : VTab cn P w mg base n [] := fun j F h => by simp at h
theorem VTab.one {cn : Cn} {P : Program} {w : World} {mg : Str → Option Value} {base : Heap} {k : Nat} {x : Str} {F : Fn} (G : FnG cn P w mg base k x F []) (h : mg x = some (.ref (cn.fn 0))) : VTab cn P w mg base k [F] := fun j F' e => by
  cases j with
  | zero => cases e; exact ⟨k, x, Nat.le_refl _, G, h⟩
  | succ j => simp at e
theorem de_callV {i m : Nat} {Fs : List Fn} {x : Str} {p pos : Pos} {e : Expr} {es : List Expr} {ms : List (M D)} {P : Program} {w : World} {mg : Str → Option Value} {base : Heap} (g : Gd n X b) (V : VTab b.cn P w mg base m Fs) (hk : m ≤ n) (hP : X.prog = P) (hw : X.w = w) (hm : X.mg = mg) (hb : X.base = base)
    (hN : X.N[i]? = some x) (hv : Vis X.env.scope x) (ha : DA X b (e :: es) ms) (hdb : (x == ("__debug__" : Str)) = false := by decide) (hcd : (x == ("__classdict__" : Str)) = false := by decide) (he : starEach (e :: es) X.env = (false, eval e X.env) :: starEach es X.env := by rfl) (hpl : (backTo pos (starEach es X.env)).any (·.1) = false := by rfl) :
    DE X b (.Call (.Name x p) (e :: es) [] pos) (eCallV Fs i ms) := by
  subst hP hw hm hb
  refine ⟨fun pins s σ H Q I h => ?_⟩
  obtain ⟨lb, ρ, t, o, h⟩ := h
  unfold eCallV at h
  cases q : ρ[i]? with
  | none => rw [q] at h; exact False.elim h
  | some z =>
    cases z with
    | sh d =>
      cases d with
      | fn j =>
        simp only [q] at h
        cases qf : Fs[j]? with
        | none => simp only [qf] at h; exact False.elim h
        | some F =>
          simp only [qf] at h
          obtain ⟨k, y, hkm, ⟨f, fd, ps, dsv, dvs, F1, F2, F3, F4, F5, F6⟩, hy⟩ := V j F qf
          rw [F2] at hy
          cases hy
          rw [g.kk] at F1 F3 F4
          have e0 : dvs = [] := List.length_eq_zero_iff.mp (F6 (fun _ => none) (fun _ => none)).length.symm
          subst e0
          obtain ⟨v, e1, r⟩ := o.sh i _ q
          simp only [Rep] at r
          subst r
          refine wpAny_Call_Name_kw (thn ((pe_var (pos := p) hN hv hdb hcd).run pins s σ H (fun v H1 => v = .ref (b.cn.fn j) ∧ H1 = H) I ⟨.ref (b.cn.fn j), e1, rfl, rfl⟩) fun u s1 ⟨v, H1, I1, r1, q1⟩ => ?_)
          obtain ⟨rfl, rfl⟩ := q1
          obtain rfl : u = Value.ref (b.cn.fn j) := r1
          refine PySem.W.callWith_K (h₀ := X.base) I.ok.mod.kin F3 (thn (ha.run pos pins s1 σ _ (fun vs H1 => spOf b.cn F (vs ++ []) H1 Q (WE b.W σ)) I1 ⟨lb, ρ, t, o, (Post.bind h).mono fun ds ρ1 s1 lb1 H1 st o1 q1 => fun vs H2 ex r => ?_⟩) fun us s2 ⟨vs, H2, I2, r, q⟩ => ⟨I2.kIn, ?_⟩) he hpl
          · have r0 := r.append (F6 lb1 H2)
            have q2 := Post.from q1 (o1.stp_ext ex)
            show spOf b.cn F (vs ++ []) H2 Q (WE b.W σ)
            rw [List.append_nil, List.append_nil] at r0
            rw [List.append_nil]
            exact call_run (o1.ext ex) r0 q2
          · exact run_fnSD (E := WE b.W) F1 (g.room.mono (Nat.le_trans hkm hk)) F4 F5 (passAt g.tk σ) I2 r q
      | _ => simp only [q] at h; exact False.elim h
    | _ => simp only [q] at h; exact False.elim h
end
end Pk
/-! Br40: a lambda is made; its promise. -/
namespace Pk
open PySem PySem.Spec PyProof.Rows L2
/-- a table whose code objects keep Z -/
def TabZ (Z : Addr → Prop) (H : Hp) (P : Addr) (q : Str) : Prop := ∃ ps : Array Value, H P = some (.tbl ps) ∧ TriplesOk ps.toList ∧ ∀ (pos : Pos) (cv : Value), codeAmong pos ps.toList = some cv → ∃ c, cv = .ref c ∧ Z c ∧ H c = some (LamX.CodeO c q)
theorem lamO_ne {f c : Addr} {m : Lm} {cl : List (Str × Addr)} (ps : Array Value) : LamO f m cl c ≠ .tbl ps := fun z => by unfold LamO at z; cases z
section
variable {X : Cx} {pins : List (Addr × Obj)} {σ : L2.St} {H : Hp} {s : Shared}
theorem track_lam {f c' : Addr} {m : Lm} {cl : List (Str × Addr)} {pm ctv : Value} {t : Nat} (I : Inv X pins σ H s) (hf : f = s.heap.objs.size) :
    Inv X pins σ (L2.upd H f (LamO f m cl c')) { s with heap := s.heap.push (PySem.W.kla_obj "<lambda>" m.qual m.params m.body m.scope cl pm c' ctv), toks := t } := by
  subst hf
  refine I.laid (t' := t) (fun b u e => Heap.get?_push_of_some _ e) (Nat.le_refl _) ?_
  have e : (s.heap.push (PySem.W.kla_obj "<lambda>" m.qual m.params m.body m.scope cl pm c' ctv)).get? s.heap.objs.size = some (PySem.W.kla_obj "<lambda>" m.qual m.params m.body m.scope cl pm c' ctv) := Heap.get?_push_size _ rfl
  exact ⟨⟨pm, ctv, e⟩, ⟨_, e⟩, fun h1 h2 ⟨pm, ctv, q⟩ st => ⟨pm, ctv, st _ q⟩⟩
theorem lam_new {Z : Addr → Prop} {c P : Addr} {params : Arguments} {body : Expr} {scope : Scope} {pos : Pos} {fr : List Str} {E Q : Value → Shared → Prop} (I : Inv X pins σ H s) (B : LamX.TabB X.base X.mg c P) (hc : X.env.code = .ref c)
    (T : TabZ Z H P (X.env.qual ++ "<lambda>")) (hZ : ∀ a, H a = none → Z a) (hd : defaultsOf params X.env = ([], [])) (hf : ∀ y ∈ scope.names, y.2 = .free → ∃ a, X.env.cells.lookup y.1 = some a)
    (h : ∀ (f c' : Addr) (H1 : Hp) (s' : Shared), Inv X pins σ H1 s' → (∀ b o, H b = some o → b ≠ P → H1 b = some o) → (∀ b, H1 b = none → H b = none) → TabZ Z H1 P (X.env.qual ++ "<lambda>") → H f = none →
      H1 f = some (LamO f ⟨X.env.qual ++ "<lambda>", params, body, scope, fr⟩ (cloFrom X.env.cells scope.names []) c') → Z c' → H1 c' = some (LamX.CodeO c' (X.env.qual ++ "<lambda>")) → Q (.ref f) s') :
    wpAny (model X.prog X.w) X.A (eval (.Lambda params body scope pos) X.env) Q E s := by
  obtain ⟨ps, tP, tk, ta⟩ := T
  refine PySem.W.kla_eval hd ?_
  have bb : s.heap.BuiltinsAt X.mg P := B.bm.keeps I.bk
  have gP : s.heap.get? P = some { cls := .none, data := .fields ps } := I.hok P _ tP
  cases e : codeAmong pos ps.toList with
  | none =>
    refine PySem.W.kla_makeFunction (mg := X.mg) (ps := ps) (closure_ok hf) I.ok.glob (I.mod.glob.keeps I.bk) hc (B.code.keeps I.bk) gP tk e B.gP bb fun c' ctv h' t x1 x2 x3 x4 x5 => ?_
    obtain ⟨c2, oc, us, u, e2, y1, y2, y3⟩ := x4
    cases e2
    have nC : H c' = none := I.hok.fresh x2
    have J := LamX.inv_table (t' := t) (more := #[rawInt pos.line, rawInt pos.col, .ref c']) (h' := h') I tP (fun b o q r => x1 b o q r) x5 x2 ⟨oc, us, u, y1, y2, y3⟩
    obtain ⟨HT, eT⟩ : ∃ HT, HT = L2.upd (L2.upd H P (.tbl (ps ++ #[rawInt pos.line, rawInt pos.col, .ref c']))) c' (LamX.CodeO c' (X.env.qual ++ "<lambda>")) := ⟨_, rfl⟩
    rw [← eT] at J
    have kT : ∀ b o, H b = some o → b ≠ P → HT b = some o := fun b o q n => by
      rw [eT, upd_ne (ne_of_none q nC), upd_ne n]
      exact q
    have nT : ∀ b, HT b = none → H b = none := fun b q => by
      rw [eT] at q
      unfold L2.upd at q
      split at q
      · cases q
      · split at q
        · cases q
        · exact q
    have J2 := track_lam (f := h'.objs.size) (c' := c') (m := ⟨X.env.qual ++ "<lambda>", params, body, scope, fr⟩) (cl := cloFrom X.env.cells scope.names []) (pm := (X.mg "__name__").getD .none) (ctv := ctv) (t := t) J rfl
    have nF : HT h'.objs.size = none := J.hok.fresh (Nat.le_refl _)
    have cT : HT c' = some (LamX.CodeO c' (X.env.qual ++ "<lambda>")) := by rw [eT, upd_same]
    refine h h'.objs.size c' _ _ J2 (fun b o q n => (upd_ne (ne_of_none (kT b o q n) nF)).trans (kT b o q n)) (fun b q => ?_) ?_ (nT _ nF) upd_same (hZ _ nC) ((upd_ne (ne_of_none cT nF)).trans cT)
    · unfold L2.upd at q
      split at q
      · cases q
      · exact nT b q
    · have eL : (ps ++ #[rawInt pos.line, rawInt pos.col, .ref c']).toList = ps.toList ++ [rawInt pos.line, rawInt pos.col, .ref c'] := by simp
      have hPT : HT P = some (.tbl (ps ++ #[rawInt pos.line, rawInt pos.col, .ref c'])) := by rw [eT, upd_ne (ne_of_none tP nC), upd_same]
      refine ⟨_, (upd_ne (ne_of_none hPT nF)).trans hPT, by rw [eL]; exact PySem.TriplesOk_snoc _ _ _ _ tk, fun p' cv q => ?_⟩
      rw [eL] at q
      rcases LamX.among_app _ tk q with r | r
      · obtain ⟨c0, z1, z2, z3⟩ := ta p' cv r
        have z4 := kT c0 _ z3 (fun w => by rw [w, tP] at z3; exact LamX.codeO_ne ps (Option.some.inj z3).symm)
        exact ⟨c0, z1, z2, (upd_ne (ne_of_none z4 nF)).trans z4⟩
      · exact ⟨c', r, hZ _ nC, (upd_ne (ne_of_none cT nF)).trans cT⟩
  | some cv =>
    obtain ⟨c', e1, z2, z3⟩ := ta pos cv e
    subst e1
    refine PySem.W.kla_makeFunctionHit (mg := X.mg) (ps := ps) (closure_ok hf) I.ok.glob (I.mod.glob.keeps I.bk) hc (B.code.keeps I.bk) gP tk e bb fun ctv h' t x1 x2 => ?_
    have J : Inv X pins σ H { s with heap := h', toks := t } := I.kept x1
    have nF : H h'.objs.size = none := J.hok.fresh (Nat.le_refl _)
    have J2 := track_lam (f := h'.objs.size) (c' := c') (m := ⟨X.env.qual ++ "<lambda>", params, body, scope, fr⟩) (cl := cloFrom X.env.cells scope.names []) (pm := (X.mg "__name__").getD .none) (ctv := ctv) (t := t) J rfl
    refine h h'.objs.size c' _ _ J2 (fun b o q n => (upd_ne (ne_of_none q nF)).trans q) (fun b q => ?_) ?_ nF upd_same z2 ((upd_ne (ne_of_none z3 nF)).trans z3)
    · unfold L2.upd at q
      split at q
      · cases q
      · exact q
    · refine ⟨ps, (upd_ne (ne_of_none tP nF)).trans tP, tk, fun p' cv q => ?_⟩
      obtain ⟨c0, w1, w2, w3⟩ := ta p' cv q
      exact ⟨c0, w1, w2, (upd_ne (ne_of_none w3 nF)).trans w3⟩
end
/-! ### the frame goes on -/
theorem FldOk.stp2 {cn : Cn} {lb lb' : Lb} {H H' : Hp} {n : Nat} (s : Stq lb H lb' H') (k : ∀ a n f, lb a = some (.fld n f) → H' a = H a) :
    ∀ {fs : List (Str × D)} {fv : List (Str × V)}, FldOk cn lb H n fs fv → FldOk cn lb' H' n fs fv
  | [], _, h => h
  | (f, d) :: fs, fv, h => by
    obtain ⟨v, r, e, h1, h2⟩ := h
    refine ⟨v, r, e, ?_, FldOk.stp2 s k h2⟩
    unfold FOk at h1 ⊢
    cases d with
    | lst l =>
      obtain ⟨p, o, e, lp, hp, w⟩ := h1
      exact ⟨p, o, e, s.sto p _ lp rfl, by rw [k p _ _ lp]; exact hp, w.stq s⟩
    | _ => exact Rep.stq s h1
theorem BOk.lam {cn : Cn} {lb0 lb : Lb} {H0 H H1 : Hp} {ρ : Env} {s : Sto} {σ : L2.St} {n : Nat} {P : Addr} {q : Str} (o : BOk cn lb0 H0 lb ρ s σ H) (ht : cn.tb[n]? = some (P, q)) (k : ∀ b o, H b = some o → b ≠ P → H1 b = some o) (nn : ∀ b, H1 b = none → H b = none) (T : TabL lb H1 P q) :
    BOk cn lb0 H0 lb ρ s σ H1 ∧ Stp lb H lb H1 := by
  have hP : lb P = some (.tab n) := (o.sto.tabs n _ ht).1
  have ne : ∀ a l, lb a = some l → l ≠ .tab n → a ≠ P := fun a l e z w => by rw [w, hP] at e; exact z (Option.some.inj e).symm
  have sm : ∀ a l, lb a = some l → l ≠ .tab n → H1 a = H a := fun a l e z => by
    obtain ⟨u, q, _⟩ := o.has a l e
    rw [q, k a u q (ne a l e z)]
  have st : Stp lb H lb H1 :=
    { keep := fun a u h z => k a u h (by rintro rfl; rw [hP] at z; cases z)
      out := fun a h => ⟨h, sm a _ h (by intro z; cases z)⟩
      new := fun _ h => .inl h
      sto := fun _ _ h _ => h
      dom := fun a h z => h (nn a z) }
  refine ⟨⟨o.since.trans st, ⟨fun a e => ?_, fun m fs e => ?_, o.sto.uniq, o.sto.dom, fun m p e => ?_⟩, fun a l e => ?_, o.len, fun j d h => ?_, fun j d h => ?_, o.lc⟩, st⟩
  · rw [sm a _ e (by intro z; cases z)]
    exact o.sto.town a e
  · obtain ⟨a, dx, fv, l1, l2, h1, h2, w⟩ := o.sto.objs m fs e
    exact ⟨a, dx, fv, l1, l2, by rw [sm a _ l1 (by intro z; cases z)]; exact h1, by rw [sm dx _ l2 (by intro z; cases z)]; exact h2, FldOk.stp2 st.q (fun a n f e => sm a _ e (by intro z; cases z)) w⟩
  · obtain ⟨h1, h2⟩ := o.sto.tabs m p e
    by_cases hm : m = n
    · subst hm
      rw [ht] at e
      cases e
      exact ⟨h1, T⟩
    · exact ⟨h1, h2.stq st.q (sm _ _ h1 (by intro z; cases z; exact hm rfl))⟩
  · by_cases ha : a = P
    · obtain ⟨ps, hp, _⟩ := T
      exact ⟨.tbl ps, by rw [ha]; exact hp, trivial⟩
    · obtain ⟨u, q, t⟩ := o.has a l e
      exact ⟨u, k a u q ha, t⟩
  · obtain ⟨v, e1, r⟩ := o.sh j d h
    exact ⟨v, e1, r.stp st⟩
  · obtain ⟨a, u, e1, l, q, w⟩ := o.ow j d h
    exact ⟨a, u, e1, l, by rw [sm a _ l (by intro z; cases z)]; exact q, w.stp st⟩
/-! ### what a lambda promises -/
def spL (cn : Cn) (L : List D → Fn) (ws vs : List V) (H : Hp) (Q : VK) (E : XK) : Prop := ∃ lb s caps ds, EOk cn lb s H ∧ RepL cn lb H caps ws ∧ RepL cn lb H ds vs ∧ match L caps ds s with
  | .ok d s' => ∀ lb' H' v, Stp lb H lb' H' → EOk cn lb' s' H' → Rep cn lb' H' d v → Q v H'
  | .exc x s' => ∀ lb' H' cls dx, Stp lb H lb' H' → EOk cn lb' s' H' → XRep cn lb' H' x cls dx → E cls dx H'
  | .bad => False
abbrev nfL (m : Lm) (cl : List (Str × Addr)) (c : Addr) : NdefX.NF := ⟨"<lambda>", m.qual, m.params, [], m.scope, cl, c⟩
def LOk (cn : Cn) (P : Program) (w : World) (mg : Str → Option Value) (base : Heap) (k j : Nat) (L : List D → Fn) : Prop :=
  ∀ (A : Around) (outer : List PySem.Env) (s : Shared) (H : Hp) (f : Addr) (cl : List (Str × Addr)) (c : Addr) (us : List Value) (vs ws : List V) (Q : VK) (E : XK), Room k A → Env0 P w cn.K mg base A outer s H →
    H f = some (LamO f (cn.lm j) cl c) → H c = some (LamX.CodeO c (cn.lm j).qual) → NdefX.CellsAt cl (cn.lm j).fr (ws.map some) s.heap H → Vals vs us → spL cn L ws vs H Q E →
    codeAny (model P w) A (.call (.ref f) ⟨us, []⟩) (CR (L2.CX P w) outer P w H s Q E) s
theorem lam_ok {cn : Cn} {P : Program} {w : World} {mg : Str → Option Value} {base : Heap} {k j p n : Nat} {N ps : List Str} {m : M D} (S : NdefX.NScope N ps (cn.lm j).fr (cn.lm j).scope) (hp : ps.length = p) (hn : N.length = n)
    (hbind : ∀ (cl : List (Str × Addr)) (pm cv ctv : Value) (us : List Value), us.length = ps.length → bindArgs (PySem.W.kla_fn "<lambda>" (cn.lm j).qual (cn.lm j).params (cn.lm j).body (cn.lm j).scope cl pm cv ctv) ⟨us, []⟩ = pure (ps.zip us))
    (hb : ∀ (A : Around) (outer : List PySem.Env) (s : Shared) (H : Hp) (E : XK) (f : Addr) (cl : List (Str × Addr)) (c : Addr) (b : Bd), b.cn = cn → Gd k (NdefX.ncx (L2.CX P w) P w cn.K mg base N (nfL (cn.lm j) cl c) f A outer s H E) b → DE (NdefX.ncx (L2.CX P w) P w cn.K mg base N (nfL (cn.lm j) cl c) f A outer s H E) b (cn.lm j).body m) :
    LOk cn P w mg base (k + 1) j (lamFn p n m) := by
  subst hp hn
  intro A outer s H f cl c us vs ws Q E hr e0 hf hc C r hsp
  obtain ⟨lb, st, caps, ds, eo, rc, rd, h⟩ := hsp
  unfold lamFn at h
  by_cases hl : ds.length = ps.length
  · rw [if_pos hl] at h
    obtain ⟨⟨pm, ctv, ho⟩, _, _⟩ := e0.hok f _ hf
    obtain ⟨⟨oc, xs, t, h1, h2, h3⟩, _, _⟩ := e0.hok c _ hc
    have lim : s.heap.NoLimit := e0.mod.nolimit.keeps fun b o e => (e0.bs b o e).1
    have hvl : vs.length = ps.length := by rw [← rd.length]; exact hl
    refine PySem.W.kla_callFunE hr.depth ho rfl S.co S.gen rfl ⟨c, oc, xs, t, rfl, h1, h2, h3⟩ ?_
    rw [hbind cl pm (.ref c) ctv us (by rw [← r.length]; exact hvl)]
    refine wpAny_pure (wpAny_newFunctionEnv S.nocell (fun ⟨y, _⟩ hy => S.par y (List.of_mem_zip hy).1) (fun h₁ hns hsb => ⟨lim.fresh _ hsb, ?_⟩) S.kind)
    show codeAny _ _ (.expr (cn.lm j).body (NdefX.envF (nfL (cn.lm j) cl c) f s.heap.objs.size)) _ _
    have kp : ∀ b o, s.heap.get? b = some o → h₁.get? b = some o := fun b o e => hsb.extBut b o (Nat.ne_of_lt (Heap.lt_size e)) (Heap.get?_push_of_some _ e)
    have I : Inv (NdefX.ncx (L2.CX P w) P w cn.K mg base N (nfL (cn.lm j) cl c) f A outer s H E) [] (NdefX.startF N vs (ws.map some)) H { s with heap := h₁, toks := s.toks + (ps.zip us).length } := NdefX.inv_startN S hr.hd e0 hvl r C hns kp
    let b : Bd := ⟨cn, lb, H, fun cls dx _ H' => E cls dx H'⟩
    have tk : Takes (NdefX.ncx (L2.CX P w) P w cn.K mg base N (nfL (cn.lm j) cl c) f A outer s H E) b.W := takes_of rfl rfl rfl rfl
    have g : Gd k (NdefX.ncx (L2.CX P w) P w cn.K mg base N (nfL (cn.lm j) cl c) f A outer s H E) b := ⟨rfl, rfl, S.nd, tk, hr.deeper _, passes_of rfl⟩
    have hpl : ps.length + (cn.lm j).fr.length ≤ N.length := by
      have q := congrArg List.length S.pre
      rw [List.length_take, List.length_append] at q
      omega
    have clen := C.len
    rw [List.length_map] at clen
    have o0 := eo.start (N := N) (rd.append rc) (by rw [List.length_append]; omega)
    have es : L2.start N (vs ++ ws) = NdefX.startF N vs (ws.map some) := by
      unfold L2.start NdefX.startF
      rw [List.map_append, List.append_assoc, List.length_append, List.length_map, Nat.sub_add_eq]
    rw [es] at o0
    refine PySem.W.kla_codeExpr (wpAny_mono ((hb A outer s H E f cl c b rfl g).run [] _ _ H Q I ⟨lb, _, st, o0, ?_⟩) (fun v s' hq => ?_) fun e s' hq => hq)
    · cases e : m (startL N.length (ds ++ caps)) st with
      | bad => rw [e] at h; exact h
      | exc z ρ1 s1 =>
        rw [e] at h
        exact fun lb' H' cls dx st' o' xr => h (dl lb') H' cls dx (st'.trans (.dl _ _)) o'.leave (xr.stp (.dl _ _))
      | ok d ρ1 s1 =>
        rw [e] at h
        intro lb' H' st' o' v H2 ex rv
        have o2 := o'.ext ex
        exact h (dl lb') H2 v ((st'.trans (o'.stp_ext ex)).trans (.dl _ _)) o2.leave (rv.stp (.dl _ _))
    · obtain ⟨w', H', J, rv, q⟩ := hq
      exact ⟨w', H', J.os, J.bare, J.base, J.hok, rv, q⟩
  · rw [if_neg hl] at h; exact False.elim h
end Pk
/-! Br41: sorted(x, key=f), f any function: it may call defs. -/
namespace Pk
open PySem PySem.Spec PyProof.Rows L2 PySem.W
theorem each_zip {bs : List (D × V)} : ∀ {vs : List V} {us : List Value}, Vals vs us → bs.length = vs.length → EachIs (fun (u : Value) (c : (D × V) × V) => RelV c.2 u) us (bs.zip vs) := by
  induction bs with
  | nil =>
    intro vs us r h
    cases vs with
    | nil => cases r; exact .nil
    | cons _ _ => simp at h
  | cons c bs ih =>
    intro vs us r h
    cases vs with
    | nil => simp at h
    | cons v vs =>
      cases r with
      | cons r1 r2 => exact .cons r1 (ih r2 (by simpa using h))
theorem each_zip_vals : ∀ {cs : List ((D × V) × V)} {us : List Value}, EachIs (fun (u : Value) (c : (D × V) × V) => RelV c.2 u) us cs → Vals (cs.map (·.2)) us := by
  intro cs us r
  induction r with
  | nil => exact .nil
  | cons h t ih => exact .cons h ih
section
variable {X : Cx} {pins : List (Addr × Obj)} {σ : L2.St} {H : Hp} {s : Shared}
theorem sortK_run {l f : Addr} {vs : List V} {Q : VK} (I : Inv X pins σ H s) (hl : SqL X.K H l vs) (hu : X.A.units + 70 < cLine) (J : Addr → Obj → Addr → Nat → List V → Hp → Prop)
    (h0 : ∀ a oA kS, a ≠ kS → H a = none → H kS = none → J a oA kS 0 [] (L2.upd (L2.upd H a (CelO a oA)) kS (.lst [])))
    (hJ : ∀ a oA kS i ks H', J a oA kS i ks H' → H' a = some (CelO a oA) ∧ H' kS = some (.lst ks) ∧ ks.length = i)
    (turn : ∀ a oA kS i v ks H' s' u, vs[i]? = some v → J a oA kS i ks H' → Inv X pins σ H' s' → RelV v u → wpAny (model X.prog X.w) X.A.in1.in1 (call (.ref f) [u])
      (fun u' s'' => ∃ k H'', Inv X pins σ H'' s'' ∧ RelV k u' ∧ H'' kS = some (.lst ks) ∧ J a oA kS (i + 1) (ks ++ [k]) (L2.upd H'' kS (.lst (ks ++ [k])))) (fun _ _ => False) s')
    (fin : ∀ a oA kS ks H', H a = none → H kS = none → a ≠ kS → J a oA kS vs.length ks H' → ∃ bs : List (D × V), ks = bs.map (·.2) ∧ (∀ c ∈ bs, Dp X.K H' c.2 (toPy c.1)) ∧ sortOk (bs.map (·.1)) = true ∧ Q (.ref a) (L2.upd (hid H' kS) a (.lst (((bs.zip vs).mergeSort fun x y => leD x.1.1 y.1.1).map (·.2))))) :
    wpAny (model X.prog X.w) X.A (call (.builtin "sorted") [.ref l] [(Str.ofString "key", .ref f)]) (EP X pins σ Q) X.xe s := by
  obtain ⟨its, rv, pl, hz⟩ := I.list hl
  have hvl := rv.length
  have hzi : its.length ≤ sizeLine := by rw [← hvl]; exact hz
  refine sorted_of_sort pl.isList hzi (ksk_s1 _ _) (fun _ => ksk_l1 _ _) fun E' => ?_
  rw [ksk_t1]
  obtain ⟨a, ea⟩ : ∃ a, a = s.heap.objs.size + 1 := ⟨_, rfl⟩
  have g0 : (copyHeap s.heap its).get? a = some (seqObj "list" its.toArray 0) := by rw [ea]; exact copyHeap_at s.heap its
  rw [← ea]
  obtain ⟨e1, g1⟩ : ∃ e1, ((copyHeap s.heap its).update a (Obj.mapSeq fun _ => (#[] : Array Value))).get? a = some (seqObj "list" #[] e1) := ⟨_, get?_update_seq g0 fun _ => #[]⟩
  have lta : ∀ b o, s.heap.get? b = some o → b ≠ a := fun b o e z => by
    have := Heap.lt_size e
    rw [z, ea] at this
    exact absurd this (Nat.not_lt.mpr (Nat.le_succ _))
  obtain ⟨hA, eA⟩ : ∃ hA, hA = ((copyHeap s.heap its).update a (Obj.mapSeq fun _ => (#[] : Array Value))).push (seqObj "tuple" its.toArray 0) := ⟨_, rfl⟩
  have kA : ∀ b o, s.heap.get? b = some o → hA.get? b = some o := fun b o e => by
    rw [eA]
    refine Heap.get?_push_of_some _ ?_
    rw [Heap.get?_update_ne _ _ _ _ (lta b o e)]
    exact copyHeap_old e
  have gA : hA.get? a = some (seqObj "list" #[] e1) := by rw [eA]; exact Heap.get?_push_of_some _ g1
  have ltA : a < hA.objs.size := Heap.lt_size gA
  have J1 : Inv X pins σ (L2.upd H a (CelO a (seqObj "list" #[] e1))) { s with heap := hA } := I.laid (t' := s.toks) kA (by rw [ea]; exact Nat.le_succ _) ⟨gA, ⟨_, gA⟩, fun h1 h2 q st => st _ q⟩
  have gK : (hA.push (seqObj "list" #[] 0)).get? hA.objs.size = some (seqObj "list" #[] 0) := Heap.get?_push_size _ rfl
  have J2 : Inv X pins σ (L2.upd (L2.upd H a (CelO a (seqObj "list" #[] e1))) hA.objs.size (.lst [])) { s with heap := hA.push (seqObj "list" #[] 0) } := J1.laid (t' := s.toks) (fun b o e => Heap.get?_push_of_some _ e) (Nat.le_refl _) ⟨Nat.zero_le _, [], 0, .nil, gK⟩
  have na : H a = none := I.hok.fresh (by rw [ea]; exact Nat.le_succ _)
  have szA : s.heap.objs.size ≤ hA.objs.size := by rw [ea] at ltA; exact Nat.le_of_lt (Nat.lt_of_succ_lt ltA)
  have nk : H hA.objs.size = none := I.hok.fresh szA
  have nak : a ≠ hA.objs.size := Nat.ne_of_lt ltA
  obtain ⟨kS, eK⟩ : ∃ kS, kS = hA.objs.size := ⟨_, rfl⟩
  unfold ksk_tree
  refine wpAny_bind (listItems_at g0 rfl ?_)
  refine wpAny_bind (listUpdate_at g0 rfl ?_ (by rw [List.size_toArray]; exact hzi) (Nat.zero_le _))
  refine wpAny_bind (seqEpoch_at g1 rfl ?_)
  refine wpAny_bind (wpAny_newTuple ?_ (by show its.length ≤ _; exact hzi))
  refine wpAny_bind (wpAny_newList ?_ (Nat.zero_le _))
  refine wpAny_holding ?_
  show wpAny _ _ (ksk_rest a (.ref f) false its.toArray e1 (.ref (((copyHeap s.heap its).update a (Obj.mapSeq fun _ => (#[] : Array Value))).push (seqObj "tuple" its.toArray 0)).objs.size)) _ _ { s with heap := (((copyHeap s.heap its).update a (Obj.mapSeq fun _ => (#[] : Array Value))).push (seqObj "tuple" its.toArray 0)).push (seqObj "list" #[] 0) }
  rw [← eA, ← eK]
  rw [← eK] at J2 nk nak gK
  have J0 := h0 a (seqObj "list" #[] e1) kS nak na nk
  unfold ksk_rest
  refine wpAny_bind (wpAny_rule ?_)
  first
    | rw [List.forIn_toArray]
    | (rw [← Array.forIn_toList]; simp only [List.toList_toArray])
    | rw [← Array.forIn_toList]
  refine wpAny_bind (ksk_fold (fun i s' => ∃ H' ks, Inv X pins σ H' s' ∧ J a (seqObj "list" #[] e1) kS i ks H') its 0 _ ⟨_, [], J2, J0⟩ ?step ?done)
  case step =>
    rintro j x s' hx ⟨H', ks, I', hj⟩
    rw [Nat.zero_add] at hj ⊢
    obtain ⟨_, _, kl⟩ := hJ _ _ _ _ _ _ hj
    have hjl : j < its.length := (List.getElem?_eq_some_iff.mp hx).1
    obtain ⟨v, hv, rvx⟩ : ∃ v, vs[j]? = some v ∧ RelV v x := by
      have hjv : j < vs.length := by rw [hvl]; exact hjl
      refine ⟨vs[j], List.getElem?_eq_getElem hjv, ?_⟩
      obtain ⟨u, e, r⟩ := rv.get (List.getElem?_eq_getElem hjv)
      rw [hx] at e
      cases e
      exact r
    refine wpAny_bind (wpAny_attempt (wpAny_mono (turn a _ kS j v ks H' s' x hv hj I' rvx) (fun u' s'' q => ?_) fun _ _ z => z.elim))
    obtain ⟨k, H'', I'', rk, hk, hj2⟩ := q
    try dsimp only
    obtain ⟨zk, kits, nk', vk, gk⟩ := I''.hok kS _ hk
    have gk : s''.heap.get? kS = some (seqObj "list" kits.toArray nk') := gk
    have kls : kits.toArray.size ≤ sizeLine := by rw [List.size_toArray, ← vk.length]; exact zk
    have kl2 : kits.length + 1 ≤ sizeLine := by rw [← vk.length, kl]; exact Nat.le_trans hjl hzi
    obtain ⟨c2, hc2⟩ : ∃ c2, (s''.heap.update kS (Obj.mapSeq (·.push u'))).get? kS = some (seqObj "list" (kits.toArray.push u') c2) := ⟨_, get?_update_seq gk (·.push u')⟩
    refine wpAny_bind (listUpdate_at gk rfl ?_ kls (by rw [Array.size_push, List.size_toArray]; exact Nat.le_succ_of_le kl2))
    refine wpAny_pure ⟨rfl, _, ks ++ [k], I''.write (e := kS) (t' := s''.toks) (h' := s''.heap.update kS (Obj.mapSeq (·.push u'))) (o := .lst (ks ++ [k])) (by rw [hk]; exact trivial) (.inl rfl) (fun b o hb e => by rw [Heap.get?_update_ne _ _ _ _ hb]; exact e) ⟨_, hc2⟩ ⟨?_, kits ++ [u'], c2, vk.append (.cons rk .nil), ?_⟩, hj2⟩
    · rw [List.length_append, List.length_singleton, kl]
      exact Nat.le_trans hjl hzi
    · rw [hc2]
      simp [seqObj]
  case done =>
    rintro s' ⟨H', ks, I', hj⟩
    rw [Nat.zero_add, ← hvl] at hj
    obtain ⟨ja, jk, kl⟩ := hJ _ _ _ _ _ _ hj
    obtain ⟨bs, eb, hd, ho, q⟩ := fin a _ kS ks H' na nk nak hj
    obtain ⟨zk, kits, nk', vk, gk⟩ := I'.hok kS _ jk
    have gk : s'.heap.get? kS = some (seqObj "list" kits.toArray nk') := gk
    obtain ⟨ga, _, _⟩ := I'.hok a _ ja
    simp only [sortOk, ordOk, Bool.and_eq_true] at ho
    obtain ⟨⟨o1, o2⟩, o3⟩ := ho
    rw [eb] at vk kl
    have ek := each_rel vk
    have er : EachIs (fun (u : Value) (c : D × V) => ∃ as, Reads s'.heap u (toPy c.1) as) kits bs := (each_mem ek).mono fun u c ⟨hr, hm⟩ => Dp.reads I' _ _ _ (hd c hm) hr
    have em : bs.map (fun c : D × V => toPy c.1) = (bs.map (·.1)).map toPy := by rw [List.map_map]; rfl
    have er2 : EachIs (fun (u : Value) (d : PyData) => ∃ as, Reads s'.heap u d as) kits (bs.map fun c => toPy c.1) := each_map (R := fun u d => ∃ as, Reads s'.heap u d as) (fun c : D × V => toPy c.1) er
    have bl : bs.length = vs.length := by rw [List.length_map] at kl; exact kl
    try dsimp only
    refine wpAny_bind (listItems_at gk rfl ?_)
    have hz1 : (hideAll s'.heap [kS]).get? kS = none := hideAll_none [kS] (List.mem_singleton_self _)
    have kp : KeepsBut a (hideAll s'.heap [kS]) s'.heap := fun b o _ e => of_hideAll [kS] e
    have hal : AllAlike (bs.map fun c => toPy c.1) := by rw [em]; exact allAlk_py o2
    have hsk : Sortable (bs.map fun c => toPy c.1) := by rw [em]; exact sortable_py o3
    have hud : ∀ d ∈ bs.map (fun c => toPy c.1), X.A.in1.in1.units + d.depth < cLine := fun d hd' => by
      obtain ⟨c, hc, rfl⟩ := List.mem_map.mp hd'
      have q1 := dep_le_py (List.all_eq_true.mp o1 c.1 (List.mem_map.mpr ⟨c, hc, rfl⟩))
      show X.A.units + 1 + 1 + _ < cLine
      omega
    have S := SortsAt.data (prog := X.prog) (w := X.w) (A := X.A.in1.in1) (s := s') er2 hal hsk hud
    have ksz : kits.toArray.size = its.length := by rw [List.size_toArray, ← vk.length, List.length_map, bl, hvl]
    refine keyH_end (κ := dataKind s'.heap (bs.map fun c => toPy c.1)) (h₁ := hideAll s'.heap [kS]) kp hz1 gk ga (Ne.symm nak) S ksz hzi fun h3 t3 c3 k3 n3 => ⟨rfl, ?_⟩
    have kz : (bs.map fun c => toPy c.1) = (bs.zip vs).map fun c => toPy c.1.1 := by
      have : (bs.zip vs).map (·.1) = bs := List.map_fst_zip (Nat.le_of_eq bl)
      rw [show ((bs.zip vs).map fun c => toPy c.1.1) = ((bs.zip vs).map (·.1)).map fun c => toPy c.1 by rw [List.map_map]; rfl, this]
    have ko : KeyedOut false ((bs.zip vs).map fun c => toPy c.1.1) its (sortVals (dataKind s'.heap (bs.map fun c => toPy c.1)) false kits.toArray.toList its) := by
      rw [← kz]
      exact ⟨s'.heap, kits, hal, rfl, er2⟩
    have eo := keyedOut_each (fun c : (D × V) × V => toPy c.1.1) ko (each_zip rv bl)
    have le2 : dataLe false (fun c : (D × V) × V => toPy c.1.1) = fun x y => leD x.1.1 y.1.1 := by
      funext x y
      exact congrFun (congrFun le_py x.1.1) y.1.1
    rw [le2] at eo
    have vo := each_zip_vals eo
    have n3' : h3.get? a = some (seqObj "list" (sortVals (dataKind s'.heap (bs.map fun c => toPy c.1)) false kits.toArray.toList its).toArray c3) := n3
    have kb : ∀ b o, b ≠ a → b ≠ kS → s'.heap.get? b = some o → h3.get? b = some o := fun b o h1 h2 e => k3 b o h1 (hideAll_get [kS] e (fun z => h2 (List.mem_singleton.mp z)))
    have hlt : ∀ b o, s.heap.get? b = some o → b ≠ kS := fun b o e z => by
      have := Heap.lt_size e
      rw [z, eK] at this
      exact absurd this (Nat.not_lt.mpr szA)
    have lL := I.lt
    have nLa : X.env.locals ≠ a := fun z => by rw [z, ea] at lL; exact absurd lL (Nat.not_lt.mpr (Nat.le_succ _))
    have nLk : X.env.locals ≠ kS := fun z => by rw [z, eK] at lL; exact absurd lL (Nat.not_lt.mpr szA)
    have nfa : ∀ b o, H' b = some o → (∀ φ, o ≠ .ext φ) → b ≠ a := fun b o e z w => by rw [w, ja] at e; exact z _ (Option.some.inj e).symm
    have nfk : ∀ b o, H' b = some o → (∀ xs, o ≠ .lst xs) → b ≠ kS := fun b o e z w => by rw [w, jk] at e; exact z _ (Option.some.inj e).symm
    have at2 : ∀ b, b ≠ a → b ≠ kS → L2.upd (hid H' kS) a (.lst (((bs.zip vs).mergeSort fun x y => leD x.1.1 y.1.1).map (·.2))) b = H' b := fun b h1 h2 => by rw [upd_ne h1, hid_ne h2]
    refine ⟨.ref a, _, I'.step (g' := s'.gens) (d' := s'.drawn) (t' := t3) (h' := h3) (ch := [kS]) (fun b hb => ?_) (fun b o _ _ hc e n => kb b o (fun z => by rw [z, ja] at n; cases n) (fun z => hc (List.mem_singleton.mpr z)) e) (fun b o _ _ hc e n => ⟨o.slots, kb b o (fun z => by rw [z, ja] at n; cases n) (fun z => hc (List.mem_singleton.mpr z)) e⟩)
      (fun b o hc e n => ?_) (fun b o hc e => ?_) (fun b xs e => ?_) (fun b o u e => ?_) (fun b ps e => ?_) (fun m hm => ?_) (fun b u e => ?_) I'.bare, rfl, q⟩
    · rw [List.mem_singleton.mp hb]
      refine ⟨.inr (by rw [eK]; exact Nat.le_trans I.sz szA), Ne.symm nLk, fun x c e => ?_, fun p hp => ?_⟩
      · obtain ⟨v, o, ho, _⟩ := I.cell x c e
        exact hlt c o ho
      · exact hlt p.1 p.2 (I.pin p hp).1
    · rw [at2 b (fun z => by rw [z, ja] at n; cases n) (fun z => hc (List.mem_singleton.mpr z))]
      exact n
    · by_cases hb : b = a
      · rw [hb]; exact ⟨_, n3'⟩
      · exact ⟨o, kb b o hb (fun z => hc (List.mem_singleton.mpr z)) e⟩
    · rw [at2 b (nfa b _ e (fun φ z => by cases z)) (nfk b _ e (fun xs z => by cases z))]
      exact e
    · rw [at2 b (nfa b _ e (fun φ z => by cases z)) (nfk b _ e (fun xs z => by cases z))]
      exact e
    · rw [at2 b (nfa b _ e (fun φ z => by cases z)) (nfk b _ e (fun xs z => by cases z)), e]
      exact ⟨#[], by simp⟩
    · obtain ⟨o, es, ep, ho, r⟩ := hm
      exact ⟨o, es, ep, kb _ o nLa nLk ho, r⟩
    · by_cases hb : b = a
      · subst hb
        rw [upd_same] at e
        cases e
        refine ⟨?_, _, c3, vo, n3'⟩
        rw [List.length_map, (List.mergeSort_perm _ _).length_eq, List.length_zip, bl]
        exact Nat.le_trans (Nat.min_le_right _ _) hz
      · rw [upd_ne hb] at e
        by_cases hk : b = kS
        · rw [hk, hid_same] at e; cases e
        · rw [hid_ne hk] at e
          refine (I'.hok b u e).stay (fun c v hc r => ?_) (fun c r => ?_) fun c xs r => ?_
          · rcases hc with rfl | hc
            · exact kb _ v hb hk r
            · exact kb c v (nfa c _ hc (fun φ z => by cases z)) (nfk c _ hc (fun xs z => by cases z)) r
          · rw [at2 c (nfa c _ r (fun φ z => by cases z)) (nfk c _ r (fun xs z => by cases z))]
            exact r
          · rw [at2 c (nfa c _ r (fun φ z => by cases z)) (nfk c _ r (fun xs z => by cases z))]
            exact r
end
end Pk
/-! Br42: sorted(x, key=lambda ..). -/
namespace Pk
open PySem PySem.Spec PyProof.Rows L2
theorem FunD.okC {CX : CXT} {P : Program} {w : World} {K : PySem.W.Frag} {mg : Str → Option Value} {base : Heap} {x qual : Str} {params : Arguments} {body : List Stmt} {scope : Scope} {dvs : List V} {kws : List (Str × V)} {f c : Addr} {fd : FuncData} {N ps : List Str} {k : Nat} {sp : Sp} (F : FunD K x qual params body scope dvs kws f fd) (hc : fd.code = .ref c) (S : FnScope N ps scope) (len : ∀ vs H Q E, sp vs H Q E → vs.length = ps.length)
    (hb : ∀ (A : Around) (outer : List PySem.Env) (s : Shared) (H : Hp) (vs : List V) (Q : VK) (E : XK), Room k (A.deeper (envOfC qual scope s.heap.objs.size f (.ref c))) → sp vs H Q E →
      ∃ t, PSs (cxOf CX P w K mg base N qual scope f (.ref c) A outer s H E) body t ∧ t { nx := fun _ H' => Q .non H', rt := Q } (L2.start N vs) H) : FnOk P w K mg base CX (k + 1) f fd ps sp := by
  obtain ⟨oc, od, dV, kV, doc, pm, an, cdv, ct, osl, rfl, lk, hcd, _, _⟩ := F.ex
  obtain rfl : cdv = .ref c := hc
  exact fn_of lk hcd S len fun A outer s H vs Q E hr hsp => hb A outer s H vs Q E hr hsp
theorem fn_okC {P : Program} {w : World} {mg : Str → Option Value} {base : Heap} {x qual : Str} {params : Arguments} {body : List Stmt} {scope : Scope} {dvs : List V} {kws : List (Str × V)} {f c : Addr} {fd : FuncData} {N ps : List Str} {k p q : Nat} {cn : Cn} {m : S} {Fp : Fn}
    (F : FunD cn.K x qual params body scope dvs kws f fd) (hc : fd.code = .ref c) (S : FnScope N ps scope) (hp : ps.length = p) (hq : N.length = q) (hF : Fp = fnOf p q m)
    (hb : ∀ (A : Around) (outer : List PySem.Env) (s : Shared) (H : Hp) (E : XK) (b : Bd), b.cn = cn → Gd k (cxOf (L2.CX P w) P w cn.K mg base N qual scope f (.ref c) A outer s H E) b → DSs (cxOf (L2.CX P w) P w cn.K mg base N qual scope f (.ref c) A outer s H E) b body m) :
    FnOk P w cn.K mg base (L2.CX P w) (k + 1) f fd ps (spOf cn Fp) := by
  subst hF hp hq
  have hpl : ps.length ≤ N.length := by have := congrArg List.length S.pre; rw [List.length_take] at this; omega
  refine FunD.okC F hc S (fun vs H Q E h => ?_) fun A outer s H vs Q E hr h => ?_
  · obtain ⟨lb, st, ds, eo, r, h⟩ := h
    unfold fnOf at h
    by_cases hl : ds.length = ps.length
    · rw [← r.length]; exact hl
    · rw [if_neg hl] at h; exact False.elim h
  · obtain ⟨lb, st, ds, eo, r, h⟩ := h
    unfold fnOf at h
    by_cases hl : ds.length = ps.length
    · rw [if_pos hl] at h
      let b : Bd := ⟨cn, lb, H, fun cls dx _ H' => E cls dx H'⟩
      have tk : Takes (cxOf (L2.CX P w) P w cn.K mg base N qual scope f (.ref c) A outer s H E) b.W := takes_of rfl rfl rfl rfl
      have g : Gd k (cxOf (L2.CX P w) P w cn.K mg base N qual scope f (.ref c) A outer s H E) b := ⟨rfl, rfl, S.nd, tk, hr, passes_of rfl⟩
      refine ⟨_, hb A outer s H E b rfl g, lb, startL N.length ds, st, eo.start r (by rw [← r.length, hl]; exact hpl), ?_⟩
      cases e : m (startL N.length ds) st with
      | bad => rw [e] at h; exact h
      | exc z ρ1 s1 =>
        rw [e] at h
        exact fun lb' σ' H' cls dx st' o' xr => h (dl lb') H' cls dx (st'.trans (.dl _ _)) o'.leave (xr.stp (.dl _ _))
      | ok fl ρ1 s1 =>
        rw [e] at h
        cases fl with
        | nx => exact fun lb' σ' H' st' o' => h (dl lb') H' .non (st'.trans (.dl _ _)) o'.leave (by simp only [Rep])
        | rt d => exact fun lb' σ' H' st' o' v rv => h (dl lb') H' v (st'.trans (.dl _ _)) o'.leave (rv.stp (.dl _ _))
        | bk => exact False.elim h
        | ct => exact False.elim h
    · rw [if_neg hl] at h; exact False.elim h
/-! ### keys -/
theorem keyGo_len {F : Fn} : ∀ {l : List D} {s : Sto} {ks : List D} {s' : Sto}, keyGo F l s = some (ks, s') → ks.length = l.length
  | [], s, ks, s', h => by cases h; rfl
  | d :: l, s, ks, s', h => by
    unfold keyGo at h
    cases e : F [d] s with
    | ok k s1 =>
      rw [e] at h
      cases e2 : keyGo F l s1 with
      | none => simp only [e2] at h; cases h
      | some r =>
        simp only [e2] at h
        cases h
        rw [List.length_cons, List.length_cons, keyGo_len (ks := r.1) (s' := r.2) e2]
    | exc x s1 => rw [e] at h; cases h
    | bad => rw [e] at h; cases h
theorem keyGo_cons {F : Fn} {d : D} {l : List D} {s : Sto} {ks : List D} {s' : Sto} (h : keyGo F (d :: l) s = some (ks, s')) : ∃ k s1 ks', F [d] s = .ok k s1 ∧ ks = k :: ks' ∧ keyGo F l s1 = some (ks', s') := by
  unfold keyGo at h
  cases e : F [d] s with
  | ok k s1 =>
    rw [e] at h
    cases e2 : keyGo F l s1 with
    | none => simp only [e2] at h; cases h
    | some r =>
      simp only [e2] at h
      cases h
      exact ⟨k, s1, r.1, rfl, rfl, e2⟩
  | exc x s1 => rw [e] at h; cases h
  | bad => rw [e] at h; cases h
section
variable {X : Cx} {b : Bd} {n : Nat}
theorem capL_rep {lb : Lb} {ρ : Env} {s : Sto} {σ : L2.St} {H : Hp} (o : Ok b lb ρ s σ H) : ∀ {js : List Nat} {caps : List D}, capL ρ js = some caps → ∃ ws : List V, js.map (NdefX.slotAt σ) = ws.map some ∧ RepL b.cn lb H caps ws
  | [], caps, h => by cases h; exact ⟨[], rfl, .nil⟩
  | j :: js, caps, h => by
    unfold capL at h
    cases q : ρ[j]? with
    | none => simp only [q] at h; cases h
    | some z =>
      cases z with
      | sh d =>
        simp only [q] at h
        cases e : capL ρ js with
        | none => rw [e] at h; cases h
        | some c =>
          rw [e] at h
          cases h
          obtain ⟨ws, e1, r⟩ := capL_rep o e
          obtain ⟨v, e2, rv⟩ := o.sh j d q
          exact ⟨v :: ws, by rw [List.map_cons, List.map_cons, e1, NdefX.slotAt_of e2], .cons rv r⟩
      | _ => simp only [q] at h; cases h
/-- the frame at work while the keys are reckoned -/
structure KeyJ (b : Bd) (lb1 : Lb) (H2 : Hp) (ρ : Env) (σ : L2.St) (F : Fn) (l : List D) (KS : List D) (sF : Sto) (a : Addr) (oA : Obj) (kS : Addr) (i : Nat) (ks : List V) (H' : Hp) : Prop where
  ex : ∃ lb' st', Ok b lb' ρ st' σ H' ∧ Stp lb1 H2 lb' H' ∧ lb' a = some .out ∧ lb' kS = some .out ∧ keyGo F (l.drop i) st' = some (KS.drop i, sF) ∧ RepL b.cn lb' H' (KS.take i) ks
  ha : H' a = some (CelO a oA)
  hk : H' kS = some (.lst ks)
  len : ks.length = i
  na : H2 a = none
  nk : H2 kS = none
theorem zip_sortK {bs : List (D × V)} {ks l : List D} {vs : List V} (e : bs.map (·.1) = ks) (h : l.length = vs.length) (hb : bs.length = vs.length) {cn : Cn} {lb : Lb} {H : Hp} (r : RepL cn lb H l vs) :
    RepL cn lb H (sortK ks l) (((bs.zip vs).mergeSort fun x y => leD x.1.1 y.1.1).map (·.2)) := by
  -- pairs of key, item, value
  have tri : ∃ ts : List ((D × D) × ((D × V) × V)), ts.map (·.1) = ks.zip l ∧ ts.map (·.2) = bs.zip vs ∧ ∀ t ∈ ts, t.1.1 = t.2.1.1 ∧ Rep cn lb H t.1.2 t.2.2 := by
    subst e
    clear hb h
    induction bs generalizing l vs with
    | nil => exact ⟨[], by simp, by simp, fun t ht => by cases ht⟩
    | cons c bs ih =>
      cases l with
      | nil =>
        simp only [RepL] at r
        subst r
        exact ⟨[], by simp, by simp, fun t ht => by cases ht⟩
      | cons d l =>
        simp only [RepL] at r
        obtain ⟨v, vs', rfl, r1, r2⟩ := r
        obtain ⟨ts, t1, t2, t3⟩ := ih r2
        refine ⟨((c.1, d), (c, v)) :: ts, by simp [t1], by simp [t2], fun t ht => ?_⟩
        rcases List.mem_cons.mp ht with rfl | ht
        · exact ⟨rfl, r1⟩
        · exact t3 t ht
  obtain ⟨ts, t1, t2, t3⟩ := tri
  unfold sortK
  rw [← t1, ← t2, ← List.map_mergeSort (r := fun x y => leD x.1.1 y.1.1) (s := fun p q : D × D => leD p.1 q.1) (f := fun t : (D × D) × ((D × V) × V) => t.1) (fun _ _ _ _ => rfl),
    ← List.map_mergeSort (r := fun x y => leD x.1.1 y.1.1) (s := fun p q : (D × V) × V => leD p.1.1 q.1.1) (f := fun t : (D × D) × ((D × V) × V) => t.2) (fun p hp q hq => by rw [(t3 p hp).1, (t3 q hq).1]), List.map_map, List.map_map]
  have : ∀ us : List ((D × D) × ((D × V) × V)), (∀ t ∈ us, Rep cn lb H t.1.2 t.2.2) → RepL cn lb H (us.map ((fun x => x.2) ∘ fun t => t.1)) (us.map ((fun x => x.2) ∘ fun t => t.2)) := by
    intro us
    induction us with
    | nil => intro _; exact .nil
    | cons t us ih => intro h; exact .cons (h t List.mem_cons_self) (ih fun t ht => h t (List.mem_cons_of_mem _ ht))
  exact this _ fun t ht => (t3 t (List.mem_mergeSort.mp ht)).2
/-- a lambda as an expression -/
def tLamE (P : Addr) (m : Lm) (cells : List (Str × Addr)) : TE := fun σ H Q => ∃ Z : Addr → Prop, TabZ Z H P m.qual ∧ (∀ a, H a = none → Z a) ∧ ∀ (f c' : Addr) (H1 : Hp), (∀ b o, H b = some o → b ≠ P → H1 b = some o) → (∀ b, H1 b = none → H b = none) → TabZ Z H1 P m.qual → H f = none →
  H1 f = some (LamO f m (cloFrom cells m.scope.names []) c') → Z c' → H1 c' = some (LamX.CodeO c' m.qual) → Q (.ref f) H1
theorem pe_lamE {c P : Addr} {params : Arguments} {body : Expr} {scope : Scope} {pos : Pos} {fr : List Str} (B : LamX.TabB X.base X.mg c P) (hc : X.env.code = .ref c) (hd : defaultsOf params X.env = ([], []))
    (hf : ∀ y ∈ scope.names, y.2 = .free → X.env.scope.names.lookup y.1 = some .cell ∨ X.env.scope.names.lookup y.1 = some .free) :
    PE X (.Lambda params body scope pos) (tLamE P ⟨X.env.qual ++ "<lambda>", params, body, scope, fr⟩ X.env.cells) := by
  refine ⟨fun pins s σ H Q I h => ?_⟩
  obtain ⟨Z, T, hZ, h⟩ := h
  exact lam_new (fr := fr) I B hc T hZ hd (fun y hy e => (hf y hy e).elim (fun z => I.ok.has _ (.inl z)) fun z => I.ok.has _ (.inr z)) fun f c' H1 s' I1 k nn T1 nf hf hz hc' => ⟨.ref f, H1, I1, rfl, h f c' H1 k nn T1 nf hf hz hc'⟩
theorem de_sortK {i j k : Nat} {js : List Nat} {L : List D → Fn} {P : Program} {w : World} {mg : Str → Option Value} {base : Heap} {c Pt : Addr} {params : Arguments} {body : Expr} {scope : Scope} {fr : List Str} {ea : Expr} {a : Opd} {p lpos kpos pos : Pos} (g : Gd n X b)
    (hg : Gl X "sorted") (hm : X.mg "sorted" = none) (ha : DO X b ea a) (LK : LOk b.cn P w mg base k j L) (hk : k + 2 ≤ n) (hP : X.prog = P) (hw : X.w = w) (hmg : X.mg = mg) (hbs : X.base = base)
    (B : LamX.TabB X.base X.mg c Pt) (hc : X.env.code = .ref c) (ht : b.cn.tb[i]? = some (Pt, X.env.qual ++ "<lambda>")) (hlm : b.cn.lm j = ⟨X.env.qual ++ "<lambda>", params, body, scope, fr⟩)
    (hd : defaultsOf params X.env = ([], [])) (hf : ∀ y ∈ scope.names, y.2 = .free → X.env.scope.names.lookup y.1 = some .cell ∨ X.env.scope.names.lookup y.1 = some .free) (hfr : ∀ y ∈ fr, (y, NameKind.free) ∈ scope.names) (hjs : js.map (fun j => X.N[j]?) = fr.map some)
    (na : starEach [ea] X.env = (false, eval ea X.env) :: starEach [] X.env := by rfl) (hks : (backToKw pos (keywordEach [⟨some "key", .Lambda params body scope lpos, kpos⟩] X.env)).filterMap (·.1) = [Str.ofString "key"] := by rfl)
    (he : backTo pos (starEach [ea] X.env) = (false, eval ea X.env) :: backTo pos (starEach [] X.env) := by rfl) (hpl : (backTo pos (starEach [ea] X.env)).any (·.1) = false := by rfl)
    (hall : (backToKw pos (keywordEach [⟨some "key", .Lambda params body scope lpos, kpos⟩] X.env)).all (·.1.isSome) = true := by rfl) (hnone : (backToKw pos (keywordEach [⟨some "key", .Lambda params body scope lpos, kpos⟩] X.env)).any (·.1.isNone) = false := by rfl) :
    DE X b (.Call (.Name "sorted" p) [ea] [⟨some "key", .Lambda params body scope lpos, kpos⟩] pos) (eSortK L js a) := by
  subst hP hw hmg hbs
  refine ⟨fun pins s σ H Q I h => ?_⟩
  obtain ⟨lb, ρ, st, o, h⟩ := h
  unfold eSortK at h
  refine wpAny_Call_Name_kw (ld_blt I hg hm boot_sorted ?_ (by decide) (by decide))
  refine PyProof.Rows.callWith_kw (thn ((pa_cons ha.pe pa_nil na).run pos pins s σ H (fun vs H1 => ∃ v x ρ1 st1 lb1, vs = [v] ∧ Ok b lb1 ρ1 st1 σ H1 ∧ Stands b.cn lb1 σ H1 x v ∧ Post b σ lb1 H1 (match look ρ1 x, capL ρ1 js with
    | some (.lst l), some caps => (match keyGo (L caps) l st1 with
      | some (ks, s') => if sortOk ks then .ok (.lst (sortK ks l)) ρ1 s' else .bad
      | .none => .bad)
    | _, _ => .bad) fun d _ _ lb' H' => Kt false b.cn lb' H' d Q) I ?_) fun us s1 ⟨vs, H1, I1, r1, q1⟩ => ?_) he hpl hall hnone
  · exact tOpd_run o (Post.bind h) fun x ρ1 st1 lb1 H1 v _ o1 q sd => ⟨v, x, ρ1, st1, lb1, rfl, o1, sd, q⟩
  obtain ⟨v, x, ρ1, st1, lb1, rfl, o1, sd, q1⟩ := q1
  cases e1 : look ρ1 x with
  | none => rw [e1] at q1; exact False.elim q1
  | some d =>
    cases d with
    | lst l =>
      cases e2 : capL ρ1 js with
      | none => rw [e1, e2] at q1; exact False.elim q1
      | some caps =>
        cases e3 : keyGo (L caps) l st1 with
        | none => simp only [e1, e2, e3] at q1; exact False.elim q1
        | some r =>
          obtain ⟨KS, sF⟩ := r
          simp only [e1, e2, e3] at q1
          split at q1
          · rename_i hso
            have rb := sd.look o1 e1
            obtain ⟨la, vs, rfl, hla, hz, rl⟩ := rb.lst
            have tz : TabZ (fun a => lb1 a = none) H1 Pt (X.env.qual ++ "<lambda>") := (o1.sto.tabs i _ ht).2
            refine thn ((pk_cons (nm := some "key") (kpos := kpos) (pe_lamE (pos := lpos) (body := body) (fr := fr) B hc hd hf) pk_nil).run pos pins s1 σ H1 (fun zs H2 => ∃ f c', zs = [.ref f] ∧ (∀ b o, H1 b = some o → b ≠ Pt → H2 b = some o) ∧ (∀ b, H2 b = none → H1 b = none) ∧ TabL lb1 H2 Pt (X.env.qual ++ "<lambda>") ∧ H1 f = none ∧
              H2 f = some (LamO f ⟨X.env.qual ++ "<lambda>", params, body, scope, fr⟩ (cloFrom X.env.cells scope.names []) c') ∧ lb1 c' = none ∧ H2 c' = some (LamX.CodeO c' (X.env.qual ++ "<lambda>"))) I1 ⟨_, tz, fun a e => Has.none o1.has e, fun f c' H2 k1 k2 k3 k4 k5 k6 k7 => ⟨f, c', rfl, k1, k2, k3, k4, k5, k6, k7⟩⟩) fun ws s2 ⟨zs, H2, I2, r2, q2⟩ => ?_
            obtain ⟨f, c', rfl, k1, k2, k3, k4, k5, k6, k7⟩ := q2
            rw [hks, Vals.ref1 r1, Vals.ref1 r2]
            obtain ⟨o2, st2⟩ := o1.lam ht k1 k2 k3
            have lf : lb1 f = none := Has.none o1.has k4
            obtain ⟨ws, ew, rc⟩ := capL_rep o2 e2
            have rl2 : RepL b.cn lb1 H2 l vs := rl.stp st2
            have hla2 : H2 la = some (.lst vs) := k1 la _ hla (fun z => by
              obtain ⟨ps, hps, _⟩ := tz
              rw [z, hps] at hla
              cases hla)
            have cps : NdefX.Caps X (cloFrom X.env.cells scope.names []) fr js := NdefX.Caps.made I.ok hf hfr hjs
            have hlm1 : (b.cn.lm j).qual = X.env.qual ++ "<lambda>" := by rw [hlm]
            refine sortK_run I2 (.of hla2) (by have := g.room.un; omega) (KeyJ b lb1 H2 ρ1 σ (L caps) l KS sF) (fun a oA kS nak na nk => ?_) (fun a oA kS i ks H' J => ⟨J.ha, J.hk, J.len⟩) (fun a oA kS i v ks H' s' u hv J I' rv => ?_) (fun a oA kS ks H' na nk nak J => ?_)
            · obtain ⟨oa, sa⟩ := o2.side (CelO a oA) na
              have nk' : L2.upd H2 a (CelO a oA) kS = none := by rw [upd_ne (Ne.symm nak)]; exact nk
              obtain ⟨ok, sk⟩ := oa.side (.lst []) nk'
              exact ⟨⟨_, st1, ok, sa.trans sk, by rw [mrk_ne nak, mrk_same], mrk_same, by rw [List.drop_zero, List.drop_zero]; exact e3, by rw [List.take_zero]; exact .nil⟩, by rw [upd_ne nak, upd_same], upd_same, rfl, na, nk⟩
            · obtain ⟨⟨lb', st', o', st0, la', lk', kg, rk⟩, ja, jk, jl, na, nk⟩ := J
              obtain ⟨d, hd', rd⟩ := (rl2.stp st0).get' hv
              have hil : i < l.length := (List.getElem?_eq_some_iff.mp hd').1
              have edr : l.drop i = d :: l.drop (i + 1) := by
                rw [List.drop_eq_getElem_cons hil]
                congr 1
                exact (List.getElem?_eq_some_iff.mp hd').2
              rw [edr] at kg
              obtain ⟨kd, st'', ks', f1, f2, f3⟩ := keyGo_cons kg
              have hiK : i < KS.length := by
                have : KS.drop i ≠ [] := by rw [f2]; simp
                exact Nat.lt_of_not_le fun z => this (List.drop_eq_nil_of_le z)
              have eks : KS.drop (i + 1) = ks' := by
                have := List.drop_eq_getElem_cons hiK
                rw [f2] at this
                injection this with _ e
                exact e.symm
              have etk : KS.take (i + 1) = KS.take i ++ [kd] := by
                have := List.drop_eq_getElem_cons hiK
                rw [f2] at this
                injection this with e _
                rw [List.take_succ, List.getElem?_eq_getElem hiK, e]
                rfl
              have n0a : ∀ q, H2 q = none → lb' q = some .out → b.lb0 q ≠ some .out ∧ b.H0 q = none := fun q nq lq => by
                have h0 : b.H0 q = none := by
                  cases z : b.H0 q with
                  | none => rfl
                  | some u => exact absurd nq (o2.since.dom q (by rw [z]; simp))
                refine ⟨fun z => ?_, h0⟩
                obtain ⟨u, w, _⟩ := o2.has q _ (o2.since.out q z).1
                rw [nq] at w; cases w
              have nak : a ≠ kS := ne_of ja jk (fun z => by unfold CelO at z; cases z)
              have hf' : H' f = some (LamO f (b.cn.lm j) (cloFrom X.env.cells scope.names []) c') := by rw [hlm]; exact st0.keep f _ k5 lf
              have hc' : H' c' = some (LamX.CodeO c' (b.cn.lm j).qual) := by rw [hlm1]; exact st0.keep c' _ k7 k6
              have cel : NdefX.CellsAt (cloFrom X.env.cells scope.names []) (b.cn.lm j).fr (ws.map some) s'.heap H' := by
                rw [hlm, ← ew]
                exact NdefX.cells_of I' cps
              have rm : Room k X.A.in1.in1 := (g.room.mono hk).in1.in1
              have e0 : Env0 X.prog X.w b.cn.K X.mg X.base X.A.in1.in1 X.stack s' H' := by rw [g.kk]; exact I'.env0.in1.in1
              have out2 : ∀ {lc : Lb} {Hc : Hp}, Stp (rel lb') H' lc Hc → ∀ q, lb' q = some .out → unrel lb' lc q = some .out ∧ Hc q = H' q := fun {lc Hc} sc q lq => by
                have h1 : rel lb' q = some .out := by rw [rel_ne (by rintro i e; rw [lq] at e; cases e)]; exact lq
                rw [unrel_ne (by rintro i e; rw [lq] at e; cases e)]
                exact sc.out q h1
              have run := LK X.A.in1.in1 X.stack s' H' f _ c' [u] [v] ws (fun v' Hc => ∃ lb'', Ok b lb'' ρ1 st'' σ Hc ∧ Stp lb1 H2 lb'' Hc ∧ lb'' a = some .out ∧ lb'' kS = some .out ∧ Hc a = some (CelO a oA) ∧ Hc kS = some (.lst ks) ∧ RepL b.cn lb'' Hc (KS.take i) ks ∧ Rep b.cn lb'' Hc kd v') (fun _ _ _ => False) rm e0 hf' hc' cel (.cons rv .nil)
                ⟨rel lb', st', caps, [d], o'.entry, (rc.stp st0).stq .rel, (RepL.one rd).stq .rel, by
                  rw [f1]
                  intro lc Hc v' sc ec rv'
                  obtain ⟨x1, x2⟩ := out2 sc a la'
                  obtain ⟨x3, x4⟩ := out2 sc kS lk'
                  exact ⟨unrel lb' lc, o'.after sc ec, st0.trans sc.unrel, x1, x3, x2.trans ja, x4.trans jk, rk.stp sc.unrel, rv'.stq (Stq.back sc)⟩⟩
              refine wpAny_call (codeAny_mono run fun r s'' hq => ?_)
              cases r with
              | error e =>
                obtain ⟨_, _, _, _, _, _, _, _, _, _, _, _, z⟩ := hq
                exact z
              | ok fl =>
                cases fl with
                | ret u' =>
                  obtain ⟨v', Hc, Ic, rv', lb'', oC, sC, y1, y2, y3, y4, y5, y6⟩ := I'.after hq
                  obtain ⟨n0, h0⟩ := n0a kS nk lk'
                  obtain ⟨oU, sU⟩ := oC.chgSide (.lst (ks ++ [v'])) y2 n0 h0
                  refine ⟨v', Hc, Ic, rv', y4, ⟨lb'', st'', oU, sC.updNew nk o2.has, y1, y2, by rw [eks]; exact f3, by rw [etk]; exact (y5.append (.one y6)).stq sU⟩, by rw [upd_ne nak]; exact y3, upd_same, by rw [List.length_append, jl]; rfl, na, nk⟩
                | next => exact False.elim hq
                | brk => exact False.elim hq
                | cont => exact False.elim hq
            · obtain ⟨⟨lb', st', o', st0, la', lk', kg, rk⟩, ja, jk, jl, na, nk⟩ := J
              have hll : l.length = vs.length := rl.length
              have hKl : KS.length = l.length := keyGo_len e3
              rw [← hll, List.drop_length] at kg
              have est : st' = sF := by
                have z : some (([] : List D), st') = some (KS.drop l.length, sF) := kg
                injection z with z
                injection z
              subst est
              rw [← hll, ← hKl, List.take_length] at rk
              have rkl := rk.length
              have hko : KS.all (D.dep 62) = true := by
                simp only [sortOk, ordOk, Bool.and_eq_true] at hso
                exact hso.1.1
              refine ⟨KS.zip ks, (zip_snd rk).symm, fun c hc => ?_, by rw [zip_fst rk]; exact hso, ?_⟩
              · rw [← g.kk]
                have hm1 : c.1 ∈ KS := by
                  have : c.1 ∈ (KS.zip ks).map (·.1) := List.mem_map.mpr ⟨c, hc, rfl⟩
                  rw [zip_fst rk] at this
                  exact this
                exact dp_rep (List.all_eq_true.mp hko c.1 hm1) (repL_zip rk c hc)
              · have n0a : ∀ q, H2 q = none → b.lb0 q ≠ some .out ∧ b.H0 q = none := fun q nq => by
                  have h0 : b.H0 q = none := by
                    cases z : b.H0 q with
                    | none => rfl
                    | some u => exact absurd nq (o2.since.dom q (by rw [z]; simp))
                  refine ⟨fun z => ?_, h0⟩
                  obtain ⟨u, w, _⟩ := o2.has q _ (o2.since.out q z).1
                  rw [nq] at w; cases w
                have o3 := o'.gone lk' (n0a kS nk).1 (n0a kS nk).2
                have la3 : unm lb' kS a = some .out := by rw [unm_ne nak]; exact la'
                have o4 := o3.gone la3 (n0a a na).1 (n0a a na).2
                have s3 := st0.goneNew nk o2.has lk'
                have s4 := s3.goneNew na o2.has la3
                have kq : KV b.cn (unm (unm lb' kS) a) (hid (hid H' kS) a) (.lst (sortK KS l)) Q := q1 _ _ (st2.trans s4) o4
                have eH : L2.upd (hid (hid H' kS) a) a (.lst ((((KS.zip ks).zip vs).mergeSort fun x y => leD x.1.1 y.1.1).map (·.2))) = L2.upd (hid H' kS) a (.lst ((((KS.zip ks).zip vs).mergeSort fun x y => leD x.1.1 y.1.1).map (·.2))) := by
                  funext q
                  by_cases hq : q = a
                  · rw [hq, upd_same, upd_same]
                  · rw [upd_ne hq, upd_ne hq, hid_ne hq]
                rw [← eH]
                refine kq (.ref a) _ (Ext.upd hid_same) ?_
                have st5 : Stp (unm (unm lb' kS) a) (hid (hid H' kS) a) (unm (unm lb' kS) a) (L2.upd (hid (hid H' kS) a) a (.lst ((((KS.zip ks).zip vs).mergeSort fun x y => leD x.1.1 y.1.1).map (·.2)))) := o4.stp_ext (Ext.upd hid_same)
                have rl3 := ((rl2.stp s4).stp st5)
                simp only [Rep]
                refine ⟨a, _, rfl, ⟨unm_same, upd_same⟩, ?_, zip_sortK (zip_fst rk) hll (by rw [List.length_zip, ← rkl, Nat.min_self, hKl, hll]) rl3⟩
                unfold sortK
                rw [List.length_map, (List.mergeSort_perm _ _).length_eq, List.length_zip, hKl, Nat.min_self]
                exact hz
          · exact False.elim q1
    | _ => rw [e1] at q1; exact False.elim q1
end
end Pk
/-! Br43: laws with lambdas: the entry, the end, the head's facts. -/
namespace Pk
open PySem PySem.Spec PyProof.Rows L2
/-! ### words of a lambda -/
def lamQ (q : Str) : Str := q ++ ".<locals>." ++ "<lambda>"
def lamArgs : Expr → Arguments
  | .Lambda p _ _ _ => p
  | _ => default
def lamBody : Expr → Expr
  | .Lambda _ b _ _ => b
  | e => e
def lamScope : Expr → Scope
  | .Lambda _ _ s _ => s
  | _ => default
def kwE : Expr → Expr
  | .Call _ _ (⟨_, e, _⟩ :: _) _ => e
  | e => e
def argE (n : Nat) : Expr → Expr
  | .Call _ as _ _ => as.getD n (.Constant .none 0 ⟨0, 0, 0, 0⟩)
  | e => e
def iterE : Expr → Expr
  | .ListComp _ (⟨_, it, _, _⟩ :: _) _ _ => it
  | e => e
def retE : Stmt → Expr
  | .Return (some e) _ => e
  | _ => .Constant .none 0 ⟨0, 0, 0, 0⟩
def lmOf (q : Str) (e : Expr) (fr : List Str) : Lm := ⟨lamQ q, lamArgs e, lamBody e, lamScope e, fr⟩
theorem lam_okM {cn : Cn} {P : Program} {w : World} {mg : Str → Option Value} {base : Heap} {k j p n : Nat} {N ps : List Str} {m : M D} {m0 : Lm} (hl : cn.lm j = m0) (S : NdefX.NScope N ps m0.fr m0.scope) (hp : ps.length = p) (hn : N.length = n)
    (hbind : ∀ (cl : List (Str × Addr)) (pm cv ctv : Value) (us : List Value), us.length = ps.length → bindArgs (PySem.W.kla_fn "<lambda>" m0.qual m0.params m0.body m0.scope cl pm cv ctv) ⟨us, []⟩ = pure (ps.zip us))
    (hb : ∀ (A : Around) (outer : List PySem.Env) (s : Shared) (H : Hp) (E : XK) (f : Addr) (cl : List (Str × Addr)) (c : Addr) (b : Bd), b.cn = cn → Gd k (NdefX.ncx (L2.CX P w) P w cn.K mg base N (nfL m0 cl c) f A outer s H E) b → DE (NdefX.ncx (L2.CX P w) P w cn.K mg base N (nfL m0 cl c) f A outer s H E) b m0.body m) :
    LOk cn P w mg base (k + 1) j (lamFn p n m) := by
  subst hl
  exact lam_ok S hp hn hbind hb
theorem lamF_by {sc scope : Scope} (h : (scope.names.all fun y => !decide (y.2 = .free) || decide (sc.names.lookup y.1 = some .cell) || decide (sc.names.lookup y.1 = some .free)) = true) : ∀ y ∈ scope.names, y.2 = .free → sc.names.lookup y.1 = some .cell ∨ sc.names.lookup y.1 = some .free := fun y hy e => by
  have := List.all_eq_true.mp h y hy
  simp only [Bool.or_eq_true, Bool.not_eq_true', decide_eq_true_eq, decide_eq_false_iff_not] at this
  rcases this with (z | z) | z
  · exact absurd e z
  · exact .inl z
  · exact .inr z
theorem lamR_by {scope : Scope} {fr : List Str} (h : (fr.all fun y => scope.names.any fun p => decide (p.1 = y) && decide (p.2 = .free)) = true) : ∀ y ∈ fr, (y, NameKind.free) ∈ scope.names := fun y hy => by
  have := List.all_eq_true.mp h y hy
  obtain ⟨p, hp, e⟩ := List.any_eq_true.mp this
  simp only [Bool.and_eq_true, decide_eq_true_eq] at e
  have : p = (y, NameKind.free) := Prod.ext e.1 e.2
  rw [← this]
  exact hp
/-! ### the entry -/
def lbT (cn : Cn) : Lb := fun a => (cn.tb.findIdx? fun p => p.1 == a).map .tab
theorem lbT_some {cn : Cn} {a : Addr} {l : Lab} (h : lbT cn a = some l) : ∃ n p, l = .tab n ∧ cn.tb[n]? = some p ∧ p.1 = a := by
  unfold lbT at h
  cases q : cn.tb.findIdx? fun p => p.1 == a with
  | none => rw [q] at h; cases h
  | some n =>
    rw [q] at h
    cases h
    obtain ⟨hlt, h1, _⟩ := List.findIdx?_eq_some_iff_getElem.mp q
    exact ⟨n, cn.tb[n], rfl, List.getElem?_eq_getElem hlt, by simpa using h1⟩
theorem lbT_at {cn : Cn} (nd : (cn.tb.map (·.1)).Nodup) {n : Nat} {p : Addr × Str} (h : cn.tb[n]? = some p) : lbT cn p.1 = some (.tab n) := by
  obtain ⟨hlt, e⟩ := List.getElem?_eq_some_iff.mp h
  unfold lbT
  have : cn.tb.findIdx? (fun q => q.1 == p.1) = some n := by
    rw [List.findIdx?_eq_some_iff_getElem]
    refine ⟨hlt, by rw [e]; simp, fun j hj => ?_⟩
    simp only [beq_iff_eq]
    intro z
    have h1 : (cn.tb.map (·.1))[j]'(by rw [List.length_map]; omega) = (cn.tb.map (·.1))[n]'(by rw [List.length_map]; exact hlt) := by
      simp [z, e]
    exact (List.pairwise_iff_getElem.mp nd) j n (by rw [List.length_map]; omega) (by rw [List.length_map]; exact hlt) hj h1
  rw [this]
  rfl
theorem eok_tabs {cn : Cn} {H : Hp} (nd : (cn.tb.map (·.1)).Nodup) (hT : ∀ p ∈ cn.tb, H p.1 = some (.tbl #[])) : EOk cn (lbT cn) ⟨none, []⟩ H where
  sto := ⟨fun a e => (by obtain ⟨_, _, z, _⟩ := lbT_some e; cases z), fun n fs e => (by simp at e), fun a b l h1 h2 _ => (by
      obtain ⟨n, p, e1, e2, e3⟩ := lbT_some h1
      obtain ⟨m, q, e4, e5, e6⟩ := lbT_some h2
      rw [e1] at e4
      cases e4
      rw [e2] at e5
      cases e5
      rw [← e3, ← e6]), fun a n f e => (by rcases e with e | e | e <;> (obtain ⟨_, _, z, _⟩ := lbT_some e; cases z)), fun n p e => ⟨lbT_at nd e, #[], hT p (List.mem_of_getElem? e), True.intro, fun pos cv z => by
        have z : codeAmong pos [] = some cv := z
        simp [codeAmong] at z⟩⟩
  has := fun a l e => by
    obtain ⟨n, p, _, e2, e3⟩ := lbT_some e
    exact ⟨.tbl #[], by rw [← e3]; exact hT p (List.mem_of_getElem? e2), trivial⟩
  nl := fun a l e => by
    obtain ⟨n, p, e1, _⟩ := lbT_some e
    rw [e1]; rfl
theorem sp_lawT {cn : Cn} {F : Fn} {n : Nat} (nd : (cn.tb.map (·.1)).Nodup) (hn : n ≤ SZ) (hF : ∀ ns : List Int, ns.length ≤ n → ∃ s', F [.scr ns] ⟨none, []⟩ = .ok (.bool true) s') (H : Hp) (hT : ∀ p ∈ cn.tb, H p.1 = some (.tbl #[])) (a : Addr) (ns : List Int) (hl : ns.length ≤ n) (hS : SqL cn.K H a (ns.map V.int)) :
    spOf cn F [.ref a] H (fun v _ => v = .bl true) fun _ _ _ => False := by
  obtain ⟨s', e⟩ := hF ns hl
  refine ⟨lbT cn, ⟨none, []⟩, [.scr ns], eok_tabs nd hT, ?_, ?_⟩
  · refine ⟨_, _, rfl, ?_, rfl⟩
    simp only [Rep]
    refine ⟨a, rfl, hS.elim (fun x => .inl ⟨?_, x⟩) .inr, Nat.le_trans hl hn⟩
    cases q : lbT cn a with
    | none => rfl
    | some l =>
      obtain ⟨m, p, _, e2, e3⟩ := lbT_some q
      have := hT p (List.mem_of_getElem? e2)
      rw [e3] at this
      rcases x with x | ⟨o, x⟩
      · rw [this] at x; cases x
      · rw [this] at x; cases x
  · rw [e]
    intro lb' H' v st eo r
    simpa only [Rep] using r
/-- the end of a law with lambdas -/
theorem law_endT {l : PySem.W.OpenLaw} {n k : Nat} {q : Program} {loose : List Str} {XP : (Str → Option Value) → Heap → Prop} {YP : World → Heap → Prop} {d : DefRec} {x : Str} {Fp : Fn}
    (hn : l.most = some n) (hn2 : n ≤ SZ) (hdf : d.params.defaults = []) (hr : Room k callerA)
    (F : ∀ (w : World) (mg : Str → Option Value) (fa : Addr) (h : Heap), YP w h → h.Ns mainGlobals mg → mg d.name = some (.ref fa) →
      ∃ (cn : Cn) (fd : FuncData) (cs : List (Addr × Addr)), cn.tb.map (·.1) = cs.map (·.2) ∧ (cn.tb.map (·.1)).Nodup ∧ (∀ p ∈ cs, h.get? p.2 = some { cls := .none, data := .fields #[] }) ∧ (∀ p ∈ cs, cn.K.lookup p.2 = none) ∧ (∀ p ∈ cs, PySem.W.CodeHd h p.1 p.2) ∧ cn.K.In h ∧ (∀ (s : Shared) (u : Value), BindsTo s fd ⟨[u], []⟩ [(x, u)]) ∧
        ∀ base : Heap, (∀ p ∈ cs, LamX.TabB base mg p.1 p.2) → FnOk l.prog w cn.K mg base (L2.CX l.prog w) k fa fd [x] (spOf cn Fp))
    (hF : ∀ ns : List Int, ns.length ≤ n → ∃ s', Fp [.scr ns] ⟨none, []⟩ = .ok (.bool true) s') :
    PySem.W.WalkO q loose XP YP l.row.toRowW d [] (fun f vs => PySem.call f vs) := by
  refine Att.attach_call hn hdf fun w s₀ s₁ mg mb fa o pm cd doc a vs ns G Y ho hd hcd hmg hobj hints hlen hg => ?_
  obtain ⟨cn, fd, cs, ec, nd, hT, nT, C, KX, hb, ok⟩ := F w mg fa _ Y G.T.g hmg
  refine LamX.law_callTs (k := k) (sp := spOf cn Fp) (cs := cs) KX G.T.g G.T.b G.T.builtins G.T.nolimit hg hT nT C G.T.bmain hobj hints (Nat.le_trans hlen (Nat.le_trans hn2 (by decide))) hr (fun base _ _ tb => ok base tb) hb (fun H hH hS => sp_lawT nd hn2 hF H (fun p hp => ?_) a ns hlen hS) fun H e s' hc => ?_
  · have : p.1 ∈ cs.map (·.2) := by rw [← ec]; exact List.mem_map.mpr ⟨p, hp, rfl⟩
    obtain ⟨q, hq, eq⟩ := List.mem_map.mp this
    rw [← eq]
    exact hH q hq
  · obtain ⟨_, _, _, _, _, _, _, _, _, _, _, _, z⟩ := hc
    exact z
/-! ### the head's facts, with tables -/
def tabNd (tf : List He.Defn) (K : PySem.W.Frag) : Bool := decide ((tf.map fun p => (He.cT K p).2).Nodup)
def obsY (n : Nat) (fa : List He.Fa) (fn : List He.DefD) (fx : PySem.W.Frag → Bool) (tf : List He.Defn) (g : Addr → Option Obj) : He.AlD × Bool := (obsX fa fn fx (He.frT g (He.asD g n)), He.tabsB g tf (He.frT g (He.asD g n)) && tabNd tf (He.frT g (He.asD g n)))
structure SaysY (fa : List He.Fa) (fn : List He.DefD) (fx : PySem.W.Frag → Bool) (tf : List He.Defn) (h : Heap) (K : PySem.W.Frag) : Prop where
  x : SaysX fa fn fx K
  hd : ∀ p ∈ tf, PySem.W.codeHdIn K (He.cT K p).1 (He.cT K p).2 = true
  out : ∀ p ∈ tf, K.lookup (He.cT K p).2 = none
  empty : ∀ p ∈ tf, h.get? (He.cT K p).2 = some { cls := .none, data := .fields #[] }
  nd : (tf.map fun p => (He.cT K p).2).Nodup
theorem saysY_of {n : Nat} {fa : List He.Fa} {fn : List He.DefD} {fx : PySem.W.Frag → Bool} {tf : List He.Defn} {h : Heap} (e : obsY n fa fn fx tf h.get? = (He.valD fn, true)) : SaysY fa fn fx tf h (He.frT h.get? (He.asD h.get? n)) := by
  have e1 := congrArg (fun z : He.AlD × Bool => z.1) e
  have e2 := congrArg (fun z : He.AlD × Bool => z.2) e
  simp only [obsY] at e1 e2
  obtain ⟨h1, h2⟩ := He.ba e2
  have each : ∀ p ∈ tf, PySem.W.codeHdIn (He.frT h.get? (He.asD h.get? n)) (He.cT (He.frT h.get? (He.asD h.get? n)) p).1 (He.cT (He.frT h.get? (He.asD h.get? n)) p).2 = true ∧ ∃ o, h.get? (He.cT (He.frT h.get? (He.asD h.get? n)) p).2 = some o ∧ He.emptyTab o = true := fun p hp => by
    obtain ⟨a1, a2⟩ := He.ba (List.all_eq_true.mp h1 p hp)
    refine ⟨a1, ?_⟩
    revert a2
    cases h.get? (He.cT (He.frT h.get? (He.asD h.get? n)) p).2 with
    | none => intro z; cases z
    | some o => intro z; exact ⟨o, rfl, z⟩
  refine ⟨e1, fun p hp => (each p hp).1, fun p hp => ?_, fun p hp => ?_, of_decide_eq_true h2⟩
  · obtain ⟨_, o, q, z⟩ := each p hp
    exact He.frT_none q z
  · obtain ⟨_, o, q, z⟩ := each p hp
    rw [q, He.emptyTab_eq z]
def hookY (n : Nat) (fa : List He.Fa) (fn : List He.DefD) (fx : PySem.W.Frag → Bool) (tf : List He.Defn) : PySem.W.Hook where
  α := He.AlD × Bool
  obs := fun s => obsY n fa fn fx tf s.heap.get?
  val := fun _ => (He.valD fn, true)
  says := fun _ h => ∃ K : PySem.W.Frag, K.In h ∧ SaysY fa fn fx tf h K
  of := fun _ _ e => ⟨_, He.frT_in, saysY_of e⟩
  keeps := fun _ _ _ ⟨K, hK, c⟩ k => ⟨K, PySem.W.Frag.In.keeps hK k, ⟨c.x, c.hd, c.out, fun p hp => k _ _ (c.empty p hp), c.nd⟩⟩
theorem obsY_eq {n : Nat} {fa : List He.Fa} {fn : List He.DefD} {fx : PySem.W.Frag → Bool} {tf : List He.Defn} {g : Addr → Option Obj} {s : Shared} (h : ∀ a, g a = s.heap.get? a) : obsY n fa fn fx tf g = (hookY n fa fn fx tf).obs s := by
  have e : g = s.heap.get? := funext h
  rw [e] <;> rfl
theorem code_at {K : PySem.W.Frag} {p : He.Defn} {x qual : Str} {params : Arguments} {body : List Stmt} {scope : Scope} {dvs : List V} {kws : List (Str × V)} {fd : FuncData} (F : FunD K x qual params body scope dvs kws (He.fAd K p) fd) : fd.code = .ref (He.cT K p).1 := by
  obtain ⟨oc, od, dV, kV, doc, pm, an, cdv, ct, osl, rfl, lk, hcd, _, _⟩ := F.ex
  obtain ⟨c, rfl⟩ := He.codeIn_ref hcd
  have e := He.codeOf_eq (c := c) lk rfl
  show (Value.ref c) = .ref (He.codeOf K p)
  rw [e]
end Pk
/-! Pk5: x.index(y). -/
namespace Pk
noncomputable section
def pIdx (x d : D) : Option D := match x with
  | .lst l => if (D.lst l).dep 64 && d.dep 64 then (l.findIdx? fun z => z.eqv d).map fun j => .int ((j : Nat) : Int) else .none
  | _ => .none
def eIdx (i : Nat) (m : M D) : M D := fun r s => match look r (.inr i) with
  | some (.lst _) => (m r s).bind fun d r s => opt ((look r (.inr i)).bind fun x => pIdx x d) r s
  | _ => .bad
end
end Pk
/-! Br44: x.index(y). -/
namespace Pk
open PySem PySem.Spec PyProof.Rows L2
section
variable {X : Cx} {b : Bd} {n : Nat} {cn : Cn}
theorem toPyL_get : ∀ (l : List D) (j : Nat), (toPyL l)[j]? = (l[j]?).map toPy
  | [], j => by simp [toPyL]
  | x :: l, 0 => by simp [toPyL]
  | x :: l, j + 1 => by simp only [toPyL, List.getElem?_cons_succ]; exact toPyL_get l j
theorem de_index {x : Expr} {i : Nat} {e : Expr} {m : M D} {apos cpos : Pos} (g : Gd n X b) (hx : PE X x (tVar i)) (h : DE X b e m) (hbase : attributeBase x "index" X.env (eval x X.env) = eval x X.env := by rfl)
    (hfew : ((backTo cpos (starEach [e] X.env)).all (fun x => !x.1) && (backToKw cpos (keywordEach [] X.env)).all (fun x => x.1.isSome) && decide ([e].length + ([] : List Keyword).length + (if ([] : List Keyword).isEmpty then 0 else 1) < 30)) = true := by rfl)
    (hline : (apos.endLine == cpos.line) = true := by rfl) (hs : starEach [e] X.env = (false, eval e X.env) :: starEach [] X.env := by rfl) :
    DE X b (.Call (.Attribute x "index" apos) [e] [] cpos) (eIdx i m) := by
  have hu : X.A.units + 65 < cLine := by have := g.units; omega
  refine PE.imp (pe_bm PySem.F.plainAttrs_list PySem.F.slot_list_index PySem.F.type_list_index (mt_indexD hu) hx (pa_cons h pa_nil hs) hbase hfew hline hs rfl) fun σ H Q ⟨lb, ρ, s, o, p⟩ => ?_
  unfold eIdx at p
  cases q : look ρ (.inr i) with
  | none => rw [q] at p; exact False.elim p
  | some d =>
    cases d with
    | lst l0 =>
      simp only [q] at p
      obtain ⟨v, e1, r0⟩ := look_slot o q
      obtain ⟨a, vs0, rfl, ea0, _, _⟩ := r0.lst
      refine ⟨.ref a, e1, .inl ⟨rfl, vs0, .of ea0⟩, lb, ρ, s, o, (Post.bind p).mono fun dv ρ1 s1 lb1 H1 st o1 k => fun v H2 ex r => ?_⟩
      have o2 := o1.ext ex
      have k := Post.from k (o1.stp_ext ex)
      obtain ⟨e, ee, k⟩ := opt_post o2 k
      cases q1 : look ρ1 (.inr i) with
      | none => rw [q1] at ee; cases ee
      | some d =>
        rw [q1] at ee
        simp only [Option.bind_some] at ee
        cases d with
        | lst l =>
          simp only [pIdx] at ee
          split at ee
          · rename_i hh
            obtain ⟨h1, h2⟩ := Bool.and_eq_true_iff.mp hh
            cases ej : l.findIdx? (fun z => z.eqv dv) with
            | none => rw [ej] at ee; cases ee
            | some j =>
              rw [ej] at ee
              cases ee
              obtain ⟨hj, hj1, hj2⟩ := List.findIdx?_eq_some_iff_getElem.mp ej
              obtain ⟨v1, e2, r1⟩ := look_slot o2 q1
              rw [e1] at e2
              cases e2
              have dp := dp_repB h1 r1
              have sh := shaped_py h1
              have dq := dp_rep h2 r
              rw [g.kk] at dp dq
              simp only [toPy] at dp sh
              have hd : l.all (D.dep 63) = true := by simpa [D.dep] using h1
              have hdm : ∀ z ∈ l, z.dep 63 = true := fun z hz => List.all_eq_true.mp hd z hz
              refine ⟨a, v, _, _, j, toPy l[j], rfl, rfl, dp, dq, sh, shaped_py h2, by rw [toPyL_get, List.getElem?_eq_getElem hj]; rfl, ?_, fun m z' hm hz => ?_, ?_⟩
              · rw [eqv_py _ _ 63 64 (hdm _ (List.getElem_mem hj)) h2]
                exact hj1
              · rw [toPyL_get, List.getElem?_eq_getElem (by omega)] at hz
                cases hz
                rw [eqv_py _ _ 63 64 (hdm _ (List.getElem_mem (by omega))) h2]
                have := hj2 m hm
                simpa using this
              · exact KV.now (show KV b.cn lb1 H2 _ Q from k) (by simp only [Rep])
          · cases ee
        | _ => cases ee
    | _ => simp only [q] at p; exact False.elim p
end
end Pk
/-! Br45: defs with defaults; calls with a keyword. -/
namespace Pk
open PySem PySem.Spec PyProof.Rows L2
/-- a def with defaults, by what the head told: the last ones fill up -/
theorem fnG_ofD {cn : Cn} {P : Program} {w : World} {mg : Str → Option Value} {base : Heap} {k : Nat} {x y qual : Str} {params : Arguments} {body : List Stmt} {scope : Scope} {dvs : List V} {kws : List (Str × V)} {f : Addr} {fd : FuncData} {ps : List Str} {Fp : Fn} (n j : Nat) (dv : List D)
    (F : FunD cn.K y qual params body scope dvs kws f fd) (ok : FnOk P w cn.K mg base (L2.CX P w) k f fd ps (spOf cn Fp)) (g : mg x = some (.ref f)) (hd : dvs ≠ []) (hn : n + (dvs.length - j) = ps.length) (hr : ∀ lb H, RepL cn lb H dv (dvs.drop j))
    (h : ∀ (T : Addr) (kV doc pm : Value) (an : Option Addr) (cdv ct : Value) (us its : List Value), us.length = n → its.length = dvs.length →
      ∃ k, bindArgs (PySem.W.fnOf y qual params body scope (.ref T) kV doc pm an cdv ct) ⟨us, []⟩ = seqItems? (.ref T) >>= k ∧ k (some its.toArray) = pure (ps.zip (us ++ its.drop j))) :
    FnG cn P w mg base k x Fp dv := by
  obtain ⟨ds, h1, h2⟩ := F.binds1 n j hd hn h
  exact ⟨f, fd, ps, ds, dvs.drop j, ok, g, F.kp, h2, h1, hr⟩
/-- a call with keywords that fill up what is behind the values -/
def FnGK (cn : Cn) (P : Program) (w : World) (mg : Str → Option Value) (base : Heap) (k : Nat) (x : Str) (F : Fn) (n : Nat) (ks : List Str) : Prop :=
  ∃ (f : Addr) (fd : FuncData) (ps : List Str) (g : List Value → List Value → List Value) (gV : List V → List V → List V), FnOk P w cn.K mg base (L2.CX P w) k f fd ps (spOf cn F) ∧ mg x = some (.ref f) ∧ PySem.W.keepIn cn.K (.ref f) = true ∧ KBn cn.K fd ps n ks g gV ∧ ∀ vs zs, gV vs zs = vs ++ zs
theorem Vals.app {vs zs : List V} {us ws : List Value} (h1 : Vals vs us) (h2 : Vals zs ws) : Vals (vs ++ zs) (us ++ ws) := h1.append h2
theorem fnGK_of {cn : Cn} {P : Program} {w : World} {mg : Str → Option Value} {base : Heap} {k : Nat} {x y qual : Str} {params : Arguments} {body : List Stmt} {scope : Scope} {dvs : List V} {kws : List (Str × V)} {f : Addr} {fd : FuncData} {ps : List Str} {Fp : Fn} (n : Nat) (ks : List Str)
    (F : FunD cn.K y qual params body scope dvs kws f fd) (ok : FnOk P w cn.K mg base (L2.CX P w) k f fd ps (spOf cn Fp)) (g : mg x = some (.ref f)) (hd : dvs ≠ [])
    (h : ∀ (T : Addr) (kV doc pm : Value) (an : Option Addr) (cdv ct : Value) (us its ws : List Value), us.length = n → its.length = dvs.length → ws.length = ks.length →
      ∃ k, bindArgs (PySem.W.fnOf y qual params body scope (.ref T) kV doc pm an cdv ct) ⟨us, ks.zip ws⟩ = seqItems? (.ref T) >>= k ∧ k (some its.toArray) = pure (ps.zip (us ++ ws))) :
    FnGK cn P w mg base k x Fp n ks := by
  obtain ⟨its, hb⟩ := F.kbindsD n ks (fun us its ws => us ++ ws) hd (fun h1 _ h3 => h1.append h3) h
  exact ⟨f, fd, ps, _, _, ok, g, F.kp, hb, fun vs zs => rfl⟩
section
variable {X : Cx} {b : Bd} {n : Nat}
def tCallNS (n m : Nat) (sp : Sp) (gV : List V → List V → List V) (E : L2.St → XK) (t tk : TA) : TE := fun σ H Q => t σ H fun vs H1 => tk σ H1 fun zs H2 => vs.length = n ∧ zs.length = m ∧ sp (gV vs zs) H2 Q (E σ)
theorem pe_callNS {CX : CXT} {k n : Nat} {f : Addr} {fd : FuncData} {ps ks : List Str} {sp : Sp} {E : L2.St → XK} {x : Str} {p pos : Pos} {e : Expr} {es : List Expr} {kws : List Keyword} {t tk : TA} {g : List Value → List Value → List Value} {gV : List V → List V → List V}
    (F : FnOk X.prog X.w X.K X.mg X.base CX k f fd ps sp) (hr : Room k X.A) (hg : Gl X x) (hm : X.mg x = some (.ref f)) (hk : PySem.W.keepIn X.K (.ref f) = true) (hb : KBn X.K fd ps n ks g gV) (hx : ∀ σ, PassesAt CX X σ (E σ))
    (ha : PA X (e :: es) t) (hkw : PK X kws tk) (hall : (backToKw pos (keywordEach kws X.env)).all (·.1.isSome) = true := by rfl) (hks : (backToKw pos (keywordEach kws X.env)).filterMap (·.1) = ks := by rfl)
    (hdb : (x == ("__debug__" : Str)) = false := by decide) (he : starEach (e :: es) X.env = (false, eval e X.env) :: starEach es X.env := by rfl)
    (hpl : ((backTo pos (starEach (e :: es) X.env)).any (·.1) || (backToKw pos (keywordEach kws X.env)).any (·.1.isNone)) = false := by rfl) :
    PE X (.Call (.Name x p) (e :: es) kws pos) (tCallNS n ks.length sp gV E t tk) := by
  refine ⟨fun pins s σ H Q I h => wpAny_Call_Name_kw (ld_glob I hg hm (PySem.W.callWith_KW (h₀ := X.base) I.ok.mod.kin hk hall (thn (ha.run pos pins s σ H _ I h) fun us s1 ⟨vs, H1, I1, r, q⟩ => thn (hkw.run pos pins s1 σ H1 _ I1 q) fun ws s2 ⟨zs, H2, I2, rz, l1, l2, q2⟩ => ⟨I2.kIn, ?_⟩) hpl he) hdb)⟩
  rw [hks]
  refine wpAny_call (codeAny_mono (F.run X.A X.stack s2 H2 ⟨us, ks.zip ws⟩ (g us ws) (gV vs zs) Q (E σ) hr I2.env0 (hb.to s2 us ws I2.kIn (r.length.symm.trans l1) (rz.length.symm.trans l2)) (hb.rel r rz) q2) fun r s' hq => ?_)
  match r, hq with
  | .error e, hq => exact hx σ pins H2 s2 e s' I2 hq
  | .ok (.ret u), hq => exact I2.after hq
  | .ok .next, hq => exact False.elim hq
  | .ok .brk, hq => exact False.elim hq
  | .ok .cont, hq => exact False.elim hq
theorem de_callK {k : Nat} {F : Fn} {x nm : Str} {p pos kpos : Pos} {e e2 : Expr} {m m2 : M D} {P : Program} {w : World} {mg : Str → Option Value} {base : Heap} (g : Gd n X b) (G : FnGK b.cn P w mg base k x F 1 [nm]) (hk : k ≤ n) (hP : X.prog = P) (hw : X.w = w) (hm : X.mg = mg) (hb : X.base = base)
    (hg : Gl X x) (h1 : DE X b e m) (h2 : DE X b e2 m2) (hdb : (x == ("__debug__" : Str)) = false := by decide) (he : starEach [e] X.env = (false, eval e X.env) :: starEach [] X.env := by rfl)
    (hall : (backToKw pos (keywordEach [⟨some nm, e2, kpos⟩] X.env)).all (·.1.isSome) = true := by rfl) (hks : (backToKw pos (keywordEach [⟨some nm, e2, kpos⟩] X.env)).filterMap (·.1) = [nm] := by rfl)
    (hpl : ((backTo pos (starEach [e] X.env)).any (·.1) || (backToKw pos (keywordEach [⟨some nm, e2, kpos⟩] X.env)).any (·.1.isNone)) = false := by rfl) :
    DE X b (.Call (.Name x p) [e] [⟨some nm, e2, kpos⟩] pos) (eCall F [m, m2] []) := by
  subst hP hw hm hb
  obtain ⟨f, fd, ps, gg, gV, F1, F2, F3, F4, F5⟩ := G
  rw [g.kk] at F1 F3 F4
  refine PE.imp (pe_callNS (E := WE b.W) F1 (g.room.mono hk) hg F2 F3 F4 (fun σ => passAt g.tk σ) (pa_cons h1 pa_nil he) (pk_cons h2 pk_nil) hall hks hdb he hpl) fun σ H Q ⟨lb, ρ, s, o, p⟩ => ?_
  have p : Post b σ lb H (((m ρ s).bind fun d r s => ((m2 r s).bind fun d2 r s => .ok [d2] r s).bind fun ds r s => .ok (d :: ds) r s).bind fun ds r s => (F (ds ++ []) s).at r) _ := p
  refine ⟨lb, ρ, s, o, (Post.bind (Post.bind p)).mono fun d ρ1 s1 lb1 H1 st o1 q => fun v H2 ex r => ?_⟩
  have q := Post.from q (o1.stp_ext ex)
  refine ⟨lb1, ρ1, s1, o1.ext ex, (Post.bind (Post.bind q)).mono fun d2 ρ2 s2 lb2 H3 st2 o2 q2 => fun v2 H4 ex4 r2 => ⟨rfl, rfl, ?_⟩⟩
  rw [F5]
  have o4 := o2.ext ex4
  have q3 := q2 lb2 H4 (o2.stp_ext ex4) o4 lb2 H4 .refl o4
  have rl : RepL b.cn lb2 H4 [d, d2] [v, v2] := .cons (r.stp (st2.trans (o2.stp_ext ex4))) (.one r2)
  exact call_run o4 rl q3
end
end Pk
/-! Pk6: a call of a lambda that a slot holds. -/
namespace Pk
noncomputable section
def eCallC (Lt : List (Nat × (List D → Fn))) (i : Nat) (ms : List (M D)) : M D := fun r s => match r[i]? with
  | some (.sh (.clo k caps)) => (match Lt.lookup k with
    | some L => (eL ms r s).bind fun ds r s => if lim (s.o = []) && ds.all (D.dep 60) && caps.all (D.dep 60) then (match L caps ds s with
      | .ok d s => .ok d r s
      | _ => .bad) else .bad
    | .none => .bad)
  | _ => .bad
/-- a def that hands back a lambda, which captures parameters -/
def capD (ds : List D) : List Nat → Option (List D)
  | [] => some []
  | j :: js => match ds[j]? with
    | some d => (capD ds js).map (d :: ·)
    | .none => .none
def lamRet (p k : Nat) (js : List Nat) : Fn := fun ds s => if ds.length = p then (match capD ds js with
  | some caps => .ok (.clo k caps) s
  | .none => .bad) else .bad
/-- a call of a def whose last argument is a lambda -/
def eCallL (F : Fn) (k : Nat) (js : List Nat) (ms : List (M D)) : M D := fun r s => (eL ms r s).bind fun ds r s => match capL r js with
  | some caps => (match F (ds ++ [.clo k caps]) s with
    | .ok d s' => if d.dep 60 && lim (s'.o = []) then .ok d r s' else .bad
    | _ => .bad)
  | .none => .bad
/-- d.get(k) -/
def eGetD1 (i : Nat) (mk : M D) : M D := fun r s => match look r (.inr i) with
  | some (.dct ks _) => if ks.all isTK then (eL [mk] r s).bind fun xs r s => (match xs with
    | [k] => opt ((look r (.inr i)).bind fun d => pGetD d k .none) r s
    | _ => .bad) else .bad
  | _ => .bad
/-- x, y, z = a, b, c: c a constant -/
def sPar3b (f1 f2 : Bool) (i j l : Nat) (m1 m2 : M D) (d : D) : S := sSeq (sPar f1 f2 i j m1 m2) (sSet false l (eC d))
end
end Pk
/-! Br46: a call of a lambda that a slot holds: the captured cells are hidden while it runs. -/
namespace Pk
open PySem PySem.Spec PyProof.Rows L2
section
variable {P : Program} {w : World}
open Classical in
noncomputable def cut (Z : Addr → Prop) (H : Hp) : Hp := fun a => if Z a then none else H a
open Classical in
noncomputable def put (Z : Addr → Prop) (H H' : Hp) : Hp := fun a => if Z a then H a else H' a
theorem cut_in {Z : Addr → Prop} {H : Hp} {a : Addr} (h : Z a) : cut Z H a = none := by unfold cut; rw [if_pos h]
theorem cut_out {Z : Addr → Prop} {H : Hp} {a : Addr} (h : ¬ Z a) : cut Z H a = H a := by unfold cut; rw [if_neg h]
theorem put_in {Z : Addr → Prop} {H H' : Hp} {a : Addr} (h : Z a) : put Z H H' a = H a := by unfold put; rw [if_pos h]
theorem put_out {Z : Addr → Prop} {H H' : Hp} {a : Addr} (h : ¬ Z a) : put Z H H' a = H' a := by unfold put; rw [if_neg h]
theorem cut_some {Z : Addr → Prop} {H : Hp} {a : Addr} {o : HO} (h : cut Z H a = some o) : ¬ Z a ∧ H a = some o := by
  by_cases z : Z a
  · rw [cut_in z] at h; cases h
  · rw [cut_out z] at h; exact ⟨z, h⟩
/-- the hidden things are cells -/
def CellsZ (Z : Addr → Prop) (lb : Lb) (H : Hp) (h : Heap) : Prop := ∀ a, Z a → lb a = none ∧ ∃ o, H a = some (CelO a o) ∧ h.get? a = some o ∧ ∃ u, o.data = .cell (some u)
theorem objOk_cut {Z : Addr → Prop} {lb : Lb} {H : Hp} {h : Heap} (C : CellsZ Z lb H h) {a : Addr} : ∀ {o : HO}, ObjOk P w H h a o → ObjOk P w (cut Z H) h a o
  | .lst _, x => x
  | .tup _, x => x
  | .dK _, x => x
  | .dT kvs, x => by
    obtain ⟨h1, h2, xs, pr, h3⟩ := x
    refine ⟨h1, h2, xs, ?_, h3⟩
    refine L2.Paired.mapP pr fun p q ⟨e1, e2, e3⟩ => ⟨e1, ?_, e3⟩
    rw [cut_out fun z => ?_]
    · exact e2
    · obtain ⟨_, o, e, _⟩ := C _ z
      rw [e2] at e
      unfold CelO at e
      cases e
  | .set _ _, x => x
  | .ins _ dx _, x => by
    obtain ⟨h1, h2⟩ := x
    refine ⟨?_, h2⟩
    rw [cut_out fun z => ?_]
    · exact h1
    · obtain ⟨_, o, e, _⟩ := C _ z
      rw [h1] at e
      unfold CelO at e
      cases e
  | .own _, x => x
  | .xd _, x => x
  | .rng _ _, x => x
  | .frz _ u, x => ⟨x.1, objOk_cut C x.2⟩
  | .tbl _, x => x
  | .met _ _, x => x
  | .ext _, x => x
theorem objOk_grow {H H' : Hp} {h : Heap} (E : Ext H H') {a : Addr} : ∀ {o : HO}, ObjOk P w H h a o → ObjOk P w H' h a o
  | .lst _, x => x
  | .tup _, x => x
  | .dK _, x => x
  | .dT kvs, x => by
    obtain ⟨h1, h2, xs, pr, h3⟩ := x
    exact ⟨h1, h2, xs, L2.Paired.mapP pr fun p q ⟨e1, e2, e3⟩ => ⟨e1, E _ _ e2, e3⟩, h3⟩
  | .set _ _, x => x
  | .ins _ dx _, x => ⟨E _ _ x.1, x.2⟩
  | .own _, x => x
  | .xd _, x => x
  | .rng _ _, x => x
  | .frz _ u, x => ⟨x.1, objOk_grow E x.2⟩
  | .tbl _, x => x
  | .met _ _, x => x
  | .ext _, x => x
theorem celO_ok {a : Addr} {o : Obj} {h : Heap} {H : Hp} (e : h.get? a = some o) : ObjOk P w H h a (CelO a o) := ⟨e, ⟨o, e⟩, fun h1 h2 q st => st o q⟩
/-- a call's end, the cells told again -/
theorem ce_put {Z : Addr → Prop} {lb : Lb} {outer : List PySem.Env} {H : Hp} {s s' : Shared} {Q : VK} {u : Value} (C : CellsZ Z lb H s.heap) (fr : ∀ b ∈ frs outer, H b = none)
    (h : CE outer P w (cut Z H) s (fun v H' => (∀ a, Z a → H' a = none) → Q v (put Z H H')) u s') : CE outer P w H s Q u s' := by
  obtain ⟨v, H', os, ag, un, ok, r, q⟩ := h
  have nz : ∀ a, Z a → H' a = none := fun a z => by
    obtain ⟨_, o, _, e, _⟩ := C a z
    exact un.free a o e (cut_in z) (by simp)
  have nx : ∀ {b : Addr} {o : HO}, H b = some o → (∀ φ, o ≠ .ext φ) → ¬ Z b := fun e ne z => by
    obtain ⟨_, o, e2, _⟩ := C _ z
    rw [e] at e2
    exact ne _ (Option.some.inj e2)
  refine ⟨v, put Z H H', os, ag, ⟨fun b o e n hf hx => ?_, fun b o e n hf hx => ?_, fun b o e n hx => ?_, un.there, fun b xs e => ?_, fun b o u e => ?_, fun b ps e => ?_⟩, fun a o e => ?_, r, q nz⟩
  · refine un.keep b o e ?_ hf hx
    by_cases z : Z b
    · exact cut_in z
    · rw [cut_out z]; exact n
  · refine un.slot b o e ?_ hf hx
    by_cases z : Z b
    · exact cut_in z
    · rw [cut_out z]; exact n
  · by_cases z : Z b
    · rw [put_in z]; exact n
    · rw [put_out z]
      exact un.free b o e (by rw [cut_out z]; exact n) hx
  · have z := nx e (fun _ k => nomatch k)
    rw [put_out z]
    exact un.tups b xs (by rw [cut_out z]; exact e)
  · have z := nx e (fun _ k => nomatch k)
    rw [put_out z]
    exact un.frzs b o u (by rw [cut_out z]; exact e)
  · have z := nx e (fun _ k => nomatch k)
    rw [put_out z]
    exact un.tbls b ps (by rw [cut_out z]; exact e)
  · by_cases z : Z a
    · obtain ⟨_, o2, e2, e3, _⟩ := C a z
      rw [put_in z, e2] at e
      cases e
      refine celO_ok (un.keep a o2 e3 (cut_in z) (fun hf => ?_) (by simp))
      rw [fr a hf] at e2
      cases e2
    · rw [put_out z] at e
      refine objOk_grow (H := H') (fun b o2 e2 => ?_) (ok a o e)
      by_cases zb : Z b
      · rw [nz b zb] at e2; cases e2
      · rw [put_out zb]; exact e2
theorem env0_cut {Z : Addr → Prop} {lb : Lb} {K : PySem.W.Frag} {mg : Str → Option Value} {base : Heap} {A : Around} {outer : List PySem.Env} {s : Shared} {H : Hp} (C : CellsZ Z lb H s.heap) (e : Env0 P w K mg base A outer s H) : Env0 P w K mg base A outer s (cut Z H) := by
  have none_cut : ∀ {b : Addr}, H b = none → cut Z H b = none := fun {b} n => by
    by_cases z : Z b
    · exact cut_in z
    · rw [cut_out z]; exact n
  exact ⟨e.frames, e.mod, fun b o q => ⟨(e.bs b o q).1, none_cut (e.bs b o q).2⟩, e.bsz, e.funs, fun b q => none_cut (e.frf b q), fun a o q => objOk_cut C (e.hok a o (cut_some q).2), e.bare⟩
end
section
variable {cn : Cn} {Z : Addr → Prop} {lb : Lb} {H : Hp} {h : Heap}
theorem not_cell {a : Addr} {φ : Heap → Prop} (C : CellsZ Z lb H h) (e : H a = some (.ext φ)) (ne : ∀ o u, h.get? a = some o → o.data = .cell (some u) → ¬ φ h) : ¬ Z a := fun z => by
  obtain ⟨_, o, e2, e3, u, e4⟩ := C a z
  rw [e] at e2
  unfold CelO at e2
  have e5 : φ = fun h => h.get? a = some o := by
    have := Option.some.inj e2
    injection this
  refine ne o u e3 e4 ?_
  rw [e5]
  exact e3
theorem lam_not {a c : Addr} {m : Lm} {cl : List (Str × Addr)} (C : CellsZ Z lb H h) (e : H a = some (LamO a m cl c)) : ¬ Z a := not_cell C e fun o u q d ⟨pm, ctv, q2⟩ => by
  rw [q] at q2
  cases q2
  cases d
theorem code_not {a : Addr} {q : Str} (C : CellsZ Z lb H h) (e : H a = some (LamX.CodeO a q)) : ¬ Z a := not_cell C e fun o u q d ⟨oc, vs, t, q2, q3, _⟩ => by
  rw [q] at q2
  cases q2
  rw [d] at q3
  cases q3
mutual
theorem rep_hide (C : CellsZ Z lb H h) : ∀ {x : D} {v : V} {n : Nat}, x.dep n = true → Rep cn lb H x v → Rep cn lb (cut Z H) x v
  | .none, v, n, hd, r => by simp only [Rep] at r ⊢; exact r
  | .bool b, v, n, hd, r => by simp only [Rep] at r ⊢; exact r
  | .int b, v, n, hd, r => by simp only [Rep] at r ⊢; exact r
  | .str b, v, n, hd, r => by simp only [Rep] at r ⊢; exact r
  | .lst l, v, 0, hd, r => by simp [D.dep] at hd
  | .tup l, v, 0, hd, r => by simp [D.dep] at hd
  | .lst l, v, n + 1, hd, r => by
    simp only [D.dep] at hd
    simp only [Rep] at r ⊢
    obtain ⟨a, vs, rfl, nl, z, rl⟩ := r
    refine ⟨a, vs, rfl, ⟨nl.1, ?_⟩, z, repL_hide C hd rl⟩
    rw [cut_out fun za => ?_]
    · exact nl.2
    · obtain ⟨_, o, e, _⟩ := C a za
      rw [nl.2] at e
      unfold CelO at e
      cases e
  | .tup l, v, n + 1, hd, r => by
    simp only [D.dep] at hd
    simp only [Rep] at r ⊢
    obtain ⟨a, vs, rfl, nl, z, rl⟩ := r
    refine ⟨a, vs, rfl, ⟨nl.1, ?_⟩, z, repL_hide C hd rl⟩
    rw [cut_out fun za => ?_]
    · exact nl.2
    · obtain ⟨_, o, e, _⟩ := C a za
      rw [nl.2] at e
      unfold CelO at e
      cases e
  | .dct _ _, v, n, hd, r => by cases n <;> simp [D.dep] at hd
  | .fn _, v, n, hd, r => by cases n <;> simp [D.dep] at hd
  | .clo _ _, v, n, hd, r => by cases n <;> simp [D.dep] at hd
  | .town, v, n, hd, r => by cases n <;> simp [D.dep] at hd
  | .obj _, v, n, hd, r => by cases n <;> simp [D.dep] at hd
  | .scr _, v, n, hd, r => by cases n <;> simp [D.dep] at hd
theorem repL_hide (C : CellsZ Z lb H h) : ∀ {l : List D} {vs : List V} {n : Nat}, l.all (D.dep n) = true → RepL cn lb H l vs → RepL cn lb (cut Z H) l vs
  | [], vs, n, hd, r => by simp only [RepL] at r ⊢; exact r
  | x :: l, vs, n, hd, r => by
    simp only [List.all_cons, Bool.and_eq_true] at hd
    simp only [RepL] at r ⊢
    obtain ⟨v, r', rfl, r1, r2⟩ := r
    exact ⟨v, r', rfl, rep_hide C hd.1 r1, repL_hide C hd.2 r2⟩
end
theorem eok_cut {s : Sto} (C : CellsZ Z lb H h) (e : EOk cn lb s H) (hs : s.o = []) : EOk cn lb s (cut Z H) := by
  have nz : ∀ {a : Addr} {l : Lab}, lb a = some l → ¬ Z a := fun q z => by
    have := (C _ z).1
    rw [q] at this
    cases this
  refine ⟨⟨fun a q => ?_, fun m fs q => ?_, e.sto.uniq, e.sto.dom, fun m p q => ?_⟩, fun a l q => ?_, e.nl⟩
  · rw [cut_out (nz q)]; exact e.sto.town a q
  · rw [hs] at q; simp at q
  · obtain ⟨h1, ps, h2, h3, h4⟩ := e.sto.tabs m p q
    refine ⟨h1, ps, by rw [cut_out (nz h1)]; exact h2, h3, fun pos cv k => ?_⟩
    obtain ⟨c, c1, c2, c3⟩ := h4 pos cv k
    exact ⟨c, c1, c2, by rw [cut_out (code_not C c3)]; exact c3⟩
  · rw [cut_out (nz q)]; exact e.has a l q
theorem put_ext {H' : Hp} (nz : ∀ a, Z a → H' a = none) : Ext H' (put Z H H') := fun a o e => by
  by_cases z : Z a
  · rw [nz a z] at e; cases e
  · rw [put_out z]; exact e
theorem eok_put {s : Sto} {H' : Hp} (nz : ∀ a, Z a → H' a = none) (e : EOk cn lb s H') : EOk cn lb s (put Z H H') := by
  have nb : ∀ {a : Addr} {l : Lab}, lb a = some l → ¬ Z a := fun q z => by
    obtain ⟨u, hu, _⟩ := e.has _ _ q
    rw [nz _ z] at hu
    cases hu
  refine ⟨e.sto.stp (Stp.of_ext (put_ext nz) e.has).q (fun a l q _ => put_out (nb q)) (fun _ _ q _ => q), fun a l q => ?_, e.nl⟩
  rw [put_out (nb q)]
  exact e.has a l q
theorem stp_put {lb' : Lb} {H' : Hp} {s' : Sto} (C : CellsZ Z lb H h) (nz : ∀ a, Z a → H' a = none) (e : EOk cn lb' s' H') (st : Stp lb (cut Z H) lb' H') : Stp lb H lb' (put Z H H') where
  keep := fun a o q n => by
    by_cases z : Z a
    · rw [put_in z]; exact q
    · rw [put_out z]; exact st.keep a o (by rw [cut_out z]; exact q) n
  out := fun a q => by
    have z : ¬ Z a := fun z => by
      have := (C a z).1
      rw [q] at this
      cases this
    have := st.out a q
    rw [put_out z, this.2, cut_out z]
    exact ⟨this.1, rfl⟩
  new := fun a q => by
    have z : ¬ Z a := fun z => by
      cases k : lb' a with
      | none => exact q k
      | some l =>
        obtain ⟨u, hu, _⟩ := e.has a l k
        rw [nz a z] at hu
        cases hu
    have := st.new a q
    rw [cut_out z] at this
    exact this
  sto := st.sto
  dom := fun a q => by
    by_cases z : Z a
    · rw [put_in z]; exact q
    · rw [put_out z]; exact st.dom a (by rw [cut_out z]; exact q)
end
/-- the lambdas that may come as values -/
def LTab (cn : Cn) (P : Program) (w : World) (mg : Str → Option Value) (base : Heap) (n : Nat) (Lt : List (Nat × (List D → Fn))) : Prop := ∀ (j : Nat) (L : List D → Fn), Lt.lookup j = some L → ∃ k, k ≤ n ∧ LOk cn P w mg base k j L
theorem LTab.nil {cn : Cn} {P : Program} {w : World} {mg : Str → Option Value} {base : Heap} {n : Nat} : LTab cn P w mg base n [] := fun j F h => by cases h
theorem LTab.cons {cn : Cn} {P : Program} {w : World} {mg : Str → Option Value} {base : Heap} {n k j : Nat} {L : List D → Fn} {Lt : List (Nat × (List D → Fn))} (h : LOk cn P w mg base k j L) (hk : k ≤ n) (t : LTab cn P w mg base n Lt) : LTab cn P w mg base n ((j, L) :: Lt) := fun i M e => by
  rw [List.lookup_cons] at e
  split at e
  · rename_i q
    cases e
    have : i = j := by simpa using q
    subst this
    exact ⟨k, hk, h⟩
  · exact t i M e
section
variable {X : Cx} {b : Bd} {n : Nat}
theorem de_callC {i m : Nat} {Lt : List (Nat × (List D → Fn))} {x : Str} {p pos : Pos} {e : Expr} {es : List Expr} {ms : List (M D)} {P : Program} {w : World} {mg : Str → Option Value} {base : Heap} (g : Gd n X b) (V : LTab b.cn P w mg base m Lt) (hk : m ≤ n) (hP : X.prog = P) (hw : X.w = w) (hm : X.mg = mg) (hb : X.base = base)
    (hN : X.N[i]? = some x) (hv : Vis X.env.scope x) (ha : DA X b (e :: es) ms) (hdb : (x == ("__debug__" : Str)) = false := by decide) (hcd : (x == ("__classdict__" : Str)) = false := by decide) (he : starEach (e :: es) X.env = (false, eval e X.env) :: starEach es X.env := by rfl) (hpl : (backTo pos (starEach es X.env)).any (·.1) = false := by rfl) :
    DE X b (.Call (.Name x p) (e :: es) [] pos) (eCallC Lt i ms) := by
  subst hP hw hm hb
  refine ⟨fun pins s σ H Q I h => ?_⟩
  obtain ⟨lb, ρ, t, o, h⟩ := h
  unfold eCallC at h
  cases q : ρ[i]? with
  | none => rw [q] at h; exact False.elim h
  | some z =>
    cases z with
    | sh d =>
      cases d with
      | clo j caps =>
        simp only [q] at h
        cases ql : Lt.lookup j with
        | none => simp only [ql] at h; exact False.elim h
        | some L =>
          simp only [ql] at h
          obtain ⟨k, hkm, LO⟩ := V j L ql
          obtain ⟨v, e1, r⟩ := o.sh i _ q
          simp only [Rep] at r
          obtain ⟨f, cl, c, ws, rfl, ⟨lf, hf⟩, ⟨lc, hc⟩, cr, rc⟩ := r
          have fnA : ∀ {H' : Hp} {s' : Shared}, Inv X pins σ H' s' → H' f = some (LamO f (b.cn.lm j) cl c) → PySem.W.FnAt f s'.heap := fun I' hf' => by
            obtain ⟨⟨pm, ctv, ho⟩, _⟩ := I'.hok f _ hf'
            exact ⟨_, _, _, _, ho⟩
          refine wpAny_Call_Name_kw (thn ((pe_var (pos := p) hN hv hdb hcd).run pins s σ H (fun v H1 => v = .ref f ∧ H1 = H) I ⟨.ref f, e1, rfl, rfl⟩) fun u s1 ⟨v, H1, I1, r1, q1⟩ => ?_)
          obtain ⟨rfl, rfl⟩ := q1
          obtain rfl : u = Value.ref f := r1
          refine PySem.W.callWith_F (first := []) (fnA I1 hf) (thn (ha.run pos pins s1 σ _ (fun vs H2 => ∃ lb1 ρ1 t1 ds, Ok b lb1 ρ1 t1 σ H2 ∧ Stp lb H1 lb1 H2 ∧ RepL b.cn lb1 H2 ds vs ∧ Post b σ lb1 H2 (if lim (t1.o = []) && ds.all (D.dep 60) && caps.all (D.dep 60) then (match L caps ds t1 with | .ok d s => .ok d ρ1 s | _ => .bad) else .bad) fun d _ _ lb' H' => Kt false b.cn lb' H' d Q) I1
            ⟨lb, ρ, t, o, (Post.bind h).mono fun ds ρ1 s1 lb1 H2 st o1 q1 => fun vs H3 ex r => ⟨lb1, ρ1, s1, ds, o1.ext ex, st.trans (o1.stp_ext ex), r, Post.from q1 (o1.stp_ext ex)⟩⟩) fun us s2 ⟨vs, H2, I2, r, lb1, ρ1, t1, ds, o2, st, rd, post⟩ => ⟨fnA I2 (st.keep f _ hf lf), ?_⟩) he hpl
          show wpAny _ _ (call (.ref f) us) _ _ _
          have hf2 := st.keep f _ hf lf
          have hc2 := st.keep c _ hc lc
          have cr2 := cr.stq st.q
          have rc2 := rc.stp st
          split at post
          · rename_i hcond
            simp only [Bool.and_eq_true] at hcond
            obtain ⟨⟨d1, d2⟩, d3⟩ := hcond
            have d1 := lim_iff.mp d1
            cases eL : L caps ds t1 with
            | exc x s' => simp only [eL] at post; exact False.elim post
            | bad => simp only [eL] at post; exact False.elim post
            | ok dd t2 =>
              simp only [eL] at post
              obtain ⟨Z, hZ⟩ : ∃ Z : Addr → Prop, Z = fun a => ∃ y, cl.lookup y = some a := ⟨_, rfl⟩
              have C0 : CellsZ Z lb1 H2 s2.heap := fun a za => by
                rw [hZ] at za
                obtain ⟨y, hy⟩ := za
                obtain ⟨i', hi', ei'⟩ := List.getElem_of_mem (cr2.sub y a hy)
                obtain ⟨c', o', u', v', k1, k2, k3, k4, _⟩ := cr2.at_ i' y (by rw [List.getElem?_eq_getElem hi', ei'])
                rw [hy] at k1
                cases k1
                exact ⟨k2, o', k3, (I2.hok a _ k3).1, u', k4⟩
              have C : CellsZ Z (rel lb1) H2 s2.heap := fun a za => ⟨rel_none.mpr (C0 a za).1, (C0 a za).2⟩
              have ca : NdefX.CellsAt cl (b.cn.lm j).fr (ws.map some) s2.heap (cut Z H2) := by
                refine ⟨by rw [List.length_map]; exact cr2.len, fun y a hy => ?_, cr2.inj, fun i' y hy => ?_⟩
                · have za : Z a := by rw [hZ]; exact ⟨y, hy⟩
                  obtain ⟨_, o', _, k3, u', k4⟩ := C0 a za
                  exact ⟨cut_in za, some u', o', k3, k4⟩
                · obtain ⟨c', o', u', v', k1, k2, k3, k4, k5, k6⟩ := cr2.at_ i' y hy
                  refine ⟨c', k1, fun v hv => ?_⟩
                  rw [List.getElem?_map, k5] at hv
                  cases hv
                  exact ⟨u', k6, o', (I2.hok c' _ k3).1, k4⟩
              have env := env0_cut C0 I2.env0
              rw [← g.kk] at env
              have sp : spL b.cn L ws vs (cut Z H2) (fun v H' => (∀ a, Z a → H' a = none) → Q v (put Z H2 H')) (fun _ _ _ => False) := by
                refine ⟨rel lb1, t1, caps, ds, eok_cut C o2.entry d1, repL_hide C d3 (rc2.stq .rel), repL_hide C d2 (rd.stq .rel), ?_⟩
                rw [eL]
                intro lb' H' v st' e' rv nz
                have st2 := stp_put C nz e' st'
                have e2 := eok_put (H := H2) nz e'
                have rv2 : Rep b.cn lb' (put Z H2 H') dd v := rv.stp (Stp.of_ext (put_ext nz) e'.has)
                exact KV.now (show KV b.cn (unrel lb1 lb') (put Z H2 H') dd Q from post _ _ st2.unrel (o2.after st2 e2)) (rv2.stq (Stq.back st2))
              refine wpAny_call (codeAny_mono (LO X.A X.stack s2 (cut Z H2) f cl c us vs ws _ _ (g.room.mono (Nat.le_trans hkm hk)) env (by rw [cut_out (lam_not C0 hf2)]; exact hf2) (by rw [cut_out (code_not C0 hc2)]; exact hc2) ca r sp) fun rr s' hq => ?_)
              match rr, hq with
              | .error e, hq => 
                obtain ⟨_, _, _, _, _, _, _, _, _, _, _, _, hE⟩ := hq
                exact False.elim hE
              | .ok (.ret u), hq => exact I2.after (ce_put C0 (I2.env0).frf hq)
              | .ok .next, hq => exact False.elim hq
              | .ok .brk, hq => exact False.elim hq
              | .ok .cont, hq => exact False.elim hq
          · exact False.elim post
      | _ => simp only [q] at h; exact False.elim h
    | _ => simp only [q] at h; exact False.elim h
end
end Pk
/-! Br47: a def that hands back a lambda: its cells are told when the call ends. -/
namespace Pk
open PySem PySem.Spec PyProof.Rows L2
/-- the cells are told -/
noncomputable def tellC (Z : Addr → Prop) (h : Heap) (H : Hp) : Hp := put Z (fun a => (h.get? a).map (CelO a)) H
theorem ce_tell {P : Program} {w : World} {Z : Addr → Prop} {outer : List PySem.Env} {H H1 : Hp} {s s' : Shared} {Q : VK} {v : V} {u : Value} (os : s'.os = s.os) (ag : AllBare s'.gens) (un : Un (frs outer) [] H H1 s.heap s'.heap) (ok : HOk P w H1 s'.heap) (r : RelV v u)
    (hz : ∀ a, Z a → H1 a = none ∧ s.heap.get? a = none ∧ ∃ o, s'.heap.get? a = some o) (q : Q v (tellC Z s'.heap H1)) : CE outer P w H s Q u s' := by
  have ex : Ext H1 (tellC Z s'.heap H1) := put_ext fun a z => (hz a z).1
  refine ⟨v, tellC Z s'.heap H1, os, ag, ⟨un.keep, un.slot, fun b o e n hx => ?_, un.there, fun b xs e => ex _ _ (un.tups b xs e), fun b o u e => ex _ _ (un.frzs b o u e), fun b ps e => ?_⟩, fun a o e => ?_, r, q⟩
  · have z : ¬ Z b := fun z => by
      have := (hz b z).2.1
      rw [e] at this
      cases this
    rw [tellC, put_out z]
    exact un.free b o e n hx
  · obtain ⟨more, h1⟩ := un.tbls b ps e
    exact ⟨more, ex _ _ h1⟩
  · by_cases z : Z a
    · obtain ⟨_, _, o2, e2⟩ := hz a z
      rw [tellC, put_in z, e2] at e
      cases e
      exact celO_ok e2
    · rw [tellC, put_out z] at e
      exact objOk_grow ex (ok a o e)
theorem capD_rep {cn : Cn} {lb : Lb} {H : Hp} {ds : List D} {vs : List V} (r : RepL cn lb H ds vs) : ∀ {js : List Nat} {caps : List D}, capD ds js = some caps → ∃ ws : List V, RepL cn lb H caps ws ∧ ws.length = js.length ∧ ∀ (i j : Nat), js[i]? = some j → ∃ v, ws[i]? = some v ∧ vs[j]? = some v
  | [], caps, h => by
    cases h
    exact ⟨[], .nil, rfl, fun i j e => by simp at e⟩
  | j :: js, caps, h => by
    unfold capD at h
    cases e : ds[j]? with
    | none => rw [e] at h; cases h
    | some d =>
      rw [e] at h
      simp only at h
      cases e2 : capD ds js with
      | none => rw [e2] at h; cases h
      | some caps' =>
        rw [e2] at h
        cases h
        obtain ⟨ws, w1, w2, w3⟩ := capD_rep r e2
        obtain ⟨v, v1, v2⟩ := r.get e
        refine ⟨v :: ws, .cons v2 w1, by simp [w2], fun i k hk => ?_⟩
        cases i with
        | zero => simp at hk; subst hk; exact ⟨v, rfl, v1⟩
        | succ i => exact w3 i k (by simpa using hk)
theorem fn_okL {P : Program} {w : World} {mg : Str → Option Value} {base : Heap} {x qual qE : Str} {params : Arguments} {scope : Scope} {dvs : List V} {kws : List (Str × V)} {f c Pt : Addr} {fd : FuncData} {N ps fr : List Str} {p i j : Nat} {js : List Nat} {cn : Cn} {Fp : Fn} {body : List Stmt} {lp : Arguments} {lbd : Expr} {lsc : Scope} {lpos rpos : Pos}
    (F : FunD cn.K x qual params body scope dvs kws f fd) (hc : fd.code = .ref c) (S : FnScope N ps scope) (hp : ps.length = p) (hF : Fp = lamRet p j js) (hbody : body = [.Return (some (.Lambda lp lbd lsc lpos)) rpos])
    (B : LamX.TabB base mg c Pt) (hqe : ∀ (L g : Addr) (cd : Value), (envOfC qual scope L g cd).qual = qE) (ht : cn.tb[i]? = some (Pt, qE ++ "<lambda>")) (hlm : cn.lm j = ⟨qE ++ "<lambda>", lp, lbd, lsc, fr⟩) (hd : ∀ env : PySem.Env, defaultsOf lp env = ([], []))
    (hf : ∀ y ∈ lsc.names, y.2 = .free → scope.names.lookup y.1 = some .cell ∨ scope.names.lookup y.1 = some .free) (hfr : ∀ y ∈ fr, (y, NameKind.free) ∈ lsc.names) (hjs : js.map (fun j => N[j]?) = fr.map some) (hsb : ∀ y, (y, NameKind.free) ∈ lsc.names → y ∈ fr) :
    FnOk P w cn.K mg base (L2.CX P w) 1 f fd ps (spOf cn Fp) := by
  subst hF hp hbody
  have hpl : ps.length ≤ N.length := by have := congrArg List.length S.pre; rw [List.length_take] at this; omega
  obtain ⟨oc, od, dV, kV, doc, pm, an, cdv, ct, osl, rfl, lk, hcd, _, _⟩ := F.ex
  obtain rfl : cdv = .ref c := hc
  have len : ∀ vs H Q E, spOf cn (lamRet ps.length j js) vs H Q E → vs.length = ps.length := fun vs H Q E h => by
    obtain ⟨lb, st, ds, eo, r, h⟩ := h
    unfold lamRet at h
    by_cases hl : ds.length = ps.length
    · rw [← r.length]; exact hl
    · rw [if_neg hl] at h; exact False.elim h
  refine ⟨len, fun A outer s H args us vs Q E hr e0 hb r hsp => ?_⟩
  have hl := len _ _ _ _ hsp
  have KX : cn.K.In s.heap := e0.mod.kin.keeps fun b o e => (e0.bs b o e).1
  have lim : s.heap.NoLimit := e0.mod.nolimit.keeps fun b o e => (e0.bs b o e).1
  have hkind : ∀ y ∈ ps.zip us, scope.names.lookup y.1 = some .local ∨ (scope.names.lookup y.1 = some .cell ∧ ((cellsFrom (s.heap.objs.size + 1) scope.names []).lookup y.1).isSome = true) := fun ⟨n, v⟩ hy => by
    rcases S.par n (List.of_mem_zip hy).1 with q | q
    · exact .inl q
    · exact .inr ⟨q, PySem.W.cellsFrom_some _ _ _ (.inl q)⟩
  refine codeAny_call_function hr.depth (KX _ _ lk) rfl S.co S.gen rfl (PySem.W.codeRec_of KX hcd) (hb _ _ _ _ ?_)
  refine wpAny_newFunctionEnv_cells S.kind hkind fun env he s1 x => ?_
  subst he
  refine ⟨lim.keeps x.toInCall.keep, codeAny_func ?_⟩
  have I : Inv (cxOf (L2.CX P w) P w cn.K mg base N qual scope f (.ref c) A outer s H E) [] (L2.start N vs) H s1 := inv_start S hr.hd e0 hl r x
  obtain ⟨lb, st, ds, eo, rd, h⟩ := hsp
  unfold lamRet at h
  have hl2 : ds.length = ps.length := by rw [rd.length]; exact hl
  rw [if_pos hl2] at h
  cases ec : capD ds js with
  | none => rw [ec] at h; exact False.elim h
  | some caps =>
    rw [ec] at h
    obtain ⟨ws, rw1, rw2, rw3⟩ := capD_rep rd ec
    have T : TabZ (fun a => lb a = none) H Pt ((cxOf (L2.CX P w) P w cn.K mg base N qual scope f (.ref c) A outer s H E).env.qual ++ "<lambda>") := by
      have e4 : (cxOf (L2.CX P w) P w cn.K mg base N qual scope f (.ref c) A outer s H E).env.qual = qE := hqe _ _ _
      rw [e4]
      exact (eo.sto.tabs i _ ht).2
    have cps := NdefX.Caps.made (X := cxOf (L2.CX P w) P w cn.K mg base N qual scope f (.ref c) A outer s H E) I.ok hf hfr hjs
    have hce : (cxOf (L2.CX P w) P w cn.K mg base N qual scope f (.ref c) A outer s H E).env.code = .ref c := rfl
    refine wpAny_execs_cons (wpAny_Return_some (lam_new (X := cxOf (L2.CX P w) P w cn.K mg base N qual scope f (.ref c) A outer s H E) (Z := fun a => lb a = none) (fr := fr) I B hce T (fun a e => Has.none eo.has e) (hd _) (fun y hy e => (hf y hy e).elim (fun z => I.ok.has _ (.inl z)) fun z => I.ok.has _ (.inr z)) fun fL c' H1 s' I1 k nn T1 nf hfL hz hc' => ?_))
    have e4 : (cxOf (L2.CX P w) P w cn.K mg base N qual scope f (.ref c) A outer s H E).env.qual = qE := hqe _ _ _
    rw [e4] at T1 hfL hc'
    show CE outer P w H s Q (.ref fL) s'
    have CA := NdefX.cells_of I1 cps
    obtain ⟨cl, hcl⟩ : ∃ cl, cl = cloFrom (cxOf (L2.CX P w) P w cn.K mg base N qual scope f (.ref c) A outer s H E).env.cells lsc.names [] := ⟨_, rfl⟩
    rw [← hcl] at CA cps hfL
    have hzz : ∀ a, (∃ y, cl.lookup y = some a) → H1 a = none ∧ s.heap.get? a = none ∧ ∃ o, s'.heap.get? a = some o := fun a ⟨y, hy⟩ => by
      obtain ⟨n1, v, o, e1, e2⟩ := CA.all y a hy
      refine ⟨n1, ?_, o, e1⟩
      have := I.ok.cab y a rfl (cps.sub y a hy)
      cases e : s.heap.get? a with
      | none => rfl
      | some o2 => exact absurd (Heap.lt_size e) (Nat.not_lt.mpr this)
    refine ce_tell (v := V.ref fL) (Z := fun a => ∃ y, cl.lookup y = some a) I1.os I1.bare I1.base I1.hok rfl hzz ?_
    have ex : Ext H1 (tellC (fun a => ∃ y, cl.lookup y = some a) s'.heap H1) := put_ext fun a z => (hzz a z).1
    have o0 := eo.start (N := N) rd (by rw [hl]; exact hpl)
    obtain ⟨o1, st1⟩ := o0.lam ht k nn T1
    have o2 := o1.ext ex
    have rep : Rep cn lb (tellC (fun a => ∃ y, cl.lookup y = some a) s'.heap H1) (.clo j caps) (.ref fL) := by
      simp only [Rep]
      refine ⟨fL, cl, c', ws, rfl, ⟨Has.none eo.has nf, by rw [hlm]; exact ex _ _ hfL⟩, ⟨hz, by rw [hlm]; exact ex _ _ hc'⟩, ?_, (rw1.stp st1).stp (o1.stp_ext ex)⟩
      rw [hlm]
      have hlen : js.length = fr.length := by have := congrArg List.length hjs; simpa using this
      refine ⟨by rw [rw2]; exact hlen, fun y a hy => ?_, CA.inj, fun i' y hy => ?_⟩
      · rw [hcl] at hy
        rcases cloFrom_mem (PySem.mem_of_lookup hy) with hm | ⟨h1, _⟩
        · cases hm
        · exact hsb y h1
      · obtain ⟨a, ha, hv⟩ := CA.has i' y hy
        have hi' : i' < js.length := by rw [hlen]; exact (List.getElem?_eq_some_iff.mp hy).1
        obtain ⟨v, v1, v2⟩ := rw3 i' js[i'] (List.getElem?_eq_getElem hi')
        have hsl : (js.map (NdefX.slotAt (L2.start N vs)))[i']? = some (some v) := by
          rw [List.getElem?_map, List.getElem?_eq_getElem hi']
          refine congrArg some (NdefX.slotAt_of ?_)
          unfold L2.start
          rw [List.getElem?_append_left (by rw [List.length_map]; exact (List.getElem?_eq_some_iff.mp v2).1), List.getElem?_map, v2]
          rfl
        obtain ⟨u, u1, o, u2, u3⟩ := hv v hsl
        have za : ∃ y, cl.lookup y = some a := ⟨y, ha⟩
        refine ⟨a, o, u, v, ha, Has.none eo.has (nn a (hzz a za).1), ?_, u3, v1, u1⟩
        rw [tellC, put_in za, u2]
        rfl
    exact h (dl lb) _ _ ((st1.trans (o1.stp_ext ex)).trans (.dl _ _)) o2.leave (rep.stp (.dl _ _))
end Pk
/-! Br48: a call of a def with a lambda as the last argument: its cells are told for the callee. -/
namespace Pk
open PySem PySem.Spec PyProof.Rows L2
/-- a call's end, the cells hidden again -/
theorem ce_hide {P : Program} {w : World} {Z : Addr → Prop} {outer : List PySem.Env} {H : Hp} {s s' : Shared} {Q : VK} {u : Value} (hz : ∀ a, Z a → H a = none ∧ ∃ o, s.heap.get? a = some o ∧ ∃ v, o.data = .cell (some v)) (hfr : ∀ a, Z a → a ∉ frs outer)
    (h : CE outer P w (tellC Z s.heap H) s (fun v H' => (∀ a, Z a → ∃ o, s.heap.get? a = some o ∧ H' a = some (CelO a o)) ∧ Q v (cut Z H')) u s') : CE outer P w H s Q u s' := by
  obtain ⟨v, H', os, ag, un, ok, r, hk, q⟩ := h
  have ex : Ext H (tellC Z s.heap H) := put_ext fun a z => (hz a z).1
  have at_ : ∀ a o, Z a → s.heap.get? a = some o → s'.heap.get? a = some o := fun a o z e => by
    obtain ⟨o2, e2, e3⟩ := hk a z
    rw [e] at e2
    cases e2
    exact (ok a _ e3).1
  have nz : ∀ {b : Addr} {o : HO}, H b = some o → ¬ Z b := fun e z => by rw [(hz _ z).1] at e; cases e
  have C : CellsZ Z (fun _ => none) H' s'.heap := fun a z => by
    obtain ⟨_, o, e, v, e2⟩ := hz a z
    obtain ⟨o2, e3, e4⟩ := hk a z
    rw [e] at e3
    cases e3
    exact ⟨rfl, o, e4, at_ a o z e, v, e2⟩
  refine ⟨v, cut Z H', os, ag, ⟨fun b o e n hf hx => ?_, fun b o e n hf hx => ?_, fun b o e n hx => ?_, un.there, fun b xs e => ?_, fun b o u e => ?_, fun b ps e => ?_⟩, fun a o e => objOk_cut C (ok a o (cut_some e).2), r, q⟩
  · by_cases z : Z b
    · exact at_ b o z e
    · exact un.keep b o e (by rw [tellC, put_out z]; exact n) hf hx
  · by_cases z : Z b
    · exact absurd hf (hfr b z)
    · exact un.slot b o e (by rw [tellC, put_out z]; exact n) hf hx
  · by_cases z : Z b
    · exact cut_in z
    · rw [cut_out z]
      exact un.free b o e (by rw [tellC, put_out z]; exact n) hx
  · rw [cut_out (nz e)]; exact un.tups b xs (ex _ _ e)
  · rw [cut_out (nz e)]; exact un.frzs b o u (ex _ _ e)
  · obtain ⟨more, h1⟩ := un.tbls b ps (ex _ _ e)
    exact ⟨more, by rw [cut_out (nz e)]; exact h1⟩
section
variable {X : Cx} {b : Bd} {n : Nat}
/-- arguments, a lambda behind them -/
def tAZ (b : Bd) (Pt : Addr) (m : Lm) (cells : List (Str × Addr)) (ms : List (M D)) : TA := fun σ H Q => ∃ lb ρ s, Ok b lb ρ s σ H ∧ Post b σ lb H (eL ms ρ s) fun ds ρ' s' lb' H' => ∀ vs H2, Ext H' H2 → RepL b.cn lb' H2 ds vs →
  ∀ (f c' : Addr) (H1 : Hp), (∀ b o, H2 b = some o → b ≠ Pt → H1 b = some o) → (∀ b, H1 b = none → H2 b = none) → TabL lb' H1 Pt m.qual → H2 f = none → H1 f = some (LamO f m (cloFrom cells m.scope.names []) c') → lb' c' = none → H1 c' = some (LamX.CodeO c' m.qual) → Q (vs ++ [.ref f]) H1
theorem dz_lam {i : Nat} {c Pt : Addr} {params : Arguments} {body : Expr} {scope : Scope} {pos : Pos} {fr : List Str} (B : LamX.TabB X.base X.mg c Pt) (hc : X.env.code = .ref c) (ht : b.cn.tb[i]? = some (Pt, X.env.qual ++ "<lambda>")) (hd : defaultsOf params X.env = ([], []))
    (hf : ∀ y ∈ scope.names, y.2 = .free → X.env.scope.names.lookup y.1 = some .cell ∨ X.env.scope.names.lookup y.1 = some .free) (hx : starEach [.Lambda params body scope pos] X.env = (false, eval (.Lambda params body scope pos) X.env) :: starEach [] X.env := by rfl) :
    PA X [.Lambda params body scope pos] (tAZ b Pt ⟨X.env.qual ++ "<lambda>", params, body, scope, fr⟩ X.env.cells []) := by
  refine PA.imp (pa_cons (pe_lamE (fr := fr) B hc hd hf) pa_nil hx) fun σ H Q ⟨lb, ρ, s, o, p⟩ => ?_
  exact ⟨fun a => lb a = none, (o.sto.tabs i _ ht).2, fun a e => Has.none o.has e, fun f c' H1 k nn T nf hfL hz hc' => p lb H .refl o [] H .refl .nil f c' H1 k nn T nf hfL hz hc'⟩
theorem dz_cons {Pt : Addr} {mm : Lm} {cells : List (Str × Addr)} {e : Expr} {es : List Expr} {m : M D} {ms : List (M D)} (h : DE X b e m) (hs : PA X es (tAZ b Pt mm cells ms)) (hx : starEach (e :: es) X.env = (false, eval e X.env) :: starEach es X.env := by rfl) : PA X (e :: es) (tAZ b Pt mm cells (m :: ms)) := by
  refine PA.imp (pa_cons h hs hx) fun σ H Q ⟨lb, ρ, s, o, p⟩ => ?_
  have p : Post b σ lb H ((m ρ s).bind fun d r s => (eL ms r s).bind fun ds r s => .ok (d :: ds) r s) _ := p
  refine ⟨lb, ρ, s, o, (Post.bind p).mono fun d ρ1 s1 lb1 H1 st o1 q => fun v H2 ex r => ?_⟩
  refine ⟨lb1, ρ1, s1, o1.ext ex, ((Post.bind q).from (o1.stp_ext ex)).mono fun ds ρ2 s2 lb2 H3 st2 o2 q2 => fun vs H4 ex4 rl f c' H5 k nn T nf hfL hz hc' => ?_⟩
  exact q2 lb2 H4 (o2.stp_ext ex4) (o2.ext ex4) (v :: vs) H4 .refl (.cons (r.stp (st2.trans (o2.stp_ext ex4))) rl) f c' H5 k nn T nf hfL hz hc'
end
end Pk
/-! Br49: a call of a def with a lambda as the last argument: the rule. -/
namespace Pk
open PySem PySem.Spec PyProof.Rows L2
theorem env0_tell {P : Program} {w : World} {Z : Addr → Prop} {K : PySem.W.Frag} {mg : Str → Option Value} {base : Heap} {A : Around} {outer : List PySem.Env} {s : Shared} {H : Hp} (hz : ∀ a, Z a → H a = none ∧ ∃ o, s.heap.get? a = some o) (hfr : ∀ a, Z a → a ∉ frs outer) (hbs : ∀ a, Z a → base.get? a = none)
    (e : Env0 P w K mg base A outer s H) : Env0 P w K mg base A outer s (tellC Z s.heap H) := by
  have ex : Ext H (tellC Z s.heap H) := put_ext fun a z => (hz a z).1
  refine ⟨e.frames, e.mod, fun b o q => ⟨(e.bs b o q).1, ?_⟩, e.bsz, e.funs, fun b q => ?_, fun a o q => ?_, e.bare⟩
  · have z : ¬ Z b := fun z => by rw [hbs b z] at q; cases q
    rw [tellC, put_out z]
    exact (e.bs b o q).2
  · have z : ¬ Z b := fun z => hfr b z q
    rw [tellC, put_out z]
    exact e.frf b q
  · by_cases z : Z a
    · obtain ⟨_, o2, e2⟩ := hz a z
      rw [tellC, put_in z, e2] at q
      cases q
      exact celO_ok e2
    · rw [tellC, put_out z] at q
      exact objOk_grow ex (e.hok a o q)
theorem stp_tell {Z : Addr → Prop} {lb lb' : Lb} {H H' : Hp} {h : Heap} (hz : ∀ a, Z a → H a = none) (st : Stp lb (tellC Z h H) lb' H') : Stp lb H lb' (cut Z H') := by
  have nz : ∀ {b : Addr}, H b ≠ none → ¬ Z b := fun e z => e (hz _ z)
  refine ⟨fun a o q n => ?_, fun a q => ?_, fun a q => ?_, st.sto, fun a q => ?_⟩
  · have z : ¬ Z a := nz (by rw [q]; simp)
    rw [cut_out z]
    exact st.keep a o (by rw [tellC, put_out z]; exact q) n
  · by_cases z : Z a
    · obtain ⟨h1, h2⟩ := st.out a q
      refine ⟨h1, ?_⟩
      rw [cut_in z, hz a z]
    · obtain ⟨h1, h2⟩ := st.out a q
      refine ⟨h1, ?_⟩
      rw [cut_out z, h2, tellC, put_out z]
  · rcases st.new a q with h1 | h1
    · exact .inl h1
    · by_cases z : Z a
      · exact .inr (hz a z)
      · rw [tellC, put_out z] at h1; exact .inr h1
  · have z : ¬ Z a := nz q
    rw [cut_out z]
    exact st.dom a (by rw [tellC, put_out z]; exact q)
def cmpE : Expr → Expr
  | .Compare _ _ (e :: _) _ => e
  | e => e
def ifE : Stmt → Expr
  | .If t _ _ _ => t
  | _ => .Constant .none 0 ⟨0, 0, 0, 0⟩
theorem lamS_by {scope : Scope} {fr : List Str} (h : (scope.names.all fun p => !decide (p.2 = .free) || fr.any fun y => decide (p.1 = y)) = true) : ∀ y, (y, NameKind.free) ∈ scope.names → y ∈ fr := fun y hy => by
  have := List.all_eq_true.mp h _ hy
  simp only [Bool.or_eq_true, Bool.not_eq_true', decide_eq_false_iff_not, List.any_eq_true, decide_eq_true_eq] at this
  rcases this with z | ⟨y', h1, h2⟩
  · exact absurd trivial z
  · rw [h2]; exact h1
section
variable {X : Cx} {b : Bd} {n : Nat}
theorem de_callL {i j k : Nat} {js : List Nat} {F : Fn} {x : Str} {p pos : Pos} {e : Expr} {es : List Expr} {ms : List (M D)} {P : Program} {w : World} {mg : Str → Option Value} {base : Heap} {Pt : Addr} {params : Arguments} {body : Expr} {scope : Scope} {fr : List Str} (g : Gd n X b) (G : FnG b.cn P w mg base k x F []) (hk : k ≤ n) (hP : X.prog = P) (hw : X.w = w) (hm : X.mg = mg) (hb : X.base = base) (hg : Gl X x)
    (ht : b.cn.tb[i]? = some (Pt, X.env.qual ++ "<lambda>")) (hlm : b.cn.lm j = ⟨X.env.qual ++ "<lambda>", params, body, scope, fr⟩) (hfn : ∀ y, X.fn y = true)
    (hf : ∀ y ∈ scope.names, y.2 = .free → X.env.scope.names.lookup y.1 = some .cell ∨ X.env.scope.names.lookup y.1 = some .free) (hfr : ∀ y ∈ fr, (y, NameKind.free) ∈ scope.names) (hjs : js.map (fun j => X.N[j]?) = fr.map some) (hsb : ∀ y, (y, NameKind.free) ∈ scope.names → y ∈ fr)
    (ha : PA X (e :: es) (tAZ b Pt ⟨X.env.qual ++ "<lambda>", params, body, scope, fr⟩ X.env.cells ms))
    (hdb : (x == ("__debug__" : Str)) = false := by decide) (he : starEach (e :: es) X.env = (false, eval e X.env) :: starEach es X.env := by rfl) (hpl : (backTo pos (starEach es X.env)).any (·.1) = false := by rfl) :
    DE X b (.Call (.Name x p) (e :: es) [] pos) (eCallL F j js ms) := by
  subst hP hw hm hb
  obtain ⟨f0, fd, ps, dsv, dvs, F1, F2, F3, F4, F5, F6⟩ := G
  rw [g.kk] at F1 F3 F4
  have ed : dvs = [] := List.length_eq_zero_iff.mp (F6 (fun _ => none) (fun _ => none)).length.symm
  subst ed
  obtain rfl : dsv = [] := List.length_eq_zero_iff.mp F5.length.symm
  refine ⟨fun pins s σ H Q I h => ?_⟩
  obtain ⟨lb, ρ, t, o, h⟩ := h
  unfold eCallL at h
  refine wpAny_Call_Name_kw (ld_glob I hg F2 ?_ hdb)
  refine PySem.W.callWith_K (h₀ := X.base) I.ok.mod.kin F3 (thn (ha.run pos pins s σ H (fun vs H3 => ∃ lb1 ρ1 t1 ds vs0 f c', vs = vs0 ++ [.ref f] ∧ Ok b lb1 ρ1 t1 σ H3 ∧ RepL b.cn lb1 H3 ds vs0 ∧ lb1 f = none ∧ H3 f = some (LamO f ⟨X.env.qual ++ "<lambda>", params, body, scope, fr⟩ (cloFrom X.env.cells scope.names []) c') ∧ lb1 c' = none ∧ H3 c' = some (LamX.CodeO c' (X.env.qual ++ "<lambda>")) ∧
    Post b σ lb1 H3 (match capL ρ1 js with | some caps => (match F (ds ++ [.clo j caps]) t1 with | .ok d s' => if d.dep 60 && lim (s'.o = []) then .ok d ρ1 s' else .bad | _ => .bad) | .none => .bad) fun d _ _ lb' H' => Kt false b.cn lb' H' d Q) I
    ⟨lb, ρ, t, o, (Post.bind h).mono fun ds ρ1 s1 lb1 H1 st o1 q1 => fun vs H2 ex r f c' H3 k nn T nf hfL hz hc' => ?_⟩) fun us s2 ⟨vs, H3, I3, r, lb1, ρ1, t1, ds, vs0, f, c', ev, o3, rd, lf, hfL, lc, hc', post⟩ => ⟨I3.kIn, ?_⟩) he hpl
  · have o2 := o1.ext ex
    obtain ⟨o3, st3⟩ := o2.lam ht k nn T
    exact ⟨lb1, ρ1, s1, ds, vs, f, c', rfl, o3, r.stp st3, Has.none o2.has nf, hfL, hz, hc', Post.from q1 ((o1.stp_ext ex).trans st3)⟩
  · subst ev
    cases ec : capL ρ1 js with
    | none => rw [ec] at post; exact False.elim post
    | some caps =>
      simp only [ec] at post
      obtain ⟨ws, ew, rc⟩ := capL_rep o3 ec
      cases eF : F (ds ++ [.clo j caps]) t1 with
      | exc x s' => simp only [eF] at post; exact False.elim post
      | bad => simp only [eF] at post; exact False.elim post
      | ok dd t2 =>
        simp only [eF] at post
        split at post
        · rename_i hcond
          simp only [Bool.and_eq_true] at hcond
          obtain ⟨d1, d2⟩ := hcond
          have d2 := lim_iff.mp d2
          have cps : NdefX.Caps X (cloFrom X.env.cells scope.names []) fr js := NdefX.Caps.made I3.ok hf hfr hjs
          have CA := NdefX.cells_of I3 cps
          obtain ⟨cl, hcl⟩ : ∃ cl, cl = cloFrom X.env.cells scope.names [] := ⟨_, rfl⟩
          rw [← hcl] at CA cps hfL
          have hlen : js.length = fr.length := by have := congrArg List.length hjs; simpa using this
          have hwl : ws.length = fr.length := by rw [← hlen]; have := congrArg List.length ew; simpa using this.symm
          have hsub : ∀ y a, cl.lookup y = some a → y ∈ fr := fun y a hy => by
            rw [hcl] at hy
            rcases cloFrom_mem (PySem.mem_of_lookup hy) with hm | ⟨h1, _⟩
            · cases hm
            · exact hsb y h1
          have hval : ∀ (i' : Nat) (y : Str), fr[i']? = some y → ∃ a v u o, cl.lookup y = some a ∧ ws[i']? = some v ∧ RelV v u ∧ s2.heap.get? a = some o ∧ o.data = .cell (some u) := fun i' y hy => by
            obtain ⟨a, ha, hv⟩ := CA.has i' y hy
            have hi' : i' < ws.length := by rw [hwl]; exact (List.getElem?_eq_some_iff.mp hy).1
            have hsl : (js.map (NdefX.slotAt σ))[i']? = some (some ws[i']) := by
              rw [ew, List.getElem?_map, List.getElem?_eq_getElem hi']
              rfl
            obtain ⟨u, u1, o, u2, u3⟩ := hv _ hsl
            exact ⟨a, ws[i'], u, o, ha, List.getElem?_eq_getElem hi', u1, u2, u3⟩
          obtain ⟨Z, hZ⟩ : ∃ Z : Addr → Prop, Z = fun a => ∃ y, cl.lookup y = some a := ⟨_, rfl⟩
          have hz : ∀ a, Z a → H3 a = none ∧ ∃ o, s2.heap.get? a = some o ∧ ∃ v, o.data = .cell (some v) := fun a za => by
            rw [hZ] at za
            obtain ⟨y, hy⟩ := za
            obtain ⟨i', hi', ei'⟩ := List.getElem_of_mem (hsub y a hy)
            obtain ⟨a', v, u, o, k1, k2, k3, k4, k5⟩ := hval i' y (by rw [List.getElem?_eq_getElem hi', ei'])
            rw [hy] at k1
            cases k1
            exact ⟨(CA.all y a hy).1, o, k4, u, k5⟩
          have hab : ∀ a, Z a → X.s_0.heap.objs.size ≤ a := fun a za => by
            rw [hZ] at za
            obtain ⟨y, hy⟩ := za
            exact I3.ok.cab y a (hfn y) (cps.sub y a hy)
          have hfrs : ∀ a, Z a → a ∉ frs X.stack := fun a za hm => by
            rcases List.mem_cons.mp (I3.stkSub a hm) with e | hb
            · obtain ⟨m, ⟨o, es', ep, ho, hd, _⟩, _⟩ := I3.loc
              obtain ⟨_, o2, e2, v, e3⟩ := hz a za
              rw [e, ho] at e2
              cases e2
              rw [hd] at e3
              cases e3
            · obtain ⟨_, o, ho, _⟩ := I3.ok.funs.mem hb
              exact absurd (Heap.lt_size ho) (Nat.not_lt.mpr (hab a za))
          have hbas : ∀ a, Z a → X.base.get? a = none := fun a za => by
            cases e : X.base.get? a with
            | none => rfl
            | some o => exact absurd (Heap.lt_size e) (Nat.not_lt.mpr (Nat.le_trans I3.ok.bsz (hab a za)))
          have ex : Ext H3 (tellC Z s2.heap H3) := put_ext fun a z => (hz a z).1
          have o4 := o3.ext ex
          have at_ : ∀ a o, Z a → s2.heap.get? a = some o → tellC Z s2.heap H3 a = some (CelO a o) := fun a o za e => by
            rw [tellC, put_in za, e]; rfl
          have lz : ∀ a, Z a → lb1 a = none := fun a za => Has.none o3.has (hz a za).1
          have rep : Rep b.cn lb1 (tellC Z s2.heap H3) (.clo j caps) (.ref f) := by
            simp only [Rep]
            refine ⟨f, cl, c', ws, rfl, ⟨lf, by rw [hlm]; exact ex _ _ hfL⟩, ⟨lc, by rw [hlm]; exact ex _ _ hc'⟩, ?_, rc.stp (o3.stp_ext ex)⟩
            rw [hlm]
            refine ⟨hwl, hsub, CA.inj, fun i' y hy => ?_⟩
            obtain ⟨a, v, u, o, k1, k2, k3, k4, k5⟩ := hval i' y hy
            have za : Z a := by rw [hZ]; exact ⟨y, k1⟩
            exact ⟨a, o, u, v, k1, lz a za, at_ a o za k4, k5, k2, k3⟩
          have env := env0_tell (fun a za => ⟨(hz a za).1, (hz a za).2.choose, (hz a za).2.choose_spec.1⟩) hfrs hbas I3.env0
          have sp : spOf b.cn F (vs0 ++ [.ref f]) (tellC Z s2.heap H3) (fun v H' => (∀ a, Z a → ∃ o, s2.heap.get? a = some o ∧ H' a = some (CelO a o)) ∧ Q v (cut Z H')) (fun _ _ _ => False) := by
            refine ⟨rel lb1, t1, ds ++ [.clo j caps], o4.entry, ((rd.stp (o3.stp_ext ex)).append (.one rep)).stq .rel, ?_⟩
            rw [eF]
            intro lb' H' v st' e' rv
            have hk' : ∀ a, Z a → ∃ o, s2.heap.get? a = some o ∧ H' a = some (CelO a o) := fun a za => by
              obtain ⟨_, o, e1, _⟩ := hz a za
              exact ⟨o, e1, st'.keep a _ (at_ a o za e1) (rel_none.mpr (lz a za))⟩
            refine ⟨hk', ?_⟩
            have C : CellsZ Z lb' H' s2.heap := fun a za => by
              obtain ⟨_, o, e1, v, e2⟩ := hz a za
              obtain ⟨o2, e3, e4⟩ := hk' a za
              rw [e1] at e3
              cases e3
              exact ⟨st'.q.none (at_ a o za e1) (rel_none.mpr (lz a za)), o, e4, e1, v, e2⟩
            have st2 := stp_tell (fun a za => (hz a za).1) st'
            have e2 := eok_cut C e' d2
            have rv2 := rep_hide C d1 rv
            exact KV.now (show KV b.cn (unrel lb1 lb') (cut Z H') dd Q from post _ _ st2.unrel (o3.after st2 e2)) (rv2.stq (Stq.back st2))
          have hl : us.length = ps.length := by rw [← r.length]; exact F1.len _ _ _ _ sp
          refine wpAny_call (codeAny_mono (F1.run X.A X.stack s2 (tellC Z s2.heap H3) ⟨us, []⟩ us (vs0 ++ [.ref f]) _ _ (g.room.mono hk) env (by have := F4 s2 us I3.kIn (by rw [List.append_nil]; exact hl); rw [List.append_nil] at this; exact this) r sp) fun rr s' hq => ?_)
          match rr, hq with
          | .error e, hq =>
            obtain ⟨_, _, _, _, _, _, _, _, _, _, _, _, hE⟩ := hq
            exact False.elim hE
          | .ok (.ret u), hq => exact I3.after (ce_hide hz hfrs hq)
          | .ok .next, hq => exact False.elim hq
          | .ok .brk, hq => exact False.elim hq
          | .ok .cont, hq => exact False.elim hq
        · exact False.elim post
end
end Pk
/-! Br50: d.get(k); three names at once, the last a constant. -/
namespace Pk
open PySem PySem.Spec PyProof.Rows L2
section
variable {X : Cx} {b : Bd} {n : Nat} {cn : Cn}
def rDGet1 : V → List V → Hp → VK → Prop := fun x xs H Q => ∃ a y o, x = .ref a ∧ xs = [y] ∧ DGet H a y o ∧ Q (o.getD .non) H
theorem mt_dget1 (hu : X.A.units + 1 < cLine) : MtR X "dict.get" rDGet1 := by
  intro pins s σ H x xs v us Q I rx rv h
  obtain ⟨a, y, o, rfl, rfl, g, q⟩ := h
  cases rx
  obtain ⟨u, rfl, ru⟩ := vals1 rv
  exact d_get1 hu I g ru fun w' s' I' r' => ⟨_, H, I', r', q⟩
theorem de_getD1 {x e : Expr} {i : Nat} {mk : M D} {apos cpos : Pos} (g : Gd n X b) (hx : PE X x (tVar i)) (ha : DA X b [e] [mk]) (hbase : attributeBase x "get" X.env (eval x X.env) = eval x X.env := by rfl)
    (hfew : ((backTo cpos (starEach [e] X.env)).all (fun x => !x.1) && (backToKw cpos (keywordEach [] X.env)).all (fun x => x.1.isSome) && decide ([e].length + ([] : List Keyword).length + (if ([] : List Keyword).isEmpty then 0 else 1) < 30)) = true := by rfl)
    (hline : (apos.endLine == cpos.line) = true := by rfl) (hs : starEach [e] X.env = (false, eval e X.env) :: starEach [] X.env := by rfl) (hp : (backTo cpos (starEach [] X.env)).any (·.1) = false := by rfl) :
    DE X b (.Call (.Attribute x "get" apos) [e] [] cpos) (eGetD1 i mk) := by
  refine PE.imp (pe_bm PySem.F.plainAttrs_dict PySem.F.slot_dict_get PySem.F.type_dict_get (mt_dget1 (by have := g.units; omega)) hx ha hbase hfew hline hs hp) fun σ H Q ⟨lb, ρ, s, o, p⟩ => ?_
  unfold eGetD1 at p
  cases q : look ρ (.inr i) with
  | none => rw [q] at p; exact False.elim p
  | some d =>
    cases d with
    | dct ks0 ds0 =>
      simp only [q] at p
      split at p
      · rename_i t0
        obtain ⟨v, e1, r0⟩ := look_slot o q
        obtain ⟨a, vs0, js0, rfl, _, ea0, _⟩ := r0.dctT t0
        refine ⟨.ref a, e1, .inr (.inr (.inl ⟨rfl, .inr ⟨_, ea0⟩⟩)), lb, ρ, s, o, (tAL_len (Post.bind p) fun xs ρ1 s1 lb1 H1 hlen st o1 k => fun us H2 ex rl => ?_)⟩
        have o2 := o1.ext ex
        have k := Post.from k (o1.stp_ext ex)
        match xs, hlen, k, rl with
        | [dk], _, k, rl =>
          simp only at k
          obtain ⟨e, ee, k⟩ := opt_post o2 k
          cases q1 : look ρ1 (.inr i) with
          | none => rw [q1] at ee; cases ee
          | some d =>
            rw [q1] at ee
            simp only [Option.bind_some] at ee
            cases d with
            | dct ks ds =>
              simp only [pGetD] at ee
              split at ee
              · rename_i t
                cases ek : keyOf dk with
                | none => rw [ek] at ee; cases ee
                | some key =>
                  rw [ek] at ee
                  cases ee
                  obtain ⟨v1, e2, r1⟩ := look_slot o2 q1
                  rw [e1] at e2
                  cases e2
                  obtain ⟨a', vs, js, ea', rfl, ea, rds, hl, _⟩ := r1.dctT t
                  cases ea'
                  simp only [RepL] at rl
                  obtain ⟨y, r', rfl, ry, rfl⟩ := rl
                  obtain ⟨p1, j, rfl, rfl, ep⟩ := keyOf_rep (.inl ry) ek
                  refine ⟨a, .ref p1, _, rfl, rfl, DGet.t (k := j.map Sum.inl) ea (by rw [kV_inl]; exact ep), ?_⟩
                  exact KV.now (show KV b.cn lb1 H2 _ Q from k) (dget_val (dx := .none) (z := .non) (by simp only [Rep]) rds hl)
              · cases ee
            | _ => cases ee
      · exact False.elim p
    | _ => simp only [q] at p; exact False.elim p

theorem ds_par3b {f1 f2 : Bool} {i j l : Nat} {x y z : Str} {ea eb ec : Expr} {m1 m2 : M D} {d3 : D} {v3 : V} {px py pz pt pos pt2 : Pos} {kt k2 : Nat} (g : Gd n X b) (hi : X.N[i]? = some x) (hj : X.N[j]? = some y) (hl : X.N[l]? = some z) (hd : i ≠ j ∧ i ≠ l ∧ j ≠ l)
    (hx : X.env.scope.names.lookup x = some .local) (hy : X.env.scope.names.lookup y = some .local) (hz : X.env.scope.names.lookup z = some .local) (ha : PE X ea (tK f1 b m1)) (hb : PE X eb (tK f2 b m2)) (hc : PE X ec (tC v3)) (rc : ∀ lb H, Rep b.cn lb H d3 v3)
    (hw : swappedStores [.Tuple [.Name x px, .Name y py, .Name z pz] kt pt] (.Tuple [ea, eb, ec] k2 pt2) X.env = pure (some [x, y, z]))
    (hs : swapsWithSole [.Tuple [.Name x px, .Name y py, .Name z pz] kt pt] (.Tuple [ea, eb, ec] k2 pt2) pos.line X.env = pure false := by rfl)
    (s1 : starEach [ea, eb, ec] X.env = (false, eval ea X.env) :: starEach [eb, ec] X.env := by rfl) (s2 : starEach [eb, ec] X.env = (false, eval eb X.env) :: starEach [ec] X.env := by rfl) (s3 : starEach [ec] X.env = (false, eval ec X.env) :: starEach [] X.env := by rfl) :
    DS X b (.Assign [.Tuple [.Name x px, .Name y py, .Name z pz] kt pt] (.Tuple [ea, eb, ec] k2 pt2) pos) (sPar3b f1 f2 i j l m1 m2 d3) := by
  refine ⟨fun pins s σ H D I q => (ps_par3 g.calm g.nd hi hj hl hd.1 hd.2.1 hd.2.2 hx hy hz (pa_cons ha (pa_cons hb (pa_cons hc pa_nil s3) s2) s1) hw hs).run pins s σ H D I ?_⟩
  have li : i < σ.length := by rw [I.len]; exact (List.getElem?_eq_some_iff.mp hi).1
  have lj : j < σ.length := by rw [I.len]; exact (List.getElem?_eq_some_iff.mp hj).1
  have q' : tS b (sPar f1 f2 i j m1 m2) { D with nx := fun σ' H' => D.nx (σ'.set l (some v3)) H' } σ H := by
    obtain ⟨lb, ρ, st, o, h⟩ := q
    refine ⟨lb, ρ, st, o, ?_⟩
    unfold sPar3b at h
    simp only [sSeq] at h
    cases e : sPar f1 f2 i j m1 m2 ρ st with
    | bad => rw [e] at h; exact h
    | exc x ρ1 s1 => rw [e] at h; exact h
    | ok fl ρ1 s1 =>
      rw [e] at h
      simp only [R.bind_ok] at h
      cases fl with
      | nx =>
        simp only [sSet, eC, R.bind_ok] at h
        exact fun lb' σ' H' st' o' => h _ _ _ (st'.trans (.unl _ _ l)) (o'.setSh l (rc _ _))
      | rt d => exact h
      | bk => exact h
      | ct => exact h
  exact tK_mono (par_run hd.1 li lj q') fun v H1 z2 => tK_mono z2 fun w H2 ⟨v', w', e, k⟩ => ⟨v', w', v3, by cases e; rfl, k H2 .refl⟩
end
end Pk
namespace Pk
open PySem (Str)
noncomputable section
variable (Lt : List (Nat × (List D → Fn)))
def bo_is_whole : S :=
    (sRet (eAnd (e1 pIsInt (.v (eV 0))) (eAnd (eNot (e1 pIsBool (.v (eV 0)))) (eChain pLe pLe (eV 1) (eV 0) (eV 2)))))
def py_is_whole : Fn := fnOf 3 3 bo_is_whole
def co_is_line_0 : M D :=
    (eComp (iOf (eV 0)) (.n 2) [2] eYes (eCall py_is_whole [(eV 2), (eC (.int 0)), (eC (.int 999))] []))
def bo_is_line : S :=
    (sSeq (sIf (eOr (eNot (e1 pIsTup (.v (eV 0)))) (e2 pNe (.v (eLen (.v (eV 0)))) (.v (eV 1)))) (sRet (eC (.bool false))) sNil)
    (sRet (e1 pAll (.v co_is_line_0))))
def py_is_line : Fn := fnOf 2 3 bo_is_line
def co_is_land_0 : M D :=
    (eComp (iOf (eV 0)) (.n 1) [1] eYes (eCall py_is_line [(eV 1), (eLen (.v (e2 pIx (.v (eV 0)) (.v (eC (.int 0))))))] []))
def bo_is_land : S :=
    (sSeq (sIf (eOr (eNot (e1 pIsTup (.v (eV 0)))) (eNot (eChain pLe pLe (eC (.int 1)) (eLen (.v (eV 0))) (eC (.int 8))))) (sRet (eC (.bool false))) sNil)
    (sSeq (sIf (eOr (eNot (e1 pIsTup (.v (e2 pIx (.v (eV 0)) (.v (eC (.int 0))))))) (eNot (eChain pLe pLe (eC (.int 1)) (eLen (.v (e2 pIx (.v (eV 0)) (.v (eC (.int 0)))))) (eC (.int 8))))) (sRet (eC (.bool false))) sNil)
    (sRet (e1 pAll (.v co_is_land_0)))))
def py_is_land : Fn := fnOf 1 2 bo_is_land
def bo_need_land : S :=
    (sIf (eNot (eCall py_is_land [(eV 0)] [])) (sRaise 0 .none) sNil)
def py_need_land : Fn := fnOf 1 1 bo_need_land
def bo_is_cell : S :=
    (sSeq (sIf (eOr (eNot (e1 pIsTup (.v (eV 1)))) (e2 pNe (.v (eLen (.v (eV 1)))) (.v (eC (.int 2))))) (sRet (eC (.bool false))) sNil)
    (sRet (eAnd (eCall py_is_whole [(e2 pIx (.v (eV 1)) (.v (eC (.int 0)))), (eC (.int 0)), (e2 pSub (.v (eLen (.v (eV 0)))) (.v (eC (.int 1))))] []) (eCall py_is_whole [(e2 pIx (.v (eV 1)) (.v (eC (.int 1)))), (eC (.int 0)), (e2 pSub (.v (eLen (.v (e2 pIx (.v (eV 0)) (.v (eC (.int 0))))))) (.v (eC (.int 1))))] []))))
def py_is_cell : Fn := fnOf 2 2 bo_is_cell
def co_cells_of_0 : M D :=
    (eComp (iRange1 (eLen (.v (e2 pIx (.v (eV 0)) (.v (eC (.int 0))))))) (.n 3) [3] eYes (eTup [(eV 2), (eV 3)]))
def fo_cells_of_0 : S :=
    (sExtend 1 co_cells_of_0)
def bo_cells_of : S :=
    (sSeq (sSet true 1 (eLst []))
    (sSeq (sFor (iRange1 (eLen (.v (eV 0)))) (.n 2) fo_cells_of_0)
    (sRet (eV 1))))
def py_cells_of : Fn := fnOf 1 4 bo_cells_of
def bo_at : S :=
    (sRet (e2 pIx (.v (e2 pIx (.v (eV 0)) (.v (e2 pIx (.v (eV 1)) (.v (eC (.int 0))))))) (.v (e2 pIx (.v (eV 1)) (.v (eC (.int 1)))))))
def py_at : Fn := fnOf 2 2 bo_at
def co_beside_of_0 : M D :=
    (eComp (iOf (eV 4)) (.n 5) [5] (eCall py_is_cell [(eV 0), (eV 5)] []) (eV 5))
def bo_beside_of : S :=
    (sSeq (sAsg (.t [(.n 2), (.n 3)]) (eV 1))
    (sSeq (sSet false 4 (eLst [(eTup [(e2 pSub (.v (eV 2)) (.v (eC (.int 1)))), (eV 3)]), (eTup [(eV 2), (e2 pSub (.v (eV 3)) (.v (eC (.int 1))))]), (eTup [(eV 2), (e2 pAdd (.v (eV 3)) (.v (eC (.int 1))))]), (eTup [(e2 pAdd (.v (eV 2)) (.v (eC (.int 1)))), (eV 3)])]))
    (sRet co_beside_of_0)))
def py_beside_of : Fn := fnOf 2 6 bo_beside_of
def fo_spread_of_0 : S :=
    (sIf (eAnd (e2 pInD (.v (eV 5)) (.v (eV 2))) (e2 pNotInD (.v (eV 5)) (.b 3))) (sSeq (sPutD 3 (eV 5) (eC (.bool true)))
    (sAppend 4 (eV 5))) sNil)
def wh_spread_of_0 : S :=
    (sWhile (e2 pNe (.b 4) (.v (eLst []))) (sFor (iOf (eCall py_beside_of [(eV 0), (ePop 4)] [])) (.n 5) fo_spread_of_0))
def bo_spread_of : S :=
    (sSeq (sPar true true 3 4 (eDct1 (eV 1) (eC (.bool true))) (eLst [(eV 1)]))
    (sSeq wh_spread_of_0
    (sRet (e1 pSorted (.v (e1 pLstD (.b 3)))))))
def py_spread_of : Fn := fnOf 3 6 bo_spread_of
def co_flat_of_0 : M D :=
    (eComp (iOf (eCall py_cells_of [(eV 0)] [])) (.n 2) [2] (e2 pEq (.v (eCall py_at [(eV 0), (eV 2)] [])) (.v (eCall py_at [(eV 0), (eV 1)] []))) (eTup [(eV 2), (eC (.bool true))]))
def bo_flat_of : S :=
    (sRet (eCall py_spread_of [(eV 0), (eV 1), (e1 pDict (.v co_flat_of_0))] []))
def py_flat_of : Fn := fnOf 2 3 bo_flat_of
def co_all_flats_0 : M D :=
    (eComp (iOf (e2 pIx (.b 1) (.v (e1 pNeg (.v (eC (.int 1))))))) (.n 4) [4] eYes (eTup [(eV 4), (eC (.bool true))]))
def fo_all_flats_0 : S :=
    (sIf (e2 pNotInD (.v (eV 3)) (.b 2)) (sSeq (sAppend 1 (eCall py_flat_of [(eV 0), (eV 3)] []))
    (sUpdD 2 (e1 pDict (.v co_all_flats_0)))) sNil)
def bo_all_flats : S :=
    (sSeq (sPar true true 1 2 (eLst []) eDct0)
    (sSeq (sFor (iOf (eCall py_cells_of [(eV 0)] [])) (.n 3) fo_all_flats_0)
    (sRet (eV 1))))
def py_all_flats : Fn := fnOf 1 5 bo_all_flats
def co_differences_0 : M D :=
    (eComp (iOf (eCall py_beside_of [(eV 0), (eV 3)] [])) (.n 4) [4] eYes (e2 pSub (.v (eCall py_at [(eV 0), (eV 4)] [])) (.v (eCall py_at [(eV 0), (eV 3)] []))))
def fo_differences_0 : S :=
    (sExtend 2 co_differences_0)
def bo_differences : S :=
    (sSeq (sSet true 2 (eLst []))
    (sSeq (sFor (iOf (eV 1)) (.n 3) fo_differences_0)
    (sRet (eV 2))))
def py_differences : Fn := fnOf 2 5 bo_differences
def la_peaks_of_0 : M D :=
    (eTup [(e2 pSub (.v (eC (.int 0))) (.v (eCall py_at [(eV 1), (eV 0)] []))), (eV 0)])
def ly_peaks_of_0 : List D → Fn :=
    lamFn 1 2 la_peaks_of_0
def co_peaks_of_0 : M D :=
    (eComp (iOf (eCall py_all_flats [(eV 0)] [])) (.n 2) [2] (e2 pEq (.v (e1 pMaxD (.v (e2 pAdd (.v (eLst [(eC (.int 0))])) (.v (eCall py_differences [(eV 0), (eV 2)] [])))))) (.v (eC (.int 0)))) (e2 pIx (.v (eV 2)) (.v (eC (.int 0)))))
def bo_peaks_of : S :=
    (sSeq (sSet false 1 co_peaks_of_0)
    (sRet (eSortK ly_peaks_of_0 [0] (.v (eV 1)))))
def py_peaks_of : Fn := fnOf 1 3 bo_peaks_of
def bo_size : S :=
    (sSeq (sExpr (eCall py_need_land [(eV 0)] []))
    (sRet (eTup [(eLen (.v (eV 0))), (eLen (.v (e2 pIx (.v (eV 0)) (.v (eC (.int 0))))))])))
def py_size : Fn := fnOf 1 1 bo_size
def co_flats_0 : M D :=
    (eComp (iOf (eCall py_all_flats [(eV 0)] [])) (.n 1) [1] eYes (e2 pIx (.v (eV 1)) (.v (eC (.int 0)))))
def bo_flats : S :=
    (sSeq (sExpr (eCall py_need_land [(eV 0)] []))
    (sRet co_flats_0))
def py_flats : Fn := fnOf 1 2 bo_flats
def bo_peaks : S :=
    (sSeq (sExpr (eCall py_need_land [(eV 0)] []))
    (sRet (eCall py_peaks_of [(eV 0)] [])))
def py_peaks : Fn := fnOf 1 1 bo_peaks
def co_pits_0 : M D :=
    (eComp (iOf (eCall py_all_flats [(eV 0)] [])) (.n 1) [1] (e2 pEq (.v (e1 pMinD (.v (e2 pAdd (.v (eLst [(eC (.int 0))])) (.v (eCall py_differences [(eV 0), (eV 1)] [])))))) (.v (eC (.int 0)))) (e2 pIx (.v (eV 1)) (.v (eC (.int 0)))))
def bo_pits : S :=
    (sSeq (sExpr (eCall py_need_land [(eV 0)] []))
    (sRet co_pits_0))
def py_pits : Fn := fnOf 1 2 bo_pits
def fo_law_cell_at_0 : S :=
    (sSet false 2 (e2 pFdiv (.v (eV 2)) (.v (eC (.int 1000003)))))
def bo_law_cell_at : S :=
    (sSeq (sIf (e2 pLt (.v (eV 1)) (.v (eLen (.v (eV 0))))) (sRet (e2 pIx (.v (eV 0)) (.v (eV 1)))) sNil)
    (sSeq (sIf (e1 pScr0 (.v (eV 0))) (sRet (eC (.int 0))) sNil)
    (sSeq (sSet false 2 (e2 pIx (.v (eV 0)) (.v (e2 pMod (.v (eV 1)) (.v (eLen (.v (eV 0))))))))
    (sSeq (sFor (iRange1 (e2 pMin2 (.v (e2 pFdiv (.v (eV 1)) (.v (eLen (.v (eV 0)))))) (.v (eC (.int 60))))) (.n 3) fo_law_cell_at_0)
    (sRet (e2 pAdd (.v (e2 pAdd (.v (e2 pMul (.v (e2 pIx (.v (eV 0)) (.v (e2 pMod (.v (eV 1)) (.v (eLen (.v (eV 0)))))))) (.v (eC (.int 31))))) (.v (eV 1)))) (.v (e2 pMul (.v (eV 2)) (.v (eC (.int 101)))))))))))
def py_law_cell_at : Fn := fnOf 2 4 bo_law_cell_at
def bo_law_mixed : S :=
    (sSeq (sSet false 3 (e2 pMod (.v (e2 pAdd (.v (e2 pAdd (.v (e2 pMul (.v (eCall py_law_cell_at [(eV 0), (eV 1)] [])) (.v (eC (.int 1103515245))))) (.v (e2 pMul (.v (eC (.int 7919))) (.v (eV 1)))))) (.v (eC (.int 12345))))) (.v (eC (.int 2147483647)))))
    (sRet (e2 pMod (.v (e2 pMod (.v (e2 pMod (.v (e2 pPow (.v (eV 3)) (.v (eC (.int 5))))) (.v (eC (.int 2147483647))))) (.v (eC (.int 999983))))) (.v (eV 2)))))
def py_law_mixed : Fn := fnOf 3 4 bo_law_mixed
def bo_law_draw : S :=
    (sSeq (sTown 1)
    (sRet (eCall py_law_mixed [(eV 0), (eLen (.v (eV 1))), (eV 2)] [])))
def py_law_draw : Fn := fnOf 3 3 bo_law_draw
def bo_law_pick : S :=
    (sRet (e2 pIx (.v (eV 2)) (.v (eCall py_law_draw [(eV 0), (eV 1), (eLen (.v (eV 2)))] []))))
def py_law_pick : Fn := fnOf 3 3 bo_law_pick
def co_law_land_0 : M D :=
    (eComp (iRange1 (eV 4)) (.n 7) [7] eYes (eCall py_law_draw [(eV 0), (eV 1), (eV 5)] []))
def co_law_land_1 : M D :=
    (eComp (iRange1 (eV 3)) (.n 6) [6] eYes (e1 pTup (.v co_law_land_0)))
def bo_law_land : S :=
    (sSeq (sPar false false 3 4 (e2 pAdd (.v (eC (.int 1))) (.v (eCall py_law_draw [(eV 0), (eV 1), (eV 2)] []))) (e2 pAdd (.v (eC (.int 1))) (.v (eCall py_law_draw [(eV 0), (eV 1), (eV 2)] []))))
    (sSeq (sSet false 5 (eCall py_law_pick [(eV 0), (eV 1), (eLst [(eC (.int 2)), (eC (.int 3)), (eC (.int 4)), (eC (.int 6)), (eC (.int 10)), (eC (.int 1000))])] []))
    (sRet (e1 pTup (.v co_law_land_1)))))
def py_law_land : Fn := fnOf 3 8 bo_law_land
def bo_law_none : S :=
    (sSeq (sSet false 2 (eLst [(eC .none), (eC (.int 5)), (eTup []), (eTup [(eTup [])]), (eLst [(eTup [(eC (.int 1))])]), (eTup [(eLst [(eC (.int 1))])]), (eTup [(eTup [(eC (.int 1)), (eC (.int 2))]), (eTup [(eC (.int 3))])]), (eTup [(eTup [(eC (.int 1000))])]), (eTup [(eTup [(e1 pNeg (.v (eC (.int 1))))])]), (eTup [(eTup [(eC (.bool true))])]), (eTup [(eTup [(eC (.int 1)), (eC .none)])]), (eC (.str "1"))]))
    (sSeq (sSet false 2 (e2 pAdd (.v (eV 2)) (.v (eLst [(e2 pRepT (.v (eTup [(eTup [(eC (.int 1))])])) (.v (eC (.int 9)))), (eTup [(e2 pRepT (.v (eTup [(eC (.int 1))])) (.v (eC (.int 9))))]), (eTup [(eTup [(eC (.str "1"))])]), (eTup [(eC (.int 1)), (eC (.int 2))]), (eTup [(eTup [(eC (.int 1)), (eC (.int 2))]), (eLst [(eC (.int 3)), (eC (.int 4))])]), (eTup [(eTup [(eC (.int 1))]), (eC (.int 5))])]))))
    (sRet (eCall py_law_pick [(eV 0), (eV 1), (eV 2)] []))))
def py_law_none : Fn := fnOf 2 3 bo_law_none
def bo_law_ask : S :=
    (sTry .no (sRet (eTab [py_size, py_flats, py_peaks, py_pits] (eV 0) [(eV 1)])))
def py_law_ask : Fn := fnOf 2 3 bo_law_ask
def bo_need_cell : S :=
    (sIf (eNot (eCall py_is_cell [(eV 0), (eV 1)] [])) (sRaise 1 (some (eV 1))) sNil)
def py_need_cell : Fn := fnOf 2 2 bo_need_cell
def bo_need_both : S :=
    (sSeq (sExpr (eCall py_need_land [(eV 0)] []))
    (sExpr (eCall py_need_cell [(eV 0), (eV 1)] [])))
def py_need_both : Fn := fnOf 2 2 bo_need_both
def bo_height : S :=
    (sSeq (sExpr (eCall py_need_both [(eV 0), (eV 1)] []))
    (sRet (eCall py_at [(eV 0), (eV 1)] [])))
def py_height : Fn := fnOf 2 2 bo_height
def bo_neighbours : S :=
    (sSeq (sExpr (eCall py_need_both [(eV 0), (eV 1)] []))
    (sRet (eCall py_beside_of [(eV 0), (eV 1)] [])))
def py_neighbours : Fn := fnOf 2 2 bo_neighbours
def bo_flat : S :=
    (sSeq (sExpr (eCall py_need_both [(eV 0), (eV 1)] []))
    (sRet (eCall py_flat_of [(eV 0), (eV 1)] [])))
def py_flat : Fn := fnOf 2 2 bo_flat
def bo_law_same_number : S :=
    (sRet (eAnd (e1 pIsInt (.v (eV 0))) (eAnd (eNot (e1 pIsBool (.v (eV 0)))) (e2 pEq (.v (eV 0)) (.v (eV 1))))))
def py_law_same_number : Fn := fnOf 2 2 bo_law_same_number
def co_law_cells_0 : M D :=
    (eComp (iRange1 (eLen (.v (e2 pIx (.v (eV 0)) (.v (eC (.int 0))))))) (.n 3) [3] eYes (eTup [(eV 2), (eV 3)]))
def fo_law_cells_0 : S :=
    (sExtend 1 co_law_cells_0)
def bo_law_cells : S :=
    (sSeq (sSet true 1 (eLst []))
    (sSeq (sFor (iRange1 (eLen (.v (eV 0)))) (.n 2) fo_law_cells_0)
    (sRet (eV 1))))
def py_law_cells : Fn := fnOf 1 4 bo_law_cells
def bo_law_high : S :=
    (sRet (e2 pIx (.v (e2 pIx (.v (eV 0)) (.v (e2 pIx (.v (eV 1)) (.v (eC (.int 0))))))) (.v (e2 pIx (.v (eV 1)) (.v (eC (.int 1)))))))
def py_law_high : Fn := fnOf 2 2 bo_law_high
def bo_law_near : S :=
    (sRet (e2 pEq (.v (e2 pAdd (.v (e1 pAbs (.v (e2 pSub (.v (e2 pIx (.v (eV 0)) (.v (eC (.int 0))))) (.v (e2 pIx (.v (eV 1)) (.v (eC (.int 0))))))))) (.v (e1 pAbs (.v (e2 pSub (.v (e2 pIx (.v (eV 0)) (.v (eC (.int 1))))) (.v (e2 pIx (.v (eV 1)) (.v (eC (.int 1))))))))))) (.v (eC (.int 1)))))
def py_law_near : Fn := fnOf 2 2 bo_law_near
def co_law_beside_0 : M D :=
    (eComp (iOf (eCall py_law_cells [(eV 0)] [])) (.n 2) [2] (eCall py_law_near [(eV 1), (eV 2)] []) (eV 2))
def bo_law_beside : S :=
    (sRet co_law_beside_0)
def py_law_beside : Fn := fnOf 2 3 bo_law_beside
def co_law_parts_0 : M D :=
    (eComp (iOf (eV 0)) (.n 7) [7] (e2 pEq (.v (e2 pIxD (.b 2) (.v (eV 7)))) (.v (eV 8))) (eV 7))
def co_law_parts_1 : M D :=
    (eComp (iOf (eV 6)) (.n 8) [8] eYes co_law_parts_0)
def co_law_parts_2 : M D :=
    (eComp (iOf (eV 0)) (.n 7) [7] eYes (e2 pIxD (.b 2) (.v (eV 7))))
def fo_law_parts_0 : S :=
    (sIf (eAnd (e2 pLtT (.v (e2 pIxD (.b 2) (.v (eV 5)))) (.v (e2 pIxD (.b 2) (.v (eV 4))))) (eCallV [py_law_near] 1 [(eV 4), (eV 5)])) (sPut2 2 3 (eV 4) (e2 pIxD (.b 2) (.v (eV 5))) (eC (.bool true))) sNil)
def fo_law_parts_1 : S :=
    (sFor (iOf (eV 0)) (.n 5) fo_law_parts_0)
def wh_law_parts_0 : S :=
    (sWhile (eV 3) (sSeq (sSet false 3 (eC (.bool false)))
    (sFor (iOf (eV 0)) (.n 4) fo_law_parts_1)))
def co_law_parts_3 : M D :=
    (eComp (iOf (eV 0)) (.n 7) [7] eYes (eTup [(eV 7), (eV 7)]))
def bo_law_parts : S :=
    (sSeq (sPar true false 2 3 (e1 pDict (.v co_law_parts_3)) (eC (.bool true)))
    (sSeq wh_law_parts_0
    (sSeq (sSet false 6 (e1 pSortSetC (.v co_law_parts_2)))
    (sRet co_law_parts_1))))
def py_law_parts : Fn := fnOf 2 9 bo_law_parts
def co_law_flats_0 : M D :=
    (eComp (iOf (eCall py_law_cells [(eV 0)] [])) (.n 3) [3] eYes (eCall py_law_high [(eV 0), (eV 3)] []))
def co_law_flats_1 : M D :=
    (eComp (iOf (eCall py_law_cells [(eV 0)] [])) (.n 3) [3] (e2 pEq (.v (eCall py_law_high [(eV 0), (eV 3)] [])) (.v (eV 2))) (eV 3))
def fo_law_flats_0 : S :=
    (sExtend 1 (eCall py_law_parts [co_law_flats_1, (eC (.fn 0))] []))
def bo_law_flats : S :=
    (sSeq (sSet true 1 (eLst []))
    (sSeq (sFor (iOf (e1 pSortSetI (.v co_law_flats_0))) (.n 2) fo_law_flats_0)
    (sRet (e1 pSorted (.b 1)))))
def py_law_flats : Fn := fnOf 1 4 bo_law_flats
def co_upside_0 : M D :=
    (eComp (iOf (eV 1)) (.n 2) [2] eYes (e2 pSub (.v (eC (.int 999))) (.v (eV 2))))
def co_upside_1 : M D :=
    (eComp (iOf (eV 0)) (.n 1) [1] eYes (e1 pTup (.v co_upside_0)))
def bo_upside : S :=
    (sSeq (sExpr (eCall py_need_land [(eV 0)] []))
    (sRet (e1 pTup (.v co_upside_1))))
def py_upside : Fn := fnOf 1 3 bo_upside
def co_law_ends_0 : M D :=
    (eComp (iOf (eV 4)) (.n 6) [6] (e2 pGt (.v (eV 6)) (.v (eC (.int 0)))) (eV 6))
def co_law_ends_1 : M D :=
    (eComp (iOf (eCall py_law_beside [(eV 0), (eV 5)] [])) (.n 7) [7] eYes (e2 pMul (.v (eV 1)) (.v (e2 pSub (.v (eCall py_law_high [(eV 0), (eV 7)] [])) (.v (eCall py_law_high [(eV 0), (eV 5)] []))))))
def fo_law_ends_0 : S :=
    (sExtend 4 co_law_ends_1)
def fo_law_ends_1 : S :=
    (sSeq (sSet true 4 (eLst []))
    (sSeq (sFor (iOf (eV 3)) (.n 5) fo_law_ends_0)
    (sIf (e2 pEq (.v co_law_ends_0) (.v (eLst []))) (sAppend 2 (e2 pIx (.v (eV 3)) (.v (eC (.int 0))))) sNil)))
def bo_law_ends : S :=
    (sSeq (sSet true 2 (eLst []))
    (sSeq (sFor (iOf (eCall py_law_flats [(eV 0)] [])) (.n 3) fo_law_ends_1)
    (sRet (eV 2))))
def py_law_ends : Fn := fnOf 2 8 bo_law_ends
def co_law_peaks_0 : M D :=
    (eComp (iOf (eV 1)) (.t [(.n 3), (.n 2)]) [3, 2] eYes (eV 2))
def co_law_peaks_1 : M D :=
    (eComp (iOf (eCall py_law_ends [(eV 0), (eC (.int 1))] [])) (.n 2) [2] eYes (eTup [(e2 pSub (.v (eC (.int 0))) (.v (eCall py_law_high [(eV 0), (eV 2)] []))), (eV 2)]))
def bo_law_peaks : S :=
    (sSeq (sSet false 1 (e1 pSorted (.v co_law_peaks_1)))
    (sRet co_law_peaks_0))
def py_law_peaks : Fn := fnOf 1 4 bo_law_peaks
def co_land_at_0 : M D :=
    (eComp (iOf (eCall py_cells_of [(eV 0)] [])) (.n 2) [2] (e2 pGe (.v (eCall py_at [(eV 0), (eV 2)] [])) (.v (eV 1))) (eTup [(eV 2), (eC (.bool true))]))
def bo_land_at : S :=
    (sRet (e1 pDict (.v co_land_at_0)))
def py_land_at : Fn := fnOf 2 3 bo_land_at
def fo_pass_of_0 : S :=
    (sIf (e2 pIn (.v (eV 2)) (.v (eCall py_spread_of [(eV 0), (eV 1), (eCall py_land_at [(eV 0), (eV 4)] [])] []))) (sRet (eV 4)) sNil)
def co_pass_of_0 : M D :=
    (eComp (iOf (eCall py_cells_of [(eV 0)] [])) (.n 5) [5] (e2 pLe (.v (eCall py_at [(eV 0), (eV 5)] [])) (.v (eCall py_at [(eV 0), (eV 1)] []))) (eCall py_at [(eV 0), (eV 5)] []))
def bo_pass_of : S :=
    (sSeq (sSet false 3 (e1 pSortSetI (.v co_pass_of_0)))
    (sSeq (sFor (iOf (e1 pRev (.v (eV 3)))) (.n 4) fo_pass_of_0)
    (sRet (eC (.int 0)))))
def py_pass_of : Fn := fnOf 3 6 bo_pass_of
def bo_pass_between : S :=
    (sSeq (sExpr (eCall py_need_both [(eV 0), (eV 1)] []))
    (sSeq (sExpr (eCall py_need_cell [(eV 0), (eV 2)] []))
    (sRet (eCall py_pass_of [(eV 0), (eV 1), (eV 2)] []))))
def py_pass_between : Fn := fnOf 3 3 bo_pass_between
def fo_nearest_higher_0 : S :=
    (sIf (e2 pGt (.v (eCall py_at [(eV 0), (eV 3)] [])) (.v (eCall py_at [(eV 0), (eV 1)] []))) (sSeq (sPar false false 4 5 (e2 pSub (.v (e2 pIx (.v (eV 3)) (.v (eC (.int 0))))) (.v (e2 pIx (.v (eV 1)) (.v (eC (.int 0)))))) (e2 pSub (.v (e2 pIx (.v (eV 3)) (.v (eC (.int 1))))) (.v (e2 pIx (.v (eV 1)) (.v (eC (.int 1)))))))
    (sAppend 2 (eTup [(e2 pAdd (.v (e2 pMul (.v (eV 4)) (.v (eV 4)))) (.v (e2 pMul (.v (eV 5)) (.v (eV 5))))), (eV 3)]))) sNil)
def bo_nearest_higher : S :=
    (sSeq (sExpr (eCall py_need_both [(eV 0), (eV 1)] []))
    (sSeq (sSet true 2 (eLst []))
    (sSeq (sFor (iOf (eCall py_cells_of [(eV 0)] [])) (.n 3) fo_nearest_higher_0)
    (sRet (eIte (e2 pNe (.b 2) (.v (eLst []))) (e2 pIx (.v (e1 pMinD (.b 2))) (.v (eC (.int 1)))) (eC .none))))))
def py_nearest_higher : Fn := fnOf 2 6 bo_nearest_higher
def co_fall_of_0 : M D :=
    (eComp (iOf (eCall py_beside_of [(eV 0), (eV 3)] [])) (.n 5) [5] (e2 pLt (.v (eCall py_at [(eV 0), (eV 5)] [])) (.v (eCall py_at [(eV 0), (eV 3)] []))) (eTup [(eCall py_at [(eV 0), (eV 5)] []), (eV 5)]))
def wh_fall_of_0 : S :=
    (sWhile (eC (.bool true)) (sSeq (sSet false 3 (e2 pIx (.b 2) (.v (e1 pNeg (.v (eC (.int 1)))))))
    (sSeq (sSet false 4 co_fall_of_0)
    (sSeq (sIf (e2 pEq (.v (eV 4)) (.v (eLst []))) (sRet (eV 2)) sNil)
    (sAppend 2 (e2 pIx (.v (e1 pMinD (.v (eV 4)))) (.v (eC (.int 1)))))))))
def bo_fall_of : S :=
    (sSeq (sSet true 2 (eLst [(eV 1)]))
    wh_fall_of_0)
def py_fall_of : Fn := fnOf 2 6 bo_fall_of
def bo_falls : S :=
    (sSeq (sExpr (eCall py_need_both [(eV 0), (eV 1)] []))
    (sRet (eCall py_fall_of [(eV 0), (eV 1)] [])))
def py_falls : Fn := fnOf 2 2 bo_falls
def co_basin_0 : M D :=
    (eComp (iOf (eCall py_cells_of [(eV 0)] [])) (.n 2) [2] (e2 pEq (.v (e2 pIx (.v (eCall py_fall_of [(eV 0), (eV 2)] [])) (.v (e1 pNeg (.v (eC (.int 1))))))) (.v (eV 1))) (eV 2))
def bo_basin : S :=
    (sSeq (sExpr (eCall py_need_both [(eV 0), (eV 1)] []))
    (sRet co_basin_0))
def py_basin : Fn := fnOf 2 3 bo_basin
def bo_law_odd_cell : S :=
    (sSeq (sPar false false 3 4 (eLen (.v (eV 2))) (eLen (.v (e2 pIx (.v (eV 2)) (.v (eC (.int 0)))))))
    (sSeq (sSet false 5 (eLst [(eC .none), (eC (.int 5)), (eLst [(eC (.int 0)), (eC (.int 0))]), (eTup [(eC (.int 0))]), (eTup [(eC (.int 0)), (eC (.int 0)), (eC (.int 0))]), (eTup [(eV 3), (eC (.int 0))]), (eTup [(eC (.int 0)), (eV 4)]), (eTup [(e1 pNeg (.v (eC (.int 1)))), (eC (.int 0))]), (eTup [(eC (.int 0)), (e1 pNeg (.v (eC (.int 1))))]), (eTup [(eC (.int 0)), (eC (.str "0"))]), (eC (.str "00")), (eTup [(eC .none), (eC (.int 0))])]))
    (sRet (eCall py_law_pick [(eV 0), (eV 1), (eV 5)] []))))
def py_law_odd_cell : Fn := fnOf 3 6 bo_law_odd_cell
def bo_law_ask_v1 : S :=
    (sTry .cell4 (sSeq (sIf (e2 pEq (.v (eV 0)) (.v (eC (.int 6)))) (sRet (eCall py_pass_between [(eV 1), (eV 2), (eV 3)] [])) sNil)
    (sRet (eTab [py_flat, py_height, py_neighbours, py_nearest_higher, py_basin, py_falls] (eV 0) [(eV 1), (eV 2)]))))
def py_law_ask_v1 : Fn := fnOf 4 5 bo_law_ask_v1
def co_parts_of_0 : M D :=
    (eComp (iOf (e2 pIx (.b 2) (.v (e1 pNeg (.v (eC (.int 1))))))) (.n 5) [5] eYes (eTup [(eV 5), (eC (.bool true))]))
def fo_parts_of_0 : S :=
    (sIf (e2 pNotInD (.v (eV 4)) (.b 3)) (sSeq (sAppend 2 (eCall py_spread_of [(eV 0), (eV 4), (eV 1)] []))
    (sUpdD 3 (e1 pDict (.v co_parts_of_0)))) sNil)
def bo_parts_of : S :=
    (sSeq (sPar true true 2 3 (eLst []) eDct0)
    (sSeq (sFor (iOf (e1 pSorted (.v (e1 pLstD (.v (eV 1)))))) (.n 4) fo_parts_of_0)
    (sRet (eV 2))))
def py_parts_of : Fn := fnOf 2 6 bo_parts_of
def bo_need_level : S :=
    (sSeq (sExpr (eCall py_need_land [(eV 0)] []))
    (sIf (eNot (eCall py_is_whole [(eV 1), (eC (.int 0)), (eC (.int 999))] [])) (sRaise 3 .none) sNil))
def py_need_level : Fn := fnOf 2 2 bo_need_level
def bo_islands_of : S :=
    (sRet (eCall py_parts_of [(eV 0), (eCall py_land_at [(eV 0), (eV 1)] [])] []))
def py_islands_of : Fn := fnOf 2 2 bo_islands_of
def bo_islands : S :=
    (sSeq (sExpr (eCall py_need_level [(eV 0), (eV 1)] []))
    (sRet (eCall py_islands_of [(eV 0), (eV 1)] [])))
def py_islands : Fn := fnOf 2 2 bo_islands
def co_law_passes_0 : M D :=
    (eComp (iOf (eCall py_law_beside [(eV 0), (eV 4)] [])) (.n 6) [6] (e2 pInD (.v (eV 6)) (.b 2)) (e2 pMin2 (.v (e2 pIxD (.b 2) (.v (eV 6)))) (.v (eCall py_law_high [(eV 0), (eV 4)] []))))
def fo_law_passes_0 : S :=
    (sSeq (sSet false 5 co_law_passes_0)
    (sIf (eAnd (e2 pNe (.v (eV 5)) (.v (eLst []))) (e2 pGt (.v (e1 pMaxD (.v (eV 5)))) (.v (eGetD 2 (eV 4) (e1 pNeg (.v (eC (.int 1)))))))) (sPut2 2 3 (eV 4) (e1 pMaxD (.v (eV 5))) (eC (.bool true))) sNil))
def wh_law_passes_0 : S :=
    (sWhile (eV 3) (sSeq (sSet false 3 (eC (.bool false)))
    (sFor (iOf (eCall py_law_cells [(eV 0)] [])) (.n 4) fo_law_passes_0)))
def bo_law_passes : S :=
    (sSeq (sPar true false 2 3 (eDct1 (eV 1) (eCall py_law_high [(eV 0), (eV 1)] [])) (eC (.bool true)))
    (sSeq wh_law_passes_0
    (sRet (eV 2))))
def py_law_passes : Fn := fnOf 2 7 bo_law_passes
def bo_need_peak : S :=
    (sSeq (sExpr (eCall py_need_land [(eV 0)] []))
    (sIf (eOr (eNot (eCall py_is_cell [(eV 0), (eV 1)] [])) (e2 pNotIn (.v (eV 1)) (.v (eCall py_peaks_of [(eV 0)] [])))) (sRaise 2 (some (eV 1))) sNil))
def py_need_peak : Fn := fnOf 2 2 bo_need_peak
def co_saddle_of_0 : M D :=
    (eComp (iOf (eV 3)) (.n 5) [5] eYes (eCall py_pass_of [(eV 0), (eV 1), (eV 5)] []))
def co_saddle_of_1 : M D :=
    (eComp (iOf (eCall py_cells_of [(eV 0)] [])) (.n 4) [4] eYes (eCall py_at [(eV 0), (eV 4)] []))
def bo_saddle_of : S :=
    (sSeq (sSet false 2 (eCall py_peaks_of [(eV 0)] []))
    (sSeq (sSet false 3 (eCut (.v (eV 2)) none (some (eIdx 2 (eV 1)))))
    (sSeq (sIf (e2 pEq (.v (eV 3)) (.v (eLst []))) (sRet (e1 pMinD (.v co_saddle_of_1))) sNil)
    (sRet (e1 pMaxD (.v co_saddle_of_0))))))
def py_saddle_of : Fn := fnOf 2 6 bo_saddle_of
def bo_saddle : S :=
    (sSeq (sExpr (eCall py_need_peak [(eV 0), (eV 1)] []))
    (sRet (eCall py_saddle_of [(eV 0), (eV 1)] [])))
def py_saddle : Fn := fnOf 2 2 bo_saddle
def bo_rise : S :=
    (sSeq (sExpr (eCall py_need_peak [(eV 0), (eV 1)] []))
    (sRet (e2 pSub (.v (eCall py_at [(eV 0), (eV 1)] [])) (.v (eCall py_saddle_of [(eV 0), (eV 1)] [])))))
def py_rise : Fn := fnOf 2 2 bo_rise
def la_by_rise_0 : M D :=
    (eTup [(e2 pSub (.v (eC (.int 0))) (.v (e2 pIx (.v (eV 0)) (.v (eC (.int 1)))))), (e2 pIx (.v (eV 0)) (.v (eC (.int 0))))])
def ly_by_rise_0 : List D → Fn :=
    lamFn 1 1 la_by_rise_0
def co_by_rise_0 : M D :=
    (eComp (iOf (eSortK ly_by_rise_0 [] (.v (eV 3)))) (.t [(.n 5), (.n 6), (.n 4)]) [5, 6, 4] eYes (eV 4))
def co_by_rise_1 : M D :=
    (eComp (iEnumA (eV 2)) (.t [(.n 5), (.t [(.n 6), (.n 4)])]) [5, 6, 4] (e2 pGe (.v (eV 6)) (.v (eV 1))) (eTup [(eV 5), (eV 6), (eV 4)]))
def co_by_rise_2 : M D :=
    (eComp (iOf (eCall py_peaks_of [(eV 0)] [])) (.n 4) [4] eYes (eTup [(e2 pSub (.v (eCall py_at [(eV 0), (eV 4)] [])) (.v (eCall py_saddle_of [(eV 0), (eV 4)] []))), (eV 4)]))
def bo_by_rise : S :=
    (sSeq (sExpr (eCall py_need_land [(eV 0)] []))
    (sSeq (sIf (eNot (eCall py_is_whole [(eV 1), (eC (.int 0)), (eC (.int 999))] [])) (sRaise 6 .none) sNil)
    (sSeq (sSet false 2 co_by_rise_2)
    (sSeq (sSet false 3 co_by_rise_1)
    (sRet co_by_rise_0)))))
def py_by_rise : Fn := fnOf 2 7 bo_by_rise
def co_law_saddle_0 : M D :=
    (eComp (iOf (eV 3)) (.n 6) [6] eYes (e2 pIxD (.v (eV 4)) (.v (eV 6))))
def co_law_saddle_1 : M D :=
    (eComp (iOf (eV 0)) (.n 5) [5] eYes (e1 pMinD (.v (eV 5))))
def bo_law_saddle : S :=
    (sSeq (sSet false 2 (eCall py_law_peaks [(eV 0)] []))
    (sSeq (sSet false 3 (eCut (.v (eV 2)) none (some (eIdx 2 (eV 1)))))
    (sSeq (sIf (e2 pEq (.v (eV 3)) (.v (eLst []))) (sRet (e1 pMinD (.v co_law_saddle_1))) sNil)
    (sSeq (sSet false 4 (eCall py_law_passes [(eV 0), (eV 1)] []))
    (sRet (e1 pMaxD (.v co_law_saddle_0)))))))
def py_law_saddle : Fn := fnOf 2 7 bo_law_saddle
def co_lord_of_0 : M D :=
    (eComp (iOf (eV 2)) (.n 4) [4] (e2 pIn (.v (eV 4)) (.v (eV 3))) (eV 4))
def bo_lord_of : S :=
    (sSeq (sSet false 2 (eCall py_peaks_of [(eV 0)] []))
    (sSeq (sIf (e2 pEq (.v (e2 pIx (.v (eV 2)) (.v (eC (.int 0))))) (.v (eV 1))) (sRet (eC .none)) sNil)
    (sSeq (sSet false 3 (eCall py_spread_of [(eV 0), (eV 1), (eCall py_land_at [(eV 0), (eCall py_saddle_of [(eV 0), (eV 1)] [])] [])] []))
    (sRet (e2 pIx (.v co_lord_of_0) (.v (eC (.int 0))))))))
def py_lord_of : Fn := fnOf 2 5 bo_lord_of
def bo_lord : S :=
    (sSeq (sExpr (eCall py_need_peak [(eV 0), (eV 1)] []))
    (sRet (eCall py_lord_of [(eV 0), (eV 1)] [])))
def py_lord : Fn := fnOf 2 2 bo_lord
def wh_line_0 : S :=
    (sWhile (e1 pNotN (.v (eV 3))) (sSeq (sAppend 2 (eV 3))
    (sSet false 3 (eCall py_lord_of [(eV 0), (eV 3)] []))))
def bo_line : S :=
    (sSeq (sExpr (eCall py_need_peak [(eV 0), (eV 1)] []))
    (sSeq (sPar true false 2 3 (eLst []) (eCall py_lord_of [(eV 0), (eV 1)] []))
    (sSeq wh_line_0
    (sRet (eV 2)))))
def py_line : Fn := fnOf 2 4 bo_line
def co_head_0 : M D :=
    (eComp (iOf (eCall py_peaks_of [(eV 0)] [])) (.n 4) [4] (e2 pIn (.v (eV 4)) (.v (eV 3))) (eV 4))
def fo_head_0 : S :=
    (sIf (e2 pIn (.v (eV 2)) (.v (eV 3))) (sRet (e2 pIx (.v co_head_0) (.v (eC (.int 0))))) sNil)
def bo_head : S :=
    (sSeq (sExpr (eCall py_need_level [(eV 0), (eV 1)] []))
    (sSeq (sExpr (eCall py_need_cell [(eV 0), (eV 2)] []))
    (sSeq (sFor (iOf (eCall py_islands_of [(eV 0), (eV 1)] [])) (.n 3) fo_head_0)
    (sRet (eC .none)))))
def py_head : Fn := fnOf 3 5 bo_head
def bo_law_far : S :=
    (sRet (e2 pAdd (.v (e2 pPow (.v (e2 pSub (.v (e2 pIx (.v (eV 0)) (.v (eC (.int 0))))) (.v (e2 pIx (.v (eV 1)) (.v (eC (.int 0))))))) (.v (eC (.int 2))))) (.v (e2 pPow (.v (e2 pSub (.v (e2 pIx (.v (eV 0)) (.v (eC (.int 1))))) (.v (e2 pIx (.v (eV 1)) (.v (eC (.int 1))))))) (.v (eC (.int 2)))))))
def py_law_far : Fn := fnOf 2 2 bo_law_far
def bo_law_ask_v2 : S :=
    (sTry .peak3 (sRet (eTab [py_saddle, py_rise, py_lord, py_line, py_by_rise] (eV 0) [(eV 1), (eV 2)])))
def py_law_ask_v2 : Fn := fnOf 3 4 bo_law_ask_v2
def bo_are_beside : S :=
    (sRet (e2 pEq (.v (e2 pAdd (.v (e1 pAbs (.v (e2 pSub (.v (e2 pIx (.v (eV 0)) (.v (eC (.int 0))))) (.v (e2 pIx (.v (eV 1)) (.v (eC (.int 0))))))))) (.v (e1 pAbs (.v (e2 pSub (.v (e2 pIx (.v (eV 0)) (.v (eC (.int 1))))) (.v (e2 pIx (.v (eV 1)) (.v (eC (.int 1))))))))))) (.v (eC (.int 1)))))
def py_are_beside : Fn := fnOf 2 2 bo_are_beside
def co_is_good_0 : M D :=
    (eComp (iZip (eV 1) (eCut (.v (eV 1)) (some (eC (.int 1))) none)) (.t [(.n 3), (.n 4)]) [3, 4] eYes (eCall py_are_beside [(eV 3), (eV 4)] []))
def co_is_good_1 : M D :=
    (eComp (iOf (eV 1)) (.n 2) [2] eYes (eCall py_is_cell [(eV 0), (eV 2)] []))
def bo_is_good : S :=
    (sSeq (sIf (eOr (eNot (e1 pIsLst (.v (eV 1)))) (eOr (e2 pEq (.v (eV 1)) (.v (eLst []))) (eNot (e1 pAll (.v co_is_good_1))))) (sRet (eC (.bool false))) sNil)
    (sRet (e1 pAll (.v co_is_good_0))))
def py_is_good : Fn := fnOf 2 5 bo_is_good
def bo_is_walk : S :=
    (sSeq (sExpr (eCall py_need_land [(eV 0)] []))
    (sRet (eCall py_is_good [(eV 0), (eV 1)] [])))
def py_is_walk : Fn := fnOf 2 2 bo_is_walk
def co_heights_of_0 : M D :=
    (eComp (iOf (eV 1)) (.n 2) [2] eYes (eCall py_at [(eV 0), (eV 2)] []))
def bo_heights_of : S :=
    (sSeq (sExpr (eCall py_need_land [(eV 0)] []))
    (sSeq (sIf (eNot (eCall py_is_good [(eV 0), (eV 1)] [])) (sRaise 5 .none) sNil)
    (sRet co_heights_of_0)))
def py_heights_of : Fn := fnOf 2 3 bo_heights_of
def bo_low_of : S :=
    (sRet (e1 pMinD (.v (eCall py_heights_of [(eV 0), (eV 1)] []))))
def py_low_of : Fn := fnOf 2 2 bo_low_of
def co_climb_of_0 : M D :=
    (eComp (iZip (eV 2) (eCut (.v (eV 2)) (some (eC (.int 1))) none)) (.t [(.n 3), (.n 4)]) [3, 4] eYes (e2 pMax2 (.v (eC (.int 0))) (.v (e2 pSub (.v (eV 4)) (.v (eV 3))))))
def bo_climb_of : S :=
    (sSeq (sSet false 2 (eCall py_heights_of [(eV 0), (eV 1)] []))
    (sRet (e1 pSum (.v co_climb_of_0))))
def py_climb_of : Fn := fnOf 2 5 bo_climb_of
def bo_loss_of : S :=
    (sRet (eCall py_climb_of [(eV 0), (eIte (e1 pIsLst (.v (eV 1))) (e1 pRevL (.v (eV 1))) (eV 1))] []))
def py_loss_of : Fn := fnOf 2 2 bo_loss_of
def co_steepest_of_0 : M D :=
    (eComp (iZip (eV 2) (eCut (.v (eV 2)) (some (eC (.int 1))) none)) (.t [(.n 3), (.n 4)]) [3, 4] eYes (e1 pAbs (.v (e2 pSub (.v (eV 4)) (.v (eV 3))))))
def bo_steepest_of : S :=
    (sSeq (sSet false 2 (eCall py_heights_of [(eV 0), (eV 1)] []))
    (sRet (e1 pMaxD (.v (e2 pAdd (.v (eLst [(eC (.int 0))])) (.v co_steepest_of_0))))))
def py_steepest_of : Fn := fnOf 2 5 bo_steepest_of
def fo_law_walk_0 : S :=
    (sSeq (sSet false 6 (eCall py_law_beside [(eV 2), (e2 pIx (.b 4) (.v (e1 pNeg (.v (eC (.int 1))))))] []))
    (sIf (e2 pNe (.v (eV 6)) (.v (eLst []))) (sAppend 4 (eCall py_law_pick [(eV 0), (eV 1), (eV 6)] [])) sNil))
def bo_law_walk : S :=
    (sSeq (sSet true 4 (eLst [(eCall py_law_pick [(eV 0), (eV 1), (eCall py_law_cells [(eV 2)] [])] [])]))
    (sSeq (sFor (iRange1 (eCall py_law_draw [(eV 0), (eV 1), (eV 3)] [])) (.n 5) fo_law_walk_0)
    (sRet (eV 4))))
def py_law_walk : Fn := fnOf 4 7 bo_law_walk
def bo_law_ask_v3 : S :=
    (sTry .no (sRet (eTab [py_low_of, py_climb_of, py_loss_of, py_steepest_of] (eV 0) [(eV 1), (eV 2)])))
def py_law_ask_v3 : Fn := fnOf 3 4 bo_law_ask_v3
def fo_law_numbers_0 : S :=
    (sSeq (sSet false 8 (e2 pSub (.v (eCall py_law_high [(eV 0), (eV 7)] [])) (.v (eCall py_law_high [(eV 0), (eV 6)] []))))
    (sSeq (sPar false false 2 5 (e2 pMin2 (.v (eV 2)) (.v (eCall py_law_high [(eV 0), (eV 7)] []))) (e2 pMax2 (.v (eV 5)) (.v (e1 pAbs (.v (eV 8))))))
    (sIf (e2 pGt (.v (eV 8)) (.v (eC (.int 0)))) (sSet false 3 (e2 pAdd (.v (eV 3)) (.v (eV 8)))) (sSet false 4 (e2 pSub (.v (eV 4)) (.v (eV 8)))))))
def bo_law_numbers : S :=
    (sSeq (sParV [2, 3, 4, 5] [(eCall py_law_high [(eV 0), (e2 pIx (.v (eV 1)) (.v (eC (.int 0))))] []), (eC (.int 0)), (eC (.int 0)), (eC (.int 0))])
    (sSeq (sFor (iZip (eV 1) (eCut (.v (eV 1)) (some (eC (.int 1))) none)) (.t [(.n 6), (.n 7)]) fo_law_numbers_0)
    (sRet (eLst [(eV 2), (eV 3), (eV 4), (eV 5)]))))
def py_law_numbers : Fn := fnOf 2 9 bo_law_numbers
def bo_need_two : S :=
    (sSeq (sExpr (eCall py_need_both [(eV 0), (eV 1)] []))
    (sExpr (eCall py_need_cell [(eV 0), (eV 2)] [])))
def py_need_two : Fn := fnOf 3 3 bo_need_two
def fo_prices_to_0 : S :=
    (sSeq (sSet false 8 (eCallC Lt 2 [(eV 7), (eV 6)]))
    (sIf (e1 pNotN (.v (eV 8))) (sSeq (sSet false 9 (eTup [(e2 pAdd (.v (e2 pIx (.v (e2 pIxD (.b 3) (.v (eV 6)))) (.v (eC (.int 0))))) (.v (eV 8))), (e2 pAdd (.v (e2 pIx (.v (e2 pIxD (.b 3) (.v (eV 6)))) (.v (eC (.int 1))))) (.v (eC (.int 1))))]))
    (sIf (eOr (e2 pNotInD (.v (eV 7)) (.b 3)) (e2 pLtT (.v (eV 9)) (.v (e2 pIxD (.b 3) (.v (eV 7)))))) (sSeq (sPutD 3 (eV 7) (eV 9))
    (sPutD 5 (eV 7) (eC (.bool true)))) sNil)) sNil))
def fo_prices_to_1 : S :=
    (sFor (iOf (eCall py_beside_of [(eV 0), (eV 6)] [])) (.n 7) (fo_prices_to_0 Lt))
def wh_prices_to_0 : S :=
    (sWhile (e2 pNe (.v (eV 4)) (.v (eLst []))) (sSeq (sSet true 5 eDct0)
    (sSeq (sFor (iOf (eV 4)) (.n 6) (fo_prices_to_1 Lt))
    (sSet false 4 (e1 pSorted (.v (e1 pLstD (.b 5))))))))
def bo_prices_to : S :=
    (sSeq (sPar true false 3 4 (eDct1 (eV 1) (eTup [(eC (.int 0)), (eC (.int 0))])) (eLst [(eV 1)]))
    (sSeq (wh_prices_to_0 Lt)
    (sRet (eV 3))))
def py_prices_to : Fn := fnOf 3 10 (bo_prices_to Lt)
def fo_next_cell_0 : S :=
    (sSeq (sSet false 5 (eCallC Lt 3 [(eV 1), (eV 4)]))
    (sIf (eAnd (e1 pNotN (.v (eV 5))) (e2 pInD (.v (eV 4)) (.v (eV 2)))) (sIf (e2 pEq (.v (eTup [(e2 pAdd (.v (e2 pIx (.v (e2 pIxD (.v (eV 2)) (.v (eV 4)))) (.v (eC (.int 0))))) (.v (eV 5))), (e2 pAdd (.v (e2 pIx (.v (e2 pIxD (.v (eV 2)) (.v (eV 4)))) (.v (eC (.int 1))))) (.v (eC (.int 1))))])) (.v (e2 pIxD (.v (eV 2)) (.v (eV 1))))) (sRet (eV 4)) sNil) sNil))
def bo_next_cell : S :=
    (sSeq (sFor (iOf (eCall py_beside_of [(eV 0), (eV 1)] [])) (.n 4) (fo_next_cell_0 Lt))
    (sRet (eV 1)))
def py_next_cell : Fn := fnOf 4 6 (bo_next_cell Lt)
def wh_first_walk_0 : S :=
    (sWhile (e2 pNe (.v (e2 pIxD (.v (eV 2)) (.v (e2 pIx (.b 4) (.v (e1 pNeg (.v (eC (.int 1))))))))) (.v (eTup [(eC (.int 0)), (eC (.int 0))]))) (sAppend 4 (eCall (py_next_cell Lt) [(eV 0), (e2 pIx (.b 4) (.v (e1 pNeg (.v (eC (.int 1)))))), (eV 2), (eV 3)] [])))
def bo_first_walk : S :=
    (sSeq (sSet true 4 (eLst [(eV 1)]))
    (sSeq (wh_first_walk_0 Lt)
    (sRet (eV 4))))
def py_first_walk : Fn := fnOf 4 5 (bo_first_walk Lt)
def la_dry_price_0 : M D :=
    (eIte (e2 pGe (.v (e2 pMin2 (.v (eCall py_at [(eV 2), (eV 0)] [])) (.v (eCall py_at [(eV 2), (eV 1)] [])))) (.v (eV 3))) (eC (.int 0)) (eC .none))
def ly_dry_price_0 : List D → Fn :=
    lamFn 2 4 la_dry_price_0
def py_dry_price : Fn := lamRet 2 3 [0, 1]
def la_climb_price_0 : M D :=
    (e2 pMax2 (.v (eC (.int 0))) (.v (e2 pSub (.v (eCall py_at [(eV 2), (eV 1)] [])) (.v (eCall py_at [(eV 2), (eV 0)] [])))))
def ly_climb_price_0 : List D → Fn :=
    lamFn 2 3 la_climb_price_0
def py_climb_price : Fn := lamRet 1 2 [0]
def bo_best_walk : S :=
    (sSeq (sExpr (eCall py_need_two [(eV 0), (eV 1), (eV 2)] []))
    (sSeq (sSet false 3 (eCall py_dry_price [(eV 0), (eCall py_pass_of [(eV 0), (eV 1), (eV 2)] [])] []))
    (sRet (eCall (py_first_walk Lt) [(eV 0), (eV 1), (eCall (py_prices_to Lt) [(eV 0), (eV 2), (eV 3)] []), (eV 3)] []))))
def py_best_walk : Fn := fnOf 3 4 (bo_best_walk Lt)
def bo_climb_walk : S :=
    (sSeq (sExpr (eCall py_need_two [(eV 0), (eV 1), (eV 2)] []))
    (sSeq (sSet false 3 (eCall py_climb_price [(eV 0)] []))
    (sRet (eCall (py_first_walk Lt) [(eV 0), (eV 1), (eCall (py_prices_to Lt) [(eV 0), (eV 2), (eV 3)] []), (eV 3)] []))))
def py_climb_walk : Fn := fnOf 3 4 (bo_climb_walk Lt)
def bo_least_climb : S :=
    (sSeq (sExpr (eCall py_need_two [(eV 0), (eV 1), (eV 2)] []))
    (sRet (e2 pIx (.v (e2 pIxD (.v (eCall (py_prices_to Lt) [(eV 0), (eV 2), (eCall py_climb_price [(eV 0)] [])] [])) (.v (eV 1)))) (.v (eC (.int 0))))))
def py_least_climb : Fn := fnOf 3 3 (bo_least_climb Lt)
def bo_least_loss : S :=
    (sSeq (sExpr (eCall py_need_two [(eV 0), (eV 1), (eV 2)] []))
    (sRet (e2 pIx (.v (e2 pIxD (.v (eCall (py_prices_to Lt) [(eV 0), (eV 1), (eCall py_climb_price [(eV 0)] [])] [])) (.v (eV 2)))) (.v (eC (.int 0))))))
def py_least_loss : Fn := fnOf 3 3 (bo_least_loss Lt)
def la_slope_price_0 : M D :=
    (eIte (e2 pLe (.v (e1 pAbs (.v (e2 pSub (.v (eCall py_at [(eV 2), (eV 0)] [])) (.v (eCall py_at [(eV 2), (eV 1)] [])))))) (.v (eV 3))) (eC (.int 0)) (eC .none))
def ly_slope_price_0 : List D → Fn :=
    lamFn 2 4 la_slope_price_0
def py_slope_price : Fn := lamRet 2 4 [0, 1]
def bo_steps_by : S :=
    (sSeq (sSet false 4 (eCall (py_prices_to Lt) [(eV 0), (eV 2), (eCall py_slope_price [(eV 0), (eV 3)] [])] []))
    (sRet (eIte (e2 pInD (.v (eV 1)) (.v (eV 4))) (e2 pIx (.v (e2 pIxD (.v (eV 4)) (.v (eV 1)))) (.v (eC (.int 1)))) (eC .none))))
def py_steps_by : Fn := fnOf 4 5 (bo_steps_by Lt)
def wh_least_steep_0 : S :=
    (sWhile (e2 pLt (.v (e2 pAdd (.v (eV 3)) (.v (eC (.int 1))))) (.v (eV 4))) (sSeq (sSet false 5 (e2 pFdiv (.v (e2 pAdd (.v (eV 3)) (.v (eV 4)))) (.v (eC (.int 2)))))
    (sIf (e1 pIsN (.v (eCall (py_steps_by Lt) [(eV 0), (eV 1), (eV 2), (eV 5)] []))) (sSet false 3 (eV 5)) (sSet false 4 (eV 5)))))
def bo_least_steep : S :=
    (sSeq (sExpr (eCall py_need_two [(eV 0), (eV 1), (eV 2)] []))
    (sSeq (sPar false false 3 4 (e1 pNeg (.v (eC (.int 1)))) (eC (.int 999)))
    (sSeq (wh_least_steep_0 Lt)
    (sRet (eV 4)))))
def py_least_steep : Fn := fnOf 3 6 (bo_least_steep Lt)
def co_law_all_0 : M D :=
    (eComp (iOf (eCall py_law_beside [(eV 0), (e2 pIx (.v (eV 5)) (.v (e1 pNeg (.v (eC (.int 1))))))] [])) (.n 6) [6] (e2 pNotIn (.v (eV 6)) (.v (eV 5))) (e2 pAdd (.v (eV 5)) (.v (eLst [(eV 6)]))))
def wh_law_all_0 : S :=
    (sWhile (e2 pNe (.b 4) (.v (eLst []))) (sSeq (sSet false 5 (ePop 4))
    (sIf (e2 pEq (.v (e2 pIx (.v (eV 5)) (.v (e1 pNeg (.v (eC (.int 1))))))) (.v (eV 2))) (sAppend 3 (eV 5)) (sExtend 4 co_law_all_0))))
def bo_law_all : S :=
    (sSeq (sPar true true 3 4 (eLst []) (eLst [(eLst [(eV 1)])]))
    (sSeq wh_law_all_0
    (sRet (eV 3))))
def py_law_all : Fn := fnOf 3 7 bo_law_all
def co_law_least_0 : M D :=
    (eComp (iOf (eV 1)) (.n 3) [3] eYes (eTup [(eCallC Lt 2 [(eV 3)]), (eLen (.v (eV 3))), (eV 3)]))
def bo_law_least : S :=
    (sRet (e2 pIx (.v (e1 pMinD (.v (co_law_least_0 Lt)))) (.v (eC (.int 2)))))
def py_law_least : Fn := fnOf 3 4 (bo_law_least Lt)
def fo_law_steps_0 : S :=
    (sPutD 3 (eV 6) (e2 pAdd (.v (e2 pIxD (.b 3) (.v (e2 pIx (.v (eV 4)) (.v (eC (.int 0))))))) (.v (eC (.int 1)))))
def co_law_steps_0 : M D :=
    (eComp (iOf (eCall py_law_beside [(eV 0), (eV 6)] [])) (.n 7) [7] (eAnd (e2 pIn (.v (eV 7)) (.v (eV 2))) (e2 pNotInD (.v (eV 7)) (.b 3))) (eV 7))
def fo_law_steps_1 : S :=
    (sExtend 5 co_law_steps_0)
def wh_law_steps_0 : S :=
    (sWhile (e2 pNe (.v (eV 4)) (.v (eLst []))) (sSeq (sSet true 5 (eLst []))
    (sSeq (sFor (iOf (eV 4)) (.n 6) fo_law_steps_1)
    (sSeq (sFor (iOf (eV 5)) (.n 6) fo_law_steps_0)
    (sSet false 4 (e1 pSortSetC (.b 5)))))))
def bo_law_steps : S :=
    (sSeq (sPar true false 3 4 (eDct1 (eV 1) (eC (.int 0))) (eLst [(eV 1)]))
    (sSeq wh_law_steps_0
    (sRet (eV 3))))
def py_law_steps : Fn := fnOf 3 8 bo_law_steps
def fo_law_climbs_0 : S :=
    (sIf (e2 pInD (.v (eV 5)) (.b 2)) (sSeq (sSet false 6 (e2 pAdd (.v (e2 pIxD (.b 2) (.v (eV 5)))) (.v (e2 pMax2 (.v (eC (.int 0))) (.v (e2 pSub (.v (eCall py_law_high [(eV 0), (eV 4)] [])) (.v (eCall py_law_high [(eV 0), (eV 5)] []))))))))
    (sIf (eOr (e2 pNotInD (.v (eV 4)) (.b 2)) (e2 pLt (.v (eV 6)) (.v (e2 pIxD (.b 2) (.v (eV 4)))))) (sPut2 2 3 (eV 4) (eV 6) (eC (.bool true))) sNil)) sNil)
def fo_law_climbs_1 : S :=
    (sFor (iOf (eCall py_law_beside [(eV 0), (eV 4)] [])) (.n 5) fo_law_climbs_0)
def wh_law_climbs_0 : S :=
    (sWhile (eV 3) (sSeq (sSet false 3 (eC (.bool false)))
    (sFor (iOf (eCall py_law_cells [(eV 0)] [])) (.n 4) fo_law_climbs_1)))
def bo_law_climbs : S :=
    (sSeq (sPar true false 2 3 (eDct1 (eV 1) (eC (.int 0))) (eC (.bool true)))
    (sSeq wh_law_climbs_0
    (sRet (eV 2))))
def py_law_climbs : Fn := fnOf 2 7 bo_law_climbs
def bo_steps_within : S :=
    (sSeq (sExpr (eCall py_need_two [(eV 0), (eV 1), (eV 2)] []))
    (sSeq (sIf (eNot (eCall py_is_whole [(eV 3), (eC (.int 0)), (eC (.int 999))] [])) (sRaise 4 .none) sNil)
    (sRet (eCall (py_steps_by Lt) [(eV 0), (eV 1), (eV 2), (eV 3)] []))))
def py_steps_within : Fn := fnOf 4 4 (bo_steps_within Lt)
def fo_law_steps_v1_0 : S :=
    (sSeq (sSet false 9 (e1 pAbs (.v (e2 pSub (.v (eCall py_law_high [(eV 0), (eV 7)] [])) (.v (eCall py_law_high [(eV 0), (eV 8)] []))))))
    (sIf (eAnd (e2 pNotInD (.v (eV 8)) (.b 3)) (e2 pLe (.v (eV 9)) (.v (eV 2)))) (sSeq (sPutD 3 (eV 8) (eV 5))
    (sAppend 6 (eV 8))) sNil))
def fo_law_steps_v1_1 : S :=
    (sFor (iOf (eCall py_law_beside [(eV 0), (eV 7)] [])) (.n 8) fo_law_steps_v1_0)
def wh_law_steps_v1_0 : S :=
    (sWhile (e2 pNe (.v (eV 4)) (.v (eLst []))) (sSeq (sPar true false 6 5 (eLst []) (e2 pAdd (.v (eV 5)) (.v (eC (.int 1)))))
    (sSeq (sFor (iOf (eV 4)) (.n 7) fo_law_steps_v1_1)
    (sSet false 4 (eV 6)))))
def bo_law_steps_v1 : S :=
    (sSeq (sPar3b true false 3 4 5 (eDct1 (eV 1) (eC (.int 0))) (eLst [(eV 1)]) (.int 0))
    (sSeq wh_law_steps_v1_0
    (sRet (eV 3))))
def py_law_steps_v1 : Fn := fnOf 3 10 bo_law_steps_v1
def bo_law_ask_v4 : S :=
    (sTry .cell (sSeq (sIf (e2 pEq (.v (eV 0)) (.v (eC (.int 5)))) (sRet (eCall (py_steps_within Lt) [(eV 1), (eV 2), (eV 3), (eV 4)] [])) sNil)
    (sRet (eTab [(py_best_walk Lt), (py_climb_walk Lt), (py_least_climb Lt), (py_least_loss Lt), (py_least_steep Lt)] (eV 0) [(eV 1), (eV 2), (eV 3)]))))
def py_law_ask_v4 : Fn := fnOf 5 6 (bo_law_ask_v4 Lt)
def bo_law_walk_ask : S :=
    (sTry .no (sRet (eTab [py_is_walk, py_low_of, py_climb_of, py_loss_of, py_steepest_of] (eV 0) [(eV 1), (eV 2)])))
def py_law_walk_ask : Fn := fnOf 3 4 bo_law_walk_ask
def co_levels_0 : M D :=
    (eComp (iOf (e1 pRev (.v (eV 1)))) (.n 3) [3] eYes (eTup [(eV 3), (eLen (.v (eCall py_islands_of [(eV 0), (eV 3)] [])))]))
def co_levels_1 : M D :=
    (eComp (iOf (eCall py_cells_of [(eV 0)] [])) (.n 2) [2] eYes (eCall py_at [(eV 0), (eV 2)] []))
def bo_levels : S :=
    (sSeq (sExpr (eCall py_need_land [(eV 0)] []))
    (sSeq (sSet false 1 (e1 pSortSetI (.v co_levels_1)))
    (sRet co_levels_0)))
def py_levels : Fn := fnOf 1 4 bo_levels
def fo_touching_0 : S :=
    (sIf (eAnd (e2 pNe (.v (eTup [(eV 3), (eV 4)])) (.v (eV 1))) (eCall py_is_cell [(eV 0), (eTup [(eV 3), (eV 4)])] [])) (sAppend 2 (eTup [(eV 3), (eV 4)])) sNil)
def fo_touching_1 : S :=
    (sFor (iRange2 (e2 pSub (.v (e2 pIx (.v (eV 1)) (.v (eC (.int 1))))) (.v (eC (.int 1)))) (e2 pAdd (.v (e2 pIx (.v (eV 1)) (.v (eC (.int 1))))) (.v (eC (.int 2))))) (.n 4) fo_touching_0)
def bo_touching : S :=
    (sSeq (sSet true 2 (eLst []))
    (sSeq (sFor (iRange2 (e2 pSub (.v (e2 pIx (.v (eV 1)) (.v (eC (.int 0))))) (.v (eC (.int 1)))) (e2 pAdd (.v (e2 pIx (.v (eV 1)) (.v (eC (.int 0))))) (.v (eC (.int 2))))) (.n 3) fo_touching_1)
    (sRet (eV 2))))
def py_touching : Fn := fnOf 2 5 bo_touching
def fo_water_part_0 : S :=
    (sIf (eAnd (e2 pInD (.v (eV 5)) (.v (eV 2))) (e2 pNotInD (.v (eV 5)) (.b 3))) (sSeq (sPutD 3 (eV 5) (eC (.bool true)))
    (sAppend 4 (eV 5))) sNil)
def wh_water_part_0 : S :=
    (sWhile (e2 pNe (.b 4) (.v (eLst []))) (sFor (iOf (eCall py_touching [(eV 0), (ePop 4)] [])) (.n 5) fo_water_part_0))
def bo_water_part : S :=
    (sSeq (sPar true true 3 4 (eDct1 (eV 1) (eC (.bool true))) (eLst [(eV 1)]))
    (sSeq wh_water_part_0
    (sRet (e1 pSorted (.v (e1 pLstD (.b 3)))))))
def py_water_part : Fn := fnOf 3 6 bo_water_part
def bo_is_rim : S :=
    (sRet (eOr (e2 pIn (.v (e2 pIx (.v (eV 1)) (.v (eC (.int 0))))) (.v (eTup [(eC (.int 0)), (e2 pSub (.v (eLen (.v (eV 0)))) (.v (eC (.int 1))))]))) (e2 pIn (.v (e2 pIx (.v (eV 1)) (.v (eC (.int 1))))) (.v (eTup [(eC (.int 0)), (e2 pSub (.v (eLen (.v (e2 pIx (.v (eV 0)) (.v (eC (.int 0))))))) (.v (eC (.int 1))))])))))
def py_is_rim : Fn := fnOf 2 2 bo_is_rim
def co_lakes_0 : M D :=
    (eComp (iOf (eV 6)) (.n 7) [7] eYes (eCall py_is_rim [(eV 0), (eV 7)] []))
def co_lakes_1 : M D :=
    (eComp (iOf (eV 6)) (.n 7) [7] eYes (eTup [(eV 7), (eC (.bool true))]))
def fo_lakes_0 : S :=
    (sIf (e2 pNotInD (.v (eV 5)) (.b 4)) (sSeq (sSet false 6 (eCall py_water_part [(eV 0), (eV 5), (eV 2)] []))
    (sSeq (sUpdD 4 (e1 pDict (.v co_lakes_1)))
    (sIf (eNot (e1 pAny (.v co_lakes_0))) (sAppend 3 (eV 6)) sNil))) sNil)
def co_lakes_2 : M D :=
    (eComp (iOf (eCall py_cells_of [(eV 0)] [])) (.n 5) [5] (e2 pLt (.v (eCall py_at [(eV 0), (eV 5)] [])) (.v (eV 1))) (eTup [(eV 5), (eC (.bool true))]))
def bo_lakes : S :=
    (sSeq (sExpr (eCall py_need_level [(eV 0), (eV 1)] []))
    (sSeq (sSet false 2 (e1 pDict (.v co_lakes_2)))
    (sSeq (sPar true true 3 4 (eLst []) eDct0)
    (sSeq (sFor (iOf (e1 pSorted (.v (e1 pLstD (.v (eV 2)))))) (.n 5) fo_lakes_0)
    (sRet (eV 3))))))
def py_lakes : Fn := fnOf 2 8 bo_lakes
def co_shore_0 : M D :=
    (eComp (iOf (eCall py_beside_of [(eV 0), (eV 3)] [])) (.n 4) [4] (e2 pInD (.v (eV 4)) (.v (eV 2))) (eV 4))
def co_shore_1 : M D :=
    (eComp (iOf (eV 2)) (.n 3) [3] eYes (e2 pSub (.v (eC (.int 4))) (.v (eLen (.v co_shore_0)))))
def bo_shore : S :=
    (sSeq (sExpr (eCall py_need_level [(eV 0), (eV 1)] []))
    (sSeq (sSet false 2 (eCall py_land_at [(eV 0), (eV 1)] []))
    (sRet (e1 pSum (.v co_shore_1)))))
def py_shore : Fn := fnOf 2 5 bo_shore
def bo_law_touch : S :=
    (sRet (e2 pEq (.v (e2 pMax2 (.v (e1 pAbs (.v (e2 pSub (.v (e2 pIx (.v (eV 0)) (.v (eC (.int 0))))) (.v (e2 pIx (.v (eV 1)) (.v (eC (.int 0))))))))) (.v (e1 pAbs (.v (e2 pSub (.v (e2 pIx (.v (eV 0)) (.v (eC (.int 1))))) (.v (e2 pIx (.v (eV 1)) (.v (eC (.int 1))))))))))) (.v (eC (.int 1)))))
def py_law_touch : Fn := fnOf 2 2 bo_law_touch
def co_law_parts_v1_0 : M D :=
    (eComp (iOf (eV 0)) (.n 7) [7] (e2 pEq (.v (e2 pIxD (.b 2) (.v (eV 7)))) (.v (eV 8))) (eV 7))
def co_law_parts_v1_1 : M D :=
    (eComp (iOf (eV 6)) (.n 8) [8] eYes co_law_parts_v1_0)
def co_law_parts_v1_2 : M D :=
    (eComp (iOf (eV 0)) (.n 7) [7] eYes (e2 pIxD (.b 2) (.v (eV 7))))
def fo_law_parts_v1_0 : S :=
    (sIf (eAnd (e2 pLtT (.v (e2 pIxD (.b 2) (.v (eV 5)))) (.v (e2 pIxD (.b 2) (.v (eV 4))))) (eCallV [py_law_touch] 1 [(eV 4), (eV 5)])) (sPut2 2 3 (eV 4) (e2 pIxD (.b 2) (.v (eV 5))) (eC (.bool true))) sNil)
def fo_law_parts_v1_1 : S :=
    (sFor (iOf (eV 0)) (.n 5) fo_law_parts_v1_0)
def wh_law_parts_v1_0 : S :=
    (sWhile (eV 3) (sSeq (sSet false 3 (eC (.bool false)))
    (sFor (iOf (eV 0)) (.n 4) fo_law_parts_v1_1)))
def co_law_parts_v1_3 : M D :=
    (eComp (iOf (eV 0)) (.n 7) [7] eYes (eTup [(eV 7), (eV 7)]))
def bo_law_parts_v1 : S :=
    (sSeq (sPar true false 2 3 (e1 pDict (.v co_law_parts_v1_3)) (eC (.bool true)))
    (sSeq wh_law_parts_v1_0
    (sSeq (sSet false 6 (e1 pSortSetC (.v co_law_parts_v1_2)))
    (sRet co_law_parts_v1_1))))
def py_law_parts_v1 : Fn := fnOf 2 9 bo_law_parts_v1
def fo_map_at_0 : S :=
    sNever
def fo_map_at_1 : S :=
    (sFor (iOf (eV 4)) (.t [(.n 5), (.n 6)]) fo_map_at_0)
def co_map_at_0 : M D :=
    (eComp (iOf (eV 0)) (.n 7) [7] eYes (e2 pRepL (.v (eLst [(eC (.str "."))])) (.v (eLen (.v (e2 pIx (.v (eV 0)) (.v (eC (.int 0)))))))))
def bo_map_at : S :=
    (sSeq (sExpr (eCall py_need_level [(eV 0), (eV 1)] []))
    (sSeq (sSet true 2 co_map_at_0)
    (sSeq (sFor (iEnumA (eCall py_islands_of [(eV 0), (eV 1)] [])) (.t [(.n 3), (.n 4)]) fo_map_at_1)
    sNever)))
def py_map_at : Fn := fnOf 2 8 bo_map_at
def bo_law_ask_v5 : S :=
    (sTry .cell (sSeq (sIf (e2 pEq (.v (eV 0)) (.v (eC (.int 5)))) (sRet (eCall py_levels [(eV 1)] [])) sNil)
    (sRet (eIte (e2 pEq (.v (eV 0)) (.v (eC (.int 4)))) (eCall py_head [(eV 1), (eV 2), (eV 3)] []) (eTab [py_islands, py_lakes, py_shore, py_map_at] (eV 0) [(eV 1), (eV 2)])))))
def py_law_ask_v5 : Fn := fnOf 4 5 bo_law_ask_v5
def co_basins_0 : M D :=
    (eComp (iOf (e1 pSorted (.v (e1 pLstD (.b 1))))) (.n 2) [2] eYes (eTup [(eV 2), (e2 pIxD (.b 1) (.v (eV 2)))]))
def fo_basins_0 : S :=
    (sSeq (sSet false 3 (e2 pIx (.v (eCall py_fall_of [(eV 0), (eV 2)] [])) (.v (e1 pNeg (.v (eC (.int 1)))))))
    (sPutD 1 (eV 3) (e2 pAdd (.v (eGetD 1 (eV 3) (eC (.int 0)))) (.v (eC (.int 1))))))
def bo_basins : S :=
    (sSeq (sExpr (eCall py_need_land [(eV 0)] []))
    (sSeq (sSet true 1 eDct0)
    (sSeq (sFor (iOf (eCall py_cells_of [(eV 0)] [])) (.n 2) fo_basins_0)
    (sRet co_basins_0))))
def py_basins : Fn := fnOf 1 4 bo_basins
def wh_common_part_0 : S :=
    (sWhile (e2 pNe (.v (eV 1)) (.v (eC (.int 0)))) (sPar false false 0 1 (eV 1) (e2 pMod (.v (eV 0)) (.v (eV 1)))))
def bo_common_part : S :=
    (sSeq wh_common_part_0
    (sRet (eV 0)))
def py_common_part : Fn := fnOf 2 2 bo_common_part
def co_between_of_0 : M D :=
    (eComp (iRange2 (eC (.int 1)) (eV 4)) (.n 5) [5] eYes (eTup [(e2 pAdd (.v (e2 pIx (.v (eV 0)) (.v (eC (.int 0))))) (.v (e2 pFdiv (.v (e2 pMul (.v (eV 2)) (.v (eV 5)))) (.v (eV 4))))), (e2 pAdd (.v (e2 pIx (.v (eV 0)) (.v (eC (.int 1))))) (.v (e2 pFdiv (.v (e2 pMul (.v (eV 3)) (.v (eV 5)))) (.v (eV 4)))))]))
def bo_between_of : S :=
    (sSeq (sPar false false 2 3 (e2 pSub (.v (e2 pIx (.v (eV 1)) (.v (eC (.int 0))))) (.v (e2 pIx (.v (eV 0)) (.v (eC (.int 0)))))) (e2 pSub (.v (e2 pIx (.v (eV 1)) (.v (eC (.int 1))))) (.v (e2 pIx (.v (eV 0)) (.v (eC (.int 1)))))))
    (sSeq (sSet false 4 (eCall py_common_part [(e1 pAbs (.v (eV 2))), (e1 pAbs (.v (eV 3)))] []))
    (sRet co_between_of_0)))
def py_between_of : Fn := fnOf 2 6 bo_between_of
def bo_between : S :=
    (sSeq (sExpr (eCall py_need_both [(eV 0), (eV 1)] []))
    (sSeq (sExpr (eCall py_need_cell [(eV 0), (eV 2)] []))
    (sRet (eCall py_between_of [(eV 1), (eV 2)] []))))
def py_between : Fn := fnOf 3 3 bo_between
def fo_sees_of_0 : S :=
    (sSeq (sSet false 7 (e2 pAdd (.v (e2 pMul (.v (eCall py_at [(eV 0), (eV 1)] [])) (.v (e2 pSub (.v (e2 pSub (.v (eV 4)) (.v (eV 5)))) (.v (eC (.int 1))))))) (.v (e2 pMul (.v (eCall py_at [(eV 0), (eV 2)] [])) (.v (e2 pAdd (.v (eV 5)) (.v (eC (.int 1)))))))))
    (sIf (e2 pGe (.v (e2 pMul (.v (eCall py_at [(eV 0), (eV 6)] [])) (.v (eV 4)))) (.v (eV 7))) (sRet (eC (.bool false))) sNil))
def bo_sees_of : S :=
    (sSeq (sSet false 3 (eCall py_between_of [(eV 1), (eV 2)] []))
    (sSeq (sSet false 4 (e2 pAdd (.v (eLen (.v (eV 3)))) (.v (eC (.int 1)))))
    (sSeq (sFor (iEnumA (eV 3)) (.t [(.n 5), (.n 6)]) fo_sees_of_0)
    (sRet (eC (.bool true))))))
def py_sees_of : Fn := fnOf 3 8 bo_sees_of
def bo_sees : S :=
    (sSeq (sExpr (eCall py_need_both [(eV 0), (eV 1)] []))
    (sSeq (sExpr (eCall py_need_cell [(eV 0), (eV 2)] []))
    (sRet (eCall py_sees_of [(eV 0), (eV 1), (eV 2)] []))))
def py_sees : Fn := fnOf 3 3 bo_sees
def co_seen_of_0 : M D :=
    (eComp (iOf (eCall py_cells_of [(eV 0)] [])) (.n 2) [2] (eCall py_sees_of [(eV 0), (eV 1), (eV 2)] []) (eV 2))
def bo_seen_of : S :=
    (sRet co_seen_of_0)
def py_seen_of : Fn := fnOf 2 3 bo_seen_of
def bo_seen : S :=
    (sSeq (sExpr (eCall py_need_both [(eV 0), (eV 1)] []))
    (sRet (eCall py_seen_of [(eV 0), (eV 1)] [])))
def py_seen : Fn := fnOf 2 2 bo_seen
def bo_law_same_truth : S :=
    (sRet (eAnd (e1 pIsBool (.v (eV 0))) (e2 pEq (.v (eV 0)) (.v (eV 1)))))
def py_law_same_truth : Fn := fnOf 2 2 bo_law_same_truth
def co_law_between_0 : M D :=
    (eComp (iRange2 (eC (.int 1)) (eV 4)) (.n 5) [5] eYes (eTup [(e2 pAdd (.v (e2 pIx (.v (eV 0)) (.v (eC (.int 0))))) (.v (e2 pMul (.v (e2 pFdiv (.v (eV 2)) (.v (eV 4)))) (.v (eV 5))))), (e2 pAdd (.v (e2 pIx (.v (eV 0)) (.v (eC (.int 1))))) (.v (e2 pMul (.v (e2 pFdiv (.v (eV 3)) (.v (eV 4)))) (.v (eV 5)))))]))
def co_law_between_1 : M D :=
    (eComp (iRange2 (eC (.int 1)) (eC (.int 9))) (.n 5) [5] (eAnd (e2 pEq (.v (e2 pMod (.v (eV 2)) (.v (eV 5)))) (.v (eC (.int 0)))) (eAnd (e2 pEq (.v (e2 pMod (.v (eV 3)) (.v (eV 5)))) (.v (eC (.int 0)))) (e2 pNe (.v (eTup [(eV 2), (eV 3)])) (.v (eTup [(eC (.int 0)), (eC (.int 0))]))))) (eV 5))
def bo_law_between : S :=
    (sSeq (sPar false false 2 3 (e2 pSub (.v (e2 pIx (.v (eV 1)) (.v (eC (.int 0))))) (.v (e2 pIx (.v (eV 0)) (.v (eC (.int 0)))))) (e2 pSub (.v (e2 pIx (.v (eV 1)) (.v (eC (.int 1))))) (.v (e2 pIx (.v (eV 0)) (.v (eC (.int 1)))))))
    (sSeq (sSet false 4 (e1 pMaxD (.v (e2 pAdd (.v (eLst [(eC (.int 1))])) (.v co_law_between_1)))))
    (sRet co_law_between_0)))
def py_law_between : Fn := fnOf 2 6 bo_law_between
def co_law_sees_0 : M D :=
    (eComp (iEnumA (eV 3)) (.t [(.n 7), (.n 8)]) [7, 8] (e2 pGe (.v (e2 pMul (.v (eV 6)) (.v (e2 pSub (.v (eCall py_law_high [(eV 0), (eV 8)] [])) (.v (eV 4)))))) (.v (e2 pMul (.v (e2 pAdd (.v (eV 7)) (.v (eC (.int 1))))) (.v (e2 pSub (.v (eV 5)) (.v (eV 4))))))) (eC (.int 1)))
def bo_law_sees : S :=
    (sSeq (sSet false 3 (eCall py_law_between [(eV 1), (eV 2)] []))
    (sSeq (sParV [4, 5, 6] [(eCall py_law_high [(eV 0), (eV 1)] []), (eCall py_law_high [(eV 0), (eV 2)] []), (e2 pAdd (.v (eLen (.v (eV 3)))) (.v (eC (.int 1))))])
    (sRet (e2 pEq (.v co_law_sees_0) (.v (eLst []))))))
def py_law_sees : Fn := fnOf 3 9 bo_law_sees
def co_best_view_0 : M D :=
    (eComp (iOf (eCall py_cells_of [(eV 0)] [])) (.n 3) [3] eYes (eTup [(e2 pSub (.v (eC (.int 0))) (.v (eLen (.v (eCall py_seen_of [(eV 0), (eV 3)] []))))), (eV 3)]))
def bo_best_view : S :=
    (sSeq (sExpr (eCall py_need_land [(eV 0)] []))
    (sSeq (sSet false 1 co_best_view_0)
    (sSeq (sAsg (.t [(.n 2), (.n 3)]) (e1 pMinD (.v (eV 1))))
    (sRet (eTup [(eV 3), (e2 pSub (.v (eC (.int 0))) (.v (eV 2)))])))))
def py_best_view : Fn := fnOf 1 4 bo_best_view
def co_law_all_seen_0 : M D :=
    (eComp (iOf (eCall py_law_cells [(eV 0)] [])) (.n 1) [1] eYes (eCall py_seen [(eV 0), (eV 1)] []))
def bo_law_all_seen : S :=
    (sRet co_law_all_seen_0)
def py_law_all_seen : Fn := fnOf 1 2 bo_law_all_seen
def wh_law_along_0 : S :=
    (sWhile (e2 pIn (.v (eV 6)) (.v (eCall py_law_cells [(eV 0)] []))) (sSeq (sSet false 7 (e2 pSub (.v (eCall py_law_high [(eV 0), (eV 6)] [])) (.v (eCall py_law_high [(eV 0), (eV 1)] []))))
    (sSeq (sIf (eOr (e1 pIsN (.v (eV 5))) (e2 pGt (.v (e2 pMul (.v (eV 7)) (.v (e2 pIx (.v (eV 5)) (.v (eC (.int 1))))))) (.v (e2 pMul (.v (e2 pIx (.v (eV 5)) (.v (eC (.int 0))))) (.v (eV 4)))))) (sSeq (sAppend 3 (eV 6))
    (sSet false 5 (eTup [(eV 7), (eV 4)]))) sNil)
    (sSeq (sSet false 4 (e2 pAdd (.v (eV 4)) (.v (eC (.int 1)))))
    (sSet false 6 (eTup [(e2 pAdd (.v (e2 pIx (.v (eV 6)) (.v (eC (.int 0))))) (.v (e2 pIx (.v (eV 2)) (.v (eC (.int 0)))))), (e2 pAdd (.v (e2 pIx (.v (eV 6)) (.v (eC (.int 1))))) (.v (e2 pIx (.v (eV 2)) (.v (eC (.int 1))))))]))))))
def bo_law_along : S :=
    (sSeq (sPar3 3 4 5 (eLst []) (.int 1) .none)
    (sSeq (sSet false 6 (eTup [(e2 pAdd (.v (e2 pIx (.v (eV 1)) (.v (eC (.int 0))))) (.v (e2 pIx (.v (eV 2)) (.v (eC (.int 0)))))), (e2 pAdd (.v (e2 pIx (.v (eV 1)) (.v (eC (.int 1))))) (.v (e2 pIx (.v (eV 2)) (.v (eC (.int 1))))))]))
    (sSeq wh_law_along_0
    (sRet (eV 3)))))
def py_law_along : Fn := fnOf 3 8 bo_law_along
def fo_choices_0 : S :=
    sNever
def bo_choices : S :=
    (sSeq (sIf (e2 pEq (.v (eV 1)) (.v (eC (.int 0)))) (sRet (eLst [(eLst [])])) sNil)
    (sSeq (sSet true 2 (eLst []))
    (sSeq (sFor (iEnumA (eV 0)) (.t [(.n 3), (.n 4)]) fo_choices_0)
    (sRet (eV 2)))))
def py_choices : Fn := fnOf 2 6 bo_choices
def co_watchers_0 : M D :=
    (eComp (iOf (eV 4)) (.n 6) [6] eYes (e2 pIn (.v (eV 5)) (.v (e2 pIxD (.v (eV 2)) (.v (eV 6))))))
def co_watchers_1 : M D :=
    (eComp (iOf (eV 1)) (.n 5) [5] eYes (e1 pAny (.v co_watchers_0)))
def fo_watchers_0 : S :=
    (sIf (e1 pAll (.v co_watchers_1)) (sRet (eV 4)) sNil)
def fo_watchers_1 : S :=
    (sFor (iOf (eCall py_choices [(eV 1), (eV 3)] [])) (.n 4) fo_watchers_0)
def co_watchers_2 : M D :=
    (eComp (iOf (eV 1)) (.n 5) [5] eYes (eTup [(eV 5), (eCall py_seen_of [(eV 0), (eV 5)] [])]))
def bo_watchers : S :=
    (sSeq (sExpr (eCall py_need_land [(eV 0)] []))
    (sSeq (sSet false 1 (eCall py_cells_of [(eV 0)] []))
    (sSeq (sIf (e2 pGt (.v (eLen (.v (eV 1)))) (.v (eC (.int 12)))) (sRaise 10 .none) sNil)
    (sSeq (sSet false 2 (e1 pDict (.v co_watchers_2)))
    (sSeq (sFor (iRange2 (eC (.int 1)) (eLen (.v (eV 1)))) (.n 3) fo_watchers_1)
    (sRet (eV 1)))))))
def py_watchers : Fn := fnOf 1 7 bo_watchers
def bo_law_lists : S :=
    (sSeq (sIf (e2 pEq (.v (eV 1)) (.v (eC (.int 0)))) (sRet (eLst [(eLst [])])) sNil)
    (sSeq (sSet true 2 (eLst []))
    (sSeq sNever
    (sRet (eV 2)))))
def py_law_lists : Fn := fnOf 2 5 bo_law_lists
def bo_law_ask_v6 : S :=
    (sTry .cell (sSeq (sIf (e2 pLt (.v (eV 0)) (.v (eC (.int 2)))) (sRet (eTab [py_best_view, py_watchers] (eV 0) [(eV 1)])) sNil)
    (sRet (eIte (e2 pEq (.v (eV 0)) (.v (eC (.int 2)))) (eCall py_seen [(eV 1), (eV 2)] []) (eTab [py_between, py_sees] (e2 pSub (.v (eV 0)) (.v (eC (.int 3)))) [(eV 1), (eV 2), (eV 3)])))))
def py_law_ask_v6 : Fn := fnOf 4 5 bo_law_ask_v6
def fo_earth_for_0 : S :=
    (sSeq (sSet false 9 (e2 pAdd (.v (e2 pIxD (.b 4) (.v (eV 7)))) (.v (eCallC Lt 3 [(eV 8)]))))
    (sIf (eOr (e2 pNotInD (.v (eV 8)) (.b 4)) (e2 pLt (.v (eV 9)) (.v (e2 pIxD (.b 4) (.v (eV 8)))))) (sSeq (sPutD 4 (eV 8) (eV 9))
    (sPutD 6 (eV 8) (eC (.bool true)))) sNil))
def fo_earth_for_1 : S :=
    (sFor (iOf (eCall py_beside_of [(eV 0), (eV 7)] [])) (.n 8) (fo_earth_for_0 Lt))
def wh_earth_for_0 : S :=
    (sWhile (e2 pNe (.v (eV 5)) (.v (eLst []))) (sSeq (sSet true 6 eDct0)
    (sSeq (sFor (iOf (eV 5)) (.n 7) (fo_earth_for_1 Lt))
    (sSet false 5 (e1 pSorted (.v (e1 pLstD (.b 6))))))))
def bo_earth_for : S :=
    (sSeq (sPar true false 4 5 (eDct1 (eV 1) (eCallC Lt 3 [(eV 1)])) (eLst [(eV 1)]))
    (sSeq (wh_earth_for_0 Lt)
    (sRet (e2 pIxD (.b 4) (.v (eV 2))))))
def py_earth_for : Fn := fnOf 4 10 (bo_earth_for Lt)
def la_least_fill_0 : M D :=
    (e2 pMax2 (.v (eC (.int 0))) (.v (e2 pSub (.v (eV 2)) (.v (eCall py_at [(eV 1), (eV 0)] [])))))
def ly_least_fill_0 : List D → Fn :=
    lamFn 1 3 la_least_fill_0
def bo_least_fill : S :=
    (sSeq (sExpr (eCall py_need_two [(eV 0), (eV 1), (eV 2)] []))
    (sSeq (sIf (eNot (eCall py_is_whole [(eV 3), (eC (.int 0)), (eC (.int 999))] [])) (sRaise 6 .none) sNil)
    (sRet (eCallL (py_earth_for Lt) 5 [0, 3] [(eV 0), (eV 1), (eV 2)]))))
def py_least_fill : Fn := fnOf 4 4 (bo_least_fill Lt)
def co_law_round_0 : M D :=
    (eComp (iOf (eCall py_law_beside [(eV 0), (eV 5)] [])) (.n 8) [8] (e2 pInD (.v (eV 8)) (.b 3)) (e2 pAdd (.v (e2 pIxD (.b 3) (.v (eV 8)))) (.v (eV 6))))
def fo_law_round_0 : S :=
    (sSeq (sSet false 6 (e2 pMax2 (.v (eC (.int 0))) (.v (e2 pSub (.v (eV 2)) (.v (eCall py_law_high [(eV 0), (eV 5)] []))))))
    (sSeq (sSet false 7 co_law_round_0)
    (sIf (eAnd (e2 pNe (.v (eV 7)) (.v (eLst []))) (e2 pLt (.v (e1 pMinD (.v (eV 7)))) (.v (eGetD 3 (eV 5) (e2 pPow (.v (eC (.int 10))) (.v (eC (.int 9)))))))) (sPut2 3 4 (eV 5) (e1 pMinD (.v (eV 7))) (eC (.bool true))) sNil)))
def wh_law_round_0 : S :=
    (sWhile (eV 4) (sSeq (sSet false 4 (eC (.bool false)))
    (sFor (iOf (eCall py_law_cells [(eV 0)] [])) (.n 5) fo_law_round_0)))
def bo_law_round : S :=
    (sSeq (sPar true false 3 4 (eDct1 (eV 1) (e2 pMax2 (.v (eC (.int 0))) (.v (e2 pSub (.v (eV 2)) (.v (eCall py_law_high [(eV 0), (eV 1)] [])))))) (eC (.bool true)))
    (sSeq wh_law_round_0
    (sRet (eV 3))))
def py_law_round : Fn := fnOf 3 9 bo_law_round
def la_even_for_0 : M D :=
    (e1 pAbs (.v (e2 pSub (.v (eCall py_at [(eV 1), (eV 0)] [])) (.v (eV 2)))))
def ly_even_for_0 : List D → Fn :=
    lamFn 1 3 la_even_for_0
def bo_even_for : S :=
    (sRet (eCallL (py_earth_for Lt) 6 [0, 3] [(eV 0), (eV 1), (eV 2)]))
def py_even_for : Fn := fnOf 4 4 (bo_even_for Lt)
def co_least_even_0 : M D :=
    (eComp (iOf (eCall py_cells_of [(eV 0)] [])) (.n 5) [5] eYes (eCall py_at [(eV 0), (eV 5)] []))
def fo_least_even_0 : S :=
    (sAppend 3 (eTup [(eCall (py_even_for Lt) [(eV 0), (eV 1), (eV 2), (eV 4)] []), (eV 4)]))
def bo_least_even : S :=
    (sSeq (sExpr (eCall py_need_two [(eV 0), (eV 1), (eV 2)] []))
    (sSeq (sSet true 3 (eLst []))
    (sSeq (sFor (iOf (e1 pSortSetI (.v co_least_even_0))) (.n 4) (fo_least_even_0 Lt))
    (sRet (e1 pMinD (.b 3))))))
def py_least_even : Fn := fnOf 3 6 (bo_least_even Lt)
def bo_law_ask_v7 : S :=
    (sTry .cell (sRet (eIte (e2 pEq (.v (eV 0)) (.v (eC (.int 0)))) (eCall (py_least_even Lt) [(eV 1), (eV 2), (eV 3)] []) (eCall (py_least_fill Lt) [(eV 1), (eV 2), (eV 3), (eV 4)] []))))
def py_law_ask_v7 : Fn := fnOf 5 6 (bo_law_ask_v7 Lt)
def co_turned_of_0 : M D :=
    (eComp (iOf (eV 0)) (.n 2) [2] eYes (e2 pIx (.v (eV 2)) (.v (eV 1))))
def co_turned_of_1 : M D :=
    (eComp (iRevR1 (eLen (.v (e2 pIx (.v (eV 0)) (.v (eC (.int 0))))))) (.n 1) [1] eYes (e1 pTup (.v co_turned_of_0)))
def bo_turned_of : S :=
    (sRet (e1 pTup (.v co_turned_of_1)))
def py_turned_of : Fn := fnOf 1 3 bo_turned_of
def co_mirrored_of_0 : M D :=
    (eComp (iOf (eV 0)) (.n 1) [1] eYes (e1 pRev (.v (eV 1))))
def bo_mirrored_of : S :=
    (sRet (e1 pTup (.v co_mirrored_of_0)))
def py_mirrored_of : Fn := fnOf 1 2 bo_mirrored_of
def bo_turned : S :=
    (sSeq (sExpr (eCall py_need_land [(eV 0)] []))
    (sRet (eCall py_turned_of [(eV 0)] [])))
def py_turned : Fn := fnOf 1 1 bo_turned
def bo_mirrored : S :=
    (sSeq (sExpr (eCall py_need_land [(eV 0)] []))
    (sRet (eCall py_mirrored_of [(eV 0)] [])))
def py_mirrored : Fn := fnOf 1 1 bo_mirrored
def fo_alike_0 : S :=
    (sAppend 2 (eCall py_turned_of [(e2 pIx (.b 2) (.v (eV 3)))] []))
def bo_alike : S :=
    (sSeq (sExpr (eCall py_need_land [(eV 0)] []))
    (sSeq (sExpr (eCall py_need_land [(eV 1)] []))
    (sSeq (sSet true 2 (eLst [(eV 0), (eCall py_mirrored_of [(eV 0)] [])]))
    (sSeq (sFor (iRange1 (eC (.int 6))) (.n 3) fo_alike_0)
    (sRet (e2 pIn (.v (eV 1)) (.b 2)))))))
def py_alike : Fn := fnOf 2 4 bo_alike
def co_law_eight_0 : M D :=
    (eComp (iOf (eV 0)) (.n 4) [4] eYes (e1 pRev (.v (eV 4))))
def co_law_eight_1 : M D :=
    (eComp (iOf (eV 0)) (.n 4) [4] eYes (e2 pIx (.v (eV 4)) (.v (e2 pSub (.v (e2 pSub (.v (eLen (.v (e2 pIx (.v (eV 0)) (.v (eC (.int 0))))))) (.v (eC (.int 1))))) (.v (eV 5))))))
def co_law_eight_2 : M D :=
    (eComp (iRange1 (eLen (.v (e2 pIx (.v (eV 0)) (.v (eC (.int 0))))))) (.n 5) [5] eYes (e1 pTup (.v co_law_eight_1)))
def fo_law_eight_0 : S :=
    (sSeq (sAppend 1 (eV 0))
    (sSet false 0 (e1 pTup (.v co_law_eight_2))))
def fo_law_eight_1 : S :=
    (sSeq (sFor (iRange1 (eC (.int 4))) (.n 3) fo_law_eight_0)
    (sSet false 0 (e1 pTup (.v co_law_eight_0))))
def bo_law_eight : S :=
    (sSeq (sSet true 1 (eLst []))
    (sSeq (sFor (iRange1 (eC (.int 2))) (.n 2) fo_law_eight_1)
    (sRet (eV 1))))
def py_law_eight : Fn := fnOf 1 6 bo_law_eight
def co_law_ridge_0 : M D :=
    (eComp (iOf (eCall py_law_beside [(eV 0), (eV 4)] [])) (.n 6) [6] (e2 pInD (.v (eV 6)) (.b 2)) (e2 pIxD (.b 2) (.v (eV 6))))
def fo_law_ridge_0 : S :=
    (sSeq (sSet false 5 co_law_ridge_0)
    (sIf (eAnd (e2 pNe (.v (eV 5)) (.v (eLst []))) (e2 pLt (.v (e2 pMax2 (.v (e1 pMinD (.v (eV 5)))) (.v (eCall py_law_high [(eV 0), (eV 4)] [])))) (.v (eGetD 2 (eV 4) (e2 pPow (.v (eC (.int 10))) (.v (eC (.int 6)))))))) (sPut2 2 3 (eV 4) (e2 pMax2 (.v (e1 pMinD (.v (eV 5)))) (.v (eCall py_law_high [(eV 0), (eV 4)] []))) (eC (.bool true))) sNil))
def wh_law_ridge_0 : S :=
    (sWhile (eV 3) (sSeq (sSet false 3 (eC (.bool false)))
    (sFor (iOf (eCall py_law_cells [(eV 0)] [])) (.n 4) fo_law_ridge_0)))
def bo_law_ridge : S :=
    (sSeq (sPar true false 2 3 (eDct1 (eV 1) (eCall py_law_high [(eV 0), (eV 1)] [])) (eC (.bool true)))
    (sSeq wh_law_ridge_0
    (sRet (eV 2))))
def py_law_ridge : Fn := fnOf 2 7 bo_law_ridge
def co_beside_0 : M D :=
    (eComp (iZip (eV 0) (eV 1)) (.t [(.n 2), (.n 3)]) [2, 3] eYes (e2 pAdd (.v (eV 2)) (.v (eV 3))))
def bo_beside : S :=
    (sSeq (sExpr (eCall py_need_land [(eV 0)] []))
    (sSeq (sExpr (eCall py_need_land [(eV 1)] []))
    (sSeq (sIf (eOr (e2 pNe (.v (eLen (.v (eV 0)))) (.v (eLen (.v (eV 1))))) (e2 pGt (.v (e2 pAdd (.v (eLen (.v (e2 pIx (.v (eV 0)) (.v (eC (.int 0))))))) (.v (eLen (.v (e2 pIx (.v (eV 1)) (.v (eC (.int 0))))))))) (.v (eC (.int 8))))) (sRaise 7 .none) sNil)
    (sRet (e1 pTup (.v co_beside_0))))))
def py_beside : Fn := fnOf 2 4 bo_beside
def co_part_of_0 : M D :=
    (eComp (iOf (eCut (.v (eV 0)) (some (e2 pMin2 (.v (e2 pIx (.v (eV 1)) (.v (eC (.int 0))))) (.v (e2 pIx (.v (eV 2)) (.v (eC (.int 0))))))) (some (e2 pAdd (.v (e2 pMax2 (.v (e2 pIx (.v (eV 1)) (.v (eC (.int 0))))) (.v (e2 pIx (.v (eV 2)) (.v (eC (.int 0))))))) (.v (eC (.int 1))))))) (.n 5) [5] eYes (eCut (.v (eV 5)) (some (eV 3)) (some (e2 pAdd (.v (eV 4)) (.v (eC (.int 1)))))))
def bo_part_of : S :=
    (sSeq (sPar false false 3 4 (e2 pMin2 (.v (e2 pIx (.v (eV 1)) (.v (eC (.int 1))))) (.v (e2 pIx (.v (eV 2)) (.v (eC (.int 1)))))) (e2 pMax2 (.v (e2 pIx (.v (eV 1)) (.v (eC (.int 1))))) (.v (e2 pIx (.v (eV 2)) (.v (eC (.int 1)))))))
    (sRet (e1 pTup (.v co_part_of_0))))
def py_part_of : Fn := fnOf 3 6 bo_part_of
def bo_part : S :=
    (sSeq (sExpr (eCall py_need_both [(eV 0), (eV 1)] []))
    (sSeq (sExpr (eCall py_need_cell [(eV 0), (eV 2)] []))
    (sRet (eCall py_part_of [(eV 0), (eV 1), (eV 2)] []))))
def py_part : Fn := fnOf 3 3 bo_part
def bo_law_ask_v8 : S :=
    (sTry .no (sRet (eCall py_beside [(eV 0), (eV 1)] [])))
def py_law_ask_v8 : Fn := fnOf 2 3 bo_law_ask_v8
def bo_law_ask_v9 : S :=
    (sTry .cell (sSeq (sIf (e2 pLt (.v (eV 0)) (.v (eC (.int 3)))) (sRet (eTab [py_turned, py_mirrored, py_upside] (eV 0) [(eV 1)])) sNil)
    (sRet (eIte (e2 pLt (.v (eV 0)) (.v (eC (.int 5)))) (eTab [py_beside, py_alike] (e2 pSub (.v (eV 0)) (.v (eC (.int 3)))) [(eV 1), (eV 2)]) (eCall py_part [(eV 1), (eV 2), (eV 3)] [])))))
def py_law_ask_v9 : Fn := fnOf 4 5 bo_law_ask_v9
def bo_text_of : S :=
    sNever
def py_text_of : Fn := fnOf 1 3 bo_text_of
def bo_shown : S :=
    (sSeq (sExpr (eCall py_need_land [(eV 0)] []))
    (sRet (eCall py_text_of [(eV 0)] [])))
def py_shown : Fn := fnOf 1 1 bo_shown
def co_number_in_0 : M D :=
    (eComp (iOf (eV 0)) (.n 1) [1] eYes (e2 pIn (.v (eV 1)) (.v (eC (.str "0123456789")))))
def bo_number_in : S :=
    (sSeq (sIf (eOr (eNot (eChain pLe pLe (eC (.int 1)) (eLen (.v (eV 0))) (eC (.int 3)))) (eNot (e1 pAll (.v co_number_in_0)))) (sRaise 9 .none) sNil)
    sNever)
def py_number_in : Fn := fnOf 1 2 bo_number_in
def bo_read : S :=
    (sSeq (sIf (eOr (eNot (e1 pIsStr (.v (eV 0)))) (e2 pGt (.v (eLen (.v (eV 0)))) (.v (eC (.int 300))))) (sRaise 9 .none) sNil)
    (sSeq sNever
    (sSeq (sIf (eOr (eNot (eCall py_is_land [(eV 1)] [])) (e2 pNe (.v (eCall py_text_of [(eV 1)] [])) (.v (eV 0)))) (sRaise 9 .none) sNil)
    (sRet (eV 1)))))
def py_read : Fn := fnOf 1 4 bo_read
def bo_law_read : S :=
    (sTry .no (sRet (eCall py_read [(eV 0)] [])))
def py_law_read : Fn := fnOf 1 2 bo_law_read
def co_law_plain_0 : M D :=
    (eComp (iOf (eV 1)) (.n 3) [3] (e2 pNe (.v (eLen (.v (eV 3)))) (.v (eLen (.v (e2 pIx (.b 1) (.v (eC (.int 0)))))))) (eV 3))
def bo_law_plain : S :=
    (sSeq sNever
    (sSeq sNever
    (sSeq (sIf (eOr (e2 pGt (.v (eLen (.b 1))) (.v (eC (.int 8)))) (eOr (e2 pGt (.v (eLen (.v (e2 pIx (.b 1) (.v (eC (.int 0))))))) (.v (eC (.int 8)))) (e2 pNe (.v co_law_plain_0) (.v (eLst []))))) (sRet (eC .none)) sNil)
    (sRet (e1 pTup (.b 1))))))
def py_law_plain : Fn := fnOf 1 8 bo_law_plain
def bo_law_ask_v10 : S :=
    (sTry .no (sRet (eTab [py_shown, py_read] (eV 0) [(eV 1)])))
def py_law_ask_v10 : Fn := fnOf 2 3 bo_law_ask_v10
def wh_wall_0 : S :=
    (sWhile (eC (.bool true)) sNil)
def bo_wall : S :=
    wh_wall_0
def py_wall : Fn := fnOf 1 1 bo_wall
def co_with_heights_0 : M D :=
    (eComp (iEnumA (eV 4)) (.t [(.n 5), (.n 6)]) [5, 6] eYes (eGetD 1 (eTup [(eV 3), (eV 5)]) (eV 6)))
def fo_with_heights_0 : S :=
    (sAppend 2 (e1 pTup (.v co_with_heights_0)))
def bo_with_heights : S :=
    (sSeq (sSet true 2 (eLst []))
    (sSeq (sFor (iEnumA (eV 0)) (.t [(.n 3), (.n 4)]) fo_with_heights_0)
    (sRet (e1 pTup (.b 2)))))
def py_with_heights : Fn := fnOf 2 7 bo_with_heights
def co_law_changed_0 : M D :=
    (eComp (iOf (eV 2)) (.n 9) [9] eYes (e1 pTup (.v (eV 9))))
def fo_law_changed_0 : S :=
    sNever
def co_law_changed_1 : M D :=
    (eComp (iOf (eV 5)) (.n 10) [10] eYes (eCall py_law_high [(eV 0), (eV 10)] []))
def fo_law_changed_1 : S :=
    (sIf (eAnd (e2 pLe (.v (e2 pMul (.v (e2 pSub (.v (eV 6)) (.v (e2 pIx (.v (eV 3)) (.v (eC (.int 0))))))) (.v (e2 pSub (.v (eV 6)) (.v (e2 pIx (.v (eV 4)) (.v (eC (.int 0))))))))) (.v (eC (.int 0)))) (e2 pLe (.v (e2 pMul (.v (e2 pSub (.v (eV 7)) (.v (e2 pIx (.v (eV 3)) (.v (eC (.int 1))))))) (.v (e2 pSub (.v (eV 7)) (.v (e2 pIx (.v (eV 4)) (.v (eC (.int 1))))))))) (.v (eC (.int 0))))) (sAppend 5 (eTup [(eV 6), (eV 7)])) sNil)
def co_law_changed_2 : M D :=
    (eComp (iOf (eV 0)) (.n 9) [9] eYes (e1 pList (.v (eV 9))))
def bo_law_changed : S :=
    (sSeq (sSet true 2 co_law_changed_2)
    (sSeq (sIf (e2 pEq (.v (e2 pIx (.v (eV 1)) (.v (eC (.int 0))))) (.v (eC (.str "lift")))) sNever (sSeq (sPar false false 3 4 (e2 pIx (.v (eV 1)) (.v (eC (.int 1)))) (e2 pIx (.v (eV 1)) (.v (eC (.int 2)))))
    (sIf (e2 pEq (.v (e2 pIx (.v (eV 1)) (.v (eC (.int 0))))) (.v (eC (.str "swap")))) sNever (sSeq (sSet true 5 (eLst []))
    (sSeq (sFor (iOf (eCall py_law_cells [(eV 0)] [])) (.t [(.n 6), (.n 7)]) fo_law_changed_1)
    (sSeq (sSet false 8 co_law_changed_1)
    (sFor (iOf (eV 5)) (.t [(.n 6), (.n 7)]) fo_law_changed_0)))))))
    (sRet (e1 pTup (.v co_law_changed_0)))))
def py_law_changed : Fn := fnOf 2 11 bo_law_changed
def bo_law_next : S :=
    (sSeq (sPar false false 3 4 (eCall py_law_pick [(eV 0), (eV 1), (eCall py_law_cells [(eV 2)] [])] []) (eCall py_law_pick [(eV 0), (eV 1), (eCall py_law_cells [(eV 2)] [])] []))
    (sSeq (sSet false 5 (eCall py_law_draw [(eV 0), (eV 1), (eC (.int 4))] []))
    (sSeq (sIf (e2 pLt (.v (eV 5)) (.v (eC (.int 2)))) (sSeq (sSet false 6 (eCall py_law_pick [(eV 0), (eV 1), (eLst [(eC (.int 1)), (eC (.int 2)), (eC (.int 5)), (e1 pNeg (.v (eC (.int 1)))), (e1 pNeg (.v (eC (.int 2)))), (eC (.int 100)), (e1 pNeg (.v (eC (.int 100))))])] []))
    (sIf (eChain pLe pLe (eC (.int 0)) (e2 pAdd (.v (eCall py_law_high [(eV 2), (eV 3)] [])) (.v (eV 6))) (eC (.int 999))) (sRet (eTup [(eC (.str "lift")), (eV 3), (eV 6)])) sNil)) sNil)
    (sRet (eIte (e2 pLt (.v (eV 5)) (.v (eC (.int 3)))) (eTup [(eC (.str "swap")), (eV 3), (eV 4)]) (eTup [(eC (.str "even")), (eV 3), (eV 4), (eCall py_law_pick [(eV 0), (eV 1), (eLst [(eC (.str "low")), (eC (.str "high"))])] [])]))))))
def py_law_next : Fn := fnOf 3 7 bo_law_next
def bo_law_do : S :=
    (sSeq (sIf (e2 pEq (.v (e2 pIx (.v (eV 1)) (.v (eC (.int 0))))) (.v (eC (.str "lift")))) sNever sNil)
    sNever)
def py_law_do : Fn := fnOf 2 2 bo_law_do
def bo_law_ask_v11 : S :=
    (sTry .cell (sSeq (sIf (e2 pEq (.v (eV 0)) (.v (eC (.int 0)))) sNever sNil)
    (sSeq (sIf (e2 pEq (.v (eV 0)) (.v (eC (.int 1)))) sNever sNil)
    (sSeq (sIf (e2 pEq (.v (eV 0)) (.v (eC (.int 2)))) sNever sNil)
    sNever))))
def py_law_ask_v11 : Fn := fnOf 5 6 bo_law_ask_v11
def bo_law_back : S :=
    (sTry .no sNever)
def py_law_back : Fn := fnOf 1 2 bo_law_back
def bo_after : S :=
    (sSeq sNever
    (sSeq sNever
    (sRet (eV 3))))
def py_after : Fn := fnOf 3 4 bo_after
def co_news_0 : M D :=
    (eComp (iOf (eV 3)) (.n 6) [6] (e2 pNotIn (.v (eV 6)) (.v (eV 4))) (eV 6))
def co_news_1 : M D :=
    (eComp (iOf (eV 4)) (.n 6) [6] (e2 pNotIn (.v (eV 6)) (.v (eV 3))) (eV 6))
def bo_news : S :=
    (sSeq sNever
    (sSeq (sSet false 5 (e1 pSorted (.v co_news_1)))
    (sRet (eTup [(eV 5), (e1 pSorted (.v co_news_0))]))))
def py_news : Fn := fnOf 3 7 bo_news
def co_unlike_0 : M D :=
    (eComp (iOf (eCall py_cells_of [(eV 2)] [])) (.n 4) [4] (e2 pNe (.v (eCall py_at [(eV 2), (eV 4)] [])) (.v (eCall py_at [(eV 3), (eV 4)] []))) (eV 4))
def bo_unlike : S :=
    (sSeq sNever
    (sSeq (sIf (eOr (e2 pNe (.v (eLen (.v (eV 2)))) (.v (eLen (.v (eV 3))))) (e2 pNe (.v (eLen (.v (e2 pIx (.v (eV 2)) (.v (eC (.int 0))))))) (.v (eLen (.v (e2 pIx (.v (eV 3)) (.v (eC (.int 0))))))))) (sRaise 7 .none) sNil)
    (sRet co_unlike_0)))
def py_unlike : Fn := fnOf 2 5 bo_unlike
def co_is_up_0 : M D :=
    (eComp (iOf (eCall py_beside_of [(eV 0), (eV 2)] [])) (.n 3) [3] eYes (e2 pGt (.v (eCall py_at [(eV 0), (eV 3)] [])) (.v (eCall py_at [(eV 0), (eV 2)] []))))
def fo_is_up_0 : S :=
    (sIf (e1 pAny (.v co_is_up_0)) (sRet (eC (.bool false))) sNil)
def bo_is_up : S :=
    (sSeq (sFor (iOf (eCall py_flat_of [(eV 0), (eV 1)] [])) (.n 2) fo_is_up_0)
    (sRet (eC (.bool true))))
def py_is_up : Fn := fnOf 2 4 bo_is_up
def co_to_peak_0 : M D :=
    (eComp (iOf (eCall py_beside_of [(eV 2), (eV 1)] [])) (.n 5) [5] eYes (eCall py_at [(eV 2), (eV 5)] []))
def bo_to_peak : S :=
    (sSeq sNever
    (sSeq (sExpr (eCall py_need_cell [(eV 2), (eV 1)] []))
    (sSeq (sIf (eCall py_is_up [(eV 2), (eV 1)] []) (sRet (eC (.int 0))) sNil)
    (sSeq (sSet false 3 (e1 pMaxD (.v co_to_peak_0)))
    (sSeq (sSet false 4 (e2 pSub (.v (eV 3)) (.v (eCall py_at [(eV 2), (eV 1)] []))))
    (sSeq sNever
    (sRet (e2 pAdd (.v (eV 4)) (.v (eC (.int 1)))))))))))
def py_to_peak : Fn := fnOf 2 6 bo_to_peak
def co_law_up_0 : M D :=
    (eComp (iOf (eCall py_law_flats [(eV 0)] [])) (.n 3) [3] (e2 pIn (.v (eV 1)) (.v (eV 3))) (eV 3))
def bo_law_up : S :=
    (sSeq (sSet false 2 (e2 pIx (.v co_law_up_0) (.v (eC (.int 0)))))
    (sRet (e2 pIn (.v (e2 pIx (.v (eV 2)) (.v (eC (.int 0))))) (.v (eCall py_law_ends [(eV 0), (eC (.int 1))] [])))))
def py_law_up : Fn := fnOf 2 4 bo_law_up
def bo_law_ask_v12 : S :=
    (sTry .cell (sSeq (sIf (e2 pLt (.v (eV 0)) (.v (eC (.int 2)))) (sRet (eTab [py_after, py_news] (eV 0) [(eV 1), (eV 2), (eV 3)])) sNil)
    (sRet (eIte (e2 pEq (.v (eV 0)) (.v (eC (.int 2)))) (eCall py_to_peak [(eV 1), (eV 2)] []) (eCall py_unlike [(eV 1), (eV 2)] [])))))
def py_law_ask_v12 : Fn := fnOf 4 5 bo_law_ask_v12
def la_least_fill_v1_0 : M D :=
    (e2 pMax2 (.v (eC (.int 0))) (.v (e2 pSub (.v (eV 2)) (.v (eCall py_at [(eV 1), (eV 0)] [])))))
def ly_least_fill_v1_0 : List D → Fn :=
    lamFn 1 3 la_least_fill_v1_0
def bo_least_fill_v1 : S :=
    (sSeq sNever
    (sSeq (sIf (eNot (eCall py_is_whole [(eV 3), (eC (.int 0)), (eC (.int 999))] [])) (sRaise 6 .none) sNil)
    (sRet (eCallL (py_earth_for Lt) 5 [0, 3] [(eV 0), (eV 1), (eV 2)]))))
def py_least_fill_v1 : Fn := fnOf 4 4 (bo_least_fill_v1 Lt)
def co_least_even_v1_0 : M D :=
    (eComp (iOf (eCall py_cells_of [(eV 0)] [])) (.n 5) [5] eYes (eCall py_at [(eV 0), (eV 5)] []))
def fo_least_even_v1_0 : S :=
    (sAppend 3 (eTup [(eCall (py_even_for Lt) [(eV 0), (eV 1), (eV 2), (eV 4)] []), (eV 4)]))
def bo_least_even_v1 : S :=
    (sSeq sNever
    (sSeq (sSet true 3 (eLst []))
    (sSeq (sFor (iOf (e1 pSortSetI (.v co_least_even_v1_0))) (.n 4) (fo_least_even_v1_0 Lt))
    (sRet (e1 pMinD (.b 3))))))
def py_least_even_v1 : Fn := fnOf 3 6 (bo_least_even_v1 Lt)
def bo_climb_walk_v1 : S :=
    (sSeq sNever
    (sSeq (sSet false 3 (eCall py_climb_price [(eV 0)] []))
    (sRet (eCall (py_first_walk Lt) [(eV 0), (eV 1), (eCall (py_prices_to Lt) [(eV 0), (eV 2), (eV 3)] []), (eV 3)] []))))
def py_climb_walk_v1 : Fn := fnOf 3 4 (bo_climb_walk_v1 Lt)
def bo_least_climb_v1 : S :=
    (sSeq sNever
    (sRet (e2 pIx (.v (e2 pIxD (.v (eCall (py_prices_to Lt) [(eV 0), (eV 2), (eCall py_climb_price [(eV 0)] [])] [])) (.v (eV 1)))) (.v (eC (.int 0))))))
def py_least_climb_v1 : Fn := fnOf 3 3 (bo_least_climb_v1 Lt)
def bo_least_loss_v1 : S :=
    (sSeq sNever
    (sRet (e2 pIx (.v (e2 pIxD (.v (eCall (py_prices_to Lt) [(eV 0), (eV 1), (eCall py_climb_price [(eV 0)] [])] [])) (.v (eV 2)))) (.v (eC (.int 0))))))
def py_least_loss_v1 : Fn := fnOf 3 3 (bo_least_loss_v1 Lt)
def bo_steps_within_v1 : S :=
    (sSeq sNever
    (sSeq (sIf (eNot (eCall py_is_whole [(eV 3), (eC (.int 0)), (eC (.int 999))] [])) (sRaise 4 .none) sNil)
    (sRet (eCall (py_steps_by Lt) [(eV 0), (eV 1), (eV 2), (eV 3)] []))))
def py_steps_within_v1 : Fn := fnOf 4 4 (bo_steps_within_v1 Lt)
def wh_least_steep_v1_0 : S :=
    (sWhile (e2 pLt (.v (e2 pAdd (.v (eV 3)) (.v (eC (.int 1))))) (.v (eV 4))) (sSeq (sSet false 5 (e2 pFdiv (.v (e2 pAdd (.v (eV 3)) (.v (eV 4)))) (.v (eC (.int 2)))))
    (sIf (e1 pIsN (.v (eCall (py_steps_by Lt) [(eV 0), (eV 1), (eV 2), (eV 5)] []))) (sSet false 3 (eV 5)) (sSet false 4 (eV 5)))))
def bo_least_steep_v1 : S :=
    (sSeq sNever
    (sSeq (sPar false false 3 4 (e1 pNeg (.v (eC (.int 1)))) (eC (.int 999)))
    (sSeq (wh_least_steep_v1_0 Lt)
    (sRet (eV 4)))))
def py_least_steep_v1 : Fn := fnOf 3 6 (bo_least_steep_v1 Lt)
def fo_law_peaks_stay_0 : S :=
    (sIf (eOr (e2 pNe (.v (eCall py_rise [(eV 1), (eV 3)] [])) (.v (eCall py_rise [(eV 0), (eV 3)] []))) (e2 pNe (.v (eCall py_saddle [(eV 1), (eV 3)] [])) (.v (e2 pAdd (.v (eCall py_saddle [(eV 0), (eV 3)] [])) (.v (eV 2)))))) (sRet (eC (.bool false))) sNil)
def co_law_peaks_stay_0 : M D :=
    (eComp (iOf (eCall py_levels [(eV 0)] [])) (.t [(.n 4), (.n 5)]) [4, 5] eYes (eTup [(e2 pAdd (.v (eV 4)) (.v (eV 2))), (eV 5)]))
def bo_law_peaks_stay : S :=
    (sSeq (sIf (e2 pNe (.v (eCall py_by_rise [(eV 1), (eC (.int 0))] [])) (.v (eCall py_by_rise [(eV 0), (eC (.int 0))] []))) (sRet (eC (.bool false))) sNil)
    (sSeq (sIf (e2 pNe (.v (eCall py_levels [(eV 1)] [])) (.v co_law_peaks_stay_0)) (sRet (eC (.bool false))) sNil)
    (sSeq (sFor (iOf (eCall py_law_peaks [(eV 0)] [])) (.n 3) fo_law_peaks_stay_0)
    (sRet (eC (.bool true))))))
def py_law_peaks_stay : Fn := fnOf 3 6 bo_law_peaks_stay
def bo_law_told : S :=
    (sSeq (sSet true 3 (eLst [(eCall py_islands [(eV 0), (eC (.int 2))] []), (eCall py_lakes [(eV 0), (eC (.int 2))] []), (eCall py_levels [(eV 0)] []), (eCall py_map_at [(eV 0), (eC (.int 2))] []), (eCall py_flat [(eV 0), (eV 1)] []), (eCall py_flats [(eV 0)] [])]))
    (sSeq (sExtend 3 (eLst [(eCall py_neighbours [(eV 0), (eV 1)] []), (eCall py_peaks [(eV 0)] []), (eCall py_pits [(eV 0)] []), (eCall py_by_rise [(eV 0)] [.int 1]), (eCall py_line [(eV 0), (e2 pIx (.v (eCall py_peaks [(eV 0)] [])) (.v (e1 pNeg (.v (eC (.int 1))))))] [])]))
    (sSeq (sExtend 3 (eLst [(eCall py_seen [(eV 0), (eV 1)] []), (eCall (py_best_walk Lt) [(eV 0), (eV 1), (eTup [(eC (.int 0)), (eC (.int 0))])] []), (eCall (py_climb_walk Lt) [(eV 0), (eTup [(eC (.int 0)), (eC (.int 0))]), (eV 1)] []), (eCall py_basin [(eV 0), (eV 1)] [])]))
    (sSeq sNever
    (sSeq sNever
    (sRet (e2 pAdd (.b 3) (.v (eLst [(e2 pIx (.v (eV 4)) (.v (eC (.int 0)))), (e2 pIx (.v (eV 4)) (.v (eC (.int 1))))])))))))))
def py_law_told : Fn := fnOf 3 5 (bo_law_told Lt)
end
end Pk
namespace Pk
open PySem (Str)
noncomputable section
def Lt : List (Nat × (List D → Fn)) := [(4, ly_slope_price_0)]
def bo_law : S :=
    (sSeq (sTown0 1)
    (sSeq (sSet false 2 (eCall py_law_land [(eV 0), (eV 1), (eC (.int 6))] []))
    (sSeq (sSet false 3 (eCall py_law_cells [(eV 2)] []))
    (sSeq (sPar false false 4 5 (eCall py_law_pick [(eV 0), (eV 1), (eV 3)] []) (eCall py_law_pick [(eV 0), (eV 1), (eV 3)] []))
    (sSeq (sSet false 6 (eCall py_law_pick [(eV 0), (eV 1), (eLst [(eC (.int 0)), (eC (.int 1)), (eC (.int 2)), (eC (.int 3)), (eC (.int 5)), (eC (.int 300)), (eC (.int 999)), (eCall py_law_draw [(eV 0), (eV 1), (eC (.int 1000))] [])])] []))
    (sSeq (sSet false 7 (eCall py_law_steps_v1 [(eV 2), (eV 4), (eV 6)] []))
    (sSeq (sIf (e2 pNe (.v (eCall (py_steps_within Lt) [(eV 2), (eV 4), (eV 5), (eV 6)] [])) (.v (eGetD1 7 (eV 5)))) (sRet (eC (.bool false))) sNil)
    (sSeq (sIf (e2 pNe (.v (eCall (py_steps_within Lt) [(eV 2), (eV 5), (eV 4), (eV 6)] [])) (.v (eGetD1 7 (eV 5)))) (sRet (eC (.bool false))) sNil)
    (sSeq (sSet false 8 (eCall (py_least_steep Lt) [(eV 2), (eV 4), (eV 5)] []))
    (sSeq (sIf (eOr (e2 pNotInD (.v (eV 5)) (.v (eCall py_law_steps_v1 [(eV 2), (eV 4), (eV 8)] []))) (e1 pIsN (.v (eCall (py_steps_within Lt) [(eV 2), (eV 4), (eV 5), (eV 8)] [])))) (sRet (eC (.bool false))) sNil)
    (sSeq (sIf (e2 pGt (.v (eV 8)) (.v (eC (.int 0)))) (sIf (eOr (e2 pInD (.v (eV 5)) (.v (eCall py_law_steps_v1 [(eV 2), (eV 4), (e2 pSub (.v (eV 8)) (.v (eC (.int 1))))] []))) (e1 pNotN (.v (eCall (py_steps_within Lt) [(eV 2), (eV 4), (eV 5), (e2 pSub (.v (eV 8)) (.v (eC (.int 1))))] [])))) (sRet (eC (.bool false))) sNil) sNil)
    (sRet (eAnd (e2 pEq (.v (eCall (py_least_steep Lt) [(eV 2), (eV 4), (eV 4)] [])) (.v (eC (.int 0)))) (e2 pEq (.v (eCall (py_least_steep Lt) [(eV 2), (eV 5), (eV 4)] [])) (.v (eV 8))))))))))))))))
def py_law : Fn := fnOf 1 9 bo_law
end
end Pk
/-! Sp0: how the combinators compute; lands and cells as plain values. -/
namespace Pk
open PySem (Str)

@[simp] theorem and_bool {p : Prop} [Decidable p] : (if p then true else false) = decide p := by by_cases h : p <;> simp [h]

@[simp] theorem eqv_none_none   : D.eqv .none .none = true := by simp only [D.eqv]
@[simp] theorem eqv_none_bool  (c : Bool) : D.eqv .none (.bool c) = false := by simp only [D.eqv]
@[simp] theorem eqv_none_int  (c : Int) : D.eqv .none (.int c) = false := by simp only [D.eqv]
@[simp] theorem eqv_none_str  (c : Str) : D.eqv .none (.str c) = false := by simp only [D.eqv]
@[simp] theorem eqv_none_tup  (c : List D) : D.eqv .none (.tup c) = false := by simp only [D.eqv]
@[simp] theorem eqv_none_lst  (c : List D) : D.eqv .none (.lst c) = false := by simp only [D.eqv]
@[simp] theorem eqv_bool_none (a : Bool)  : D.eqv (.bool a) .none = false := by simp only [D.eqv]
@[simp] theorem eqv_bool_bool (a : Bool) (c : Bool) : D.eqv (.bool a) (.bool c) = (a == c) := by simp only [D.eqv]
@[simp] theorem eqv_bool_int (a : Bool) (c : Int) : D.eqv (.bool a) (.int c) = ((if a then 1 else 0) == c) := by simp only [D.eqv]
@[simp] theorem eqv_bool_str (a : Bool) (c : Str) : D.eqv (.bool a) (.str c) = false := by simp only [D.eqv]
@[simp] theorem eqv_bool_tup (a : Bool) (c : List D) : D.eqv (.bool a) (.tup c) = false := by simp only [D.eqv]
@[simp] theorem eqv_bool_lst (a : Bool) (c : List D) : D.eqv (.bool a) (.lst c) = false := by simp only [D.eqv]
@[simp] theorem eqv_int_none (a : Int)  : D.eqv (.int a) .none = false := by simp only [D.eqv]
@[simp] theorem eqv_int_bool (a : Int) (c : Bool) : D.eqv (.int a) (.bool c) = (a == (if c then 1 else 0)) := by simp only [D.eqv]
@[simp] theorem eqv_int_int (a : Int) (c : Int) : D.eqv (.int a) (.int c) = (a == c) := by simp only [D.eqv]
@[simp] theorem eqv_int_str (a : Int) (c : Str) : D.eqv (.int a) (.str c) = false := by simp only [D.eqv]
@[simp] theorem eqv_int_tup (a : Int) (c : List D) : D.eqv (.int a) (.tup c) = false := by simp only [D.eqv]
@[simp] theorem eqv_int_lst (a : Int) (c : List D) : D.eqv (.int a) (.lst c) = false := by simp only [D.eqv]
@[simp] theorem eqv_str_none (a : Str)  : D.eqv (.str a) .none = false := by simp only [D.eqv]
@[simp] theorem eqv_str_bool (a : Str) (c : Bool) : D.eqv (.str a) (.bool c) = false := by simp only [D.eqv]
@[simp] theorem eqv_str_int (a : Str) (c : Int) : D.eqv (.str a) (.int c) = false := by simp only [D.eqv]
@[simp] theorem eqv_str_str (a : Str) (c : Str) : D.eqv (.str a) (.str c) = (a == c) := by simp only [D.eqv]
@[simp] theorem eqv_str_tup (a : Str) (c : List D) : D.eqv (.str a) (.tup c) = false := by simp only [D.eqv]
@[simp] theorem eqv_str_lst (a : Str) (c : List D) : D.eqv (.str a) (.lst c) = false := by simp only [D.eqv]
@[simp] theorem eqv_tup_none (a : List D)  : D.eqv (.tup a) .none = false := by simp only [D.eqv]
@[simp] theorem eqv_tup_bool (a : List D) (c : Bool) : D.eqv (.tup a) (.bool c) = false := by simp only [D.eqv]
@[simp] theorem eqv_tup_int (a : List D) (c : Int) : D.eqv (.tup a) (.int c) = false := by simp only [D.eqv]
@[simp] theorem eqv_tup_str (a : List D) (c : Str) : D.eqv (.tup a) (.str c) = false := by simp only [D.eqv]
@[simp] theorem eqv_tup_tup (a : List D) (c : List D) : D.eqv (.tup a) (.tup c) = eqvL a c := by simp only [D.eqv]
@[simp] theorem eqv_tup_lst (a : List D) (c : List D) : D.eqv (.tup a) (.lst c) = false := by simp only [D.eqv]
@[simp] theorem eqv_lst_none (a : List D)  : D.eqv (.lst a) .none = false := by simp only [D.eqv]
@[simp] theorem eqv_lst_bool (a : List D) (c : Bool) : D.eqv (.lst a) (.bool c) = false := by simp only [D.eqv]
@[simp] theorem eqv_lst_int (a : List D) (c : Int) : D.eqv (.lst a) (.int c) = false := by simp only [D.eqv]
@[simp] theorem eqv_lst_str (a : List D) (c : Str) : D.eqv (.lst a) (.str c) = false := by simp only [D.eqv]
@[simp] theorem eqv_lst_tup (a : List D) (c : List D) : D.eqv (.lst a) (.tup c) = false := by simp only [D.eqv]
@[simp] theorem eqv_lst_lst (a : List D) (c : List D) : D.eqv (.lst a) (.lst c) = eqvL a c := by simp only [D.eqv]
@[simp] theorem eqvL_nn : eqvL [] [] = true := by simp only [eqvL]
@[simp] theorem eqvL_cc (x y : D) (l m : List D) : eqvL (x :: l) (y :: m) = (x.eqv y && eqvL l m) := by simp only [eqvL]
@[simp] theorem eqvL_nc (y : D) (m : List D) : eqvL [] (y :: m) = false := by simp only [eqvL]
@[simp] theorem eqvL_cn (x : D) (l : List D) : eqvL (x :: l) [] = false := by simp only [eqvL]
@[simp] theorem dep_none (n : Nat) : D.dep n .none = true := by cases n <;> rfl
@[simp] theorem dep_bool (n : Nat) (b : Bool) : D.dep n (.bool b) = true := by cases n <;> rfl
@[simp] theorem dep_int (n : Nat) (b : Int) : D.dep n (.int b) = true := by cases n <;> rfl
@[simp] theorem dep_lst (n : Nat) (l : List D) : D.dep (n + 1) (.lst l) = l.all (D.dep n) := rfl
@[simp] theorem dep_tup (n : Nat) (l : List D) : D.dep (n + 1) (.tup l) = l.all (D.dep n) := rfl

theorem setT_n (r : Env) (i : Nat) (d : D) : setT r (.n i) d = some (r.set i (.sh d)) := by simp only [setT]
theorem setT_2 (r : Env) (i j : Nat) (x y : D) : setT r (.t [.n i, .n j]) (.tup [x, y]) = some ((r.set i (.sh x)).set j (.sh y)) := by simp only [setT, setTs, Option.bind_some]
/-! ### a def's run -/
theorem fnOf_rt {p n : Nat} {b : S} {ds : List D} {s s' : Sto} {d : D} {r : Env} (hl : ds.length = p) (h : b (startL n ds) s = .ok (.rt d) r s') : fnOf p n b ds s = .ok d s' := by
  unfold fnOf; rw [if_pos hl, h]
theorem fnOf_nx {p n : Nat} {b : S} {ds : List D} {s s' : Sto} {r : Env} (hl : ds.length = p) (h : b (startL n ds) s = .ok .nx r s') : fnOf p n b ds s = .ok .none s' := by
  unfold fnOf; rw [if_pos hl, h]
theorem fnOf_exc {p n : Nat} {b : S} {ds : List D} {s s' : Sto} {x : Xc} {r : Env} (hl : ds.length = p) (h : b (startL n ds) s = .exc x r s') : fnOf p n b ds s = .exc x s' := by
  unfold fnOf; rw [if_pos hl, h]

/-! ### comprehensions -/
theorem wipeL_len' (r : Env) : ∀ is : List Nat, (wipeL r is).length = r.length
  | [] => rfl
  | i :: is => by simp only [wipeL, List.length_set, wipeL_len' r is]
theorem wipeL_get {r : Env} {j : Nat} : ∀ {is : List Nat}, j ∉ is → (wipeL r is)[j]? = r[j]?
  | [], _ => rfl
  | i :: is, h => by
    simp only [wipeL]
    rw [List.getElem?_set_ne (fun e => h (by rw [e]; exact List.mem_cons_self)), wipeL_get fun z => h (List.mem_cons_of_mem _ z)]
theorem backL_len (r0 r : Env) : ∀ is : List Nat, (backL r0 r is).length = r.length
  | [] => rfl
  | i :: is => by simp only [backL, List.length_set, backL_len r0 r is]
theorem backL_same {r0 r : Env} {own : List Nat} (h : wipeL r own = wipeL r0 own) : backL r0 r own = r0 := by
  have hl : r.length = r0.length := by rw [← wipeL_len' r own, h, wipeL_len']
  have out : ∀ (is : List Nat) (j : Nat), j ∉ is → (backL r0 r is)[j]? = r[j]? := fun is j => by
    induction is with
    | nil => intro _; rfl
    | cons i is ih =>
      intro hn
      simp only [backL]
      rw [List.getElem?_set_ne (fun e => hn (by rw [e]; exact List.mem_cons_self)), ih fun z => hn (List.mem_cons_of_mem _ z)]
  have inn : ∀ (is : List Nat) (j : Nat), j ∈ is → j < r.length → (backL r0 r is)[j]? = some (r0.getD j .no) := fun is j => by
    induction is with
    | nil => intro h; cases h
    | cons i is ih =>
      intro h1 h2
      simp only [backL]
      by_cases hj : i = j
      · subst hj
        rw [List.getElem?_set, if_pos rfl, if_pos (by rw [backL_len]; exact h2)]
      · rw [List.getElem?_set_ne hj]
        rcases List.mem_cons.mp h1 with z | z
        · exact absurd z.symm hj
        · exact ih z h2
  apply List.ext_getElem?
  intro j
  by_cases hj : j ∈ own
  · by_cases hlt : j < r.length
    · rw [inn own j hj hlt, List.getD_eq_getElem?_getD, List.getElem?_eq_getElem (by omega)]
      rfl
    · rw [List.getElem?_eq_none (by rw [backL_len]; omega), List.getElem?_eq_none (by omega)]
  · rw [out own j hj, ← wipeL_get (r := r) hj, h, wipeL_get hj]
/-- a comprehension whose parts change nothing -/
theorem compLoop_pure {α : Type} {g : Tg} {own : List Nat} {c e : M D} {W : Env} {s : Sto} (enc : α → D) (p : α → Bool) (f : α → D) : ∀ (xs : List α) (acc : List D) (r : Env), wipeL r own = W →
    (∀ x ∈ xs, ∃ r2, setT W g (enc x) = some r2 ∧ wipeL r2 own = W ∧ c r2 s = .ok (.bool (p x)) r2 s ∧ (p x = true → e r2 s = .ok (f x) r2 s)) →
    ∃ r', wipeL r' own = W ∧ compLoop g own c e (xs.map enc) acc r s = .ok (acc.reverse ++ (xs.filter p).map f) r' s
  | [], acc, r, hr, _ => ⟨r, hr, by simp [compLoop]⟩
  | x :: xs, acc, r, hr, h => by
    obtain ⟨r2, h1, h2, h3, h4⟩ := h x List.mem_cons_self
    have hx : ∀ y ∈ xs, ∃ r2, setT W g (enc y) = some r2 ∧ wipeL r2 own = W ∧ c r2 s = .ok (.bool (p y)) r2 s ∧ (p y = true → e r2 s = .ok (f y) r2 s) := fun y hy => h y (List.mem_cons_of_mem _ hy)
    simp only [List.map_cons, compLoop, hr, h1, h3]
    cases hp : p x with
    | true =>
      obtain ⟨r', e1, e2⟩ := compLoop_pure enc p f xs (f x :: acc) r2 h2 hx
      refine ⟨r', e1, ?_⟩
      simp only [h4 hp]
      rw [e2]
      simp [hp]
    | false =>
      obtain ⟨r', e1, e2⟩ := compLoop_pure enc p f xs acc r2 h2 hx
      refine ⟨r', e1, ?_⟩
      simp only
      rw [e2]
      simp [hp]
theorem eComp_pure {α : Type} {it : It} {g : Tg} {own : List Nat} {c e : M D} {r r1 : Env} {s s1 : Sto} (xs : List α) (enc : α → D) (p : α → Bool) (f : α → D) (hi : it r s = .ok (xs.map enc) r1 s1) (hn : notOw r1 own = true)
    (h : ∀ x ∈ xs, ∃ r2, setT (wipeL r1 own) g (enc x) = some r2 ∧ wipeL r2 own = wipeL r1 own ∧ c r2 s1 = .ok (.bool (p x)) r2 s1 ∧ (p x = true → e r2 s1 = .ok (f x) r2 s1)) :
    eComp it g own c e r s = .ok (.lst ((xs.filter p).map f)) r1 s1 := by
  obtain ⟨r', e1, e2⟩ := compLoop_pure (W := wipeL r1 own) (g := g) enc p f xs [] r1 rfl h
  unfold eComp
  rw [hi, R.bind_ok, if_pos hn, e2, R.bind_ok, backL_same e1]
  simp
/-- .. without a test -/
theorem eComp_map {α : Type} {it : It} {g : Tg} {own : List Nat} {e : M D} {r r1 : Env} {s s1 : Sto} (xs : List α) (enc : α → D) (f : α → D) (hi : it r s = .ok (xs.map enc) r1 s1) (hn : notOw r1 own = true)
    (h : ∀ x ∈ xs, ∃ r2, setT (wipeL r1 own) g (enc x) = some r2 ∧ wipeL r2 own = wipeL r1 own ∧ e r2 s1 = .ok (f x) r2 s1) :
    eComp it g own eYes e r s = .ok (.lst (xs.map f)) r1 s1 := by
  have q := eComp_pure (c := eYes) (e := e) (g := g) xs enc (fun _ => true) f hi hn (fun x hx => by
    obtain ⟨r2, h1, h2, h3⟩ := h x hx
    exact ⟨r2, h1, h2, rfl, fun _ => h3⟩)
  rw [q, List.filter_eq_self.mpr (fun _ _ => rfl)]
/-- a comprehension that goes on in the store -/
theorem compLoop_sto {g : Tg} {own : List Nat} {e : M D} {W : Env} (I : Nat → List D → Sto → Prop) : ∀ (ds : List D) (acc : List D) (r : Env) (s : Sto) (k : Nat), wipeL r own = W → I k acc.reverse s →
    (∀ (j : Nat) (d : D), ds[j]? = some d → ∀ acc s, I (k + j) acc s → ∃ r2 y s2, setT W g d = some r2 ∧ wipeL r2 own = W ∧ e r2 s = .ok y r2 s2 ∧ I (k + j + 1) (acc ++ [y]) s2) →
    ∃ r' ys s', wipeL r' own = W ∧ compLoop g own eYes e ds acc r s = .ok ys r' s' ∧ I (k + ds.length) ys s'
  | [], acc, r, s, k, hr, hI, _ => ⟨r, acc.reverse, s, hr, by simp [compLoop], by simpa using hI⟩
  | d :: ds, acc, r, s, k, hr, hI, h => by
    obtain ⟨r2, y, s2, h1, h2, h3, h4⟩ := h 0 d rfl acc.reverse s hI
    obtain ⟨r', ys, s', e1, e2, e3⟩ := compLoop_sto I ds (y :: acc) r2 s2 (k + 1) h2 (by simpa using h4) (fun j d hd acc s hI => by
      have := h (j + 1) d (by simpa using hd) acc s (by rw [show k + (j + 1) = k + 1 + j by omega]; exact hI)
      rw [show k + (j + 1) + 1 = k + 1 + j + 1 by omega] at this
      exact this)
    refine ⟨r', ys, s', e1, ?_, ?_⟩
    · simp only [compLoop, hr, h1, eYes, eC, h3]
      exact e2
    · rw [List.length_cons]
      rw [show k + (ds.length + 1) = k + 1 + ds.length by omega]
      exact e3
theorem eComp_sto {it : It} {g : Tg} {own : List Nat} {e : M D} {r r1 : Env} {s s1 : Sto} {ds : List D} (I : Nat → List D → Sto → Prop) (hi : it r s = .ok ds r1 s1) (hn : notOw r1 own = true) (h0 : I 0 [] s1)
    (h : ∀ (j : Nat) (d : D), ds[j]? = some d → ∀ acc s, I j acc s → ∃ r2 y s2, setT (wipeL r1 own) g d = some r2 ∧ wipeL r2 own = wipeL r1 own ∧ e r2 s = .ok y r2 s2 ∧ I (j + 1) (acc ++ [y]) s2) :
    ∃ ys s', eComp it g own eYes e r s = .ok (.lst ys) r1 s' ∧ I ds.length ys s' := by
  obtain ⟨r', ys, s', e1, e2, e3⟩ := compLoop_sto (W := wipeL r1 own) I ds [] r1 s1 0 rfl h0 (fun j d hd acc s hI => by
    have := h j d hd acc s (by simpa using hI)
    simpa using this)
  refine ⟨ys, s', ?_, by simpa using e3⟩
  unfold eComp
  rw [hi, R.bind_ok, if_pos hn, e2, R.bind_ok, backL_same e1]

/-! ### loops -/
theorem forL_nil {g : Tg} {b : S} {r : Env} {s : Sto} : forL g b [] r s = .ok .nx r s := rfl
/-- a for by its invariant, each turn ends in the next -/
theorem forL_inv {α : Type} {g : Tg} {b : S} (enc : α → D) (I : Nat → Env → Sto → Prop) : ∀ (xs : List α) (k : Nat) (r : Env) (s : Sto), I k r s →
    (∀ (j : Nat) (x : α), xs[j]? = some x → ∀ r s, I (k + j) r s → ∃ r1 r2 s2, setT r g (enc x) = some r1 ∧ b r1 s = .ok .nx r2 s2 ∧ I (k + j + 1) r2 s2) →
    ∃ r' s', forL g b (xs.map enc) r s = .ok .nx r' s' ∧ I (k + xs.length) r' s'
  | [], k, r, s, h0, _ => ⟨r, s, rfl, by simpa using h0⟩
  | x :: xs, k, r, s, h0, h => by
    obtain ⟨r1, r2, s2, h1, h2, h3⟩ := h 0 x rfl r s (by simpa using h0)
    obtain ⟨r', s', e1, e2⟩ := forL_inv enc I xs (k + 1) r2 s2 (by simpa using h3) (fun j y hj r s hI => by
      have := h (j + 1) y (by simpa using hj) r s (by rw [show k + (j + 1) = k + 1 + j by omega]; exact hI)
      rw [show k + (j + 1) + 1 = k + 1 + j + 1 by omega] at this
      exact this)
    refine ⟨r', s', ?_, ?_⟩
    · simp only [List.map_cons, forL, h1, h2, R.bind_ok]
      exact e1
    · rw [List.length_cons, show k + (xs.length + 1) = k + 1 + xs.length by omega]
      exact e2
@[simp] def flOf : Option D → Fl
  | some d => .rt d
  | .none => .nx
/-- a for whose turns return or go on, changing nothing that counts: P x: it goes on; else it hands back d x -/
theorem forL_search {α : Type} {g : Tg} {b : S} {s : Sto} (enc : α → D) (I : Env → Prop) (stop : α → Option D) : ∀ (xs : List α) (r : Env), I r →
    (∀ x ∈ xs, ∀ r, I r → ∃ r1 r2, setT r g (enc x) = some r1 ∧ I r2 ∧ b r1 s = .ok (flOf (stop x)) r2 s) →
    ∃ r', I r' ∧ forL g b (xs.map enc) r s = .ok (flOf (xs.findSome? stop)) r' s
  | [], r, hr, _ => ⟨r, hr, rfl⟩
  | x :: xs, r, hr, h => by
    obtain ⟨r1, r2, h1, h2, h3⟩ := h x List.mem_cons_self r hr
    cases hs : stop x with
    | some d =>
      rw [hs] at h3
      exact ⟨r2, h2, by simp only [List.map_cons, forL, h1, h3, R.bind_ok, List.findSome?_cons, hs, flOf]⟩
    | none =>
      rw [hs] at h3
      obtain ⟨r', e1, e2⟩ := forL_search enc I stop xs r2 h2 (fun y hy => h y (List.mem_cons_of_mem _ hy))
      refine ⟨r', e1, ?_⟩
      simp only [List.map_cons, forL, h1, h3, R.bind_ok, List.findSome?_cons, hs, flOf]
      exact e2
/-- a while by a measure -/
theorem whileL_inv {c : M D} {b : S} (I : Env → Sto → Prop) (μ : Env → Sto → Nat) (Qd : Env → Sto → Prop) : ∀ (n : Nat) (r : Env) (s : Sto), I r s → μ r s < n →
    (∀ r s, I r s → (∃ r1 s1 r2 s2, c r s = .ok (.bool true) r1 s1 ∧ b r1 s1 = .ok .nx r2 s2 ∧ I r2 s2 ∧ μ r2 s2 < μ r s) ∨ (∃ r1 s1, c r s = .ok (.bool false) r1 s1 ∧ Qd r1 s1)) →
    ∃ r' s', whileL c b n r s = .ok .nx r' s' ∧ Qd r' s'
  | 0, r, s, _, h, _ => by omega
  | n + 1, r, s, hI, hm, h => by
    rcases h r s hI with ⟨r1, s1, r2, s2, h1, h2, h3, h4⟩ | ⟨r1, s1, h1, h2⟩
    · obtain ⟨r', s', e1, e2⟩ := whileL_inv I μ Qd n r2 s2 h3 (by omega) h
      refine ⟨r', s', ?_, e2⟩
      simp only [whileL, h1, h2, R.bind_ok]
      exact e1
    · exact ⟨r1, s1, by simp only [whileL, h1, R.bind_ok], h2⟩
theorem sWhile_inv {c : M D} {b : S} {r : Env} {s : Sto} (I : Env → Sto → Prop) (μ : Env → Sto → Nat) (Qd : Env → Sto → Prop) (hI : I r s) (hm : μ r s < 1000000000)
    (h : ∀ r s, I r s → (∃ r1 s1 r2 s2, c r s = .ok (.bool true) r1 s1 ∧ b r1 s1 = .ok .nx r2 s2 ∧ I r2 s2 ∧ μ r2 s2 < μ r s) ∨ (∃ r1 s1, c r s = .ok (.bool false) r1 s1 ∧ Qd r1 s1)) :
    ∃ r' s', sWhile c b r s = .ok .nx r' s' ∧ Qd r' s' := whileL_inv I μ Qd WN r s hI hm h

/-! ### numbers as items -/
theorem intsOf_map (ns : List Int) : intsOf (ns.map .int) = some ns := by
  induction ns with
  | nil => rfl
  | cons n ns ih => simp [intsOf, ih]
theorem boolsOf_map (ns : List Bool) : boolsOf (ns.map .bool) = some ns := by
  induction ns with
  | nil => rfl
  | cons n ns ih => simp [boolsOf, ih]
theorem boolsOf_map' {α : Type} (f : α → Bool) (xs : List α) : boolsOf (xs.map fun x => .bool (f x)) = some (xs.map f) := by
  have := boolsOf_map (xs.map f)
  rw [List.map_map] at this
  exact this
theorem intsOf_map' {α : Type} (f : α → Int) (xs : List α) : intsOf (xs.map fun x => .int (f x)) = some (xs.map f) := by
  have := intsOf_map (xs.map f)
  rw [List.map_map] at this
  exact this
theorem getI_map {α : Type} (f : α → D) (xs : List α) (i : Nat) (x : α) (h : xs[i]? = some x) : getI (xs.map f) (i : Int) = some (f x) := by
  have hi : i < xs.length := (List.getElem?_eq_some_iff.mp h).1
  unfold getI ixOf
  rw [if_pos (by omega), List.length_map, if_pos (by omega)]
  simp [h]
theorem getI_nat {xs : List D} {i : Nat} {x : D} (h : xs[i]? = some x) : getI xs (i : Int) = some x := by
  have := getI_map id xs i x h
  simpa using this
end Pk
/-! Sp1: lands, cells. -/
namespace Pk
open PySem (Str)
def encR (r : List Int) : D := .tup (r.map .int)
def encL (L : List (List Int)) : D := .tup (L.map encR)
def encC (c : Int × Int) : D := .tup [.int c.1, .int c.2]
structure Land (L : List (List Int)) (h w : Nat) : Prop where
  rows : L.length = h
  hr : 1 ≤ h ∧ h ≤ 8
  hw : 1 ≤ w ∧ w ≤ 8
  cols : ∀ r ∈ L, r.length = w
  ht : ∀ r ∈ L, ∀ x ∈ r, 0 ≤ x ∧ x ≤ 999
def InL (h w : Nat) (c : Int × Int) : Prop := 0 ≤ c.1 ∧ c.1 < h ∧ 0 ≤ c.2 ∧ c.2 < w
def rowAt (L : List (List Int)) (i : Int) : List Int := L.getD i.toNat []
def hAt (L : List (List Int)) (c : Int × Int) : Int := (rowAt L c.1).getD c.2.toNat 0

theorem is_whole_int (i lo hi : Int) (s : Sto) : py_is_whole [.int i, .int lo, .int hi] s = .ok (.bool (decide (lo ≤ i) && decide (i ≤ hi))) s := by
  by_cases h : lo ≤ i <;> simp [py_is_whole, bo_is_whole, fnOf, startL, h]
theorem co_is_line_0_ok (r : List Int) (z : Sl) (s : Sto) : co_is_line_0 [.sh (encR r), z, .no] s = .ok (.lst (r.map fun x => .bool (decide (0 ≤ x) && decide (x ≤ 999)))) [.sh (encR r), z, .no] s :=
  eComp_map r .int _ rfl rfl fun x hx => ⟨_, rfl, rfl, by simp [is_whole_int]⟩
theorem is_line_ok (r : List Int) (s : Sto) (h : ∀ x ∈ r, 0 ≤ x ∧ x ≤ 999) : py_is_line [encR r, .int r.length] s = .ok (.bool true) s := by
  have h' := co_is_line_0_ok r (.sh (.int r.length)) s
  simp [encR] at h'
  simp [py_is_line, bo_is_line, fnOf, startL, encR, h', pAll, boolsOf_map']
  exact h
theorem getI_int {l : List D} {i : Int} (h0 : 0 ≤ i) (h1 : i < l.length) : getI l i = l[i.toNat]? := by
  unfold getI ixOf
  rw [if_pos h0, if_pos h1]
  rfl
theorem Land.cons {L : List (List Int)} {h w : Nat} (hL : Land L h w) : ∃ r L', L = r :: L' ∧ r.length = w := by
  cases L with
  | nil => have := hL.rows; have := hL.hr; simp at *; omega
  | cons r L' => exact ⟨r, L', rfl, hL.cols r List.mem_cons_self⟩
theorem getI_zero (x : D) (l : List D) : getI (x :: l) 0 = some x := by simp [getI, ixOf]
theorem is_land_ok {L : List (List Int)} {h w : Nat} (hL : Land L h w) (s : Sto) : py_is_land [encL L] s = .ok (.bool true) s := by
  obtain ⟨r0, L', rfl, hw⟩ := hL.cons
  have h1 := hL.rows
  have h2 := hL.hr
  have h3 := hL.hw
  have hc : co_is_land_0 [.sh (encL (r0 :: L')), .no] s = .ok (.lst ((r0 :: L').map fun _ => .bool true)) [.sh (encL (r0 :: L')), .no] s :=
    eComp_map (r0 :: L') encR _ rfl rfl fun r hr => ⟨_, rfl, rfl, by
      have e : r.length = w := hL.cols r hr
      have q := is_line_ok r s (hL.ht r hr)
      rw [e] at q
      simp [encL, encR, getI_zero, hw] at q ⊢
      rw [q]
      rfl⟩
  simp [encL, encR] at hc
  simp only [List.length_cons] at h1
  have b1 : (1 : Int) ≤ L'.length + 1 := by omega
  have b2 : ((L'.length : Int) + 1) ≤ 8 := by omega
  have b3 : (1 : Int) ≤ r0.length := by omega
  have b4 : (r0.length : Int) ≤ 8 := by omega
  simp [py_is_land, bo_is_land, fnOf, startL, encL, encR, hc, getI_zero, pAll, boolsOf_map', boolsOf, b1, b2, b3, b4]
theorem need_land_ok {L : List (List Int)} {h w : Nat} (hL : Land L h w) (s : Sto) : py_need_land [encL L] s = .ok .none s := by
  simp [py_need_land, bo_need_land, fnOf, startL, is_land_ok hL]
theorem is_cell_int {L : List (List Int)} {h w : Nat} (hL : Land L h w) (c : Int × Int) (s : Sto) : py_is_cell [encL L, encC c] s = .ok (.bool (decide (0 ≤ c.1) && decide (c.1 < h) && decide (0 ≤ c.2) && decide (c.2 < w))) s := by
  obtain ⟨r0, L', rfl, hw⟩ := hL.cons
  have h1 := hL.rows
  simp only [List.length_cons] at h1
  subst h1 hw
  simp [py_is_cell, bo_is_cell, fnOf, startL, encL, encR, encC, getI, ixOf, is_whole_int]
  by_cases a1 : 0 ≤ c.1 <;> by_cases a2 : c.1 ≤ L'.length <;> simp [a1, a2]
  · have a3 : c.1 < L'.length + 1 := by omega
    simp [a3]
    by_cases a4 : 0 ≤ c.2 <;> simp [a4]
    omega
  · intro h1
    omega
theorem need_cell_ok {L : List (List Int)} {h w : Nat} (hL : Land L h w) {c : Int × Int} (hc : InL h w c) (s : Sto) : py_need_cell [encL L, encC c] s = .ok .none s := by
  obtain ⟨a, b, d, e⟩ := hc
  simp [py_need_cell, bo_need_cell, fnOf, startL, is_cell_int hL, a, b, d, e]
theorem need_both_ok {L : List (List Int)} {h w : Nat} (hL : Land L h w) {c : Int × Int} (hc : InL h w c) (s : Sto) : py_need_both [encL L, encC c] s = .ok .none s := by
  simp [py_need_both, bo_need_both, fnOf, startL, need_land_ok hL, need_cell_ok hL hc]
theorem row_get {L : List (List Int)} {h w : Nat} (hL : Land L h w) {i : Int} (h0 : 0 ≤ i) (h1 : i < h) : getI (L.map encR) i = some (.tup ((rowAt L i).map .int)) ∧ (rowAt L i).length = w := by
  have hl : i.toNat < L.length := by rw [hL.rows]; omega
  have e : rowAt L i = L[i.toNat] := by simp [rowAt, List.getD, hl]
  rw [getI_int h0 (by rw [List.length_map, hL.rows]; omega), e]
  exact ⟨by simp [hl, encR], hL.cols _ (List.getElem_mem hl)⟩
theorem at_get {L : List (List Int)} {h w : Nat} (hL : Land L h w) {c : Int × Int} (hc : InL h w c) : getI ((rowAt L c.1).map .int) c.2 = some (.int (hAt L c)) := by
  obtain ⟨a, b, d, e⟩ := hc
  obtain ⟨g1, g2⟩ := row_get hL a b
  rw [getI_int d (by rw [List.length_map, g2]; exact e)]
  have hl : c.2.toNat < (rowAt L c.1).length := by omega
  unfold hAt
  rw [List.getElem?_map, List.getElem?_eq_getElem hl, List.getD_eq_getElem?_getD, List.getElem?_eq_getElem hl]
  rfl
@[simp] theorem getI_c0 (x y : D) : getI [x, y] 0 = some x := getI_zero _ _
@[simp] theorem getI_c1 (x y : D) : getI [x, y] 1 = some y := by simp [getI, ixOf]
theorem at_ok {L : List (List Int)} {h w : Nat} (hL : Land L h w) {c : Int × Int} (hc : InL h w c) (s : Sto) : py_at [encL L, encC c] s = .ok (.int (hAt L c)) s := by
  have g1 := (row_get hL hc.1 hc.2.1).1
  have g3 := at_get hL hc
  simp [py_at, bo_at, fnOf, startL, encL, encC, g1, g3]
theorem law_high_ok {L : List (List Int)} {h w : Nat} (hL : Land L h w) {c : Int × Int} (hc : InL h w c) (s : Sto) : py_law_high [encL L, encC c] s = .ok (.int (hAt L c)) s := at_ok hL hc s
/-! ### all cells -/
def rowC (i w : Nat) : List (Int × Int) := (List.range w).map fun (j : Nat) => ((i : Int), (j : Int))
def cellsL (h w : Nat) : List (Int × Int) := (List.range h).flatMap fun i => rowC i w
theorem cellsL_succ (h w : Nat) : cellsL (h + 1) w = cellsL h w ++ rowC h w := by simp [cellsL, List.range_succ]
theorem cellsL_len (h w : Nat) : (cellsL h w).length = h * w := by
  induction h with
  | zero => simp [cellsL]
  | succ h ih => rw [cellsL_succ, List.length_append, ih, Nat.succ_mul]; simp [rowC]
theorem mem_cellsL {h w : Nat} {c : Int × Int} : c ∈ cellsL h w ↔ InL h w c := by
  unfold cellsL rowC InL
  simp only [List.mem_flatMap, List.mem_range, List.mem_map]
  constructor
  · rintro ⟨i, hi, j, hj, rfl⟩
    exact ⟨by simp, by simpa using hi, by simp, by simpa using hj⟩
  · rintro ⟨a, b, d, e⟩
    exact ⟨c.1.toNat, by omega, c.2.toNat, by omega, by ext <;> simp <;> omega⟩
theorem Land.row0 {L : List (List Int)} {h w : Nat} (hL : Land L h w) : getI (L.map encR) 0 = some (.tup ((rowAt L 0).map .int)) := (row_get hL (Int.le_refl 0) (by have := hL.hr; omega)).1
theorem Land.len0 {L : List (List Int)} {h w : Nat} (hL : Land L h w) : (rowAt L 0).length = w := (row_get hL (Int.le_refl 0) (by have := hL.hr; omega)).2
theorem small_nat {n : Nat} (h : n ≤ 1000000) : small (n : Int) = true := lim_of ⟨by omega, by omega⟩
theorem SZ_int {n : Nat} (h : n ≤ 1000000) : (n : Int) ≤ (SZ : Int) := Int.ofNat_le.mpr (Nat.le_trans h (by decide))
theorem co_cells_ok {L : List (List Int)} {h w : Nat} (hL : Land L h w) (s : Sto) (k : Nat) (z : Sl) (hz : notOw [.no, .no, .no, z] [3] = true) (x : Sl) : co_cells_of_0 [.sh (encL L), x, .sh (.int k), z] s =
      .ok (.lst ((List.range w).map fun (j : Nat) => encC ((k : Int), (j : Int)))) [.sh (encL L), x, .sh (.int k), z] s := by
  have h3 := hL.hw
  have h0 := hL.row0
  have l0 := hL.len0
  unfold co_cells_of_0
  refine eComp_map (List.range w) (fun (j : Nat) => .int (0 + (j : Int))) (fun (j : Nat) => encC ((k : Int), (j : Int))) ?_ hz fun j hj => ⟨[.sh (encL L), x, .sh (.int k), .sh (.int (0 + j))], rfl, rfl, by simp [encC]⟩
  simp [encL, h0, l0, small_nat (n := w) (by omega), SZ_int (n := w) (by omega), upto]
theorem cells_for {L : List (List Int)} {h w : Nat} (hL : Land L h w) (s : Sto) (k : Nat) (hk : k ≤ 8) :
    fo_cells_of_0 [.sh (encL L), .ow (.lst ((cellsL k w).map encC)), .sh (.int k), .no] s = .ok .nx [.sh (encL L), .ow (.lst ((cellsL (k + 1) w).map encC)), .sh (.int k), .no] s := by
  have h3 := hL.hw
  have hc := co_cells_ok hL s k .no rfl (.ow (.lst ((cellsL k w).map encC)))
  have hl : (cellsL k w).length + w ≤ SZ := by
    rw [cellsL_len]
    have : k * w ≤ 8 * 8 := Nat.mul_le_mul hk h3.2
    simp only [SZ]
    omega
  simp [fo_cells_of_0, hc, hl, cellsL_succ, rowC, Function.comp_def]
theorem cells_of_ok {L : List (List Int)} {h w : Nat} (hL : Land L h w) (s : Sto) : py_cells_of [encL L] s = .ok (.lst ((cellsL h w).map encC)) s := by
  have h2 := hL.hr
  obtain ⟨r', s', e1, e2⟩ := forL_inv (g := .n 2) (b := fo_cells_of_0) (fun (k : Nat) => D.int (0 + (k : Int))) (fun k r s1 => s1 = s ∧ ∃ z, r = [.sh (encL L), .ow (.lst ((cellsL k w).map encC)), z, .no]) (List.range h) 0 [.sh (encL L), .ow (.lst []), .no, .no] s
    ⟨rfl, .no, by simp [cellsL]⟩ (fun j x hj r s1 hI => by
      obtain ⟨rfl, z, rfl⟩ := hI
      obtain ⟨hj1, hj2⟩ := List.getElem?_eq_some_iff.mp hj
      rw [List.getElem_range] at hj2
      rw [List.length_range] at hj1
      subst hj2
      refine ⟨[.sh (encL L), .ow (.lst ((cellsL (0 + j) w).map encC)), .sh (.int (0 + j)), .no], _, _, rfl, ?_, rfl, ⟨.sh (.int (0 + j)), rfl⟩⟩
      have := cells_for hL s1 j (by omega)
      simpa using this)
  obtain ⟨rfl, z, rfl⟩ := e2
  simp only [List.length_range, Nat.zero_add] at e1
  have e1' : forL (.n 2) fo_cells_of_0 (upto 0 h) [.sh (encL L), .ow (.lst []), .no, .no] s' = _ := e1
  simp [py_cells_of, bo_cells_of, fnOf, startL, encL, hL.rows, small_nat (n := h) (by omega), SZ_int (n := h) (by omega)]
  simp [encL] at e1'
  rw [e1']
  simp
theorem law_cells_ok {L : List (List Int)} {h w : Nat} (hL : Land L h w) (s : Sto) : py_law_cells [encL L] s = .ok (.lst ((cellsL h w).map encC)) s := cells_of_ok hL s
end Pk
/-! Sp2: draws; the land that the script makes. -/
namespace Pk
open PySem (Str)
def St (n : Nat) : Sto := ⟨some n, []⟩
theorem scr_ix {ns : List Int} {i : Int} (h0 : 0 ≤ i) (h1 : i < ns.length) : ∃ v : Int, pIx (.scr ns) (.int i) = some (.int v) := by
  have hl : i.toNat < ns.length := by omega
  refine ⟨ns[i.toNat], ?_⟩
  simp only [pIx, ixOf, if_pos h0, if_pos h1, Option.bind_some, List.getElem?_eq_getElem hl, Option.map_some]
theorem cell_for (a b z : Sl) (s : Sto) (v : Int) : fo_law_cell_at_0 [a, b, .sh (.int v), z] s = .ok .nx [a, b, .sh (.int (v / 1000003)), z] s := by
  have h1 : lim ((0 : Int) < 1000003 ∧ (1000003 : Int) < 1073741824) = true := lim_of ⟨by decide, by decide⟩
  simp [fo_law_cell_at_0, h1]
theorem cell_at_ok (ns : List Int) (k : Nat) (s : Sto) (hn : ns.length ≤ 63) : ∃ v : Int, py_law_cell_at [.scr ns, .int k] s = .ok (.int v) s := by
  by_cases h : k < ns.length
  · obtain ⟨v, hv⟩ := scr_ix (ns := ns) (i := k) (by omega) (by omega)
    refine ⟨v, ?_⟩
    have hk : ((k : Int) < ns.length) := by omega
    simp only [pIx] at hv
    simp [py_law_cell_at, bo_law_cell_at, fnOf, startL, hk, hv, h]
  · cases hns : ns with
    | nil =>
      refine ⟨0, ?_⟩
      have hk : ¬ (k : Int) < 0 := by omega
      simp [py_law_cell_at, bo_law_cell_at, fnOf, startL, hk]
    | cons x xs =>
      rw [← hns]
      have hp : 0 < ns.length := by rw [hns]; simp
      have he : ns.isEmpty = false := by rw [hns]; rfl
      obtain ⟨v, hv⟩ := scr_ix (ns := ns) (i := (k : Int) % (ns.length : Int)) (Int.emod_nonneg _ (by omega)) (Int.emod_lt_of_pos _ (by omega))
      have hk : ¬ ((k : Int) < ns.length) := by omega
      have l1 : lim ((0 : Int) < ns.length) = true := lim_of (by omega)
      have l2 : lim ((0 : Int) < ns.length ∧ (ns.length : Int) < 1073741824) = true := lim_of (by omega)
      have l2n : (ns.length : Int) < 1073741824 := by omega
      have hq : 0 ≤ (k : Int) / (ns.length : Int) := Int.ediv_nonneg (by omega) (by omega)
      have hb : big 31 = true := lim_of ⟨by decide, by decide⟩
      have hb2 : big 101 = true := lim_of ⟨by decide, by decide⟩
      obtain ⟨q, hqe⟩ : ∃ q : Int, q = (if (60 : Int) < (k : Int) / (ns.length : Int) then (60 : Int) else (k : Int) / (ns.length : Int)) := ⟨_, rfl⟩
      have hq0 : 0 ≤ q ∧ q ≤ 60 := by rw [hqe]; split <;> omega
      have l3 : small q = true := lim_of ⟨by omega, by omega⟩
      have l4 : lim (q ≤ (SZ : Int)) = true := lim_of (by simp only [SZ]; omega)
      obtain ⟨r', s', e1, e2⟩ := forL_inv (g := .n 3) (b := fo_law_cell_at_0) (fun (k : Nat) => D.int (0 + (k : Int))) (fun _ r s1 => s1 = s ∧ ∃ (u : Int) (z : Sl), r = [.sh (.scr ns), .sh (.int k), .sh (.int u), z]) (List.range q.toNat) 0 [.sh (.scr ns), .sh (.int k), .sh (.int v), .no] s
        ⟨rfl, v, .no, rfl⟩ (fun j x hj r s1 hI => by
          obtain ⟨rfl, u, z, rfl⟩ := hI
          exact ⟨_, _, _, rfl, cell_for _ _ _ _ _, rfl, _, _, rfl⟩)
      obtain ⟨rfl, u, z, rfl⟩ := e2
      have e1' : forL (.n 3) fo_law_cell_at_0 (upto 0 q.toNat) [.sh (.scr ns), .sh (.int k), .sh (.int v), .no] s' = _ := e1
      refine ⟨v * 31 + k + u * 101, ?_⟩
      simp only [pIx] at hv
      simp [py_law_cell_at, bo_law_cell_at, fnOf, startL, hk, h, hv, he, hp, l2n, ← hqe, l3, of_lim l4, e1', hb, hb2]
theorem mixed_ok (ns : List Int) (k b : Nat) (s : Sto) (hn : ns.length ≤ 63) (hk : k ≤ 1000000) (hb : 0 < b) : ∃ v : Nat, v < b ∧ py_law_mixed [.scr ns, .int k, .int b] s = .ok (.int v) s := by
  obtain ⟨v, hv⟩ := cell_at_ok ns k s hn
  have b1 : big 1103515245 = true := lim_of ⟨by decide, by decide⟩
  have b2 : big 7919 = true := lim_of ⟨by decide, by decide⟩
  have l1 : lim ((0 : Int) < 2147483647) = true := lim_of (by decide)
  have l2 : lim ((0 : Int) < 999983) = true := lim_of (by decide)
  have l3 : lim ((0 : Int) < b) = true := lim_of (by omega)
  obtain ⟨y, hy⟩ : ∃ y : Int, y = (v * 1103515245 + 7919 * k + 12345) % 2147483647 := ⟨_, rfl⟩
  have hy0 : 0 ≤ y ∧ y < 2147483647 := by rw [hy]; exact ⟨Int.emod_nonneg _ (by decide), Int.emod_lt_of_pos _ (by decide)⟩
  have l4n : y.natAbs < 18446744073709551616 := by omega
  refine ⟨((((y ^ 5) % 2147483647) % 999983) % (b : Int)).toNat, ?_, ?_⟩
  · have := Int.emod_lt_of_pos (((y ^ 5) % 2147483647) % 999983) (b := (b : Int)) (by omega)
    have := Int.emod_nonneg (((y ^ 5) % 2147483647) % 999983) (b := (b : Int)) (by omega)
    omega
  · have := Int.emod_nonneg (((y ^ 5) % 2147483647) % 999983) (b := (b : Int)) (by omega)
    have e : (((((y ^ 5) % 2147483647) % 999983) % (b : Int)).toNat : Int) = (((y ^ 5) % 2147483647) % 999983) % (b : Int) := Int.toNat_of_nonneg this
    rw [e]
    simp [py_law_mixed, bo_law_mixed, fnOf, startL, hv, b1, b2, hb, ← hy, l4n]
theorem draw_ok (ns : List Int) (n b : Nat) (hn : ns.length ≤ 63) (hk : n < 1000000) (hb : 0 < b) : ∃ v : Nat, v < b ∧ py_law_draw [.scr ns, .town, .int b] (St n) = .ok (.int v) (St (n + 1)) := by
  obtain ⟨v, h1, h2⟩ := mixed_ok ns (n + 1) b (St (n + 1)) hn (by omega) hb
  refine ⟨v, h1, ?_⟩
  have l1 : lim (n < SZ) = true := lim_of (by simp only [SZ]; omega)
  simp only [Int.natCast_add, Int.cast_ofNat_Int] at h2
  simp [py_law_draw, bo_law_draw, fnOf, startL, St, l1] at h2 ⊢
  rw [h2]
  rfl
theorem pick_ok (ns : List Int) (n : Nat) (l : List D) (hn : ns.length ≤ 63) (hk : n < 1000000) (hl : l ≠ []) : ∃ d ∈ l, py_law_pick [.scr ns, .town, .lst l] (St n) = .ok d (St (n + 1)) := by
  have hp : 0 < l.length := List.length_pos_iff.mpr hl
  obtain ⟨v, h1, h2⟩ := draw_ok ns n l.length hn hk hp
  refine ⟨l[v], List.getElem_mem h1, ?_⟩
  have := getI_nat (xs := l) (i := v) (x := l[v]) (List.getElem?_eq_getElem h1)
  simp [py_law_pick, bo_law_pick, fnOf, startL, h2, this]
/-- the row of a land -/
theorem upto_len (n : Nat) (i : Int) : (upto i n).length = n := by simp [upto]
theorem upto_get {n j : Nat} {i : Int} {d : D} (h : (upto i n)[j]? = some d) : j < n ∧ d = .int (i + j) := by
  have hj : j < n := by have := (List.getElem?_eq_some_iff.mp h).1; rw [upto_len] at this; exact this
  refine ⟨hj, ?_⟩
  simp [upto, hj] at h
  exact h.symm
theorem range1_nat {i n : Nat} {r : Env} {s : Sto} (h : r[i]? = some (.sh (.int n))) (hn : n ≤ 1000000) : iRange1 (eV i) r s = .ok (upto 0 n) r s := by
  simp [h, small_nat hn, SZ_int hn]
theorem co_land_0_ok (ns : List Int) (hn : ns.length ≤ 63) (a h : D) (w b : Nat) (hw : w ≤ 8) (hb : 0 < b ∧ b ≤ 1000) (z6 : Sl) (n : Nat) (hk : n < 900000) :
    ∃ r : List Int, r.length = w ∧ (∀ x ∈ r, 0 ≤ x ∧ x ≤ 999) ∧ co_law_land_0 [.sh (.scr ns), .sh .town, .sh a, .sh h, .sh (.int w), .sh (.int b), z6, .no] (St n) =
      .ok (.lst (r.map .int)) [.sh (.scr ns), .sh .town, .sh a, .sh h, .sh (.int w), .sh (.int b), z6, .no] (St (n + w)) := by
  obtain ⟨ys, s', e1, e2⟩ := eComp_sto (it := iRange1 (eV 4)) (g := .n 7) (own := [7]) (e := eCall py_law_draw [eV 0, eV 1, eV 5] []) (r := [.sh (.scr ns), .sh .town, .sh a, .sh h, .sh (.int w), .sh (.int b), z6, .no]) (s := St n) (ds := upto 0 w)
    (fun k ys s1 => s1 = St (n + k) ∧ ∃ r : List Int, ys = r.map .int ∧ r.length = k ∧ ∀ x ∈ r, 0 ≤ x ∧ x ≤ 999) (range1_nat rfl (by omega)) rfl ⟨rfl, [], rfl, rfl, fun x hx => by cases hx⟩
    (fun j d hd acc s1 hI => by
      obtain ⟨rfl, r, rfl, h1, h2⟩ := hI
      obtain ⟨hj, rfl⟩ := upto_get hd
      obtain ⟨v, h3, h4⟩ := draw_ok ns (n + j) b hn (by omega) hb.1
      refine ⟨[.sh (.scr ns), .sh .town, .sh a, .sh h, .sh (.int w), .sh (.int b), z6, .sh (.int (0 + j))], .int v, St (n + j + 1), rfl, rfl, by simp [h4], rfl, r ++ [(v : Int)], by simp, by simp [h1], fun x hx => ?_⟩
      rcases List.mem_append.mp hx with z | z
      · exact h2 x z
      · rw [List.mem_singleton.mp z]; omega)
  rw [upto_len] at e2
  obtain ⟨rfl, r, rfl, h1, h2⟩ := e2
  exact ⟨r, h1, h2, e1⟩
theorem co_land_1_ok (ns : List Int) (hn : ns.length ≤ 63) (a : D) (h w b : Nat) (hh : h ≤ 8) (hw : w ≤ 8) (hb : 0 < b ∧ b ≤ 1000) (n : Nat) (hk : n < 800000) :
    ∃ L : List (List Int), L.length = h ∧ (∀ r ∈ L, r.length = w) ∧ (∀ r ∈ L, ∀ x ∈ r, 0 ≤ x ∧ x ≤ 999) ∧ co_law_land_1 [.sh (.scr ns), .sh .town, .sh a, .sh (.int h), .sh (.int w), .sh (.int b), .no, .no] (St n) =
      .ok (.lst (L.map encR)) [.sh (.scr ns), .sh .town, .sh a, .sh (.int h), .sh (.int w), .sh (.int b), .no, .no] (St (n + h * w)) := by
  obtain ⟨ys, s', e1, e2⟩ := eComp_sto (it := iRange1 (eV 3)) (g := .n 6) (own := [6]) (e := e1 pTup (.v co_law_land_0)) (r := [.sh (.scr ns), .sh .town, .sh a, .sh (.int h), .sh (.int w), .sh (.int b), .no, .no]) (s := St n) (ds := upto 0 h)
    (fun k ys s1 => s1 = St (n + k * w) ∧ ∃ L : List (List Int), ys = L.map encR ∧ L.length = k ∧ (∀ r ∈ L, r.length = w) ∧ (∀ r ∈ L, ∀ x ∈ r, 0 ≤ x ∧ x ≤ 999)) (range1_nat rfl (by omega)) rfl ⟨by simp, [], rfl, rfl, by simp, by simp⟩
    (fun j d hd acc s1 hI => by
      obtain ⟨rfl, L, rfl, h1, h2, h3⟩ := hI
      obtain ⟨hj, rfl⟩ := upto_get hd
      have : j * w ≤ 8 * 8 := Nat.mul_le_mul (by omega) hw
      obtain ⟨r, q1, q2, q3⟩ := co_land_0_ok ns hn a (.int h) w b hw hb (.sh (.int (0 + j))) (n + j * w) (by omega)
      simp only [Int.zero_add] at q3
      refine ⟨[.sh (.scr ns), .sh .town, .sh a, .sh (.int h), .sh (.int w), .sh (.int b), .sh (.int (0 + j)), .no], encR r, St (n + j * w + w), rfl, rfl, by simp [q3, encR], by rw [Nat.succ_mul, Nat.add_assoc], L ++ [r], by simp, by simp [h1], fun x hx => ?_, fun x hx => ?_⟩
      · rcases List.mem_append.mp hx with z | z
        · exact h2 x z
        · rw [List.mem_singleton.mp z]; exact q1
      · rcases List.mem_append.mp hx with z | z
        · exact h3 x z
        · rw [List.mem_singleton.mp z]; exact q2)
  rw [upto_len] at e2
  obtain ⟨rfl, L, rfl, h1, h2, h3⟩ := e2
  exact ⟨L, h1, h2, h3, e1⟩
theorem land_ok (ns : List Int) (hn : ns.length ≤ 63) (m n : Nat) (hm : 1 ≤ m ∧ m ≤ 8) (hk : n < 700000) :
    ∃ (L : List (List Int)) (h w n' : Nat), Land L h w ∧ h ≤ m ∧ w ≤ m ∧ n ≤ n' ∧ n' ≤ n + 100 ∧ py_law_land [.scr ns, .town, .int m] (St n) = .ok (encL L) (St n') := by
  obtain ⟨h, h1, h2⟩ := draw_ok ns n m hn (by omega) hm.1
  obtain ⟨w, w1, w2⟩ := draw_ok ns (n + 1) m hn (by omega) hm.1
  obtain ⟨d, d1, d2⟩ := pick_ok ns (n + 1 + 1) [.int 2, .int 3, .int 4, .int 6, .int 10, .int 1000] hn (by omega) (by simp)
  obtain ⟨b, hb, rfl⟩ : ∃ b : Nat, (0 < b ∧ b ≤ 1000) ∧ d = .int b := by
    simp only [List.mem_cons, List.not_mem_nil, or_false] at d1
    rcases d1 with rfl | rfl | rfl | rfl | rfl | rfl
    · exact ⟨2, by decide, rfl⟩
    · exact ⟨3, by decide, rfl⟩
    · exact ⟨4, by decide, rfl⟩
    · exact ⟨6, by decide, rfl⟩
    · exact ⟨10, by decide, rfl⟩
    · exact ⟨1000, by decide, rfl⟩
  obtain ⟨L, l1, l2, l3, l4⟩ := co_land_1_ok ns hn (.int m) (1 + h) (1 + w) b (by omega) (by omega) hb (n + 1 + 1 + 1) (by omega)
  have : (1 + h) * (1 + w) ≤ 8 * 8 := Nat.mul_le_mul (by omega) (by omega)
  refine ⟨L, 1 + h, 1 + w, n + 1 + 1 + 1 + (1 + h) * (1 + w), ⟨l1, by omega, by omega, l2, l3⟩, by omega, by omega, by omega, by omega, ?_⟩
  simp only [Int.natCast_add, Int.cast_ofNat_Int] at l4
  simp [py_law_land, bo_law_land, fnOf, startL, h2, w2, d2, l4, encL]
end Pk
/-! SpC: cells and small numbers, in general. -/
namespace Pk
open PySem (Str)
theorem abs_nat (i : Int) : (if i < 0 then -i else i) = (i.natAbs : Int) := by split <;> omega
theorem small_int {i : Int} (h : -1000000 ≤ i ∧ i ≤ 1000000) : small i = true := lim_of ⟨by omega, by omega⟩
theorem big_int {i : Int} (h : -1000000 ≤ i ∧ i ≤ 1000000) : big i = true := lim_of ⟨by omega, by omega⟩
theorem hAt_le {L : List (List Int)} {h w : Nat} (hL : Land L h w) {c : Int × Int} (hc : InL h w c) : 0 ≤ hAt L c ∧ hAt L c ≤ 999 := by
  obtain ⟨a, b, d, e⟩ := hc
  have hl : c.1.toNat < L.length := by rw [hL.rows]; omega
  have er : rowAt L c.1 = L[c.1.toNat] := by simp [rowAt, List.getD, hl]
  have hl2 : c.2.toNat < (L[c.1.toNat]).length := by rw [hL.cols _ (List.getElem_mem hl)]; omega
  have : hAt L c = (L[c.1.toNat])[c.2.toNat] := by
    unfold hAt
    rw [er, List.getD_eq_getElem?_getD, List.getElem?_eq_getElem hl2]
    rfl
  rw [this]
  exact hL.ht _ (List.getElem_mem hl) _ (List.getElem_mem hl2)
theorem eqvL_nil_iff (l : List D) : eqvL l [] = l.isEmpty := by cases l <;> simp
/-! ### neighbours, by the law -/
def nearB (a b : Int × Int) : Bool := decide (((a.1 - b.1).natAbs : Int) + ((a.2 - b.2).natAbs : Int) = 1)
theorem law_near_ok (a b : Int × Int) (s : Sto) : py_law_near [encC a, encC b] s = .ok (.bool (nearB a b)) s := by
  simp [py_law_near, bo_law_near, fnOf, startL, encC, abs_nat, nearB]
  rw [Bool.eq_iff_iff]
  simp
theorem law_beside_ok {L : List (List Int)} {h w : Nat} (hL : Land L h w) (a : Int × Int) (s : Sto) : py_law_beside [encL L, encC a] s = .ok (.lst (((cellsL h w).filter (nearB a)).map encC)) s := by
  have hc : co_law_beside_0 [.sh (encL L), .sh (encC a), .no] s = .ok (.lst (((cellsL h w).filter (nearB a)).map encC)) [.sh (encL L), .sh (encC a), .no] s := by
    unfold co_law_beside_0
    refine eComp_pure (cellsL h w) encC (nearB a) encC ?_ rfl fun c hc => ⟨[.sh (encL L), .sh (encC a), .sh (encC c)], rfl, rfl, ?_, fun _ => by simp⟩
    · simp [law_cells_ok hL]
    · simp [law_near_ok]
  simp [py_law_beside, bo_law_beside, fnOf, startL, hc]
/-! ### cells as data -/
@[simp] theorem dep_encC (n : Nat) (c : Int × Int) : D.dep (n + 1) (encC c) = true := by simp [encC]
theorem dep_cells (n : Nat) (l : List (Int × Int)) : D.dep (n + 2) (.lst (l.map encC)) = true := by simp
@[simp] theorem dep64_encC (c : Int × Int) : D.dep 64 (encC c) = true := dep_encC 63 c
@[simp] theorem dep64_cells (l : List (Int × Int)) : D.dep 64 (.lst (l.map encC)) = true := dep_cells 62 l
theorem eqv_encC (a b : Int × Int) : (encC a).eqv (encC b) = decide (a = b) := by
  simp [encC]
  rw [Bool.eq_iff_iff]
  simp [Prod.ext_iff]
theorem eqvL_encC : ∀ l m : List (Int × Int), eqvL (l.map encC) (m.map encC) = decide (l = m)
  | [], [] => by simp
  | [], _ :: _ => by simp
  | _ :: _, [] => by simp
  | a :: l, b :: m => by
    simp [eqv_encC, eqvL_encC l m]
theorem same_truth_ok (a b : Bool) (s : Sto) : py_law_same_truth [.bool a, .bool b] s = .ok (.bool (a == b)) s := by
  simp [py_law_same_truth, bo_law_same_truth, fnOf, startL]
theorem pick_cell (ns : List Int) (n : Nat) {h w : Nat} (hn : ns.length ≤ 63) (hk : n < 1000000) (hh : 1 ≤ h) (hw : 1 ≤ w) : ∃ c, InL h w c ∧ py_law_pick [.scr ns, .town, .lst ((cellsL h w).map encC)] (St n) = .ok (encC c) (St (n + 1)) := by
  have : (0, 0) ∈ cellsL h w := mem_cellsL.mpr ⟨by simp, by simp; omega, by simp, by simp; omega⟩
  obtain ⟨d, h1, h2⟩ := pick_ok ns n ((cellsL h w).map encC) hn hk (by intro e; rw [List.map_eq_nil_iff] at e; rw [e] at this; cases this)
  obtain ⟨c, h3, rfl⟩ := List.mem_map.mp h1
  exact ⟨c, mem_cellsL.mp h3, h2⟩
end Pk
/-! Sp5: the least and the greatest of a list of data, by an order on what they stand for. -/
namespace Pk
open PySem (Str)
theorem toks_int (i : Int) : D.toks (.int i) = [.inl i] := by simp only [D.toks]
theorem toks_tup (l : List D) : D.toks (.tup l) = toksL l := by simp only [D.toks]
theorem toks_lst (l : List D) : D.toks (.lst l) = toksL l := by simp only [D.toks]
theorem toksL_nil : toksL [] = [.inl 0] := by simp only [toksL]
theorem toksL_cons (x : D) (l : List D) : toksL (x :: l) = .inl 1 :: (x.toks ++ toksL l) := by simp only [toksL]
theorem toksLt_ii (a b : Int) (r t : List Tok) : toksLt (.inl a :: r) (.inl b :: t) = (decide (a < b) || (decide (a = b) && toksLt r t)) := by
  simp only [toksLt, tokLt]
  by_cases h1 : a < b
  · simp [h1]
  · by_cases h2 : a = b
    · subst h2; simp
    · have : b < a := by omega
      simp [h1, h2, this]
@[simp] theorem lt_int (a b : Int) : D.lt (.int a) (.int b) = decide (a < b) := by
  unfold D.lt
  rw [toks_int, toks_int, toksLt_ii]
  simp [toksLt]
def ltC (a b : Int × Int) : Bool := decide (a.1 < b.1) || (decide (a.1 = b.1) && decide (a.2 < b.2))
@[simp] theorem lt_encC (a b : Int × Int) : (encC a).lt (encC b) = ltC a b := by
  unfold D.lt encC ltC
  simp only [toks_tup, toksL_cons, toksL_nil, toks_int, List.cons_append, List.nil_append, toksLt_ii]
  simp [toksLt]
def encP (p : Int × (Int × Int)) : D := .tup [.int p.1, encC p.2]
def ltP (a b : Int × (Int × Int)) : Bool := decide (a.1 < b.1) || (decide (a.1 = b.1) && ltC a.2 b.2)
@[simp] theorem lt_encP (a b : Int × (Int × Int)) : (encP a).lt (encP b) = ltP a b := by
  unfold D.lt encP encC ltP ltC
  simp only [toks_tup, toksL_cons, toksL_nil, toks_int, List.cons_append, List.nil_append, toksLt_ii]
  simp [toksLt]
@[simp] theorem alk_int (a b : Int) : D.alk (.int a) (.int b) = true := by simp only [D.alk]
@[simp] theorem alk_encC (a b : Int × Int) : (encC a).alk (encC b) = true := by simp [encC, D.alk, alkL]
@[simp] theorem alk_encP (a b : Int × (Int × Int)) : (encP a).alk (encP b) = true := by simp [encP, encC, D.alk, alkL]
theorem dep_encP (n : Nat) (p : Int × (Int × Int)) : D.dep (n + 2) (encP p) = true := by simp [encP, encC]
theorem ordOk_map {α : Type} (enc : α → D) (l : List α) (hd : ∀ x ∈ l, (enc x).dep 62 = true) (ha : ∀ x y, (enc x).alk (enc y) = true) : ordOk (l.map enc) = true := by
  simp only [ordOk, allAlk, Bool.and_eq_true, List.all_eq_true]
  refine ⟨fun d h => ?_, fun d h e he => ?_⟩
  · obtain ⟨x, hx, rfl⟩ := List.mem_map.mp h
    exact hd x hx
  · obtain ⟨x, hx, rfl⟩ := List.mem_map.mp h
    obtain ⟨y, hy, rfl⟩ := List.mem_map.mp he
    exact ha x y
def minBy {α : Type} (lt : α → α → Bool) (a : α) (l : List α) : α := l.foldl (fun x y => if lt y x then y else x) a
theorem minBy_spec {α : Type} {lt : α → α → Bool} (tr : ∀ x y z, lt x y = true → lt y z = true → lt x z = true) (nt : ∀ x y z, lt x z = true → lt x y = true ∨ lt y z = true) (ir : ∀ x, lt x x = false) : ∀ (l : List α) (a : α), minBy lt a l ∈ a :: l ∧ ∀ y ∈ a :: l, lt y (minBy lt a l) = false
  | [], a => ⟨List.mem_cons_self, fun y hy => by rw [List.mem_singleton.mp hy]; exact ir a⟩
  | b :: l, a => by
    have := minBy_spec tr nt ir l (if lt b a then b else a)
    obtain ⟨h1, h2⟩ := this
    have e : minBy lt a (b :: l) = minBy lt (if lt b a then b else a) l := rfl
    rw [e]
    refine ⟨?_, fun y hy => ?_⟩
    · rcases List.mem_cons.mp h1 with q | q
      · rw [q]; split <;> simp
      · exact List.mem_cons_of_mem _ (List.mem_cons_of_mem _ q)
    · have k := h2 _ List.mem_cons_self
      cases hb : lt b a with
      | true =>
        rw [hb, if_pos rfl] at h2 k
        rw [if_pos rfl]
        rcases List.mem_cons.mp hy with rfl | hy
        · cases q : lt y (minBy lt b l) with
          | false => rfl
          | true => rw [tr _ _ _ hb q] at k; cases k
        · exact h2 y hy
      | false =>
        rw [hb] at h2 k
        simp only [Bool.false_eq_true, if_false] at h2 k ⊢
        rcases List.mem_cons.mp hy with rfl | hy
        · exact k
        · rcases List.mem_cons.mp hy with rfl | hy
          · cases q : lt y (minBy lt a l) with
            | false => rfl
            | true =>
              rcases nt _ a _ q with r | r
              · rw [hb] at r; cases r
              · rw [k] at r; cases r
          · exact h2 y (List.mem_cons_of_mem _ hy)
structure Ord {α : Type} (lt : α → α → Bool) : Prop where
  tr : ∀ x y z, lt x y = true → lt y z = true → lt x z = true
  nt : ∀ x y z, lt x z = true → lt x y = true ∨ lt y z = true
  ir : ∀ x, lt x x = false
theorem Ord.rev {α : Type} {lt : α → α → Bool} (o : Ord lt) : Ord (fun x y => lt y x) := ⟨fun x y z h1 h2 => o.tr z y x h2 h1, fun x y z h => (o.nt z y x h).symm, o.ir⟩
theorem ord_int : Ord (fun a b : Int => decide (a < b)) := ⟨fun x y z h1 h2 => by simp at *; omega, fun x y z h => by simp at *; omega, fun x => by simp⟩
theorem ord_C : Ord ltC := ⟨fun x y z h1 h2 => by simp [ltC] at *; omega, fun x y z h => by simp [ltC] at *; omega, fun x => by simp [ltC]⟩
theorem ord_P : Ord ltP := ⟨fun x y z h1 h2 => by simp [ltP, ltC] at *; omega, fun x y z h => by simp [ltP, ltC] at *; omega, fun x => by simp [ltP, ltC]⟩
theorem minD_map {α : Type} (enc : α → D) (lt : α → α → Bool) (hl : ∀ x y, (enc x).lt (enc y) = lt x y) : ∀ (l : List α) (a : α), minD (enc a) (l.map enc) = enc (minBy lt a l)
  | [], a => rfl
  | b :: l, a => by
    have := minD_map enc lt hl l (if lt b a then b else a)
    unfold minD minBy at this ⊢
    rw [List.map_cons, List.foldl_cons, List.foldl_cons, ← this, hl]
    split <;> rfl
theorem maxD_map {α : Type} (enc : α → D) (lt : α → α → Bool) (hl : ∀ x y, (enc x).lt (enc y) = lt x y) : ∀ (l : List α) (a : α), maxD (enc a) (l.map enc) = enc (minBy (fun x y => lt y x) a l)
  | [], a => rfl
  | b :: l, a => by
    have := maxD_map enc lt hl l (if lt a b then b else a)
    unfold maxD minBy at this ⊢
    rw [List.map_cons, List.foldl_cons, List.foldl_cons, ← this, hl]
    split <;> rfl
/-- the least of a list that is not empty -/
theorem pMin_map {α : Type} (enc : α → D) {lt : α → α → Bool} (o : Ord lt) (hl : ∀ x y, (enc x).lt (enc y) = lt x y) (l : List α) (hd : ∀ x ∈ l, (enc x).dep 62 = true) (ha : ∀ x y, (enc x).alk (enc y) = true) (hne : l ≠ []) :
    ∃ m ∈ l, (∀ y ∈ l, lt y m = false) ∧ pMinD (.lst (l.map enc)) = some (enc m) ∧ pMinD (.tup (l.map enc)) = some (enc m) := by
  cases l with
  | nil => exact absurd rfl hne
  | cons a l =>
    obtain ⟨h1, h2⟩ := minBy_spec o.tr o.nt o.ir l a
    have ho := ordOk_map enc (a :: l) hd ha
    refine ⟨_, h1, h2, ?_, ?_⟩
    · rw [List.map_cons] at ho ⊢
      simp only [pMinD, ho, if_true, minD_map enc lt hl]
    · rw [List.map_cons] at ho ⊢
      simp only [pMinD, ho, if_true, minD_map enc lt hl]
theorem pMax_map {α : Type} (enc : α → D) {lt : α → α → Bool} (o : Ord lt) (hl : ∀ x y, (enc x).lt (enc y) = lt x y) (l : List α) (hd : ∀ x ∈ l, (enc x).dep 62 = true) (ha : ∀ x y, (enc x).alk (enc y) = true) (hne : l ≠ []) :
    ∃ m ∈ l, (∀ y ∈ l, lt m y = false) ∧ pMaxD (.lst (l.map enc)) = some (enc m) ∧ pMaxD (.tup (l.map enc)) = some (enc m) := by
  cases l with
  | nil => exact absurd rfl hne
  | cons a l =>
    obtain ⟨h1, h2⟩ := minBy_spec o.rev.tr o.rev.nt o.rev.ir l a
    have ho := ordOk_map enc (a :: l) hd ha
    refine ⟨_, h1, h2, ?_, ?_⟩
    · rw [List.map_cons] at ho ⊢
      simp only [pMaxD, ho, if_true, maxD_map enc lt hl]
    · rw [List.map_cons] at ho ⊢
      simp only [pMaxD, ho, if_true, maxD_map enc lt hl]
theorem pMin_ints (l : List Int) (hne : l ≠ []) : ∃ m ∈ l, (∀ y ∈ l, m ≤ y) ∧ pMinD (.lst (l.map .int)) = some (.int m) ∧ pMinD (.tup (l.map .int)) = some (.int m) := by
  obtain ⟨m, h1, h2, h3⟩ := pMin_map D.int ord_int lt_int l (fun x _ => dep_int _ _) alk_int hne
  exact ⟨m, h1, fun y hy => by have := h2 y hy; simp at this; exact this, h3⟩
theorem pMax_ints (l : List Int) (hne : l ≠ []) : ∃ m ∈ l, (∀ y ∈ l, y ≤ m) ∧ pMaxD (.lst (l.map .int)) = some (.int m) ∧ pMaxD (.tup (l.map .int)) = some (.int m) := by
  obtain ⟨m, h1, h2, h3⟩ := pMax_map D.int ord_int lt_int l (fun x _ => dep_int _ _) alk_int hne
  exact ⟨m, h1, fun y hy => by have := h2 y hy; simp at this; exact this, h3⟩
/-! ### the cells stand in order -/
theorem cellsL_sorted (h w : Nat) : (cellsL h w).Pairwise fun a b => ltC a b = true := by
  induction h with
  | zero => simp [cellsL]
  | succ h ih =>
    rw [cellsL_succ, List.pairwise_append]
    refine ⟨ih, ?_, fun a ha b hb => ?_⟩
    · unfold rowC
      rw [List.pairwise_map]
      refine List.Pairwise.imp (fun {a b} hab => ?_) List.pairwise_lt_range
      simp [ltC]
      omega
    · have h1 := mem_cellsL.mp ha
      unfold rowC at hb
      obtain ⟨j, hj, rfl⟩ := List.mem_map.mp hb
      have := h1.2.1
      simp [ltC]
      omega
theorem cellsL_nodup (h w : Nat) : (cellsL h w).Nodup := (cellsL_sorted h w).imp fun {a b} hab e => by subst e; rw [ord_C.ir] at hab; cases hab
end Pk
/-! Sp3: sight. -/
namespace Pk
open PySem (Str)
def muC (r : Env) (s : Sto) : Nat := match r with
  | [_, .sh (.int y)] => y.toNat
  | _ => 0
theorem common_ok (x y : Nat) (s : Sto) (hx : x ≤ 1000000) (hy : y ≤ 1000000) : py_common_part [.int x, .int y] s = .ok (.int (Nat.gcd x y)) s := by
  obtain ⟨r', s', e1, e2⟩ := sWhile_inv (c := e2 pNe (.v (eV 1)) (.v (eC (.int 0)))) (b := sPar false false 0 1 (eV 1) (e2 pMod (.v (eV 0)) (.v (eV 1)))) (r := [.sh (.int x), .sh (.int y)]) (s := s)
    (fun r s1 => s1 = s ∧ ∃ a b : Nat, r = [.sh (.int a), .sh (.int b)] ∧ Nat.gcd a b = Nat.gcd x y) muC (fun r s1 => s1 = s ∧ r = [.sh (.int (Nat.gcd x y)), .sh (.int 0)]) ⟨rfl, x, y, rfl, rfl⟩ (by simp [muC]; omega) (fun r s1 hI => by
      obtain ⟨rfl, a, b, rfl, hg⟩ := hI
      by_cases hb : b = 0
      · subst hb
        refine Or.inr ⟨[.sh (.int a), .sh (.int 0)], s1, by simp, rfl, ?_⟩
        rw [← hg]
        simp
      · refine Or.inl ⟨[.sh (.int a), .sh (.int b)], s1, [.sh (.int b), .sh (.int ((a % b : Nat) : Int))], s1, ?_, ?_, ⟨rfl, b, a % b, rfl, ?_⟩, ?_⟩
        · simp [hb]
        · have : 0 < b := by omega
          simp [this]
        · rw [← hg, Nat.gcd_comm b, Nat.gcd_comm a, ← Nat.gcd_rec]
        · simp [muC]
          have := Nat.mod_lt a (show b > 0 by omega)
          omega)
  obtain ⟨rfl, rfl⟩ := e2
  have e1' : wh_common_part_0 [.sh (.int x), .sh (.int y)] s' = _ := e1
  simp [py_common_part, bo_common_part, fnOf, startL, e1']
/-! ### the cells between two -/
def gG (a b : Int × Int) : Nat := Int.gcd (b.1 - a.1) (b.2 - a.2)
def ptB (a b : Int × Int) (k : Nat) : Int × Int := (a.1 + (b.1 - a.1) / (gG a b : Int) * ((k : Int) + 1), a.2 + (b.2 - a.2) / (gG a b : Int) * ((k : Int) + 1))
def btw (a b : Int × Int) : List (Int × Int) := (List.range (gG a b - 1)).map (ptB a b)
theorem btw_len (a b : Int × Int) : (btw a b).length = gG a b - 1 := by simp [btw]
structure Near8 (a b : Int × Int) : Prop where
  d1 : -7 ≤ b.1 - a.1 ∧ b.1 - a.1 ≤ 7
  d2 : -7 ≤ b.2 - a.2 ∧ b.2 - a.2 ≤ 7
theorem near8 {h w : Nat} (hh : h ≤ 8) (hw : w ≤ 8) {a b : Int × Int} (ha : InL h w a) (hb : InL h w b) : Near8 a b := by
  obtain ⟨a1, a2, a3, a4⟩ := ha
  obtain ⟨b1, b2, b3, b4⟩ := hb
  exact ⟨by omega, by omega⟩
theorem gG_le {a b : Int × Int} (h : Near8 a b) : gG a b ≤ 7 := by
  unfold gG
  by_cases h1 : b.1 - a.1 = 0
  · by_cases h2 : b.2 - a.2 = 0
    · rw [h1, h2]; decide
    · have := Nat.le_of_dvd (by omega) (Int.gcd_dvd_natAbs_right (b.1 - a.1) (b.2 - a.2))
      have := h.d2
      omega
  · have := Nat.le_of_dvd (by omega) (Int.gcd_dvd_natAbs_left (b.1 - a.1) (b.2 - a.2))
    have := h.d1
    omega
theorem mul_ed {d g k : Int} (h : g ∣ d) : d * k / g = d / g * k := by
  obtain ⟨q, rfl⟩ := h
  by_cases hg : g = 0
  · subst hg; simp
  · rw [Int.mul_assoc, Int.mul_ediv_cancel_left _ hg, Int.mul_ediv_cancel_left _ hg]
theorem co_between_ok (a b : Int × Int) (h : Near8 a b) (s : Sto) (x1 : Sl) : co_between_of_0 [.sh (encC a), x1, .sh (.int (b.1 - a.1)), .sh (.int (b.2 - a.2)), .sh (.int (gG a b)), .no] s = .ok (.lst ((btw a b).map encC)) [.sh (encC a), x1, .sh (.int (b.1 - a.1)), .sh (.int (b.2 - a.2)), .sh (.int (gG a b)), .no] s := by
  have hg := gG_le h
  have e : (btw a b).map encC = (List.range (gG a b - 1)).map fun (k : Nat) => encC (ptB a b k) := by simp [btw, Function.comp_def]
  rw [e]
  unfold co_between_of_0
  refine eComp_map (List.range (gG a b - 1)) (fun (k : Nat) => .int (1 + (k : Int))) (fun (k : Nat) => encC (ptB a b k)) ?_ rfl fun k hk => ⟨[.sh (encC a), x1, .sh (.int (b.1 - a.1)), .sh (.int (b.2 - a.2)), .sh (.int (gG a b)), .sh (.int (1 + k))], rfl, rfl, ?_⟩
  · have l1 : (gG a b : Int) - 1 ≤ (SZ : Int) := by simp only [SZ]; omega
    have l2 : ((gG a b : Int) - 1).toNat = gG a b - 1 := by omega
    simp [small_int (i := 1) (by omega), small_nat (n := gG a b) (by omega), l1, l2, upto]
  · have hk' := List.mem_range.mp hk
    have g0 : 0 < gG a b := by omega
    have g1 : (gG a b : Int) < 1073741824 := by omega
    have m1 : ((gG a b : Nat) : Int) ∣ (b.1 - a.1) := Int.gcd_dvd_left ..
    have m2 : ((gG a b : Nat) : Int) ∣ (b.2 - a.2) := Int.gcd_dvd_right ..
    have b1 := big_int (i := b.1 - a.1) (by have := h.d1; omega)
    have b2 := big_int (i := b.2 - a.2) (by have := h.d2; omega)
    have c1 : (1 : Int) + k = k + 1 := by omega
    simp [encC, b1, b2, g0, g1, mul_ed m1, mul_ed m2, ptB, c1]
theorem between_of_ok (a b : Int × Int) (h : Near8 a b) (s : Sto) : py_between_of [encC a, encC b] s = .ok (.lst ((btw a b).map encC)) s := by
  have h1 := h.d1
  have h2 := h.d2
  have hc := common_ok (b.1 - a.1).natAbs (b.2 - a.2).natAbs s (by omega) (by omega)
  have hq := co_between_ok a b h s (.sh (encC b))
  have e : Nat.gcd (b.1 - a.1).natAbs (b.2 - a.2).natAbs = gG a b := rfl
  rw [e] at hc
  simp only [encC] at hq
  simp [py_between_of, bo_between_of, fnOf, startL, encC, abs_nat, hc, hq]
/-! ### .. by the law -/
def mG (d e : Int) : List Int := (([1, 2, 3, 4, 5, 6, 7, 8] : List Int).filter fun k => d % k == 0 && (e % k == 0 && !(d == 0 && e == 0)))
theorem mG_all : ∀ d ∈ List.range 15, ∀ e ∈ List.range 15, minBy (fun x y : Int => decide (y < x)) 1 (mG ((d : Int) - 7) ((e : Int) - 7)) = (((Int.gcd ((d : Int) - 7) ((e : Int) - 7) - 1 : Nat) : Int) + 1) := by decide +kernel
theorem mG_ok (d e : Int) (h1 : -7 ≤ d ∧ d ≤ 7) (h2 : -7 ≤ e ∧ e ≤ 7) : minBy (fun x y : Int => decide (y < x)) 1 (mG d e) = (((Int.gcd d e - 1 : Nat) : Int) + 1) := by
  have := mG_all (d + 7).toNat (List.mem_range.mpr (by omega)) (e + 7).toNat (List.mem_range.mpr (by omega))
  have e1 : (((d + 7).toNat : Nat) : Int) - 7 = d := by omega
  have e2 : (((e + 7).toNat : Nat) : Int) - 7 = e := by omega
  rw [e1, e2] at this
  exact this
theorem co_lb1_ok (a b : Int × Int) (h : Near8 a b) (s : Sto) (x0 x1 : Sl) (d e : Int) : co_law_between_1 [x0, x1, .sh (.int d), .sh (.int e), .no, .no] s = .ok (.lst ((mG d e).map .int)) [x0, x1, .sh (.int d), .sh (.int e), .no, .no] s := by
  unfold co_law_between_1 mG
  refine eComp_pure [1, 2, 3, 4, 5, 6, 7, 8] .int (fun k => d % k == 0 && (e % k == 0 && !(d == 0 && e == 0))) .int ?_ rfl fun k hk => ⟨[x0, x1, .sh (.int d), .sh (.int e), .no, .sh (.int k)], rfl, rfl, ?_, fun _ => by simp⟩
  · have l1 : ((9 : Int) - 1) ≤ (SZ : Int) := by simp only [SZ]; omega
    simp [small_int (i := 1) (by omega), small_int (i := 9) (by omega), of_lim (lim_of l1)]
    simp [SZ]
    rfl
  · have k0 : 0 < k := by
      simp only [List.mem_cons, List.not_mem_nil, or_false] at hk
      omega
    cases q1 : (d % k == 0) <;> cases q2 : (e % k == 0) <;> simp [k0, q1, q2]
theorem max1_nat (n : Nat) : 1 ≤ n - 1 + 1 := by omega
theorem co_lb0_ok (a b : Int × Int) (h : Near8 a b) (s : Sto) (x1 : Sl) : co_law_between_0 [.sh (encC a), x1, .sh (.int (b.1 - a.1)), .sh (.int (b.2 - a.2)), .sh (.int (((gG a b - 1 : Nat) : Int) + 1)), .no] s = .ok (.lst ((btw a b).map encC)) [.sh (encC a), x1, .sh (.int (b.1 - a.1)), .sh (.int (b.2 - a.2)), .sh (.int (((gG a b - 1 : Nat) : Int) + 1)), .no] s := by
  have hg := gG_le h
  have e : (btw a b).map encC = (List.range (gG a b - 1)).map fun (k : Nat) => encC (ptB a b k) := by simp [btw, Function.comp_def]
  rw [e]
  unfold co_law_between_0
  refine eComp_map (List.range (gG a b - 1)) (fun (k : Nat) => .int (1 + (k : Int))) (fun (k : Nat) => encC (ptB a b k)) ?_ rfl fun k hk => ⟨[.sh (encC a), x1, .sh (.int (b.1 - a.1)), .sh (.int (b.2 - a.2)), .sh (.int (((gG a b - 1 : Nat) : Int) + 1)), .sh (.int (1 + k))], rfl, rfl, ?_⟩
  · have l1 : ((gG a b - 1 : Nat) : Int) + 1 - 1 ≤ (SZ : Int) := by simp only [SZ]; omega
    have l2 : (((gG a b - 1 : Nat) : Int) + 1 - 1).toNat = gG a b - 1 := by omega
    have l3 := small_int (i := ((gG a b - 1 : Nat) : Int) + 1) (by omega)
    simp only [iRange2, eC, eV, List.getElem?_cons_succ, List.getElem?_cons_zero, R.bind_ok, small_int (i := 1) (by omega), l3, lim_of l1, l2, upto, Bool.and_self, if_true]
  · have hk' := List.mem_range.mp hk
    have g0 : ((gG a b - 1 : Nat) : Int) + 1 = (gG a b : Int) := by omega
    have gp : 0 < gG a b := by omega
    have g1 : (gG a b : Int) < 1073741824 := by omega
    have b1 := big_int (i := (1 : Int) + k) (by omega)
    have c1 : (1 : Int) + k = k + 1 := by omega
    rw [g0]
    simp [encC, b1, gp, g1, ptB]
    rw [c1]
    exact ⟨rfl, rfl⟩
theorem law_between_ok (a b : Int × Int) (h : Near8 a b) (s : Sto) : py_law_between [encC a, encC b] s = .ok (.lst ((btw a b).map encC)) s := by
  have q1 := co_lb1_ok a b h s (.sh (encC a)) (.sh (encC b)) (b.1 - a.1) (b.2 - a.2)
  have q0 := co_lb0_ok a b h s (.sh (encC b))
  have qm := mG_ok (b.1 - a.1) (b.2 - a.2) h.d1 h.d2
  have ql : (mG (b.1 - a.1) (b.2 - a.2)).length ≤ 8 := List.length_filter_le _ _
  have ql2 : 1 + (mG (b.1 - a.1) (b.2 - a.2)).length ≤ SZ := by simp only [SZ]; omega
  have e : Int.gcd (b.1 - a.1) (b.2 - a.2) = gG a b := rfl
  rw [e] at qm
  have qx : pMaxD (.lst (.int 1 :: (mG (b.1 - a.1) (b.2 - a.2)).map .int)) = some (.int (((gG a b - 1 : Nat) : Int) + 1)) := by
    have ho := ordOk_map D.int (1 :: mG (b.1 - a.1) (b.2 - a.2)) (fun x _ => dep_int _ _) alk_int
    rw [List.map_cons] at ho
    simp only [pMaxD, ho, if_true, maxD_map D.int _ lt_int, qm]
  simp only [encC] at q0 q1
  simp [py_law_between, bo_law_between, fnOf, startL, encC, q1, qx, q0, ql2, Nat.add_comm]
/-! ### who sees whom -/
def lineAt (L : List (List Int)) (a b : Int × Int) (k : Nat) : Prop := hAt L (ptB a b k) * ((gG a b - 1 : Nat) + 1 : Int) < hAt L a * ((gG a b - 1 : Nat) - (k : Int)) + hAt L b * ((k : Int) + 1)
def seesP (L : List (List Int)) (a b : Int × Int) : Prop := ∀ k, k < gG a b - 1 → lineAt L a b k
theorem ptB_in {h w : Nat} {a b : Int × Int} (ha : InL h w a) (hb : InL h w b) {k : Nat} (hk : k < gG a b - 1) : InL h w (ptB a b k) := by
  obtain ⟨a1, a2, a3, a4⟩ := ha
  obtain ⟨b1, b2, b3, b4⟩ := hb
  obtain ⟨q, hq⟩ : ((gG a b : Nat) : Int) ∣ (b.1 - a.1) := Int.gcd_dvd_left ..
  obtain ⟨p, hp⟩ : ((gG a b : Nat) : Int) ∣ (b.2 - a.2) := Int.gcd_dvd_right ..
  have g0 : (gG a b : Int) ≠ 0 := by omega
  have key : ∀ (x y z : Int), 0 ≤ x → 0 ≤ y → y - x = (gG a b : Int) * z → 0 ≤ x + z * ((k : Int) + 1) ∧ (x + z * ((k : Int) + 1) ≤ x ∨ x + z * ((k : Int) + 1) ≤ y) := by
    intro x y z hx hy e
    have c1 : (k : Int) + 1 ≤ (gG a b : Int) := by omega
    have c0 : (0 : Int) ≤ (k : Int) + 1 := by omega
    by_cases hz : 0 ≤ z
    · have := Int.mul_nonneg hz c0
      have := Int.mul_le_mul_of_nonneg_left c1 hz
      rw [Int.mul_comm z (gG a b : Int)] at this
      exact ⟨by omega, Or.inr (by omega)⟩
    · have hz' : z ≤ 0 := by omega
      have := Int.mul_le_mul_of_nonpos_left hz' c1
      have := Int.mul_nonpos_of_nonpos_of_nonneg hz' c0
      rw [Int.mul_comm z (gG a b : Int)] at *
      exact ⟨by omega, Or.inl (by omega)⟩
  have e1 : (b.1 - a.1) / (gG a b : Int) = q := by rw [hq, Int.mul_ediv_cancel_left _ g0]
  have e2 : (b.2 - a.2) / (gG a b : Int) = p := by rw [hp, Int.mul_ediv_cancel_left _ g0]
  unfold InL ptB
  rw [e1, e2]
  have k1 := key a.1 b.1 q a1 b1 hq
  have k2 := key a.2 b.2 p a3 b3 hp
  refine ⟨k1.1, ?_, k2.1, ?_⟩
  · rcases k1.2 with z | z <;> simp only <;> omega
  · rcases k2.2 with z | z <;> simp only <;> omega
theorem gG_comm (a b : Int × Int) : gG b a = gG a b := by
  unfold gG
  rw [show a.1 - b.1 = -(b.1 - a.1) by omega, show a.2 - b.2 = -(b.2 - a.2) by omega, Int.neg_gcd, Int.gcd_neg]
theorem ptB_comm (a b : Int × Int) {k : Nat} (hk : k < gG a b - 1) : ptB b a (gG a b - 2 - k) = ptB a b k := by
  obtain ⟨q, hq⟩ : ((gG a b : Nat) : Int) ∣ (b.1 - a.1) := Int.gcd_dvd_left ..
  obtain ⟨p, hp⟩ : ((gG a b : Nat) : Int) ∣ (b.2 - a.2) := Int.gcd_dvd_right ..
  have g0 : (gG a b : Int) ≠ 0 := by omega
  have c : ((gG a b - 2 - k : Nat) : Int) + 1 = (gG a b : Int) - ((k : Int) + 1) := by omega
  have key : ∀ x y z : Int, y - x = (gG a b : Int) * z → y + (x - y) / (gG a b : Int) * ((gG a b : Int) - ((k : Int) + 1)) = x + (y - x) / (gG a b : Int) * ((k : Int) + 1) := by
    intro x y z e
    rw [e, show x - y = (gG a b : Int) * (-z) by rw [Int.mul_neg]; omega, Int.mul_ediv_cancel_left _ g0, Int.mul_ediv_cancel_left _ g0, Int.mul_sub, Int.neg_mul, Int.neg_mul, Int.mul_comm z (gG a b : Int)]
    omega
  unfold ptB
  rw [gG_comm, c, key a.1 b.1 q hq, key a.2 b.2 p hp]
theorem btw_rev (a b : Int × Int) : btw b a = (btw a b).reverse := by
  apply List.ext_getElem
  · rw [List.length_reverse, btw_len, btw_len, gG_comm]
  · intro k h1 h2
    rw [btw_len, gG_comm] at h1
    rw [List.getElem_reverse]
    simp only [btw, List.getElem_map, List.getElem_range, List.length_map, List.length_range]
    have := ptB_comm a b (k := gG a b - 1 - 1 - k) (by omega)
    rw [show gG a b - 2 - (gG a b - 1 - 1 - k) = k by omega] at this
    exact this
theorem sees_comm (L : List (List Int)) (a b : Int × Int) : seesP L b a ↔ seesP L a b := by
  have one : ∀ a b, seesP L a b → seesP L b a := by
    intro a b h k hk
    rw [gG_comm] at hk
    have := h (gG a b - 2 - k) (by omega)
    unfold lineAt at this ⊢
    have p := ptB_comm b a (k := k) (by rw [gG_comm]; exact hk)
    rw [gG_comm] at p
    rw [p] at this
    rw [gG_comm]
    have c1 : ((gG a b - 1 : Nat) : Int) - ((gG a b - 2 - k : Nat) : Int) = (k : Int) + 1 := by omega
    have c2 : ((gG a b - 2 - k : Nat) : Int) + 1 = ((gG a b - 1 : Nat) : Int) - (k : Int) := by omega
    rw [c1, c2] at this
    omega
  exact ⟨one b a, one a b⟩
end Pk
/-! Sp4: sight, by the program and by the law. -/
namespace Pk
open PySem (Str)
def lineB (L : List (List Int)) (a b : Int × Int) (k : Nat) : Bool := decide (hAt L (ptB a b k) * ((gG a b - 1 : Nat) + 1 : Int) < hAt L a * ((gG a b - 1 : Nat) - (k : Int)) + hAt L b * ((k : Int) + 1))
def seesB (L : List (List Int)) (a b : Int × Int) : Bool := (List.range (gG a b - 1)).all (lineB L a b)
theorem seesB_iff (L : List (List Int)) (a b : Int × Int) : seesB L a b = true ↔ seesP L a b := by
  simp [seesB, seesP, lineB, lineAt]
theorem seesB_comm (L : List (List Int)) (a b : Int × Int) : seesB L b a = seesB L a b := by
  rw [Bool.eq_iff_iff, seesB_iff, seesB_iff]
  exact sees_comm L a b
def encK (a b : Int × Int) (k : Nat) : D := .tup [.int k, encC (ptB a b k)]
theorem numbered_btw (a b : Int × Int) : numbered ((btw a b).map encC) = (List.range (gG a b - 1)).map (encK a b) := by
  unfold numbered
  rw [List.length_map, btw_len]
  apply List.map_congr_left
  intro k hk
  have hk' := List.mem_range.mp hk
  simp [encK, btw, hk']
theorem sees_of_ok {L : List (List Int)} {h w : Nat} (hL : Land L h w) {a b : Int × Int} (ha : InL h w a) (hb : InL h w b) (s : Sto) : py_sees_of [encL L, encC a, encC b] s = .ok (.bool (seesB L a b)) s := by
  have hn := near8 hL.hr.2 hL.hw.2 ha hb
  have hg := gG_le hn
  have qb := between_of_ok a b hn s
  have A1 := hAt_le hL ha
  have B1 := hAt_le hL hb
  obtain ⟨r', e1, e2⟩ := forL_search (g := .t [.n 5, .n 6]) (b := fo_sees_of_0) (s := s) (encK a b) (fun r => ∃ x5 x6 x7, r = [.sh (encL L), .sh (encC a), .sh (encC b), .sh (.lst ((btw a b).map encC)), .sh (.int (((gG a b - 1 : Nat) : Int) + 1)), x5, x6, x7])
    (fun k => if lineB L a b k then Option.none else some (.bool false)) (List.range (gG a b - 1)) [.sh (encL L), .sh (encC a), .sh (encC b), .sh (.lst ((btw a b).map encC)), .sh (.int (((gG a b - 1 : Nat) : Int) + 1)), .no, .no, .no] ⟨_, _, _, rfl⟩
    (fun k hk r hI => by
      obtain ⟨x5, x6, x7, rfl⟩ := hI
      have hk' := List.mem_range.mp hk
      have hp := ptB_in ha hb hk'
      have P1 := hAt_le hL hp
      have v1 := at_ok hL ha s
      have v2 := at_ok hL hb s
      have v3 := at_ok hL hp s
      refine ⟨[.sh (encL L), .sh (encC a), .sh (encC b), .sh (.lst ((btw a b).map encC)), .sh (.int (((gG a b - 1 : Nat) : Int) + 1)), .sh (.int k), .sh (encC (ptB a b k)), x7],
        [.sh (encL L), .sh (encC a), .sh (encC b), .sh (.lst ((btw a b).map encC)), .sh (.int (((gG a b - 1 : Nat) : Int) + 1)), .sh (.int k), .sh (encC (ptB a b k)), .sh (.int (hAt L a * (((gG a b - 1 : Nat) : Int) - (k : Int)) + hAt L b * ((k : Int) + 1)))], by simp [encK], ⟨_, _, _, rfl⟩, ?_⟩
      have b1 := big_int (i := hAt L a) (by omega)
      have b2 := big_int (i := hAt L b) (by omega)
      have b3 := big_int (i := hAt L (ptB a b k)) (by omega)
      have c1 : ((gG a b - 1 : Nat) : Int) + 1 - k - 1 = ((gG a b - 1 : Nat) : Int) - k := by omega
      cases hl : lineB L a b k with
      | true =>
        simp only [lineB, decide_eq_true_eq] at hl
        simp [fo_sees_of_0, v1, v2, v3, b1, b2, b3, c1]
        simp [Int.not_le.mpr hl]
      | false =>
        simp only [lineB, decide_eq_false_iff_not] at hl
        simp [fo_sees_of_0, v1, v2, v3, b1, b2, b3, c1]
        simp [hl, Int.not_lt.mp hl])
  obtain ⟨x5, x6, x7, rfl⟩ := e1
  have e3 : flOf ((List.range (gG a b - 1)).findSome? (fun k => if lineB L a b k then Option.none else some (D.bool false))) = if seesB L a b then .nx else .rt (.bool false) := by
    cases hs : seesB L a b with
    | true =>
      rw [List.findSome?_eq_none_iff.mpr (fun x hx => by
        simp only [seesB, List.all_eq_true] at hs
        rw [if_pos (hs x hx)])]
      rfl
    | false =>
      simp only [seesB, List.all_eq_false] at hs
      obtain ⟨x, hx, hf⟩ := hs
      cases hq : (List.range (gG a b - 1)).findSome? (fun k => if lineB L a b k then Option.none else some (D.bool false)) with
      | none =>
        have := List.findSome?_eq_none_iff.mp hq x hx
        rw [if_neg hf] at this
        cases this
      | some d =>
        obtain ⟨y, _, hy⟩ := List.exists_of_findSome?_eq_some hq
        split at hy
        · cases hy
        · cases hy; rfl
  rw [e3] at e2
  rw [← numbered_btw] at e2
  have lm : (((btw a b).length : Nat) : Int) = ((gG a b - 1 : Nat) : Int) := by rw [btw_len]
  cases hs : seesB L a b <;> simp [hs] at e2 <;> simp [py_sees_of, bo_sees_of, fnOf, startL, qb, lm, e2]
theorem co_law_sees_ok {L : List (List Int)} {h w : Nat} (hL : Land L h w) {a b : Int × Int} (ha : InL h w a) (hb : InL h w b) (s : Sto) (x1 x2 : Sl) :
    co_law_sees_0 [.sh (encL L), x1, x2, .sh (.lst ((btw a b).map encC)), .sh (.int (hAt L a)), .sh (.int (hAt L b)), .sh (.int (((gG a b - 1 : Nat) : Int) + 1)), .no, .no] s =
      .ok (.lst (((List.range (gG a b - 1)).filter fun k => !lineB L a b k).map fun _ => .int 1)) [.sh (encL L), x1, x2, .sh (.lst ((btw a b).map encC)), .sh (.int (hAt L a)), .sh (.int (hAt L b)), .sh (.int (((gG a b - 1 : Nat) : Int) + 1)), .no, .no] s := by
  have hn := near8 hL.hr.2 hL.hw.2 ha hb
  have hg := gG_le hn
  unfold co_law_sees_0
  refine eComp_pure (List.range (gG a b - 1)) (encK a b) (fun k => !lineB L a b k) (fun _ => .int 1) ?_ rfl fun k hk =>
    ⟨[.sh (encL L), x1, x2, .sh (.lst ((btw a b).map encC)), .sh (.int (hAt L a)), .sh (.int (hAt L b)), .sh (.int (((gG a b - 1 : Nat) : Int) + 1)), .sh (.int k), .sh (encC (ptB a b k))], by simp [encK], rfl, ?_, fun _ => by simp⟩
  · simp [numbered_btw]
  · have hk' := List.mem_range.mp hk
    have hp := ptB_in ha hb hk'
    have v3 := law_high_ok hL hp s
    have b1 := big_int (i := ((gG a b - 1 : Nat) : Int) + 1) (by omega)
    have b2 := big_int (i := (k : Int) + 1) (by omega)
    simp [v3, b1, b2, lineB]
    rw [← decide_not]
    apply decide_eq_decide.mpr
    rw [Int.not_lt, Int.mul_sub, Int.mul_sub, Int.mul_sub, Int.mul_comm _ (hAt L (ptB a b k)), Int.mul_comm ((k : Int) + 1) (hAt L b), Int.mul_comm ((k : Int) + 1) (hAt L a), Int.mul_comm _ (hAt L a), Int.mul_add (hAt L a), Int.mul_add (hAt L a)]
    omega
theorem law_sees_ok {L : List (List Int)} {h w : Nat} (hL : Land L h w) {a b : Int × Int} (ha : InL h w a) (hb : InL h w b) (s : Sto) : py_law_sees [encL L, encC a, encC b] s = .ok (.bool (seesB L a b)) s := by
  have hn := near8 hL.hr.2 hL.hw.2 ha hb
  have q1 := law_between_ok a b hn s
  have q2 := law_high_ok hL ha s
  have q3 := law_high_ok hL hb s
  have q4 := co_law_sees_ok hL ha hb s (.sh (encC a)) (.sh (encC b))
  have lm : (((btw a b).length : Nat) : Int) = ((gG a b - 1 : Nat) : Int) := by rw [btw_len]
  simp [py_law_sees, bo_law_sees, fnOf, startL, q1, q2, q3, lm, q4, eqvL_nil_iff, seesB]
  rw [Bool.eq_iff_iff]
  simp
theorem sees_ok {L : List (List Int)} {h w : Nat} (hL : Land L h w) {a b : Int × Int} (ha : InL h w a) (hb : InL h w b) (s : Sto) : py_sees [encL L, encC a, encC b] s = .ok (.bool (seesB L a b)) s := by
  simp [py_sees, bo_sees, fnOf, startL, need_both_ok hL ha, need_cell_ok hL hb, sees_of_ok hL ha hb]
theorem between_ok {L : List (List Int)} {h w : Nat} (hL : Land L h w) {a b : Int × Int} (ha : InL h w a) (hb : InL h w b) (s : Sto) : py_between [encL L, encC a, encC b] s = .ok (.lst ((btw a b).map encC)) s := by
  simp [py_between, bo_between, fnOf, startL, need_both_ok hL ha, need_cell_ok hL hb, between_of_ok a b (near8 hL.hr.2 hL.hw.2 ha hb)]
theorem seen_of_ok {L : List (List Int)} {h w : Nat} (hL : Land L h w) {a : Int × Int} (ha : InL h w a) (s : Sto) : py_seen_of [encL L, encC a] s = .ok (.lst (((cellsL h w).filter (seesB L a)).map encC)) s := by
  have hc : co_seen_of_0 [.sh (encL L), .sh (encC a), .no] s = .ok (.lst (((cellsL h w).filter (seesB L a)).map encC)) [.sh (encL L), .sh (encC a), .no] s := by
    unfold co_seen_of_0
    refine eComp_pure (cellsL h w) encC (seesB L a) encC ?_ rfl fun c hc => ⟨[.sh (encL L), .sh (encC a), .sh (encC c)], rfl, rfl, ?_, fun _ => by simp⟩
    · simp [cells_of_ok hL]
    · simp [sees_of_ok hL ha (mem_cellsL.mp hc)]
  simp [py_seen_of, bo_seen_of, fnOf, startL, hc]
theorem seen_ok {L : List (List Int)} {h w : Nat} (hL : Land L h w) {a : Int × Int} (ha : InL h w a) (s : Sto) : py_seen [encL L, encC a] s = .ok (.lst (((cellsL h w).filter (seesB L a)).map encC)) s := by
  simp [py_seen, bo_seen, fnOf, startL, need_both_ok hL ha, seen_of_ok hL ha]
theorem near_gG {a b : Int × Int} (h : nearB a b = true) : gG a b = 1 := by
  simp only [nearB, decide_eq_true_eq] at h
  unfold gG
  have hd1 := Int.gcd_dvd_natAbs_left (b.1 - a.1) (b.2 - a.2)
  have hd2 := Int.gcd_dvd_natAbs_right (b.1 - a.1) (b.2 - a.2)
  by_cases h1 : b.1 - a.1 = 0
  · have : (b.2 - a.2).natAbs = 1 := by omega
    rw [this] at hd2
    exact Nat.dvd_one.mp hd2
  · have : (b.1 - a.1).natAbs = 1 := by omega
    rw [this] at hd1
    exact Nat.dvd_one.mp hd1
theorem near_sees (L : List (List Int)) {a b : Int × Int} (h : nearB a b = true) : seesB L a b = true := by simp [seesB, near_gG h]
theorem self_sees (L : List (List Int)) (a : Int × Int) : seesB L a a = true := by simp [seesB, gG]
end Pk
/-! Sp7: lands made cell by cell; sight over tilted, lifted, stretched lands; the best view. -/
namespace Pk
open PySem (Str)
def mkL (h w : Nat) (g : Int × Int → Int) : List (List Int) := (List.range h).map fun (i : Nat) => (List.range w).map fun (j : Nat) => g ((i : Int), (j : Int))
theorem mkL_row (h w : Nat) (g : Int × Int → Int) {i : Int} (h0 : 0 ≤ i) (h1 : i < h) : rowAt (mkL h w g) i = (List.range w).map fun (j : Nat) => g (i, (j : Int)) := by
  obtain ⟨n, rfl⟩ := Int.eq_ofNat_of_zero_le h0
  have hn : n < h := by omega
  simp [rowAt, mkL, hn]
theorem mkL_at (h w : Nat) (g : Int × Int → Int) {c : Int × Int} (hc : InL h w c) : hAt (mkL h w g) c = g c := by
  obtain ⟨a, b, d, e⟩ := hc
  unfold hAt
  rw [mkL_row h w g a b]
  obtain ⟨c1, c2⟩ := c
  simp only at d e
  obtain ⟨n, rfl⟩ := Int.eq_ofNat_of_zero_le d
  have hn : n < w := by omega
  simp [hn]
theorem mkL_land {h w : Nat} (hh : 1 ≤ h ∧ h ≤ 8) (hw : 1 ≤ w ∧ w ≤ 8) (g : Int × Int → Int) (hg : ∀ c, InL h w c → 0 ≤ g c ∧ g c ≤ 999) : Land (mkL h w g) h w := by
  refine ⟨by simp [mkL], hh, hw, fun r hr => ?_, fun r hr x hx => ?_⟩
  · obtain ⟨i, hi, rfl⟩ := List.mem_map.mp hr
    simp
  · obtain ⟨i, hi, rfl⟩ := List.mem_map.mp hr
    obtain ⟨j, hj, rfl⟩ := List.mem_map.mp hx
    have := List.mem_range.mp hi
    have := List.mem_range.mp hj
    exact hg _ ⟨by simp, by simp; omega, by simp, by simp; omega⟩
theorem land_mk {L : List (List Int)} {h w : Nat} (hL : Land L h w) : L = mkL h w (hAt L) := by
  apply List.ext_getElem
  · simp [mkL, hL.rows]
  · intro i h1 h2
    have hi : i < h := by rw [← hL.rows]; exact h1
    apply List.ext_getElem
    · simp [mkL, hL.cols _ (List.getElem_mem h1)]
    · intro j h3 h4
      simp [mkL, hAt, rowAt, h1, h3]
theorem mkL_map (h w : Nat) (g : Int × Int → Int) (φ : Int → Int) : (mkL h w g).map (fun r => r.map φ) = mkL h w (fun c => φ (g c)) := by
  simp [mkL, Function.comp_def]
theorem map_land {L : List (List Int)} {h w : Nat} (hL : Land L h w) (φ : Int → Int) : L.map (fun r => r.map φ) = mkL h w (fun c => φ (hAt L c)) := by
  have := mkL_map h w (hAt L) φ
  rw [← land_mk hL] at this
  exact this
/-! ### sight does not change -/
theorem tilt_alg (P A B m t s e a1 a2 b1 b2 q1 q2 k n : Int) (h1 : b1 - a1 = n * q1) (h2 : b2 - a2 = n * q2) :
    (m * A + t + s * a1 + e * a2) * (n - 1 - k) + (m * B + t + s * b1 + e * b2) * (k + 1) - (m * P + t + s * (a1 + q1 * (k + 1)) + e * (a2 + q2 * (k + 1))) * n = m * (A * (n - 1 - k) + B * (k + 1) - P * n) := by
  have e1 : b1 = a1 + n * q1 := by omega
  have e2 : b2 = a2 + n * q2 := by omega
  subst e1 e2
  grind
theorem sees_tilt {L K : List (List Int)} {h w : Nat} (m t s e : Int) (hm : 0 < m) (hK : ∀ c, InL h w c → hAt K c = m * hAt L c + t + s * c.1 + e * c.2) {a b : Int × Int} (ha : InL h w a) (hb : InL h w b) : seesB K a b = seesB L a b := by
  unfold seesB
  rw [Bool.eq_iff_iff, List.all_eq_true, List.all_eq_true]
  have key : ∀ k ∈ List.range (gG a b - 1), lineB K a b k = lineB L a b k := fun k hk => by
    have hk' := List.mem_range.mp hk
    have hp := ptB_in ha hb hk'
    obtain ⟨q1, h1⟩ : ((gG a b : Nat) : Int) ∣ (b.1 - a.1) := Int.gcd_dvd_left ..
    obtain ⟨q2, h2⟩ : ((gG a b : Nat) : Int) ∣ (b.2 - a.2) := Int.gcd_dvd_right ..
    have g0 : (gG a b : Int) ≠ 0 := by omega
    have n0 : ((gG a b - 1 : Nat) : Int) + 1 = (gG a b : Int) := by omega
    have n1 : ((gG a b - 1 : Nat) : Int) - (k : Int) = (gG a b : Int) - 1 - k := by omega
    have p1 : (ptB a b k).1 = a.1 + q1 * ((k : Int) + 1) := by simp only [ptB]; rw [h1, Int.mul_ediv_cancel_left _ g0]
    have p2 : (ptB a b k).2 = a.2 + q2 * ((k : Int) + 1) := by simp only [ptB]; rw [h2, Int.mul_ediv_cancel_left _ g0]
    have al := tilt_alg (hAt L (ptB a b k)) (hAt L a) (hAt L b) m t s e a.1 a.2 b.1 b.2 q1 q2 k (gG a b) h1 h2
    unfold lineB
    rw [n0, n1]
    rw [hK _ ha, hK _ hb, hK _ hp, p1, p2]
    apply decide_eq_decide.mpr
    constructor
    · intro hlt
      have h3 : 0 < m * (hAt L a * ((gG a b : Int) - 1 - k) + hAt L b * ((k : Int) + 1) - hAt L (ptB a b k) * (gG a b : Int)) := by rw [← al]; omega
      have h4 : 0 < hAt L a * ((gG a b : Int) - 1 - k) + hAt L b * ((k : Int) + 1) - hAt L (ptB a b k) * (gG a b : Int) := Int.not_le.mp fun hle => by
        have h5 := Int.mul_nonpos_of_nonpos_of_nonneg hle (Int.le_of_lt hm)
        rw [Int.mul_comm] at h5
        omega
      omega
    · intro hlt
      have h4 : 0 < hAt L a * ((gG a b : Int) - 1 - k) + hAt L b * ((k : Int) + 1) - hAt L (ptB a b k) * (gG a b : Int) := by omega
      have h3 := Int.mul_pos hm h4
      rw [← al] at h3
      omega
  constructor
  · intro q k hk
    rw [← key k hk]
    exact q k hk
  · intro q k hk
    rw [key k hk]
    exact q k hk
theorem filter_congr' {α : Type} {p q : α → Bool} {l : List α} (h : ∀ x ∈ l, p x = q x) : l.filter p = l.filter q := List.filter_congr h
def seenL (L : List (List Int)) (h w : Nat) (c : Int × Int) : List (Int × Int) := (cellsL h w).filter (seesB L c)
theorem seenL_tilt {L K : List (List Int)} {h w : Nat} (hs : ∀ a b, InL h w a → InL h w b → seesB K a b = seesB L a b) {c : Int × Int} (hc : InL h w c) : seenL K h w c = seenL L h w c :=
  List.filter_congr fun x hx => hs c x hc (mem_cellsL.mp hx)
def allD (L : List (List Int)) (h w : Nat) : D := .lst ((cellsL h w).map fun c => .lst ((seenL L h w c).map encC))
theorem all_seen_ok {L : List (List Int)} {h w : Nat} (hL : Land L h w) (s : Sto) : py_law_all_seen [encL L] s = .ok (allD L h w) s := by
  have hc : co_law_all_seen_0 [.sh (encL L), .no] s = .ok (allD L h w) [.sh (encL L), .no] s := by
    unfold co_law_all_seen_0 allD
    refine eComp_map (cellsL h w) encC (fun c => .lst ((seenL L h w c).map encC)) (by simp [law_cells_ok hL]) rfl fun c hc => ⟨[.sh (encL L), .sh (encC c)], rfl, rfl, ?_⟩
    simp [seen_ok hL (mem_cellsL.mp hc), seenL]
  simp [py_law_all_seen, bo_law_all_seen, fnOf, startL, hc]
def bvL (L : List (List Int)) (h w : Nat) : List (Int × (Int × Int)) := (cellsL h w).map fun c => (0 - ((seenL L h w c).length : Int), c)
def bvD : List (Int × (Int × Int)) → D
  | [] => .none
  | a :: l => .tup [encC (minBy ltP a l).2, .int (0 - (minBy ltP a l).1)]
theorem best_view_ok {L : List (List Int)} {h w : Nat} (hL : Land L h w) (s : Sto) : py_best_view [encL L] s = .ok (bvD (bvL L h w)) s := by
  have hc : co_best_view_0 [.sh (encL L), .no, .no, .no] s = .ok (.lst ((bvL L h w).map encP)) [.sh (encL L), .no, .no, .no] s := by
    unfold co_best_view_0 bvL
    rw [List.map_map]
    refine eComp_map (cellsL h w) encC (fun c => encP (0 - ((seenL L h w c).length : Int), c)) (by simp [cells_of_ok hL]) rfl fun c hc => ⟨[.sh (encL L), .no, .no, .sh (encC c)], rfl, rfl, ?_⟩
    simp [seen_of_ok hL (mem_cellsL.mp hc), seenL, encP]
  have hne : bvL L h w ≠ [] := by
    have : ((0, 0) : Int × Int) ∈ cellsL h w := mem_cellsL.mpr ⟨by simp, by have := hL.hr; simp; omega, by simp, by have := hL.hw; simp; omega⟩
    intro e
    unfold bvL at e
    rw [List.map_eq_nil_iff] at e
    rw [e] at this
    cases this
  have ho := ordOk_map encP (bvL L h w) (fun x _ => dep_encP 60 x) alk_encP
  cases hb : bvL L h w with
  | nil => exact absurd hb hne
  | cons a l =>
    rw [hb] at hc ho
    rw [List.map_cons] at hc ho
    have mn : pMinD (.lst (encP a :: l.map encP)) = some (.tup [.int (minBy ltP a l).1, encC (minBy ltP a l).2]) := by simp only [pMinD, ho, if_true, minD_map encP ltP lt_encP]; rfl
    simp [py_best_view, bo_best_view, fnOf, startL, need_land_ok hL, hc, mn, bvD, -setT, setT_2]
mutual
theorem eqv_refl : ∀ (x : D) (n : Nat), x.dep n = true → x.eqv x = true
  | .none, n, h => by simp
  | .bool b, n, h => by simp
  | .int i, n, h => by simp
  | .str x, n, h => by simp
  | .lst l, 0, h => by simp [D.dep] at h
  | .tup l, 0, h => by simp [D.dep] at h
  | .lst l, n + 1, h => by rw [eqv_lst_lst]; exact eqvL_refl l n (by simpa [D.dep] using h)
  | .tup l, n + 1, h => by rw [eqv_tup_tup]; exact eqvL_refl l n (by simpa [D.dep] using h)
  | .dct _ _, n, h => by cases n <;> simp [D.dep] at h
  | .fn _, n, h => by cases n <;> simp [D.dep] at h
  | .clo _ _, n, h => by cases n <;> simp [D.dep] at h
  | .town, n, h => by cases n <;> simp [D.dep] at h
  | .obj _, n, h => by cases n <;> simp [D.dep] at h
  | .scr _, n, h => by cases n <;> simp [D.dep] at h
theorem eqvL_refl : ∀ (l : List D) (n : Nat), (∀ x ∈ l, x.dep n = true) → eqvL l l = true
  | [], n, h => by simp
  | x :: l, n, h => by
    rw [eqvL_cc, eqv_refl x n (h x List.mem_cons_self), eqvL_refl l n fun y hy => h y (List.mem_cons_of_mem _ hy)]
    rfl
end
theorem dep_allD (L : List (List Int)) (h w : Nat) : D.dep 64 (allD L h w) = true := by
  show List.all _ _ = true
  rw [List.all_map, List.all_eq_true]
  intro c hc
  exact dep_cells 61 _
theorem dep_bvD (l : List (Int × (Int × Int))) : D.dep 64 (bvD l) = true := by
  cases l with
  | nil => rfl
  | cons a l => rfl
theorem pNe_self {d : D} (h : d.dep 64 = true) : pNe d d = some (.bool false) := by simp only [pNe, h, eqv_refl d 64 h, Bool.and_self, if_true, Bool.not_true]
end Pk
/-! Sp8: what are no lands, no cells; refusals. -/
namespace Pk
open PySem (Str)
def t1 (d : D) : D := .tup [d]
def noneL : List D := [.none, .int 5, .tup [], .tup [.tup []], .lst [.tup [.int 1]], .tup [.lst [.int 1]], .tup [.tup [.int 1, .int 2], .tup [.int 3]], .tup [.tup [.int 1000]], .tup [.tup [.int (-1)]], .tup [.tup [.bool true]], .tup [.tup [.int 1, .none]], .str "1",
  .tup (List.replicate 9 (.tup [.int 1])), .tup [.tup (List.replicate 9 (.int 1))], .tup [.tup [.str "1"]], .tup [.int 1, .int 2], .tup [.tup [.int 1, .int 2], .lst [.int 3, .int 4]], .tup [.tup [.int 1], .int 5]]
theorem none_bad : ∀ d ∈ noneL, ∀ s, py_is_land [d] s = .ok (.bool false) s := by
  intro d hd s
  simp only [noneL, List.mem_cons, List.not_mem_nil, or_false] at hd
  rcases hd with rfl | rfl | rfl | rfl | rfl | rfl | rfl | rfl | rfl | rfl | rfl | rfl | rfl | rfl | rfl | rfl | rfl | rfl <;>
  simp [py_is_land, bo_is_land, fnOf, startL, co_is_land_0, eComp, compLoop, py_is_line, bo_is_line, co_is_line_0, py_is_whole, bo_is_whole, backL, getI, ixOf, pAll, boolsOf, List.replicate]
theorem none_ok (ns : List Int) (hn : ns.length ≤ 63) (n : Nat) (hk : n < 700000) : ∃ d ∈ noneL, py_law_none [.scr ns, .town] (St n) = .ok d (St (n + 1)) := by
  obtain ⟨d, h1, h2⟩ := pick_ok ns n noneL hn (by omega) (by simp [noneL])
  refine ⟨d, h1, ?_⟩
  have l1 : lim (12 + 6 ≤ SZ) = true := lim_of (by decide)
  have l2 : lim (2 ≤ (9 : Int)) = true := lim_of (by decide)
  simp [noneL] at h2
  simp [py_law_none, bo_law_none, fnOf, startL, pRepT, List.replicate, SZ] at h2 ⊢
  rw [h2]
  rfl
theorem need_land_bad {d : D} (h : ∀ s, py_is_land [d] s = .ok (.bool false) s) (s : Sto) : py_need_land [d] s = .exc ⟨0, none⟩ s := by
  simp [py_need_land, bo_need_land, fnOf, startL, h s]
theorem none_need {d : D} (h : d ∈ noneL) (s : Sto) : py_need_land [d] s = .exc ⟨0, none⟩ s := need_land_bad (none_bad d h) s
theorem need_both_none {d : D} (h : d ∈ noneL) (e : D) (s : Sto) : py_need_both [d, e] s = .exc ⟨0, none⟩ s := by
  simp [py_need_both, bo_need_both, fnOf, startL, none_need h]
def oddL (h w : Nat) : List D := [.none, .int 5, .lst [.int 0, .int 0], .tup [.int 0], .tup [.int 0, .int 0, .int 0], .tup [.int h, .int 0], .tup [.int 0, .int w], .tup [.int (-1), .int 0], .tup [.int 0, .int (-1)], .tup [.int 0, .str "0"], .str "00", .tup [.none, .int 0]]
theorem odd_ok (ns : List Int) (hn : ns.length ≤ 63) {L : List (List Int)} {h w : Nat} (hL : Land L h w) (n : Nat) (hk : n < 700000) : ∃ d ∈ oddL h w, py_law_odd_cell [.scr ns, .town, encL L] (St n) = .ok d (St (n + 1)) := by
  obtain ⟨d, h1, h2⟩ := pick_ok ns n (oddL h w) hn (by omega) (by simp [oddL])
  refine ⟨d, h1, ?_⟩
  have r0 := hL.row0
  have l0 := hL.len0
  have e1 := hL.rows
  simp [oddL] at h2
  simp [py_law_odd_cell, bo_law_odd_cell, fnOf, startL, encL, r0, l0, e1, h2]
theorem odd_bad {L : List (List Int)} {h w : Nat} (hL : Land L h w) : ∀ d ∈ oddL h w, ∀ s, py_is_cell [encL L, d] s = .ok (.bool false) s := by
  intro d hd s
  have r0 := hL.row0
  have l0 := hL.len0
  have e1 := hL.rows
  have hr := hL.hr
  have hw := hL.hw
  simp only [oddL, List.mem_cons, List.not_mem_nil, or_false] at hd
  rcases hd with rfl | rfl | rfl | rfl | rfl | rfl | rfl | rfl | rfl | rfl | rfl | rfl
  all_goals
    have g1 : (1 : Int) ≤ h := by omega
    have g2 : ¬ ((h : Int) ≤ h - 1) := by omega
    have g3 : ¬ ((w : Int) ≤ w - 1) := by omega
    simp [py_is_cell, bo_is_cell, fnOf, startL, py_is_whole, bo_is_whole, encL, r0, l0, e1, g1, g2, g3]
theorem need_cell_odd {L : List (List Int)} {h w : Nat} (hL : Land L h w) {d : D} (hd : d ∈ oddL h w) (s : Sto) : py_need_cell [encL L, d] s = .exc ⟨1, some d⟩ s := by
  simp [py_need_cell, bo_need_cell, fnOf, startL, odd_bad hL d hd s]
theorem need_both_odd {L : List (List Int)} {h w : Nat} (hL : Land L h w) {d : D} (hd : d ∈ oddL h w) (s : Sto) : py_need_both [encL L, d] s = .exc ⟨1, some d⟩ s := by
  simp [py_need_both, bo_need_both, fnOf, startL, need_land_ok hL, need_cell_odd hL hd]
theorem odd_dep (h w n : Nat) : ∀ d ∈ oddL h w, D.dep (n + 2) d = true := by
  intro d hd
  simp only [oddL, List.mem_cons, List.not_mem_nil, or_false] at hd
  rcases hd with rfl | rfl | rfl | rfl | rfl | rfl | rfl | rfl | rfl | rfl | rfl | rfl <;> simp [D.dep] <;> decide
/-! ### what is asked -/
theorem range_lit (n : Nat) (h : n ≤ 1000) (r : Env) (s : Sto) : iRange1 (eC (.int n)) r s = .ok ((List.range n).map fun (k : Nat) => .int (k : Int)) r s := by
  have h1 : small (n : Int) = true := small_nat (by omega)
  have h2 := SZ_int (n := n) (by omega)
  simp [h1, h2, upto]
theorem ans_no {k : Nat} {a : Option D} (h : k < 12) : Hk.ans .no ⟨k, a⟩ = some (refD k) := by simp [Hk.ans, h]
theorem ans_cell (d : D) : Hk.ans .cell ⟨1, some d⟩ = some (.tup [.str "cell", d]) := by simp [Hk.ans]
theorem ans_cell0 {a : Option D} : Hk.ans .cell ⟨0, a⟩ = some (refD 0) := by simp [Hk.ans]
theorem fnTry_exc {p n : Nat} {h : Hk} {m : S} {ds : List D} {s s' : Sto} {x : Xc} {d : D} {r : Env} (hl : ds.length = p) (e : m (startL n ds) s = .exc x r s') (a : h.ans x = some d) : fnOf p n (sTry h m) ds s = .ok d s' :=
  fnOf_rt (r := r) hl (by unfold sTry; rw [e]; simp only [a])
theorem fnTry_ok {p n : Nat} {h : Hk} {m : S} {ds : List D} {s s' : Sto} {d : D} {r : Env} (hl : ds.length = p) (e : m (startL n ds) s = .ok (.rt d) r s') : fnOf p n (sTry h m) ds s = .ok d s' :=
  fnOf_rt (r := r) hl (by unfold sTry; rw [e])
end Pk
namespace Pk
open PySem (Str)
theorem dep_str (n : Nat) (x : Str) : D.dep n (.str x) = x.cps.all (· < 0x110000) := by cases n <;> rfl
theorem dep_refused (n : Nat) : D.dep n (.str "refused") = true := by rw [dep_str]; decide +kernel
theorem dep_cell (n : Nat) : D.dep n (.str "cell") = true := by rw [dep_str]; decide +kernel
theorem dep_peak (n : Nat) : D.dep n (.str "peak") = true := by rw [dep_str]; decide +kernel
theorem dep_ref (n k : Nat) : D.dep (n + 1) (refD k) = true := by simp [refD, dep_refused]
theorem eqv_ref (j k : Nat) : (refD j).eqv (refD k) = decide (j = k) := by
  rw [Bool.eq_iff_iff]
  simp [refD]
  omega
end Pk
/-! Sp9: lands turned, mirrored, upside down. -/
namespace Pk
open PySem (Str)
def turnL (L : List (List Int)) (w : Nat) : List (List Int) := (List.range w).map fun k => L.map fun r => r.getD (w - 1 - k) 0
def mirL (L : List (List Int)) : List (List Int) := L.map List.reverse
def upL (L : List (List Int)) : List (List Int) := L.map fun r => r.map fun x => 999 - x
theorem Land.turn {L : List (List Int)} {h w : Nat} (hL : Land L h w) : Land (turnL L w) w h := by
  refine ⟨by simp [turnL], hL.hw, hL.hr, fun r hr => ?_, fun r hr x hx => ?_⟩
  · simp [turnL] at hr
    obtain ⟨k, hk, rfl⟩ := hr
    simp [hL.rows]
  · simp [turnL] at hr
    obtain ⟨k, hk, rfl⟩ := hr
    simp at hx
    obtain ⟨a, ha, rfl⟩ := hx
    have h1 := hL.cols a ha
    have : w - 1 - k < a.length := by omega
    simp [this]
    exact hL.ht a ha _ (List.getElem_mem this)
theorem Land.mir {L : List (List Int)} {h w : Nat} (hL : Land L h w) : Land (mirL L) h w := by
  refine ⟨by simp [mirL, hL.rows], hL.hr, hL.hw, fun r hr => ?_, fun r hr x hx => ?_⟩
  · simp [mirL] at hr
    obtain ⟨a, ha, rfl⟩ := hr
    simp [hL.cols a ha]
  · simp [mirL] at hr
    obtain ⟨a, ha, rfl⟩ := hr
    exact hL.ht a ha x (by simpa using hx)
theorem Land.up {L : List (List Int)} {h w : Nat} (hL : Land L h w) : Land (upL L) h w := by
  refine ⟨by simp [upL, hL.rows], hL.hr, hL.hw, fun r hr => ?_, fun r hr x hx => ?_⟩
  · simp [upL] at hr
    obtain ⟨a, ha, rfl⟩ := hr
    simp [hL.cols a ha]
  · simp [upL] at hr
    obtain ⟨a, ha, rfl⟩ := hr
    simp at hx
    obtain ⟨y, hy, rfl⟩ := hx
    have := hL.ht a ha y hy
    omega
theorem row_ix {r : List Int} {j : Nat} (h : j < r.length) : getI (r.map .int) (j : Int) = some (.int (r.getD j 0)) := by
  rw [getI_nat (x := .int (r.getD j 0))]
  simp [h]
theorem turned_of_ok {L : List (List Int)} {h w : Nat} (hL : Land L h w) (s : Sto) : py_turned_of [encL L] s = .ok (encL (turnL L w)) s := by
  have r0 := hL.row0
  have l0 := hL.len0
  have hw := hL.hw
  have c0 : ∀ (k : Nat), k < w → co_turned_of_0 [.sh (encL L), .sh (.int (w - 1 - k)), .no] s = .ok (.lst ((L.map fun r => r.getD (w - 1 - k) 0).map .int)) [.sh (encL L), .sh (.int (w - 1 - k)), .no] s := fun k hk => by
    have e : ((w : Int) - 1 - k) = ((w - 1 - k : Nat) : Int) := by omega
    rw [List.map_map]
    refine eComp_map L encR _ rfl rfl fun r hr => ⟨_, rfl, rfl, ?_⟩
    have g := row_ix (r := r) (j := w - 1 - k) (by have := hL.cols r hr; omega)
    simp only [Opd.run, e]
    simp [encR, g]
  have c1 : co_turned_of_1 [.sh (encL L), .no, .no] s = .ok (.lst ((turnL L w).map encR)) [.sh (encL L), .no, .no] s := by
    unfold turnL
    rw [List.map_map]
    refine eComp_map (List.range w) (fun k => .int ((w : Int) - 1 - k)) _ ?_ rfl fun k hk => ⟨_, rfl, rfl, ?_⟩
    · have s1 := small_nat (n := w) (by omega)
      have s2 := SZ_int (n := w) (by omega)
      simp [encL, r0, l0, s1, s2]
    · have hk : k < w := List.mem_range.mp hk
      have := c0 k hk
      simp only [wipeL, List.set] at *
      simp [this, encR]
  simp [encL] at c1
  simp [py_turned_of, bo_turned_of, fnOf, startL, encL, c1]
theorem mirrored_of_ok (L : List (List Int)) (s : Sto) : py_mirrored_of [encL L] s = .ok (encL (mirL L)) s := by
  have c0 : co_mirrored_of_0 [.sh (encL L), .no] s = .ok (.lst ((mirL L).map encR)) [.sh (encL L), .no] s := by
    unfold mirL
    rw [List.map_map]
    refine eComp_map L encR _ rfl rfl fun r hr => ⟨_, rfl, rfl, ?_⟩
    simp [encR]
  simp [encL] at c0
  simp [py_mirrored_of, bo_mirrored_of, fnOf, startL, encL, c0]
theorem turned_ok {L : List (List Int)} {h w : Nat} (hL : Land L h w) (s : Sto) : py_turned [encL L] s = .ok (encL (turnL L w)) s := by
  simp [py_turned, bo_turned, fnOf, startL, need_land_ok hL, turned_of_ok hL]
theorem mirrored_ok {L : List (List Int)} {h w : Nat} (hL : Land L h w) (s : Sto) : py_mirrored [encL L] s = .ok (encL (mirL L)) s := by
  simp [py_mirrored, bo_mirrored, fnOf, startL, need_land_ok hL, mirrored_of_ok]
theorem upside_ok {L : List (List Int)} {h w : Nat} (hL : Land L h w) (s : Sto) : py_upside [encL L] s = .ok (encL (upL L)) s := by
  have c0 : ∀ r : List Int, co_upside_0 [.sh (encL L), .sh (encR r), .no] s = .ok (.lst ((r.map fun x => 999 - x).map .int)) [.sh (encL L), .sh (encR r), .no] s := fun r => by
    rw [List.map_map]
    refine eComp_map r .int _ rfl rfl fun x hx => ⟨_, rfl, rfl, ?_⟩
    simp
  have c1 : co_upside_1 [.sh (encL L), .no, .no] s = .ok (.lst ((upL L).map encR)) [.sh (encL L), .no, .no] s := by
    unfold upL
    rw [List.map_map]
    refine eComp_map L encR _ rfl rfl fun r hr => ⟨_, rfl, rfl, ?_⟩
    have := c0 r
    simp only [encR] at this
    simp only [wipeL, List.set] at *
    simp [this, encR]
  have nl := need_land_ok hL s
  simp [encL] at c1 nl
  simp [py_upside, bo_upside, fnOf, startL, encL, nl, c1]
end Pk
/-! Spa: lands beside one another, parts. -/
namespace Pk
open PySem (Str)
def besL (L M : List (List Int)) : List (List Int) := List.zipWith (· ++ ·) L M
theorem besL_land {L M : List (List Int)} {h w v : Nat} (hL : Land L h w) (hM : Land M h v) (hw : w + v ≤ 8) : Land (besL L M) h (w + v) := by
  have mem : ∀ r ∈ besL L M, ∃ a ∈ L, ∃ b ∈ M, r = a ++ b := fun r hr => by
    unfold besL at hr
    obtain ⟨i, hi, e⟩ := List.getElem_of_mem hr
    rw [List.getElem_zipWith] at e
    exact ⟨_, List.getElem_mem _, _, List.getElem_mem _, e.symm⟩
  refine ⟨by simp [besL, hL.rows, hM.rows], hL.hr, ⟨by have := hL.hw; omega, hw⟩, fun r hr => ?_, fun r hr x hx => ?_⟩
  · obtain ⟨a, ha, b, hb, rfl⟩ := mem r hr
    rw [List.length_append, hL.cols a ha, hM.cols b hb]
  · obtain ⟨a, ha, b, hb, rfl⟩ := mem r hr
    rcases List.mem_append.mp hx with z | z
    · exact hL.ht a ha x z
    · exact hM.ht b hb x z
theorem beside_no {L M : List (List Int)} {h w k v : Nat} (hL : Land L h w) (hM : Land M k v) (hn : h ≠ k ∨ 8 < w + v) (s : Sto) : py_beside [encL L, encL M] s = .exc ⟨7, none⟩ s := by
  have r0 := hL.row0
  have l0 := hL.len0
  have e1 := hL.rows
  have r1 := hM.row0
  have l1 := hM.len0
  have e2 := hM.rows
  have n1 := need_land_ok hL s
  have n2 := need_land_ok hM s
  simp only [encL] at n1 n2
  by_cases hk : h = k
  · have h8 : (8 : Int) < w + v := by omega
    simp [py_beside, bo_beside, fnOf, startL, encL, n1, n2, r0, l0, e1, r1, l1, e2, hk, h8]
  · have hk' : ((h : Int) == k) = false := by simp; omega
    simp [py_beside, bo_beside, fnOf, startL, encL, n1, n2, r0, l0, e1, r1, l1, e2, hk, hk']
theorem beside_ok {L M : List (List Int)} {h w v : Nat} (hL : Land L h w) (hM : Land M h v) (hw : w + v ≤ 8) (s : Sto) : py_beside [encL L, encL M] s = .ok (encL (besL L M)) s := by
  have r0 := hL.row0
  have l0 := hL.len0
  have e1 := hL.rows
  have r1 := hM.row0
  have l1 := hM.len0
  have e2 := hM.rows
  have n1 := need_land_ok hL s
  have n2 := need_land_ok hM s
  have c0 : co_beside_0 [.sh (encL L), .sh (encL M), .no, .no] s = .ok (.lst ((besL L M).map encR)) [.sh (encL L), .sh (encL M), .no, .no] s := by
    have hz : (besL L M).map encR = (L.zip M).map fun p => encR (p.1 ++ p.2) := by
      simp [besL, List.zip, List.map_zipWith]
    rw [hz]
    refine eComp_map (L.zip M) (fun p => .tup [encR p.1, encR p.2]) _ ?_ rfl fun p hp => ⟨_, setT_2 _ _ _ _ _, rfl, ?_⟩
    · have hp : paired (L.map encR) (M.map encR) = (L.zip M).map fun p => .tup [encR p.1, encR p.2] := by
        unfold paired
        apply List.ext_getElem
        · simp
        · intro i h1 h2
          simp at h1 h2
          have a1 : i < L.length := by omega
          have a2 : i < M.length := by omega
          simp [a1, a2]
      simp [encL, hp]
    · obtain ⟨a, b⟩ := p
      have ha := hL.cols a (List.of_mem_zip hp).1
      have hb := hM.cols b (List.of_mem_zip hp).2
      have hs : a.length + b.length ≤ SZ := by simp only [SZ]; omega
      simp [encR, hs]
  have h8 : ¬ ((8 : Int) < w + v) := by omega
  simp only [encL] at n1 n2 c0
  simp [py_beside, bo_beside, fnOf, startL, encL, n1, n2, r0, l0, e1, r1, l1, e2, h8, c0]
/-! ### parts -/
def mn (a b : Int) : Int := if b < a then b else a
def mx (a b : Int) : Int := if b > a then b else a
def partL (L : List (List Int)) (a b : Int × Int) : List (List Int) :=
  ((L.drop (mn a.1 b.1).toNat).take ((mx a.1 b.1).toNat + 1 - (mn a.1 b.1).toNat)).map fun r => (r.drop (mn a.2 b.2).toNat).take ((mx a.2 b.2).toNat + 1 - (mn a.2 b.2).toNat)
theorem cut_nat (l : List D) {i j : Int} (hi : 0 ≤ i) (hj : 0 ≤ j) (hl : j < l.length) : cutL l (some i) (some (j + 1)) = (l.drop i.toNat).take (j.toNat + 1 - i.toNat) := by
  unfold cutL cutIx
  have h1 : ¬ i < 0 := by omega
  have h2 : ¬ j + 1 < 0 := by omega
  simp only [h1, h2, if_false]
  by_cases hil : i.toNat ≤ l.length
  · rw [Nat.min_eq_left hil, Nat.min_eq_left (by omega)]
    congr 1
    omega
  · have e : min i.toNat l.length = l.length := Nat.min_eq_right (by omega)
    rw [e, List.drop_eq_nil_of_le (Nat.le_refl _), List.drop_eq_nil_of_le (i := i.toNat) (by omega)]
    simp
theorem part_of_ok {L : List (List Int)} {h w : Nat} (hL : Land L h w) {a b : Int × Int} (ha : InL h w a) (hb : InL h w b) (s : Sto) : py_part_of [encL L, encC a, encC b] s = .ok (encL (partL L a b)) s := by
  obtain ⟨a1, a2, a3, a4⟩ := ha
  obtain ⟨b1, b2, b3, b4⟩ := hb
  have m1 : 0 ≤ mn a.1 b.1 := by unfold mn; split <;> omega
  have m2 : 0 ≤ mx a.1 b.1 ∧ mx a.1 b.1 < h := by unfold mx; split <;> omega
  have m3 : 0 ≤ mn a.2 b.2 := by unfold mn; split <;> omega
  have m4 : 0 ≤ mx a.2 b.2 ∧ mx a.2 b.2 < w := by unfold mx; split <;> omega
  have c0 : co_part_of_0 [.sh (encL L), .sh (encC a), .sh (encC b), .sh (.int (mn a.2 b.2)), .sh (.int (mx a.2 b.2)), .no] s = .ok (.lst ((partL L a b).map encR)) [.sh (encL L), .sh (encC a), .sh (encC b), .sh (.int (mn a.2 b.2)), .sh (.int (mx a.2 b.2)), .no] s := by
    unfold partL
    rw [List.map_map]
    refine eComp_map ((L.drop (mn a.1 b.1).toNat).take ((mx a.1 b.1).toNat + 1 - (mn a.1 b.1).toNat)) encR _ ?_ rfl fun r hr => ⟨_, rfl, rfl, ?_⟩
    · have := cut_nat (L.map encR) m1 m2.1 (by rw [List.length_map, hL.rows]; exact m2.2)
      simp only [mn, mx] at this ⊢
      simp [encL, encC, this]
    · have hr' : r ∈ L := List.mem_of_mem_drop (List.mem_of_mem_take hr)
      have := cut_nat (r.map .int) m3 m4.1 (by rw [List.length_map, hL.cols r hr']; exact m4.2)
      simp [encR, this]
  simp only [encL, encC, mn, mx] at c0
  simp [py_part_of, bo_part_of, fnOf, startL, encL, encC, c0]
theorem part_ok {L : List (List Int)} {h w : Nat} (hL : Land L h w) {a b : Int × Int} (ha : InL h w a) (hb : InL h w b) (s : Sto) : py_part [encL L, encC a, encC b] s = .ok (encL (partL L a b)) s := by
  simp [py_part, bo_part, fnOf, startL, need_both_ok hL ha, need_cell_ok hL hb, part_of_ok hL ha hb]
theorem part_comm (L : List (List Int)) (a b : Int × Int) : partL L b a = partL L a b := by
  have e1 : ∀ x y : Int, mn x y = mn y x := fun x y => by unfold mn; split <;> split <;> omega
  have e2 : ∀ x y : Int, mx x y = mx y x := fun x y => by unfold mx; split <;> split <;> omega
  unfold partL
  rw [e1 b.1, e2 b.1, e1 b.2, e2 b.2]
theorem part_land {L : List (List Int)} {h w : Nat} (hL : Land L h w) {a b : Int × Int} (ha : InL h w a) (hb : InL h w b) : Land (partL L a b) ((mx a.1 b.1).toNat + 1 - (mn a.1 b.1).toNat) ((mx a.2 b.2).toNat + 1 - (mn a.2 b.2).toNat) := by
  obtain ⟨a1, a2, a3, a4⟩ := ha
  obtain ⟨b1, b2, b3, b4⟩ := hb
  have m1 : 0 ≤ mn a.1 b.1 ∧ mn a.1 b.1 ≤ mx a.1 b.1 := by unfold mn mx; split <;> split <;> omega
  have m2 : 0 ≤ mx a.1 b.1 ∧ mx a.1 b.1 < h := by unfold mx; split <;> omega
  have m3 : 0 ≤ mn a.2 b.2 ∧ mn a.2 b.2 ≤ mx a.2 b.2 := by unfold mn mx; split <;> split <;> omega
  have m4 : 0 ≤ mx a.2 b.2 ∧ mx a.2 b.2 < w := by unfold mx; split <;> omega
  have hr := hL.hr
  have hw := hL.hw
  have mem : ∀ r ∈ partL L a b, ∃ x ∈ L, r = (x.drop (mn a.2 b.2).toNat).take ((mx a.2 b.2).toNat + 1 - (mn a.2 b.2).toNat) := fun r hr => by
    simp only [partL, List.mem_map] at hr
    obtain ⟨x, hx, rfl⟩ := hr
    exact ⟨x, List.mem_of_mem_drop (List.mem_of_mem_take hx), rfl⟩
  refine ⟨?_, by omega, by omega, fun r hr => ?_, fun r hr x hx => ?_⟩
  · simp [partL, hL.rows]; omega
  · obtain ⟨x, hx, rfl⟩ := mem r hr
    have := hL.cols x hx
    simp; omega
  · obtain ⟨y, hy, rfl⟩ := mem r hr
    exact hL.ht y hy x (List.mem_of_mem_drop (List.mem_of_mem_take hx))
theorem part_at {L : List (List Int)} {h w : Nat} (hL : Land L h w) {a b : Int × Int} (ha : InL h w a) (hb : InL h w b) {c : Int × Int} (hc : InL ((mx a.1 b.1).toNat + 1 - (mn a.1 b.1).toNat) ((mx a.2 b.2).toNat + 1 - (mn a.2 b.2).toNat) c) :
    InL h w (mn a.1 b.1 + c.1, mn a.2 b.2 + c.2) ∧ hAt (partL L a b) c = hAt L (mn a.1 b.1 + c.1, mn a.2 b.2 + c.2) := by
  obtain ⟨a1, a2, a3, a4⟩ := ha
  obtain ⟨b1, b2, b3, b4⟩ := hb
  obtain ⟨c1, c2, c3, c4⟩ := hc
  have m1 : 0 ≤ mn a.1 b.1 ∧ mn a.1 b.1 ≤ mx a.1 b.1 := by unfold mn mx; split <;> split <;> omega
  have m2 : 0 ≤ mx a.1 b.1 ∧ mx a.1 b.1 < h := by unfold mx; split <;> omega
  have m3 : 0 ≤ mn a.2 b.2 ∧ mn a.2 b.2 ≤ mx a.2 b.2 := by unfold mn mx; split <;> split <;> omega
  have m4 : 0 ≤ mx a.2 b.2 ∧ mx a.2 b.2 < w := by unfold mx; split <;> omega
  have i1 : InL h w (mn a.1 b.1 + c.1, mn a.2 b.2 + c.2) := ⟨by simp; omega, by simp; omega, by simp; omega, by simp; omega⟩
  refine ⟨i1, ?_⟩
  have e1 : (mn a.1 b.1 + c.1).toNat = (mn a.1 b.1).toNat + c.1.toNat := by omega
  have e2 : (mn a.2 b.2 + c.2).toNat = (mn a.2 b.2).toNat + c.2.toNat := by omega
  have hlt : (mn a.1 b.1).toNat + c.1.toNat < L.length := by rw [hL.rows]; omega
  have hcol := hL.cols L[(mn a.1 b.1).toNat + c.1.toNat] (List.getElem_mem hlt)
  have hlt2 : (mn a.2 b.2).toNat + c.2.toNat < L[(mn a.1 b.1).toNat + c.1.toNat].length := by rw [hcol]; omega
  have q1 : c.1.toNat < (mx a.1 b.1).toNat + 1 - (mn a.1 b.1).toNat := by omega
  have q2 : c.2.toNat < (mx a.2 b.2).toNat + 1 - (mn a.2 b.2).toNat := by omega
  unfold hAt rowAt partL
  simp only [e1, e2, List.getD_eq_getElem?_getD, List.getElem?_map, List.getElem?_take, List.getElem?_drop, q1, q2, if_true]
  rw [List.getElem?_eq_getElem hlt]
  simp [List.getElem?_take, List.getElem?_drop, q2]
theorem eqv_encR : ∀ a b : List Int, eqvL (a.map .int) (b.map .int) = decide (a = b)
  | [], [] => by simp
  | [], _ :: _ => by simp
  | _ :: _, [] => by simp
  | x :: a, y :: b => by simp [eqv_encR a b]; rfl
theorem eqvL_encL : ∀ a b : List (List Int), eqvL (a.map encR) (b.map encR) = decide (a = b)
  | [], [] => by simp
  | [], _ :: _ => by simp
  | _ :: _, [] => by simp
  | x :: a, y :: b => by simp [eqvL_encL a b, encR, eqv_encR]
theorem eqv_encL (a b : List (List Int)) : (encL a).eqv (encL b) = decide (a = b) := by simp [encL, eqvL_encL]
theorem dep_encL (n : Nat) (a : List (List Int)) : D.dep (n + 2) (encL a) = true := by simp [encL, encR]
theorem eqv_ref_encL (k : Nat) (a : List (List Int)) : (refD k).eqv (encL a) = false := by
  cases a with
  | nil => simp [refD, encL]
  | cons r a => simp [refD, encL, encR]
end Pk
/-! Spb: is_land of any rows. -/
namespace Pk
open PySem (Str)
/-- a value of which one may ask what it is -/
def plainB : D → Bool
  | .none => true | .bool _ => true | .int _ => true | .str _ => true | .tup _ => true | .lst _ => true
  | _ => false
def wholeB : D → Bool
  | .int i => decide (0 ≤ i) && decide (i ≤ 999)
  | _ => false
theorem is_whole_gen (d : D) (h : plainB d = true) (s : Sto) : py_is_whole [d, .int 0, .int 999] s = .ok (.bool (wholeB d)) s := by
  cases d with
  | int i => exact is_whole_int i 0 999 s
  | none => simp [py_is_whole, bo_is_whole, fnOf, startL, wholeB]
  | bool b => simp [py_is_whole, bo_is_whole, fnOf, startL, wholeB]
  | str x => simp [py_is_whole, bo_is_whole, fnOf, startL, wholeB]
  | tup l => simp [py_is_whole, bo_is_whole, fnOf, startL, wholeB]
  | lst l => simp [py_is_whole, bo_is_whole, fnOf, startL, wholeB]
  | _ => simp [plainB] at h
def rowOkB (n : Nat) : D → Bool
  | .tup xs => decide (xs.length = n) && xs.all wholeB
  | _ => false
/-- a row: plain things, or a list -/
def rowB : D → Bool
  | .tup xs => xs.all plainB
  | .lst _ => true
  | .int _ => true
  | _ => false
theorem is_line_gen (d : D) (n : Nat) (h : rowB d = true) (s : Sto) : py_is_line [d, .int n] s = .ok (.bool (rowOkB n d)) s := by
  cases d with
  | lst l => simp [py_is_line, bo_is_line, fnOf, startL, rowOkB]
  | int l => simp [py_is_line, bo_is_line, fnOf, startL, rowOkB]
  | tup xs =>
    simp only [rowB, List.all_eq_true] at h
    have c0 : co_is_line_0 [.sh (.tup xs), .sh (.int n), .no] s = .ok (.lst (xs.map fun x => .bool (wholeB x))) [.sh (.tup xs), .sh (.int n), .no] s := by
      have := eComp_map (it := iOf (eV 0)) (g := .n 2) (own := [2]) (e := eCall py_is_whole [(eV 2), (eC (.int 0)), (eC (.int 999))] []) (r := [.sh (.tup xs), .sh (.int n), .no]) (r1 := [.sh (.tup xs), .sh (.int n), .no]) (s := s) (s1 := s) xs id (fun x => .bool (wholeB x)) (by simp) rfl (fun x hx => ⟨_, rfl, rfl, by simp [is_whole_gen x (h x hx)]⟩)
      exact this
    by_cases hn : xs.length = n
    · subst hn
      simp [py_is_line, bo_is_line, fnOf, startL, c0, pAll, boolsOf_map', rowOkB]
    · have hn' : ((xs.length : Int) == n) = false := by simp; omega
      simp [py_is_line, bo_is_line, fnOf, startL, rowOkB, hn, hn']
  | _ => simp [rowB] at h
def landB : List D → Bool
  | .tup r :: l => decide (l.length + 1 ≤ 8) && decide (1 ≤ r.length) && decide (r.length ≤ 8) && (.tup r :: l).all (rowOkB r.length)
  | _ => false
theorem is_land_gen (l : List D) (h : ∀ d ∈ l, rowB d = true) (s : Sto) : py_is_land [.tup l] s = .ok (.bool (landB l)) s := by
  cases l with
  | nil => simp [py_is_land, bo_is_land, fnOf, startL, landB]
  | cons r l =>
    by_cases h8 : l.length + 1 ≤ 8
    · have b1 : (1 : Int) ≤ (l.length : Int) + 1 := by omega
      have b2 : (l.length : Int) + 1 ≤ 8 := by omega
      have hr := h r List.mem_cons_self
      cases r with
      | lst x => simp [py_is_land, bo_is_land, fnOf, startL, landB, b1, b2, getI_zero]
      | int x => simp [py_is_land, bo_is_land, fnOf, startL, landB, b1, b2, getI_zero]
      | tup xs =>
        have c0 : co_is_land_0 [.sh (.tup (.tup xs :: l)), .no] s = .ok (.lst ((.tup xs :: l).map fun x => .bool (rowOkB xs.length x))) [.sh (.tup (.tup xs :: l)), .no] s := by
          have := eComp_map (it := iOf (eV 0)) (g := .n 1) (own := [1]) (e := eCall py_is_line [(eV 1), (eLen (.v (e2 pIx (.v (eV 0)) (.v (eC (.int 0))))))] []) (r := [.sh (.tup (.tup xs :: l)), .no]) (r1 := [.sh (.tup (.tup xs :: l)), .no]) (s := s) (s1 := s) (.tup xs :: l) id (fun x => .bool (rowOkB xs.length x)) (by simp) rfl (fun x hx => ⟨_, rfl, rfl, by
            have q := is_line_gen x xs.length (h x hx) s
            simp [getI_zero, q]⟩)
          exact this
        by_cases w1 : 1 ≤ xs.length
        · by_cases w2 : xs.length ≤ 8
          · have b3 : (1 : Int) ≤ xs.length := by omega
            have b4 : (xs.length : Int) ≤ 8 := by omega
            have bo : boolsOf ((.tup xs :: l).map fun x => .bool (rowOkB xs.length x)) = some ((.tup xs :: l).map (rowOkB xs.length)) := boolsOf_map' _ _
            simp only [List.map_cons] at c0 bo
            simp [py_is_land, bo_is_land, fnOf, startL, landB, b1, b2, getI_zero, b3, b4, c0, pAll, bo, h8, w1, w2]
          · have b3 : (1 : Int) ≤ xs.length := by omega
            have b4 : ¬ ((xs.length : Int) ≤ 8) := by omega
            simp [py_is_land, bo_is_land, fnOf, startL, landB, b1, b2, getI_zero, b3, b4, w2]
        · have b3 : ¬ ((1 : Int) ≤ xs.length) := by omega
          simp [py_is_land, bo_is_land, fnOf, startL, landB, b1, b2, getI_zero, b3, w1]
      | _ => simp [rowB] at hr
    · have b1 : (1 : Int) ≤ (l.length : Int) + 1 := by omega
      have b2 : ¬ ((l.length : Int) + 1 ≤ 8) := by omega
      have : landB (r :: l) = false := by cases r <;> simp [landB]; omega
      simp [py_is_land, bo_is_land, fnOf, startL, b1, b2, this]
theorem landB_false {l : List D} {d : D} (hd : d ∈ l) (h : ∀ r0 l', l = .tup r0 :: l' → 1 ≤ r0.length → r0.length ≤ 8 → rowOkB r0.length d = false) : landB l = false := by
  cases l with
  | nil => rfl
  | cons r l =>
    cases r with
    | tup xs =>
      by_cases w1 : 1 ≤ xs.length
      · by_cases w2 : xs.length ≤ 8
        · have := h xs l rfl w1 w2
          have e : (D.tup xs :: l).all (rowOkB xs.length) = false := List.all_eq_false.mpr ⟨d, hd, by rw [this]; simp⟩
          simp only [landB, e, Bool.and_false]
        · simp [landB, w2]
      · simp [landB, w1]
    | _ => rfl
theorem sSeq_nx' {a b : S} {r r1 : Env} {s s1 : Sto} (h : a r s = .ok .nx r1 s1) : sSeq a b r s = b r1 s1 := by simp [h]
end Pk
/-! Spc2: neighbours, water that falls. -/
namespace Pk
open PySem (Str)
theorem sorted_eq {l m : List (Int × Int)} (hl : l.Pairwise fun a b => ltC a b = true) (hm : m.Pairwise fun a b => ltC a b = true) (h : ∀ x, x ∈ l ↔ x ∈ m) : l = m := by
  have ne : ∀ {k : List (Int × Int)}, k.Pairwise (fun a b => ltC a b = true) → k.Nodup := fun hk => hk.imp fun {a b} hab e => by subst e; rw [ord_C.ir] at hab; cases hab
  have p : l.Perm m := (List.perm_ext_iff_of_nodup (ne hl) (ne hm)).mpr h
  refine List.Perm.eq_of_pairwise (le := fun a b => ltC a b = true) (fun a b _ _ h1 h2 => ?_) hl hm p
  have := ord_C.tr _ _ _ h1 h2
  rw [ord_C.ir] at this
  cases this
def besideL (h w : Nat) (c : Int × Int) : List (Int × Int) := (cellsL h w).filter (nearB c)
def nb4 (c : Int × Int) : List (Int × Int) := [(c.1 - 1, c.2), (c.1, c.2 - 1), (c.1, c.2 + 1), (c.1 + 1, c.2)]
def inB (h w : Nat) (c : Int × Int) : Bool := decide (0 ≤ c.1) && decide (c.1 < h) && decide (0 ≤ c.2) && decide (c.2 < w)
theorem inB_iff {h w : Nat} {c : Int × Int} : inB h w c = true ↔ InL h w c := by simp [inB, InL, and_assoc]
theorem nb4_eq (h w : Nat) (c : Int × Int) : (nb4 c).filter (inB h w) = besideL h w c := by
  refine sorted_eq (List.Pairwise.filter _ (by simp [nb4, ltC]; omega)) (List.Pairwise.filter _ (cellsL_sorted h w)) fun x => ?_
  simp only [List.mem_filter, mem_cellsL, besideL]
  constructor
  · rintro ⟨h1, h2⟩
    refine ⟨inB_iff.mp h2, ?_⟩
    simp only [nb4, List.mem_cons, List.not_mem_nil, or_false] at h1
    simp only [nearB, decide_eq_true_eq]
    rcases h1 with rfl | rfl | rfl | rfl <;> simp <;> omega
  · rintro ⟨h1, h2⟩
    refine ⟨?_, inB_iff.mpr h1⟩
    simp only [nearB, decide_eq_true_eq] at h2
    obtain ⟨x1, x2⟩ := x
    obtain ⟨c1, c2⟩ := c
    simp only [nb4, List.mem_cons, List.not_mem_nil, or_false, Prod.mk.injEq]
    simp only at h2
    omega
theorem beside_of_ok {L : List (List Int)} {h w : Nat} (hL : Land L h w) (c : Int × Int) (s : Sto) : py_beside_of [encL L, encC c] s = .ok (.lst ((besideL h w c).map encC)) s := by
  have c0 : co_beside_of_0 [.sh (encL L), .sh (encC c), .sh (.int c.1), .sh (.int c.2), .sh (.lst ((nb4 c).map encC)), .no] s = .ok (.lst ((besideL h w c).map encC)) [.sh (encL L), .sh (encC c), .sh (.int c.1), .sh (.int c.2), .sh (.lst ((nb4 c).map encC)), .no] s := by
    rw [← nb4_eq]
    refine eComp_pure (nb4 c) encC (inB h w) encC rfl rfl fun x hx => ⟨_, rfl, rfl, ?_, fun _ => ?_⟩
    · have := is_cell_int hL x s
      simp [this, inB]
    · simp
  have en : D.lst ((nb4 c).map encC) = .lst [.tup [.int (c.1 - 1), .int c.2], .tup [.int c.1, .int (c.2 - 1)], .tup [.int c.1, .int (c.2 + 1)], .tup [.int (c.1 + 1), .int c.2]] := rfl
  rw [en] at c0
  simp only [encC] at c0
  simp [py_beside_of, bo_beside_of, fnOf, startL, encC, c0]
def lowN (L : List (List Int)) (h w : Nat) (c : Int × Int) : List (Int × Int) := (besideL h w c).filter fun o => decide (hAt L o < hAt L c)
theorem mem_lowN {L : List (List Int)} {h w : Nat} {c o : Int × Int} : o ∈ lowN L h w c ↔ InL h w o ∧ nearB c o = true ∧ hAt L o < hAt L c := by
  simp [lowN, besideL, mem_cellsL, and_assoc]
  intro _
  exact and_comm
/-- the next cell of water at c: the lowest, the first of several -/
def IsNext (L : List (List Int)) (h w : Nat) (c d : Int × Int) : Prop := d ∈ lowN L h w c ∧ ∀ y ∈ lowN L h w c, ltP (hAt L y, y) (hAt L d, d) = false
theorem next_uniq {L : List (List Int)} {h w : Nat} {c d e : Int × Int} (h1 : IsNext L h w c d) (h2 : IsNext L h w c e) : d = e := by
  have a := h1.2 e h2.1
  have b := h2.2 d h1.1
  obtain ⟨d1, d2⟩ := d
  obtain ⟨e1, e2⟩ := e
  simp only [ltP, ltC, Bool.or_eq_false_iff, Bool.and_eq_false_iff, decide_eq_false_iff_not] at a b
  simp only [Prod.mk.injEq]
  omega
/-- the way of water -/
inductive Way (L : List (List Int)) (h w : Nat) : (Int × Int) → List (Int × Int) → Prop
  | stay {c : Int × Int} (hs : lowN L h w c = []) : Way L h w c [c]
  | go {c d : Int × Int} {l : List (Int × Int)} (hn : IsNext L h w c d) (hw : Way L h w d l) : Way L h w c (c :: l)
theorem fall_step {L : List (List Int)} {h w : Nat} (hL : Land L h w) {c : Int × Int} (hc : InL h w c) (pre : List (Int × Int)) (x4 x5 : Sl) (s : Sto) :
    co_fall_of_0 [.sh (encL L), x4, .ow (.lst ((pre ++ [c]).map encC)), .sh (encC c), x5, .no] s = .ok (.lst ((lowN L h w c).map fun o => encP (hAt L o, o))) [.sh (encL L), x4, .ow (.lst ((pre ++ [c]).map encC)), .sh (encC c), x5, .no] s := by
  have := eComp_pure (it := iOf (eCall py_beside_of [(eV 0), (eV 3)] [])) (g := .n 5) (own := [5]) (c := e2 pLt (.v (eCall py_at [(eV 0), (eV 5)] [])) (.v (eCall py_at [(eV 0), (eV 3)] []))) (e := eTup [(eCall py_at [(eV 0), (eV 5)] []), (eV 5)])
    (r := [.sh (encL L), x4, .ow (.lst ((pre ++ [c]).map encC)), .sh (encC c), x5, .no]) (r1 := [.sh (encL L), x4, .ow (.lst ((pre ++ [c]).map encC)), .sh (encC c), x5, .no]) (s := s) (s1 := s) (besideL h w c) encC (fun o => decide (hAt L o < hAt L c)) (fun o => encP (hAt L o, o))
    (by simp [beside_of_ok hL]) rfl (fun o ho => by
      have ho : InL h w o := mem_cellsL.mp (List.mem_filter.mp ho).1
      have v1 := at_ok hL ho s
      have v2 := at_ok hL hc s
      exact ⟨_, rfl, rfl, by simp [v1, v2], fun _ => by simp [v1, encP]⟩)
  exact this
theorem last_ix (pre : List (Int × Int)) (c : Int × Int) : pIx (.lst ((pre ++ [c]).map encC)) (.int (-1)) = some (encC c) := by
  simp only [pIx, getI, ixOf, List.map_append, List.map_cons, List.map_nil, List.length_append, List.length_map, List.length_singleton]
  have h1 : ¬ ((0 : Int) ≤ -1) := by omega
  have h2 : -(((pre.length + 1 : Nat)) : Int) ≤ -1 := by omega
  have h3 : (-1 + ((pre.length + 1 : Nat) : Int)).toNat = pre.length := by omega
  rw [if_neg h1, if_pos h2, Option.bind_some, h3]
  simp
theorem fall_loop {L : List (List Int)} {h w : Nat} (hL : Land L h w) (x1 : Sl) (s : Sto) : ∀ (n N : Nat) (c : Int × Int) (pre : List (Int × Int)) (x3 x4 : Sl), InL h w c → hAt L c < n → n < N → pre.length + n ≤ 2000 →
    ∃ l r', Way L h w c l ∧ whileL (eC (.bool true)) (sSeq (sSet false 3 (e2 pIx (.b 2) (.v (e1 pNeg (.v (eC (.int 1)))))))
    (sSeq (sSet false 4 co_fall_of_0)
    (sSeq (sIf (e2 pEq (.v (eV 4)) (.v (eLst []))) (sRet (eV 2)) sNil)
    (sAppend 2 (e2 pIx (.v (e1 pMinD (.v (eV 4)))) (.v (eC (.int 1)))))))) N [.sh (encL L), x1, .ow (.lst ((pre ++ [c]).map encC)), x3, x4, .no] s = .ok (.rt (.lst ((pre ++ l).map encC))) r' s
  | 0, N, c, pre, x3, x4, hc, hn, _, _ => by have := (hAt_le hL hc).1; omega
  | n + 1, 0, c, pre, x3, x4, hc, hn, hN, _ => by omega
  | n + 1, N + 1, c, pre, x3, x4, hc, hn, hN, hp => by
    have st := fall_step hL hc pre x1 x4 s
    have li := last_ix pre c
    obtain ⟨P, hP⟩ : ∃ P, P = (pre ++ [c]).map encC := ⟨_, rfl⟩
    have hPl : P.length = pre.length + 1 := by rw [hP]; simp
    rw [← hP] at st li ⊢
    by_cases he : lowN L h w c = []
    · refine ⟨[c], [.sh (encL L), x1, .sh (.lst P), .sh (encC c), .sh (.lst []), .no], .stay he, ?_⟩
      rw [he] at st
      rw [← hP]
      have d0 : D.dep 64 (.lst []) = true := rfl
      simp [whileL, -pIx, li, st, d0, -dep_lst]
    · obtain ⟨m, m1, m2, m3, _⟩ := pMin_map encP ord_P lt_encP ((lowN L h w c).map fun o => (hAt L o, o)) (fun x _ => dep_encP 60 x) alk_encP (by simpa using he)
      obtain ⟨d, hd, rfl⟩ := List.mem_map.mp m1
      have nx : IsNext L h w c d := ⟨hd, fun y hy => m2 _ (List.mem_map.mpr ⟨y, hy, rfl⟩)⟩
      obtain ⟨d1, d2, d3⟩ := mem_lowN.mp hd
      obtain ⟨l, r', h1, h2⟩ := fall_loop hL x1 s n N d (pre ++ [c]) (.sh (encC c)) (.sh (.lst ((lowN L h w c).map fun o => encP (hAt L o, o)))) d1 (by omega) (by omega) (by simp; omega)
      refine ⟨c :: l, r', .go nx h1, ?_⟩
      rw [List.map_map] at m3
      have m3' : pMinD (.lst ((lowN L h w c).map fun o => encP (hAt L o, o))) = some (encP (hAt L d, d)) := m3
      have hd : D.dep 64 (.lst ((lowN L h w c).map fun o => encP (hAt L o, o))) = true := by
        show List.all _ _ = true
        rw [List.all_map, List.all_eq_true]
        exact fun x _ => dep_encP 61 _
      have hne : eqvL ((lowN L h w c).map fun o => encP (hAt L o, o)) [] = false := by
        cases hq : lowN L h w c with
        | nil => exact absurd hq he
        | cons x l => simp
      have hd0 : D.dep 64 (.lst []) = true := rfl
      have ix : pIx (encP (hAt L d, d)) (.int 1) = some (encC d) := by simp [encP]
      have hz : P.length < SZ := by rw [hPl]; simp only [SZ]; omega
      have eP : P ++ [encC d] = (pre ++ [c] ++ [d]).map encC := by rw [hP]; simp
      have eL : (pre ++ c :: l).map encC = (pre ++ [c] ++ l).map encC := by simp
      rw [eL, ← h2, ← eP]
      simp [whileL, -pIx, li, st, hd, hd0, hne, m3', ix, hz, -dep_lst, -List.map_append, -List.append_assoc]
theorem falls_ok {L : List (List Int)} {h w : Nat} (hL : Land L h w) {c : Int × Int} (hc : InL h w c) (s : Sto) : ∃ l, Way L h w c l ∧ py_fall_of [encL L, encC c] s = .ok (.lst (l.map encC)) s ∧ py_falls [encL L, encC c] s = .ok (.lst (l.map encC)) s := by
  have := hAt_le hL hc
  obtain ⟨l, r', h1, h2⟩ := fall_loop hL (.sh (encC c)) s 1000 WN c [] .no .no hc (by omega) (by decide) (by simp)
  have e : py_fall_of [encL L, encC c] s = .ok (.lst (l.map encC)) s := by
    refine fnOf_rt (r := r') rfl ?_
    unfold bo_fall_of wh_fall_of_0 sWhile
    simp only [List.nil_append] at h2
    rw [← h2]
    simp [startL]
  exact ⟨l, h1, e, by simp [py_falls, bo_falls, fnOf, startL, need_both_ok hL hc, e]⟩
theorem Way.head {L : List (List Int)} {h w : Nat} {c : Int × Int} {l : List (Int × Int)} (h1 : Way L h w c l) : ∃ t, l = c :: t := by
  cases h1 with
  | stay _ => exact ⟨[], rfl⟩
  | go _ _ => exact ⟨_, rfl⟩
theorem Way.uniq {L : List (List Int)} {h w : Nat} {c : Int × Int} {l m : List (Int × Int)} (h1 : Way L h w c l) : Way L h w c m → l = m := by
  induction h1 generalizing m with
  | stay hs =>
    intro h2
    cases h2 with
    | stay _ => rfl
    | go hn _ => have := hn.1; rw [hs] at this; cases this
  | go hn hw ih =>
    intro h2
    cases h2 with
    | stay hs => have := hn.1; rw [hs] at this; cases this
    | go hn2 hw2 =>
      have := next_uniq hn hn2
      subst this
      rw [ih hw2]
/-- heights go down -/
theorem Way.down {L : List (List Int)} {h w : Nat} {c : Int × Int} {l : List (Int × Int)} (h1 : Way L h w c l) : (∀ x ∈ l, hAt L x ≤ hAt L c) ∧ l.Nodup := by
  induction h1 with
  | stay hs => exact ⟨fun x hx => by rw [List.mem_singleton.mp hx]; exact Int.le_refl _, by simp⟩
  | go hn hw ih =>
    have hlt := (mem_lowN.mp hn.1).2.2
    refine ⟨fun x hx => ?_, ?_⟩
    · rcases List.mem_cons.mp hx with rfl | hx
      · exact Int.le_refl _
      · have := ih.1 x hx; omega
    · refine List.nodup_cons.mpr ⟨fun hm => ?_, ih.2⟩
      have := ih.1 _ hm
      omega
theorem Way.last {L : List (List Int)} {h w : Nat} {c : Int × Int} {l : List (Int × Int)} (h1 : Way L h w c l) (hc : InL h w c) : ∃ p e, l = p ++ [e] ∧ lowN L h w e = [] ∧ InL h w e := by
  induction h1 with
  | @stay c hs => exact ⟨[], c, rfl, hs, hc⟩
  | @go c d l hn hw ih =>
    obtain ⟨p, e, rfl, h2, h3⟩ := ih (mem_lowN.mp hn.1).1
    exact ⟨c :: p, e, rfl, h2, h3⟩
theorem Way.cells {L : List (List Int)} {h w : Nat} {c : Int × Int} {l : List (Int × Int)} (h1 : Way L h w c l) (hc : InL h w c) : ∀ x ∈ l, InL h w x := by
  induction h1 with
  | stay hs => intro x hx; rw [List.mem_singleton.mp hx]; exact hc
  | go hn hw ih =>
    intro x hx
    rcases List.mem_cons.mp hx with rfl | hx
    · exact hc
    · exact ih (mem_lowN.mp hn.1).1 x hx
end Pk
/-! Spd: walks. -/
namespace Pk
open PySem (Str)
def prs {α : Type} (l : List α) : List (α × α) := l.zip l.tail
theorem prs_rev {α : Type} (l : List α) : prs l.reverse = ((prs l).map Prod.swap).reverse := by
  unfold prs
  apply List.ext_getElem
  · simp
  · intro i h1 h2
    simp at h1 h2
    simp
    congr 1
    omega
theorem prs_append {α : Type} (a b : α) : ∀ l : List α, prs (l ++ [a] ++ [b]) = prs (l ++ [a]) ++ [(a, b)]
  | [] => rfl
  | [x] => rfl
  | x :: y :: l => by
    have := prs_append a b (y :: l)
    simp only [List.cons_append] at this ⊢
    show (x, y) :: prs (y :: (l ++ [a] ++ [b])) = (x, y) :: prs (y :: (l ++ [a])) ++ [(a, b)]
    rw [this]
    rfl
def chainB (C : List (Int × Int)) : Bool := (prs C).all fun p => nearB p.1 p.2
theorem near_symm (a b : Int × Int) : nearB a b = nearB b a := by
  unfold nearB
  congr 1
  apply propext
  constructor <;> intro h <;> omega
theorem chain_rev (C : List (Int × Int)) : chainB C.reverse = chainB C := by
  unfold chainB
  rw [prs_rev, List.all_reverse, List.all_map]
  congr 1
  funext p
  exact near_symm _ _
structure WalkOk (h w : Nat) (W : List (Int × Int)) : Prop where
  ne : W ≠ []
  cells : ∀ c ∈ W, InL h w c
  near : chainB W = true
theorem WalkOk.rev {h w : Nat} {W : List (Int × Int)} (hW : WalkOk h w W) : WalkOk h w W.reverse :=
  ⟨by simpa using hW.ne, fun c hc => hW.cells c (by simpa using hc), by rw [chain_rev]; exact hW.near⟩
theorem WalkOk.more {h w : Nat} {l : List (Int × Int)} {a b : Int × Int} (hW : WalkOk h w (l ++ [a])) (hb : InL h w b) (hn : nearB a b = true) : WalkOk h w (l ++ [a] ++ [b]) := by
  refine ⟨by simp, fun c hc => ?_, ?_⟩
  · rcases List.mem_append.mp hc with z | z
    · exact hW.cells c z
    · rw [List.mem_singleton.mp z]; exact hb
  · unfold chainB
    rw [prs_append a b l, List.all_append]
    have := hW.near
    unfold chainB at this
    rw [this]
    simp [hn]
theorem last_of {α : Type} {l : List α} (h : l ≠ []) : ∃ p a, l = p ++ [a] := ⟨l.dropLast, l.getLast h, (List.dropLast_concat_getLast h).symm⟩
theorem law_walk_ok (ns : List Int) (hn : ns.length ≤ 63) {L : List (List Int)} {h w : Nat} (hL : Land L h w) (b n : Nat) (hb : 1 ≤ b ∧ b ≤ 13) (hk : n < 700000) :
    ∃ (W : List (Int × Int)) (m : Nat), WalkOk h w W ∧ W.length ≤ b ∧ n ≤ m ∧ m ≤ n + 30 ∧ py_law_walk [.scr ns, .town, encL L, .int b] (St n) = .ok (.lst (W.map encC)) (St m) := by
  obtain ⟨c, hc, pc⟩ := pick_cell ns n hn (by omega) hL.hr.1 hL.hw.1
  obtain ⟨v, v1, v2⟩ := draw_ok ns (n + 1) b hn (by omega) hb.1
  obtain ⟨r', s', e1, e2⟩ := forL_inv (g := .n 5) (b := fo_law_walk_0) (fun (k : Nat) => D.int (k : Int)) (fun k r s1 => ∃ (W : List (Int × Int)) (m : Nat) (x5 x6 : Sl), s1 = St m ∧ n + 2 ≤ m ∧ m ≤ n + 2 + k ∧ WalkOk h w W ∧ W.length ≤ k + 1 ∧ r = [.sh (.scr ns), .sh .town, .sh (encL L), .sh (.int b), .ow (.lst (W.map encC)), x5, x6])
    (List.range v) 0 [.sh (.scr ns), .sh .town, .sh (encL L), .sh (.int b), .ow (.lst ([c].map encC)), .no, .no] (St (n + 1 + 1))
    ⟨[c], n + 1 + 1, .no, .no, rfl, by omega, by omega, ⟨by simp, fun x hx => by rw [List.mem_singleton.mp hx]; exact hc, rfl⟩, by simp, rfl⟩ (fun j x hj r s1 hI => by
      obtain ⟨W, m, x5, x6, rfl, m1, m2, hW, hl, rfl⟩ := hI
      have hjv : j < v := by have := (List.getElem?_eq_some_iff.mp hj).1; simpa using this
      obtain ⟨p, a, rfl⟩ := last_of hW.ne
      have li := last_ix p a
      obtain ⟨P, hP⟩ : ∃ P, P = (p ++ [a]).map encC := ⟨_, rfl⟩
      have hPl : P.length = p.length + 1 := by rw [hP]; simp
      rw [← hP] at li ⊢
      have bs := law_beside_ok hL a (St m)
      have eb : (cellsL h w).filter (nearB a) = besideL h w a := rfl
      rw [eb] at bs
      have d0 : D.dep 64 (.lst []) = true := rfl
      have hdp : D.dep 64 (.lst ((besideL h w a).map encC)) = true := by simp
      by_cases he : besideL h w a = []
      · rw [he] at bs
        refine ⟨_, [.sh (.scr ns), .sh .town, .sh (encL L), .sh (.int b), .ow (.lst P), .sh (.int (x : Int)), .sh (.lst [])], St m, rfl, ?_, p ++ [a], m, .sh (.int (x : Int)), .sh (.lst []), rfl, m1, by omega, hW, by omega, by rw [← hP]⟩
        simp [fo_law_walk_0, -pIx, li, bs, d0, -dep_lst]
      · obtain ⟨d, hd, pd⟩ := pick_ok ns m ((besideL h w a).map encC) hn (by omega) (by simpa using he)
        obtain ⟨o, ho, rfl⟩ := List.mem_map.mp hd
        obtain ⟨o1, o2⟩ := List.mem_filter.mp ho
        have hne : eqvL ((besideL h w a).map encC) [] = false := by
          cases hq : besideL h w a with
          | nil => exact absurd hq he
          | cons x l => simp
        have hz : P.length < SZ := by rw [hPl]; simp at hl; simp only [SZ]; omega
        refine ⟨_, [.sh (.scr ns), .sh .town, .sh (encL L), .sh (.int b), .ow (.lst (P ++ [encC o])), .sh (.int (x : Int)), .sh (.lst ((besideL h w a).map encC))], St (m + 1), rfl, ?_, p ++ [a] ++ [o], m + 1, .sh (.int (x : Int)), .sh (.lst ((besideL h w a).map encC)), rfl, by omega, by omega, hW.more (mem_cellsL.mp o1) o2, by simp at hl ⊢; omega, ?_⟩
        rotate_left
        · rw [List.map_append, ← hP]; rfl
        · simp [fo_law_walk_0, -pIx, li, bs, d0, hdp, hne, pd, hz, -dep_lst])
  obtain ⟨W, m, x5, x6, rfl, m1, m2, hW, hl, rfl⟩ := e2
  simp only [List.length_range] at hl m2
  refine ⟨W, m, hW, by omega, by omega, by omega, ?_⟩
  have v2 : py_law_draw [.scr ns, .town, .int (b : Int)] (St (n + 1)) = .ok (.int (v : Int)) (St (n + 1 + 1)) := v2
  have f3 : sFor (iRange1 (eCall py_law_draw [(eV 0), (eV 1), (eV 3)] [])) (.n 5) fo_law_walk_0 [.sh (.scr ns), .sh .town, .sh (encL L), .sh (.int b), .ow (.lst [encC c]), .no, .no] (St (n + 1)) = .ok .nx [.sh (.scr ns), .sh .town, .sh (encL L), .sh (.int b), .ow (.lst (W.map encC)), x5, x6] (St m) := by
    have e1' : forL (.n 5) fo_law_walk_0 ((List.range v).map fun (k : Nat) => .int (k : Int)) [.sh (.scr ns), .sh .town, .sh (encL L), .sh (.int b), .ow (.lst [encC c]), .no, .no] (St (n + 1 + 1)) = _ := e1
    rw [← e1']
    have s1 := small_nat (n := v) (by omega)
    have s2 := SZ_int (n := v) (by omega)
    simp [v2, s1, s2, upto]
  simp [py_law_walk, bo_law_walk, fnOf, startL, law_cells_ok hL, pc, f3, -sFor]
end Pk
/-! Spe: which lists are walks; their numbers. -/
namespace Pk
open PySem (Str)
theorem cut_1 (l : List D) : cutL l (some 1) none = l.tail := by
  unfold cutL cutIx
  have h1 : ¬ ((1 : Int) < 0) := by omega
  have h2 : (1 : Int).toNat = 1 := rfl
  simp only [h1, if_false, h2]
  cases l with
  | nil => rfl
  | cons x l => simp
theorem paired_prs {α : Type} (f : α → D) (l : List α) : paired (l.map f) (l.map f).tail = (prs l).map fun p => .tup [f p.1, f p.2] := by
  unfold paired prs
  apply List.ext_getElem
  · simp
  · intro i h1 h2
    simp at h1 h2
    have a1 : i < l.length := by omega
    have a2 : i + 1 < l.length := by omega
    simp [a1, a2]
theorem are_beside_ok (a b : Int × Int) (s : Sto) : py_are_beside [encC a, encC b] s = .ok (.bool (nearB a b)) s := law_near_ok a b s
theorem is_good_cells {L : List (List Int)} {h w : Nat} (hL : Land L h w) (C : List (Int × Int)) (hC : ∀ c ∈ C, InL h w c) (s : Sto) : py_is_good [encL L, .lst (C.map encC)] s = .ok (.bool (decide (C ≠ []) && chainB C)) s := by
  have c1 : co_is_good_1 [.sh (encL L), .sh (.lst (C.map encC)), .no, .no, .no] s = .ok (.lst (C.map fun _ => .bool true)) [.sh (encL L), .sh (.lst (C.map encC)), .no, .no, .no] s := by
    refine eComp_map C encC _ rfl rfl fun c hc => ⟨_, rfl, rfl, ?_⟩
    obtain ⟨a1, a2, a3, a4⟩ := hC c hc
    have := is_cell_int hL c s
    simp [this, a1, a2, a3, a4]
  have c0 : co_is_good_0 [.sh (encL L), .sh (.lst (C.map encC)), .no, .no, .no] s = .ok (.lst ((prs C).map fun p => .bool (nearB p.1 p.2))) [.sh (encL L), .sh (.lst (C.map encC)), .no, .no, .no] s := by
    refine eComp_map (prs C) (fun p => .tup [encC p.1, encC p.2]) _ ?_ rfl fun p hp => ⟨_, setT_2 _ _ _ _ _, rfl, ?_⟩
    · rw [← paired_prs encC C]
      simp [cut_1]
    · simp [are_beside_ok]
  have hd : D.dep 64 (.lst (C.map encC)) = true := by simp
  have hd0 : D.dep 64 (.lst []) = true := rfl
  cases C with
  | nil => simp [py_is_good, bo_is_good, fnOf, startL, hd0, -dep_lst]
  | cons c C =>
    have b1 : boolsOf ((c :: C).map fun _ => .bool true) = some ((c :: C).map fun _ => true) := boolsOf_map' _ _
    have b2 : boolsOf ((prs (c :: C)).map fun p => .bool (nearB p.1 p.2)) = some ((prs (c :: C)).map fun p => nearB p.1 p.2) := boolsOf_map' _ _
    have hne : eqvL ((c :: C).map encC) [] = false := by simp
    have a1 : ((c :: C).map fun _ => true).all id = true := by simp
    have a2 : ((prs (c :: C)).map fun p => nearB p.1 p.2).all id = chainB (c :: C) := by simp [chainB, List.all_map, Function.comp_def]
    have p1 : pAll (.lst ((c :: C).map fun _ => .bool true)) = some (.bool true) := by unfold pAll; simp only [b1, Option.map_some, a1]
    have p2 : pAll (.lst ((prs (c :: C)).map fun p => .bool (nearB p.1 p.2))) = some (.bool (chainB (c :: C))) := by unfold pAll; simp only [b2, Option.map_some, a2]
    clear b1 b2 a1 a2
    generalize (c :: C).map encC = P at *
    generalize ((c :: C).map fun _ => D.bool true) = T1 at *
    generalize ((prs (c :: C)).map fun p => D.bool (nearB p.1 p.2)) = T2 at *
    simp [py_is_good, bo_is_good, fnOf, startL, hd0, hd, hne, c1, c0, p1, p2, -dep_lst]
theorem is_good_odd {L : List (List Int)} (l : List D) (cb : D → Bool) (hl : ∀ d ∈ l, ∀ s, py_is_cell [encL L, d] s = .ok (.bool (cb d)) s) (hd : l.all (D.dep 63) = true) (hb : ∃ d ∈ l, cb d = false) (s : Sto) : py_is_good [encL L, .lst l] s = .ok (.bool false) s := by
  have c1 : co_is_good_1 [.sh (encL L), .sh (.lst l), .no, .no, .no] s = .ok (.lst (l.map fun d => .bool (cb d))) [.sh (encL L), .sh (.lst l), .no, .no, .no] s := by
    have := eComp_map (it := iOf (eV 1)) (g := .n 2) (own := [2]) (e := eCall py_is_cell [(eV 0), (eV 2)] []) (r := [.sh (encL L), .sh (.lst l), .no, .no, .no]) (r1 := [.sh (encL L), .sh (.lst l), .no, .no, .no]) (s := s) (s1 := s) l id (fun d => .bool (cb d)) (by simp) rfl (fun d hd => ⟨_, rfl, rfl, by simp [hl d hd s]⟩)
    exact this
  have hd1 : D.dep 64 (.lst l) = true := hd
  have hd0 : D.dep 64 (.lst []) = true := rfl
  have b1 : boolsOf (l.map fun d => .bool (cb d)) = some (l.map cb) := boolsOf_map' _ _
  have a1 : (l.map cb).all id = false := by
    obtain ⟨d, h1, h2⟩ := hb
    exact List.all_eq_false.mpr ⟨false, List.mem_map.mpr ⟨d, h1, h2⟩, by simp⟩
  have hne : eqvL l [] = false := by
    obtain ⟨d, h1, h2⟩ := hb
    cases l with
    | nil => cases h1
    | cons x l => simp
  simp [py_is_good, bo_is_good, fnOf, startL, hd0, hd1, hne, c1, pAll, b1, a1, -dep_lst, -List.all_map]
/-! ### numbers -/
def lowL : List Int → Int
  | [] => 0
  | a :: t => minBy (fun a b : Int => decide (a < b)) a t
def upf (p : Int × Int) : Int := if p.2 - p.1 > 0 then p.2 - p.1 else 0
def dnf (p : Int × Int) : Int := if p.2 - p.1 > 0 then 0 else -(p.2 - p.1)
def abf (p : Int × Int) : Int := if p.2 - p.1 < 0 then -(p.2 - p.1) else p.2 - p.1
def climbL (hs : List Int) : Int := ((prs hs).map upf).sum
def dnL (hs : List Int) : Int := ((prs hs).map dnf).sum
def steepL (hs : List Int) : Int := minBy (fun x y : Int => decide (y < x)) 0 ((prs hs).map abf)
theorem lowL_spec {hs : List Int} (hne : hs ≠ []) : lowL hs ∈ hs ∧ ∀ y ∈ hs, lowL hs ≤ y := by
  cases hs with
  | nil => exact absurd rfl hne
  | cons a t =>
    obtain ⟨h1, h2⟩ := minBy_spec ord_int.tr ord_int.nt ord_int.ir t a
    exact ⟨h1, fun y hy => by have := h2 y hy; simp at this; exact this⟩
theorem lowL_rev (hs : List Int) (hne : hs ≠ []) : lowL hs.reverse = lowL hs := by
  obtain ⟨a1, a2⟩ := lowL_spec hne
  obtain ⟨b1, b2⟩ := lowL_spec (hs := hs.reverse) (by simpa using hne)
  have := a2 _ (by simpa using b1)
  have := b2 _ (by simpa using a1)
  omega
theorem steepL_rev (hs : List Int) : steepL hs.reverse = steepL hs := by
  have sp : ∀ l : List Int, minBy (fun x y : Int => decide (y < x)) 0 l ∈ 0 :: l ∧ ∀ y ∈ 0 :: l, y ≤ minBy (fun x y : Int => decide (y < x)) 0 l := fun l => by
    obtain ⟨h1, h2⟩ := minBy_spec ord_int.rev.tr ord_int.rev.nt ord_int.rev.ir l 0
    exact ⟨h1, fun y hy => by have := h2 y hy; simp at this; exact this⟩
  have mem : ∀ x, x ∈ (prs hs.reverse).map abf ↔ x ∈ (prs hs).map abf := fun x => by
    have e : ∀ p : Int × Int, abf p.swap = abf p := fun p => by
      unfold abf
      simp only [Prod.fst_swap, Prod.snd_swap]
      split <;> split <;> omega
    rw [prs_rev]
    simp [e]
  obtain ⟨a1, a2⟩ := sp ((prs hs).map abf)
  obtain ⟨b1, b2⟩ := sp ((prs hs.reverse).map abf)
  have m1 : ∀ x, x ∈ 0 :: (prs hs.reverse).map abf ↔ x ∈ 0 :: (prs hs).map abf := fun x => by rw [List.mem_cons, List.mem_cons, mem]
  have := a2 _ ((m1 _).mp b1)
  have := b2 _ ((m1 _).mpr a1)
  unfold steepL
  omega
theorem climbL_rev (hs : List Int) : climbL hs.reverse = dnL hs := by
  unfold climbL dnL
  rw [prs_rev, List.map_reverse, List.sum_reverse, List.map_map]
  congr 2
  funext p
  unfold upf dnf
  simp only [Function.comp, Prod.fst_swap, Prod.snd_swap]
  split <;> split <;> omega
theorem climb_tele : ∀ (a : Int) (t : List Int), climbL (a :: t) - dnL (a :: t) = (a :: t).getLast (by simp) - a
  | a, [] => by simp [climbL, dnL, prs]
  | a, b :: t => by
    have ih := climb_tele b t
    have e1 : climbL (a :: b :: t) = upf (a, b) + climbL (b :: t) := rfl
    have e2 : dnL (a :: b :: t) = dnf (a, b) + dnL (b :: t) := rfl
    have e3 : upf (a, b) - dnf (a, b) = b - a := by unfold upf dnf; split <;> simp <;> omega
    rw [e1, e2, List.getLast_cons (by simp)]
    omega
def htsL (L : List (List Int)) (W : List (Int × Int)) : List Int := W.map (hAt L)
theorem heights_ok {L : List (List Int)} {h w : Nat} (hL : Land L h w) {W : List (Int × Int)} (hW : WalkOk h w W) (s : Sto) : py_heights_of [encL L, .lst (W.map encC)] s = .ok (.lst ((htsL L W).map .int)) s := by
  have g := is_good_cells hL W hW.cells s
  rw [hW.near] at g
  have e : decide (W ≠ []) = true := by simpa using hW.ne
  rw [e] at g
  have c0 : co_heights_of_0 [.sh (encL L), .sh (.lst (W.map encC)), .no] s = .ok (.lst ((htsL L W).map .int)) [.sh (encL L), .sh (.lst (W.map encC)), .no] s := by
    unfold htsL
    rw [List.map_map]
    exact eComp_map W encC _ rfl rfl fun c hc => ⟨_, rfl, rfl, by simp [at_ok hL (hW.cells c hc)]⟩
  simp [py_heights_of, bo_heights_of, fnOf, startL, need_land_ok hL, g, c0]
theorem ordOk_ints (l : List Int) : ordOk (l.map .int) = true := ordOk_map D.int l (fun _ _ => dep_int _ _) alk_int
theorem low_of_ok {L : List (List Int)} {h w : Nat} (hL : Land L h w) {W : List (Int × Int)} (hW : WalkOk h w W) (s : Sto) : py_low_of [encL L, .lst (W.map encC)] s = .ok (.int (lowL (htsL L W))) s := by
  have e := heights_ok hL hW s
  have p : pMinD (.lst ((htsL L W).map .int)) = some (.int (lowL (htsL L W))) := by
    have hne : htsL L W ≠ [] := by simpa [htsL] using hW.ne
    cases q : htsL L W with
    | nil => exact absurd q hne
    | cons a t =>
      have ho := ordOk_ints (a :: t)
      rw [List.map_cons] at ho ⊢
      simp only [pMinD, ho, if_true, minD_map D.int _ lt_int, lowL]
  simp [py_low_of, bo_low_of, fnOf, startL, e, p]
theorem climb_of_ok {L : List (List Int)} {h w : Nat} (hL : Land L h w) {W : List (Int × Int)} (hW : WalkOk h w W) (s : Sto) : py_climb_of [encL L, .lst (W.map encC)] s = .ok (.int (climbL (htsL L W))) s := by
  have e := heights_ok hL hW s
  have c0 : co_climb_of_0 [.sh (encL L), .sh (.lst (W.map encC)), .sh (.lst ((htsL L W).map .int)), .no, .no] s = .ok (.lst (((prs (htsL L W)).map upf).map .int)) [.sh (encL L), .sh (.lst (W.map encC)), .sh (.lst ((htsL L W).map .int)), .no, .no] s := by
    rw [List.map_map]
    refine eComp_map (prs (htsL L W)) (fun p => .tup [.int p.1, .int p.2]) _ ?_ rfl fun p hp => ⟨_, setT_2 _ _ _ _ _, rfl, ?_⟩
    · rw [← paired_prs D.int]
      simp [cut_1]
    · simp [upf]
  simp [py_climb_of, bo_climb_of, fnOf, startL, e, c0, pSum, intsOf_map, climbL, -List.map_map]
theorem steepest_of_ok {L : List (List Int)} {h w : Nat} (hL : Land L h w) {W : List (Int × Int)} (hW : WalkOk h w W) (hl : W.length ≤ 1000) (s : Sto) : py_steepest_of [encL L, .lst (W.map encC)] s = .ok (.int (steepL (htsL L W))) s := by
  have e := heights_ok hL hW s
  have c0 : co_steepest_of_0 [.sh (encL L), .sh (.lst (W.map encC)), .sh (.lst ((htsL L W).map .int)), .no, .no] s = .ok (.lst (((prs (htsL L W)).map abf).map .int)) [.sh (encL L), .sh (.lst (W.map encC)), .sh (.lst ((htsL L W).map .int)), .no, .no] s := by
    rw [List.map_map]
    refine eComp_map (prs (htsL L W)) (fun p => .tup [.int p.1, .int p.2]) _ ?_ rfl fun p hp => ⟨_, setT_2 _ _ _ _ _, rfl, ?_⟩
    · rw [← paired_prs D.int]
      simp [cut_1]
    · simp [abf]
  have ho := ordOk_ints (0 :: (prs (htsL L W)).map abf)
  rw [List.map_cons] at ho
  have p : pMaxD (.lst (.int 0 :: ((prs (htsL L W)).map abf).map .int)) = some (.int (steepL (htsL L W))) := by
    simp only [pMaxD, ho, if_true, maxD_map D.int _ lt_int, steepL]
  have hz : 1 + ((prs (htsL L W)).map abf).length ≤ SZ := by
    simp [prs, htsL, SZ]
    omega
  obtain ⟨A, hA⟩ : ∃ A, A = ((prs (htsL L W)).map abf).map D.int := ⟨_, rfl⟩
  have hAl : A.length = ((prs (htsL L W)).map abf).length := by rw [hA, List.length_map]
  rw [← hA] at c0 p
  rw [← hAl] at hz
  have add : pAdd (.lst [.int 0]) (.lst A) = some (.lst (.int 0 :: A)) := by
    have : [D.int 0].length + A.length ≤ SZ := by simpa using hz
    simp [this]
    omega
  simp [py_steepest_of, bo_steepest_of, fnOf, startL, e, c0, add, p, -pAdd]
theorem loss_of_ok {L : List (List Int)} {h w : Nat} (hL : Land L h w) {W : List (Int × Int)} (hW : WalkOk h w W) (s : Sto) : py_loss_of [encL L, .lst (W.map encC)] s = .ok (.int (climbL (htsL L W).reverse)) s := by
  have e := climb_of_ok hL hW.rev s
  have eh : htsL L W.reverse = (htsL L W).reverse := by simp [htsL]
  have er : (W.map encC).reverse = W.reverse.map encC := by simp
  rw [eh] at e
  obtain ⟨P, hP⟩ : ∃ P, P = W.map encC := ⟨_, rfl⟩
  rw [← er, ← hP] at e
  rw [← hP]
  simp [py_loss_of, bo_loss_of, fnOf, startL, e]
end Pk
/-! Spf: cells in lists, sorted cells, dicts of cells. -/
namespace Pk
open PySem (Str)
theorem pIn_cells (c : Int × Int) (l : List (Int × Int)) : pIn (encC c) (.lst (l.map encC)) = some (.bool (decide (c ∈ l))) := by
  have h1 : D.dep 64 (encC c) = true := by simp [encC]
  have h2 : D.dep 64 (.lst (l.map encC)) = true := dep_cells 62 l
  have h3 : (l.map encC).any (fun z => z.eqv (encC c)) = decide (c ∈ l) := by
    rw [Bool.eq_iff_iff, List.any_eq_true, decide_eq_true_eq]
    constructor
    · rintro ⟨z, hz, e⟩
      obtain ⟨y, hy, rfl⟩ := List.mem_map.mp hz
      rw [eqv_encC] at e
      rw [← of_decide_eq_true e]
      exact hy
    · intro hc
      exact ⟨encC c, List.mem_map.mpr ⟨c, hc, rfl⟩, by rw [eqv_encC]; simp⟩
  simp only [pIn, h1, h2, Bool.and_self, if_true, h3]
theorem pNotIn_cells (c : Int × Int) (l : List (Int × Int)) : pNotIn (encC c) (.lst (l.map encC)) = some (.bool !(decide (c ∈ l))) := by
  have := pIn_cells c l
  simp only [pIn, pNotIn] at this ⊢
  split at this
  · rename_i h
    rw [if_pos h]
    simp only [Option.some.injEq, D.bool.injEq] at this
    rw [this]
  · cases this
theorem pNe_cells (l m : List (Int × Int)) : pNe (.lst (l.map encC)) (.lst (m.map encC)) = some (.bool !(decide (l = m))) := by
  have h1 : D.dep 64 (.lst (l.map encC)) = true := dep_cells 62 l
  have h2 : D.dep 64 (.lst (m.map encC)) = true := dep_cells 62 m
  simp only [pNe, h1, h2, Bool.and_self, if_true, eqv_lst_lst, eqvL_encC]
def leC (a b : Int × Int) : Bool := !ltC b a
theorem ltC_total {a b : Int × Int} (h : a ≠ b) : ltC a b = true ∨ ltC b a = true := by
  obtain ⟨a1, a2⟩ := a
  obtain ⟨b1, b2⟩ := b
  simp only [ne_eq, Prod.mk.injEq] at h
  simp only [ltC, Bool.or_eq_true, Bool.and_eq_true, decide_eq_true_eq]
  omega
theorem sortOk_cells (l : List (Int × Int)) : sortOk (l.map encC) = true := by
  have h1 := ordOk_map encC l (fun x _ => by simp [encC]) alk_encC
  have h2 : (l.map encC).all D.tupNe = true := by
    rw [List.all_eq_true]
    intro x hx
    obtain ⟨y, _, rfl⟩ := List.mem_map.mp hx
    rfl
  simp only [sortOk, h1, h2, Bool.true_or, Bool.and_self]
theorem pSorted_enc (l : List (Int × Int)) : pSorted (.lst (l.map encC)) = some (.lst ((l.mergeSort leC).map encC)) := by
  simp only [pSorted, sortOk_cells, if_true]
  rw [List.map_mergeSort (s := leD) (f := encC)]
  intro a _ b _
  simp [leC, leD]
theorem sorted_enc {l : List (Int × Int)} (hn : l.Nodup) : ∃ m : List (Int × Int), m.Pairwise (fun a b => ltC a b = true) ∧ (∀ x, x ∈ m ↔ x ∈ l) ∧ pSorted (.lst (l.map encC)) = some (.lst (m.map encC)) := by
  refine ⟨l.mergeSort leC, ?_, fun x => List.mem_mergeSort, pSorted_enc l⟩
  have hp := List.pairwise_mergeSort (le := leC) (fun a b c h1 h2 => by
      simp only [leC, Bool.not_eq_true', ltC, Bool.or_eq_false_iff, Bool.and_eq_false_iff, decide_eq_false_iff_not] at *
      omega) (fun a b => by
      simp only [leC, Bool.or_eq_true, Bool.not_eq_true', ltC, Bool.or_eq_false_iff, Bool.and_eq_false_iff, decide_eq_false_iff_not]
      omega) l
  have hd : (l.mergeSort leC).Nodup := (List.mergeSort_perm l leC).nodup_iff.mpr hn
  refine (hp.and hd).imp fun {a b} h => ?_
  obtain ⟨h1, h2⟩ := h
  rcases ltC_total h2 with h3 | h3
  · exact h3
  · simp [leC, h3] at h1
theorem sorted_same {l : List (Int × Int)} (hs : l.Pairwise fun a b => ltC a b = true) : pSorted (.lst (l.map encC)) = some (.lst (l.map encC)) := by
  obtain ⟨m, h1, h2, h3⟩ := sorted_enc (l := l) (hs.imp fun {a b} hab e => by subst e; rw [ord_C.ir] at hab; cases hab)
  rw [h3, sorted_eq h1 hs h2]
/-! dicts of cells -/
def kyC (c : Int × Int) : Ky := .t [c.1, c.2]
theorem kyC_inj {a b : Int × Int} : kyC a = kyC b ↔ a = b := by
  obtain ⟨a1, a2⟩ := a
  obtain ⟨b1, b2⟩ := b
  simp [kyC]
theorem keyOf_encC (c : Int × Int) : keyOf (encC c) = some (kyC c) := rfl
theorem pairsOf_cells (g : Int × Int → D) : ∀ l : List (Int × Int), pairsOf (l.map fun c => .tup [encC c, g c]) = some (l.map fun c => [c.1, c.2], l.map g)
  | [] => rfl
  | c :: l => by
    simp only [List.map_cons, encC, pairsOf]
    have := pairsOf_cells g l
    simp only [encC] at this
    rw [this]
    rfl
theorem pDict_cells (g : Int × Int → D) {l : List (Int × Int)} (hn : l.Nodup) : pDict (.lst (l.map fun c => .tup [encC c, g c])) = some (.dct (l.map kyC) (l.map g)) := by
  have h1 : (l.map fun c : Int × Int => [c.1, c.2]).Nodup := by
    refine List.pairwise_map.mpr (hn.imp fun {a b} hab e => hab ?_)
    obtain ⟨a1, a2⟩ := a
    obtain ⟨b1, b2⟩ := b
    simpa using e
  simp only [pDict, pairsOf_cells, Option.bind_some, lim_of h1, if_true, List.map_map]
  rfl
theorem dctGet_cells (g : Int × Int → D) {c : Int × Int} : ∀ {l : List (Int × Int)}, c ∈ l → dctGet (l.map kyC) (l.map g) (kyC c) = some (g c)
  | [], h => by cases h
  | a :: l, h => by
    by_cases e : a = c
    · subst e
      simp [dctGet]
    · have hc : c ∈ l := by rcases List.mem_cons.mp h with h | h; exact absurd h.symm e; exact h
      have := dctGet_cells g hc
      unfold dctGet at this ⊢
      have e' : ¬ (kyC a = kyC c) := fun z => e (kyC_inj.mp z)
      simp only [List.map_cons, List.zip_cons_cons, List.find?_cons, e', decide_false]
      exact this
theorem pIxD_cells (g : Int × Int → D) {l : List (Int × Int)} {c : Int × Int} (h : c ∈ l) : pIxD (.dct (l.map kyC) (l.map g)) (encC c) = some (g c) := by
  simp only [pIxD, keyOf_encC, Option.bind_some, dctGet_cells g h]
end Pk
/-! Spg: what is seen along one step. -/
namespace Pk
open PySem (Str)
def ptQ (a q : Int × Int) (k : Nat) : Int × Int := (a.1 + q.1 * k, a.2 + q.2 * k)
/-- by how much the cell at k is higher -/
def upQ (L : List (List Int)) (a q : Int × Int) (k : Nat) : Int := hAt L (ptQ a q k) - hAt L a
def visB (u : Nat → Int) (k : Nat) : Bool := (List.range k).all fun i => i == 0 || decide (u i * k < u k * i)
theorem visB_iff {u : Nat → Int} {k : Nat} : visB u k = true ↔ ∀ i, 1 ≤ i → i < k → u i * k < u k * i := by
  simp only [visB, List.all_eq_true, List.mem_range, Bool.or_eq_true, beq_iff_eq, decide_eq_true_eq]
  constructor
  · intro h i h1 h2
    rcases h i h2 with h3 | h3
    · omega
    · exact h3
  · intro h i h1
    by_cases h0 : i = 0
    · exact .inl h0
    · exact .inr (h i (by omega) h1)
def dueL (u : Nat → Int) (a q : Int × Int) (n : Nat) : List (Int × Int) := ((List.range n).filter fun k => decide (1 ≤ k) && visB u k).map (ptQ a q)
theorem mem_dueL {u : Nat → Int} {a q : Int × Int} {n : Nat} {x : Int × Int} : x ∈ dueL u a q n ↔ ∃ k, 1 ≤ k ∧ k < n ∧ visB u k = true ∧ x = ptQ a q k := by
  simp only [dueL, List.mem_map, List.mem_filter, List.mem_range, Bool.and_eq_true, decide_eq_true_eq]
  constructor
  · rintro ⟨k, ⟨h1, h2, h3⟩, rfl⟩; exact ⟨k, h2, h1, h3, rfl⟩
  · rintro ⟨k, h1, h2, h3, rfl⟩; exact ⟨k, ⟨h2, h1, h3⟩, rfl⟩
theorem dueL_succ (u : Nat → Int) (a q : Int × Int) {n : Nat} (hn : 1 ≤ n) : dueL u a q (n + 1) = dueL u a q n ++ if visB u n then [ptQ a q n] else [] := by
  simp only [dueL, List.range_succ, List.filter_append, List.map_append, List.filter_cons, List.filter_nil, hn, decide_true, Bool.true_and]
  cases visB u n <;> simp
/-- the steepest so far -/
def Steep (u : Nat → Int) (k : Nat) (d : D) : Prop := (k = 1 ∧ d = .none) ∨ ∃ j, 1 ≤ j ∧ j < k ∧ d = .tup [.int (u j), .int j] ∧ ∀ i, 1 ≤ i → i < k → u i * j ≤ u j * i
theorem steep_vis {u : Nat → Int} {k j : Nat} (hj : 1 ≤ j) (hk : j < k) (hm : ∀ i, 1 ≤ i → i < k → u i * j ≤ u j * i) : visB u k = decide (u j * k < u k * j) := by
  rw [Bool.eq_iff_iff, visB_iff, decide_eq_true_eq]
  constructor
  · intro h; exact h j hj hk
  · intro h i h1 h2
    have h3 := hm i h1 h2
    have hj' : (0 : Int) < j := by omega
    have hk' : (0 : Int) < k := by omega
    have hi' : (0 : Int) < i := by omega
    have a1 : u i * j * k ≤ u j * i * k := Int.mul_le_mul_of_nonneg_right h3 (by omega)
    have a2 : u j * k * i < u k * j * i := Int.mul_lt_mul_of_pos_right h hi'
    have a3 : u i * k * j < u k * i * j := by
      have e1 : u i * k * j = u i * j * k := by grind
      have e2 : u j * i * k = u j * k * i := by grind
      have e3 : u k * j * i = u k * i * j := by grind
      omega
    exact Int.lt_of_mul_lt_mul_right a3 (by omega)
theorem steep_next {u : Nat → Int} {k j : Nat} (hj : 1 ≤ j) (hk : j < k) (hm : ∀ i, 1 ≤ i → i < k → u i * j ≤ u j * i) (hv : ¬ u j * k < u k * j) : ∀ i, 1 ≤ i → i < k + 1 → u i * j ≤ u j * i := by
  intro i h1 h2
  by_cases e : i = k
  · subst e; omega
  · exact hm i h1 (by omega)
theorem vis_next {u : Nat → Int} {k : Nat} (hv : visB u k = true) : ∀ i, 1 ≤ i → i < k + 1 → u i * k ≤ u k * i := by
  intro i h1 h2
  by_cases e : i = k
  · subst e; omega
  · have := visB_iff.mp hv i h1 (by omega); omega
theorem ixC0 (c : Int × Int) : pIx (encC c) (.int 0) = some (.int c.1) := by simp [encC]
theorem ixC1 (c : Int × Int) : pIx (encC c) (.int 1) = some (.int c.2) := by simp [encC]
theorem ixT0 (x y : D) : pIx (.tup [x, y]) (.int 0) = some x := by simp
theorem ixT1 (x y : D) : pIx (.tup [x, y]) (.int 1) = some y := by simp
theorem along_loop {L : List (List Int)} {h w : Nat} (hL : Land L h w) {a q : Int × Int} (ha : InL h w a) (hq : ∀ k : Nat, 8 ≤ k → ¬ InL h w (ptQ a q k)) (hqs : -2 ≤ q.1 ∧ q.1 ≤ 2 ∧ -2 ≤ q.2 ∧ q.2 ≤ 2) (s : Sto) : ∀ (m N k : Nat) (st : D) (x7 : Sl), 1 ≤ k → k + m = 9 → m < N → Steep (upQ L a q) k st → (∀ i, 1 ≤ i → i < k → InL h w (ptQ a q i)) →
    ∃ n r', (∀ i, 1 ≤ i → i < n → InL h w (ptQ a q i)) ∧ ¬ InL h w (ptQ a q n) ∧ 1 ≤ n ∧ r'[3]? = some (.ow (.lst ((dueL (upQ L a q) a q n).map encC))) ∧
    whileL (e2 pIn (.v (eV 6)) (.v (eCall py_law_cells [(eV 0)] []))) (sSeq (sSet false 7 (e2 pSub (.v (eCall py_law_high [(eV 0), (eV 6)] [])) (.v (eCall py_law_high [(eV 0), (eV 1)] []))))
    (sSeq (sIf (eOr (e1 pIsN (.v (eV 5))) (e2 pGt (.v (e2 pMul (.v (eV 7)) (.v (e2 pIx (.v (eV 5)) (.v (eC (.int 1))))))) (.v (e2 pMul (.v (e2 pIx (.v (eV 5)) (.v (eC (.int 0))))) (.v (eV 4)))))) (sSeq (sAppend 3 (eV 6))
    (sSet false 5 (eTup [(eV 7), (eV 4)]))) sNil)
    (sSeq (sSet false 4 (e2 pAdd (.v (eV 4)) (.v (eC (.int 1)))))
    (sSet false 6 (eTup [(e2 pAdd (.v (e2 pIx (.v (eV 6)) (.v (eC (.int 0))))) (.v (e2 pIx (.v (eV 2)) (.v (eC (.int 0)))))), (e2 pAdd (.v (e2 pIx (.v (eV 6)) (.v (eC (.int 1))))) (.v (e2 pIx (.v (eV 2)) (.v (eC (.int 1))))))]))))) N
      [.sh (encL L), .sh (encC a), .sh (encC q), .ow (.lst ((dueL (upQ L a q) a q k).map encC)), .sh (.int k), .sh st, .sh (encC (ptQ a q k)), x7] s = .ok .nx r' s
  | m, 0, k, st, x7, _, _, hN, _, _ => by omega
  | m, N + 1, k, st, x7, hk, hm, hN, hs, hin => by
    have pin := pIn_cells (ptQ a q k) (cellsL h w)
    obtain ⟨Du, hDu⟩ : ∃ Du, Du = (dueL (upQ L a q) a q k).map encC := ⟨_, rfl⟩
    by_cases hc : InL h w (ptQ a q k)
    · have hk8 : k < 8 := Nat.lt_of_not_le fun z => hq k z hc
      have hcm : decide (ptQ a q k ∈ cellsL h w) = true := decide_eq_true (mem_cellsL.mpr hc)
      rw [hcm] at pin
      have v1 := law_high_ok hL hc s
      have v2 := law_high_ok hL ha s
      have b1 := hAt_le hL hc
      have b2 := hAt_le hL ha
      have hDl : Du.length ≤ k := by rw [hDu]; simp only [dueL, List.length_map]; exact Nat.le_trans (List.length_filter_le _ _) (by simp)
      have hz : Du.length < SZ := by simp only [SZ]; omega
      have en : encC (ptQ a q (k + 1)) = .tup [.int ((ptQ a q k).1 + q.1), .int ((ptQ a q k).2 + q.2)] := by
        simp only [encC, ptQ, D.tup.injEq, List.cons.injEq, D.int.injEq, and_true]
        constructor <;> · push_cast; grind
      have ek : ((k + 1 : Nat) : Int) = (k : Int) + 1 := by omega
      have hin' : ∀ i, 1 ≤ i → i < k + 1 → InL h w (ptQ a q i) := fun i h1 h2 => by
        by_cases e : i = k
        · subst e; exact hc
        · exact hin i h1 (by omega)
      have b5 : big (k : Int) = true := big_int (by omega)
      have ed := dueL_succ (upQ L a q) a q hk
      rcases hs with ⟨h1, rfl⟩ | ⟨j, j1, j2, rfl, j3⟩
      · have hv : visB (upQ L a q) k = true := by rw [visB_iff]; intro i i1 i2; omega
        obtain ⟨n, r', e1, e2, e3, e4, e5⟩ := along_loop hL ha hq hqs s (m - 1) N (k + 1) (.tup [.int (upQ L a q k), .int k]) (.sh (.int (upQ L a q k))) (by omega) (by omega) (by omega) (.inr ⟨k, hk, by omega, rfl, vis_next hv⟩) hin'
        refine ⟨n, r', e1, e2, e3, e4, ?_⟩
        rw [ed, if_pos hv, List.map_append, ← hDu, en, ek] at e5
        rw [← e5, ← hDu]
        simp [whileL, -pIn, law_cells_ok hL, pin, v1, v2, hz, upQ, -pIx, ixC0, ixC1, ixT0, ixT1]
      · have hvd := steep_vis j1 j2 j3
        have b4 : big (j : Int) = true := big_int (by omega)
        by_cases hv : upQ L a q j * k < upQ L a q k * j
        · have hv' : visB (upQ L a q) k = true := by rw [hvd]; exact decide_eq_true hv
          obtain ⟨n, r', e1, e2, e3, e4, e5⟩ := along_loop hL ha hq hqs s (m - 1) N (k + 1) (.tup [.int (upQ L a q k), .int k]) (.sh (.int (upQ L a q k))) (by omega) (by omega) (by omega) (.inr ⟨k, hk, by omega, rfl, vis_next hv'⟩) hin'
          refine ⟨n, r', e1, e2, e3, e4, ?_⟩
          rw [ed, if_pos hv', List.map_append, ← hDu, en, ek] at e5
          rw [← e5, ← hDu]
          have hv2 : upQ L a q j * k < (hAt L (ptQ a q k) - hAt L a) * j := hv
          simp [whileL, -pIn, law_cells_ok hL, pin, v1, v2, hz, b4, b5, hv2, -pIx, ixC0, ixC1, ixT0, ixT1]
          simp [upQ]
        · have hv' : visB (upQ L a q) k = false := by rw [hvd]; exact decide_eq_false hv
          obtain ⟨n, r', e1, e2, e3, e4, e5⟩ := along_loop hL ha hq hqs s (m - 1) N (k + 1) (.tup [.int (upQ L a q j), .int j]) (.sh (.int (upQ L a q k))) (by omega) (by omega) (by omega) (.inr ⟨j, j1, by omega, rfl, steep_next j1 j2 j3 hv⟩) hin'
          refine ⟨n, r', e1, e2, e3, e4, ?_⟩
          rw [ed, if_neg (by rw [hv']; simp), List.append_nil, ← hDu, en, ek] at e5
          rw [← e5, ← hDu]
          have hv2 : ¬ (upQ L a q j * k < (hAt L (ptQ a q k) - hAt L a) * j) := hv
          simp [whileL, -pIn, law_cells_ok hL, pin, v1, v2, hz, b4, b5, hv2, -pIx, ixC0, ixC1, ixT0, ixT1]
          simp [upQ]
    · have hcm : decide (ptQ a q k ∈ cellsL h w) = false := decide_eq_false fun z => hc (mem_cellsL.mp z)
      rw [hcm] at pin
      obtain ⟨r, hr⟩ : ∃ r : Env, r = [.sh (encL L), .sh (encC a), .sh (encC q), .ow (.lst ((dueL (upQ L a q) a q k).map encC)), .sh (.int k), .sh st, .sh (encC (ptQ a q k)), x7] := ⟨_, rfl⟩
      have : e2 pIn (.v (eV 6)) (.v (eCall py_law_cells [(eV 0)] [])) r s = .ok (.bool false) r s := by
        rw [hr]
        simp [-pIn, law_cells_ok hL, pin]
      rw [← hr]
      refine ⟨k, r, hin, hc, hk, by rw [hr]; rfl, ?_⟩
      simp only [whileL]
      rw [this]
      rfl
theorem law_along_ok {L : List (List Int)} {h w : Nat} (hL : Land L h w) {a q : Int × Int} (ha : InL h w a) (hq : ∀ k : Nat, 8 ≤ k → ¬ InL h w (ptQ a q k)) (hqs : -2 ≤ q.1 ∧ q.1 ≤ 2 ∧ -2 ≤ q.2 ∧ q.2 ≤ 2) (s : Sto) :
    ∃ n, (∀ i, 1 ≤ i → i < n → InL h w (ptQ a q i)) ∧ ¬ InL h w (ptQ a q n) ∧ 1 ≤ n ∧ py_law_along [encL L, encC a, encC q] s = .ok (.lst ((dueL (upQ L a q) a q n).map encC)) s := by
  obtain ⟨n, r', e1, e2, e3, e4, e5⟩ := along_loop hL ha hq hqs s 8 WN 1 .none .no (by omega) (by omega) (by decide) (.inl ⟨rfl, rfl⟩) (fun i h1 h2 => by omega)
  refine ⟨n, e1, e2, e3, ?_⟩
  refine fnOf_rt (r := r'.set 3 (.sh (.lst ((dueL (upQ L a q) a q n).map encC)))) rfl ?_
  have d1 : (dueL (upQ L a q) a q 1).map encC = [] := rfl
  have en : encC (ptQ a q 1) = .tup [.int (a.1 + q.1), .int (a.2 + q.2)] := by simp [encC, ptQ]
  rw [d1, en] at e5
  unfold bo_law_along sPar3
  simp only [sSeq, startL]
  simp only [wh_law_along_0, sWhile]
  simp [encC] at e5 ⊢
  rw [e5]
  simp [e4]
theorem sees_vis (L : List (List Int)) (a q : Int × Int) (hg : Int.gcd q.1 q.2 = 1) {k : Nat} (hk : 1 ≤ k) : seesB L a (ptQ a q k) = visB (upQ L a q) k := by
  have g1 : gG a (ptQ a q k) = k := by
    unfold gG ptQ
    have e1 : a.1 + q.1 * k - a.1 = q.1 * k := by omega
    have e2 : a.2 + q.2 * k - a.2 = q.2 * k := by omega
    simp only [e1, e2, Int.gcd_mul_right, hg]
    simp
  have hk0 : (k : Int) ≠ 0 := by omega
  have g2 : ∀ i : Nat, ptB a (ptQ a q k) i = ptQ a q (i + 1) := fun i => by
    unfold ptB
    rw [g1]
    unfold ptQ
    have e1 : a.1 + q.1 * k - a.1 = q.1 * k := by omega
    have e2 : a.2 + q.2 * k - a.2 = q.2 * k := by omega
    simp only [e1, e2, Int.mul_ediv_cancel _ hk0]
    push_cast
    rfl
  rw [Bool.eq_iff_iff, visB_iff]
  simp only [seesB, g1, List.all_eq_true, List.mem_range, lineB, g2, decide_eq_true_eq]
  constructor
  · intro h i h1 h2
    have := h (i - 1) (by omega)
    have e : i - 1 + 1 = i := by omega
    have e' : ((i - 1 : Nat) : Int) = (i : Int) - 1 := by omega
    have e'' : ((k - 1 : Nat) : Int) = (k : Int) - 1 := by omega
    rw [e, e', e''] at this
    unfold upQ
    grind
  · intro h i h1
    have := h (i + 1) (by omega) (by omega)
    have e'' : ((k - 1 : Nat) : Int) = (k : Int) - 1 := by omega
    rw [e'']
    unfold upQ at this
    push_cast at this
    grind
/-- once out, always out -/
theorem in_back {h w : Nat} {a q : Int × Int} (ha : InL h w a) {i n : Nat} (hi : i ≤ n) (hn : InL h w (ptQ a q n)) : InL h w (ptQ a q i) := by
  have key : ∀ (x y m : Int), 0 ≤ x → x < m → 0 ≤ x + y * n → x + y * n < m → 0 ≤ x + y * i ∧ x + y * i < m := by
    intro x y m h1 h2 h3 h4
    have hi' : (i : Int) ≤ n := by omega
    by_cases hy : 0 ≤ y
    · have a1 : 0 ≤ y * i := Int.mul_nonneg hy (by omega)
      have a2 : y * i ≤ y * n := Int.mul_le_mul_of_nonneg_left hi' hy
      omega
    · have a1 : y * i ≤ 0 := Int.mul_nonpos_of_nonpos_of_nonneg (by omega) (by omega)
      have a2 : y * n ≤ y * i := Int.mul_le_mul_of_nonpos_left (by omega) hi'
      omega
  obtain ⟨a1, a2, a3, a4⟩ := ha
  obtain ⟨n1, n2, n3, n4⟩ := hn
  simp only [ptQ] at n1 n2 n3 n4
  have k1 := key a.1 q.1 h a1 a2 n1 n2
  have k2 := key a.2 q.2 w a3 a4 n3 n4
  exact ⟨k1.1, k1.2, k2.1, k2.2⟩
theorem out_8 {h w : Nat} (hh : h ≤ 8) (hw : w ≤ 8) {a q : Int × Int} (ha : InL h w a) (hq : q.1 ≠ 0 ∨ q.2 ≠ 0) : ∀ k : Nat, 8 ≤ k → ¬ InL h w (ptQ a q k) := by
  intro k hk hc
  obtain ⟨a1, a2, a3, a4⟩ := ha
  obtain ⟨n1, n2, n3, n4⟩ := hc
  simp only [ptQ] at n1 n2 n3 n4
  have key : ∀ (x y m : Int), m ≤ 8 → 0 ≤ x → x < m → 0 ≤ x + y * k → x + y * k < m → y = 0 := by
    intro x y m h0 h1 h2 h3 h4
    by_cases h5 : y ≤ -1
    · have : y * k ≤ -1 * k := Int.mul_le_mul_of_nonneg_right h5 (by omega)
      omega
    · by_cases h6 : 1 ≤ y
      · have : 1 * (k : Int) ≤ y * k := Int.mul_le_mul_of_nonneg_right h6 (by omega)
        omega
      · omega
  have k1 := key a.1 q.1 h (by omega) a1 a2 n1 n2
  have k2 := key a.2 q.2 w (by omega) a3 a4 n3 n4
  rcases hq with h | h <;> contradiction
theorem ptQ_inj {a q : Int × Int} (hq : q.1 ≠ 0 ∨ q.2 ≠ 0) {i j : Nat} (h : ptQ a q i = ptQ a q j) : i = j := by
  simp only [ptQ, Prod.mk.injEq] at h
  obtain ⟨h1, h2⟩ := h
  rcases hq with hq | hq
  · have : q.1 * (i : Int) = q.1 * j := by omega
    have := Int.eq_of_mul_eq_mul_left hq this
    omega
  · have : q.2 * (i : Int) = q.2 * j := by omega
    have := Int.eq_of_mul_eq_mul_left hq this
    omega
theorem dueL_nodup (u : Nat → Int) {a q : Int × Int} (hq : q.1 ≠ 0 ∨ q.2 ≠ 0) (n : Nat) : (dueL u a q n).Nodup := by
  unfold dueL
  refine List.pairwise_map.mpr ((List.nodup_range.filter _).imp fun {i j} hij e => hij (ptQ_inj hq e))
end Pk
/-! Spr0: what hangs together, in plain words. -/
namespace Pk
open PySem (Str)
abbrev C := Int × Int
/-- one comes from a to b by steps of near, each to a cell of P -/
inductive Rch (near : C → C → Bool) (P : C → Prop) (a : C) : C → Prop
  | refl : Rch near P a a
  | step {x y : C} (h : Rch near P a x) (hn : near x y = true) (hp : P y) : Rch near P a y
section
variable {near : C → C → Bool} {P Q : C → Prop} {a b c : C}
theorem Rch.trans (h1 : Rch near P a b) (h2 : Rch near P b c) : Rch near P a c := by
  induction h2 with
  | refl => exact h1
  | step h hn hp ih => exact .step ih hn hp
theorem Rch.one (hn : near a b = true) (hp : P b) : Rch near P a b := .step .refl hn hp
theorem Rch.mono (hPQ : ∀ x, P x → Q x) (h : Rch near P a b) : Rch near Q a b := by
  induction h with
  | refl => exact .refl
  | step h hn hp ih => exact .step ih hn (hPQ _ hp)
theorem Rch.all (h : Rch near P a b) (ha : P a) : P b := by
  cases h with
  | refl => exact ha
  | step _ _ hp => exact hp
theorem Rch.symm (sy : ∀ x y, near x y = near y x) (ha : P a) (h : Rch near P a b) : Rch near P b a := by
  induction h with
  | refl => exact .refl
  | step h hn hp ih => exact Rch.trans (Rch.one (by rw [sy]; exact hn) (h.all ha)) ih
theorem Rch.congr (h : ∀ x, P x ↔ Q x) : Rch near P a b ↔ Rch near Q a b := ⟨Rch.mono fun x => (h x).mp, Rch.mono fun x => (h x).mpr⟩
/-- what is closed and holds a holds all of it -/
theorem Rch.closed {F : C → Prop} (ha : F a) (hc : ∀ x y, F x → near x y = true → P y → F y) (h : Rch near P a b) : F b := by
  induction h with
  | refl => exact ha
  | step _ hn hp ih => exact hc _ _ ih hn hp
end
theorem nearB_comm (a b : C) : nearB a b = nearB b a := by
  simp only [nearB]
  rw [decide_eq_decide]
  omega
/-! ### cells of a land that are good -/
abbrev GoodP (h w : Nat) (g : C → Bool) : C → Prop := fun y => InL h w y ∧ g y = true
abbrev RG (h w : Nat) (g : C → Bool) : C → C → Prop := Rch nearB (GoodP h w g)
theorem RG.inL {h w : Nat} {g : C → Bool} {a b : C} (r : RG h w g a b) (ha : InL h w a) : InL h w b := by
  cases r with
  | refl => exact ha
  | step _ _ hp => exact hp.1
/-- all cells to which one comes -/
noncomputable def sprd (h w : Nat) (g : C → Bool) (c : C) : List C := (cellsL h w).filter fun x => lim (RG h w g c x)
theorem mem_sprd {h w : Nat} {g : C → Bool} {c x : C} (hc : InL h w c) : x ∈ sprd h w g c ↔ RG h w g c x := by
  unfold sprd
  rw [List.mem_filter, mem_cellsL, lim_iff]
  exact ⟨fun h => h.2, fun h => ⟨h.inL hc, h⟩⟩
theorem sprd_sorted (h w : Nat) (g : C → Bool) (c : C) : (sprd h w g c).Pairwise fun a b => ltC a b = true := (cellsL_sorted h w).filter _
theorem sprd_nodup (h w : Nat) (g : C → Bool) (c : C) : (sprd h w g c).Nodup := (cellsL_nodup h w).filter _
theorem sprd_congr {h w : Nat} {g g' : C → Bool} {c c' : C} (e : ∀ x, RG h w g c x ↔ RG h w g' c' x) : sprd h w g c = sprd h w g' c' := by
  unfold sprd
  refine List.filter_congr fun x _ => ?_
  rw [Bool.eq_iff_iff, lim_iff, lim_iff]
  exact e x
/-- the grid hangs together -/
theorem grid_row {h w : Nat} {g : C → Bool} (hg : ∀ x, InL h w x → g x = true) {i j : Int} : ∀ (n : Nat) {k : Int}, InL h w (i, j) → InL h w (i, k) → (j - k).natAbs = n → RG h w g (i, j) (i, k)
  | 0, k, _, _, e => by have : j = k := by omega
                        subst this; exact .refl
  | n + 1, k, h1, h2, e => by
    obtain ⟨a1, a2, a3, a4⟩ := h1
    obtain ⟨b1, b2, b3, b4⟩ := h2
    simp only at a1 a2 a3 a4 b1 b2 b3 b4
    by_cases hjk : j < k
    · have hm : InL h w (i, k - 1) := ⟨a1, a2, by simp only; omega, by simp only; omega⟩
      refine .step (grid_row hg n (k := k - 1) ⟨a1, a2, a3, a4⟩ hm (by omega)) ?_ ⟨⟨b1, b2, b3, b4⟩, hg _ ⟨b1, b2, b3, b4⟩⟩
      simp [nearB]
      omega
    · have hm : InL h w (i, k + 1) := ⟨a1, a2, by simp only; omega, by simp only; omega⟩
      refine .step (grid_row hg n (k := k + 1) ⟨a1, a2, a3, a4⟩ hm (by omega)) ?_ ⟨⟨b1, b2, b3, b4⟩, hg _ ⟨b1, b2, b3, b4⟩⟩
      simp [nearB]
      omega
theorem grid_all {h w : Nat} {g : C → Bool} (hg : ∀ x, InL h w x → g x = true) : ∀ (n : Nat) {i j k l : Int}, InL h w (i, j) → InL h w (k, l) → (i - k).natAbs = n → RG h w g (i, j) (k, l)
  | 0, i, j, k, l, h1, h2, e => by
    have : i = k := by omega
    subst this
    exact grid_row hg _ h1 h2 rfl
  | n + 1, i, j, k, l, h1, h2, e => by
    obtain ⟨a1, a2, a3, a4⟩ := h1
    obtain ⟨b1, b2, b3, b4⟩ := h2
    simp only at a1 a2 a3 a4 b1 b2 b3 b4
    by_cases hik : i < k
    · refine .step (grid_all hg n (k := k - 1) (l := l) ⟨a1, a2, a3, a4⟩ ⟨by simp only; omega, by simp only; omega, b3, b4⟩ (by omega)) ?_ ⟨⟨b1, b2, b3, b4⟩, hg _ ⟨b1, b2, b3, b4⟩⟩
      simp [nearB]
      omega
    · refine .step (grid_all hg n (k := k + 1) (l := l) ⟨a1, a2, a3, a4⟩ ⟨by simp only; omega, by simp only; omega, b3, b4⟩ (by omega)) ?_ ⟨⟨b1, b2, b3, b4⟩, hg _ ⟨b1, b2, b3, b4⟩⟩
      simp [nearB]
      omega
theorem grid_conn {h w : Nat} {g : C → Bool} (hg : ∀ x, InL h w x → g x = true) {a b : C} (ha : InL h w a) (hb : InL h w b) : RG h w g a b := grid_all hg _ ha hb rfl
/-! ### parts: by classes -/
/-- the first cells of classes, in order -/
noncomputable def firstOf (cls : C → List C) (cs : List C) : List C := cs.filter fun c => lim (∀ d ∈ cs, ltC d c = true → c ∉ cls d)
structure Classes (cls : C → List C) (cs : List C) : Prop where
  self : ∀ c ∈ cs, c ∈ cls c
  sub : ∀ c ∈ cs, ∀ x ∈ cls c, x ∈ cs
  same : ∀ c ∈ cs, ∀ x ∈ cls c, cls x = cls c
/-- going through the cells: which are new, what was seen -/
theorem parts_turn {cls : C → List C} {cs pre post : List C} {c : C} (K : Classes cls cs) (hs : cs.Pairwise fun a b => ltC a b = true) (e : cs = pre ++ c :: post) :
    (∃ d ∈ pre, c ∈ cls d) ↔ c ∉ firstOf cls cs := by
  have hc : c ∈ cs := by rw [e]; simp
  unfold firstOf
  rw [List.mem_filter, lim_iff]
  rw [e] at hs
  have hs1 : ∀ d ∈ pre, ltC d c = true := fun d hd => (List.pairwise_append.mp hs).2.2 d hd c List.mem_cons_self
  constructor
  · rintro ⟨d, hd, hcd⟩ ⟨_, h2⟩
    exact h2 d (by rw [e]; exact List.mem_append_left _ hd) (hs1 d hd) hcd
  · intro h
    apply Classical.byContradiction
    intro hn
    refine h ⟨hc, fun d hd hlt hcd => hn ⟨d, ?_, hcd⟩⟩
    rw [e] at hd
    rcases List.mem_append.mp hd with h1 | h1
    · exact h1
    · exfalso
      rcases List.mem_cons.mp h1 with rfl | h1
      · rw [ord_C.ir] at hlt; cases hlt
      · have h2 := (List.pairwise_cons.mp (List.pairwise_append.mp hs).2.1).1 d h1
        have := ord_C.tr _ _ _ hlt h2
        rw [ord_C.ir] at this; cases this
/-- the part of which a cell is, by its first cell -/
theorem first_ex {cls : C → List C} {cs : List C} (K : Classes cls cs) (hs : cs.Pairwise fun a b => ltC a b = true) {c : C} (hc : c ∈ cs) : ∃ f ∈ firstOf cls cs, c ∈ cls f ∧ cls f = cls c := by
  have key : ∀ (n : Nat) (pre post : List C), pre.length ≤ n → ∀ c, cs = pre ++ c :: post → ∃ f ∈ firstOf cls cs, c ∈ cls f ∧ cls f = cls c := by
    intro n
    induction n with
    | zero =>
      intro pre post hl c e
      have hp : pre = [] := List.length_eq_zero_iff.mp (by omega)
      subst hp
      have hc : c ∈ cs := by rw [e]; simp
      refine ⟨c, ?_, K.self c hc, rfl⟩
      apply Classical.byContradiction
      intro hn
      obtain ⟨d, hd, _⟩ := (parts_turn K hs e).mpr hn
      cases hd
    | succ n ih =>
      intro pre post hl c e
      have hc : c ∈ cs := by rw [e]; simp
      by_cases hf : c ∈ firstOf cls cs
      · exact ⟨c, hf, K.self c hc, rfl⟩
      · obtain ⟨d, hd, hcd⟩ := (parts_turn K hs e).mpr hf
        obtain ⟨p1, p2, rfl⟩ := List.append_of_mem hd
        have hdc : d ∈ cs := by rw [e]; simp
        obtain ⟨f, h1, h2, h3⟩ := ih p1 (p2 ++ c :: post) (by simp at hl; omega) d (by rw [e]; simp)
        have e2 := K.same d hdc c hcd
        refine ⟨f, h1, ?_, h3.trans e2.symm⟩
        rw [h3]
        exact hcd
  obtain ⟨pre, post, e⟩ := List.append_of_mem hc
  exact key pre.length pre post (Nat.le_refl _) c e
theorem firstOf_sub {cls : C → List C} {cs : List C} {c : C} (h : c ∈ firstOf cls cs) : c ∈ cs := (List.mem_filter.mp h).1
/-- two first cells of one class are one -/
theorem first_uniq {cls : C → List C} {cs : List C} (K : Classes cls cs) {f d : C} (h1 : f ∈ firstOf cls cs) (h2 : d ∈ firstOf cls cs) (e : cls f = cls d) : f = d := by
  have a1 := lim_iff.mp (List.mem_filter.mp h1).2
  have a2 := lim_iff.mp (List.mem_filter.mp h2).2
  have s1 := K.self f (firstOf_sub h1)
  have s2 := K.self d (firstOf_sub h2)
  apply Classical.byContradiction
  intro ne
  rcases ltC_total ne with q | q
  · exact a2 f (firstOf_sub h1) q (by rw [e]; exact s2)
  · exact a1 d (firstOf_sub h2) q (by rw [← e]; exact s1)
/-- parts of the good cells -/
theorem rg_classes (h w : Nat) (g : C → Bool) : Classes (sprd h w g) ((cellsL h w).filter g) where
  self := fun c hc => (mem_sprd (mem_cellsL.mp (List.mem_filter.mp hc).1)).mpr .refl
  sub := fun c hc x hx => by
    have hc := List.mem_filter.mp hc
    have r := (mem_sprd (mem_cellsL.mp hc.1)).mp hx
    have := r.all (P := GoodP h w g) ⟨mem_cellsL.mp hc.1, hc.2⟩
    exact List.mem_filter.mpr ⟨mem_cellsL.mpr this.1, this.2⟩
  same := fun c hc x hx => by
    have hc := List.mem_filter.mp hc
    have hci := mem_cellsL.mp hc.1
    have r := (mem_sprd hci).mp hx
    have r' := r.symm nearB_comm ⟨hci, hc.2⟩
    exact sprd_congr fun y => ⟨fun q => r.trans q, fun q => r'.trans q⟩
noncomputable def partsL (h w : Nat) (g : C → Bool) : List (List C) := (firstOf (sprd h w g) ((cellsL h w).filter g)).map (sprd h w g)
theorem goodL_sorted (h w : Nat) (g : C → Bool) : ((cellsL h w).filter g).Pairwise fun a b => ltC a b = true := (cellsL_sorted h w).filter _
theorem mem_goodL {h w : Nat} {g : C → Bool} {c : C} : c ∈ (cellsL h w).filter g ↔ GoodP h w g c := by rw [List.mem_filter, mem_cellsL]
end Pk
/-! Spr1: dicts of cells; spread_of. -/
namespace Pk
open PySem (Str)
/-- a dict whose keys are cells -/
def dC (F : List C) (v : C → D) : D := .dct (F.map kyC) (F.map v)
def addK (F : List C) (c : C) : List C := if c ∈ F then F else F ++ [c]
def updC (v : C → D) (c : C) (d : D) : C → D := fun x => if x = c then d else v x
theorem mem_addK {F : List C} {c x : C} : x ∈ addK F c ↔ x ∈ F ∨ x = c := by
  unfold addK
  split
  · rename_i h
    exact ⟨.inl, fun q => q.elim id fun e => e ▸ h⟩
  · simp
theorem addK_nodup {F : List C} {c : C} (h : F.Nodup) : (addK F c).Nodup := by
  unfold addK
  split
  · exact h
  · rename_i n
    rw [List.nodup_append]
    exact ⟨h, by simp, fun a ha b hb e => n (by rw [List.mem_singleton.mp hb] at e; exact e ▸ ha)⟩
theorem isTK_C (F : List C) : (F.map kyC).all isTK = true := by
  rw [List.all_eq_true]
  intro k hk
  obtain ⟨c, _, rfl⟩ := List.mem_map.mp hk
  exact lim_of (by simp)
theorem isC8_C {h w : Nat} (hh : h ≤ 8) (hw : w ≤ 8) {F : List C} (hF : ∀ c ∈ F, InL h w c) : (F.map kyC).all isC8 = true := by
  rw [List.all_eq_true]
  intro k hk
  obtain ⟨c, hc, rfl⟩ := List.mem_map.mp hk
  obtain ⟨a, b, d, e⟩ := hF c hc
  exact lim_of ⟨by omega, by omega, by omega, by omega⟩
theorem ky_mem {c : C} {F : List C} : kyC c ∈ F.map kyC ↔ c ∈ F := by
  rw [List.mem_map]
  exact ⟨fun ⟨x, h, e⟩ => kyC_inj.mp e ▸ h, fun h => ⟨c, h, rfl⟩⟩
theorem pInD_C (c : C) (F : List C) (v : C → D) : pInD (encC c) (dC F v) = some (.bool (decide (c ∈ F))) := by
  unfold pInD dC
  simp only [isTK_C, if_true, keyOf_encC, Option.map_some]
  rw [decide_eq_decide.mpr ky_mem]
theorem pNotInD_C (c : C) (F : List C) (v : C → D) : pNotInD (encC c) (dC F v) = some (.bool !(decide (c ∈ F))) := by
  unfold pNotInD dC
  simp only [isTK_C, if_true, keyOf_encC, Option.map_some]
  rw [decide_eq_decide.mpr ky_mem]
theorem pLstD_C (F : List C) (v : C → D) : pLstD (dC F v) = some (.lst (F.map encC)) := by
  unfold pLstD dC
  simp only [isTK_C, if_true, List.map_map]
  rfl
theorem putKs_C (F : List C) (c : C) : putKs (F.map kyC) (kyC c) = (addK F c).map kyC := by
  unfold putKs addK
  by_cases h : c ∈ F
  · rw [if_pos (ky_mem.mpr h), if_pos h]
  · rw [if_neg (fun q => h (ky_mem.mp q)), if_neg h]; simp
theorem putDs_C (F : List C) (v : C → D) (c : C) (d : D) : putDs (F.map kyC) (F.map v) (kyC c) d = (addK F c).map (updC v c d) := by
  unfold putDs addK
  by_cases h : c ∈ F
  · rw [if_pos (ky_mem.mpr h), if_pos h]
    have : ∀ G : List C, (((G.map kyC).zip (G.map v)).map fun p => if p.1 = kyC c then d else p.2) = G.map (updC v c d) := by
      intro G
      induction G with
      | nil => rfl
      | cons x G ih =>
        simp only [List.map_cons, List.zip_cons_cons, ih]
        congr 1
        unfold updC
        by_cases e : x = c
        · simp [e]
        · have : ¬ kyC x = kyC c := fun q => e (kyC_inj.mp q)
          simp [e, this]
    exact this F
  · rw [if_neg (fun q => h (ky_mem.mp q)), if_neg h, List.map_append]
    congr 1
    · refine List.map_congr_left fun x hx => ?_
      unfold updC
      rw [if_neg (fun (e : x = c) => h (e ▸ hx))]
    · simp [updC]
theorem dctGet_C (F : List C) (v : C → D) (c : C) : dctGet (F.map kyC) (F.map v) (kyC c) = if c ∈ F then some (v c) else none := by
  induction F with
  | nil => simp [dctGet]
  | cons x F ih =>
    by_cases e : x = c
    · simp [dctGet, e]
    · have n : ¬ kyC x = kyC c := fun q => e (kyC_inj.mp q)
      have e' : ¬ c = x := fun q => e q.symm
      simp [dctGet, n, e'] at ih ⊢
      rw [ih]
theorem pIxD_C {F : List C} (v : C → D) {c : C} (h : c ∈ F) : pIxD (dC F v) (encC c) = some (v c) := by
  simp only [pIxD, dC, keyOf_encC, Option.bind_some, dctGet_C, if_pos h]
theorem pGetD_C (F : List C) (v : C → D) (c : C) (x : D) : pGetD (dC F v) (encC c) x = some (if c ∈ F then v c else x) := by
  simp only [pGetD, dC, isTK_C, if_true, keyOf_encC, Option.map_some, dctGet_C]
  by_cases h : c ∈ F <;> simp [h]
theorem dC_one (c : C) (d : D) : D.dct [kyC c] [d] = dC [c] (fun _ => d) := rfl
theorem pDict_C (v : C → D) {l : List C} (hn : l.Nodup) : pDict (.lst (l.map fun c => .tup [encC c, v c])) = some (dC l v) := pDict_cells v hn
/-- d[k] = x -/
theorem sPutD_C {i : Nat} {mk mv : M D} {r r1 r2 : Env} {s s1 s2 : Sto} {F G : List C} {u v : C → D} {c : C} {d : D} (h1 : mv r s = .ok d r1 s1) (h2 : r1[i]? = some (.ow (dC G u))) (h3 : mk r1 s1 = .ok (encC c) r2 s2) (h4 : r2[i]? = some (.ow (dC F v))) (hl : F.length ≤ 1000) :
    sPutD i mk mv r s = .ok .nx (r2.set i (.ow (dC (addK F c) (updC v c d)))) s2 := by
  unfold sPutD
  rw [h1, R.bind_ok, h2]
  simp only [dC] at h4 ⊢
  rw [h3, R.bind_ok, h4]
  have hz : lim ((F.map kyC).length < SZ) = true := lim_of (by rw [List.length_map]; simp only [SZ]; omega)
  simp only [keyOf_encC, hz, isTK_C, Bool.and_self, if_true, putKs_C, putDs_C]
/-- d[k], y = a, b -/
theorem sPut2_C {i j : Nat} {mk ma mb : M D} {r r1 r2 : Env} {s s1 s2 : Sto} {F G : List C} {u v : C → D} {c : C} {d e : D} (h1 : eL [ma, mb] r s = .ok [d, e] r1 s1) (h2 : r1[i]? = some (.ow (dC G u))) (h3 : mk r1 s1 = .ok (encC c) r2 s2) (h4 : r2[i]? = some (.ow (dC F v))) (hl : F.length ≤ 1000) :
    sPut2 i j mk ma mb r s = .ok .nx ((r2.set i (.ow (dC (addK F c) (updC v c d)))).set j (.sh e)) s2 := by
  unfold sPut2
  rw [h1, R.bind_ok]
  simp only [h2]
  simp only [dC] at h4 ⊢
  rw [h3, R.bind_ok, h4]
  have hz : lim ((F.map kyC).length < SZ) = true := lim_of (by rw [List.length_map]; simp only [SZ]; omega)
  simp only [keyOf_encC, hz, isTK_C, Bool.and_self, if_true, putKs_C, putDs_C]
/-- d.update(e) -/
theorem updKD_C : ∀ (G F : List C) (u v : C → D), ∃ (F' : List C) (v' : C → D), updKD (F.map kyC, F.map v) ((G.map kyC).zip (G.map u)) = (F'.map kyC, F'.map v') ∧ (∀ x, x ∈ F' ↔ x ∈ F ∨ x ∈ G) ∧ (F.Nodup → F'.Nodup)
  | [], F, u, v => ⟨F, v, rfl, fun x => by simp, id⟩
  | c :: G, F, u, v => by
    obtain ⟨F', v', e, m, nd⟩ := updKD_C G (addK F c) u (updC v c (u c))
    refine ⟨F', v', ?_, fun x => ?_, fun h => nd (addK_nodup h)⟩
    · simp only [List.map_cons, List.zip_cons_cons, updKD, putKs_C, putDs_C]
      exact e
    · rw [m, mem_addK, List.mem_cons]
      exact ⟨fun q => q.elim (fun q => q.elim .inl fun e => .inr (.inl e)) fun q => .inr (.inr q), fun q => q.elim (fun q => .inl (.inl q)) fun q => q.elim (fun q => .inl (.inr q)) .inr⟩
theorem sUpdD_C {i : Nat} {m : M D} {r r1 : Env} {s s1 : Sto} {h w : Nat} (hh : h ≤ 8) (hw : w ≤ 8) {F G G0 : List C} {u v v0 : C → D} (h2 : r[i]? = some (.ow (dC G0 v0))) (h1 : m r s = .ok (dC G u) r1 s1) (h4 : r1[i]? = some (.ow (dC F v))) (hF : F.length ≤ 1000) (hG : G.length ≤ 1000) (h8 : ∀ c ∈ G, InL h w c) :
    ∃ (F' : List C) (v' : C → D), sUpdD i m r s = .ok .nx (r1.set i (.ow (dC F' v'))) s1 ∧ (∀ x, x ∈ F' ↔ x ∈ F ∨ x ∈ G) ∧ (F.Nodup → F'.Nodup) := by
  obtain ⟨F', v', e, m', nd⟩ := updKD_C G F u v
  refine ⟨F', v', ?_, m', nd⟩
  unfold sUpdD
  rw [h2]
  simp only [dC] at h1 h4 ⊢
  rw [h1, R.bind_ok, h4]
  have hz : lim ((F.map kyC).length + (G.map kyC).length < SZ) = true := lim_of (by rw [List.length_map, List.length_map]; simp only [SZ]; omega)
  simp only [hz, isTK_C, isC8_C hh hw h8, Bool.and_self, if_true, e]
theorem few {h w : Nat} (hh : h ≤ 8) (hw : w ≤ 8) {F : List C} (hn : F.Nodup) (hF : ∀ c ∈ F, InL h w c) : F.length ≤ h * w ∧ F.length ≤ 64 := by
  have p : F.Perm ((cellsL h w).filter fun x => decide (x ∈ F)) := (List.perm_ext_iff_of_nodup hn ((cellsL_nodup h w).filter _)).mpr fun x => by
    simp only [List.mem_filter, decide_eq_true_eq]
    exact ⟨fun hx => ⟨mem_cellsL.mpr (hF x hx), hx⟩, fun hx => hx.2⟩
  have := List.length_filter_le (fun x => decide (x ∈ F)) (cellsL h w)
  rw [← p.length_eq, cellsL_len] at this
  have : h * w ≤ 8 * 8 := Nat.mul_le_mul hh hw
  omega
def Tr : C → D := fun _ => .bool true
theorem Tr_upd (c : C) : updC Tr c (.bool true) = Tr := by
  funext x
  simp [updC, Tr]
/-! ### spread_of -/
abbrev Es (L : List (List Int)) (c : C) (G F S : List C) (z : Sl) : Env := [.sh (encL L), .sh (encC c), .sh (dC G Tr), .ow (dC F Tr), .ow (.lst (S.map encC)), z]
theorem spread_for {L : List (List Int)} {c : C} {G : List C} (s : Sto) : ∀ (N F S : List C) (z : Sl), N.Nodup → F.length + N.length ≤ 900 → S.length + N.length ≤ 900 →
    ∃ new z', forL (.n 5) fo_spread_of_0 (N.map encC) (Es L c G F S z) s = .ok .nx (Es L c G (F ++ new) (S ++ new) z') s ∧ (∀ y ∈ new, y ∈ N ∧ y ∈ G ∧ y ∉ F) ∧ (∀ y ∈ N, y ∈ G → y ∈ F ∨ y ∈ new) ∧ new.Nodup
  | [], F, S, z, _, _, _ => ⟨[], z, by simp [forL], by simp, by simp, by simp⟩
  | y :: N, F, S, z, hn, hF, hS => by
    obtain ⟨n1, n2⟩ := List.nodup_cons.mp hn
    simp only [List.length_cons] at hF hS
    by_cases hg : y ∈ G ∧ y ∉ F
    · obtain ⟨new, z', e, p1, p2, p3⟩ := spread_for (L := L) (c := c) (G := G) s N (F ++ [y]) (S ++ [y]) (.sh (encC y)) n2 (by simp; omega) (by simp; omega)
      refine ⟨y :: new, z', ?_, ?_, ?_, ?_⟩
      · rw [List.map_cons, forL]
        simp only [setT_n]
        have b1 : fo_spread_of_0 (Es L c G F S (.sh (encC y))) s = .ok .nx (Es L c G (F ++ [y]) (S ++ [y]) (.sh (encC y))) s := by
          have q1 := sPutD_C (i := 3) (mk := eV 5) (mv := eC (.bool true)) (r := Es L c G F S (.sh (encC y))) (r1 := Es L c G F S (.sh (encC y))) (r2 := Es L c G F S (.sh (encC y))) (s := s) (s1 := s) (s2 := s) (F := F) (G := F) (u := Tr) (v := Tr) (c := y) (d := .bool true) rfl rfl (by simp [Es]) rfl (by omega)
          have ea : addK F y = F ++ [y] := by simp [addK, hg.2]
          rw [Tr_upd, ea] at q1
          simp only [Es, List.set_cons_succ, List.set_cons_zero] at q1
          have hz : S.length < SZ := by simp only [SZ]; omega
          simp [fo_spread_of_0, Es, pInD_C, pNotInD_C, hg.1, hg.2, q1, hz]
        show ((fo_spread_of_0 (Es L c G F S (.sh (encC y))) s).bind _) = _
        rw [b1, R.bind_ok]
        rw [show F ++ y :: new = F ++ [y] ++ new by simp, show S ++ y :: new = S ++ [y] ++ new by simp]
        exact e
      · intro x hx
        rcases List.mem_cons.mp hx with rfl | hx
        · exact ⟨List.mem_cons_self, hg⟩
        · obtain ⟨a1, a2, a3⟩ := p1 x hx
          exact ⟨List.mem_cons_of_mem _ a1, a2, fun q => a3 (List.mem_append_left _ q)⟩
      · intro x hx hxG
        rcases List.mem_cons.mp hx with rfl | hx
        · exact .inr List.mem_cons_self
        · rcases p2 x hx hxG with q | q
          · rcases List.mem_append.mp q with q | q
            · exact .inl q
            · exact .inr (by rw [List.mem_singleton.mp q]; exact List.mem_cons_self)
          · exact .inr (List.mem_cons_of_mem _ q)
      · exact List.nodup_cons.mpr ⟨fun q => n1 (p1 y q).1, p3⟩
    · obtain ⟨new, z', e, p1, p2, p3⟩ := spread_for (L := L) (c := c) (G := G) s N F S (.sh (encC y)) n2 (by omega) (by omega)
      refine ⟨new, z', ?_, fun x hx => ⟨List.mem_cons_of_mem _ (p1 x hx).1, (p1 x hx).2⟩, ?_, p3⟩
      · rw [List.map_cons, forL]
        simp only [setT_n]
        have b1 : fo_spread_of_0 (Es L c G F S (.sh (encC y))) s = .ok .nx (Es L c G F S (.sh (encC y))) s := by
          by_cases h1 : y ∈ G
          · have h2 : y ∈ F := Classical.byContradiction fun q => hg ⟨h1, q⟩
            simp [fo_spread_of_0, Es, pInD_C, pNotInD_C, h1, h2]
          · simp [fo_spread_of_0, Es, pInD_C, pNotInD_C, h1]
        show ((fo_spread_of_0 (Es L c G F S (.sh (encC y))) s).bind _) = _
        rw [b1, R.bind_ok]
        exact e
      · intro x hx hxG
        rcases List.mem_cons.mp hx with rfl | hx
        · exact .inl (Classical.byContradiction fun q => hg ⟨hxG, q⟩)
        · exact p2 x hx hxG
end Pk
/-! Spr2: spread_of, flat_of, land_at. -/
namespace Pk
open PySem (Str)
structure SpI (h w : Nat) (g : C → Bool) (c : C) (F S : List C) : Prop where
  nd : F.Nodup
  hc : c ∈ F
  rc : ∀ x ∈ F, RG h w g c x
  sub : ∀ x ∈ S, x ∈ F
  cl : ∀ x ∈ F, x ∉ S → ∀ y, nearB x y = true → GoodP h w g y → y ∈ F
  sl : S.length ≤ F.length
theorem besideL_nodup (h w : Nat) (c : C) : (besideL h w c).Nodup := (cellsL_nodup h w).filter _
theorem mem_besideL {h w : Nat} {c y : C} : y ∈ besideL h w c ↔ InL h w y ∧ nearB c y = true := by
  unfold besideL
  rw [List.mem_filter, mem_cellsL]
theorem besideL_len (h w : Nat) (c : C) : (besideL h w c).length ≤ 4 := by
  rw [← nb4_eq]
  exact Nat.le_trans (List.length_filter_le _ _) (by simp [nb4])
theorem pNe_nil_cells (S : List C) : pNe (.lst (S.map encC)) (.lst []) = some (.bool (!S.isEmpty)) := by
  have := pNe_cells S []
  simp only [List.map_nil] at this
  rw [this]
  cases S <;> simp
def spMu : Env → Nat
  | [_, _, _, .ow (.dct ks _), .ow (.lst l), _] => 2 * (200 - ks.length) + l.length
  | _ => 0
theorem spread_turn {L : List (List Int)} {h w : Nat} (hL : Land L h w) {g : C → Bool} {c : C} (hc : InL h w c) (s : Sto) (F S : List C) (x : C) (z : Sl) (I : SpI h w g c F (S ++ [x])) :
    ∃ F' S' z', sFor (iOf (eCall py_beside_of [(eV 0), (ePop 4)] [])) (.n 5) fo_spread_of_0 (Es L c ((cellsL h w).filter g) F (S ++ [x]) z) s = .ok .nx (Es L c ((cellsL h w).filter g) F' S' z') s ∧ SpI h w g c F' S' ∧ 2 * (200 - F'.length) + S'.length < 2 * (200 - F.length) + (S ++ [x]).length := by
  have hF64 := few hL.hr.2 hL.hw.2 I.nd fun y hy => (I.rc y hy).inL hc
  have hbl := besideL_len h w x
  have hsl := I.sl
  simp only [List.length_append, List.length_singleton] at hsl
  obtain ⟨new, z', e, p1, p2, p3⟩ := spread_for (L := L) (c := c) (G := (cellsL h w).filter g) s (besideL h w x) F S z (besideL_nodup h w x) (by omega) (by omega)
  have hxF : x ∈ F := I.sub x (by simp)
  have nd' : (F ++ new).Nodup := by
    rw [List.nodup_append]
    exact ⟨I.nd, p3, fun a ha b hb e => (p1 b hb).2.2 (e ▸ ha)⟩
  refine ⟨F ++ new, S ++ new, z', ?_, ⟨nd', List.mem_append_left _ I.hc, fun y hy => ?_, fun y hy => ?_, fun y hy hn u hu hg => ?_, by simp; omega⟩, ?_⟩
  · rw [← e]
    have dl : ((S ++ [x]).map encC).dropLast = S.map encC := by simp
    have gl : ((S ++ [x]).map encC).getLast? = some (encC x) := by simp
    simp [Es, dl, gl, beside_of_ok hL]
  · rcases List.mem_append.mp hy with q | q
    · exact I.rc y q
    · obtain ⟨a1, a2, _⟩ := p1 y q
      exact .step (I.rc x hxF) (mem_besideL.mp a1).2 (mem_goodL.mp a2)
  · rcases List.mem_append.mp hy with q | q
    · exact List.mem_append_left _ (I.sub y (List.mem_append_left _ q))
    · exact List.mem_append_right _ q
  · by_cases hyx : y = x
    · subst hyx
      rcases p2 u (mem_besideL.mpr ⟨hg.1, hu⟩) (mem_goodL.mpr hg) with q | q
      · exact List.mem_append_left _ q
      · exact List.mem_append_right _ q
    · rcases List.mem_append.mp hy with q | q
      · refine List.mem_append_left _ (I.cl y q (fun r => ?_) u hu hg)
        rcases List.mem_append.mp r with r | r
        · exact hn (List.mem_append_left _ r)
        · exact hyx (List.mem_singleton.mp r)
      · exact absurd (List.mem_append_right _ q) hn
  · simp only [List.length_append, List.length_singleton]
    have := few hL.hr.2 hL.hw.2 nd' (h := h) (w := w) fun y hy => by
      rcases List.mem_append.mp hy with q | q
      · exact (I.rc y q).inL hc
      · exact (mem_besideL.mp (p1 y q).1).1
    simp only [List.length_append] at this
    omega
theorem spread_of_ok {L : List (List Int)} {h w : Nat} (hL : Land L h w) (g : C → Bool) {c : C} (hc : InL h w c) (s : Sto) : py_spread_of [encL L, encC c, dC ((cellsL h w).filter g) Tr] s = .ok (.lst ((sprd h w g c).map encC)) s := by
  obtain ⟨r', s', e1, rfl, F, z, rfl, I⟩ := sWhile_inv (c := e2 pNe (.b 4) (.v (eLst []))) (b := sFor (iOf (eCall py_beside_of [(eV 0), (ePop 4)] [])) (.n 5) fo_spread_of_0) (r := Es L c ((cellsL h w).filter g) [c] [c] .no) (s := s)
    (fun r s1 => s1 = s ∧ ∃ F S z, r = Es L c ((cellsL h w).filter g) F S z ∧ SpI h w g c F S) (fun r _ => spMu r) (fun r s1 => s1 = s ∧ ∃ F z, r = Es L c ((cellsL h w).filter g) F [] z ∧ SpI h w g c F [])
    ⟨rfl, [c], [c], .no, rfl, by simp, by simp, fun x hx => by rw [List.mem_singleton.mp hx]; exact .refl, fun x hx => hx, fun x hx hn => absurd hx hn, by simp⟩ (by simp [spMu, Es, dC]) (fun r s1 hI => by
      obtain ⟨rfl, F, S, z, rfl, I⟩ := hI
      rcases List.eq_nil_or_concat S with rfl | ⟨S', x, rfl⟩
      · refine .inr ⟨_, _, ?_, rfl, F, z, rfl, I⟩
        have := pNe_nil_cells []
        simp only [List.map_nil] at this
        simp [Es, -pNe, this]
      · left
        rw [List.concat_eq_append] at I ⊢
        obtain ⟨F', S'', z', e, I', hm⟩ := spread_turn (L := L) hL hc s1 F S' x z I
        refine ⟨_, _, _, _, ?_, e, ⟨rfl, F', S'', z', rfl, I'⟩, ?_⟩
        · have := pNe_nil_cells (S' ++ [x])
          simp only [Es]
          simp [-pNe, this, -List.map_append]
        · simp only [spMu, Es, dC, List.length_map]
          exact hm)
  have eq : sprd h w g c = F.mergeSort leC := by
    obtain ⟨m, m1, m2, m3⟩ := sorted_enc I.nd
    have e3 := pSorted_enc F
    rw [m3] at e3
    have hm : m = F.mergeSort leC := by
      simp only [Option.some.injEq, D.lst.injEq] at e3
      have inj : ∀ l k : List C, l.map encC = k.map encC → l = k := by
        intro l
        induction l with
        | nil => intro k h; cases k with | nil => rfl | cons _ _ => simp at h
        | cons a l ih =>
          intro k h
          cases k with
          | nil => simp at h
          | cons b k =>
            simp only [List.map_cons, List.cons.injEq] at h
            have : a = b := by
              have := h.1
              simp only [encC, D.tup.injEq, List.cons.injEq, D.int.injEq, and_true] at this
              exact Prod.ext this.1 this.2
            rw [this, ih k h.2]
      exact inj _ _ e3
    rw [← hm]
    refine sorted_eq (sprd_sorted h w g c) m1 fun x => ?_
    rw [mem_sprd hc, m2]
    exact ⟨fun r => r.closed I.hc fun a b ha hn hp => I.cl a ha (by simp) b hn hp, I.rc x⟩
  rw [eq]
  refine fnOf_rt (r := Es L c ((cellsL h w).filter g) F [] z) rfl ?_
  unfold bo_spread_of
  rw [sSeq_nx' (r1 := Es L c ((cellsL h w).filter g) [c] [c] .no) (s1 := s') (by simp [startL, eDct1, keyOf_encC, Es, dC_one]; rfl)]
  have e1' : wh_spread_of_0 (Es L c ((cellsL h w).filter g) [c] [c] .no) s' = .ok .nx (Es L c ((cellsL h w).filter g) F [] z) s' := e1
  rw [sSeq_nx' e1']
  simp [Es, pLstD_C, pSorted_enc]
theorem land_at_ok {L : List (List Int)} {h w : Nat} (hL : Land L h w) (v : Int) (s : Sto) : py_land_at [encL L, .int v] s = .ok (dC ((cellsL h w).filter fun x => decide (v ≤ hAt L x)) Tr) s := by
  have c0 : co_land_at_0 [.sh (encL L), .sh (.int v), .no] s = .ok (.lst (((cellsL h w).filter fun x => decide (v ≤ hAt L x)).map fun c => .tup [encC c, Tr c])) [.sh (encL L), .sh (.int v), .no] s :=
    eComp_pure (cellsL h w) encC (fun x => decide (v ≤ hAt L x)) (fun c => .tup [encC c, Tr c]) (by simp [cells_of_ok hL]) rfl fun x hx => ⟨[.sh (encL L), .sh (.int v), .sh (encC x)], rfl, rfl, by
      have := at_ok hL (mem_cellsL.mp hx) s
      simp [this], fun _ => by simp [Tr]⟩
  simp [py_land_at, bo_land_at, fnOf, startL, c0, pDict_C Tr ((cellsL_nodup h w).filter _)]
def sameH (L : List (List Int)) (c : C) : C → Bool := fun x => decide (hAt L x = hAt L c)
theorem flat_of_ok {L : List (List Int)} {h w : Nat} (hL : Land L h w) {c : C} (hc : InL h w c) (s : Sto) : py_flat_of [encL L, encC c] s = .ok (.lst ((sprd h w (sameH L c) c).map encC)) s := by
  have c0 : co_flat_of_0 [.sh (encL L), .sh (encC c), .no] s = .ok (.lst (((cellsL h w).filter (sameH L c)).map fun c => .tup [encC c, Tr c])) [.sh (encL L), .sh (encC c), .no] s :=
    eComp_pure (cellsL h w) encC (sameH L c) (fun c => .tup [encC c, Tr c]) (by simp [cells_of_ok hL]) rfl fun x hx => ⟨[.sh (encL L), .sh (encC c), .sh (encC x)], rfl, rfl, by
      have v1 := at_ok hL (mem_cellsL.mp hx) s
      have v2 := at_ok hL hc s
      simp [v1, v2, sameH]; rfl, fun _ => by simp [Tr]⟩
  simp [py_flat_of, bo_flat_of, fnOf, startL, c0, pDict_C Tr ((cellsL_nodup h w).filter _), spread_of_ok hL (sameH L c) hc]
theorem flat_ok {L : List (List Int)} {h w : Nat} (hL : Land L h w) {c : C} (hc : InL h w c) (s : Sto) : py_flat [encL L, encC c] s = .ok (.lst ((sprd h w (sameH L c) c).map encC)) s := by
  simp [py_flat, bo_flat, fnOf, startL, need_both_ok hL hc, flat_of_ok hL hc]
end Pk
/-! Spt0: the cheapest walks, in plain words: costs are pairs of numbers; what is least so far goes round. -/
namespace Pk
abbrev Pc := Int × Int
def ltQ (x y : Pc) : Prop := x.1 < y.1 ∨ (x.1 = y.1 ∧ x.2 < y.2)
def leQ (x y : Pc) : Prop := ¬ ltQ y x
def addP (x i : Pc) : Pc := (x.1 + i.1, x.2 + i.2)
instance (x y : Pc) : Decidable (ltQ x y) := by unfold ltQ; exact inferInstance
instance (x y : Pc) : Decidable (leQ x y) := by unfold leQ; exact inferInstance
theorem leQ.refl (x : Pc) : leQ x x := by simp only [leQ, ltQ]; omega
theorem leQ.trans {x y u : Pc} (h1 : leQ x y) (h2 : leQ y u) : leQ x u := by simp only [leQ, ltQ] at *; omega
theorem leQ.antisymm {x y : Pc} (h1 : leQ x y) (h2 : leQ y x) : x = y := by simp only [leQ, ltQ] at *; exact Prod.ext (by omega) (by omega)
theorem leQ.of_lt {x y : Pc} (h : ltQ x y) : leQ x y := by simp only [leQ, ltQ] at *; omega
theorem leQ_add {x i : Pc} (h1 : 0 ≤ i.1) (h2 : 0 ≤ i.2) : leQ x (addP x i) := by simp only [leQ, ltQ, addP]; omega
theorem leQ_mono {x y i : Pc} (h : leQ x y) : leQ (addP x i) (addP y i) := by simp only [leQ, ltQ, addP] at *; omega
/-- the steps and what each costs -/
structure Edges (E : C → C → Option Pc) (cs : List C) : Prop where
  nn : ∀ o c i, E o c = some i → 0 ≤ i.1 ∧ i.1 ≤ 999 ∧ 0 ≤ i.2 ∧ i.2 ≤ 1
  inn : ∀ o c i, E o c = some i → o ∈ cs
  ne : ∀ o c i, E o c = some i → o ≠ c
/-- a walk to g, what it costs -/
inductive Wk (E : C → C → Option Pc) (g : C) (z : Pc) : C → Pc → Prop
  | nil : Wk E g z g z
  | cons {o c : C} {x i : Pc} (he : E o c = some i) (h : Wk E g z c x) : Wk E g z o (addP x i)
/-- .. with no cell twice, and whose cells are known to cost no more -/
inductive SW (E : C → C → Option Pc) (g : C) (z : Pc) (F : List C) (v : C → Pc) : C → List C → Pc → Prop
  | nil (hg : g ∈ F) (hz : leQ (v g) z) : SW E g z F v g [g] z
  | cons {o c : C} {l : List C} {x i : Pc} (he : E o c = some i) (h : SW E g z F v c l x) (hn : o ∉ l) (hF : o ∈ F) (hv : leQ (v o) (addP x i)) : SW E g z F v o (o :: l) (addP x i)
section
variable {E : C → C → Option Pc} {g : C} {z : Pc} {F F' cs : List C} {v v' : C → Pc} {c : C} {l : List C} {x : Pc}
theorem SW.mono (hF : ∀ c ∈ F, c ∈ F') (hv : ∀ c ∈ F, leQ (v' c) (v c)) (h : SW E g z F v c l x) : SW E g z F' v' c l x := by
  induction h with
  | nil hg hz => exact .nil (hF _ hg) ((hv _ hg).trans hz)
  | cons he h hn hF1 hv1 ih => exact .cons he ih hn (hF _ hF1) ((hv _ hF1).trans hv1)
theorem SW.wk (h : SW E g z F v c l x) : Wk E g z c x := by
  induction h with
  | nil hg hz => exact .nil
  | cons he h hn hF1 hv1 ih => exact .cons he ih
theorem SW.gz (h : SW E g z F v c l x) : g ∈ F ∧ leQ (v g) z := by
  induction h with
  | nil hg hz => exact ⟨hg, hz⟩
  | cons he h hn hF1 hv1 ih => exact ih
theorem SW.le (hE : Edges E cs) (h : SW E g z F v c l x) : ∀ o ∈ l, o ∈ F ∧ leQ (v o) x := by
  induction h with
  | nil hg hz => intro o ho; rw [List.mem_singleton.mp ho]; exact ⟨hg, hz⟩
  | cons he h hn hF1 hv1 ih =>
    intro o' ho
    rcases List.mem_cons.mp ho with rfl | ho
    · exact ⟨hF1, hv1⟩
    · obtain ⟨a1, a2⟩ := ih o' ho
      obtain ⟨n1, n2, n3, n4⟩ := hE.nn _ _ _ he
      exact ⟨a1, a2.trans (leQ_add n1 n3)⟩
theorem SW.nodup (h : SW E g z F v c l x) : l.Nodup := by
  induction h with
  | nil hg hz => simp
  | cons he h hn hF1 hv1 ih => exact List.nodup_cons.mpr ⟨hn, ih⟩
theorem SW.bd (hE : Edges E cs) (h : SW E g z F v c l x) : 1 ≤ l.length ∧ z.1 ≤ x.1 ∧ z.2 ≤ x.2 ∧ x.1 ≤ z.1 + 999 * ((l.length : Int) - 1) ∧ x.2 ≤ z.2 + ((l.length : Int) - 1) := by
  induction h with
  | nil hg hz => simp
  | cons he h hn hF1 hv1 ih =>
    obtain ⟨n1, n2, n3, n4⟩ := hE.nn _ _ _ he
    simp only [List.length_cons, addP]
    omega
end
def wtP (F : List C) (v : C → Pc) (c : C) : Nat := if c ∈ F then ((v c).1 * 64 + (v c).2).toNat else 4091968
def muP (cs F : List C) (v : C → Pc) : Nat := (cs.map (wtP F v)).sum
theorem sumP_le {α : Type} {f g : α → Nat} : ∀ {cs : List α}, (∀ x ∈ cs, f x ≤ g x) → (cs.map f).sum ≤ (cs.map g).sum
  | [], _ => by simp
  | x :: cs, h => by
    have := sumP_le (cs := cs) fun y hy => h y (List.mem_cons_of_mem _ hy)
    have := h x List.mem_cons_self
    simp only [List.map_cons, List.sum_cons]
    omega
theorem sumP_lt {α : Type} {f g : α → Nat} : ∀ {cs : List α} {o : α}, (∀ x ∈ cs, f x ≤ g x) → o ∈ cs → f o < g o → (cs.map f).sum < (cs.map g).sum
  | x :: cs, o, h, ho, hl => by
    have h1 := sumP_le (cs := cs) fun y hy => h y (List.mem_cons_of_mem _ hy)
    have h2 := h x List.mem_cons_self
    simp only [List.map_cons, List.sum_cons]
    rcases List.mem_cons.mp ho with rfl | ho
    · omega
    · have := sumP_lt (cs := cs) (fun y hy => h y (List.mem_cons_of_mem _ hy)) ho hl
      omega
/-- the state of the search: pend: the cells whose steps are still to be looked at -/
structure PI (E : C → C → Option Pc) (g : C) (z : Pc) (cs F : List C) (v : C → Pc) (pend : C → Prop) : Prop where
  nd : F.Nodup
  sub : ∀ c ∈ F, c ∈ cs
  hg : g ∈ F
  sw : ∀ c ∈ F, ∃ l, SW E g z F v c l (v c)
  rel : ∀ c ∈ F, ¬ pend c → ∀ o i, E o c = some i → o ∈ F ∧ leQ (v o) (addP (v c) i)
def updP (v : C → Pc) (c : C) (d : Pc) : C → Pc := fun x => if x = c then d else v x
theorem nodup_len {l cs : List C} (hn : l.Nodup) (hs : ∀ c ∈ l, c ∈ cs) (hc : cs.Nodup) : l.length ≤ cs.length := by
  have p : l.Perm (cs.filter fun x => decide (x ∈ l)) := (List.perm_ext_iff_of_nodup hn (hc.filter _)).mpr fun x => by
    simp only [List.mem_filter, decide_eq_true_eq]
    exact ⟨fun hx => ⟨hs x hx, hx⟩, fun hx => hx.2⟩
  rw [p.length_eq]
  exact List.length_filter_le _ _
section
variable {E : C → C → Option Pc} {g : C} {z : Pc} {F cs : List C} {v : C → Pc} {pend : C → Prop} {c o : C} {i : Pc}
theorem PI.bd (I : PI E g z cs F v pend) (hE : Edges E cs) (hcs : cs.Nodup) (hl : cs.length ≤ 64) (hz : 0 ≤ z.1 ∧ z.1 ≤ 999 ∧ z.2 = 0) (hc : c ∈ F) : 0 ≤ (v c).1 ∧ (v c).1 ≤ 63936 ∧ 0 ≤ (v c).2 ∧ (v c).2 ≤ 63 := by
  obtain ⟨l, h⟩ := I.sw c hc
  obtain ⟨b1, b2, b3, b4, b5⟩ := h.bd hE
  have := nodup_len h.nodup (fun y hy => I.sub y (h.le hE y hy).1) hcs
  omega
theorem PI.pmono {pend' : C → Prop} (I : PI E g z cs F v pend) (h : ∀ x ∈ F, pend x → pend' x) : PI E g z cs F v pend' :=
  ⟨I.nd, I.sub, I.hg, I.sw, fun c hc hp => I.rel c hc fun q => hp (h c hc q)⟩
theorem PI.relax (I : PI E g z cs F v pend) (hE : Edges E cs) (hc : c ∈ F) (he : E o c = some i) (h : o ∉ F ∨ ltQ (addP (v c) i) (v o)) :
    PI E g z cs (addK F o) (updP v o (addP (v c) i)) (fun x => pend x ∨ x = o) := by
  have hoc : o ≠ c := hE.ne _ _ _ he
  have dn : ∀ x ∈ F, leQ (updP v o (addP (v c) i) x) (v x) := fun x hx => by
    unfold updP
    split
    · rename_i e
      subst e
      rcases h with h | h
      · exact absurd hx h
      · exact .of_lt h
    · exact .refl _
  have up : ∀ x ∈ F, x ∈ addK F o := fun x hx => mem_addK.mpr (.inl hx)
  have vo : updP v o (addP (v c) i) o = addP (v c) i := by simp [updP]
  refine ⟨addK_nodup I.nd, fun x hx => ?_, up _ I.hg, fun x hx => ?_, fun x hx hp o' i' he' => ?_⟩
  · rcases mem_addK.mp hx with q | q
    · exact I.sub x q
    · rw [q]; exact hE.inn _ _ _ he
  · by_cases e : x = o
    · subst e
      rw [vo]
      obtain ⟨l, hl⟩ := I.sw c hc
      refine ⟨x :: l, .cons he (hl.mono up dn) (fun q => ?_) (mem_addK.mpr (.inr rfl)) (by rw [vo]; exact .refl _)⟩
      obtain ⟨q1, q2⟩ := hl.le hE x q
      rcases h with h | h
      · exact h q1
      · obtain ⟨n1, n2, n3, n4⟩ := hE.nn _ _ _ he
        exact q2.trans (leQ_add n1 n3) h
    · rcases mem_addK.mp hx with q | q
      · obtain ⟨l, hl⟩ := I.sw x q
        have : updP v o (addP (v c) i) x = v x := by simp [updP, e]
        rw [this]
        exact ⟨l, hl.mono up dn⟩
      · exact absurd q e
  · have hxo : x ≠ o := fun e => hp (.inr e)
    have hxF : x ∈ F := (mem_addK.mp hx).resolve_right hxo
    obtain ⟨r1, r2⟩ := I.rel x hxF (fun q => hp (.inl q)) o' i' he'
    have : updP v o (addP (v c) i) x = v x := by simp [updP, hxo]
    rw [this]
    exact ⟨up _ r1, (dn _ r1).trans r2⟩
theorem PI.relax_mu (I : PI E g z cs F v pend) (hE : Edges E cs) (hcs : cs.Nodup) (hl : cs.length ≤ 64) (hz : 0 ≤ z.1 ∧ z.1 ≤ 999 ∧ z.2 = 0) (hc : c ∈ F) (he : E o c = some i) (h : o ∉ F ∨ ltQ (addP (v c) i) (v o)) :
    muP cs (addK F o) (updP v o (addP (v c) i)) < muP cs F v := by
  have I' := I.relax hE hc he h
  refine sumP_lt (o := o) (fun x hx => ?_) (hE.inn _ _ _ he) ?_
  · unfold wtP
    by_cases e : x = o
    · subst e
      have b := I'.bd hE hcs hl hz (c := x) (mem_addK.mpr (.inr rfl))
      simp only [mem_addK, or_true, if_true]
      simp only [updP, if_true] at b ⊢
      split
      · rename_i hF
        have b2 := I.bd hE hcs hl hz hF
        rcases h with h | h
        · exact absurd hF h
        · unfold ltQ at h; omega
      · omega
    · simp only [mem_addK, e, or_false, updP, if_false]
      exact Nat.le_refl _
  · unfold wtP
    have b := I'.bd hE hcs hl hz (c := o) (mem_addK.mpr (.inr rfl))
    simp only [mem_addK, or_true, if_true]
    simp only [updP, if_true] at b ⊢
    split
    · rename_i hF
      have b2 := I.bd hE hcs hl hz hF
      rcases h with h | h
      · exact absurd hF h
      · unfold ltQ at h; omega
    · omega
theorem muP_le (I : PI E g z cs F v pend) (hE : Edges E cs) (hcs : cs.Nodup) (hl : cs.length ≤ 64) (hz : 0 ≤ z.1 ∧ z.1 ≤ 999 ∧ z.2 = 0) : muP cs F v ≤ 261885952 := by
  have : (cs.map (wtP F v)).sum ≤ (cs.map fun _ => 4091968).sum := sumP_le fun x hx => by
    unfold wtP
    split
    · rename_i hF
      have := I.bd hE hcs hl hz hF
      omega
    · exact Nat.le_refl _
  have e : (cs.map fun _ => 4091968).sum = cs.length * 4091968 := by
    clear this hl I hcs hE
    induction cs with
    | nil => rfl
    | cons x cs ih => simp only [List.map_cons, List.sum_cons, List.length_cons, ih, Nat.succ_mul]; omega
  unfold muP
  rw [e] at this
  have := Nat.mul_le_mul_right 4091968 hl
  omega
end
/-- the least costs of all -/
structure Best (E : C → C → Option Pc) (g : C) (z : Pc) (cs F : List C) (v : C → Pc) : Prop where
  nd : F.Nodup
  sub : ∀ c ∈ F, c ∈ cs
  att : ∀ c ∈ F, Wk E g z c (v c)
  least : ∀ c x, Wk E g z c x → c ∈ F ∧ leQ (v c) x
section
variable {E E' : C → C → Option Pc} {g : C} {z : Pc} {F F' cs : List C} {v v' : C → Pc}
theorem PI.best (I : PI E g z cs F v fun _ => False) : Best E g z cs F v := by
  refine ⟨I.nd, I.sub, fun c hc => let ⟨_, h⟩ := I.sw c hc; h.wk, fun c x h => ?_⟩
  induction h with
  | nil =>
    obtain ⟨l, h⟩ := I.sw g I.hg
    exact h.gz
  | cons he h ih =>
    obtain ⟨r1, r2⟩ := I.rel _ ih.1 id _ _ he
    exact ⟨r1, r2.trans (leQ_mono ih.2)⟩
theorem Best.mem (B : Best E g z cs F v) (c : C) : c ∈ F ↔ ∃ x, Wk E g z c x := ⟨fun h => ⟨_, B.att c h⟩, fun ⟨x, h⟩ => (B.least c x h).1⟩
theorem Best.uniq (B : Best E g z cs F v) (B' : Best E g z cs F' v') {c : C} (h : c ∈ F) : c ∈ F' ∧ v' c = v c := by
  obtain ⟨h1, h2⟩ := B'.least c _ (B.att c h)
  exact ⟨h1, h2.antisymm (B.least c _ (B'.att c h1)).2⟩
theorem Best.gg (B : Best E g z cs F v) (hE : Edges E cs) : g ∈ F ∧ v g = z := by
  obtain ⟨h1, h2⟩ := B.least g z .nil
  refine ⟨h1, h2.antisymm ?_⟩
  have : ∀ {c x}, Wk E g z c x → leQ z x := fun {c x} h => by
    induction h with
    | nil => exact .refl _
    | cons he h ih =>
      obtain ⟨n1, n2, n3, n4⟩ := hE.nn _ _ _ he
      exact ih.trans (leQ_add n1 n3)
  exact this (B.att g h1)
/-- the best walk's first step -/
theorem Best.step (B : Best E g z cs F v) {c : C} (h : c ∈ F) : (c = g ∧ v c = z) ∨ ∃ o i, E c o = some i ∧ o ∈ F ∧ v c = addP (v o) i := by
  have := B.att c h
  generalize hx : v c = x at this
  cases this with
  | nil => exact .inl ⟨rfl, rfl⟩
  | cons he hw =>
    rename_i o x0 i
    obtain ⟨o1, o2⟩ := B.least o _ hw
    refine .inr ⟨o, i, he, o1, ?_⟩
    have h1 := (B.least c _ (.cons he (B.att o o1))).2
    rw [hx] at h1
    exact h1.antisymm (leQ_mono o2)
end
end Pk
/-! Spt1: prices_to. -/
namespace Pk
open PySem (Str)
theorem eCallC_ok {Lt : List (Nat × (List D → Fn))} {i j : Nat} {ms : List (M D)} {r r1 : Env} {s s1 : Sto} {caps ds : List D} {Lf : List D → Fn} {d : D} (h : r[i]? = some (.sh (.clo j caps))) (hj : Lt.lookup j = some Lf) (ha : eL ms r s = .ok ds r1 s1) (ho : s1.o = []) (hd : ds.all (D.dep 60) = true) (hc : caps.all (D.dep 60) = true) (hf : Lf caps ds s1 = .ok d s1) :
    eCallC Lt i ms r s = .ok d r1 s1 := by
  unfold eCallC
  simp only [h, hj, ha, R.bind_ok, lim_of ho, hd, hc, Bool.and_self, if_true, hf]
theorem e2_vw {p : D → D → Option D} {a c : M D} {r r1 r2 : Env} {s s1 s2 : Sto} {d e x : D} (h1 : a r s = .ok d r1 s1) (h2 : c r1 s1 = .ok e r2 s2) (h3 : p d e = some x) : e2 p (.v a) (.v c) r s = .ok x r2 s2 := by
  simp [e2, h1, h2, h3]
theorem dep_encC' (n : Nat) (c : C) : D.dep (n + 1) (encC c) = true := by simp [encC]
theorem sIf_true {c : M D} {a b : S} {r r1 : Env} {s s1 : Sto} (h : c r s = .ok (.bool true) r1 s1) : sIf c a b r s = a r1 s1 := by simp [h]
theorem sIf_false {c : M D} {a b : S} {r r1 : Env} {s s1 : Sto} (h : c r s = .ok (.bool false) r1 s1) : sIf c a b r s = b r1 s1 := by simp [h]
theorem pIx_e0 (x : C) : pIx (encC x) (.int 0) = some (.int x.1) := by simp [encC]
theorem pIx_e1 (x : C) : pIx (encC x) (.int 1) = some (.int x.2) := by simp [encC]
theorem pLtT_encC (x y : C) : pLtT (encC x) (encC y) = some (.bool (decide (ltQ x y))) := by
  simp only [pLtT, encC, intsOf, Option.map_some, Option.bind_some, lexI, ltQ]
  by_cases h1 : x.1 < y.1 <;> by_cases h2 : x.1 = y.1 <;> by_cases h3 : x.2 < y.2 <;> simp [h1, h2, h3]
def encO : Option Int → D
  | .none => .none
  | some m => .int m
/-- the steps of a land by a price -/
noncomputable def eOf (h w : Nat) (P : C → C → Option Int) : C → C → Option Pc := fun o c => if lim (InL h w o ∧ InL h w c ∧ nearB c o = true) then (P o c).map fun m => (m, 1) else none
theorem eOf_some {h w : Nat} {P : C → C → Option Int} {o c : C} {i : Pc} : eOf h w P o c = some i ↔ (InL h w o ∧ InL h w c ∧ nearB c o = true) ∧ ∃ m, P o c = some m ∧ i = (m, 1) := by
  unfold eOf
  by_cases hl : InL h w o ∧ InL h w c ∧ nearB c o = true
  · rw [if_pos (lim_of hl)]
    cases P o c with
    | none => simp
    | some m => simp [hl, eq_comm]
  · rw [if_neg (fun q => hl (of_lim q))]
    simp [hl]
theorem nearB_irrefl (c : C) : nearB c c = false := by simp [nearB]
structure PrB (h w : Nat) (P : C → C → Option Int) : Prop where
  bd : ∀ o c m, InL h w o → InL h w c → P o c = some m → 0 ≤ m ∧ m ≤ 999
theorem PrB.edges {h w : Nat} {P : C → C → Option Int} (B : PrB h w P) : Edges (eOf h w P) (cellsL h w) := by
  refine ⟨fun o c i e => ?_, fun o c i e => ?_, fun o c i e q => ?_⟩
  · obtain ⟨⟨a, b, d⟩, m, hm, rfl⟩ := eOf_some.mp e
    have := B.bd o c m a b hm
    exact ⟨this.1, this.2, by simp, by simp⟩
  · exact mem_cellsL.mpr (eOf_some.mp e).1.1
  · have := (eOf_some.mp e).1.2.2
    rw [q, nearB_irrefl] at this
    cases this
theorem cells64 {h w : Nat} (hh : h ≤ 8) (hw : w ≤ 8) : (cellsL h w).length ≤ 64 := by
  rw [cellsL_len]
  have : h * w ≤ 8 * 8 := Nat.mul_le_mul hh hw
  omega
abbrev vD (v : C → Pc) : C → D := fun c => encC (v c)
theorem vD_upd (v : C → Pc) (c : C) (x : Pc) : updC (vD v) c (encC x) = vD (updP v c x) := by
  funext y
  simp only [updC, vD, updP]
  split <;> rfl
abbrev Epr (L : List (List Int)) (g : C) (cl : D) (F : List C) (v : C → Pc) (z4 : Sl) (N : List C) (z6 z7 z8 z9 : Sl) : Env :=
  [.sh (encL L), .sh (encC g), .sh cl, .ow (dC F (vD v)), z4, .ow (dC N Tr), z6, z7, z8, z9]
section
variable {Lt : List (Nat × (List D → Fn))} {L : List (List Int)} {h w : Nat} {g : C} {j : Nat} {caps : List D} {Lf : List D → Fn} {P : C → C → Option Int} {s : Sto}
theorem pr_step (hj : Lt.lookup j = some Lf) (hcap : caps.all (D.dep 60) = true) (hs : s.o = []) {F N : List C} {v : C → Pc} {c o : C} (hc : c ∈ F) (hP : Lf caps [encC o, encC c] s = .ok (encO (P o c)) s) (hF : F.length ≤ 100) (hN : N.length ≤ 100) (z4 z8 z9 : Sl) :
    ∃ z8' z9', fo_prices_to_0 Lt (Epr L g (.clo j caps) F v z4 N (.sh (encC c)) (.sh (encC o)) z8 z9) s =
      .ok .nx (match P o c with
        | .none => Epr L g (.clo j caps) F v z4 N (.sh (encC c)) (.sh (encC o)) z8' z9'
        | some m => if o ∉ F ∨ ltQ (addP (v c) (m, 1)) (v o) then Epr L g (.clo j caps) (addK F o) (updP v o (addP (v c) (m, 1))) z4 (addK N o) (.sh (encC c)) (.sh (encC o)) z8' z9'
          else Epr L g (.clo j caps) F v z4 N (.sh (encC c)) (.sh (encC o)) z8' z9') s := by
  have q0 : eCallC Lt 2 [(eV 7), (eV 6)] (Epr L g (.clo j caps) F v z4 N (.sh (encC c)) (.sh (encC o)) z8 z9) s = .ok (encO (P o c)) (Epr L g (.clo j caps) F v z4 N (.sh (encC c)) (.sh (encC o)) z8 z9) s :=
    eCallC_ok (j := j) (caps := caps) rfl hj (ds := [encC o, encC c]) (by simp [Epr]) hs (by simp [dep_encC']) hcap hP
  unfold fo_prices_to_0
  rw [sSeq_nx' (r1 := Epr L g (.clo j caps) F v z4 N (.sh (encC c)) (.sh (encC o)) (.sh (encO (P o c))) z9) (s1 := s) (by simp only [sSet]; rw [q0]; rfl)]
  cases hp : P o c with
  | none => exact ⟨_, _, by simp [encO, Epr]; exact ⟨rfl, rfl⟩⟩
  | some m =>
    simp only
    have g1 := pIxD_C (vD v) hc
    refine ⟨.sh (.int m), .sh (encC (addP (v c) (m, 1))), ?_⟩
    have q1 : sSet false 9 (eTup [(e2 pAdd (.v (e2 pIx (.v (e2 pIxD (.b 3) (.v (eV 6)))) (.v (eC (.int 0))))) (.v (eV 8))), (e2 pAdd (.v (e2 pIx (.v (e2 pIxD (.b 3) (.v (eV 6)))) (.v (eC (.int 1))))) (.v (eC (.int 1))))]) (Epr L g (.clo j caps) F v z4 N (.sh (encC c)) (.sh (encC o)) (.sh (.int m)) z9) s =
        .ok .nx (Epr L g (.clo j caps) F v z4 N (.sh (encC c)) (.sh (encC o)) (.sh (.int m)) (.sh (encC (addP (v c) (m, 1))))) s := by
      simp [Epr, g1, vD, pIx_e0, pIx_e1, -pIx]
      rfl
    have q2 : e1 pNotN (.v (eV 8)) (Epr L g (.clo j caps) F v z4 N (.sh (encC c)) (.sh (encC o)) (.sh (encO (some m))) z9) s = .ok (.bool true) (Epr L g (.clo j caps) F v z4 N (.sh (encC c)) (.sh (encC o)) (.sh (.int m)) z9) s := by simp [Epr, encO]
    rw [sIf_true q2, sSeq_nx' q1]
    have q3 : (eOr (e2 pNotInD (.v (eV 7)) (.b 3)) (e2 pLtT (.v (eV 9)) (.v (e2 pIxD (.b 3) (.v (eV 7)))))) (Epr L g (.clo j caps) F v z4 N (.sh (encC c)) (.sh (encC o)) (.sh (.int m)) (.sh (encC (addP (v c) (m, 1))))) s = .ok (.bool (decide (o ∉ F ∨ ltQ (addP (v c) (m, 1)) (v o)))) (Epr L g (.clo j caps) F v z4 N (.sh (encC c)) (.sh (encC o)) (.sh (.int m)) (.sh (encC (addP (v c) (m, 1))))) s := by
      by_cases ho : o ∈ F
      · have g2 := pIxD_C (vD v) ho
        simp [Epr, pNotInD_C, ho, g2, vD, pLtT_encC]
      · simp [Epr, pNotInD_C, ho]
    by_cases hcond : o ∉ F ∨ ltQ (addP (v c) (m, 1)) (v o)
    · rw [if_pos hcond]
      rw [decide_eq_true hcond] at q3
      rw [sIf_true q3]
      have p1 := sPutD_C (i := 3) (mk := eV 7) (mv := eV 9) (r := Epr L g (.clo j caps) F v z4 N (.sh (encC c)) (.sh (encC o)) (.sh (.int m)) (.sh (encC (addP (v c) (m, 1))))) (r1 := Epr L g (.clo j caps) F v z4 N (.sh (encC c)) (.sh (encC o)) (.sh (.int m)) (.sh (encC (addP (v c) (m, 1))))) (r2 := Epr L g (.clo j caps) F v z4 N (.sh (encC c)) (.sh (encC o)) (.sh (.int m)) (.sh (encC (addP (v c) (m, 1))))) (s := s) (s1 := s) (s2 := s) (F := F) (G := F) (u := vD v) (v := vD v) (c := o) (d := encC (addP (v c) (m, 1))) (by simp [Epr]) rfl (by simp [Epr]) rfl (by omega)
      rw [vD_upd] at p1
      rw [sSeq_nx' (r1 := Epr L g (.clo j caps) (addK F o) (updP v o (addP (v c) (m, 1))) z4 N (.sh (encC c)) (.sh (encC o)) (.sh (.int m)) (.sh (encC (addP (v c) (m, 1))))) (s1 := s) (by rw [p1]; rfl)]
      have p2 := sPutD_C (i := 5) (mk := eV 7) (mv := eC (.bool true)) (r := Epr L g (.clo j caps) (addK F o) (updP v o (addP (v c) (m, 1))) z4 N (.sh (encC c)) (.sh (encC o)) (.sh (.int m)) (.sh (encC (addP (v c) (m, 1))))) (r1 := Epr L g (.clo j caps) (addK F o) (updP v o (addP (v c) (m, 1))) z4 N (.sh (encC c)) (.sh (encC o)) (.sh (.int m)) (.sh (encC (addP (v c) (m, 1))))) (r2 := Epr L g (.clo j caps) (addK F o) (updP v o (addP (v c) (m, 1))) z4 N (.sh (encC c)) (.sh (encC o)) (.sh (.int m)) (.sh (encC (addP (v c) (m, 1))))) (s := s) (s1 := s) (s2 := s) (F := N) (G := N) (u := Tr) (v := Tr) (c := o) (d := .bool true) rfl rfl (by simp [Epr]) rfl (by omega)
      rw [Tr_upd] at p2
      rw [p2]
      rfl
    · rw [if_neg hcond]
      rw [decide_eq_false hcond] at q3
      rw [sIf_false q3]
      rfl
end
end Pk
/-! Spt2: prices_to, its loops. -/
namespace Pk
open PySem (Str)
/-- what a loop did -/
structure Gone (E : C → C → Option Pc) (cs F N : List C) (v : C → Pc) (F' N' : List C) (v' : C → Pc) : Prop where
  up : ∀ x ∈ F, x ∈ F' ∧ leQ (v' x) (v x)
  mu : muP cs F' v' ≤ muP cs F v
  lt : N' = N ∨ muP cs F' v' < muP cs F v
  nn : N.Nodup → N'.Nodup
  ns : (∀ x ∈ N, x ∈ F) → ∀ x ∈ N', x ∈ F'
theorem Gone.refl {E : C → C → Option Pc} {cs F N : List C} {v : C → Pc} : Gone E cs F N v F N v := ⟨fun x hx => ⟨hx, .refl _⟩, Nat.le_refl _, .inl rfl, id, fun h => h⟩
theorem Gone.trans {E : C → C → Option Pc} {cs F N F' N' F'' N'' : List C} {v v' v'' : C → Pc} (a : Gone E cs F N v F' N' v') (b : Gone E cs F' N' v' F'' N'' v'') : Gone E cs F N v F'' N'' v'' where
  up := fun x hx => ⟨(b.up x (a.up x hx).1).1, (b.up x (a.up x hx).1).2.trans (a.up x hx).2⟩
  mu := Nat.le_trans b.mu a.mu
  lt := by
    rcases b.lt with q | q
    · rcases a.lt with q' | q'
      · exact .inl (q.trans q')
      · exact .inr (Nat.lt_of_le_of_lt b.mu q')
    · exact .inr (Nat.lt_of_lt_of_le q a.mu)
  nn := fun h => b.nn (a.nn h)
  ns := fun h => b.ns (a.ns h)
section
variable {Lt : List (Nat × (List D → Fn))} {L : List (List Int)} {h w : Nat} {g : C} {j : Nat} {caps : List D} {Lf : List D → Fn} {P : C → C → Option Int} {s : Sto}
theorem pr_inner (hL : Land L h w) (hj : Lt.lookup j = some Lf) (hcap : caps.all (D.dep 60) = true) (hs : s.o = []) (B : PrB h w P) (hP : ∀ o c, InL h w o → InL h w c → Lf caps [encC o, encC c] s = .ok (encO (P o c)) s) {c : C} (hcL : InL h w c) {pe : C → Prop} (z4 : Sl) :
    ∀ (Ns F N : List C) (v : C → Pc) (z7 z8 z9 : Sl), (∀ o ∈ Ns, o ∈ besideL h w c) → c ∈ F → N.Nodup → (∀ x ∈ N, x ∈ F) → PI (eOf h w P) g (0, 0) (cellsL h w) F v (fun x => pe x ∨ x ∈ N) →
    ∃ F' N' v' z7' z8' z9', forL (.n 7) (fo_prices_to_0 Lt) (Ns.map encC) (Epr L g (.clo j caps) F v z4 N (.sh (encC c)) z7 z8 z9) s = .ok .nx (Epr L g (.clo j caps) F' v' z4 N' (.sh (encC c)) z7' z8' z9') s ∧
      PI (eOf h w P) g (0, 0) (cellsL h w) F' v' (fun x => pe x ∨ x ∈ N') ∧ Gone (eOf h w P) (cellsL h w) F N v F' N' v' ∧ v' c = v c ∧ ∀ o ∈ Ns, ∀ i, eOf h w P o c = some i → o ∈ F' ∧ leQ (v' o) (addP (v c) i)
  | [], F, N, v, z7, z8, z9, _, hc, hn, hsub, I => ⟨F, N, v, z7, z8, z9, rfl, I, .refl, rfl, by simp⟩
  | o :: Ns, F, N, v, z7, z8, z9, hb, hc, hn, hsub, I => by
    obtain ⟨ho1, ho2⟩ := mem_besideL.mp (hb o List.mem_cons_self)
    have hE := B.edges
    have c64 := cells64 hL.hr.2 hL.hw.2
    have hF64 := few hL.hr.2 hL.hw.2 I.nd fun y hy => mem_cellsL.mp (I.sub y hy)
    have hN64 := few hL.hr.2 hL.hw.2 hn fun y hy => mem_cellsL.mp (I.sub y (hsub y hy))
    obtain ⟨z8', z9', e⟩ := pr_step (Lt := Lt) (L := L) (g := g) (P := P) (v := v) (N := N) hj hcap hs hc (hP o c ho1 hcL) (by omega) (by omega) z4 z8 z9
    have hoc : o ≠ c := fun q => by rw [q, nearB_irrefl] at ho2; cases ho2
    have stp : ∃ F1 N1 v1, fo_prices_to_0 Lt (Epr L g (.clo j caps) F v z4 N (.sh (encC c)) (.sh (encC o)) z8 z9) s = .ok .nx (Epr L g (.clo j caps) F1 v1 z4 N1 (.sh (encC c)) (.sh (encC o)) z8' z9') s ∧
        PI (eOf h w P) g (0, 0) (cellsL h w) F1 v1 (fun x => pe x ∨ x ∈ N1) ∧ Gone (eOf h w P) (cellsL h w) F N v F1 N1 v1 ∧ v1 c = v c ∧ ∀ i, eOf h w P o c = some i → o ∈ F1 ∧ leQ (v1 o) (addP (v c) i) := by
      cases hp : P o c with
      | none =>
        rw [hp] at e
        refine ⟨F, N, v, e, I, .refl, rfl, fun i hi => ?_⟩
        obtain ⟨_, m, hm, _⟩ := eOf_some.mp hi
        rw [hp] at hm
        cases hm
      | some m =>
        rw [hp] at e
        simp only at e
        have hi : eOf h w P o c = some (m, 1) := eOf_some.mpr ⟨⟨ho1, hcL, ho2⟩, m, hp, rfl⟩
        by_cases hcond : o ∉ F ∨ ltQ (addP (v c) (m, 1)) (v o)
        · rw [if_pos hcond] at e
          have I1 := I.relax hE hc hi hcond
          have vo : updP v o (addP (v c) (m, 1)) o = addP (v c) (m, 1) := by simp [updP]
          refine ⟨_, _, _, e, I1.pmono fun x _ q => ?_, ⟨fun x hx => ⟨mem_addK.mpr (.inl hx), ?_⟩, Nat.le_of_lt (I.relax_mu hE (cellsL_nodup h w) c64 (by simp) hc hi hcond), .inr (I.relax_mu hE (cellsL_nodup h w) c64 (by simp) hc hi hcond), fun q => addK_nodup q, fun q x hx => ?_⟩, by simp [updP, Ne.symm hoc], fun i hi' => ?_⟩
          · rcases q with (q | q) | q
            · exact .inl q
            · exact .inr (mem_addK.mpr (.inl q))
            · exact .inr (mem_addK.mpr (.inr q))
          · unfold updP
            split
            · rename_i e2
              subst e2
              rcases hcond with q | q
              · exact absurd hx q
              · exact .of_lt q
            · exact .refl _
          · rcases mem_addK.mp hx with q' | q'
            · exact mem_addK.mpr (.inl (q x q'))
            · exact mem_addK.mpr (.inr q')
          · rw [hi] at hi'
            cases hi'
            rw [vo]
            exact ⟨mem_addK.mpr (.inr rfl), .refl _⟩
        · rw [if_neg hcond] at e
          refine ⟨F, N, v, e, I, .refl, rfl, fun i hi' => ?_⟩
          rw [hi] at hi'
          cases hi'
          exact ⟨Classical.byContradiction fun q => hcond (.inl q), fun q => hcond (.inr q)⟩
    obtain ⟨F1, N1, v1, e1, I1, G1, hv1, r1⟩ := stp
    obtain ⟨F2, N2, v2, y7, y8, y9, e2, I2, G2, hv2, r2⟩ := pr_inner hL hj hcap hs B hP hcL z4 Ns F1 N1 v1 (.sh (encC o)) z8' z9' (fun y hy => hb y (List.mem_cons_of_mem _ hy)) (G1.up c hc).1 (G1.nn hn) (G1.ns hsub) I1
    refine ⟨F2, N2, v2, y7, y8, y9, ?_, I2, G1.trans G2, hv2.trans hv1, fun y hy i hi => ?_⟩
    · rw [List.map_cons, forL]
      simp only [setT_n]
      show ((fo_prices_to_0 Lt (Epr L g (.clo j caps) F v z4 N (.sh (encC c)) (.sh (encC o)) z8 z9) s).bind _) = _
      rw [e1, R.bind_ok]
      exact e2
    · rcases List.mem_cons.mp hy with rfl | hy
      · obtain ⟨q1, q2⟩ := r1 i hi
        exact ⟨(G2.up _ q1).1, (G2.up _ q1).2.trans q2⟩
      · have := r2 y hy i hi
        rw [hv1] at this
        exact this
theorem pr_round (hL : Land L h w) (hj : Lt.lookup j = some Lf) (hcap : caps.all (D.dep 60) = true) (hs : s.o = []) (B : PrB h w P) (hP : ∀ o c, InL h w o → InL h w c → Lf caps [encC o, encC c] s = .ok (encO (P o c)) s) (z4 : Sl) :
    ∀ (R F N : List C) (v : C → Pc) (z6 z7 z8 z9 : Sl), (∀ x ∈ R, x ∈ F) → N.Nodup → (∀ x ∈ N, x ∈ F) → PI (eOf h w P) g (0, 0) (cellsL h w) F v (fun x => x ∈ R ∨ x ∈ N) →
    ∃ F' N' v' z6' z7' z8' z9', forL (.n 6) (fo_prices_to_1 Lt) (R.map encC) (Epr L g (.clo j caps) F v z4 N z6 z7 z8 z9) s = .ok .nx (Epr L g (.clo j caps) F' v' z4 N' z6' z7' z8' z9') s ∧
      PI (eOf h w P) g (0, 0) (cellsL h w) F' v' (fun x => x ∈ N') ∧ Gone (eOf h w P) (cellsL h w) F N v F' N' v'
  | [], F, N, v, z6, z7, z8, z9, hR, hn, hsub, I => ⟨F, N, v, z6, z7, z8, z9, rfl, I.pmono fun x _ q => q.elim (fun q => by cases q) id, .refl⟩
  | c :: R, F, N, v, z6, z7, z8, z9, hR, hn, hsub, I => by
    have hc := hR c List.mem_cons_self
    have hcL := mem_cellsL.mp (I.sub c hc)
    obtain ⟨F1, N1, v1, y7, y8, y9, e1, I1, G1, hv1, r1⟩ := pr_inner hL hj hcap hs B hP hcL z4 (besideL h w c) F N v z7 z8 z9 (fun _ q => q) hc hn hsub I
    have I1' : PI (eOf h w P) g (0, 0) (cellsL h w) F1 v1 (fun x => x ∈ R ∨ x ∈ N1) := ⟨I1.nd, I1.sub, I1.hg, I1.sw, fun x hx hp o i hi => by
      by_cases e : x = c
      · subst e
        obtain ⟨⟨q1, q2, q3⟩, _⟩ := eOf_some.mp hi
        have := r1 o (mem_besideL.mpr ⟨q1, q3⟩) i hi
        rw [← hv1] at this
        exact this
      · refine I1.rel x hx (fun q => hp ?_) o i hi
        rcases q with q | q
        · rcases List.mem_cons.mp q with q | q
          · exact absurd q e
          · exact .inl q
        · exact .inr q⟩
    obtain ⟨F2, N2, v2, x6, x7, x8, x9, e2, I2, G2⟩ := pr_round hL hj hcap hs B hP z4 R F1 N1 v1 (.sh (encC c)) y7 y8 y9 (fun x hx => (G1.up x (hR x (List.mem_cons_of_mem _ hx))).1) (G1.nn hn) (G1.ns hsub) I1'
    refine ⟨F2, N2, v2, x6, x7, x8, x9, ?_, I2, G1.trans G2⟩
    rw [List.map_cons, forL]
    simp only [setT_n]
    have b1 : fo_prices_to_1 Lt (Epr L g (.clo j caps) F v z4 N (.sh (encC c)) z7 z8 z9) s = .ok .nx (Epr L g (.clo j caps) F1 v1 z4 N1 (.sh (encC c)) y7 y8 y9) s := by
      unfold fo_prices_to_1
      rw [← e1]
      simp [Epr, beside_of_ok hL]
    show ((fo_prices_to_1 Lt (Epr L g (.clo j caps) F v z4 N (.sh (encC c)) z7 z8 z9) s).bind _) = _
    rw [b1, Pk.R.bind_ok]
    exact e2
end
end Pk
/-! Spt3: prices_to, its promise. -/
namespace Pk
open PySem (Str)
theorem whileL_sp {σ : Type} {c : M D} {b : S} {s : Sto} (enc : σ → Env) (I : σ → Prop) (μ : σ → Nat) (Qd : σ → Prop)
    (h : ∀ x, I x → (∃ y, c (enc x) s = .ok (.bool true) (enc x) s ∧ b (enc x) s = .ok .nx (enc y) s ∧ I y ∧ μ y < μ x) ∨ (c (enc x) s = .ok (.bool false) (enc x) s ∧ Qd x)) : ∀ (n : Nat) (x : σ), I x → μ x < n → ∃ y, whileL c b n (enc x) s = .ok .nx (enc y) s ∧ Qd y
  | 0, x, _, hm => by omega
  | n + 1, x, hI, hm => by
    rcases h x hI with ⟨y, h1, h2, h3, h4⟩ | ⟨h1, h2⟩
    · obtain ⟨u, e, q⟩ := whileL_sp enc I μ Qd h n y h3 (by omega)
      refine ⟨u, ?_, q⟩
      simp only [whileL, h1, h2, R.bind_ok]
      exact e
    · exact ⟨x, by simp only [whileL, h1, R.bind_ok], h2⟩
theorem sWhile_sp {σ : Type} {c : M D} {b : S} {s : Sto} (enc : σ → Env) (I : σ → Prop) (μ : σ → Nat) (Qd : σ → Prop) (x : σ) (hI : I x) (hm : μ x < 1000000000)
    (h : ∀ x, I x → (∃ y, c (enc x) s = .ok (.bool true) (enc x) s ∧ b (enc x) s = .ok .nx (enc y) s ∧ I y ∧ μ y < μ x) ∨ (c (enc x) s = .ok (.bool false) (enc x) s ∧ Qd x)) : ∃ y, sWhile c b (enc x) s = .ok .nx (enc y) s ∧ Qd y :=
  whileL_sp enc I μ Qd h WN x hI hm
structure PrSt where
  F : List C
  v : C → Pc
  V : List C
  z5 : Sl
  z6 : Sl
  z7 : Sl
  z8 : Sl
  z9 : Sl
abbrev Ewr (L : List (List Int)) (g : C) (cl : D) (x : PrSt) : Env := [.sh (encL L), .sh (encC g), .sh cl, .ow (dC x.F (vD x.v)), .sh (.lst (x.V.map encC)), x.z5, x.z6, x.z7, x.z8, x.z9]
section
variable {Lt : List (Nat × (List D → Fn))} {L : List (List Int)} {h w : Nat} {g : C} {j : Nat} {caps : List D} {Lf : List D → Fn} {P : C → C → Option Int} {s : Sto}
theorem prices_to_ok (hL : Land L h w) (hg : InL h w g) (hj : Lt.lookup j = some Lf) (hcap : caps.all (D.dep 60) = true) (hs : s.o = []) (B : PrB h w P) (hP : ∀ o c, InL h w o → InL h w c → Lf caps [encC o, encC c] s = .ok (encO (P o c)) s) :
    ∃ F v, py_prices_to Lt [encL L, encC g, .clo j caps] s = .ok (dC F (vD v)) s ∧ Best (eOf h w P) g (0, 0) (cellsL h w) F v := by
  have hE := B.edges
  have c64 := cells64 hL.hr.2 hL.hw.2
  obtain ⟨y, e, I⟩ := sWhile_sp (c := e2 pNe (.v (eV 4)) (.v (eLst []))) (b := sSeq (sSet true 5 eDct0) (sSeq (sFor (iOf (eV 4)) (.n 6) (fo_prices_to_1 Lt)) (sSet false 4 (e1 pSorted (.v (e1 pLstD (.b 5))))))) (s := s)
    (Ewr L g (.clo j caps)) (fun x => PI (eOf h w P) g (0, 0) (cellsL h w) x.F x.v (fun y => y ∈ x.V) ∧ ∀ y ∈ x.V, y ∈ x.F) (fun x => 2 * muP (cellsL h w) x.F x.v + x.V.length.min 1) (fun x => PI (eOf h w P) g (0, 0) (cellsL h w) x.F x.v (fun _ => False))
    ⟨[g], fun _ => (0, 0), [g], .no, .no, .no, .no, .no⟩ (by
      refine ⟨⟨by simp, fun x hx => ?_, by simp, fun x hx => ?_, fun x hx hp => absurd hx hp⟩, fun x hx => hx⟩
      · rw [List.mem_singleton.mp hx]; exact mem_cellsL.mpr hg
      · rw [List.mem_singleton.mp hx]
        exact ⟨[g], .nil (by simp) (.refl _)⟩) (by
      have : muP (cellsL h w) [g] (fun _ => (0, 0)) ≤ 261885952 := by
        have I0 : PI (eOf h w P) g (0, 0) (cellsL h w) [g] (fun _ => (0, 0)) (fun _ => True) := ⟨by simp, fun x hx => by rw [List.mem_singleton.mp hx]; exact mem_cellsL.mpr hg, by simp, fun x hx => by rw [List.mem_singleton.mp hx]; exact ⟨[g], .nil (by simp) (.refl _)⟩, fun x hx hp => absurd trivial hp⟩
        exact muP_le I0 hE (cellsL_nodup h w) c64 (by simp)
      simp only [List.length_singleton]
      have : Nat.min 1 1 = 1 := rfl
      omega) (fun x hI => by
      obtain ⟨I, hV⟩ := hI
      have q1 : e2 pNe (.v (eV 4)) (.v (eLst [])) (Ewr L g (.clo j caps) x) s = .ok (.bool !x.V.isEmpty) (Ewr L g (.clo j caps) x) s := by
        have := pNe_nil_cells x.V
        simp [Ewr, -pNe, this]
      cases hv : x.V with
      | nil =>
        rw [hv] at q1 I
        exact .inr ⟨q1, I.pmono fun y _ q => by cases q⟩
      | cons c R =>
        left
        rw [hv] at q1
        obtain ⟨F', N', v', z6', z7', z8', z9', e, I', G'⟩ := pr_round (g := g) hL hj hcap hs B hP (.sh (.lst (x.V.map encC))) x.V x.F [] x.v x.z6 x.z7 x.z8 x.z9 hV (by simp) (by simp) (I.pmono fun y _ q => .inl q)
        refine ⟨⟨F', v', N'.mergeSort leC, .ow (dC N' Tr), z6', z7', z8', z9'⟩, q1, ?_, ⟨I'.pmono fun y _ q => List.mem_mergeSort.mpr q, fun y hy => G'.ns (by simp) y (List.mem_mergeSort.mp hy)⟩, ?_⟩
        · rw [sSeq_nx' (r1 := Epr L g (.clo j caps) x.F x.v (.sh (.lst (x.V.map encC))) [] x.z6 x.z7 x.z8 x.z9) (s1 := s) (by simp [eDct0, Ewr, Epr, dC])]
          rw [sSeq_nx' (r1 := Epr L g (.clo j caps) F' v' (.sh (.lst (x.V.map encC))) N' z6' z7' z8' z9') (s1 := s) (by rw [← e]; simp [Epr])]
          simp [Epr, Ewr, pLstD_C, pSorted_enc]
        · simp only [List.length_mergeSort]
          rcases G'.lt with q | q
          · subst q
            have := G'.mu
            simp only [List.length_nil, List.length_cons, hv]
            have a1 : Nat.min 0 1 = 0 := rfl
            have a2 : Nat.min (R.length + 1) 1 = 1 := Nat.min_eq_right (by omega)
            omega
          · have a1 : Nat.min N'.length 1 ≤ 1 := Nat.min_le_right _ _
            omega)
  refine ⟨y.F, y.v, fnOf_rt (r := (Ewr L g (.clo j caps) y).set 3 (.sh (dC y.F (vD y.v)))) rfl ?_, I.best⟩
  unfold bo_prices_to
  rw [sSeq_nx' (r1 := Ewr L g (.clo j caps) ⟨[g], fun _ => (0, 0), [g], .no, .no, .no, .no, .no⟩) (s1 := s) (by simp [startL, eDct1, keyOf_encC, Ewr, dC_one]; rfl)]
  have e' : wh_prices_to_0 Lt (Ewr L g (.clo j caps) ⟨[g], fun _ => (0, 0), [g], .no, .no, .no, .no, .no⟩) s = .ok .nx (Ewr L g (.clo j caps) y) s := e
  rw [sSeq_nx' e']
  simp [Ewr]
end
end Pk
/-! Spt4: the prices; steps_by. -/
namespace Pk
open PySem (Str)
/-- the least cost, if there is a walk -/
def IsBest (E : C → C → Option Pc) (g : C) (z : Pc) (c : C) (x : Pc) : Prop := Wk E g z c x ∧ ∀ y, Wk E g z c y → leQ x y
theorem IsBest.uniq {E : C → C → Option Pc} {g : C} {z : Pc} {c : C} {x y : Pc} (h1 : IsBest E g z c x) (h2 : IsBest E g z c y) : x = y := (h1.2 y h2.1).antisymm (h2.2 x h1.1)
open Classical in
noncomputable def bestOf (E : C → C → Option Pc) (g : C) (z : Pc) (c : C) : Option Pc := if h : ∃ x, IsBest E g z c x then some h.choose else none
theorem bestOf_some {E : C → C → Option Pc} {g : C} {z : Pc} {c : C} {x : Pc} : bestOf E g z c = some x ↔ IsBest E g z c x := by
  unfold bestOf
  split
  · rename_i h
    constructor
    · intro e; cases e; exact h.choose_spec
    · intro e; rw [IsBest.uniq h.choose_spec e]
  · rename_i h
    constructor
    · intro e; cases e
    · intro e; exact absurd ⟨x, e⟩ h
section
variable {E : C → C → Option Pc} {g : C} {z : Pc} {cs F : List C} {v : C → Pc}
theorem Best.is (B : Best E g z cs F v) {c : C} (h : c ∈ F) : IsBest E g z c (v c) := ⟨B.att c h, fun y hy => (B.least c y hy).2⟩
theorem Best.of (B : Best E g z cs F v) (c : C) : bestOf E g z c = if c ∈ F then some (v c) else none := by
  by_cases h : c ∈ F
  · rw [if_pos h]; exact bestOf_some.mpr (B.is h)
  · rw [if_neg h]
    cases e : bestOf E g z c with
    | none => rfl
    | some x => exact absurd ((B.mem c).mpr ⟨x, (bestOf_some.mp e).1⟩) h
end
/-! ### prices -/
def slopeP (L : List (List Int)) (sl : Int) (o c : C) : Option Int := if (if hAt L o - hAt L c < 0 then -(hAt L o - hAt L c) else hAt L o - hAt L c) ≤ sl then some 0 else none
def climbP (L : List (List Int)) (o c : C) : Option Int := some (if hAt L c - hAt L o > 0 then hAt L c - hAt L o else 0)
def dryP (L : List (List Int)) (lv : Int) (o c : C) : Option Int := if lv ≤ (if hAt L c < hAt L o then hAt L c else hAt L o) then some 0 else none
section
variable {L : List (List Int)} {h w : Nat}
theorem slope_lam (hL : Land L h w) {o c : C} (ho : InL h w o) (hc : InL h w c) (sl : Int) (s : Sto) : ly_slope_price_0 [encL L, .int sl] [encC o, encC c] s = .ok (encO (slopeP L sl o c)) s := by
  have a1 := at_ok hL ho s
  have a2 := at_ok hL hc s
  unfold ly_slope_price_0 lamFn la_slope_price_0 slopeP
  by_cases h1 : (if hAt L o - hAt L c < 0 then -(hAt L o - hAt L c) else hAt L o - hAt L c) ≤ sl
  · simp [startL, a1, a2, h1, encO]
  · simp [startL, a1, a2, h1, encO]
theorem climb_lam (hL : Land L h w) {o c : C} (ho : InL h w o) (hc : InL h w c) (s : Sto) : ly_climb_price_0 [encL L] [encC o, encC c] s = .ok (encO (climbP L o c)) s := by
  have a1 := at_ok hL ho s
  have a2 := at_ok hL hc s
  simp [ly_climb_price_0, lamFn, la_climb_price_0, climbP, startL, a1, a2, encO]
theorem dry_lam (hL : Land L h w) {o c : C} (ho : InL h w o) (hc : InL h w c) (lv : Int) (s : Sto) : ly_dry_price_0 [encL L, .int lv] [encC o, encC c] s = .ok (encO (dryP L lv o c)) s := by
  have a1 := at_ok hL ho s
  have a2 := at_ok hL hc s
  unfold ly_dry_price_0 lamFn la_dry_price_0 dryP
  by_cases h1 : lv ≤ (if hAt L c < hAt L o then hAt L c else hAt L o)
  · simp [startL, a1, a2, h1, encO]
  · simp [startL, a1, a2, h1, encO]
theorem slope_B (L : List (List Int)) (sl : Int) (h w : Nat) : PrB h w (slopeP L sl) := ⟨fun o c m _ _ e => by
  unfold slopeP at e
  by_cases h1 : (if hAt L o - hAt L c < 0 then -(hAt L o - hAt L c) else hAt L o - hAt L c) ≤ sl
  · rw [if_pos h1] at e; cases e; omega
  · rw [if_neg h1] at e; cases e⟩
theorem dry_B (L : List (List Int)) (sl : Int) (h w : Nat) : PrB h w (dryP L sl) := ⟨fun o c m _ _ e => by
  unfold dryP at e
  by_cases h1 : sl ≤ (if hAt L c < hAt L o then hAt L c else hAt L o)
  · rw [if_pos h1] at e; cases e; omega
  · rw [if_neg h1] at e; cases e⟩
theorem hAt_bd (hL : Land L h w) {c : C} (hc : InL h w c) : 0 ≤ hAt L c ∧ hAt L c ≤ 999 := by
  obtain ⟨a, b, d, e⟩ := hc
  obtain ⟨_, g2⟩ := row_get hL a b
  have hl : c.1.toNat < L.length := by rw [hL.rows]; omega
  have e1 : rowAt L c.1 = L[c.1.toNat] := by simp [rowAt, List.getD, hl]
  have hl2 : c.2.toNat < (rowAt L c.1).length := by omega
  have : hAt L c = (rowAt L c.1)[c.2.toNat] := by
    unfold hAt
    rw [List.getD_eq_getElem?_getD, List.getElem?_eq_getElem hl2]
    rfl
  rw [this]
  refine hL.ht (rowAt L c.1) ?_ _ (List.getElem_mem hl2)
  rw [e1]
  exact List.getElem_mem hl
theorem climb_B (hL : Land L h w) : PrB h w (climbP L) := ⟨fun o c m ho hc e => by
  have := hAt_bd hL ho
  have := hAt_bd hL hc
  unfold climbP at e
  cases e
  split <;> omega⟩
theorem slope_price_ok (L : List (List Int)) (sl : Int) (s : Sto) : py_slope_price [encL L, .int sl] s = .ok (.clo 4 [encL L, .int sl]) s := rfl
theorem climb_price_ok (L : List (List Int)) (s : Sto) : py_climb_price [encL L] s = .ok (.clo 2 [encL L]) s := rfl
theorem dry_price_ok (L : List (List Int)) (sl : Int) (s : Sto) : py_dry_price [encL L, .int sl] s = .ok (.clo 3 [encL L, .int sl]) s := rfl
end
section
variable {Lt : List (Nat × (List D → Fn))} {L : List (List Int)} {h w : Nat} {s : Sto}
theorem slope_to (hL : Land L h w) (hj : Lt.lookup 4 = some ly_slope_price_0) (hs : s.o = []) {g : C} (hg : InL h w g) (sl : Int) :
    ∃ F v, py_prices_to Lt [encL L, encC g, .clo 4 [encL L, .int sl]] s = .ok (dC F (vD v)) s ∧ Best (eOf h w (slopeP L sl)) g (0, 0) (cellsL h w) F v :=
  prices_to_ok hL hg hj (by simp [dep_encL]) hs (slope_B L sl h w) fun o c ho hc => slope_lam hL ho hc sl s
theorem climb_to (hL : Land L h w) (hj : Lt.lookup 2 = some ly_climb_price_0) (hs : s.o = []) {g : C} (hg : InL h w g) :
    ∃ F v, py_prices_to Lt [encL L, encC g, .clo 2 [encL L]] s = .ok (dC F (vD v)) s ∧ Best (eOf h w (climbP L)) g (0, 0) (cellsL h w) F v :=
  prices_to_ok hL hg hj (by simp [dep_encL]) hs (climb_B hL) fun o c ho hc => climb_lam hL ho hc s
theorem dry_to (hL : Land L h w) (hj : Lt.lookup 3 = some ly_dry_price_0) (hs : s.o = []) {g : C} (hg : InL h w g) (lv : Int) :
    ∃ F v, py_prices_to Lt [encL L, encC g, .clo 3 [encL L, .int lv]] s = .ok (dC F (vD v)) s ∧ Best (eOf h w (dryP L lv)) g (0, 0) (cellsL h w) F v :=
  prices_to_ok hL hg hj (by simp [dep_encL]) hs (dry_B L lv h w) fun o c ho hc => dry_lam hL ho hc lv s
/-- the fewest steps no steeper than a slope -/
noncomputable def stepsN (L : List (List Int)) (h w : Nat) (sl : Int) (one other : C) : Option Int := (bestOf (eOf h w (slopeP L sl)) other (0, 0) one).map (·.2)
theorem steps_by_ok (hL : Land L h w) (hj : Lt.lookup 4 = some ly_slope_price_0) (hs : s.o = []) {one other : C} (h2 : InL h w other) (sl : Int) :
    py_steps_by Lt [encL L, encC one, encC other, .int sl] s = .ok (encO (stepsN L h w sl one other)) s := by
  obtain ⟨F, v, e, B⟩ := slope_to hL hj hs h2 sl
  unfold stepsN
  rw [B.of]
  by_cases hF : one ∈ F
  · have g1 := pIxD_C (vD v) hF
    simp [py_steps_by, bo_steps_by, fnOf, startL, slope_price_ok, e, pInD_C, hF, g1, vD, pIx_e1, -pIx, encO]
  · simp [py_steps_by, bo_steps_by, fnOf, startL, slope_price_ok, e, pInD_C, hF, encO]
theorem need_two_ok (hL : Land L h w) {one other : C} (h1 : InL h w one) (h2 : InL h w other) (s : Sto) : py_need_two [encL L, encC one, encC other] s = .ok .none s := by
  simp [py_need_two, bo_need_two, fnOf, startL, need_both_ok hL h1, need_cell_ok hL h2]
theorem steps_within_ok (hL : Land L h w) (hj : Lt.lookup 4 = some ly_slope_price_0) (hs : s.o = []) {one other : C} (h1 : InL h w one) (h2 : InL h w other) {sl : Int} (hsl : 0 ≤ sl ∧ sl ≤ 999) :
    py_steps_within Lt [encL L, encC one, encC other, .int sl] s = .ok (encO (stepsN L h w sl one other)) s := by
  have := is_whole_int sl 0 999 s
  simp [py_steps_within, bo_steps_within, fnOf, startL, need_two_ok hL h1 h2, this, hsl.1, hsl.2, steps_by_ok hL hj hs h2 sl]
theorem Wk.ge {E : C → C → Option Pc} {g : C} {z : Pc} {cs : List C} (hE : Edges E cs) {c : C} {x : Pc} (hw : Wk E g z c x) : leQ z x := by
  induction hw with
  | nil => exact .refl _
  | cons he h ih =>
    obtain ⟨n1, n2, n3, n4⟩ := hE.nn _ _ _ he
    exact ih.trans (leQ_add n1 n3)
theorem stepsN_self (sl : Int) (c : C) : stepsN L h w sl c c = some 0 := by
  have hE := (slope_B L sl h w).edges
  have : bestOf (eOf h w (slopeP L sl)) c (0, 0) c = some (0, 0) := bestOf_some.mpr ⟨.nil, fun y hy => hy.ge hE⟩
  simp [stepsN, this]
end
end Pk
/-! Spt7: _law_steps (by slopes), round by round. -/
namespace Pk
open PySem (Str)
def vN (v : C → Int) : C → D := fun c => .int (v c)
def updN (v : C → Int) (c : C) (d : Int) : C → Int := fun x => if x = c then d else v x
theorem vN_upd (v : C → Int) (c : C) (x : Int) : updC (vN v) c (.int x) = vN (updN v c x) := by
  funext y
  simp only [updC, vN, updN]
  split <;> rfl
theorem slopeP_some {L : List (List Int)} {sl : Int} {o c : C} {m : Int} : slopeP L sl o c = some m ↔ (if hAt L o - hAt L c < 0 then -(hAt L o - hAt L c) else hAt L o - hAt L c) ≤ sl ∧ m = 0 := by
  unfold slopeP
  by_cases h : (if hAt L o - hAt L c < 0 then -(hAt L o - hAt L c) else hAt L o - hAt L c) ≤ sl
  · rw [if_pos h]; simp [h, eq_comm]
  · rw [if_neg h]; simp [h]
theorem slopeP_comm (L : List (List Int)) (sl : Int) (o c : C) : slopeP L sl o c = slopeP L sl c o := by
  unfold slopeP
  have : (if hAt L o - hAt L c < 0 then -(hAt L o - hAt L c) else hAt L o - hAt L c) = (if hAt L c - hAt L o < 0 then -(hAt L c - hAt L o) else hAt L c - hAt L o) := by
    split <;> split <;> omega
  rw [this]
structure BI (E : C → C → Option Pc) (g : C) (cs F : List C) (v : C → Int) (n : Int) (pend : C → Prop) : Prop where
  nd : F.Nodup
  sub : ∀ c ∈ F, c ∈ cs
  hg : g ∈ F
  wk : ∀ c ∈ F, Wk E g (0, 0) c (0, v c)
  le : ∀ c ∈ F, v c ≤ n
  rel : ∀ c ∈ F, ¬ pend c → ∀ o i, E o c = some i → o ∈ F ∧ v o ≤ v c + 1
abbrev Est (L : List (List Int)) (g : C) (sl : Int) (F : List C) (v : C → Int) (z4 : Sl) (n : Int) (N : List C) (z7 z8 z9 : Sl) : Env :=
  [.sh (encL L), .sh (encC g), .sh (.int sl), .ow (dC F (vN v)), z4, .sh (.int n), .ow (.lst (N.map encC)), z7, z8, z9]
section
variable {L : List (List Int)} {h w : Nat} {g : C} {sl : Int} {s : Sto}
theorem st_step (hL : Land L h w) {F N : List C} {v : C → Int} {n : Int} {c o : C} (hc : InL h w c) (ho : InL h w o) (hF : F.length ≤ 100) (hN : N.length ≤ 100) (z4 z9 : Sl) :
    ∃ z9', fo_law_steps_v1_0 (Est L g sl F v z4 n N (.sh (encC c)) (.sh (encC o)) z9) s =
      .ok .nx (if o ∉ F ∧ slopeP L sl o c = some 0 then Est L g sl (F ++ [o]) (updN v o n) z4 n (N ++ [o]) (.sh (encC c)) (.sh (encC o)) z9' else Est L g sl F v z4 n N (.sh (encC c)) (.sh (encC o)) z9') s := by
  have a1 := law_high_ok hL hc s
  have a2 := law_high_ok hL ho s
  obtain ⟨x, hx⟩ : ∃ x, x = (if hAt L c - hAt L o < 0 then -(hAt L c - hAt L o) else hAt L c - hAt L o) := ⟨_, rfl⟩
  refine ⟨.sh (.int x), ?_⟩
  have hsp : slopeP L sl o c = some 0 ↔ x ≤ sl := by rw [slopeP_comm, slopeP_some, hx]; simp
  unfold fo_law_steps_v1_0
  rw [sSeq_nx' (r1 := Est L g sl F v z4 n N (.sh (encC c)) (.sh (encC o)) (.sh (.int x))) (s1 := s) (by simp [Est, a1, a2, hx])]
  have q3 : (eAnd (e2 pNotInD (.v (eV 8)) (.b 3)) (e2 pLe (.v (eV 9)) (.v (eV 2)))) (Est L g sl F v z4 n N (.sh (encC c)) (.sh (encC o)) (.sh (.int x))) s = .ok (.bool (decide (o ∉ F ∧ slopeP L sl o c = some 0))) (Est L g sl F v z4 n N (.sh (encC c)) (.sh (encC o)) (.sh (.int x))) s := by
    rw [show decide (o ∉ F ∧ slopeP L sl o c = some 0) = decide (o ∉ F ∧ x ≤ sl) from decide_eq_decide.mpr (and_congr_right fun _ => hsp)]
    by_cases hoF : o ∈ F
    · simp [Est, pNotInD_C, hoF]
    · simp [Est, pNotInD_C, hoF]
  by_cases hcond : o ∉ F ∧ slopeP L sl o c = some 0
  · rw [if_pos hcond]
    rw [decide_eq_true hcond] at q3
    rw [sIf_true q3]
    have p1 := sPutD_C (i := 3) (mk := eV 8) (mv := eV 5) (r := Est L g sl F v z4 n N (.sh (encC c)) (.sh (encC o)) (.sh (.int x))) (r1 := Est L g sl F v z4 n N (.sh (encC c)) (.sh (encC o)) (.sh (.int x))) (r2 := Est L g sl F v z4 n N (.sh (encC c)) (.sh (encC o)) (.sh (.int x))) (s := s) (s1 := s) (s2 := s) (F := F) (G := F) (u := vN v) (v := vN v) (c := o) (d := .int n) (by simp [Est]) rfl (by simp [Est]) rfl (by omega)
    rw [vN_upd, show addK F o = F ++ [o] by simp [addK, hcond.1]] at p1
    rw [sSeq_nx' (r1 := Est L g sl (F ++ [o]) (updN v o n) z4 n N (.sh (encC c)) (.sh (encC o)) (.sh (.int x))) (s1 := s) (by rw [p1]; rfl)]
    have hz : N.length < SZ := by simp only [SZ]; omega
    simp [Est, hz]
  · rw [if_neg hcond]
    rw [decide_eq_false hcond] at q3
    rw [sIf_false q3]
    rfl
/-- what a loop did -/
structure GoneS (F N : List C) (v : C → Int) (n : Int) (F' N' : List C) (v' : C → Int) : Prop where
  ex : ∃ new : List C, F' = F ++ new ∧ N' = N ++ new ∧ ∀ x ∈ new, v' x = n
  same : ∀ x ∈ F, v' x = v x
theorem GoneS.refl {F N : List C} {v : C → Int} {n : Int} : GoneS F N v n F N v := ⟨⟨[], by simp, by simp, by simp⟩, fun _ _ => rfl⟩
theorem GoneS.trans {F N F' N' F'' N'' : List C} {v v' v'' : C → Int} {n : Int} (a : GoneS F N v n F' N' v') (b : GoneS F' N' v' n F'' N'' v'') : GoneS F N v n F'' N'' v'' := by
  obtain ⟨m1, e1, e2, e3⟩ := a.ex
  obtain ⟨m2, e4, e5, e6⟩ := b.ex
  refine ⟨⟨m1 ++ m2, by rw [e4, e1, List.append_assoc], by rw [e5, e2, List.append_assoc], fun x hx => ?_⟩, fun x hx => (b.same x (by rw [e1]; exact List.mem_append_left _ hx)).trans (a.same x hx)⟩
  rcases List.mem_append.mp hx with q | q
  · rw [b.same x (by rw [e1]; exact List.mem_append_right _ q)]; exact e3 x q
  · exact e6 x q
theorem GoneS.up {F N F' N' : List C} {v v' : C → Int} {n : Int} (a : GoneS F N v n F' N' v') {x : C} (hx : x ∈ F) : x ∈ F' := by
  obtain ⟨m1, e1, _⟩ := a.ex
  rw [e1]; exact List.mem_append_left _ hx
theorem st_inner (hL : Land L h w) {c : C} (hcL : InL h w c) {pe : C → Prop} {n : Int} (z4 : Sl) :
    ∀ (Ns F N : List C) (v : C → Int) (z8 z9 : Sl), (∀ o ∈ Ns, o ∈ besideL h w c) → c ∈ F → v c + 1 = n → N.Nodup → (∀ x ∈ N, x ∈ F) → BI (eOf h w (slopeP L sl)) g (cellsL h w) F v n (fun x => pe x ∨ x ∈ N) →
    ∃ F' N' v' z8' z9', forL (.n 8) fo_law_steps_v1_0 (Ns.map encC) (Est L g sl F v z4 n N (.sh (encC c)) z8 z9) s = .ok .nx (Est L g sl F' v' z4 n N' (.sh (encC c)) z8' z9') s ∧
      BI (eOf h w (slopeP L sl)) g (cellsL h w) F' v' n (fun x => pe x ∨ x ∈ N') ∧ GoneS F N v n F' N' v' ∧ N'.Nodup ∧ (∀ x ∈ N', x ∈ F') ∧ ∀ o ∈ Ns, ∀ i, eOf h w (slopeP L sl) o c = some i → o ∈ F'
  | [], F, N, v, z8, z9, _, hc, hv, hn, hsub, I => ⟨F, N, v, z8, z9, rfl, I, .refl, hn, hsub, by simp⟩
  | o :: Ns, F, N, v, z8, z9, hb, hc, hv, hn, hsub, I => by
    obtain ⟨ho1, ho2⟩ := mem_besideL.mp (hb o List.mem_cons_self)
    have hF64 := few hL.hr.2 hL.hw.2 I.nd fun y hy => mem_cellsL.mp (I.sub y hy)
    have hN64 := few hL.hr.2 hL.hw.2 hn fun y hy => mem_cellsL.mp (I.sub y (hsub y hy))
    obtain ⟨z9', e⟩ := st_step (s := s) (g := g) (sl := sl) (F := F) (N := N) (v := v) (n := n) hL hcL ho1 (by omega) (by omega) z4 z9
    have stp : ∃ F1 N1 v1, fo_law_steps_v1_0 (Est L g sl F v z4 n N (.sh (encC c)) (.sh (encC o)) z9) s = .ok .nx (Est L g sl F1 v1 z4 n N1 (.sh (encC c)) (.sh (encC o)) z9') s ∧
        BI (eOf h w (slopeP L sl)) g (cellsL h w) F1 v1 n (fun x => pe x ∨ x ∈ N1) ∧ GoneS F N v n F1 N1 v1 ∧ N1.Nodup ∧ (∀ x ∈ N1, x ∈ F1) ∧ ∀ i, eOf h w (slopeP L sl) o c = some i → o ∈ F1 := by
      by_cases hcond : o ∉ F ∧ slopeP L sl o c = some 0
      · rw [if_pos hcond] at e
        have hi : eOf h w (slopeP L sl) o c = some (0, 1) := eOf_some.mpr ⟨⟨ho1, hcL, ho2⟩, 0, hcond.2, rfl⟩
        have hne : ∀ x ∈ F, updN v o n x = v x := fun x hx => by
          unfold updN
          rw [if_neg (fun (q : x = o) => hcond.1 (q ▸ hx))]
        have vo : updN v o n o = n := by simp [updN]
        have hoN : o ∉ N := fun q => hcond.1 (hsub o q)
        refine ⟨_, _, _, e, ⟨?_, fun x hx => ?_, List.mem_append_left _ I.hg, fun x hx => ?_, fun x hx => ?_, fun x hx hp o' i' he => ?_⟩, ⟨⟨[o], rfl, rfl, fun x hx => by rw [List.mem_singleton.mp hx]; exact vo⟩, hne⟩, ?_, fun x hx => ?_, fun i _ => by simp⟩
        · rw [List.nodup_append]
          exact ⟨I.nd, by simp, fun a ha b hb' e' => hcond.1 (by rw [List.mem_singleton.mp hb'] at e'; exact e' ▸ ha)⟩
        · rcases List.mem_append.mp hx with q | q
          · exact I.sub x q
          · rw [List.mem_singleton.mp q]; exact mem_cellsL.mpr ho1
        · rcases List.mem_append.mp hx with q | q
          · rw [hne x q]; exact I.wk x q
          · rw [List.mem_singleton.mp q, vo]
            have := Wk.cons hi (I.wk c hc)
            simp only [addP, Int.zero_add, Int.add_zero] at this
            rw [hv] at this
            exact this
        · rcases List.mem_append.mp hx with q | q
          · rw [hne x q]; exact I.le x q
          · rw [List.mem_singleton.mp q, vo]; exact Int.le_refl _
        · have hxo : x ≠ o := fun q => hp (.inr (List.mem_append_right _ (by rw [q]; simp)))
          have hxF : x ∈ F := by
            rcases List.mem_append.mp hx with q | q
            · exact q
            · exact absurd (List.mem_singleton.mp q) hxo
          obtain ⟨r1, r2⟩ := I.rel x hxF (fun q => hp (q.imp id fun q => List.mem_append_left _ q)) o' i' he
          rw [hne x hxF, hne o' r1]
          exact ⟨List.mem_append_left _ r1, r2⟩
        · rw [List.nodup_append]
          exact ⟨hn, by simp, fun a ha b hb' e' => hoN (by rw [List.mem_singleton.mp hb'] at e'; exact e' ▸ ha)⟩
        · rcases List.mem_append.mp hx with q | q
          · exact List.mem_append_left _ (hsub x q)
          · exact List.mem_append_right _ q
      · rw [if_neg hcond] at e
        refine ⟨F, N, v, e, I, .refl, hn, hsub, fun i hi => ?_⟩
        obtain ⟨_, m, hm, _⟩ := eOf_some.mp hi
        have hm0 := (slopeP_some.mp hm).2
        rw [hm0] at hm
        exact Classical.byContradiction fun q => hcond ⟨q, hm⟩
    obtain ⟨F1, N1, v1, e1, I1, G1, n1, sb1, r1⟩ := stp
    obtain ⟨F2, N2, v2, y8, y9, e2, I2, G2, n2, sb2, r2⟩ := st_inner hL hcL z4 Ns F1 N1 v1 (.sh (encC o)) z9' (fun y hy => hb y (List.mem_cons_of_mem _ hy)) (G1.up hc) (by rw [G1.same c hc]; exact hv) n1 sb1 I1
    refine ⟨F2, N2, v2, y8, y9, ?_, I2, G1.trans G2, n2, sb2, fun y hy i hi => ?_⟩
    · rw [List.map_cons, forL]
      simp only [setT_n]
      show ((fo_law_steps_v1_0 (Est L g sl F v z4 n N (.sh (encC c)) (.sh (encC o)) z9) s).bind _) = _
      rw [e1, R.bind_ok]
      exact e2
    · rcases List.mem_cons.mp hy with rfl | hy
      · exact G2.up (r1 i hi)
      · exact r2 y hy i hi
theorem st_round (hL : Land L h w) {n : Int} (z4 : Sl) :
    ∀ (Q F N : List C) (v : C → Int) (z7 z8 z9 : Sl), (∀ x ∈ Q, x ∈ F ∧ v x + 1 = n) → N.Nodup → (∀ x ∈ N, x ∈ F) → BI (eOf h w (slopeP L sl)) g (cellsL h w) F v n (fun x => x ∈ Q ∨ x ∈ N) →
    ∃ F' N' v' z7' z8' z9', forL (.n 7) fo_law_steps_v1_1 (Q.map encC) (Est L g sl F v z4 n N z7 z8 z9) s = .ok .nx (Est L g sl F' v' z4 n N' z7' z8' z9') s ∧
      BI (eOf h w (slopeP L sl)) g (cellsL h w) F' v' n (fun x => x ∈ N') ∧ GoneS F N v n F' N' v' ∧ N'.Nodup ∧ (∀ x ∈ N', x ∈ F')
  | [], F, N, v, z7, z8, z9, hR, hn, hsub, I => ⟨F, N, v, z7, z8, z9, rfl, ⟨I.nd, I.sub, I.hg, I.wk, I.le, fun x hx hp => I.rel x hx fun q => hp (q.elim (fun q => by cases q) id)⟩, .refl, hn, hsub⟩
  | c :: Q, F, N, v, z7, z8, z9, hR, hn, hsub, I => by
    obtain ⟨hc, hv⟩ := hR c List.mem_cons_self
    have hcL := mem_cellsL.mp (I.sub c hc)
    obtain ⟨F1, N1, v1, y8, y9, e1, I1, G1, n1, sb1, r1⟩ := st_inner (s := s) (g := g) (sl := sl) hL hcL z4 (besideL h w c) F N v z8 z9 (fun _ q => q) hc hv hn hsub I
    have I1' : BI (eOf h w (slopeP L sl)) g (cellsL h w) F1 v1 n (fun x => x ∈ Q ∨ x ∈ N1) := ⟨I1.nd, I1.sub, I1.hg, I1.wk, I1.le, fun x hx hp o i hi => by
      by_cases e : x = c
      · subst e
        obtain ⟨⟨q1, q2, q3⟩, _⟩ := eOf_some.mp hi
        have ho := r1 o (mem_besideL.mpr ⟨q1, q3⟩) i hi
        refine ⟨ho, ?_⟩
        rw [G1.same x hc, hv]
        exact I1.le o ho
      · refine I1.rel x hx (fun q => hp ?_) o i hi
        rcases q with q | q
        · rcases List.mem_cons.mp q with q | q
          · exact absurd q e
          · exact .inl q
        · exact .inr q⟩
    obtain ⟨F2, N2, v2, x7, x8, x9, e2, I2, G2, n2, sb2⟩ := st_round hL z4 Q F1 N1 v1 (.sh (encC c)) y8 y9 (fun x hx => ⟨G1.up (hR x (List.mem_cons_of_mem _ hx)).1, by rw [G1.same x (hR x (List.mem_cons_of_mem _ hx)).1]; exact (hR x (List.mem_cons_of_mem _ hx)).2⟩) n1 sb1 I1'
    refine ⟨F2, N2, v2, x7, x8, x9, ?_, I2, G1.trans G2, n2, sb2⟩
    rw [List.map_cons, forL]
    simp only [setT_n]
    have b1 : fo_law_steps_v1_1 (Est L g sl F v z4 n N (.sh (encC c)) z8 z9) s = .ok .nx (Est L g sl F1 v1 z4 n N1 (.sh (encC c)) y8 y9) s := by
      unfold fo_law_steps_v1_1
      rw [← e1]
      have lb := law_beside_ok hL c s
      simp [Est, lb, besideL]
    show ((fo_law_steps_v1_1 (Est L g sl F v z4 n N (.sh (encC c)) z8 z9) s).bind _) = _
    rw [b1, Pk.R.bind_ok]
    exact e2
end
structure StSt where
  F : List C
  v : C → Int
  V : List C
  n : Int
  z6 : Sl
  z7 : Sl
  z8 : Sl
  z9 : Sl
abbrev Ews (L : List (List Int)) (g : C) (sl : Int) (x : StSt) : Env := [.sh (encL L), .sh (encC g), .sh (.int sl), .ow (dC x.F (vN x.v)), .sh (.lst (x.V.map encC)), .sh (.int x.n), x.z6, x.z7, x.z8, x.z9]
theorem BI.best {E : C → C → Option Pc} {g : C} {cs F : List C} {v : C → Int} {n : Int} (I : BI E g cs F v n fun _ => False) (h1 : ∀ o c i, E o c = some i → i = (0, 1)) (hv0 : v g = 0) : Best E g (0, 0) cs F (fun c => (0, v c)) := by
  refine ⟨I.nd, I.sub, I.wk, fun c x hw => ?_⟩
  induction hw with
  | nil => exact ⟨I.hg, by rw [hv0]; exact .refl _⟩
  | cons he hw ih =>
    obtain ⟨r1, r2⟩ := I.rel _ ih.1 id _ _ he
    refine ⟨r1, ?_⟩
    have := h1 _ _ _ he
    subst this
    have i2 := ih.2
    simp only [leQ, ltQ, addP] at i2 ⊢
    omega
section
variable {L : List (List Int)} {h w : Nat} {g : C} {s : Sto}
theorem law_steps1_ok (hL : Land L h w) (hg : InL h w g) (sl : Int) :
    ∃ F v, py_law_steps_v1 [encL L, encC g, .int sl] s = .ok (dC F (vN v)) s ∧ Best (eOf h w (slopeP L sl)) g (0, 0) (cellsL h w) F (fun c => (0, v c)) := by
  obtain ⟨y, e, I, hy0⟩ := sWhile_sp (c := e2 pNe (.v (eV 4)) (.v (eLst []))) (b := sSeq (sPar true false 6 5 (eLst []) (e2 pAdd (.v (eV 5)) (.v (eC (.int 1))))) (sSeq (sFor (iOf (eV 4)) (.n 7) fo_law_steps_v1_1) (sSet false 4 (eV 6)))) (s := s)
    (Ews L g sl) (fun x => BI (eOf h w (slopeP L sl)) g (cellsL h w) x.F x.v x.n (fun y => y ∈ x.V) ∧ (∀ y ∈ x.V, y ∈ x.F ∧ x.v y = x.n) ∧ x.v g = 0) (fun x => 2 * (100 - x.F.length) + x.V.length.min 1) (fun x => BI (eOf h w (slopeP L sl)) g (cellsL h w) x.F x.v x.n (fun _ => False) ∧ x.v g = 0)
    ⟨[g], fun _ => 0, [g], 0, .no, .no, .no, .no⟩ (by
      refine ⟨⟨by simp, fun x hx => ?_, by simp, fun x hx => ?_, fun _ _ => Int.le_refl _, fun x hx hp => absurd hx hp⟩, fun x hx => ⟨hx, rfl⟩, rfl⟩
      · rw [List.mem_singleton.mp hx]; exact mem_cellsL.mpr hg
      · rw [List.mem_singleton.mp hx]; exact .nil) (by
      have : Nat.min 1 1 = 1 := rfl
      simp only [List.length_singleton]
      omega) (fun x hI => by
      obtain ⟨I, hV, hv0⟩ := hI
      have q1 : e2 pNe (.v (eV 4)) (.v (eLst [])) (Ews L g sl x) s = .ok (.bool !x.V.isEmpty) (Ews L g sl x) s := by
        have := pNe_nil_cells x.V
        simp [Ews, -pNe, this]
      cases hv : x.V with
      | nil =>
        rw [hv] at q1 I
        exact .inr ⟨q1, ⟨I.nd, I.sub, I.hg, I.wk, I.le, fun y hy hp => I.rel y hy (by simp)⟩, hv0⟩
      | cons c Q =>
        left
        rw [hv] at q1
        have I0 : BI (eOf h w (slopeP L sl)) g (cellsL h w) x.F x.v (x.n + 1) (fun y => y ∈ x.V ∨ y ∈ ([] : List C)) := ⟨I.nd, I.sub, I.hg, I.wk, fun y hy => by have := I.le y hy; omega, fun y hy hp => I.rel y hy fun q => hp (.inl q)⟩
        obtain ⟨F', N', v', z7', z8', z9', e, I', G', nd', sb'⟩ := st_round (g := g) (sl := sl) (s := s) hL (.sh (.lst (x.V.map encC))) x.V x.F [] x.v x.z7 x.z8 x.z9 (fun y hy => ⟨(hV y hy).1, by rw [(hV y hy).2]⟩) (by simp) (by simp) I0
        obtain ⟨new, g1, g2, g3⟩ := G'.ex
        rw [List.nil_append] at g2
        refine ⟨⟨F', v', N', x.n + 1, .sh (.lst (N'.map encC)), z7', z8', z9'⟩, q1, ?_, ⟨I', fun y hy => ⟨sb' y hy, g3 y (by rw [← g2]; exact hy)⟩, by simp only; rw [G'.same g I.hg]; exact hv0⟩, ?_⟩
        · rw [sSeq_nx' (r1 := Est L g sl x.F x.v (.sh (.lst (x.V.map encC))) (x.n + 1) [] x.z7 x.z8 x.z9) (s1 := s) (by simp [Ews, Est])]
          rw [sSeq_nx' (r1 := Est L g sl F' v' (.sh (.lst (x.V.map encC))) (x.n + 1) N' z7' z8' z9') (s1 := s) (by rw [← e]; simp [Est])]
          simp [Est, Ews]
        · have hF64 := few hL.hr.2 hL.hw.2 I'.nd fun y hy => mem_cellsL.mp (I'.sub y hy)
          simp only [List.length_cons]
          have a2 : Nat.min (Q.length + 1) 1 = 1 := Nat.min_eq_right (by omega)
          have hl : F'.length = x.F.length + N'.length := by rw [g1, g2, List.length_append]
          cases hN : N' with
          | nil =>
            rw [hN] at hl
            simp only [List.length_nil] at hl ⊢
            have a1 : Nat.min 0 1 = 0 := rfl
            omega
          | cons y N2 =>
            rw [hN] at hl
            simp only [List.length_cons] at hl ⊢
            have a1 : Nat.min (N2.length + 1) 1 ≤ 1 := Nat.min_le_right _ _
            omega)
  refine ⟨y.F, y.v, fnOf_rt (r := (Ews L g sl y).set 3 (.sh (dC y.F (vN y.v)))) rfl ?_, I.best (fun o c i he => ?_) hy0⟩
  · unfold bo_law_steps_v1
    rw [sSeq_nx' (r1 := Ews L g sl ⟨[g], fun _ => 0, [g], 0, .no, .no, .no, .no⟩) (s1 := s) (by simp [sPar3b, startL, eDct1, keyOf_encC, Ews, dC_one]; rfl)]
    have e' : wh_law_steps_v1_0 (Ews L g sl ⟨[g], fun _ => 0, [g], 0, .no, .no, .no, .no⟩) s = .ok .nx (Ews L g sl y) s := e
    rw [sSeq_nx' e']
    simp [Ews]
  · obtain ⟨_, m, hm, rfl⟩ := eOf_some.mp he
    rw [(slopeP_some.mp hm).2]
end
end Pk
/-! Spt8: least_steep. -/
namespace Pk
open PySem (Str)
section
variable {E : C → C → Option Pc} {g c o : C} {z x i : Pc}
theorem addP_comm3 (x i k : Pc) : addP (addP x i) k = addP (addP x k) i := by simp only [addP, Prod.mk.injEq]; omega
theorem Wk.snoc (hw : Wk E c z g x) (he : E c o = some i) : Wk E o z g (addP x i) := by
  induction hw with
  | nil => exact .cons he .nil
  | cons he' h ih =>
    rw [addP_comm3]
    exact .cons he' ih
theorem Wk.symm (hs : ∀ a b, E a b = E b a) (hw : Wk E g z c x) : Wk E c z g x := by
  induction hw with
  | nil => exact .nil
  | cons he h ih => exact ih.snoc (by rw [hs]; exact he)
theorem bestOf_symm (hs : ∀ a b, E a b = E b a) (z : Pc) (a b : C) : bestOf E a z b = bestOf E b z a := by
  have : ∀ a b x, IsBest E a z b x → IsBest E b z a x := fun a b x h => ⟨h.1.symm hs, fun y hy => h.2 y (hy.symm hs)⟩
  cases e : bestOf E a z b with
  | some x => exact (bestOf_some.mpr (this _ _ _ (bestOf_some.mp e))).symm
  | none =>
    cases e2 : bestOf E b z a with
    | none => rfl
    | some x =>
      rw [bestOf_some.mpr (this _ _ _ (bestOf_some.mp e2))] at e
      cases e
end
section
variable {L : List (List Int)} {h w : Nat}
theorem eSlope_symm (sl : Int) (a b : C) : eOf h w (slopeP L sl) a b = eOf h w (slopeP L sl) b a := by
  unfold eOf
  rw [slopeP_comm L sl a b]
  have : (InL h w a ∧ InL h w b ∧ nearB b a = true) ↔ (InL h w b ∧ InL h w a ∧ nearB a b = true) := by
    rw [nearB_comm b a]
    exact ⟨fun ⟨p, q, r⟩ => ⟨q, p, r⟩, fun ⟨p, q, r⟩ => ⟨q, p, r⟩⟩
  rw [show lim (InL h w a ∧ InL h w b ∧ nearB b a = true) = lim (InL h w b ∧ InL h w a ∧ nearB a b = true) by rw [Bool.eq_iff_iff, lim_iff, lim_iff]; exact this]
theorem stepsN_symm (sl : Int) (a b : C) : stepsN L h w sl a b = stepsN L h w sl b a := by
  unfold stepsN
  rw [bestOf_symm (fun a b => eSlope_symm sl a b)]
/-- one comes there -/
def RcS (L : List (List Int)) (h w : Nat) (sl : Int) (a b : C) : Prop := ∃ x, Wk (eOf h w (slopeP L sl)) b (0, 0) a x
theorem RcS.mono {sl sl' : Int} (hs : sl ≤ sl') {a b : C} (hr : RcS L h w sl a b) : RcS L h w sl' a b := by
  obtain ⟨x, hw⟩ := hr
  induction hw with
  | nil => exact ⟨_, .nil⟩
  | cons he _ ih =>
    obtain ⟨y, hy⟩ := ih
    obtain ⟨q, m, hm, rfl⟩ := eOf_some.mp he
    obtain ⟨m1, m2⟩ := slopeP_some.mp hm
    exact ⟨_, .cons (eOf_some.mpr ⟨q, 0, slopeP_some.mpr ⟨Int.le_trans m1 hs, rfl⟩, rfl⟩) hy⟩
theorem RcS.top (hL : Land L h w) {a b : C} (ha : InL h w a) (hb : InL h w b) : RcS L h w 999 a b := by
  have r : RG h w (fun _ => true) b a := grid_conn (fun _ _ => rfl) hb ha
  induction r with
  | refl => exact ⟨_, .nil⟩
  | @step x y r hn hp ih =>
    have hx := RG.inL r hb
    obtain ⟨q, hq⟩ := ih hx
    have b1 := hAt_bd hL hx
    have b2 := hAt_bd hL hp.1
    exact ⟨_, .cons (eOf_some.mpr ⟨⟨hp.1, hx, hn⟩, 0, slopeP_some.mpr ⟨by split <;> omega, rfl⟩, rfl⟩) hq⟩
theorem RcS.symm {sl : Int} {a b : C} (h1 : RcS L h w sl a b) : RcS L h w sl b a := let ⟨x, q⟩ := h1; ⟨x, q.symm fun a b => eSlope_symm sl a b⟩
variable {Lt : List (Nat × (List D → Fn))} {s : Sto}
theorem stepsN_none (hL : Land L h w) (hj : Lt.lookup 4 = some ly_slope_price_0) (hs : s.o = []) {a b : C} (hb : InL h w b) (sl : Int) : stepsN L h w sl a b = none ↔ ¬ RcS L h w sl a b := by
  obtain ⟨F, v, _, B⟩ := slope_to hL hj hs hb sl
  unfold stepsN RcS
  rw [B.of, ← B.mem]
  by_cases hF : a ∈ F <;> simp [hF]
/-- the least slope -/
def IsSteep (L : List (List Int)) (h w : Nat) (a b : C) (v : Int) : Prop := 0 ≤ v ∧ v ≤ 999 ∧ RcS L h w v a b ∧ ∀ u, 0 ≤ u → u < v → ¬ RcS L h w u a b
theorem IsSteep.uniq {a b : C} {u v : Int} (h1 : IsSteep L h w a b u) (h2 : IsSteep L h w a b v) : u = v := by
  obtain ⟨a1, a2, a3, a4⟩ := h1
  obtain ⟨b1, b2, b3, b4⟩ := h2
  rcases Int.lt_trichotomy u v with q | q | q
  · exact absurd a3 (b4 u a1 q)
  · exact q
  · exact absurd b3 (a4 v b1 q)
theorem IsSteep.symm {a b : C} {u : Int} (h1 : IsSteep L h w a b u) : IsSteep L h w b a u := ⟨h1.1, h1.2.1, h1.2.2.1.symm, fun v hv hl q => h1.2.2.2 v hv hl q.symm⟩
theorem IsSteep.self (c : C) : IsSteep L h w c c 0 := ⟨Int.le_refl _, by omega, ⟨_, .nil⟩, fun u h1 h2 => by omega⟩
structure StpS where
  lo : Int
  hi : Int
  z5 : Sl
theorem least_steep_ok (hL : Land L h w) (hj : Lt.lookup 4 = some ly_slope_price_0) (hs : s.o = []) {a b : C} (ha : InL h w a) (hb : InL h w b) : ∃ v, IsSteep L h w a b v ∧ py_least_steep Lt [encL L, encC a, encC b] s = .ok (.int v) s := by
  obtain ⟨y, e, I⟩ := sWhile_sp (c := e2 pLt (.v (e2 pAdd (.v (eV 3)) (.v (eC (.int 1))))) (.v (eV 4))) (b := sSeq (sSet false 5 (e2 pFdiv (.v (e2 pAdd (.v (eV 3)) (.v (eV 4)))) (.v (eC (.int 2)))))
    (sIf (e1 pIsN (.v (eCall (py_steps_by Lt) [(eV 0), (eV 1), (eV 2), (eV 5)] []))) (sSet false 3 (eV 5)) (sSet false 4 (eV 5)))) (s := s)
    (fun x : StpS => [.sh (encL L), .sh (encC a), .sh (encC b), .sh (.int x.lo), .sh (.int x.hi), x.z5]) (fun x => -1 ≤ x.lo ∧ x.lo < x.hi ∧ x.hi ≤ 999 ∧ RcS L h w x.hi a b ∧ (0 ≤ x.lo → ¬ RcS L h w x.lo a b)) (fun x => (x.hi - x.lo).toNat) (fun x => IsSteep L h w a b x.hi)
    ⟨-1, 999, .no⟩ ⟨by simp, by simp, by simp, RcS.top hL ha hb, by simp⟩ (by simp only; omega) (fun x hI => by
      obtain ⟨i1, i2, i3, i4, i5⟩ := hI
      by_cases hlt : x.lo + 1 < x.hi
      · left
        obtain ⟨m, hm⟩ : ∃ m, m = (x.lo + x.hi) / 2 := ⟨_, rfl⟩
        have m1 : x.lo < m := by omega
        have m2 : m < x.hi := by omega
        have sb := steps_by_ok (one := a) hL hj hs hb m
        have sn := stepsN_none (a := a) hL hj hs hb m
        have l2 : lim ((0 : Int) < 2 ∧ (2 : Int) < 1073741824) = true := lim_of ⟨by omega, by omega⟩
        cases hst : stepsN L h w m a b with
        | none =>
          rw [hst] at sb
          refine ⟨⟨m, x.hi, .sh (.int m)⟩, by simp [hlt], by simp [← hm, sb, encO], ⟨by simp only; omega, m2, i3, i4, fun _ => sn.mp hst⟩, ?_⟩
          simp only
          omega
        | some k =>
          rw [hst] at sb
          have hr : RcS L h w m a b := Classical.byContradiction fun q => by rw [sn.mpr q] at hst; cases hst
          refine ⟨⟨x.lo, m, .sh (.int m)⟩, by simp [hlt], by simp [← hm, sb, encO], ⟨i1, m1, by simp only; omega, hr, i5⟩, ?_⟩
          simp only
          omega
      · right
        refine ⟨by simp [hlt], by omega, i3, i4, fun u hu hl q => ?_⟩
        have : u ≤ x.lo := by omega
        exact i5 (by omega) (q.mono this))
  refine ⟨y.hi, I, fnOf_rt (r := [.sh (encL L), .sh (encC a), .sh (encC b), .sh (.int y.lo), .sh (.int y.hi), y.z5]) rfl ?_⟩
  unfold bo_least_steep
  rw [sSeq_nx' (r1 := [.sh (encL L), .sh (encC a), .sh (encC b), .no, .no, .no]) (s1 := s) (by simp [startL, need_two_ok hL ha hb])]
  rw [sSeq_nx' (r1 := [.sh (encL L), .sh (encC a), .sh (encC b), .sh (.int (-1)), .sh (.int 999), .no]) (s1 := s) (by simp)]
  have e' : wh_least_steep_0 Lt [.sh (encL L), .sh (encC a), .sh (encC b), .sh (.int (-1)), .sh (.int 999), .no] s = .ok .nx [.sh (encL L), .sh (encC a), .sh (encC b), .sh (.int y.lo), .sh (.int y.hi), y.z5] s := e
  rw [sSeq_nx' e']
  simp
theorem law_steps_get (hL : Land L h w) {g c : C} (hg : InL h w g) (sl : Int) (s : Sto) : ∃ F v, py_law_steps_v1 [encL L, encC g, .int sl] s = .ok (dC F (vN v)) s ∧ (if c ∈ F then vN v c else .none) = encO (stepsN L h w sl c g) ∧ (c ∈ F ↔ RcS L h w sl c g) := by
  obtain ⟨F, v, e, B⟩ := law_steps1_ok (s := s) hL hg sl
  refine ⟨F, v, e, ?_, B.mem c⟩
  unfold stepsN
  rw [B.of]
  by_cases hF : c ∈ F <;> simp [hF, encO, vN]
end
end Pk
/-! Sx_k14: steep. -/
namespace Pk
open PySem (Str)
theorem eGetD1_C {i : Nat} {mk : M D} {r r1 : Env} {s s1 : Sto} {F : List C} {v : C → D} {c : C} (h1 : r[i]? = some (.sh (dC F v))) (h2 : mk r s = .ok (encC c) r1 s1) (h3 : r1[i]? = some (.sh (dC F v))) : eGetD1 i mk r s = .ok (if c ∈ F then v c else .none) r1 s1 := by
  have g := pGetD_C F v c .none
  unfold eGetD1
  simp only [look, h1]
  simp only [dC] at h3 g ⊢
  rw [if_pos (isTK_C F)]
  simp [h2, h3, g]
theorem pNe_encO (x : Option Int) : pNe (encO x) (encO x) = some (.bool false) := pNe_self (by cases x <;> simp [encO])
noncomputable abbrev E14 (ns : List Int) (L : List (List Int)) (x3 x4 x5 x6 x7 x8 : Sl) : Env := [.sh (.scr ns), .sh .town, .sh (encL L), x3, x4, x5, x6, x7, x8]
theorem law_ok (ns : List Int) (hn : ns.length ≤ 63) : ∃ s', py_law [.scr ns] ⟨none, []⟩ = .ok (.bool true) s' := by
  obtain ⟨L, h, w, n, hL, h5, w5, _, hn1, l1⟩ := land_ok ns hn 6 0 (by omega) (by omega)
  have l1 : py_law_land [.scr ns, .town, .int 6] ⟨some 0, []⟩ = .ok (encL L) (St n) := l1
  obtain ⟨a, ha, l2⟩ := pick_cell ns n hn (by omega) hL.hr.1 hL.hw.1
  obtain ⟨b, hb, l3⟩ := pick_cell ns (n + 1) hn (by omega) hL.hr.1 hL.hw.1
  obtain ⟨k, hk, l4⟩ := draw_ok ns (n + 1 + 1) 1000 hn (by omega) (by omega)
  have l4 : py_law_draw [.scr ns, .town, .int 1000] (St (n + 1 + 1)) = .ok (.int (k : Int)) (St (n + 1 + 1 + 1)) := l4
  obtain ⟨d, hd, l5⟩ := pick_ok ns (n + 1 + 1 + 1) [.int 0, .int 1, .int 2, .int 3, .int 5, .int 300, .int 999, .int k] hn (by omega) (by simp)
  obtain ⟨sl, rfl, hsl⟩ : ∃ sl, d = .int sl ∧ 0 ≤ sl ∧ sl ≤ 999 := by
    simp only [List.mem_cons, List.not_mem_nil, or_false] at hd
    rcases hd with rfl | rfl | rfl | rfl | rfl | rfl | rfl | rfl <;> exact ⟨_, rfl, by omega, by omega⟩
  obtain ⟨s, hs⟩ : ∃ s, s = St (n + 1 + 1 + 1 + 1) := ⟨_, rfl⟩
  rw [← hs] at l5
  have hs0 : s.o = [] := by rw [hs]; rfl
  have hj : Lt.lookup 4 = some ly_slope_price_0 := rfl
  obtain ⟨F, v, e1, g1, _⟩ := law_steps_get (c := b) hL ha sl s
  obtain ⟨t, hT, e2⟩ := least_steep_ok (Lt := Lt) hL hj hs0 ha hb
  obtain ⟨F2, v2, e3, _, m2⟩ := law_steps_get (c := b) hL ha t s
  obtain ⟨F3, v3, e4, _, m3⟩ := law_steps_get (c := b) hL ha (t - 1) s
  obtain ⟨t1, hT1, e5⟩ := least_steep_ok (Lt := Lt) hL hj hs0 ha ha
  obtain ⟨t2, hT2, e6⟩ := least_steep_ok (Lt := Lt) hL hj hs0 hb ha
  have q1 : t1 = 0 := hT1.uniq (IsSteep.self a)
  have q2 : t2 = t := hT2.uniq hT.symm
  subst q1 q2
  obtain ⟨t0, t9, tr, tl⟩ := hT
  refine ⟨s, fnOf_rt (r := E14 ns L (.sh (.lst ((cellsL h w).map encC))) (.sh (encC a)) (.sh (encC b)) (.sh (.int sl)) (.sh (dC F (vN v))) (.sh (.int t2))) rfl ?_⟩
  unfold bo_law
  rw [sSeq_nx' (r1 := [.sh (.scr ns), .sh .town, .no, .no, .no, .no, .no, .no, .no]) (s1 := ⟨some 0, []⟩) (by simp [startL])]
  rw [sSeq_nx' (r1 := E14 ns L .no .no .no .no .no .no) (s1 := St n) (by simp [l1, E14])]
  rw [sSeq_nx' (r1 := E14 ns L (.sh (.lst ((cellsL h w).map encC))) .no .no .no .no .no) (s1 := St n) (by simp [E14, law_cells_ok hL])]
  rw [sSeq_nx' (r1 := E14 ns L (.sh (.lst ((cellsL h w).map encC))) (.sh (encC a)) (.sh (encC b)) .no .no .no) (s1 := St (n + 1 + 1)) (by simp [E14, l2, l3])]
  rw [sSeq_nx' (r1 := E14 ns L (.sh (.lst ((cellsL h w).map encC))) (.sh (encC a)) (.sh (encC b)) (.sh (.int sl)) .no .no) (s1 := s) (by simp [E14, l4, l5])]
  rw [sSeq_nx' (r1 := E14 ns L (.sh (.lst ((cellsL h w).map encC))) (.sh (encC a)) (.sh (encC b)) (.sh (.int sl)) (.sh (dC F (vN v))) .no) (s1 := s) (by simp [E14, e1])]
  have gd : eGetD1 7 (eV 5) (E14 ns L (.sh (.lst ((cellsL h w).map encC))) (.sh (encC a)) (.sh (encC b)) (.sh (.int sl)) (.sh (dC F (vN v))) .no) s = .ok (encO (stepsN L h w sl b a)) (E14 ns L (.sh (.lst ((cellsL h w).map encC))) (.sh (encC a)) (.sh (encC b)) (.sh (.int sl)) (.sh (dC F (vN v))) .no) s := by
    have := eGetD1_C (i := 7) (mk := eV 5) (r := E14 ns L (.sh (.lst ((cellsL h w).map encC))) (.sh (encC a)) (.sh (encC b)) (.sh (.int sl)) (.sh (dC F (vN v))) .no) (s := s) (s1 := s) (F := F) (v := vN v) (c := b) rfl (r1 := E14 ns L (.sh (.lst ((cellsL h w).map encC))) (.sh (encC a)) (.sh (encC b)) (.sh (.int sl)) (.sh (dC F (vN v))) .no) (by simp [E14]) rfl
    rw [this, g1]
  have w1 := steps_within_ok (Lt := Lt) hL hj hs0 ha hb hsl
  have w2 := steps_within_ok (Lt := Lt) hL hj hs0 hb ha hsl
  rw [stepsN_symm] at w1
  have ne := pNe_encO (stepsN L h w sl b a)
  have c1 : ∀ x y : Nat, True := fun _ _ => trivial
  rw [sSeq_nx' (r1 := E14 ns L (.sh (.lst ((cellsL h w).map encC))) (.sh (encC a)) (.sh (encC b)) (.sh (.int sl)) (.sh (dC F (vN v))) .no) (s1 := s) (by
    rw [sIf_false (e2_vw (by simp [E14, w1]) gd ne)]; rfl)]
  rw [sSeq_nx' (r1 := E14 ns L (.sh (.lst ((cellsL h w).map encC))) (.sh (encC a)) (.sh (encC b)) (.sh (.int sl)) (.sh (dC F (vN v))) .no) (s1 := s) (by
    rw [sIf_false (e2_vw (by simp [E14, w2]) gd ne)]; rfl)]
  rw [sSeq_nx' (r1 := E14 ns L (.sh (.lst ((cellsL h w).map encC))) (.sh (encC a)) (.sh (encC b)) (.sh (.int sl)) (.sh (dC F (vN v))) (.sh (.int t2))) (s1 := s) (by simp [E14, e2])]
  have m2' : b ∈ F2 := m2.mpr tr.symm
  have w3 := steps_within_ok (Lt := Lt) hL hj hs0 ha hb (sl := t2) ⟨t0, t9⟩
  have n3 : stepsN L h w t2 a b ≠ none := fun q => (stepsN_none (Lt := Lt) hL hj hs0 hb t2).mp q tr
  obtain ⟨k3, hk3⟩ : ∃ k3, stepsN L h w t2 a b = some k3 := by
    cases q : stepsN L h w t2 a b with
    | none => exact absurd q n3
    | some k => exact ⟨k, rfl⟩
  rw [hk3] at w3
  rw [sSeq_nx' (r1 := E14 ns L (.sh (.lst ((cellsL h w).map encC))) (.sh (encC a)) (.sh (encC b)) (.sh (.int sl)) (.sh (dC F (vN v))) (.sh (.int t2))) (s1 := s) (by
    simp [E14, e3, pNotInD_C, m2', w3, encO])]
  rw [sSeq_nx' (r1 := E14 ns L (.sh (.lst ((cellsL h w).map encC))) (.sh (encC a)) (.sh (encC b)) (.sh (.int sl)) (.sh (dC F (vN v))) (.sh (.int t2))) (s1 := s) (by
    by_cases hp : t2 > 0
    · have nr := tl (t2 - 1) (by omega) (by omega)
      have m3' : b ∉ F3 := fun q => nr (m3.mp q).symm
      have w4 := steps_within_ok (Lt := Lt) hL hj hs0 ha hb (sl := t2 - 1) ⟨by omega, by omega⟩
      rw [(stepsN_none (Lt := Lt) hL hj hs0 hb (t2 - 1)).mpr nr] at w4
      simp [E14, hp, e4, pInD_C, m3', w4, encO]
    · simp [E14, hp])]
  simp [E14, e5, e6]
end Pk
namespace Pk
open PySem PySem.Spec PyProof.Rows L2
def top (i : Nat) : Stmt := PySem.Challenge.pw_peakland_k14_whole_steep.main.body.getD i (.Pass ⟨0, 0, 0, 0⟩)
structure Tx (cn : Cn) (mg : Str → Option Value) : Prop where
  e_NoLand : ErrC cn mg 0 "NoLand"
  e_NoSlope : ErrC cn mg 4 "NoSlope"
  b_abs : mg "abs" = none
  b_all : mg "all" = none
  b_bool : mg "bool" = none
  b_int : mg "int" = none
  b_isinstance : mg "isinstance" = none
  b_len : mg "len" = none
  b_list : mg "list" = none
  b_min : mg "min" = none
  b_range : mg "range" = none
  b_sorted : mg "sorted" = none
  b_tuple : mg "tuple" = none
  g_HIGH : ∃ t, mg "HIGH" = some (.int 999 t)
  g_MOST : ∃ t, mg "MOST" = some (.int 8 t)
section
variable {cn : Cn} {P : Program} {w : World} {mg : Str → Option Value} {base : Heap}
theorem sc_NoCell_init : FnScope ["self", "cell"] ["self", "cell"] (defScope (clsM (top 3))) := ⟨rfl, rfl, rfl, by decide +kernel, rfl, by decide +kernel, by decide +kernel⟩
theorem sc_is_whole : FnScope ["thing", "low", "high"] ["thing", "low", "high"] (defScope (top 8)) := ⟨rfl, rfl, rfl, by decide +kernel, rfl, by decide +kernel, by decide +kernel⟩
theorem ok_is_whole {f : Addr} {fd : FuncData} (F : FunD cn.K "is_whole" "is_whole" (defArgs (top 8)) (defBody (top 8)) (defScope (top 8)) [] [] f fd) (T : Tx cn mg) :
    FnOk P w cn.K mg base (L2.CX P w) 1 f fd ["thing", "low", "high"] (spOf cn py_is_whole) :=
  fn_okF F sc_is_whole rfl rfl (show py_is_whole = fnOf 3 3 bo_is_whole from rfl) fun cdv A outer s H E c hc g => by
    subst hc
    exact (ds_one (ds_ret (de_and (de_isi g p1_isInt rfl T.b_isinstance (do_v (de_v 0 (pv 0))) rfl T.b_int (by decide +kernel)) (de_and (de_not (de_isi g p1_isBool rfl T.b_isinstance (do_v (de_v 0 (pv 0))) rfl T.b_bool (by decide +kernel))) (de_and1 (de_chain op_le p2_le op_le p2_le (de_v 1 (pv 1)) (de_v 0 (pv 0)) (de_v 2 (pv 2))))))))
theorem sc_is_line : FnScope ["thing", "long", "one"] ["thing", "long"] (defScope (top 9)) := ⟨rfl, rfl, rfl, by decide +kernel, rfl, by decide +kernel, by decide +kernel⟩
theorem ok_is_line {f : Addr} {fd : FuncData} (F : FunD cn.K "is_line" "is_line" (defArgs (top 9)) (defBody (top 9)) (defScope (top 9)) [] [] f fd) (T : Tx cn mg) (G_is_whole : FnG cn P w mg base 1 "is_whole" py_is_whole []) :
    FnOk P w cn.K mg base (L2.CX P w) 2 f fd ["thing", "long"] (spOf cn py_is_line) :=
  fn_okF F sc_is_line rfl rfl (show py_is_line = fnOf 2 3 bo_is_line from rfl) fun cdv A outer s H E c hc g => by
    subst hc
    exact (ds_cons (ds_if (dt_w (dw_or (dt_not (dt_val (de_isi g p1_isTup rfl T.b_isinstance (do_v (de_v 0 (pv 0))) rfl T.b_tuple (by decide +kernel)))) (dw_or1 (dt_cmp g.neD p2_ne (do_v (de_len g rfl T.b_len (do_v (de_v 0 (pv 0))))) (do_v (de_v 1 (pv 1))) (nomark _))))) (ds_one (ds_ret de_bool)) ds_nil)
    (ds_one (ds_ret (de_b1 g.all p1_all rfl T.b_all boot_all (do_v (de_f (df_comp (own := [("one", 2)]) g (di_any g (de_v 0 (pv 0))) (blkOk_by (by kernel_rfl)) (fun _ _ _ _ _ g => (dg_n g.nd (i := 2) rfl (.inl rfl))) (fun _ _ _ _ _ g => dts_nil) (fun _ _ _ _ _ g => (de_callG g G_is_whole (by decide) rfl rfl rfl rfl rfl (da_cons (de_v 2 (pv 2)) (da_cons de_int (da_cons (de_gi rfl rfl T.g_HIGH) da_nil))))))))))))
theorem sc_is_land : FnScope ["thing", "line"] ["thing"] (defScope (top 10)) := ⟨rfl, rfl, rfl, by decide +kernel, rfl, by decide +kernel, by decide +kernel⟩
theorem ok_is_land {f : Addr} {fd : FuncData} (F : FunD cn.K "is_land" "is_land" (defArgs (top 10)) (defBody (top 10)) (defScope (top 10)) [] [] f fd) (T : Tx cn mg) (G_is_line : FnG cn P w mg base 2 "is_line" py_is_line []) :
    FnOk P w cn.K mg base (L2.CX P w) 3 f fd ["thing"] (spOf cn py_is_land) :=
  fn_okF F sc_is_land rfl rfl (show py_is_land = fnOf 1 2 bo_is_land from rfl) fun cdv A outer s H E c hc g => by
    subst hc
    exact (ds_cons (ds_if (dt_w (dw_or (dt_not (dt_val (de_isi g p1_isTup rfl T.b_isinstance (do_v (de_v 0 (pv 0))) rfl T.b_tuple (by decide +kernel)))) (dw_or1 (dt_not (dt_chain op_le p2_le op_le p2_le de_int (de_len g rfl T.b_len (do_v (de_v 0 (pv 0)))) (de_gi rfl rfl T.g_MOST)))))) (ds_one (ds_ret de_bool)) ds_nil)
    (ds_cons (ds_if (dt_w (dw_or (dt_not (dt_val (de_isi g p1_isTup rfl T.b_isinstance (do_v (de_ix g (do_v (de_v 0 (pv 0))) (do_v de_int))) rfl T.b_tuple (by decide +kernel)))) (dw_or1 (dt_not (dt_chain op_le p2_le op_le p2_le de_int (de_len g rfl T.b_len (do_v (de_ix g (do_v (de_v 0 (pv 0))) (do_v de_int)))) (de_gi rfl rfl T.g_MOST)))))) (ds_one (ds_ret de_bool)) ds_nil)
    (ds_one (ds_ret (de_b1 g.all p1_all rfl T.b_all boot_all (do_v (de_f (df_comp (own := [("line", 1)]) g (di_any g (de_v 0 (pv 0))) (blkOk_by (by kernel_rfl)) (fun _ _ _ _ _ g => (dg_n g.nd (i := 1) rfl (.inl rfl))) (fun _ _ _ _ _ g => dts_nil) (fun _ _ _ _ _ g => (de_callG g G_is_line (by decide) rfl rfl rfl rfl rfl (da_cons (de_v 1 (pv 1)) (da_cons (de_len g rfl T.b_len (do_v (de_ix g (do_v (de_v 0 (pv 0))) (do_v de_int)))) da_nil))))))))))))
theorem sc_need_land : FnScope ["thing"] ["thing"] (defScope (top 11)) := ⟨rfl, rfl, rfl, by decide +kernel, rfl, by decide +kernel, by decide +kernel⟩
theorem ok_need_land {f : Addr} {fd : FuncData} (F : FunD cn.K "need_land" "need_land" (defArgs (top 11)) (defBody (top 11)) (defScope (top 11)) [] [] f fd) (T : Tx cn mg) (G_is_land : FnG cn P w mg base 3 "is_land" py_is_land []) :
    FnOk P w cn.K mg base (L2.CX P w) 4 f fd ["thing"] (spOf cn py_need_land) :=
  fn_okF F sc_need_land rfl rfl (show py_need_land = fnOf 1 1 bo_need_land from rfl) fun cdv A outer s H E c hc g => by
    subst hc
    exact (ds_one (ds_if (dt_not (dt_val (de_callG g G_is_land (by decide) rfl rfl rfl rfl rfl (da_cons (de_v 0 (pv 0)) da_nil)))) (ds_one (ds_raiseT g rfl PySem.F.excBase_ValueError T.e_NoLand rfl)) ds_nil))
theorem sc_is_cell : FnScope ["land", "thing"] ["land", "thing"] (defScope (top 12)) := ⟨rfl, rfl, rfl, by decide +kernel, rfl, by decide +kernel, by decide +kernel⟩
theorem ok_is_cell {f : Addr} {fd : FuncData} (F : FunD cn.K "is_cell" "is_cell" (defArgs (top 12)) (defBody (top 12)) (defScope (top 12)) [] [] f fd) (T : Tx cn mg) (G_is_whole : FnG cn P w mg base 1 "is_whole" py_is_whole []) :
    FnOk P w cn.K mg base (L2.CX P w) 2 f fd ["land", "thing"] (spOf cn py_is_cell) :=
  fn_okF F sc_is_cell rfl rfl (show py_is_cell = fnOf 2 2 bo_is_cell from rfl) fun cdv A outer s H E c hc g => by
    subst hc
    exact (ds_cons (ds_if (dt_w (dw_or (dt_not (dt_val (de_isi g p1_isTup rfl T.b_isinstance (do_v (de_v 1 (pv 1))) rfl T.b_tuple (by decide +kernel)))) (dw_or1 (dt_cmp g.neD p2_ne (do_v (de_len g rfl T.b_len (do_v (de_v 1 (pv 1))))) (do_v de_int) (nomark _))))) (ds_one (ds_ret de_bool)) ds_nil)
    (ds_one (ds_ret (de_and (de_callG g G_is_whole (by decide) rfl rfl rfl rfl rfl (da_cons (de_ix g (do_v (de_v 1 (pv 1))) (do_v de_int)) (da_cons de_int (da_cons (de_bin op_sub p2_sub (do_v (de_len g rfl T.b_len (do_v (de_v 0 (pv 0))))) (do_v de_int)) da_nil)))) (de_and1 (de_callG g G_is_whole (by decide) rfl rfl rfl rfl rfl (da_cons (de_ix g (do_v (de_v 1 (pv 1))) (do_v de_int)) (da_cons de_int (da_cons (de_bin op_sub p2_sub (do_v (de_len g rfl T.b_len (do_v (de_ix g (do_v (de_v 0 (pv 0))) (do_v de_int))))) (do_v de_int)) da_nil)))))))))
theorem sc_need_cell : FnScope ["land", "thing"] ["land", "thing"] (defScope (top 13)) := ⟨rfl, rfl, rfl, by decide +kernel, rfl, by decide +kernel, by decide +kernel⟩
theorem ok_need_cell {f : Addr} {fd : FuncData} (F : FunD cn.K "need_cell" "need_cell" (defArgs (top 13)) (defBody (top 13)) (defScope (top 13)) [] [] f fd) (T : Tx cn mg) (G_is_cell : FnG cn P w mg base 2 "is_cell" py_is_cell []) (I_NoCell : ErrI cn P w mg base 1 "NoCell") :
    FnOk P w cn.K mg base (L2.CX P w) 3 f fd ["land", "thing"] (spOf cn py_need_cell) :=
  fn_okF F sc_need_cell rfl rfl (show py_need_cell = fnOf 2 2 bo_need_cell from rfl) fun cdv A outer s H E c hc g => by
    subst hc
    exact (ds_one (ds_if (dt_not (dt_val (de_callG g G_is_cell (by decide) rfl rfl rfl rfl rfl (da_cons (de_v 0 (pv 0)) (da_cons (de_v 1 (pv 1)) da_nil))))) (ds_one (ds_raiseC g I_NoCell (by decide) rfl rfl rfl rfl rfl (de_v 1 (pv 1)))) ds_nil))
theorem sc_need_both : FnScope ["land", "thing"] ["land", "thing"] (defScope (top 14)) := ⟨rfl, rfl, rfl, by decide +kernel, rfl, by decide +kernel, by decide +kernel⟩
theorem ok_need_both {f : Addr} {fd : FuncData} (F : FunD cn.K "need_both" "need_both" (defArgs (top 14)) (defBody (top 14)) (defScope (top 14)) [] [] f fd) (T : Tx cn mg) (G_need_cell : FnG cn P w mg base 3 "need_cell" py_need_cell []) (G_need_land : FnG cn P w mg base 4 "need_land" py_need_land []) :
    FnOk P w cn.K mg base (L2.CX P w) 5 f fd ["land", "thing"] (spOf cn py_need_both) :=
  fn_okF F sc_need_both rfl rfl (show py_need_both = fnOf 2 2 bo_need_both from rfl) fun cdv A outer s H E c hc g => by
    subst hc
    exact (ds_cons (ds_expr (de_callG g G_need_land (by decide) rfl rfl rfl rfl rfl (da_cons (de_v 0 (pv 0)) da_nil)))
    (ds_one (ds_expr (de_callG g G_need_cell (by decide) rfl rfl rfl rfl rfl (da_cons (de_v 0 (pv 0)) (da_cons (de_v 1 (pv 1)) da_nil))))))
theorem sc_at : FnScope ["land", "cell"] ["land", "cell"] (defScope (top 15)) := ⟨rfl, rfl, rfl, by decide +kernel, rfl, by decide +kernel, by decide +kernel⟩
theorem ok_at {f : Addr} {fd : FuncData} (F : FunD cn.K "at" "at" (defArgs (top 15)) (defBody (top 15)) (defScope (top 15)) [] [] f fd) (T : Tx cn mg) :
    FnOk P w cn.K mg base (L2.CX P w) 1 f fd ["land", "cell"] (spOf cn py_at) :=
  fn_okF F sc_at rfl rfl (show py_at = fnOf 2 2 bo_at from rfl) fun cdv A outer s H E c hc g => by
    subst hc
    exact (ds_one (ds_ret (de_ix g (do_v (de_ix g (do_v (de_v 0 (pv 0))) (do_v (de_ix g (do_v (de_v 1 (pv 1))) (do_v de_int))))) (do_v (de_ix g (do_v (de_v 1 (pv 1))) (do_v de_int))))))
theorem sc_beside_of : FnScope ["land", "cell", "down", "across", "some", "one"] ["land", "cell"] (defScope (top 16)) := ⟨rfl, rfl, rfl, by decide +kernel, rfl, by decide +kernel, by decide +kernel⟩
theorem ok_beside_of {f : Addr} {fd : FuncData} (F : FunD cn.K "beside_of" "beside_of" (defArgs (top 16)) (defBody (top 16)) (defScope (top 16)) [] [] f fd) (T : Tx cn mg) (G_is_cell : FnG cn P w mg base 2 "is_cell" py_is_cell []) :
    FnOk P w cn.K mg base (L2.CX P w) 3 f fd ["land", "cell"] (spOf cn py_beside_of) :=
  fn_okF F sc_beside_of rfl rfl (show py_beside_of = fnOf 2 6 bo_beside_of from rfl) fun cdv A outer s H E c hc g => by
    subst hc
    exact (ds_cons (ds_asg (dg_t g (dgs_cons (dg_n g.nd (i := 2) rfl (.inl rfl)) (dgs_cons (dg_n g.nd (i := 3) rfl (.inl rfl)) dgs_nil))) (de_v 1 (pv 1)))
    (ds_cons (ds_set g (i := 4) rfl (.inl rfl) (de_f (df_lst (da_cons (de_tup (da_cons (de_bin op_sub p2_sub (do_v (de_v 2 (pv 2))) (do_v de_int)) (da_cons (de_v 3 (pv 3)) da_nil))) (da_cons (de_tup (da_cons (de_v 2 (pv 2)) (da_cons (de_bin op_sub p2_sub (do_v (de_v 3 (pv 3))) (do_v de_int)) da_nil))) (da_cons (de_tup (da_cons (de_v 2 (pv 2)) (da_cons (de_bin g.addA p2_add (do_v (de_v 3 (pv 3))) (do_v de_int)) da_nil))) (da_cons (de_tup (da_cons (de_bin g.addA p2_add (do_v (de_v 2 (pv 2))) (do_v de_int)) (da_cons (de_v 3 (pv 3)) da_nil))) da_nil)))))))
    (ds_one (ds_ret (de_f (df_comp (own := [("one", 5)]) g (di_any g (de_v 4 (pv 4))) (blkOk_by (by kernel_rfl)) (fun _ _ _ _ _ g => (dg_n g.nd (i := 5) rfl (.inl rfl))) (fun _ _ _ _ _ g => (dts_one (dt_val (de_callG g G_is_cell (by decide) rfl rfl rfl rfl rfl (da_cons (de_v 0 (pv 0)) (da_cons (de_v 5 (pv 5)) da_nil)))))) (fun _ _ _ _ _ g => (de_v 5 (pv 5)))))))))
theorem sc_need_two : FnScope ["land", "one", "other"] ["land", "one", "other"] (defScope (top 18)) := ⟨rfl, rfl, rfl, by decide +kernel, rfl, by decide +kernel, by decide +kernel⟩
theorem ok_need_two {f : Addr} {fd : FuncData} (F : FunD cn.K "need_two" "need_two" (defArgs (top 18)) (defBody (top 18)) (defScope (top 18)) [] [] f fd) (T : Tx cn mg) (G_need_both : FnG cn P w mg base 5 "need_both" py_need_both []) (G_need_cell : FnG cn P w mg base 3 "need_cell" py_need_cell []) :
    FnOk P w cn.K mg base (L2.CX P w) 6 f fd ["land", "one", "other"] (spOf cn py_need_two) :=
  fn_okF F sc_need_two rfl rfl (show py_need_two = fnOf 3 3 bo_need_two from rfl) fun cdv A outer s H E c hc g => by
    subst hc
    exact (ds_cons (ds_expr (de_callG g G_need_both (by decide) rfl rfl rfl rfl rfl (da_cons (de_v 0 (pv 0)) (da_cons (de_v 1 (pv 1)) da_nil))))
    (ds_one (ds_expr (de_callG g G_need_cell (by decide) rfl rfl rfl rfl rfl (da_cons (de_v 0 (pv 0)) (da_cons (de_v 2 (pv 2)) da_nil))))))
theorem sc_prices_to : FnScope ["land", "goal", "price", "found", "level", "later", "cell", "other", "more", "cost"] ["land", "goal", "price"] (defScope (top 19)) := ⟨rfl, rfl, rfl, by decide +kernel, rfl, by decide +kernel, by decide +kernel⟩
theorem ok_prices_to {f : Addr} {fd : FuncData} (F : FunD cn.K "prices_to" "prices_to" (defArgs (top 19)) (defBody (top 19)) (defScope (top 19)) [] [] f fd) (T : Tx cn mg) (G_beside_of : FnG cn P w mg base 3 "beside_of" py_beside_of []) (LTb : LTab cn P w mg base 2 Lt) :
    FnOk P w cn.K mg base (L2.CX P w) 4 f fd ["land", "goal", "price"] (spOf cn (py_prices_to Lt)) :=
  fn_okF F sc_prices_to rfl rfl (show (py_prices_to Lt) = fnOf 3 10 (bo_prices_to Lt) from rfl) fun cdv A outer s H E c hc g => by
    subst hc
    exact (ds_cons (ds_par g (i := 3) (j := 4) rfl rfl (by decide) rfl rfl (df_dct1 g (de_v 1 (pv 1)) (de_tup (da_cons de_int (da_cons de_int da_nil)))) (de_f (df_lst (da_cons (de_v 1 (pv 1)) da_nil))) rfl)
    (ds_cons (ds_while g (dt_cmp g.neD p2_ne (do_v (de_v 4 (pv 4))) (do_v (de_f (df_lst da_nil))) (nomark _)) (ds_cons (ds_setF g (i := 5) rfl (.inl rfl) df_dct0)
    (ds_cons (ds_for g (di_any g (de_v 4 (pv 4))) (dg_n g.nd (i := 6) rfl (.inl rfl)) (ds_one (ds_for g (di_any g (de_callG g G_beside_of (by decide) rfl rfl rfl rfl rfl (da_cons (de_v 0 (pv 0)) (da_cons (de_v 6 (pv 6)) da_nil)))) (dg_n g.nd (i := 7) rfl (.inl rfl)) (ds_cons (ds_set g (i := 8) rfl (.inl rfl) (de_callC g LTb (by decide) rfl rfl rfl rfl (i := 2) rfl (by first | exact .inl rfl | exact .inr (.inl rfl) | exact .inr (.inr rfl)) (da_cons (de_v 7 (pv 7)) (da_cons (de_v 6 (pv 6)) da_nil))))
    (ds_one (ds_if (dt_notN (do_v (de_v 8 (pv 8)))) (ds_cons (ds_set g (i := 9) rfl (.inl rfl) (de_tup (da_cons (de_bin g.addA p2_add (do_v (de_ix g (do_v (de_ixD g (do_b (pv 3)) (do_v (de_v 6 (pv 6))))) (do_v de_int))) (do_v (de_v 8 (pv 8)))) (da_cons (de_bin g.addA p2_add (do_v (de_ix g (do_v (de_ixD g (do_b (pv 3)) (do_v (de_v 6 (pv 6))))) (do_v de_int))) (do_v de_int)) da_nil))))
    (ds_one (ds_if (dt_w (dw_or (dt_cmp g.notInDct p2_notInDct (do_v (de_v 7 (pv 7))) (do_b (pv 3)) (by with_unfolding_all rfl)) (dw_or1 (dt_cmp g.ltA p2_ltT (do_v (de_v 9 (pv 9))) (do_v (de_ixD g (do_b (pv 3)) (do_v (de_v 7 (pv 7))))) (nomark _))))) (ds_cons (ds_putD g (pv 3) (de_v 7 (pv 7)) (de_v 9 (pv 9)))
    (ds_one (ds_putD g (pv 5) (de_v 7 (pv 7)) de_bool))) ds_nil))) ds_nil))))))
    (ds_one (ds_set g (i := 4) rfl (.inl rfl) (de_f (de_b1 g.sortedD p1_sorted rfl T.b_sorted boot_sorted (do_v (de_f (de_ty1 g.listT p1_lstD rfl T.b_list PyProof.Rows.boot_list (do_b (pv 5))))))))))))
    (ds_one (ds_ret (de_v 3 (pv 3))))))
theorem okL_slope_price_0 (T : Tx cn mg) (G_at : FnG cn P w mg base 1 "at" py_at []) (hlm : cn.lm 4 = lmOf "slope_price" (retE ((defBody (top 20)).getD 0 (.Pass ⟨0, 0, 0, 0⟩))) ["land", "slope"]) : LOk cn P w mg base 2 4 ly_slope_price_0 :=
  lam_okM (N := ["first", "second", "land", "slope"]) (ps := ["first", "second"]) hlm (NdefX.nscope_by (by kernel_rfl)) rfl rfl (fun _ _ _ _ us hl => match us, hl with | [_, _], _ => rfl) fun A outer s H E f cl c b0 hb0 g => by
    subst hb0
    exact (de_ite (dt_cmp op_le p2_le (do_v (de_b1 call_abs p1_abs rfl T.b_abs boot_abs (do_v (de_bin op_sub p2_sub (do_v (de_callG g G_at (by decide) rfl rfl rfl rfl rfl (da_cons (de_v 2 (pv 2)) (da_cons (de_v 0 (pv 0)) da_nil)))) (do_v (de_callG g G_at (by decide) rfl rfl rfl rfl rfl (da_cons (de_v 2 (pv 2)) (da_cons (de_v 1 (pv 1)) da_nil)))))))) (do_v (de_v 3 (pv 3))) (nomark _)) de_int de_none)
theorem sc_slope_price : FnScope ["land", "slope"] ["land", "slope"] (defScope (top 20)) := ⟨rfl, rfl, rfl, by decide +kernel, rfl, by decide +kernel, by decide +kernel⟩
theorem ok_slope_price {f : Addr} {fd : FuncData} (F : FunD cn.K "slope_price" "slope_price" (defArgs (top 20)) (defBody (top 20)) (defScope (top 20)) [] [] f fd) (T : Tx cn mg) (hlm0 : cn.lm 4 = lmOf "slope_price" (retE ((defBody (top 20)).getD 0 (.Pass ⟨0, 0, 0, 0⟩))) ["land", "slope"]) {c Pt : Addr} (hc : fd.code = .ref c) (B : LamX.TabB base mg c Pt) (ht : cn.tb[0]? = some (Pt, lamQ "slope_price")) :
    FnOk P w cn.K mg base (L2.CX P w) 1 f fd ["land", "slope"] (spOf cn py_slope_price) :=
  fn_okL (qE := ("slope_price" : Str) ++ ".<locals>.") (fr := ["land", "slope"]) F hc sc_slope_price rfl (show py_slope_price = lamRet 2 4 [0, 1] from rfl) (by rfl) B (fun _ _ _ => rfl) ht hlm0 (fun _ => rfl) (lamF_by (by kernel_rfl)) (lamR_by (by kernel_rfl)) rfl (lamS_by (by kernel_rfl))
theorem sc_steps_by : FnScope ["land", "one", "other", "slope", "found"] ["land", "one", "other", "slope"] (defScope (top 21)) := ⟨rfl, rfl, rfl, by decide +kernel, rfl, by decide +kernel, by decide +kernel⟩
theorem ok_steps_by {f : Addr} {fd : FuncData} (F : FunD cn.K "steps_by" "steps_by" (defArgs (top 21)) (defBody (top 21)) (defScope (top 21)) [] [] f fd) (T : Tx cn mg) (G_prices_to : FnG cn P w mg base 4 "prices_to" (py_prices_to Lt) []) (G_slope_price : FnG cn P w mg base 1 "slope_price" py_slope_price []) :
    FnOk P w cn.K mg base (L2.CX P w) 5 f fd ["land", "one", "other", "slope"] (spOf cn (py_steps_by Lt)) :=
  fn_okF F sc_steps_by rfl rfl (show (py_steps_by Lt) = fnOf 4 5 (bo_steps_by Lt) from rfl) fun cdv A outer s H E c hc g => by
    subst hc
    exact (ds_cons (ds_set g (i := 4) rfl (.inl rfl) (de_callG g G_prices_to (by decide) rfl rfl rfl rfl rfl (da_cons (de_v 0 (pv 0)) (da_cons (de_v 2 (pv 2)) (da_cons (de_callG g G_slope_price (by decide) rfl rfl rfl rfl rfl (da_cons (de_v 0 (pv 0)) (da_cons (de_v 3 (pv 3)) da_nil))) da_nil)))))
    (ds_one (ds_ret (de_ite (dt_cmp g.inDct p2_inDct (do_v (de_v 1 (pv 1))) (do_v (de_v 4 (pv 4))) (by with_unfolding_all rfl)) (de_ix g (do_v (de_ixD g (do_v (de_v 4 (pv 4))) (do_v (de_v 1 (pv 1))))) (do_v de_int)) de_none))))
theorem sc_steps_within : FnScope ["land", "one", "other", "slope"] ["land", "one", "other", "slope"] (defScope (top 22)) := ⟨rfl, rfl, rfl, by decide +kernel, rfl, by decide +kernel, by decide +kernel⟩
theorem ok_steps_within {f : Addr} {fd : FuncData} (F : FunD cn.K "steps_within" "steps_within" (defArgs (top 22)) (defBody (top 22)) (defScope (top 22)) [] [] f fd) (T : Tx cn mg) (G_is_whole : FnG cn P w mg base 1 "is_whole" py_is_whole []) (G_need_two : FnG cn P w mg base 6 "need_two" py_need_two []) (G_steps_by : FnG cn P w mg base 5 "steps_by" (py_steps_by Lt) []) :
    FnOk P w cn.K mg base (L2.CX P w) 7 f fd ["land", "one", "other", "slope"] (spOf cn (py_steps_within Lt)) :=
  fn_okF F sc_steps_within rfl rfl (show (py_steps_within Lt) = fnOf 4 4 (bo_steps_within Lt) from rfl) fun cdv A outer s H E c hc g => by
    subst hc
    exact (ds_cons (ds_expr (de_callG g G_need_two (by decide) rfl rfl rfl rfl rfl (da_cons (de_v 0 (pv 0)) (da_cons (de_v 1 (pv 1)) (da_cons (de_v 2 (pv 2)) da_nil)))))
    (ds_cons (ds_if (dt_not (dt_val (de_callG g G_is_whole (by decide) rfl rfl rfl rfl rfl (da_cons (de_v 3 (pv 3)) (da_cons de_int (da_cons (de_gi rfl rfl T.g_HIGH) da_nil)))))) (ds_one (ds_raiseT g rfl PySem.F.excBase_ValueError T.e_NoSlope rfl)) ds_nil)
    (ds_one (ds_ret (de_callG g G_steps_by (by decide) rfl rfl rfl rfl rfl (da_cons (de_v 0 (pv 0)) (da_cons (de_v 1 (pv 1)) (da_cons (de_v 2 (pv 2)) (da_cons (de_v 3 (pv 3)) da_nil)))))))))
theorem sc_least_steep : FnScope ["land", "one", "other", "low", "high", "middle"] ["land", "one", "other"] (defScope (top 23)) := ⟨rfl, rfl, rfl, by decide +kernel, rfl, by decide +kernel, by decide +kernel⟩
theorem ok_least_steep {f : Addr} {fd : FuncData} (F : FunD cn.K "least_steep" "least_steep" (defArgs (top 23)) (defBody (top 23)) (defScope (top 23)) [] [] f fd) (T : Tx cn mg) (G_need_two : FnG cn P w mg base 6 "need_two" py_need_two []) (G_steps_by : FnG cn P w mg base 5 "steps_by" (py_steps_by Lt) []) :
    FnOk P w cn.K mg base (L2.CX P w) 7 f fd ["land", "one", "other"] (spOf cn (py_least_steep Lt)) :=
  fn_okF F sc_least_steep rfl rfl (show (py_least_steep Lt) = fnOf 3 6 (bo_least_steep Lt) from rfl) fun cdv A outer s H E c hc g => by
    subst hc
    exact (ds_cons (ds_expr (de_callG g G_need_two (by decide) rfl rfl rfl rfl rfl (da_cons (de_v 0 (pv 0)) (da_cons (de_v 1 (pv 1)) (da_cons (de_v 2 (pv 2)) da_nil)))))
    (ds_cons (ds_par g (i := 3) (j := 4) rfl rfl (by decide) rfl rfl (de_un un_neg p1_neg (do_v de_int)) (de_gi rfl rfl T.g_HIGH) rfl)
    (ds_cons (ds_while g (dt_cmp op_lt p2_lt (do_v (de_bin g.addA p2_add (do_v (de_v 3 (pv 3))) (do_v de_int))) (do_v (de_v 4 (pv 4))) (nomark _)) (ds_cons (ds_set g (i := 5) rfl (.inl rfl) (de_bin op_fdiv p2_fdiv (do_v (de_bin g.addA p2_add (do_v (de_v 3 (pv 3))) (do_v (de_v 4 (pv 4))))) (do_v de_int)))
    (ds_one (ds_if (dt_isN (do_v (de_callG g G_steps_by (by decide) rfl rfl rfl rfl rfl (da_cons (de_v 0 (pv 0)) (da_cons (de_v 1 (pv 1)) (da_cons (de_v 2 (pv 2)) (da_cons (de_v 5 (pv 5)) da_nil))))))) (ds_one (ds_set g (i := 3) rfl (.inl rfl) (de_v 5 (pv 5)))) (ds_one (ds_set g (i := 4) rfl (.inl rfl) (de_v 5 (pv 5))))))))
    (ds_one (ds_ret (de_v 4 (pv 4)))))))
theorem sc_law_cell_at : FnScope ["script", "k", "rest", "turn"] ["script", "k"] (defScope (top 25)) := ⟨rfl, rfl, rfl, by decide +kernel, rfl, by decide +kernel, by decide +kernel⟩
theorem ok_law_cell_at {f : Addr} {fd : FuncData} (F : FunD cn.K "_law_cell_at" "_law_cell_at" (defArgs (top 25)) (defBody (top 25)) (defScope (top 25)) [] [] f fd) (T : Tx cn mg) :
    FnOk P w cn.K mg base (L2.CX P w) 1 f fd ["script", "k"] (spOf cn py_law_cell_at) :=
  fn_okF F sc_law_cell_at rfl rfl (show py_law_cell_at = fnOf 2 4 bo_law_cell_at from rfl) fun cdv A outer s H E c hc g => by
    subst hc
    exact (ds_cons (ds_if (dt_cmp op_lt p2_lt (do_v (de_v 1 (pv 1))) (do_v (de_len g rfl T.b_len (do_v (de_v 0 (pv 0))))) (nomark _)) (ds_one (ds_ret (de_ix g (do_v (de_v 0 (pv 0))) (do_v (de_v 1 (pv 1)))))) ds_nil)
    (ds_cons (ds_if (dt_scr0 g (do_v (de_v 0 (pv 0)))) (ds_one (ds_ret de_int)) ds_nil)
    (ds_cons (ds_set g (i := 2) rfl (.inl rfl) (de_ix g (do_v (de_v 0 (pv 0))) (do_v (de_bin op_mod p2_mod (do_v (de_v 1 (pv 1))) (do_v (de_len g rfl T.b_len (do_v (de_v 0 (pv 0)))))))))
    (ds_cons (ds_for g (di_range1 rfl T.b_range (de_b2 (call_min2 g.calm) p2_min2 rfl T.b_min boot_min (do_v (de_bin op_fdiv p2_fdiv (do_v (de_v 1 (pv 1))) (do_v (de_len g rfl T.b_len (do_v (de_v 0 (pv 0))))))) (do_v de_int))) (dg_n g.nd (i := 3) rfl (.inl rfl)) (ds_one (ds_set g (i := 2) rfl (.inl rfl) (de_bin op_fdiv p2_fdiv (do_v (de_v 2 (pv 2))) (do_v de_int)))))
    (ds_one (ds_ret (de_bin g.addA p2_add (do_v (de_bin g.addA p2_add (do_v (de_bin op_mul p2_mul (do_v (de_ix g (do_v (de_v 0 (pv 0))) (do_v (de_bin op_mod p2_mod (do_v (de_v 1 (pv 1))) (do_v (de_len g rfl T.b_len (do_v (de_v 0 (pv 0))))))))) (do_v de_int))) (do_v (de_v 1 (pv 1))))) (do_v (de_bin op_mul p2_mul (do_v (de_v 2 (pv 2))) (do_v de_int))))))))))
theorem sc_law_mixed : FnScope ["script", "k", "bound", "drawn"] ["script", "k", "bound"] (defScope (top 26)) := ⟨rfl, rfl, rfl, by decide +kernel, rfl, by decide +kernel, by decide +kernel⟩
theorem ok_law_mixed {f : Addr} {fd : FuncData} (F : FunD cn.K "_law_mixed" "_law_mixed" (defArgs (top 26)) (defBody (top 26)) (defScope (top 26)) [] [] f fd) (T : Tx cn mg) (G_law_cell_at : FnG cn P w mg base 1 "_law_cell_at" py_law_cell_at []) :
    FnOk P w cn.K mg base (L2.CX P w) 2 f fd ["script", "k", "bound"] (spOf cn py_law_mixed) :=
  fn_okF F sc_law_mixed rfl rfl (show py_law_mixed = fnOf 3 4 bo_law_mixed from rfl) fun cdv A outer s H E c hc g => by
    subst hc
    exact (ds_cons (ds_set g (i := 3) rfl (.inl rfl) (de_bin op_mod p2_mod (do_v (de_bin g.addA p2_add (do_v (de_bin g.addA p2_add (do_v (de_bin op_mul p2_mul (do_v (de_callG g G_law_cell_at (by decide) rfl rfl rfl rfl rfl (da_cons (de_v 0 (pv 0)) (da_cons (de_v 1 (pv 1)) da_nil)))) (do_v de_int))) (do_v (de_bin op_mul p2_mul (do_v de_int) (do_v (de_v 1 (pv 1))))))) (do_v de_int))) (do_v de_int)))
    (ds_one (ds_ret (de_bin op_mod p2_mod (do_v (de_bin op_mod p2_mod (do_v (de_bin op_mod p2_mod (do_v (de_bin op_pow p2_pow (do_v (de_v 3 (pv 3))) (do_v de_int))) (do_v de_int))) (do_v de_int))) (do_v (de_v 2 (pv 2)))))))
theorem sc_law_draw : FnScope ["script", "town", "bound"] ["script", "town", "bound"] (defScope (top 27)) := ⟨rfl, rfl, rfl, by decide +kernel, rfl, by decide +kernel, by decide +kernel⟩
theorem ok_law_draw {f : Addr} {fd : FuncData} (F : FunD cn.K "_law_draw" "_law_draw" (defArgs (top 27)) (defBody (top 27)) (defScope (top 27)) [] [] f fd) (T : Tx cn mg) (G_law_mixed : FnG cn P w mg base 2 "_law_mixed" py_law_mixed []) :
    FnOk P w cn.K mg base (L2.CX P w) 3 f fd ["script", "town", "bound"] (spOf cn py_law_draw) :=
  fn_okF F sc_law_draw rfl rfl (show py_law_draw = fnOf 3 3 bo_law_draw from rfl) fun cdv A outer s H E c hc g => by
    subst hc
    exact (ds_cons (ds_town (pv 1))
    (ds_one (ds_ret (de_callG g G_law_mixed (by decide) rfl rfl rfl rfl rfl (da_cons (de_v 0 (pv 0)) (da_cons (de_len g rfl T.b_len (do_v (de_v 1 (pv 1)))) (da_cons (de_v 2 (pv 2)) da_nil)))))))
theorem sc_law_pick : FnScope ["script", "town", "some"] ["script", "town", "some"] (defScope (top 28)) := ⟨rfl, rfl, rfl, by decide +kernel, rfl, by decide +kernel, by decide +kernel⟩
theorem ok_law_pick {f : Addr} {fd : FuncData} (F : FunD cn.K "_law_pick" "_law_pick" (defArgs (top 28)) (defBody (top 28)) (defScope (top 28)) [] [] f fd) (T : Tx cn mg) (G_law_draw : FnG cn P w mg base 3 "_law_draw" py_law_draw []) :
    FnOk P w cn.K mg base (L2.CX P w) 4 f fd ["script", "town", "some"] (spOf cn py_law_pick) :=
  fn_okF F sc_law_pick rfl rfl (show py_law_pick = fnOf 3 3 bo_law_pick from rfl) fun cdv A outer s H E c hc g => by
    subst hc
    exact (ds_one (ds_ret (de_ix g (do_v (de_v 2 (pv 2))) (do_v (de_callG g G_law_draw (by decide) rfl rfl rfl rfl rfl (da_cons (de_v 0 (pv 0)) (da_cons (de_v 1 (pv 1)) (da_cons (de_len g rfl T.b_len (do_v (de_v 2 (pv 2)))) da_nil))))))))
theorem sc_law_land : FnScope ["script", "town", "bound", "tall", "wide", "high", "turn", "k"] ["script", "town", "bound"] (defScope (top 29)) := ⟨rfl, rfl, rfl, by decide +kernel, rfl, by decide +kernel, by decide +kernel⟩
theorem ok_law_land {f : Addr} {fd : FuncData} (F : FunD cn.K "_law_land" "_law_land" (defArgs (top 29)) (defBody (top 29)) (defScope (top 29)) [] [] f fd) (T : Tx cn mg) (G_law_draw : FnG cn P w mg base 3 "_law_draw" py_law_draw []) (G_law_pick : FnG cn P w mg base 4 "_law_pick" py_law_pick []) :
    FnOk P w cn.K mg base (L2.CX P w) 5 f fd ["script", "town", "bound"] (spOf cn py_law_land) :=
  fn_okF F sc_law_land rfl rfl (show py_law_land = fnOf 3 8 bo_law_land from rfl) fun cdv A outer s H E c hc g => by
    subst hc
    exact (ds_cons (ds_parC g (i := 3) (j := 4) rfl rfl (by decide) (.inl rfl) (.inr rfl) (de_bin g.addA p2_add (do_v de_int) (do_v (de_callG g G_law_draw (by decide) rfl rfl rfl rfl rfl (da_cons (de_v 0 (pv 0)) (da_cons (de_v 1 (pv 1)) (da_cons (de_v 2 (pv 2)) da_nil)))))) (de_bin g.addA p2_add (do_v de_int) (do_v (de_callG g G_law_draw (by decide) rfl rfl rfl rfl rfl (da_cons (de_v 0 (pv 0)) (da_cons (de_v 1 (pv 1)) (da_cons (de_v 2 (pv 2)) da_nil)))))))
    (ds_cons (ds_set g (i := 5) rfl (.inr rfl) (de_callG g G_law_pick (by decide) rfl rfl rfl rfl rfl (da_cons (de_v 0 (pv 0)) (da_cons (de_v 1 (pv 1)) (da_cons (de_f (df_lst (da_cons de_int (da_cons de_int (da_cons de_int (da_cons de_int (da_cons de_int (da_cons de_int da_nil)))))))) da_nil)))))
    (ds_one (ds_ret (de_ty1 g.tuple p1_tuple rfl T.b_tuple PyProof.Rows.boot_tuple (do_v (de_f (df_comp (own := [("turn", 6)]) g (di_range1 rfl T.b_range (de_v 3 (pv 3))) (blkOk_by (by kernel_rfl)) (fun _ _ _ _ _ g => (dg_n g.nd (i := 6) rfl (.inl rfl))) (fun _ _ _ _ _ g => dts_nil) (fun _ _ _ _ _ g => (de_ty1 g.tuple p1_tuple rfl T.b_tuple PyProof.Rows.boot_tuple (do_v (de_f (df_comp (own := [("k", 7)]) g (di_range1 rfl T.b_range (de_v 4 (pv 4))) (blkOk_by (by kernel_rfl)) (fun _ _ _ _ _ g => (dg_n g.nd (i := 7) rfl (.inl rfl))) (fun _ _ _ _ _ g => dts_nil) (fun _ _ _ _ _ g => (de_callG g G_law_draw (by decide) rfl rfl rfl rfl rfl (da_cons (de_v 0 (pv 0)) (da_cons (de_v 1 (pv 1)) (da_cons (de_v 5 (pv 5)) da_nil))))))))))))))))))
theorem sc_law_cells : FnScope ["land", "made", "down", "across"] ["land"] (defScope (top 30)) := ⟨rfl, rfl, rfl, by decide +kernel, rfl, by decide +kernel, by decide +kernel⟩
theorem ok_law_cells {f : Addr} {fd : FuncData} (F : FunD cn.K "_law_cells" "_law_cells" (defArgs (top 30)) (defBody (top 30)) (defScope (top 30)) [] [] f fd) (T : Tx cn mg) :
    FnOk P w cn.K mg base (L2.CX P w) 1 f fd ["land"] (spOf cn py_law_cells) :=
  fn_okF F sc_law_cells rfl rfl (show py_law_cells = fnOf 1 4 bo_law_cells from rfl) fun cdv A outer s H E c hc g => by
    subst hc
    exact (ds_cons (ds_setF g (i := 1) rfl (.inl rfl) (df_lst da_nil))
    (ds_cons (ds_for g (di_range1 rfl T.b_range (de_len g rfl T.b_len (do_v (de_v 0 (pv 0))))) (dg_n g.nd (i := 2) rfl (.inr rfl)) (ds_one (ds_extend (pv 1) (de_f (df_comp (own := [("across", 3)]) g (di_range1 rfl T.b_range (de_len g rfl T.b_len (do_v (de_ix g (do_v (de_v 0 (pv 0))) (do_v de_int))))) (blkOk_by (by kernel_rfl)) (fun _ _ _ _ _ g => (dg_n g.nd (i := 3) rfl (.inl rfl))) (fun _ _ _ _ _ g => dts_nil) (fun _ _ _ _ _ g => (de_tup (da_cons (de_v 2 (pv 2)) (da_cons (de_v 3 (pv 3)) da_nil)))))))))
    (ds_one (ds_ret (de_v 1 (pv 1))))))
theorem sc_law_high : FnScope ["land", "spot"] ["land", "spot"] (defScope (top 31)) := ⟨rfl, rfl, rfl, by decide +kernel, rfl, by decide +kernel, by decide +kernel⟩
theorem ok_law_high {f : Addr} {fd : FuncData} (F : FunD cn.K "_law_high" "_law_high" (defArgs (top 31)) (defBody (top 31)) (defScope (top 31)) [] [] f fd) (T : Tx cn mg) :
    FnOk P w cn.K mg base (L2.CX P w) 1 f fd ["land", "spot"] (spOf cn py_law_high) :=
  fn_okF F sc_law_high rfl rfl (show py_law_high = fnOf 2 2 bo_law_high from rfl) fun cdv A outer s H E c hc g => by
    subst hc
    exact (ds_one (ds_ret (de_ix g (do_v (de_ix g (do_v (de_v 0 (pv 0))) (do_v (de_ix g (do_v (de_v 1 (pv 1))) (do_v de_int))))) (do_v (de_ix g (do_v (de_v 1 (pv 1))) (do_v de_int))))))
theorem sc_law_near : FnScope ["one", "other"] ["one", "other"] (defScope (top 32)) := ⟨rfl, rfl, rfl, by decide +kernel, rfl, by decide +kernel, by decide +kernel⟩
theorem ok_law_near {f : Addr} {fd : FuncData} (F : FunD cn.K "_law_near" "_law_near" (defArgs (top 32)) (defBody (top 32)) (defScope (top 32)) [] [] f fd) (T : Tx cn mg) :
    FnOk P w cn.K mg base (L2.CX P w) 1 f fd ["one", "other"] (spOf cn py_law_near) :=
  fn_okF F sc_law_near rfl rfl (show py_law_near = fnOf 2 2 bo_law_near from rfl) fun cdv A outer s H E c hc g => by
    subst hc
    exact (ds_one (ds_ret (de_cmp g.eqD p2_eq (do_v (de_bin g.addA p2_add (do_v (de_b1 call_abs p1_abs rfl T.b_abs boot_abs (do_v (de_bin op_sub p2_sub (do_v (de_ix g (do_v (de_v 0 (pv 0))) (do_v de_int))) (do_v (de_ix g (do_v (de_v 1 (pv 1))) (do_v de_int))))))) (do_v (de_b1 call_abs p1_abs rfl T.b_abs boot_abs (do_v (de_bin op_sub p2_sub (do_v (de_ix g (do_v (de_v 0 (pv 0))) (do_v de_int))) (do_v (de_ix g (do_v (de_v 1 (pv 1))) (do_v de_int))))))))) (do_v de_int) (nomark _))))
theorem sc_law_beside : FnScope ["land", "spot", "other"] ["land", "spot"] (defScope (top 33)) := ⟨rfl, rfl, rfl, by decide +kernel, rfl, by decide +kernel, by decide +kernel⟩
theorem ok_law_beside {f : Addr} {fd : FuncData} (F : FunD cn.K "_law_beside" "_law_beside" (defArgs (top 33)) (defBody (top 33)) (defScope (top 33)) [] [] f fd) (T : Tx cn mg) (G_law_cells : FnG cn P w mg base 1 "_law_cells" py_law_cells []) (G_law_near : FnG cn P w mg base 1 "_law_near" py_law_near []) :
    FnOk P w cn.K mg base (L2.CX P w) 2 f fd ["land", "spot"] (spOf cn py_law_beside) :=
  fn_okF F sc_law_beside rfl rfl (show py_law_beside = fnOf 2 3 bo_law_beside from rfl) fun cdv A outer s H E c hc g => by
    subst hc
    exact (ds_one (ds_ret (de_f (df_comp (own := [("other", 2)]) g (di_any g (de_callG g G_law_cells (by decide) rfl rfl rfl rfl rfl (da_cons (de_v 0 (pv 0)) da_nil))) (blkOk_by (by kernel_rfl)) (fun _ _ _ _ _ g => (dg_n g.nd (i := 2) rfl (.inl rfl))) (fun _ _ _ _ _ g => (dts_one (dt_val (de_callG g G_law_near (by decide) rfl rfl rfl rfl rfl (da_cons (de_v 1 (pv 1)) (da_cons (de_v 2 (pv 2)) da_nil)))))) (fun _ _ _ _ _ g => (de_v 2 (pv 2)))))))
theorem sc_law_steps : FnScope ["land", "one", "slope", "far", "level", "many", "later", "spot", "other", "more"] ["land", "one", "slope"] (defScope (top 34)) := ⟨rfl, rfl, rfl, by decide +kernel, rfl, by decide +kernel, by decide +kernel⟩
theorem ok_law_steps {f : Addr} {fd : FuncData} (F : FunD cn.K "_law_steps" "_law_steps" (defArgs (top 34)) (defBody (top 34)) (defScope (top 34)) [] [] f fd) (T : Tx cn mg) (G_law_beside : FnG cn P w mg base 2 "_law_beside" py_law_beside []) (G_law_high : FnG cn P w mg base 1 "_law_high" py_law_high []) :
    FnOk P w cn.K mg base (L2.CX P w) 3 f fd ["land", "one", "slope"] (spOf cn py_law_steps_v1) :=
  fn_okF F sc_law_steps rfl rfl (show py_law_steps_v1 = fnOf 3 10 bo_law_steps_v1 from rfl) fun cdv A outer s H E c hc g => by
    subst hc
    exact (ds_cons (ds_par3b g (i := 3) (j := 4) (l := 5) rfl rfl rfl (by decide) rfl rfl rfl (df_dct1 g (de_v 1 (pv 1)) de_int) (de_f (df_lst (da_cons (de_v 1 (pv 1)) da_nil))) pe_int (fun _ _ => by simp only [Rep]) rfl)
    (ds_cons (ds_while g (dt_cmp g.neD p2_ne (do_v (de_v 4 (pv 4))) (do_v (de_f (df_lst da_nil))) (nomark _)) (ds_cons (ds_par g (i := 6) (j := 5) rfl rfl (by decide) rfl rfl (df_lst da_nil) (de_bin g.addA p2_add (do_v (de_v 5 (pv 5))) (do_v de_int)) rfl)
    (ds_cons (ds_for g (di_any g (de_v 4 (pv 4))) (dg_n g.nd (i := 7) rfl (.inl rfl)) (ds_one (ds_for g (di_any g (de_callG g G_law_beside (by decide) rfl rfl rfl rfl rfl (da_cons (de_v 0 (pv 0)) (da_cons (de_v 7 (pv 7)) da_nil)))) (dg_n g.nd (i := 8) rfl (.inl rfl)) (ds_cons (ds_set g (i := 9) rfl (.inl rfl) (de_b1 call_abs p1_abs rfl T.b_abs boot_abs (do_v (de_bin op_sub p2_sub (do_v (de_callG g G_law_high (by decide) rfl rfl rfl rfl rfl (da_cons (de_v 0 (pv 0)) (da_cons (de_v 7 (pv 7)) da_nil)))) (do_v (de_callG g G_law_high (by decide) rfl rfl rfl rfl rfl (da_cons (de_v 0 (pv 0)) (da_cons (de_v 8 (pv 8)) da_nil))))))))
    (ds_one (ds_if (dt_w (dw_and (dt_cmp g.notInDct p2_notInDct (do_v (de_v 8 (pv 8))) (do_b (pv 3)) (by with_unfolding_all rfl)) (dw_and1 (dt_cmp op_le p2_le (do_v (de_v 9 (pv 9))) (do_v (de_v 2 (pv 2))) (nomark _))))) (ds_cons (ds_putD g (pv 3) (de_v 8 (pv 8)) (de_v 5 (pv 5)))
    (ds_one (ds_append (pv 6) (de_v 8 (pv 8))))) ds_nil))))))
    (ds_one (ds_set g (i := 4) rfl (.inl rfl) (de_v 6 (pv 6)))))))
    (ds_one (ds_ret (de_v 3 (pv 3))))))
theorem sc_law : FnScope ["script", "town", "land", "cells", "one", "other", "slope", "due", "steep"] ["script"] (defScope (top 35)) := ⟨rfl, rfl, rfl, by decide +kernel, rfl, by decide +kernel, by decide +kernel⟩
theorem ok_law {f : Addr} {fd : FuncData} (F : FunD cn.K "law" "law" (defArgs (top 35)) (defBody (top 35)) (defScope (top 35)) [] [] f fd) (T : Tx cn mg) (G_law_cells : FnG cn P w mg base 1 "_law_cells" py_law_cells []) (G_law_draw : FnG cn P w mg base 3 "_law_draw" py_law_draw []) (G_law_land : FnG cn P w mg base 5 "_law_land" py_law_land []) (G_law_pick : FnG cn P w mg base 4 "_law_pick" py_law_pick []) (G_law_steps : FnG cn P w mg base 3 "_law_steps" py_law_steps_v1 []) (G_least_steep : FnG cn P w mg base 7 "least_steep" (py_least_steep Lt) []) (G_steps_within : FnG cn P w mg base 7 "steps_within" (py_steps_within Lt) []) :
    FnOk P w cn.K mg base (L2.CX P w) 8 f fd ["script"] (spOf cn py_law) :=
  fn_okF F sc_law rfl rfl (show py_law = fnOf 1 9 bo_law from rfl) fun cdv A outer s H E c hc g => by
    subst hc
    exact (ds_cons (ds_town0 g (i := 1) rfl (.inl rfl))
    (ds_cons (ds_set g (i := 2) rfl (.inl rfl) (de_callG g G_law_land (by decide) rfl rfl rfl rfl rfl (da_cons (de_v 0 (pv 0)) (da_cons (de_v 1 (pv 1)) (da_cons de_int da_nil)))))
    (ds_cons (ds_set g (i := 3) rfl (.inl rfl) (de_callG g G_law_cells (by decide) rfl rfl rfl rfl rfl (da_cons (de_v 2 (pv 2)) da_nil)))
    (ds_cons (ds_par g (i := 4) (j := 5) rfl rfl (by decide) rfl rfl (de_callG g G_law_pick (by decide) rfl rfl rfl rfl rfl (da_cons (de_v 0 (pv 0)) (da_cons (de_v 1 (pv 1)) (da_cons (de_v 3 (pv 3)) da_nil)))) (de_callG g G_law_pick (by decide) rfl rfl rfl rfl rfl (da_cons (de_v 0 (pv 0)) (da_cons (de_v 1 (pv 1)) (da_cons (de_v 3 (pv 3)) da_nil)))) rfl)
    (ds_cons (ds_set g (i := 6) rfl (.inl rfl) (de_callG g G_law_pick (by decide) rfl rfl rfl rfl rfl (da_cons (de_v 0 (pv 0)) (da_cons (de_v 1 (pv 1)) (da_cons (de_f (df_lst (da_cons de_int (da_cons de_int (da_cons de_int (da_cons de_int (da_cons de_int (da_cons de_int (da_cons de_int (da_cons (de_callG g G_law_draw (by decide) rfl rfl rfl rfl rfl (da_cons (de_v 0 (pv 0)) (da_cons (de_v 1 (pv 1)) (da_cons de_int da_nil)))) da_nil)))))))))) da_nil)))))
    (ds_cons (ds_set g (i := 7) rfl (.inl rfl) (de_callG g G_law_steps (by decide) rfl rfl rfl rfl rfl (da_cons (de_v 2 (pv 2)) (da_cons (de_v 4 (pv 4)) (da_cons (de_v 6 (pv 6)) da_nil)))))
    (ds_cons (ds_if (dt_cmp g.neD p2_ne (do_v (de_callG g G_steps_within (by decide) rfl rfl rfl rfl rfl (da_cons (de_v 2 (pv 2)) (da_cons (de_v 4 (pv 4)) (da_cons (de_v 5 (pv 5)) (da_cons (de_v 6 (pv 6)) da_nil)))))) (do_v (de_getD1 g (pv 7) (da_cons (de_v 5 (pv 5)) da_nil))) (nomark _)) (ds_one (ds_ret de_bool)) ds_nil)
    (ds_cons (ds_if (dt_cmp g.neD p2_ne (do_v (de_callG g G_steps_within (by decide) rfl rfl rfl rfl rfl (da_cons (de_v 2 (pv 2)) (da_cons (de_v 5 (pv 5)) (da_cons (de_v 4 (pv 4)) (da_cons (de_v 6 (pv 6)) da_nil)))))) (do_v (de_getD1 g (pv 7) (da_cons (de_v 5 (pv 5)) da_nil))) (nomark _)) (ds_one (ds_ret de_bool)) ds_nil)
    (ds_cons (ds_set g (i := 8) rfl (.inl rfl) (de_callG g G_least_steep (by decide) rfl rfl rfl rfl rfl (da_cons (de_v 2 (pv 2)) (da_cons (de_v 4 (pv 4)) (da_cons (de_v 5 (pv 5)) da_nil)))))
    (ds_cons (ds_if (dt_w (dw_or (dt_cmp g.notInDct p2_notInDct (do_v (de_v 5 (pv 5))) (do_v (de_callG g G_law_steps (by decide) rfl rfl rfl rfl rfl (da_cons (de_v 2 (pv 2)) (da_cons (de_v 4 (pv 4)) (da_cons (de_v 8 (pv 8)) da_nil))))) (by with_unfolding_all rfl)) (dw_or1 (dt_isN (do_v (de_callG g G_steps_within (by decide) rfl rfl rfl rfl rfl (da_cons (de_v 2 (pv 2)) (da_cons (de_v 4 (pv 4)) (da_cons (de_v 5 (pv 5)) (da_cons (de_v 8 (pv 8)) da_nil)))))))))) (ds_one (ds_ret de_bool)) ds_nil)
    (ds_cons (ds_if (dt_cmp op_gt p2_gt (do_v (de_v 8 (pv 8))) (do_v de_int) (nomark _)) (ds_one (ds_if (dt_w (dw_or (dt_cmp g.inDct p2_inDct (do_v (de_v 5 (pv 5))) (do_v (de_callG g G_law_steps (by decide) rfl rfl rfl rfl rfl (da_cons (de_v 2 (pv 2)) (da_cons (de_v 4 (pv 4)) (da_cons (de_bin op_sub p2_sub (do_v (de_v 8 (pv 8))) (do_v de_int)) da_nil))))) (by with_unfolding_all rfl)) (dw_or1 (dt_notN (do_v (de_callG g G_steps_within (by decide) rfl rfl rfl rfl rfl (da_cons (de_v 2 (pv 2)) (da_cons (de_v 4 (pv 4)) (da_cons (de_v 5 (pv 5)) (da_cons (de_bin op_sub p2_sub (do_v (de_v 8 (pv 8))) (do_v de_int)) da_nil)))))))))) (ds_one (ds_ret de_bool)) ds_nil)) ds_nil)
    (ds_one (ds_ret (de_and (de_cmp g.eqD p2_eq (do_v (de_callG g G_least_steep (by decide) rfl rfl rfl rfl rfl (da_cons (de_v 2 (pv 2)) (da_cons (de_v 4 (pv 4)) (da_cons (de_v 4 (pv 4)) da_nil))))) (do_v de_int) (nomark _)) (de_and1 (de_cmp g.eqD p2_eq (do_v (de_callG g G_least_steep (by decide) rfl rfl rfl rfl rfl (da_cons (de_v 2 (pv 2)) (da_cons (de_v 5 (pv 5)) (da_cons (de_v 4 (pv 4)) da_nil))))) (do_v (de_v 8 (pv 8))) (nomark _)))))))))))))))))
end
end Pk
namespace Pk
open PySem PySem.Spec PyProof.Rows L2
def hd_is_whole : He.DefD := ⟨("is_whole", none), "is_whole", "is_whole", defArgs (top 8), defBody (top 8), defScope (top 8), [], []⟩
def hd_is_line : He.DefD := ⟨("is_line", none), "is_line", "is_line", defArgs (top 9), defBody (top 9), defScope (top 9), [], []⟩
def hd_is_land : He.DefD := ⟨("is_land", none), "is_land", "is_land", defArgs (top 10), defBody (top 10), defScope (top 10), [], []⟩
def hd_need_land : He.DefD := ⟨("need_land", none), "need_land", "need_land", defArgs (top 11), defBody (top 11), defScope (top 11), [], []⟩
def hd_is_cell : He.DefD := ⟨("is_cell", none), "is_cell", "is_cell", defArgs (top 12), defBody (top 12), defScope (top 12), [], []⟩
def hd_need_cell : He.DefD := ⟨("need_cell", none), "need_cell", "need_cell", defArgs (top 13), defBody (top 13), defScope (top 13), [], []⟩
def hd_need_both : He.DefD := ⟨("need_both", none), "need_both", "need_both", defArgs (top 14), defBody (top 14), defScope (top 14), [], []⟩
def hd_at : He.DefD := ⟨("at", none), "at", "at", defArgs (top 15), defBody (top 15), defScope (top 15), [], []⟩
def hd_beside_of : He.DefD := ⟨("beside_of", none), "beside_of", "beside_of", defArgs (top 16), defBody (top 16), defScope (top 16), [], []⟩
def hd_need_two : He.DefD := ⟨("need_two", none), "need_two", "need_two", defArgs (top 18), defBody (top 18), defScope (top 18), [], []⟩
def hd_prices_to : He.DefD := ⟨("prices_to", none), "prices_to", "prices_to", defArgs (top 19), defBody (top 19), defScope (top 19), [], []⟩
def hd_slope_price : He.DefD := ⟨("slope_price", none), "slope_price", "slope_price", defArgs (top 20), defBody (top 20), defScope (top 20), [], []⟩
def hd_steps_by : He.DefD := ⟨("steps_by", none), "steps_by", "steps_by", defArgs (top 21), defBody (top 21), defScope (top 21), [], []⟩
def hd_steps_within : He.DefD := ⟨("steps_within", none), "steps_within", "steps_within", defArgs (top 22), defBody (top 22), defScope (top 22), [], []⟩
def hd_least_steep : He.DefD := ⟨("least_steep", none), "least_steep", "least_steep", defArgs (top 23), defBody (top 23), defScope (top 23), [], []⟩
def hd_law_cell_at : He.DefD := ⟨("_law_cell_at", none), "_law_cell_at", "_law_cell_at", defArgs (top 25), defBody (top 25), defScope (top 25), [], []⟩
def hd_law_mixed : He.DefD := ⟨("_law_mixed", none), "_law_mixed", "_law_mixed", defArgs (top 26), defBody (top 26), defScope (top 26), [], []⟩
def hd_law_draw : He.DefD := ⟨("_law_draw", none), "_law_draw", "_law_draw", defArgs (top 27), defBody (top 27), defScope (top 27), [], []⟩
def hd_law_pick : He.DefD := ⟨("_law_pick", none), "_law_pick", "_law_pick", defArgs (top 28), defBody (top 28), defScope (top 28), [], []⟩
def hd_law_land : He.DefD := ⟨("_law_land", none), "_law_land", "_law_land", defArgs (top 29), defBody (top 29), defScope (top 29), [], []⟩
def hd_law_cells : He.DefD := ⟨("_law_cells", none), "_law_cells", "_law_cells", defArgs (top 30), defBody (top 30), defScope (top 30), [], []⟩
def hd_law_high : He.DefD := ⟨("_law_high", none), "_law_high", "_law_high", defArgs (top 31), defBody (top 31), defScope (top 31), [], []⟩
def hd_law_near : He.DefD := ⟨("_law_near", none), "_law_near", "_law_near", defArgs (top 32), defBody (top 32), defScope (top 32), [], []⟩
def hd_law_beside : He.DefD := ⟨("_law_beside", none), "_law_beside", "_law_beside", defArgs (top 33), defBody (top 33), defScope (top 33), [], []⟩
def hd_law_steps : He.DefD := ⟨("_law_steps", none), "_law_steps", "_law_steps", defArgs (top 34), defBody (top 34), defScope (top 34), [], []⟩
def hd_law : He.DefD := ⟨("law", none), "law", "law", defArgs (top 35), defBody (top 35), defScope (top 35), [], []⟩
def hd_NoCell_init : He.DefD := ⟨("NoCell", some "__init__"), "__init__", "NoCell.__init__", defArgs (clsM (top 3)), defBody (clsM (top 3)), defScope (clsM (top 3)), [], []⟩
def hfn0 : List He.DefD := [
  hd_is_whole,
  hd_is_line,
  hd_is_land,
  hd_need_land,
  hd_is_cell,
  hd_need_cell,
  hd_need_both,
  hd_at,
  hd_beside_of,
  hd_need_two,
  hd_prices_to,
  hd_slope_price]
def hfn1 : List He.DefD := [
  hd_steps_by,
  hd_steps_within,
  hd_least_steep,
  hd_law_cell_at,
  hd_law_mixed,
  hd_law_draw,
  hd_law_pick,
  hd_law_land,
  hd_law_cells,
  hd_law_high,
  hd_law_near,
  hd_law_beside]
def hfn2 : List He.DefD := [
  hd_law_steps,
  hd_law,
  hd_NoCell_init]
def hfn : List He.DefD := hfn0 ++ hfn1 ++ hfn2
def hfa : List He.Fa := ([.glo "is_whole", .glo "is_line", .glo "is_land", .glo "need_land", .glo "is_cell", .glo "need_cell", .glo "need_both", .glo "at", .glo "beside_of", .glo "need_two", .glo "prices_to", .glo "slope_price"] : List He.Fa) ++ ([.glo "steps_by", .glo "steps_within", .glo "least_steep", .glo "_law_cell_at", .glo "_law_mixed", .glo "_law_draw", .glo "_law_pick", .glo "_law_land", .glo "_law_cells", .glo "_law_high", .glo "_law_near", .glo "_law_beside"] : List He.Fa) ++ ([.glo "_law_steps", .glo "law", .glo "NoLand", .glo "NoCell", .glo "NoSlope", .glo "LandError", .exc "NoLand", .exc "NoSlope", .int "HIGH" 999, .int "MOST" 8, .free "abs", .free "all"] : List He.Fa) ++ ([.free "bool", .free "int", .free "isinstance", .free "len", .free "list", .free "min", .free "range", .free "sorted", .free "tuple"] : List He.Fa)
def hnames : List PySem.Str := (["LandError", "NoLand", "NoCell", "NoSlope", "MOST", "HIGH", "is_whole", "is_line", "is_land", "need_land", "is_cell", "need_cell"] : List PySem.Str) ++ (["need_both", "at", "beside_of", "need_two", "prices_to", "slope_price", "steps_by", "steps_within", "least_steep", "_law_cell_at", "_law_mixed", "_law_draw"] : List PySem.Str) ++ (["_law_pick", "_law_land", "_law_cells", "_law_high", "_law_near", "_law_beside", "_law_steps"] : List PySem.Str)
abbrev hrow : PySem.W.OpenRow := PySem.W.OpenLaw.row PySem.Challenge.rw_peakland_k14_whole_steep
def hfx (K : PySem.W.Frag) : Bool := true && oexA K (exCls K 1)
def htf : List He.Defn := [("slope_price", none)]
abbrev hhk : PySem.W.Hook := hookY 5 hfa hfn hfx htf
def hob (s : PySem.W.SharedT) : He.AlD × Bool := obsY 5 hfa hfn hfx htf (HandSHeadRun.getT s)
theorem hob_eq (s : PySem.W.SharedT) : hob s = hhk.obs s.abs := obsY_eq (HandSHeadRun.getT_eq s)
def hlm : Nat → Lm := fun j => match j with
  | 4 => lmOf "slope_price" (retE ((defBody (top 20)).getD 0 (.Pass ⟨0, 0, 0, 0⟩))) ["land", "slope"]
  | _ => ⟨"", default, default, default, []⟩
abbrev htb (K : PySem.W.Frag) : List (Addr × Str) := [((He.cT K ("slope_price", none)).2, lamQ "slope_price")]
set_option maxHeartbeats 0 in
theorem hrun (w : World) : HandSHeadRun.RunEq hrow (PySem.W.view hrow.prog [35]) hhk hob 9000 hnames w := by
  intro os
  kernel_rfl
theorem facts {P : Program} {w : World} {cn : Cn} {h : Heap} {mg : Str → Option Value} {f : Addr} (X : cn.K.In h) (G : h.Ns mainGlobals mg) (hlw : mg ("law" : Str) = some (.ref f)) (cX : SaysX hfa hfn hfx cn.K) (hc : cn.cls = exCls cn.K) (hv : cn.fn = fun _ => He.ga cn.K "_law_near") (htb : cn.tb = htb cn.K) (hlm : cn.lm = hlm) :
    ∃ fd : FuncData, (∀ (s : Shared) (v : Value), BindsTo s fd ⟨[v], []⟩ [("script", v)]) ∧ ∀ base : Heap, (∀ p ∈ htf.map (He.cT cn.K), LamX.TabB base mg p.1 p.2) → FnOk P w cn.K mg base (L2.CX P w) 8 f fd ["script"] (spOf cn py_law) := by
  have c := cX.d
  have O1 : OexA cn.K (cn.cls 1) := by rw [hc]; exact oexA_ok (He.ba cX.x).2
  have T : Tx cn mg := ⟨errC_of hc (k := 0) rfl X G (c.fact 30 (f := .exc "NoLand") rfl) (c.fact 26 (f := .glo "NoLand") rfl),
    errC_of hc (k := 4) rfl X G (c.fact 31 (f := .exc "NoSlope") rfl) (c.fact 28 (f := .glo "NoSlope") rfl),
    He.free_ok X G (c.fact 34 (f := .free "abs") rfl),
    He.free_ok X G (c.fact 35 (f := .free "all") rfl),
    He.free_ok X G (c.fact 36 (f := .free "bool") rfl),
    He.free_ok X G (c.fact 37 (f := .free "int") rfl),
    He.free_ok X G (c.fact 38 (f := .free "isinstance") rfl),
    He.free_ok X G (c.fact 39 (f := .free "len") rfl),
    He.free_ok X G (c.fact 40 (f := .free "list") rfl),
    He.free_ok X G (c.fact 41 (f := .free "min") rfl),
    He.free_ok X G (c.fact 42 (f := .free "range") rfl),
    He.free_ok X G (c.fact 43 (f := .free "sorted") rfl),
    He.free_ok X G (c.fact 44 (f := .free "tuple") rfl),
    He.int_ok X G (c.fact 32 (f := .int "HIGH" 999) rfl),
    He.int_ok X G (c.fact 33 (f := .int "MOST" 8) rfl)⟩
  obtain ⟨fd_is_whole, F_is_whole⟩ := c.def_ 0 (d := hd_is_whole) rfl
  obtain ⟨fd_is_line, F_is_line⟩ := c.def_ 1 (d := hd_is_line) rfl
  obtain ⟨fd_is_land, F_is_land⟩ := c.def_ 2 (d := hd_is_land) rfl
  obtain ⟨fd_need_land, F_need_land⟩ := c.def_ 3 (d := hd_need_land) rfl
  obtain ⟨fd_is_cell, F_is_cell⟩ := c.def_ 4 (d := hd_is_cell) rfl
  obtain ⟨fd_need_cell, F_need_cell⟩ := c.def_ 5 (d := hd_need_cell) rfl
  obtain ⟨fd_need_both, F_need_both⟩ := c.def_ 6 (d := hd_need_both) rfl
  obtain ⟨fd_at, F_at⟩ := c.def_ 7 (d := hd_at) rfl
  obtain ⟨fd_beside_of, F_beside_of⟩ := c.def_ 8 (d := hd_beside_of) rfl
  obtain ⟨fd_need_two, F_need_two⟩ := c.def_ 9 (d := hd_need_two) rfl
  obtain ⟨fd_prices_to, F_prices_to⟩ := c.def_ 10 (d := hd_prices_to) rfl
  obtain ⟨fd_slope_price, F_slope_price⟩ := c.def_ 11 (d := hd_slope_price) rfl
  obtain ⟨fd_steps_by, F_steps_by⟩ := c.def_ 12 (d := hd_steps_by) rfl
  obtain ⟨fd_steps_within, F_steps_within⟩ := c.def_ 13 (d := hd_steps_within) rfl
  obtain ⟨fd_least_steep, F_least_steep⟩ := c.def_ 14 (d := hd_least_steep) rfl
  obtain ⟨fd_law_cell_at, F_law_cell_at⟩ := c.def_ 15 (d := hd_law_cell_at) rfl
  obtain ⟨fd_law_mixed, F_law_mixed⟩ := c.def_ 16 (d := hd_law_mixed) rfl
  obtain ⟨fd_law_draw, F_law_draw⟩ := c.def_ 17 (d := hd_law_draw) rfl
  obtain ⟨fd_law_pick, F_law_pick⟩ := c.def_ 18 (d := hd_law_pick) rfl
  obtain ⟨fd_law_land, F_law_land⟩ := c.def_ 19 (d := hd_law_land) rfl
  obtain ⟨fd_law_cells, F_law_cells⟩ := c.def_ 20 (d := hd_law_cells) rfl
  obtain ⟨fd_law_high, F_law_high⟩ := c.def_ 21 (d := hd_law_high) rfl
  obtain ⟨fd_law_near, F_law_near⟩ := c.def_ 22 (d := hd_law_near) rfl
  obtain ⟨fd_law_beside, F_law_beside⟩ := c.def_ 23 (d := hd_law_beside) rfl
  obtain ⟨fd_law_steps, F_law_steps⟩ := c.def_ 24 (d := hd_law_steps) rfl
  obtain ⟨fd_law, F_law⟩ := c.def_ 25 (d := hd_law) rfl
  obtain ⟨fd_NoCell_init, F_NoCell_init⟩ := c.def_ 26 (d := hd_NoCell_init) rfl
  have el := hlw.symm.trans (He.glo_ok X G (c.fact 25 (f := .glo "law") rfl))
  cases el
  have bl := FunD.bindsA (ps := ["script"]) F_law fun _ _ _ _ _ _ us hl => match us, hl with | [_], _ => rfl
  refine ⟨fd_law, fun s v => bl s [v] rfl, fun base tbs => ?_⟩
  have I_NoCell : ErrI cn P w mg base 1 "NoCell" := errI_of hc rfl X G (c.fact 27 (f := .glo "NoCell") rfl) O1 F_NoCell_init sc_NoCell_init (fun f cdv A outer s H E => pss_one (ps_ost (pv 0) (pv 1))) fun _ _ _ _ _ _ us hl => match us, hl with | [_, _], _ => rfl
  have G_is_whole : FnG cn P w mg base 1 "is_whole" py_is_whole [] := fnG_of F_is_whole (ok_is_whole F_is_whole T) (He.glo_ok X G (c.fact 0 (f := .glo "is_whole") rfl)) fun _ _ _ _ _ _ us hl => match us, hl with | [_, _, _], _ => rfl
  have G_is_line : FnG cn P w mg base 2 "is_line" py_is_line [] := fnG_of F_is_line (ok_is_line F_is_line T G_is_whole) (He.glo_ok X G (c.fact 1 (f := .glo "is_line") rfl)) fun _ _ _ _ _ _ us hl => match us, hl with | [_, _], _ => rfl
  have G_is_land : FnG cn P w mg base 3 "is_land" py_is_land [] := fnG_of F_is_land (ok_is_land F_is_land T G_is_line) (He.glo_ok X G (c.fact 2 (f := .glo "is_land") rfl)) fun _ _ _ _ _ _ us hl => match us, hl with | [_], _ => rfl
  have G_need_land : FnG cn P w mg base 4 "need_land" py_need_land [] := fnG_of F_need_land (ok_need_land F_need_land T G_is_land) (He.glo_ok X G (c.fact 3 (f := .glo "need_land") rfl)) fun _ _ _ _ _ _ us hl => match us, hl with | [_], _ => rfl
  have G_is_cell : FnG cn P w mg base 2 "is_cell" py_is_cell [] := fnG_of F_is_cell (ok_is_cell F_is_cell T G_is_whole) (He.glo_ok X G (c.fact 4 (f := .glo "is_cell") rfl)) fun _ _ _ _ _ _ us hl => match us, hl with | [_, _], _ => rfl
  have G_need_cell : FnG cn P w mg base 3 "need_cell" py_need_cell [] := fnG_of F_need_cell (ok_need_cell F_need_cell T G_is_cell I_NoCell) (He.glo_ok X G (c.fact 5 (f := .glo "need_cell") rfl)) fun _ _ _ _ _ _ us hl => match us, hl with | [_, _], _ => rfl
  have G_need_both : FnG cn P w mg base 5 "need_both" py_need_both [] := fnG_of F_need_both (ok_need_both F_need_both T G_need_cell G_need_land) (He.glo_ok X G (c.fact 6 (f := .glo "need_both") rfl)) fun _ _ _ _ _ _ us hl => match us, hl with | [_, _], _ => rfl
  have G_at : FnG cn P w mg base 1 "at" py_at [] := fnG_of F_at (ok_at F_at T) (He.glo_ok X G (c.fact 7 (f := .glo "at") rfl)) fun _ _ _ _ _ _ us hl => match us, hl with | [_, _], _ => rfl
  have G_beside_of : FnG cn P w mg base 3 "beside_of" py_beside_of [] := fnG_of F_beside_of (ok_beside_of F_beside_of T G_is_cell) (He.glo_ok X G (c.fact 8 (f := .glo "beside_of") rfl)) fun _ _ _ _ _ _ us hl => match us, hl with | [_, _], _ => rfl
  have G_need_two : FnG cn P w mg base 6 "need_two" py_need_two [] := fnG_of F_need_two (ok_need_two F_need_two T G_need_both G_need_cell) (He.glo_ok X G (c.fact 9 (f := .glo "need_two") rfl)) fun _ _ _ _ _ _ us hl => match us, hl with | [_, _, _], _ => rfl
  have LK_slope_price_0 : LOk cn P w mg base 2 4 ly_slope_price_0 := okL_slope_price_0 T G_at (by rw [hlm]; rfl)
  have LTb : LTab cn P w mg base 2 Lt := (.cons LK_slope_price_0 (by decide) .nil)
  have G_prices_to : FnG cn P w mg base 4 "prices_to" (py_prices_to Lt) [] := fnG_of F_prices_to (ok_prices_to F_prices_to T G_beside_of LTb) (He.glo_ok X G (c.fact 10 (f := .glo "prices_to") rfl)) fun _ _ _ _ _ _ us hl => match us, hl with | [_, _, _], _ => rfl
  have G_slope_price : FnG cn P w mg base 1 "slope_price" py_slope_price [] := fnG_of F_slope_price (ok_slope_price F_slope_price T (by rw [hlm]; rfl) (code_at (p := ("slope_price", none)) F_slope_price) (tbs (He.cT cn.K ("slope_price", none)) (List.mem_map.mpr ⟨("slope_price", none), by decide, rfl⟩)) (by rw [htb]; rfl)) (He.glo_ok X G (c.fact 11 (f := .glo "slope_price") rfl)) fun _ _ _ _ _ _ us hl => match us, hl with | [_, _], _ => rfl
  have G_steps_by : FnG cn P w mg base 5 "steps_by" (py_steps_by Lt) [] := fnG_of F_steps_by (ok_steps_by F_steps_by T G_prices_to G_slope_price) (He.glo_ok X G (c.fact 12 (f := .glo "steps_by") rfl)) fun _ _ _ _ _ _ us hl => match us, hl with | [_, _, _, _], _ => rfl
  have G_steps_within : FnG cn P w mg base 7 "steps_within" (py_steps_within Lt) [] := fnG_of F_steps_within (ok_steps_within F_steps_within T G_is_whole G_need_two G_steps_by) (He.glo_ok X G (c.fact 13 (f := .glo "steps_within") rfl)) fun _ _ _ _ _ _ us hl => match us, hl with | [_, _, _, _], _ => rfl
  have G_least_steep : FnG cn P w mg base 7 "least_steep" (py_least_steep Lt) [] := fnG_of F_least_steep (ok_least_steep F_least_steep T G_need_two G_steps_by) (He.glo_ok X G (c.fact 14 (f := .glo "least_steep") rfl)) fun _ _ _ _ _ _ us hl => match us, hl with | [_, _, _], _ => rfl
  have G_law_cell_at : FnG cn P w mg base 1 "_law_cell_at" py_law_cell_at [] := fnG_of F_law_cell_at (ok_law_cell_at F_law_cell_at T) (He.glo_ok X G (c.fact 15 (f := .glo "_law_cell_at") rfl)) fun _ _ _ _ _ _ us hl => match us, hl with | [_, _], _ => rfl
  have G_law_mixed : FnG cn P w mg base 2 "_law_mixed" py_law_mixed [] := fnG_of F_law_mixed (ok_law_mixed F_law_mixed T G_law_cell_at) (He.glo_ok X G (c.fact 16 (f := .glo "_law_mixed") rfl)) fun _ _ _ _ _ _ us hl => match us, hl with | [_, _, _], _ => rfl
  have G_law_draw : FnG cn P w mg base 3 "_law_draw" py_law_draw [] := fnG_of F_law_draw (ok_law_draw F_law_draw T G_law_mixed) (He.glo_ok X G (c.fact 17 (f := .glo "_law_draw") rfl)) fun _ _ _ _ _ _ us hl => match us, hl with | [_, _, _], _ => rfl
  have G_law_pick : FnG cn P w mg base 4 "_law_pick" py_law_pick [] := fnG_of F_law_pick (ok_law_pick F_law_pick T G_law_draw) (He.glo_ok X G (c.fact 18 (f := .glo "_law_pick") rfl)) fun _ _ _ _ _ _ us hl => match us, hl with | [_, _, _], _ => rfl
  have G_law_land : FnG cn P w mg base 5 "_law_land" py_law_land [] := fnG_of F_law_land (ok_law_land F_law_land T G_law_draw G_law_pick) (He.glo_ok X G (c.fact 19 (f := .glo "_law_land") rfl)) fun _ _ _ _ _ _ us hl => match us, hl with | [_, _, _], _ => rfl
  have G_law_cells : FnG cn P w mg base 1 "_law_cells" py_law_cells [] := fnG_of F_law_cells (ok_law_cells F_law_cells T) (He.glo_ok X G (c.fact 20 (f := .glo "_law_cells") rfl)) fun _ _ _ _ _ _ us hl => match us, hl with | [_], _ => rfl
  have G_law_high : FnG cn P w mg base 1 "_law_high" py_law_high [] := fnG_of F_law_high (ok_law_high F_law_high T) (He.glo_ok X G (c.fact 21 (f := .glo "_law_high") rfl)) fun _ _ _ _ _ _ us hl => match us, hl with | [_, _], _ => rfl
  have G_law_near : FnG cn P w mg base 1 "_law_near" py_law_near [] := fnG_of F_law_near (ok_law_near F_law_near T) (He.glo_ok X G (c.fact 22 (f := .glo "_law_near") rfl)) fun _ _ _ _ _ _ us hl => match us, hl with | [_, _], _ => rfl
  have G_law_beside : FnG cn P w mg base 2 "_law_beside" py_law_beside [] := fnG_of F_law_beside (ok_law_beside F_law_beside T G_law_cells G_law_near) (He.glo_ok X G (c.fact 23 (f := .glo "_law_beside") rfl)) fun _ _ _ _ _ _ us hl => match us, hl with | [_, _], _ => rfl
  have G_law_steps : FnG cn P w mg base 3 "_law_steps" py_law_steps_v1 [] := fnG_of F_law_steps (ok_law_steps F_law_steps T G_law_beside G_law_high) (He.glo_ok X G (c.fact 24 (f := .glo "_law_steps") rfl)) fun _ _ _ _ _ _ us hl => match us, hl with | [_, _, _], _ => rfl
  exact ok_law F_law T G_law_cells G_law_draw G_law_land G_law_pick G_law_steps G_least_steep G_steps_within
end Pk
open PySem PySem.W PySem.Calls PyProof.Rows
set_option maxHeartbeats 0 in
theorem PySem.Challenge.cw_peakland_k14_whole_steep_holds : PySem.Challenge.rw_peakland_k14_whole_steep.Holds := by
  w_on; o_law
  refine HandSHeadRun.head_any (r := OpenLaw.row PySem.Challenge.rw_peakland_k14_whole_steep) (q := view (OpenLaw.row PySem.Challenge.rw_peakland_k14_whole_steep).prog [35]) (H := Pk.hhk) (ob := Pk.hob) (M := 9000) (loose := Pk.hnames) (d := HandSHeadRun.topDef (OpenLaw.row PySem.Challenge.rw_peakland_k14_whole_steep).prog 35) (kwd := []) Pk.hob_eq
    (by kernel_rfl) (fun s => by kernel_rfl) Pk.hrun (by kernel_rfl) (by kernel_rfl) (by kernel_rfl) (by rfl) (by first | assumption | decide +kernel) (by decide +kernel) ⟨rfl, rfl, rfl, rfl, rfl, by decide +kernel⟩ ?hw ?hc
  case hw => w_witness2
  case hc =>
    refine Pk.law_endT (l := PySem.Challenge.rw_peakland_k14_whole_steep) (n := 63) (k := 8) (x := "script") (Fp := Pk.py_law) rfl (by decide) (by kernel_rfl) ⟨rfl, by decide, by decide⟩ ?F Pk.law_ok
    intro w mg fa h Y G hmg0
    obtain ⟨K, KX, c⟩ := Y
    have hmg : mg ("law" : PySem.Str) = some (.ref fa) := by
      have e : (HandSHeadRun.topDef (OpenLaw.row PySem.Challenge.rw_peakland_k14_whole_steep).prog 35).name = ("law" : PySem.Str) := by kernel_rfl
      rw [← e]
      exact hmg0
    obtain ⟨fd, hb, hF⟩ := Pk.facts (P := (PySem.Challenge.rw_peakland_k14_whole_steep).prog) (w := w) (cn := ⟨K, fun _ => He.ga K "_law_near", Pk.exCls K, 0, Pk.htb K, Pk.hlm⟩) KX G hmg c.x rfl rfl rfl rfl
    exact ⟨⟨K, fun _ => He.ga K "_law_near", Pk.exCls K, 0, Pk.htb K, Pk.hlm⟩, fd, Pk.htf.map (He.cT K), rfl, c.nd, fun p hp => by obtain ⟨q, hq, rfl⟩ := List.mem_map.mp hp; exact c.empty q hq, fun p hp => by obtain ⟨q, hq, rfl⟩ := List.mem_map.mp hp; exact c.out q hq,
      fun p hp => by obtain ⟨q, hq, rfl⟩ := List.mem_map.mp hp; exact PySem.W.codeHd_of_K KX (c.hd q hq), KX, hb, hF⟩
