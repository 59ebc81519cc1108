import PyProof.Rows.All
import Wide.All
import OpenK.AllK
import Wide.FinOn
import KE.KStateDown
import HandS.CallLocal
import HandS.CallSlots
import HandS.Conv
import HandS.Deep
import HandS.Defaults
import HandS.Dict
import HandS.EndTab
import HandS.Ends
import HandS.ExcField
import HandS.ExcInit
import HandS.ExcIs
import HandS.ExcOwn
import HandS.FStr
import HandS.ForExc
import HandS.ForMost
import HandS.Head0
import HandS.Head1
import HandS.Head2
import HandS.HeadEnd
import HandS.HeadHook1
import HandS.HeadHook2
import HandS.HeadHook4
import HandS.HotCalls
import HandS.IsInst
import HandS.Iter
import HandS.Lambda
import HandS.List
import HandS.MakeKw
import HandS.Nested
import HandS.OwnEq
import HandS.Rev
import HandS.RevRange
import HandS.SetFor
import HandS.Small
import HandS.SortKw
import HandS.SortOrd
import HandS.Star
import HandS.Strs
import HandS.Style
import HandS.Text
import HandS.TryMany
import HandS.TryOnly
import HandS.TupAny
import HandS.TupMul
import HandS.TupSets
import HandS.Words
import HandS.Zip
import KE.DataFind
import KE.DataMinMax
import KE.GoesEnum
import KE.KCallOwn
import KE.KDictCopyH
import KE.KDictDisplayH
import KE.KDictList
import KE.KDictPairs
import KE.KExcIs
import KE.SortData
import KE.SortKeyHeap
import OpenK.KOps
import PyProof.Rows.StrJoinRep
import PyProof.StrBlock2
import PySem.Str
import PySem.Challenge.RW_peakland_k26_whole_watchers
set_option Elab.async false
set_option linter.all false
set_option autoImplicit false
set_option maxRecDepth 100000
set_option maxHeartbeats 4000000
/-! Pk0: a small language of plain values. Each Python def of the program and of the laws is written as a term of
these combinators; what it computes is then a plain Lean function. No heap here: lists and dicts are values; a slot
of the frame that holds a list which only this frame knows is marked `ow` (owned) and may be changed in place. -/
namespace Pk
open PySem (Str)

/-- a limit that no reckoning opens: true just where p holds -/
noncomputable def lim (p : Prop) : Bool := @decide p (Classical.propDecidable p)
theorem lim_of {p : Prop} (h : p) : lim p = true := @decide_eq_true p (Classical.propDecidable p) h
theorem of_lim {p : Prop} (h : lim p = true) : p := @of_decide_eq_true p (Classical.propDecidable p) h
@[simp] theorem lim_iff {p : Prop} : (lim p = true) ↔ p := ⟨of_lim, lim_of⟩
noncomputable section
/-- a dict's key: a number, a tuple of numbers -/
inductive Ky where
  | i (n : Int)
  | t (l : List Int)
  deriving DecidableEq, Inhabited
inductive D where
  | none | bool (b : Bool) | int (i : Int) | str (x : Str)
  | tup (l : List D) | lst (l : List D) | dct (ks : List Ky) (vs : List D)
  | fn (k : Nat) | clo (k : Nat) (l : List D) | town | obj (n : Nat) | scr (l : List Int)
  deriving Inhabited

def Ky.d : Ky → D
  | .i n => .int n
  | .t l => .tup (l.map .int)

/-- a slot of a frame: nothing known, a value that may be shared, a list or dict that only this slot knows -/
inductive Sl where
  | no | sh (d : D) | ow (d : D) | mt (R : List (List D))
  deriving Inhabited
abbrev Env := List Sl
/-- what calls may change: how long the town is (if there is one), the fields of the objects -/
structure Sto where
  t : Option Nat
  o : List (List (Str × D))
/-- an exception: its class, what it was made with (NoCell, NoPeak) -/
structure Xc where
  cls : Nat
  arg : Option D

inductive R (α : Type) where
  | ok (a : α) (r : Env) (s : Sto)
  | exc (x : Xc) (r : Env) (s : Sto)
  | bad
abbrev M (α : Type) := Env → Sto → R α
def R.bind {α β : Type} : R α → (α → Env → Sto → R β) → R β
  | .ok a r s, f => f a r s
  | .exc x r s, _ => .exc x r s
  | .bad, _ => .bad
@[simp] theorem R.bind_ok {α β : Type} {a : α} {r : Env} {s : Sto} {f : α → Env → Sto → R β} : (R.ok a r s).bind f = f a r s := rfl
@[simp] theorem R.bind_exc {α β : Type} {x : Xc} {r : Env} {s : Sto} {f : α → Env → Sto → R β} : (R.exc x r s : R α).bind f = .exc x r s := rfl
@[simp] theorem R.bind_bad {α β : Type} {f : α → Env → Sto → R β} : (R.bad : R α).bind f = .bad := rfl

/-- a def's end -/
inductive FR where
  | ok (d : D) (s : Sto)
  | exc (x : Xc) (s : Sto)
  | bad
abbrev Fn := List D → Sto → FR

def opt {α : Type} (o : Option α) (r : Env) (s : Sto) : R α := match o with
  | some a => .ok a r s
  | .none => .bad
@[simp] theorem opt_some {α : Type} {a : α} {r : Env} {s : Sto} : opt (some a) r s = .ok a r s := rfl
@[simp] theorem opt_none {α : Type} {r : Env} {s : Sto} : opt (Option.none : Option α) r s = .bad := rfl

/-! ### expressions -/
@[simp] def eC (d : D) : M D := fun r s => .ok d r s
/-- a name; a list that only this frame knew may from now on be shared -/
@[simp] def eV (i : Nat) : M D := fun r s => match r[i]? with
  | some (.sh d) => .ok d r s
  | some (.ow d) => .ok d (r.set i (.sh d)) s
  | some (.mt R) => .ok (.lst (R.map .lst)) (r.set i (.sh (.lst (R.map .lst)))) s
  | _ => .bad
/-- an operand: a value, or the content of a slot that is only looked at -/
inductive Opd where
  | v (m : M D)
  | b (i : Nat)
@[simp] def Opd.run : Opd → M (D ⊕ Nat)
  | .v m => fun r s => (m r s).bind fun d r s => .ok (.inl d) r s
  | .b i => fun r s => match r[i]? with
    | some (.sh _) => .ok (.inr i) r s
    | some (.ow _) => .ok (.inr i) r s
    | _ => .bad
@[simp] def look (r : Env) : D ⊕ Nat → Option D
  | .inl d => some d
  | .inr i => match r[i]? with
    | some (.sh d) => some d
    | some (.ow d) => some d
    | _ => .none
@[simp] def e1 (p : D → Option D) (a : Opd) : M D := fun r s => (a.run r s).bind fun x r s => opt ((look r x).bind p) r s
@[simp] def e2 (p : D → D → Option D) (a b : Opd) : M D := fun r s => (a.run r s).bind fun x r s => (b.run r s).bind fun y r s =>
  opt ((look r x).bind fun d => (look r y).bind fun e => p d e) r s
@[simp] def e3 (p : D → D → D → Option D) (a b c : Opd) : M D := fun r s => (a.run r s).bind fun x r s => (b.run r s).bind fun y r s => (c.run r s).bind fun z r s =>
  opt ((look r x).bind fun d => (look r y).bind fun e => (look r z).bind fun f => p d e f) r s
@[simp] def eL : List (M D) → M (List D)
  | [] => fun r s => .ok [] r s
  | m :: ms => fun r s => (m r s).bind fun d r s => (eL ms r s).bind fun ds r s => .ok (d :: ds) r s
@[simp] def eTup (ms : List (M D)) : M D := fun r s => (eL ms r s).bind fun ds r s => .ok (.tup ds) r s
@[simp] def eLst (ms : List (M D)) : M D := fun r s => (eL ms r s).bind fun ds r s => .ok (.lst ds) r s
def FR.at (f : FR) (r : Env) : R D := match f with
  | .ok d s => .ok d r s
  | .exc x s => .exc x r s
  | .bad => .bad
@[simp] theorem FR.at_ok {d : D} {s : Sto} {r : Env} : (FR.ok d s).at r = .ok d r s := rfl
@[simp] theorem FR.at_exc {x : Xc} {s : Sto} {r : Env} : (FR.exc x s).at r = .exc x r s := rfl
@[simp] theorem FR.at_bad {r : Env} : FR.bad.at r = .bad := rfl
/-- a call of a def; dv: the defaults that fill up -/
@[simp] def eCall (f : Fn) (ms : List (M D)) (dv : List D) : M D := fun r s => (eL ms r s).bind fun ds r s => (f (ds ++ dv) s).at r
@[simp] def eAnd (a b : M D) : M D := fun r s => (a r s).bind fun d r s => match d with
  | .bool true => b r s
  | .bool false => .ok (.bool false) r s
  | _ => .bad
@[simp] def eOr (a b : M D) : M D := fun r s => (a r s).bind fun d r s => match d with
  | .bool true => .ok (.bool true) r s
  | .bool false => b r s
  | _ => .bad
@[simp] def eNot (a : M D) : M D := fun r s => (a r s).bind fun d r s => match d with
  | .bool b => .ok (.bool !b) r s
  | _ => .bad
@[simp] def eIte (c a b : M D) : M D := fun r s => (c r s).bind fun d r s => match d with
  | .bool true => a r s
  | .bool false => b r s
  | _ => .bad
/-- a comparison of three -/
@[simp] def eChain (p q : D → D → Option D) (a b c : M D) : M D := fun r s => (a r s).bind fun x r s => (b r s).bind fun y r s =>
  match p x y with
  | some (.bool true) => (c r s).bind fun z r s => opt (q y z) r s
  | some (.bool false) => .ok (.bool false) r s
  | _ => .bad

/-! ### targets: names, tuples of targets -/
inductive Tg where
  | n (i : Nat)
  | t (l : List Tg)
mutual
@[simp] def setT (r : Env) : Tg → D → Option Env
  | .n i, d => some (r.set i (.sh d))
  | .t l, .tup ds => setTs r l ds
  | .t l, .lst ds => setTs r l ds
  | .t _, _ => .none
@[simp] def setTs (r : Env) : List Tg → List D → Option Env
  | [], [] => some r
  | g :: gs, d :: ds => (setT r g d).bind fun r => setTs r gs ds
  | _, _ => .none
end

def SZ : Nat := 16777216
/-! ### what a loop walks: its items -/
abbrev It := M (List D)
@[simp] def itemsOf : D → Option (List D)
  | .lst l => some l
  | .tup l => some l
  | .str x => if lim (x.cps.size ≤ SZ) then some (x.cps.toList.map fun c => .str ⟨#[c]⟩) else .none
  | _ => .none
/-- a list, a tuple, a dict's keys, a text -/
@[simp] def iOf (m : M D) : It := fun r s => (m r s).bind fun d r s => opt (itemsOf d) r s
def upto (lo : Int) (n : Nat) : List D := (List.range n).map fun (k : Nat) => .int (lo + (k : Int))
def small (i : Int) : Bool := lim (-(2 ^ 62) ≤ i ∧ i < 2 ^ 62)
@[simp] def iRange1 (a : M D) : It := fun r s => (a r s).bind fun d r s => match d with
  | .int j => if small j && lim (j ≤ (SZ : Int)) then .ok (upto 0 j.toNat) r s else .bad
  | _ => .bad
@[simp] def iRange2 (a b : M D) : It := fun r s => (a r s).bind fun d r s => (b r s).bind fun e r s => match d, e with
  | .int i, .int j => if small i && small j && lim (j - i ≤ (SZ : Int)) then .ok (upto i (j - i).toNat) r s else .bad
  | _, _ => .bad
def numbered (l : List D) : List D := (List.range l.length).map fun (k : Nat) => .tup [.int (k : Int), l.getD k .none]
def paired (l m : List D) : List D := (List.range (min l.length m.length)).map fun (k : Nat) => .tup [l.getD k .none, m.getD k .none]
/-- enumerate(list) -/
@[simp] def iEnumL (m : M D) : It := fun r s => (m r s).bind fun d r s => match d with
  | .lst l => .ok (numbered l) r s
  | _ => .bad

/-! ### comprehensions -/
@[simp] def wipeL (r : Env) : List Nat → Env
  | [] => r
  | i :: is => (wipeL r is).set i .no
/-- behind a comprehension: its own names are as ahead of it -/
def backL (r0 r : Env) : List Nat → Env
  | [] => r
  | i :: is => (backL r0 r is).set i (r0.getD i .no)
@[simp] def notOw (r : Env) (is : List Nat) : Bool := is.all fun i => match r[i]? with
  | some (.ow _) => false
  | some (.mt _) => false
  | some _ => true
  | _ => false
/-- the items one after the other: g is set, c is asked, e is reckoned -/
def compLoop (g : Tg) (own : List Nat) (c e : M D) : List D → List D → M (List D)
  | [], acc => fun r s => .ok acc.reverse r s
  | d :: ds, acc => fun r s => match setT (wipeL r own) g d with
    | some r1 => match c r1 s with
      | .ok (.bool true) r2 s2 => match e r2 s2 with
        | .ok y r3 s3 => compLoop g own c e ds (y :: acc) r3 s3
        | _ => .bad
      | .ok (.bool false) r2 s2 => compLoop g own c e ds acc r2 s2
      | _ => .bad
    | .none => .bad
def eComp (it : It) (g : Tg) (own : List Nat) (c e : M D) : M D := fun r s => (it r s).bind fun ds r s =>
  if notOw r own then (compLoop g own c e ds [] r s).bind fun ys r1 s => .ok (.lst ys) (backL r r1 own) s else .bad
@[simp] def eYes : M D := eC (.bool true)

/-! ### statements -/
inductive Fl where
  | nx | rt (d : D) | bk | ct
abbrev S := M Fl
/-- what is never reached -/
@[simp] def sNever : S := fun _ _ => .bad
@[simp] def sNil : S := fun r s => .ok .nx r s
@[simp] def sSeq (a b : S) : S := fun r s => (a r s).bind fun f r s => match f with
  | .nx => b r s
  | f => .ok f r s
@[simp] def sRet (e : M D) : S := fun r s => (e r s).bind fun d r s => .ok (.rt d) r s
@[simp] def sBrk : S := fun r s => .ok .bk r s
@[simp] def sExpr (e : M D) : S := fun r s => (e r s).bind fun _ r s => .ok .nx r s
/-- x = e; fresh: e makes a new list or dict, which only x knows from now on -/
@[simp] def sSet (fresh : Bool) (i : Nat) (e : M D) : S := fun r s => (e r s).bind fun d r s => .ok .nx (r.set i (if fresh then .ow d else .sh d)) s
/-- town = [] -/
@[simp] def sTown0 (i : Nat) : S := fun r s => match s.t with
  | .none => .ok .nx (r.set i (.sh .town)) { s with t := some 0 }
  | some _ => .bad
@[simp] def sAsg (g : Tg) (e : M D) : S := fun r s => (e r s).bind fun d r s => (opt (setT r g d) r s).bind fun r1 r s => .ok .nx r1 s
/-- x, y = a, b -/
@[simp] def sPar (f1 f2 : Bool) (i j : Nat) (a b : M D) : S := fun r s => (a r s).bind fun d r s => (b r s).bind fun e r s =>
  .ok .nx ((r.set i (if f1 then .ow d else .sh d)).set j (if f2 then .ow e else .sh e)) s
/-- x, y, .. = a, b, .. of values that may be shared -/
@[simp] def setAll (r : Env) : List Nat → List D → Env
  | i :: is, d :: ds => setAll (r.set i (.sh d)) is ds
  | _, _ => r
@[simp] def sParV (is : List Nat) (ms : List (M D)) : S := fun r s => (eL ms r s).bind fun ds r s => .ok .nx (setAll r is ds) s
@[simp] def sIf (c : M D) (a b : S) : S := fun r s => (c r s).bind fun d r s => match d with
  | .bool true => a r s
  | .bool false => b r s
  | _ => .bad
def forL (g : Tg) (b : S) : List D → S
  | [] => fun r s => .ok .nx r s
  | d :: ds => fun r s => match setT r g d with
    | some r1 => (b r1 s).bind fun f r s => match f with
      | .nx => forL g b ds r s
      | .ct => forL g b ds r s
      | .bk => .ok .nx r s
      | .rt d => .ok (.rt d) r s
    | .none => .bad
@[simp] def sFor (it : It) (g : Tg) (b : S) : S := fun r s => (it r s).bind fun ds r s => forL g b ds r s
def whileL (c : M D) (b : S) : Nat → S
  | 0 => fun _ _ => .bad
  | n + 1 => fun r s => (c r s).bind fun d r s => match d with
    | .bool true => (b r s).bind fun f r s => match f with
      | .nx => whileL c b n r s
      | .ct => whileL c b n r s
      | .bk => .ok .nx r s
      | .rt d => .ok (.rt d) r s
    | .bool false => .ok .nx r s
    | _ => .bad
/-- turns of a while: never more than so many -/
def WN : Nat := 1000000000
def sWhile (c : M D) (b : S) : S := whileL c b WN
/-- raise X(e) | raise X("..") -/
@[simp] def sRaise (k : Nat) (arg : Option (M D)) : S := fun r s => match arg with
  | .none => .exc ⟨k, .none⟩ r s
  | some m => (m r s).bind fun d r s => .exc ⟨k, some d⟩ r s

/-! ### lists and dicts changed in place: of this frame, of the town -/
@[simp] def sAppend (i : Nat) (e : M D) : S := fun r s => match r[i]? with
  | some (.ow (.lst _)) => (e r s).bind fun d r s => match r[i]? with
    | some (.ow (.lst l)) => if lim (l.length < SZ) then .ok .nx (r.set i (.ow (.lst (l ++ [d])))) s else .bad
    | _ => .bad
  | _ => .bad
/-- town.append(0) -/
@[simp] def sTown (i : Nat) : S := fun r s => match r[i]? with
  | some (.sh .town) => match s.t with
    | some n => if lim (n < SZ) then .ok .nx r { s with t := some (n + 1) } else .bad
    | .none => .bad
  | _ => .bad
@[simp] def sExtend (i : Nat) (e : M D) : S := fun r s => match r[i]? with
  | some (.ow (.lst _)) => (e r s).bind fun d r s => match r[i]?, d with
    | some (.ow (.lst l)), .lst m => if lim (l.length + m.length ≤ SZ) then .ok .nx (r.set i (.ow (.lst (l ++ m)))) s else .bad
    | _, _ => .bad
  | _ => .bad
/-- x.pop() -/
@[simp] def ePop (i : Nat) : M D := fun r s => match r[i]? with
  | some (.ow (.lst l)) => match l.getLast? with
    | some d => .ok d (r.set i (.ow (.lst l.dropLast))) s
    | .none => .bad
  | _ => .bad

/-! ### a def -/
def startL (n : Nat) (ds : List D) : Env := ds.map .sh ++ List.replicate (n - ds.length) .no
/-- p parameters, n names, a body -/
def fnOf (p n : Nat) (b : S) : Fn := fun ds s => if ds.length = p then match b (startL n ds) s with
  | .ok .nx _ s => .ok .none s
  | .ok (.rt d) _ s => .ok d s
  | .ok _ _ _ => .bad
  | .exc x _ s => .exc x s
  | .bad => .bad
  else .bad
end
end Pk
/-! Pk1: the built-in operations on plain values. -/
namespace Pk
open PySem (Str)

noncomputable section
/-! ### equality -/
mutual
def D.eqv : D → D → Bool
  | .none, .none => true
  | .bool a, .bool b => a == b
  | .bool a, .int j => (if a then 1 else 0) == j
  | .int i, .bool b => i == (if b then 1 else 0)
  | .int i, .int j => i == j
  | .str x, .str y => x == y
  | .lst xs, .lst ys => eqvL xs ys
  | .tup xs, .tup ys => eqvL xs ys
  | _, _ => false
def eqvL : List D → List D → Bool
  | [], [] => true
  | x :: xs, y :: ys => D.eqv x y && eqvL xs ys
  | _, _ => false
end
/-- data: numbers, texts, lists and tuples of data, no deeper than n -/
def D.dep : Nat → D → Bool
  | _, .none => true
  | _, .bool _ => true
  | _, .int _ => true
  | _, .str x => x.cps.all (· < 0x110000)
  | n + 1, .lst l => l.all (D.dep n)
  | n + 1, .tup l => l.all (D.dep n)
  | _, _ => false
/-- script == [] -/
@[simp] def pScr0 : D → Option D
  | .scr l => some (.bool l.isEmpty)
  | _ => .none
@[simp] def pEq (x y : D) : Option D := if x.dep 64 && y.dep 64 then some (.bool (x.eqv y)) else .none
@[simp] def pNe (x y : D) : Option D := if x.dep 64 && y.dep 64 then some (.bool !(x.eqv y)) else .none

/-! ### numbers -/
@[simp] def pInt2 (f : Int → Int → D) (c : Int → Int → Bool) : D → D → Option D
  | .int i, .int j => if c i j then some (f i j) else .none
  | _, _ => .none
def big (i : Int) : Bool := lim (-(2 ^ 64) < i ∧ i < 2 ^ 64)
@[simp] def pSub : D → D → Option D := pInt2 (fun i j => .int (i - j)) fun _ _ => true
@[simp] def pMul : D → D → Option D := pInt2 (fun i j => .int (i * j)) fun i j => big i || big j
@[simp] def pFdiv : D → D → Option D := pInt2 (fun i j => .int (i / j)) fun _ j => lim (0 < j ∧ j < 1073741824)
@[simp] def pMod : D → D → Option D := pInt2 (fun i j => .int (i % j)) fun _ j => lim (0 < j)
@[simp] def pPow : D → D → Option D := pInt2 (fun i j => .int (i ^ j.toNat)) fun i j => lim (0 ≤ j ∧ j ≤ 1000000 ∧ i.natAbs < 2 ^ 64)
@[simp] def pLt : D → D → Option D := pInt2 (fun i j => .bool (decide (i < j))) fun _ _ => true
@[simp] def pLe : D → D → Option D := pInt2 (fun i j => .bool (decide (i ≤ j))) fun _ _ => true
@[simp] def pGt : D → D → Option D := pInt2 (fun i j => .bool (decide (j < i))) fun _ _ => true
@[simp] def pGe : D → D → Option D := pInt2 (fun i j => .bool (decide (j ≤ i))) fun _ _ => true
@[simp] def pNeg : D → Option D
  | .int i => some (.int (-i))
  | _ => .none
@[simp] def pAbs : D → Option D
  | .int i => some (.int (if i < 0 then -i else i))
  | _ => .none
@[simp] def pMax2 : D → D → Option D := pInt2 (fun i j => .int (if j > i then j else i)) fun _ _ => true
@[simp] def pMin2 : D → D → Option D := pInt2 (fun i j => .int (if j < i then j else i)) fun _ _ => true

/-! ### kinds -/
@[simp] def pIsInt : D → Option D
  | .int _ => some (.bool true)
  | .bool _ => some (.bool true)
  | .none => some (.bool false)
  | .str _ => some (.bool false)
  | .tup _ => some (.bool false)
  | .lst _ => some (.bool false)
  | _ => .none
@[simp] def pIsBool : D → Option D
  | .int _ => some (.bool false)
  | .bool _ => some (.bool true)
  | .none => some (.bool false)
  | .str _ => some (.bool false)
  | .tup _ => some (.bool false)
  | .lst _ => some (.bool false)
  | _ => .none
@[simp] def pIsTup : D → Option D
  | .int _ => some (.bool false)
  | .bool _ => some (.bool false)
  | .none => some (.bool false)
  | .str _ => some (.bool false)
  | .tup _ => some (.bool true)
  | .lst _ => some (.bool false)
  | _ => .none
@[simp] def pIsLst : D → Option D
  | .int _ => some (.bool false)
  | .bool _ => some (.bool false)
  | .none => some (.bool false)
  | .str _ => some (.bool false)
  | .tup _ => some (.bool false)
  | .lst _ => some (.bool true)
  | _ => .none
@[simp] def pIsStr : D → Option D
  | .int _ => some (.bool false)
  | .bool _ => some (.bool false)
  | .none => some (.bool false)
  | .str _ => some (.bool true)
  | .tup _ => some (.bool false)
  | .lst _ => some (.bool false)
  | _ => .none
/-- x is None -/
@[simp] def pIsN : D → Option D
  | .none => some (.bool true)
  | .int _ => some (.bool false)
  | .bool _ => some (.bool false)
  | .str _ => some (.bool false)
  | .tup _ => some (.bool false)
  | .lst _ => some (.bool false)
  | .dct _ _ => some (.bool false)
  | _ => .none
@[simp] def pNotN : D → Option D
  | .none => some (.bool false)
  | .int _ => some (.bool true)
  | .bool _ => some (.bool true)
  | .str _ => some (.bool true)
  | .tup _ => some (.bool true)
  | .lst _ => some (.bool true)
  | .dct _ _ => some (.bool true)
  | _ => .none
/-- x is b, of truth values -/
@[simp] def pIs2 : D → D → Option D
  | .bool a, .bool b => some (.bool (decide (a = b)))
  | _, _ => .none
@[simp] def pIsNot2 : D → D → Option D
  | .bool a, .bool b => some (.bool !(decide (a = b)))
  | _, _ => .none

/-! ### lists and tuples -/
def ixOf (n : Nat) (i : Int) : Option Nat := if 0 ≤ i then (if i < n then some i.toNat else .none) else if -(n : Int) ≤ i then some (i + n).toNat else .none
def getI (l : List D) (i : Int) : Option D := (ixOf l.length i).bind fun j => l[j]?
/-- x[i] -/
@[simp] def pIx : D → D → Option D
  | .lst l, .int i => getI l i
  | .tup l, .int i => getI l i
  | .scr l, .int i => (ixOf l.length i).bind fun j => (l[j]?).map .int
  | _, _ => .none
/-- len(x), also of the town -/
@[simp] def lenOf (s : Sto) : D → Option D
  | .lst l => some (.int l.length)
  | .tup l => some (.int l.length)
  | .scr l => some (.int l.length)
  | .town => s.t.map fun (n : Nat) => D.int (n : Int)
  | _ => .none
@[simp] def eLen (a : Opd) : M D := fun r s => (a.run r s).bind fun x r s => opt ((look r x).bind (lenOf s)) r s
/-- the place that a part of a slice means -/
def cutIx (n : Nat) (d : Nat) : Option Int → Nat
  | .none => d
  | some i => if i < 0 then (i + (n : Int)).toNat else min i.toNat n
def cutL (l : List D) (lo hi : Option Int) : List D := (l.drop (cutIx l.length 0 lo)).take (cutIx l.length l.length hi - cutIx l.length 0 lo)
/-- x + y: numbers, texts, lists, tuples -/
@[simp] def pAdd : D → D → Option D
  | .int i, .int j => some (.int (i + j))
  | .str x, .str y => if lim (x.cps.size + y.cps.size ≤ SZ) then some (.str ⟨x.cps ++ y.cps⟩) else .none
  | .lst l, .lst m => if lim (l.length + m.length ≤ SZ) then some (.lst (l ++ m)) else .none
  | .tup l, .tup m => if lim (l.length + m.length ≤ SZ) then some (.tup (l ++ m)) else .none
  | _, _ => .none
@[simp] def pAddL : D → D → Option D
  | .lst l, .lst m => if lim (l.length + m.length ≤ SZ) then some (.lst (l ++ m)) else .none
  | _, _ => .none
/-- x[::-1] of a list -/
@[simp] def pRevL : D → Option D
  | .lst l => some (.lst l.reverse)
  | _ => .none
/-- tuple(x), list(x) -/
@[simp] def pTup : D → Option D
  | .lst l => some (.tup l)
  | .tup l => some (.tup l)
  | _ => .none
@[simp] def pList : D → Option D
  | .lst l => some (.lst l)
  | .tup l => some (.lst l)
  | _ => .none
def pRepT : D → D → Option D
  | .tup l, .int k => if lim (l ≠ [] ∧ 2 ≤ k ∧ k ≤ 1000 ∧ l.length ≤ 1000) then some (.tup (List.replicate k.toNat l).flatten) else .none
  | _, _ => .none
@[simp] def pIn : D → D → Option D
  | d, .lst l => if d.dep 64 && D.dep 64 (.lst l) then some (.bool (l.any fun z => z.eqv d)) else .none
  | _, _ => .none
@[simp] def pNotIn : D → D → Option D
  | d, .lst l => if d.dep 64 && D.dep 64 (.lst l) then some (.bool !(l.any fun z => z.eqv d)) else .none
  | _, _ => .none
def intsOf : List D → Option (List Int)
  | [] => some []
  | .int i :: l => (intsOf l).map (i :: ·)
  | _ :: _ => .none
def boolsOf : List D → Option (List Bool)
  | [] => some []
  | .bool i :: l => (boolsOf l).map (i :: ·)
  | _ :: _ => .none
def pAll : D → Option D
  | .lst l => (boolsOf l).map fun bs => .bool (bs.all id)
  | _ => .none
def pAny : D → Option D
  | .lst l => (boolsOf l).map fun bs => .bool (bs.any id)
  | _ => .none
end
end Pk
/-! Pk2: order of data; sorted, min, max of a list of data. -/
namespace Pk
open PySem (Str)
noncomputable section
abbrev Tok := Int ⊕ List Nat
mutual
def D.toks : D → List Tok
  | .bool b => [.inl (if b = true then 1 else 0)]
  | .int n => [.inl n]
  | .str x => [.inr x.cps.toList]
  | .lst xs => toksL xs
  | .tup xs => toksL xs
  | _ => []
def toksL : List D → List Tok
  | [] => [.inl 0]
  | x :: xs => .inl 1 :: (D.toks x ++ toksL xs)
end
def tokLt : Tok → Tok → Bool
  | .inl a, .inl b => decide (a < b)
  | .inl _, .inr _ => true
  | .inr _, .inl _ => false
  | .inr a, .inr b => decide (a < b)
def toksLt : List Tok → List Tok → Bool
  | [], [] => false
  | [], _ :: _ => true
  | _ :: _, [] => false
  | x :: r, y :: t => tokLt x y || (!tokLt y x && toksLt r t)
def D.lt (x y : D) : Bool := toksLt x.toks y.toks
mutual
/-- the two can be compared, place by place -/
def D.alk : D → D → Bool
  | .bool _, .bool _ => true
  | .int _, .int _ => true
  | .str _, .str _ => true
  | .lst xs, .lst ys => alkL xs ys
  | .tup xs, .tup ys => alkL xs ys
  | _, _ => false
def alkL : List D → List D → Bool
  | x :: xs, y :: ys => D.alk x y && alkL xs ys
  | [], _ => true
  | _ :: _, [] => true
end
/-- enumerate(x) of a list, a tuple -/
@[simp] def iEnumA (m : M D) : It := fun r s => (m r s).bind fun d r s => match d with
  | .lst l => .ok (numbered l) r s
  | .tup l => .ok (numbered l) r s
  | _ => .bad
/-- x[::-1] -/
@[simp] def pRev : D → Option D
  | .lst l => some (.lst l.reverse)
  | .tup l => some (.tup l.reverse)
  | _ => .none
/-- reversed(range(n)) -/
@[simp] def iRevR1 (a : M D) : It := fun r s => (a r s).bind fun d r s => match d with
  | .int j => if small j && lim (j ≤ (SZ : Int)) then .ok ((List.range j.toNat).map fun (k : Nat) => .int (j - 1 - (k : Int))) r s else .bad
  | _ => .bad
/-- x[lo:hi] -/
@[simp] def eOpt : Option (M D) → M (Option Int)
  | .none => fun r s => .ok .none r s
  | some m => fun r s => (m r s).bind fun d r s => match d with
    | .int i => .ok (some i) r s
    | _ => .bad
@[simp] def pCut (d : D) (lo hi : Option Int) : Option D := match d with
  | .lst l => some (.lst (cutL l lo hi))
  | .tup l => some (.tup (cutL l lo hi))
  | _ => .none
@[simp] def eCut (a : Opd) (lo hi : Option (M D)) : M D := fun r s => (a.run r s).bind fun x r s => (eOpt lo r s).bind fun l r s => (eOpt hi r s).bind fun h r s => opt ((look r x).bind fun d => pCut d l h) r s
/-- zip(x, y) of two lists, two tuples -/
@[simp] def iZip (a c : M D) : It := fun r s => (eL [a, c] r s).bind fun ds r s => match ds with
  | [.lst l, .lst m] => .ok (paired l m) r s
  | [.tup l, .tup m] => .ok (paired l m) r s
  | _ => .bad
end
end Pk
/-! Pk3: try; calls of one of several defs. -/
namespace Pk
open PySem (Str)
noncomputable section
inductive Hk where
  | no | cell | cell4 | peak3
/-- x * y of numbers, of a tuple and a number -/
@[simp] def pMulT : D → D → Option D
  | .tup l, .int k => pRepT (.tup l) (.int k)
  | a, b => pMul a b
/-- dict(x) of pairs whose keys are tuples of numbers, no two of which are equal -/
def pairsOf : List D → Option (List (List Int) × List D)
  | [] => some ([], [])
  | .tup [.tup k, v] :: l => (intsOf k).bind fun ks => (pairsOf l).map fun r => (ks :: r.1, v :: r.2)
  | _ :: _ => .none
def pDict : D → Option D
  | .lst l => (pairsOf l).bind fun r => if lim (r.1.Nodup) then some (.dct (r.1.map .t) r.2) else .none
  | _ => .none
/-- x[k] of a dict -/
def keyOf : D → Option Ky
  | .tup l => (intsOf l).map .t
  | _ => .none
def dctGet (ks : List Ky) (ds : List D) (k : Ky) : Option D := ((ks.zip ds).find? fun p => decide (p.1 = k)).map (·.2)
def pIxD : D → D → Option D
  | .dct ks ds, k => (keyOf k).bind fun k => dctGet ks ds k
  | _, _ => .none
/-! ### dicts with keys that are tuples of numbers -/
/-! ### lambdas -/
/-- the keys of items, one after the other -/
def keyGo (F : Fn) : List D → Sto → Option (List D × Sto)
  | [], s => some ([], s)
  | d :: l, s => match F [d] s with
    | .ok k s => (keyGo F l s).map fun r => (k :: r.1, r.2)
    | _ => .none
end
end Pk
/-! Pk4: sorted lists without two that are equal. -/
namespace Pk
/-! ### sorted(set(x)) -/
end Pk
/-! Br0: plain values stand in the abstract heap; what a def's frame knows; the judgements DE, DS, DT over the layer's PE, PS, PT. -/
namespace Pk
open PySem PySem.Spec PyProof.Rows L2

/-- who alone may change the thing at an address -/
inductive Lab where
  | town | inst (n : Nat) | idct (n : Nat) | fld (n : Nat) (f : Str) | tab (n : Nat) | loc (i : Nat) | out
  deriving DecidableEq
abbrev Lb := Addr → Option Lab
def Lab.isLoc : Lab → Bool
  | .loc _ => true
  | _ => false
def Lab.isSto : Lab → Bool
  | .loc _ => false
  | .out => false
  | _ => true
/-- a lambda of the text: its def's name, its words, the names that it captures -/
structure Lm where
  qual : Str
  params : Arguments
  body : Expr
  scope : Scope
  fr : List Str
/-- what the top left: where the defs and classes stand -/
structure Cn where
  K : PySem.W.Frag
  fn : Nat → Addr
  cls : Nat → Addr
  gr : Addr
  tb : List (Addr × Str)
  lm : Nat → Lm
/-- the object at f is the lambda m with the cells cl; the object at c is o -/
def LamO (f : Addr) (m : Lm) (cl : List (Str × Addr)) (c : Addr) : HO := .ext fun h => ∃ pm ctv, h.get? f = some (PySem.W.kla_obj "<lambda>" m.qual m.params m.body m.scope cl pm c ctv)
def CelO (c : Addr) (o : Obj) : HO := .ext fun h => h.get? c = some o

def KLst (K : PySem.W.Frag) (a : Addr) (vs : List V) : Prop :=
  ∃ (o : Obj) (its : Array Value) (n : Nat), K.lookup a = some o ∧ o.cls = .type "list" ∧ o.dict = none ∧ o.data = .seq its n ∧ its.size ≤ sizeLine ∧ Vals vs its.toList
/-- a list, a tuple that nobody changes; the script -/
def NL (lb : Lb) (H : Hp) (a : Addr) (vs : List V) : Prop := lb a = none ∧ H a = some (.lst vs)
def NT (lb : Lb) (H : Hp) (a : Addr) (vs : List V) : Prop := lb a = none ∧ H a = some (.tup vs)
def NS (K : PySem.W.Frag) (lb : Lb) (H : Hp) (a : Addr) (vs : List V) : Prop := (lb a = none ∧ Rd H a (.lst vs)) ∨ KLst K a vs
theorem NL.sq {K : PySem.W.Frag} {lb : Lb} {H : Hp} {a : Addr} {vs : List V} (h : NL lb H a vs) : SqL K H a vs := .of h.2
theorem NT.sq {K : PySem.W.Frag} {lb : Lb} {H : Hp} {a : Addr} {vs : List V} (h : NT lb H a vs) : SqT K H a vs := .of h.2
theorem NS.sq {K : PySem.W.Frag} {lb : Lb} {H : Hp} {a : Addr} {vs : List V} (h : NS K lb H a vs) : SqL K H a vs := h.elim (fun x => .inl x.2) .inr

/-- what may be marked: no tuple -/
def Nt : HO → Prop
  | .tup _ => False
  | _ => True
/-- what the captured cells hold -/
structure CelR (lb : Lb) (H : Hp) (fr : List Str) (cl : List (Str × Addr)) (ws : List V) : Prop where
  len : ws.length = fr.length
  sub : ∀ y c, cl.lookup y = some c → y ∈ fr
  inj : ∀ x y c, cl.lookup x = some c → cl.lookup y = some c → x = y
  at_ : ∀ (i : Nat) (y : Str), fr[i]? = some y → ∃ c o u v, cl.lookup y = some c ∧ lb c = none ∧ H c = some (CelO c o) ∧ o.data = .cell (some u) ∧ ws[i]? = some v ∧ L2.RelV v u
/-- a table of code objects -/
def TabL (lb : Lb) (H : Hp) (P : Addr) (q : Str) : Prop := ∃ ps : Array Value, H P = some (.tbl ps) ∧ TriplesOk ps.toList ∧ ∀ (pos : Pos) (cv : Value), codeAmong pos ps.toList = some cv → ∃ c, cv = .ref c ∧ lb c = none ∧ H c = some (LamX.CodeO c q)
mutual
def Rep (cn : Cn) (lb : Lb) (H : Hp) : D → V → Prop
  | .none, v => v = .non
  | .bool b, v => v = .bl b
  | .int i, v => v = .int i
  | .str x, v => v = .str x
  | .tup l, v => ∃ a vs, v = .ref a ∧ NT lb H a vs ∧ l.length ≤ SZ ∧ RepL cn lb H l vs
  | .lst l, v => ∃ a vs, v = .ref a ∧ NL lb H a vs ∧ l.length ≤ SZ ∧ RepL cn lb H l vs
  | .dct ks ds, v => ∃ a vs, v = .ref a ∧ lb a = none ∧ ks.length ≤ SZ ∧ RepL cn lb H ds vs ∧ ks.length = vs.length ∧ ks.Nodup ∧
      ((∃ js : List (List Int), ks = js.map .t ∧ Rd H a (.dT ((js.map fun j => j.map Sum.inl).zip vs))) ∨ (∃ js : List Int, (ks = js.map .i ∧ ks ≠ []) ∧ Rd H a (.dK ((js.map Sum.inl).zip vs))))
  | .fn k, v => v = .ref (cn.fn k)
  | .clo k l, v => ∃ f cl c ws, v = .ref f ∧ (lb f = none ∧ H f = some (LamO f (cn.lm k) cl c)) ∧ (lb c = none ∧ H c = some (LamX.CodeO c (cn.lm k).qual)) ∧ CelR lb H (cn.lm k).fr cl ws ∧ RepL cn lb H l ws
  | .town, v => ∃ a, v = .ref a ∧ lb a = some .town
  | .obj n, v => ∃ a, v = .ref a ∧ lb a = some (.inst n)
  | .scr l, v => ∃ a, v = .ref a ∧ NS cn.K lb H a (l.map V.int) ∧ l.length ≤ SZ
def RepL (cn : Cn) (lb : Lb) (H : Hp) : List D → List V → Prop
  | [], vs => vs = []
  | d :: ds, vs => ∃ v r, vs = v :: r ∧ Rep cn lb H d v ∧ RepL cn lb H ds r
end

/-- the heap goes on: what nobody may change stands; the callers' own things stand; a thing that is newly marked is new -/
structure Stp (lb : Lb) (H : Hp) (lb' : Lb) (H' : Hp) : Prop where
  keep : ∀ a o, H a = some o → lb a = none → H' a = some o
  out : ∀ a, lb a = some .out → lb' a = some .out ∧ H' a = H a
  new : ∀ a, lb' a ≠ none → lb a ≠ none ∨ H a = none
  sto : ∀ a l, lb a = some l → l.isSto = true → lb' a = some l
  dom : ∀ a, H a ≠ none → H' a ≠ none
theorem Stp.refl {lb : Lb} {H : Hp} : Stp lb H lb H := ⟨fun _ _ h _ => h, fun _ h => ⟨h, rfl⟩, fun _ h => .inl h, fun _ _ h _ => h, fun _ h => h⟩
theorem Stp.trans {l1 l2 l3 : Lb} {H1 H2 H3 : Hp} (a : Stp l1 H1 l2 H2) (b : Stp l2 H2 l3 H3) : Stp l1 H1 l3 H3 where
  keep := fun x o h n => by
    have h2 := a.keep x o h n
    refine b.keep x o h2 ?_
    cases q : l2 x with
    | none => rfl
    | some l =>
      rcases a.new x (by rw [q]; simp) with z | z
      · exact absurd n z
      · rw [h] at z; cases z
  out := fun x h => by
    obtain ⟨h2, e2⟩ := a.out x h
    obtain ⟨h3, e3⟩ := b.out x h2
    exact ⟨h3, e3.trans e2⟩
  new := fun x h => by
    rcases b.new x h with z | z
    · exact a.new x z
    · cases q : H1 x with
      | none => exact .inr rfl
      | some o => exact absurd z (a.dom x (by rw [q]; simp))
  sto := fun x l h i => b.sto x l (a.sto x l h i) i
  dom := fun x h => b.dom x (a.dom x h)
/-- nothing that stands is changed -/
def Ext (H H' : Hp) : Prop := ∀ a o, H a = some o → H' a = some o
theorem Ext.refl {H : Hp} : Ext H H := fun _ _ h => h
theorem Ext.trans {H1 H2 H3 : Hp} (a : Ext H1 H2) (b : Ext H2 H3) : Ext H1 H3 := fun x o h => b x o (a x o h)
theorem Ext.upd {H : Hp} {p : Addr} {o : HO} (h : H p = none) : Ext H (L2.upd H p o) := fun b x e => by
  rw [upd_ne (ne_of_none e h)]
  exact e

/-- what alone a value's standing asks -/
structure Stq (lb : Lb) (H : Hp) (lb' : Lb) (H' : Hp) : Prop where
  keep : ∀ a o, H a = some o → lb a = none → H' a = some o
  new : ∀ a, lb' a ≠ none → lb a ≠ none ∨ H a = none
  sto : ∀ a l, lb a = some l → l.isSto = true → lb' a = some l
theorem Stp.q {lb lb' : Lb} {H H' : Hp} (s : Stp lb H lb' H') : Stq lb H lb' H' := ⟨s.keep, s.new, s.sto⟩
theorem Stq.none {lb lb' : Lb} {H H' : Hp} (s : Stq lb H lb' H') {a : Addr} {o : HO} (h : H a = some o) (n : lb a = none) : lb' a = none := by
  cases q : lb' a with
  | none => rfl
  | some l =>
    rcases s.new a (by rw [q]; simp) with z | z
    · exact absurd n z
    · rw [h] at z; cases z
theorem Stq.rd {lb lb' : Lb} {H H' : Hp} (s : Stq lb H lb' H') {a : Addr} {u : HO} (n : lb a = Option.none) (h : Rd H a u) : lb' a = Option.none ∧ Rd H' a u := by
  rcases h with h | ⟨o, h⟩
  · exact ⟨s.none h n, .inl (s.keep a _ h n)⟩
  · exact ⟨s.none h n, .inr ⟨o, s.keep a _ h n⟩⟩

theorem NL.stq {lb lb' : Lb} {H H' : Hp} {a : Addr} {vs : List V} (h : NL lb H a vs) (s : Stq lb H lb' H') : NL lb' H' a vs := ⟨s.none h.2 h.1, s.keep a _ h.2 h.1⟩
theorem NT.stq {lb lb' : Lb} {H H' : Hp} {a : Addr} {vs : List V} (h : NT lb H a vs) (s : Stq lb H lb' H') : NT lb' H' a vs := ⟨s.none h.2 h.1, s.keep a _ h.2 h.1⟩
theorem NS.stq {K : PySem.W.Frag} {lb lb' : Lb} {H H' : Hp} {a : Addr} {vs : List V} (h : NS K lb H a vs) (s : Stq lb H lb' H') : NS K lb' H' a vs := by
  rcases h with ⟨n, h⟩ | h
  · exact .inl (s.rd n h)
  · exact .inr h
theorem CelR.stq {lb lb' : Lb} {H H' : Hp} {fr : List Str} {cl : List (Str × Addr)} {ws : List V} (h : CelR lb H fr cl ws) (s : Stq lb H lb' H') : CelR lb' H' fr cl ws :=
  ⟨h.len, h.sub, h.inj, fun i y e => by
    obtain ⟨c, o, u, v, h1, h2, h3, h4⟩ := h.at_ i y e
    exact ⟨c, o, u, v, h1, s.none h3 h2, s.keep c _ h3 h2, h4⟩⟩
mutual
theorem Rep.stq {cn : Cn} {lb lb' : Lb} {H H' : Hp} (s : Stq lb H lb' H') : ∀ {d : D} {v : V}, Rep cn lb H d v → Rep cn lb' H' d v
  | .none, v, h => by simpa only [Rep] using h
  | .bool b, v, h => by simpa only [Rep] using h
  | .int b, v, h => by simpa only [Rep] using h
  | .str b, v, h => by simpa only [Rep] using h
  | .tup l, v, h => by
    simp only [Rep] at h ⊢
    obtain ⟨a, vs, e, n, z, r⟩ := h
    exact ⟨a, vs, e, n.stq s, z, RepL.stq s r⟩
  | .lst l, v, h => by
    simp only [Rep] at h ⊢
    obtain ⟨a, vs, e, n, z, r⟩ := h
    exact ⟨a, vs, e, n.stq s, z, RepL.stq s r⟩
  | .dct ks ds, v, h => by
    simp only [Rep] at h ⊢
    obtain ⟨a, vs, e, n, z, r, l, nd, c⟩ := h
    rcases c with ⟨js, e1, e2⟩ | ⟨js, e1, e2⟩
    · exact ⟨a, vs, e, (s.rd n e2).1, z, RepL.stq s r, l, nd, .inl ⟨js, e1, (s.rd n e2).2⟩⟩
    · exact ⟨a, vs, e, (s.rd n e2).1, z, RepL.stq s r, l, nd, .inr ⟨js, e1, (s.rd n e2).2⟩⟩
  | .fn b, v, h => by simpa only [Rep] using h
  | .clo k l, v, h => by
    simp only [Rep] at h ⊢
    obtain ⟨f, cl, c, ws, e, ⟨f1, f2⟩, ⟨c1, c2⟩, cr, r⟩ := h
    exact ⟨f, cl, c, ws, e, ⟨s.none f2 f1, s.keep f _ f2 f1⟩, ⟨s.none c2 c1, s.keep c _ c2 c1⟩, cr.stq s, RepL.stq s r⟩
  | .town, v, h => by
    simp only [Rep] at h ⊢
    obtain ⟨a, e, n⟩ := h
    exact ⟨a, e, s.sto a _ n rfl⟩
  | .obj k, v, h => by
    simp only [Rep] at h ⊢
    obtain ⟨a, e, n⟩ := h
    exact ⟨a, e, s.sto a _ n rfl⟩
  | .scr l, v, h => by
    simp only [Rep] at h ⊢
    obtain ⟨a, e, n, z⟩ := h
    exact ⟨a, e, n.stq s, z⟩
theorem RepL.stq {cn : Cn} {lb lb' : Lb} {H H' : Hp} (s : Stq lb H lb' H') : ∀ {ds : List D} {vs : List V}, RepL cn lb H ds vs → RepL cn lb' H' ds vs
  | [], vs, h => by simpa only [RepL] using h
  | d :: ds, vs, h => by
    simp only [RepL] at h ⊢
    obtain ⟨v, r, e, h1, h2⟩ := h
    exact ⟨v, r, e, Rep.stq s h1, RepL.stq s h2⟩
end
theorem Rep.stp {cn : Cn} {lb lb' : Lb} {H H' : Hp} (s : Stp lb H lb' H') {d : D} {v : V} (h : Rep cn lb H d v) : Rep cn lb' H' d v := Rep.stq s.q h
theorem RepL.stp {cn : Cn} {lb lb' : Lb} {H H' : Hp} (s : Stp lb H lb' H') {d : List D} {v : List V} (h : RepL cn lb H d v) : RepL cn lb' H' d v := RepL.stq s.q h
theorem RepL.length {cn : Cn} {lb : Lb} {H : Hp} : ∀ {ds : List D} {vs : List V}, RepL cn lb H ds vs → ds.length = vs.length
  | [], vs, h => by simp only [RepL] at h; rw [h]; rfl
  | d :: ds, vs, h => by
    simp only [RepL] at h
    obtain ⟨v, r, e, _, h2⟩ := h
    rw [e, List.length_cons, List.length_cons, RepL.length h2]
theorem RepL.get {cn : Cn} {lb : Lb} {H : Hp} : ∀ {ds : List D} {vs : List V} {i : Nat} {d : D}, RepL cn lb H ds vs → ds[i]? = some d → ∃ v, vs[i]? = some v ∧ Rep cn lb H d v
  | [], vs, _, _, _, e => by simp at e
  | d :: ds, vs, 0, x, h, e => by
    simp only [RepL] at h
    obtain ⟨v, r, e1, h1, _⟩ := h
    simp at e
    subst e
    exact ⟨v, by rw [e1]; rfl, h1⟩
  | d :: ds, vs, i + 1, x, h, e => by
    simp only [RepL] at h
    obtain ⟨v, r, e1, _, h2⟩ := h
    obtain ⟨u, q1, q2⟩ := RepL.get (i := i) h2 (by simpa using e)
    exact ⟨u, by rw [e1]; simpa using q1, q2⟩
theorem RepL.append {cn : Cn} {lb : Lb} {H : Hp} : ∀ {ds es : List D} {vs us : List V}, RepL cn lb H ds vs → RepL cn lb H es us → RepL cn lb H (ds ++ es) (vs ++ us)
  | [], es, vs, us, h, g => by simp only [RepL] at h; rw [h]; exact g
  | d :: ds, es, vs, us, h, g => by
    simp only [RepL, List.cons_append] at h ⊢
    obtain ⟨v, r, e, h1, h2⟩ := h
    exact ⟨v, r ++ us, by rw [e]; rfl, h1, RepL.append h2 g⟩
theorem RepL.nil {cn : Cn} {lb : Lb} {H : Hp} : RepL cn lb H [] [] := by simp only [RepL]
theorem RepL.cons {cn : Cn} {lb : Lb} {H : Hp} {d : D} {ds : List D} {v : V} {vs : List V} (h : Rep cn lb H d v) (g : RepL cn lb H ds vs) : RepL cn lb H (d :: ds) (v :: vs) := by
  simp only [RepL]; exact ⟨v, vs, rfl, h, g⟩
theorem RepL.one {cn : Cn} {lb : Lb} {H : Hp} {d : D} {v : V} (h : Rep cn lb H d v) : RepL cn lb H [d] [v] := .cons h .nil
theorem RepL.take {cn : Cn} {lb : Lb} {H : Hp} : ∀ {ds : List D} {vs : List V} (n : Nat), RepL cn lb H ds vs → RepL cn lb H (ds.take n) (vs.take n)
  | _, _, 0, _ => by simp only [List.take_zero]; exact .nil
  | [], vs, n + 1, h => by simp only [RepL] at h; rw [h]; exact .nil
  | d :: ds, vs, n + 1, h => by
    simp only [RepL] at h
    obtain ⟨v, r, e, h1, h2⟩ := h
    rw [e]
    exact .cons h1 (RepL.take n h2)
theorem RepL.drop {cn : Cn} {lb : Lb} {H : Hp} : ∀ {ds : List D} {vs : List V} (n : Nat), RepL cn lb H ds vs → RepL cn lb H (ds.drop n) (vs.drop n)
  | ds, vs, 0, h => h
  | [], vs, n + 1, h => by simp only [RepL] at h; rw [h]; exact .nil
  | d :: ds, vs, n + 1, h => by
    simp only [RepL] at h
    obtain ⟨v, r, e, h1, h2⟩ := h
    rw [e]
    exact RepL.drop n h2
theorem RepL.reverse {cn : Cn} {lb : Lb} {H : Hp} : ∀ {ds : List D} {vs : List V}, RepL cn lb H ds vs → RepL cn lb H ds.reverse vs.reverse
  | [], vs, h => by simp only [RepL] at h; rw [h]; exact .nil
  | d :: ds, vs, h => by
    simp only [RepL] at h
    obtain ⟨v, r, e, h1, h2⟩ := h
    rw [e, List.reverse_cons, List.reverse_cons]
    exact (RepL.reverse h2).append (.one h1)
end Pk
/-! Br1: what a frame knows (BOk), and how it goes on. -/
namespace Pk
open PySem PySem.Spec PyProof.Rows L2

/-- what stands at an address that one alone may change -/
def OwnO (cn : Cn) (lb : Lb) (H : Hp) : D → HO → Prop
  | .lst l, o => ∃ vs, o = .lst vs ∧ l.length ≤ SZ ∧ RepL cn lb H l vs
  | .dct ks ds, o => ∃ vs, ks.length ≤ SZ ∧ RepL cn lb H ds vs ∧ ks.length = vs.length ∧ ks.Nodup ∧
      ((∃ js : List (List Int), ks = js.map .t ∧ o = .dT ((js.map fun j => j.map Sum.inl).zip vs)) ∨ (∃ js : List Int, (ks = js.map .i ∧ ks ≠ []) ∧ o = .dK ((js.map Sum.inl).zip vs)))
  | _, _ => False
theorem OwnO.stq {cn : Cn} {lb lb' : Lb} {H H' : Hp} {d : D} {o : HO} (h : OwnO cn lb H d o) (s : Stq lb H lb' H') : OwnO cn lb' H' d o := by
  cases d with
  | lst l => obtain ⟨vs, e, z, r⟩ := h; exact ⟨vs, e, z, r.stq s⟩
  | dct ks ds => obtain ⟨vs, z, r, l, nd, c⟩ := h; exact ⟨vs, z, r.stq s, l, nd, c⟩
  | _ => exact h.elim
theorem OwnO.stp {cn : Cn} {lb lb' : Lb} {H H' : Hp} {d : D} {o : HO} (h : OwnO cn lb H d o) (s : Stp lb H lb' H') : OwnO cn lb' H' d o := h.stq s.q
theorem OwnO.rep {cn : Cn} {lb : Lb} {H : Hp} {d : D} {o : HO} {a : Addr} (h : OwnO cn lb H d o) (n : lb a = none) (e : H a = some o) : Rep cn lb H d (.ref a) := by
  cases d with
  | lst l =>
    obtain ⟨vs, rfl, z, r⟩ := h
    simp only [Rep]
    exact ⟨a, vs, rfl, ⟨n, e⟩, z, r⟩
  | dct ks ds =>
    obtain ⟨vs, z, r, l, nd, c⟩ := h
    simp only [Rep]
    refine ⟨a, vs, rfl, n, z, r, l, nd, ?_⟩
    rcases c with ⟨js, e1, rfl⟩ | ⟨js, e1, rfl⟩
    · exact .inl ⟨js, e1, .inl e⟩
    · exact .inr ⟨js, e1, .inl e⟩
  | _ => exact h.elim

theorem OwnO.nt {cn : Cn} {lb : Lb} {H : Hp} {d : D} {o : HO} (h : OwnO cn lb H d o) : Nt o := by
  cases d with
  | lst l => obtain ⟨vs, rfl, _⟩ := h; trivial
  | dct ks ds =>
    obtain ⟨vs, _, _, _, _, c⟩ := h
    rcases c with ⟨js, _, rfl⟩ | ⟨js, _, rfl⟩ <;> trivial
  | _ => exact h.elim
def FOk (cn : Cn) (lb : Lb) (H : Hp) (n : Nat) (f : Str) (d : D) (v : V) : Prop := match d with
  | .lst l => ∃ p o, v = .ref p ∧ lb p = some (.fld n f) ∧ H p = some o ∧ OwnO cn lb H (.lst l) o
  | d => Rep cn lb H d v
def FldOk (cn : Cn) (lb : Lb) (H : Hp) (n : Nat) : List (Str × D) → List (Str × V) → Prop
  | [], fv => fv = []
  | (f, d) :: fs, fv => ∃ v r, fv = (f, v) :: r ∧ FOk cn lb H n f d v ∧ FldOk cn lb H n fs r
structure StoOk (cn : Cn) (lb : Lb) (s : Sto) (H : Hp) : Prop where
  town : ∀ a, lb a = some .town → ∃ n, s.t = some n ∧ H a = some (.lst (List.replicate n (.int 0))) ∧ n ≤ SZ
  objs : ∀ n fs, s.o[n]? = some fs → ∃ a dx fv, lb a = some (.inst n) ∧ lb dx = some (.idct n) ∧ H a = some (.ins cn.gr dx fv) ∧ H dx = some (.own a) ∧ FldOk cn lb H n fs fv
  uniq : ∀ a b l, lb a = some l → lb b = some l → l.isSto = true → a = b
  dom : ∀ a n f, (lb a = some (.inst n) ∨ lb a = some (.idct n) ∨ lb a = some (.fld n f)) → n < s.o.length
  tabs : ∀ (n : Nat) (p : Addr × Str), cn.tb[n]? = some p → lb p.1 = some (.tab n) ∧ TabL lb H p.1 p.2
  flds : ∀ (a : Addr) (n : Nat) (f : Str), lb a = some (.fld n f) → ∃ fs l, s.o[n]? = some fs ∧ fs.lookup f = some (.lst l)
  nods : ∀ (n : Nat) (fs : List (Str × D)), s.o[n]? = some fs → (fs.map (·.1)).Nodup
theorem TabL.stq {lb lb' : Lb} {H H' : Hp} {P : Addr} {q : Str} (h : TabL lb H P q) (s : Stq lb H lb' H') (k : H' P = H P) : TabL lb' H' P q := by
  obtain ⟨ps, h1, h2, h3⟩ := h
  refine ⟨ps, by rw [k]; exact h1, h2, fun pos cv e => ?_⟩
  obtain ⟨c, e1, e2, e3⟩ := h3 pos cv e
  exact ⟨c, e1, s.none e3 e2, s.keep c _ e3 e2⟩
theorem FOk.stp {cn : Cn} {lb lb' : Lb} {H H' : Hp} {n : Nat} {f : Str} {d : D} {v : V} (h : FOk cn lb H n f d v) (s : Stq lb H lb' H') (k : ∀ a l, lb a = some l → l.isSto = true → H' a = H a) : FOk cn lb' H' n f d v := by
  unfold FOk at h ⊢
  cases d with
  | lst l =>
    obtain ⟨p, o, e, lp, hp, w⟩ := h
    exact ⟨p, o, e, s.sto p _ lp rfl, by rw [k p _ lp rfl]; exact hp, w.stq s⟩
  | _ => exact Rep.stq s h
theorem FldOk.stp {cn : Cn} {lb lb' : Lb} {H H' : Hp} {n : Nat} (s : Stq lb H lb' H') (k : ∀ a l, lb a = some l → l.isSto = true → H' a = H a) :
    ∀ {fs : List (Str × D)} {fv : List (Str × V)}, FldOk cn lb H n fs fv → FldOk cn lb' H' n fs fv
  | [], _, h => h
  | (f, d) :: fs, fv, h => by
    obtain ⟨v, r, e, h1, h2⟩ := h
    exact ⟨v, r, e, h1.stp s k, FldOk.stp s k h2⟩
/-- the store is not touched -/
theorem StoOk.stp {cn : Cn} {lb lb' : Lb} {H H' : Hp} {t : Sto} (h : StoOk cn lb t H) (s : Stq lb H lb' H') (k : ∀ a l, lb a = some l → l.isSto = true → H' a = H a) (nw : ∀ a l, lb' a = some l → l.isSto = true → lb a = some l) : StoOk cn lb' t H' where
  town := fun a e => by
    have e1 := nw a _ e rfl
    rw [k a _ e1 rfl]
    exact h.town a e1
  objs := fun n fs e => by
    obtain ⟨a, dx, fv, l1, l2, h1, h2, w⟩ := h.objs n fs e
    exact ⟨a, dx, fv, s.sto a _ l1 rfl, s.sto dx _ l2 rfl, by rw [k a _ l1 rfl]; exact h1, by rw [k dx _ l2 rfl]; exact h2, FldOk.stp s k w⟩
  uniq := fun a b l h1 h2 i => h.uniq a b l (nw a l h1 i) (nw b l h2 i) i
  dom := fun a n f e => h.dom a n f (e.imp (nw a _ · rfl) (Or.imp (nw a _ · rfl) (nw a _ · rfl)))
  tabs := fun n p e => by
    obtain ⟨h1, h2⟩ := h.tabs n p e
    exact ⟨s.sto _ _ h1 rfl, h2.stq s (k _ _ h1 rfl)⟩
  flds := fun a n f e => h.flds a n f (nw a _ e rfl)
  nods := h.nods

/-- the rows of a matrix that slot i alone knows -/
def MtL (cn : Cn) (lb : Lb) (H : Hp) (i : Nat) : List Addr → List (List D) → Prop
  | as, [] => as = []
  | as, l :: R => ∃ r as' vs, as = r :: as' ∧ lb r = some (.loc i) ∧ H r = some (.lst vs) ∧ l.length ≤ SZ ∧ RepL cn lb H l vs ∧ MtL cn lb H i as' R
def MtO (cn : Cn) (lb : Lb) (H : Hp) (i : Nat) (a : Addr) (R : List (List D)) : Prop :=
  lb a = some (.loc i) ∧ ∃ as : List Addr, H a = some (.lst (as.map V.ref)) ∧ (a :: as).Nodup ∧ R.length ≤ SZ ∧ MtL cn lb H i as R
theorem MtL.keep {cn : Cn} {lb lb' : Lb} {H H' : Hp} {i : Nat} (s : Stq lb H lb' H') (k : ∀ x, lb x = some (.loc i) → lb' x = some (.loc i) ∧ H' x = H x) : ∀ {as : List Addr} {R : List (List D)}, MtL cn lb H i as R → MtL cn lb' H' i as R
  | as, [], h => h
  | as, l :: R, h => by
    obtain ⟨r, as', vs, e, h1, h2, h3, h4, h5⟩ := h
    exact ⟨r, as', vs, e, (k r h1).1, by rw [(k r h1).2]; exact h2, h3, h4.stq s, MtL.keep s k h5⟩
theorem MtO.keep {cn : Cn} {lb lb' : Lb} {H H' : Hp} {i : Nat} {a : Addr} {R : List (List D)} (h : MtO cn lb H i a R) (s : Stq lb H lb' H') (k : ∀ x, lb x = some (.loc i) → lb' x = some (.loc i) ∧ H' x = H x) : MtO cn lb' H' i a R := by
  obtain ⟨h1, as, h2, h3, h4, h5⟩ := h
  exact ⟨(k a h1).1, as, by rw [(k a h1).2]; exact h2, h3, h4, h5.keep s k⟩
theorem MtL.rows {cn : Cn} {lb : Lb} {H : Hp} {i : Nat} {lb' : Lb} (s : Stq lb H lb' H) (k : ∀ x, lb x = some (.loc i) → lb' x = none) : ∀ {as : List Addr} {R : List (List D)}, MtL cn lb H i as R → RepL cn lb' H (R.map .lst) (as.map V.ref)
  | as, [], h => by
    have h : as = [] := h
    subst h
    exact .nil
  | as, l :: R, h => by
    obtain ⟨r, as', vs, rfl, h1, h2, h3, h4, h5⟩ := h
    refine .cons ?_ (MtL.rows s k h5)
    simp only [Rep]
    exact ⟨r, vs, rfl, ⟨k r h1, h2⟩, h3, h4.stq s⟩
/-- what is known in a def's body: lb0, H0 at its entry -/
structure BOk (cn : Cn) (lb0 : Lb) (H0 : Hp) (lb : Lb) (ρ : Env) (s : Sto) (σ : L2.St) (H : Hp) : Prop where
  since : Stp lb0 H0 lb H
  sto : StoOk cn lb s H
  has : ∀ a l, lb a = some l → ∃ o, H a = some o ∧ Nt o
  len : ρ.length = σ.length
  sh : ∀ (i : Nat) (d : D), ρ[i]? = some (.sh d) → ∃ v, σ[i]? = some (some v) ∧ Rep cn lb H d v
  ow : ∀ (i : Nat) (d : D), ρ[i]? = some (.ow d) → ∃ a o, σ[i]? = some (some (.ref a)) ∧ lb a = some (.loc i) ∧ H a = some o ∧ OwnO cn lb H d o
  mt : ∀ (i : Nat) (R : List (List D)), ρ[i]? = some (.mt R) → ∃ a, σ[i]? = some (some (.ref a)) ∧ MtO cn lb H i a R

section
variable {cn : Cn} {lb0 lb lb' : Lb} {H0 H H' : Hp} {ρ : Env} {s : Sto} {σ : L2.St}
theorem Stp.of_ext (h : Ext H H') (has : ∀ a l, lb a = some l → ∃ o, H a = some o ∧ Nt o) : Stp lb H lb H' where
  keep := fun a o e _ => h a o e
  out := fun a e => ⟨e, by
    obtain ⟨o, q, _⟩ := has a _ e
    rw [q, h a o q]⟩
  new := fun _ h => .inl h
  sto := fun _ _ h _ => h
  dom := fun a e => by
    cases q : H a with
    | none => exact absurd q e
    | some o => rw [h a o q]; simp
theorem BOk.stp_ext (b : BOk cn lb0 H0 lb ρ s σ H) (h : Ext H H') : Stp lb H lb H' := Stp.of_ext h b.has
theorem BOk.same (b : BOk cn lb0 H0 lb ρ s σ H) (h : Ext H H') {a : Addr} {l : Lab} (e : lb a = some l) : H' a = H a := by
  obtain ⟨o, q, _⟩ := b.has a l e
  rw [q, h a o q]
theorem BOk.ext (b : BOk cn lb0 H0 lb ρ s σ H) (h : Ext H H') : BOk cn lb0 H0 lb ρ s σ H' := by
  have st := b.stp_ext h
  refine ⟨b.since.trans st, b.sto.stp st.q (fun a l e _ => b.same h e) (fun _ _ e _ => e), fun a l e => ?_, b.len, fun i d e => ?_, fun i d e => ?_, fun i R e => ?_⟩
  · obtain ⟨o, q, t⟩ := b.has a l e
    exact ⟨o, h a o q, t⟩
  · obtain ⟨v, e1, r⟩ := b.sh i d e
    exact ⟨v, e1, r.stp st⟩
  · obtain ⟨a, o, e1, l, q, w⟩ := b.ow i d e
    exact ⟨a, o, e1, l, h a o q, w.stp st⟩
  · obtain ⟨a, e1, w⟩ := b.mt i R e
    exact ⟨a, e1, w.keep st.q fun x hx => ⟨hx, b.same h hx⟩⟩
/-- the mark of slot i taken off -/
def unl (lb : Lb) (i : Nat) : Lb := fun a => if lb a = some (.loc i) then none else lb a
theorem unl_ne {lb : Lb} {i : Nat} {a : Addr} {l : Lab} (h : lb a = some l) (n : l ≠ .loc i) : unl lb i a = some l := by
  unfold unl
  rw [if_neg (by rw [h]; intro e; exact n (Option.some.inj e))]
  exact h
theorem of_unl {lb : Lb} {i : Nat} {a : Addr} {l : Lab} (h : unl lb i a = some l) : lb a = some l ∧ l ≠ .loc i := by
  unfold unl at h
  split at h
  · cases h
  · rename_i n
    refine ⟨h, fun e => n ?_⟩
    rw [h, e]
theorem unl_none {lb : Lb} {i : Nat} {a : Addr} (h : lb a = none) : unl lb i a = none := by
  unfold unl
  split
  · rfl
  · exact h
theorem Stp.unl (lb : Lb) (H : Hp) (i : Nat) : Stp lb H (unl lb i) H where
  keep := fun _ _ h _ => h
  out := fun a h => ⟨unl_ne h (by intro e; cases e), rfl⟩
  new := fun a h => .inl fun e => h (unl_none e)
  sto := fun a l h i => unl_ne h (by rintro rfl; cases i)
  dom := fun _ h => h
/-- slot i holds what may be shared -/
theorem BOk.setSh (b : BOk cn lb0 H0 lb ρ s σ H) (i : Nat) {d : D} {v : V} (r : Rep cn lb H d v) : BOk cn lb0 H0 (Pk.unl lb i) (ρ.set i (.sh d)) s (σ.set i (some v)) H := by
  have st := Stp.unl lb H i
  refine ⟨b.since.trans st, b.sto.stp st.q (fun _ _ _ _ => rfl) (fun _ _ e _ => (of_unl e).1), fun a l e => b.has a l (of_unl e).1, by simpa using b.len, fun j e h => ?_, fun j e h => ?_, fun j R h => ?_⟩
  · by_cases hj : i = j
    · subst hj
      rw [List.getElem?_set] at h
      simp only [if_true] at h
      split at h
      · rename_i hl
        cases h
        refine ⟨v, ?_, r.stp st⟩
        rw [List.getElem?_set, if_pos rfl, if_pos (by rw [← b.len]; exact hl)]
      · cases h
    · rw [List.getElem?_set_ne hj] at h
      obtain ⟨u, e1, q⟩ := b.sh j e h
      exact ⟨u, by rw [List.getElem?_set_ne hj]; exact e1, q.stp st⟩
  · by_cases hj : i = j
    · subst hj
      rw [List.getElem?_set] at h
      simp only [if_true] at h
      split at h <;> cases h
    · rw [List.getElem?_set_ne hj] at h
      obtain ⟨a, o, e1, l, q, w⟩ := b.ow j e h
      exact ⟨a, o, by rw [List.getElem?_set_ne hj]; exact e1, unl_ne l (by rintro z; cases z; exact hj rfl), q, w.stp st⟩
  · by_cases hj : i = j
    · subst hj
      rw [List.getElem?_set] at h
      simp only [if_true] at h
      split at h <;> cases h
    · rw [List.getElem?_set_ne hj] at h
      obtain ⟨a, e1, w⟩ := b.mt j R h
      exact ⟨a, by rw [List.getElem?_set_ne hj]; exact e1, w.keep st.q fun x hx => ⟨unl_ne hx (by rintro z; cases z; exact hj rfl), rfl⟩⟩
/-- what slot i alone knew may be shared from now on -/
theorem BOk.relTo (b : BOk cn lb0 H0 lb ρ s σ H) {i : Nat} {d : D} {v : V} (e0 : σ[i]? = some (some v)) (r : Rep cn (Pk.unl lb i) H d v) : BOk cn lb0 H0 (Pk.unl lb i) (ρ.set i (.sh d)) s σ H := by
  have st := Stp.unl lb H i
  refine ⟨b.since.trans st, b.sto.stp st.q (fun _ _ _ _ => rfl) (fun _ _ e _ => (of_unl e).1), fun a l e => b.has a l (of_unl e).1, by simpa using b.len, fun j e h => ?_, fun j e h => ?_, fun j R h => ?_⟩
  · by_cases hj : i = j
    · subst hj
      rw [List.getElem?_set] at h
      simp only [if_true] at h
      split at h
      · cases h; exact ⟨v, e0, r⟩
      · cases h
    · rw [List.getElem?_set_ne hj] at h
      obtain ⟨u, e1, q⟩ := b.sh j e h
      exact ⟨u, e1, q.stp st⟩
  · by_cases hj : i = j
    · subst hj
      rw [List.getElem?_set] at h
      simp only [if_true] at h
      split at h <;> cases h
    · rw [List.getElem?_set_ne hj] at h
      obtain ⟨a, o, e1, l, q, w⟩ := b.ow j e h
      exact ⟨a, o, e1, unl_ne l (by rintro z; cases z; exact hj rfl), q, w.stp st⟩
  · by_cases hj : i = j
    · subst hj
      rw [List.getElem?_set] at h
      simp only [if_true] at h
      split at h <;> cases h
    · rw [List.getElem?_set_ne hj] at h
      obtain ⟨a, e1, w⟩ := b.mt j R h
      exact ⟨a, e1, w.keep st.q fun x hx => ⟨unl_ne hx (by rintro z; cases z; exact hj rfl), rfl⟩⟩
/-- a list that only this frame knew may be shared from now on -/
theorem BOk.release (b : BOk cn lb0 H0 lb ρ s σ H) {i : Nat} {d : D} (h : ρ[i]? = some (.ow d)) : ∃ v, σ[i]? = some (some v) ∧ BOk cn lb0 H0 (Pk.unl lb i) (ρ.set i (.sh d)) s σ H ∧ Rep cn (Pk.unl lb i) H d v := by
  obtain ⟨a, o, e1, l, q, w⟩ := b.ow i d h
  have st := Stp.unl lb H i
  have na : Pk.unl lb i a = none := by unfold Pk.unl; rw [if_pos l]
  have r : Rep cn (Pk.unl lb i) H d (.ref a) := (w.stp st).rep na q
  exact ⟨.ref a, e1, b.relTo e1 r, r⟩
/-- a matrix that only this frame knew may be shared from now on -/
theorem BOk.releaseM (b : BOk cn lb0 H0 lb ρ s σ H) {i : Nat} {R : List (List D)} (h : ρ[i]? = some (.mt R)) : ∃ v, σ[i]? = some (some v) ∧ BOk cn lb0 H0 (Pk.unl lb i) (ρ.set i (.sh (.lst (R.map .lst)))) s σ H ∧ Rep cn (Pk.unl lb i) H (.lst (R.map .lst)) v := by
  obtain ⟨a, e1, l, as, q, nd, sz, w⟩ := b.mt i R h
  have st := Stp.unl lb H i
  have un : ∀ x, lb x = some (.loc i) → Pk.unl lb i x = none := fun x hx => by unfold Pk.unl; rw [if_pos hx]
  have r : Rep cn (Pk.unl lb i) H (.lst (R.map .lst)) (.ref a) := by
    simp only [Rep]
    exact ⟨a, _, rfl, ⟨un a l, q⟩, by rw [List.length_map]; exact sz, w.rows st.q un⟩
  exact ⟨.ref a, e1, b.relTo e1 r, r⟩
/-- a new mark -/
def mrk (lb : Lb) (p : Addr) (l : Lab) : Lb := fun a => if a = p then some l else lb a
theorem mrk_same {p : Addr} {l : Lab} : mrk lb p l p = some l := by unfold mrk; rw [if_pos rfl]
theorem mrk_ne {p a : Addr} {l : Lab} (h : a ≠ p) : mrk lb p l a = lb a := by unfold mrk; rw [if_neg h]
/-- slot i holds a new thing, that only it knows -/
theorem BOk.setOw (b : BOk cn lb0 H0 lb ρ s σ H) (i : Nat) {p : Addr} {d : D} {o : HO} (hi : i < ρ.length) (np : H p = none) (w : OwnO cn lb H d o) :
    BOk cn lb0 H0 (mrk (Pk.unl lb i) p (.loc i)) (ρ.set i (.ow d)) s (σ.set i (some (.ref p))) (L2.upd H p o) ∧ Stp lb H (mrk (Pk.unl lb i) p (.loc i)) (L2.upd H p o) := by
  have lp : lb p = none := by
    cases q : lb p with
    | none => rfl
    | some l => obtain ⟨o, e, _⟩ := b.has p l q; rw [np] at e; cases e
  have ne : ∀ a l, lb a = some l → a ≠ p := fun a l e z => by rw [z, lp] at e; cases e
  have st : Stp lb H (mrk (Pk.unl lb i) p (.loc i)) (L2.upd H p o) :=
    { keep := fun a o e n => Ext.upd np a o e
      out := fun a e => by
        have na := ne a _ e
        exact ⟨by rw [mrk_ne na]; exact unl_ne e (by intro z; cases z), by rw [upd_ne na]⟩
      new := fun a h => by
        by_cases ha : a = p
        · rw [ha]; exact .inr np
        · rw [mrk_ne ha] at h
          exact .inl fun z => h (unl_none z)
      sto := fun a l e z => by
        rw [mrk_ne (ne a l e)]
        exact unl_ne e (by rintro rfl; cases z)
      dom := fun a e => by
        cases q : H a with
        | none => exact absurd q e
        | some u => rw [Ext.upd np a u q]; simp }
  have back : ∀ a l, mrk (Pk.unl lb i) p (.loc i) a = some l → l ≠ .loc i → lb a = some l ∧ a ≠ p := fun a l e z => by
    by_cases ha : a = p
    · rw [ha, mrk_same] at e
      exact absurd (Option.some.inj e).symm z
    · rw [mrk_ne ha] at e
      exact ⟨(of_unl e).1, ha⟩
  refine ⟨⟨b.since.trans st, b.sto.stp st.q (fun a l e _ => by rw [upd_ne (ne a l e)]) (fun a l e z => (back a l e (by rintro rfl; cases z)).1), fun a l e => ?_, by simpa using b.len, fun j e h => ?_, fun j e h => ?_, fun j R h => ?_⟩, st⟩
  · by_cases ha : a = p
    · exact ⟨o, by rw [ha, upd_same], w.nt⟩
    · rw [mrk_ne ha] at e
      obtain ⟨u, q, t⟩ := b.has a l (of_unl e).1
      exact ⟨u, by rw [upd_ne ha]; exact q, t⟩
  · by_cases hj : i = j
    · subst hj
      rw [List.getElem?_set] at h
      simp only [if_true] at h
      split at h <;> cases h
    · rw [List.getElem?_set_ne hj] at h
      obtain ⟨u, e1, q⟩ := b.sh j e h
      exact ⟨u, by rw [List.getElem?_set_ne hj]; exact e1, q.stp st⟩
  · by_cases hj : i = j
    · subst hj
      rw [List.getElem?_set, if_pos rfl, if_pos hi] at h
      cases h
      exact ⟨p, o, by rw [List.getElem?_set, if_pos rfl, if_pos (by rw [← b.len]; exact hi)], mrk_same, upd_same, w.stp st⟩
    · rw [List.getElem?_set_ne hj] at h
      obtain ⟨a, o', e1, l, q, w⟩ := b.ow j e h
      have na := ne a _ l
      refine ⟨a, o', by rw [List.getElem?_set_ne hj]; exact e1, ?_, by rw [upd_ne na]; exact q, w.stp st⟩
      rw [mrk_ne na]
      exact unl_ne l (by rintro z; cases z; exact hj rfl)
  · by_cases hj : i = j
    · subst hj
      rw [List.getElem?_set, if_pos rfl, if_pos hi] at h
      cases h
    · rw [List.getElem?_set_ne hj] at h
      obtain ⟨a, e1, w⟩ := b.mt j R h
      exact ⟨a, by rw [List.getElem?_set_ne hj]; exact e1, w.keep st.q fun x hx => ⟨by rw [mrk_ne (ne x _ hx)]; exact unl_ne hx (by rintro z; cases z; exact hj rfl), by rw [upd_ne (ne x _ hx)]⟩⟩
/-- the thing of slot i is changed -/
theorem BOk.change (b : BOk cn lb0 H0 lb ρ s σ H) {i : Nat} {a : Addr} {d d' : D} {o o' : HO} (h : ρ[i]? = some (.ow d)) (e : σ[i]? = some (some (.ref a))) (q : H a = some o) (w : OwnO cn lb H d' o') :
    BOk cn lb0 H0 lb (ρ.set i (.ow d')) s σ (L2.upd H a o') ∧ Stp lb H lb (L2.upd H a o') := by
  obtain ⟨a', _, e1, l, _, _⟩ := b.ow i d h
  rw [e] at e1
  cases e1
  have hi : i < ρ.length := (List.getElem?_eq_some_iff.mp h).1
  have ne : ∀ x l', lb x = some l' → l' ≠ .loc i → x ≠ a := fun x l' e n z => by rw [z, l] at e; exact n (Option.some.inj e).symm
  have st : Stp lb H lb (L2.upd H a o') :=
    { keep := fun x u h n => by rw [upd_ne (by rintro rfl; rw [l] at n; cases n)]; exact h
      out := fun x h => ⟨h, by rw [upd_ne (ne x _ h (by intro z; cases z))]⟩
      new := fun _ h => .inl h
      sto := fun _ _ h _ => h
      dom := fun x h => by
        by_cases hx : x = a
        · rw [hx, upd_same]; simp
        · rw [upd_ne hx]; exact h }
  refine ⟨⟨b.since.trans st, b.sto.stp st.q (fun x l' e z => by rw [upd_ne (ne x l' e (by rintro rfl; cases z))]) (fun _ _ e _ => e), fun x l' e => ?_, by simpa using b.len, fun j u h => ?_, fun j u h => ?_, fun j R h => ?_⟩, st⟩
  · by_cases hx : x = a
    · exact ⟨o', by rw [hx, upd_same], w.nt⟩
    · obtain ⟨u, q, t⟩ := b.has x l' e
      exact ⟨u, by rw [upd_ne hx]; exact q, t⟩
  · by_cases hj : i = j
    · subst hj
      rw [List.getElem?_set, if_pos rfl, if_pos hi] at h
      cases h
    · rw [List.getElem?_set_ne hj] at h
      obtain ⟨u, e1, q⟩ := b.sh j u h
      exact ⟨u, e1, q.stp st⟩
  · by_cases hj : i = j
    · subst hj
      rw [List.getElem?_set, if_pos rfl, if_pos hi] at h
      cases h
      exact ⟨a, o', e, l, upd_same, w.stp st⟩
    · rw [List.getElem?_set_ne hj] at h
      obtain ⟨x, u, e1, l', q, w⟩ := b.ow j u h
      exact ⟨x, u, e1, l', by rw [upd_ne (ne x _ l' (by rintro z; cases z; exact hj rfl))]; exact q, w.stp st⟩
  · by_cases hj : i = j
    · subst hj
      rw [List.getElem?_set, if_pos rfl, if_pos hi] at h
      cases h
    · rw [List.getElem?_set_ne hj] at h
      obtain ⟨x, e1, w⟩ := b.mt j R h
      exact ⟨x, e1, w.keep st.q fun y hy => ⟨hy, by rw [upd_ne (ne y _ hy (by rintro z; cases z; exact hj rfl))]⟩⟩
end
end Pk
/-! Br2: the judgements over plain values, expressions. -/
namespace Pk
open PySem PySem.Spec PyProof.Rows L2

/-- a def's body at work: the entry, what is wanted of an exception -/
structure Bd where
  cn : Cn
  lb0 : Lb
  H0 : Hp
  W : WX
abbrev Ok (b : Bd) (lb : Lb) (ρ : Env) (s : Sto) (σ : L2.St) (H : Hp) : Prop := BOk b.cn b.lb0 b.H0 lb ρ s σ H
/-- an exception as it flies: its class, its own dict -/
def XRep (cn : Cn) (lb : Lb) (H : Hp) (x : Xc) (cls : Value) (dx : Option Addr) : Prop :=
  cls = .ref (cn.cls x.cls) ∧ match x.arg with
    | .none => dx = none
    | some d => ∃ p v, dx = some p ∧ lb p = none ∧ H p = some (.xd [("cell", v)]) ∧ Rep cn lb H d v
def Post {α : Type} (b : Bd) (σ : L2.St) (lb : Lb) (H : Hp) (r : R α) (k : α → Env → Sto → Lb → Hp → Prop) : Prop := match r with
  | .ok a ρ s => ∀ lb' H', Stp lb H lb' H' → Ok b lb' ρ s σ H' → k a ρ s lb' H'
  | .exc x ρ s => ∀ lb' H' cls dx, Stp lb H lb' H' → Ok b lb' ρ s σ H' → XRep b.cn lb' H' x cls dx → b.W cls dx σ H'
  | .bad => False
section
variable {α β : Type} {b : Bd} {σ : L2.St} {lb lb1 : Lb} {H H1 : Hp} {r : R α} {k k' : α → Env → Sto → Lb → Hp → Prop}
theorem Post.from (h : Post b σ lb H r k) (st : Stp lb H lb1 H1) : Post b σ lb1 H1 r k := by
  cases r with
  | ok a ρ s => exact fun lb' H' s1 o => h lb' H' (st.trans s1) o
  | exc x ρ s => exact fun lb' H' c d s1 o z => h lb' H' c d (st.trans s1) o z
  | bad => exact h
theorem Post.mono (h : Post b σ lb H r k) (f : ∀ a ρ s lb' H', Stp lb H lb' H' → Ok b lb' ρ s σ H' → k a ρ s lb' H' → k' a ρ s lb' H') : Post b σ lb H r k' := by
  cases r with
  | ok a ρ s => exact fun lb' H' s1 o => f a ρ s lb' H' s1 o (h lb' H' s1 o)
  | exc x ρ s => exact h
  | bad => exact h
theorem Post.bind {f : α → Env → Sto → R β} {k : β → Env → Sto → Lb → Hp → Prop} (h : Post b σ lb H (r.bind f) k) : Post b σ lb H r fun a ρ s lb' H' => Post b σ lb' H' (f a ρ s) k := by
  cases r with
  | ok a ρ s => exact fun lb' H' s1 o => Post.from h s1
  | exc x ρ s => exact h
  | bad => exact h
end

/-- what follows: a value that stands; a new thing that nobody else knows -/
def KV (cn : Cn) (lb : Lb) (H : Hp) (d : D) (Q : VK) : Prop := ∀ v H', Ext H H' → Rep cn lb H' d v → Q v H'
def KF (cn : Cn) (lb : Lb) (H : Hp) (d : D) (Q : VK) : Prop := ∀ p o, H p = none → OwnO cn lb H d o → Q (.ref p) (L2.upd H p o)
def Kt (fresh : Bool) (cn : Cn) (lb : Lb) (H : Hp) (d : D) (Q : VK) : Prop := if fresh then KF cn lb H d Q else KV cn lb H d Q
abbrev Has (lb : Lb) (H : Hp) : Prop := ∀ a l, lb a = some l → ∃ o, H a = some o ∧ Nt o
theorem Has.none {lb : Lb} {H : Hp} (h : Has lb H) {p : Addr} (e : H p = none) : lb p = none := by
  cases q : lb p with
  | none => rfl
  | some l => obtain ⟨o, z, _⟩ := h p l q; rw [e] at z; cases z
theorem KV.kf {cn : Cn} {lb : Lb} {H : Hp} {d : D} {Q : VK} (hs : Has lb H) (h : KV cn lb H d Q) : KF cn lb H d Q := fun p o np w =>
  h _ _ (Ext.upd np) ((w.stp (Stp.of_ext (Ext.upd np) hs)).rep (hs.none np) upd_same)
theorem Kt.kf {fresh : Bool} {cn : Cn} {lb : Lb} {H : Hp} {d : D} {Q : VK} (hs : Has lb H) (h : Kt fresh cn lb H d Q) : KF cn lb H d Q := by
  cases fresh with
  | true => exact h
  | false => exact KV.kf hs h
theorem KV.now {cn : Cn} {lb : Lb} {H : Hp} {d : D} {Q : VK} (h : KV cn lb H d Q) {v : V} (r : Rep cn lb H d v) : Q v H := h v H Ext.refl r

/-- the reading of an expression -/
def tK (fresh : Bool) (b : Bd) (m : M D) : TE := fun σ H Q => ∃ lb ρ s, Ok b lb ρ s σ H ∧ Post b σ lb H (m ρ s) fun d _ _ lb' H' => Kt fresh b.cn lb' H' d Q
abbrev DE (X : Cx) (b : Bd) (e : Expr) (m : M D) : Prop := PE X e (tK false b m)
/-- .. that makes a new list or dict -/
abbrev DF (X : Cx) (b : Bd) (e : Expr) (m : M D) : Prop := PE X e (tK true b m)
theorem PE.imp {X : Cx} {e : Expr} {t t' : TE} (h : PE X e t) (f : ∀ σ H Q, t' σ H Q → t σ H Q) : PE X e t' := ⟨fun pins s σ H Q I q => h.run pins s σ H Q I (f σ H Q q)⟩
theorem PT.imp {X : Cx} {e : Expr} {t t' : TT} (h : PT X e t) (f : ∀ σ H Q, t' σ H Q → t σ H Q) : PT X e t' := ⟨fun pins s σ H Q I q => h.run pins s σ H Q I (f σ H Q q)⟩
theorem PA.imp {X : Cx} {e : List Expr} {t t' : TA} (h : PA X e t) (f : ∀ σ H Q, t' σ H Q → t σ H Q) : PA X e t' := ⟨fun pos pins s σ H Q I q => h.run pos pins s σ H Q I (f σ H Q q)⟩
theorem PS.imp {X : Cx} {e : Stmt} {t t' : TS} (h : PS X e t) (f : ∀ D σ H, t' D σ H → t D σ H) : PS X e t' := ⟨fun pins s σ H D I q => h.run pins s σ H D I (f D σ H q)⟩
theorem PSs.imp {X : Cx} {e : List Stmt} {t t' : TS} (h : PSs X e t) (f : ∀ D σ H, t' D σ H → t D σ H) : PSs X e t' := ⟨fun pins s σ H D I q => h.run pins s σ H D I (f D σ H q)⟩

section
variable {X : Cx} {b : Bd}
theorem de_f {e : Expr} {m : M D} (h : DF X b e m) : DE X b e m := PE.imp h fun σ H Q ⟨lb, ρ, s, o, p⟩ => ⟨lb, ρ, s, o, p.mono fun d ρ s lb' H' _ o' q => Kt.kf o'.has q⟩
/-- a constant -/
theorem de_c {e : Expr} {v : V} {d : D} (h : PE X e (tC v)) (r : ∀ lb H, Rep b.cn lb H d v) : DE X b e (eC d) := PE.imp h fun σ H Q ⟨lb, ρ, s, o, p⟩ =>
  (show Kt false b.cn lb H d Q from p lb H .refl o) v H .refl (r _ _)
theorem de_int {i : Int} {j pos} : DE X b (.Constant (.int i) j pos) (eC (.int i)) := de_c pe_int fun _ _ => by simp only [Rep]
theorem de_bool {c : Bool} {j pos} : DE X b (.Constant (.bool c) j pos) (eC (.bool c)) := de_c pe_bl fun _ _ => by simp only [Rep]
/-- a name of the frame -/
theorem de_v {e : Expr} (i : Nat) (h : PE X e (tVar i)) : DE X b e (eV i) := PE.imp h fun σ H Q ⟨lb, ρ, s, o, p⟩ => by
  unfold eV at p
  cases q : ρ[i]? with
  | none => rw [q] at p; exact False.elim p
  | some z =>
    rw [q] at p
    cases z with
    | no => exact False.elim p
    | sh d =>
      obtain ⟨v, e1, r⟩ := o.sh i d q
      exact ⟨v, e1, KV.now (show KV b.cn lb H d Q from p lb H .refl o) r⟩
    | ow d =>
      obtain ⟨v, e1, o', r⟩ := o.release q
      exact ⟨v, e1, KV.now (show KV b.cn (unl lb i) H d Q from p (unl lb i) H (.unl lb H i) o') r⟩
    | mt R =>
      obtain ⟨v, e1, o', r⟩ := o.releaseM q
      exact ⟨v, e1, KV.now (show KV b.cn (unl lb i) H (.lst (R.map .lst)) Q from p (unl lb i) H (.unl lb H i) o') r⟩

/-- an operand that is looked at: its root may be the frame's own -/
def RepB (cn : Cn) (lb : Lb) (H : Hp) (d : D) (v : V) : Prop := Rep cn lb H d v ∨ ∃ a o, v = .ref a ∧ H a = some o ∧ OwnO cn lb H d o
theorem RepB.lst {cn : Cn} {lb : Lb} {H : Hp} {l : List D} {v : V} (h : RepB cn lb H (.lst l) v) : ∃ a vs, v = .ref a ∧ H a = some (.lst vs) ∧ l.length ≤ SZ ∧ RepL cn lb H l vs := by
  rcases h with h | ⟨a, o, e, q, w⟩
  · simp only [Rep] at h
    obtain ⟨a, vs, e, n, z, r⟩ := h
    exact ⟨a, vs, e, n.2, z, r⟩
  · obtain ⟨vs, rfl, z, r⟩ := w
    exact ⟨a, vs, e, q, z, r⟩
theorem RepB.tup {cn : Cn} {lb : Lb} {H : Hp} {l : List D} {v : V} (h : RepB cn lb H (.tup l) v) : ∃ a vs, v = .ref a ∧ H a = some (.tup vs) ∧ l.length ≤ SZ ∧ RepL cn lb H l vs := by
  rcases h with h | ⟨a, o, e, q, w⟩
  · simp only [Rep] at h
    obtain ⟨a, vs, e, n, z, r⟩ := h
    exact ⟨a, vs, e, n.2, z, r⟩
  · exact w.elim
theorem RepB.dct {cn : Cn} {lb : Lb} {H : Hp} {ks : List Ky} {ds : List D} {v : V} (h : RepB cn lb H (.dct ks ds) v) : ∃ a vs, v = .ref a ∧ RepL cn lb H ds vs ∧ ks.length = vs.length ∧ ks.Nodup ∧ ks.length ≤ SZ ∧
    ((∃ js : List (List Int), ks = js.map .t ∧ Rd H a (.dT ((js.map fun j => j.map Sum.inl).zip vs))) ∨ (∃ js : List Int, (ks = js.map .i ∧ ks ≠ []) ∧ Rd H a (.dK ((js.map Sum.inl).zip vs)))) := by
  rcases h with h | ⟨a, o, e, q, w⟩
  · simp only [Rep] at h
    obtain ⟨a, vs, e, n, z, r, l, nd, c⟩ := h
    exact ⟨a, vs, e, r, l, nd, z, c⟩
  · obtain ⟨vs, z, r, l, nd, c⟩ := w
    refine ⟨a, vs, e, r, l, nd, z, ?_⟩
    rcases c with ⟨js, e1, rfl⟩ | ⟨js, e1, rfl⟩
    · exact .inl ⟨js, e1, .inl q⟩
    · exact .inr ⟨js, e1, .inl q⟩
theorem RepB.scr {cn : Cn} {lb : Lb} {H : Hp} {l : List Int} {v : V} (h : RepB cn lb H (.scr l) v) : ∃ a, v = .ref a ∧ SqL cn.K H a (l.map V.int) ∧ l.length ≤ SZ := by
  rcases h with h | ⟨a, o, e, q, w⟩
  · simp only [Rep] at h
    obtain ⟨a, e, n, z⟩ := h
    exact ⟨a, e, n.sq, z⟩
  · exact w.elim
/-- the scalars -/
theorem RepB.flat {cn : Cn} {lb : Lb} {H : Hp} {d : D} {v : V} (h : RepB cn lb H d v) (n : ∀ l, d ≠ .lst l) (m : ∀ ks ds, d ≠ .dct ks ds) : Rep cn lb H d v := by
  rcases h with h | ⟨a, o, e, q, w⟩
  · exact h
  · cases d with
    | lst l => exact absurd rfl (n l)
    | dct ks ds => exact absurd rfl (m ks ds)
    | _ => exact w.elim
theorem RepB.int {cn : Cn} {lb : Lb} {H : Hp} {i : Int} {v : V} (h : RepB cn lb H (.int i) v) : v = .int i := by
  have q := h.flat (fun _ e => nomatch e) (fun _ _ e => nomatch e)
  simpa only [Rep] using q
theorem RepB.bool {cn : Cn} {lb : Lb} {H : Hp} {i : Bool} {v : V} (h : RepB cn lb H (.bool i) v) : v = .bl i := by
  have q := h.flat (fun _ e => nomatch e) (fun _ _ e => nomatch e)
  simpa only [Rep] using q
theorem RepB.none {cn : Cn} {lb : Lb} {H : Hp} {v : V} (h : RepB cn lb H .none v) : v = .non := by
  have q := h.flat (fun _ e => nomatch e) (fun _ _ e => nomatch e)
  simpa only [Rep] using q
theorem RepB.str {cn : Cn} {lb : Lb} {H : Hp} {i : Str} {v : V} (h : RepB cn lb H (.str i) v) : v = .str i := by
  have q := h.flat (fun _ e => nomatch e) (fun _ _ e => nomatch e)
  simpa only [Rep] using q

/-- an operand's judgement -/
def DO (X : Cx) (b : Bd) (e : Expr) : Opd → Prop
  | .v m => DE X b e m
  | .b i => PE X e (tVar i)
def tOpd (b : Bd) : Opd → TE
  | .v m => tK false b m
  | .b i => tVar i
theorem DO.pe {e : Expr} {a : Opd} (h : DO X b e a) : PE X e (tOpd b a) := by
  cases a with
  | v m => exact h
  | b i => exact h
/-- what an operand's value stands for -/
def Stands (cn : Cn) (lb : Lb) (σ : L2.St) (H : Hp) (x : D ⊕ Nat) (v : V) : Prop := match x with
  | .inl d => Rep cn lb H d v
  | .inr i => σ[i]? = some (some v)
theorem Stands.stp {cn : Cn} {lb lb' : Lb} {σ : L2.St} {H H' : Hp} {x : D ⊕ Nat} {v : V} (h : Stands cn lb σ H x v) (s : Stp lb H lb' H') : Stands cn lb' σ H' x v := by
  cases x with
  | inl d => exact Rep.stp s h
  | inr i => exact h
theorem Stands.look {lb : Lb} {σ : L2.St} {H : Hp} {ρ : Env} {s : Sto} {x : D ⊕ Nat} {v : V} {d : D} (h : Stands b.cn lb σ H x v) (o : Ok b lb ρ s σ H) (e : look ρ x = some d) : RepB b.cn lb H d v := by
  cases x with
  | inl d' => cases e; exact .inl h
  | inr i =>
    have h : σ[i]? = some (some v) := h
    unfold Pk.look at e
    cases q : ρ[i]? with
    | none => simp only [q] at e; cases e
    | some z =>
      simp only [q] at e
      cases z with
      | no => cases e
      | sh d' =>
        cases e
        obtain ⟨u, e1, r⟩ := o.sh i d q
        rw [h] at e1; cases e1
        exact .inl r
      | ow d' =>
        cases e
        obtain ⟨a, ob, e1, l, z, w⟩ := o.ow i d q
        rw [h] at e1; cases e1
        exact .inr ⟨a, ob, rfl, z, w⟩
      | mt R => cases e
/-- an operand is reckoned -/
theorem tOpd_run {σ : L2.St} {lb : Lb} {H : Hp} {ρ : Env} {s : Sto} {a : Opd} {k : D ⊕ Nat → Env → Sto → Lb → Hp → Prop} {Q : VK} (o : Ok b lb ρ s σ H) (h : Post b σ lb H (a.run ρ s) k)
    (f : ∀ x ρ s lb' H' v, Stp lb H lb' H' → Ok b lb' ρ s σ H' → k x ρ s lb' H' → Stands b.cn lb' σ H' x v → Q v H') : tOpd b a σ H Q := by
  cases a with
  | v m =>
    refine ⟨lb, ρ, s, o, (Post.bind h).mono fun d ρ1 s1 lb1 H1 st o1 p v H2 ex r => ?_⟩
    have q := p lb1 H2 (o1.stp_ext ex) (o1.ext ex)
    exact f (.inl d) ρ1 s1 lb1 H2 v (st.trans (o1.stp_ext ex)) (o1.ext ex) q r
  | b i =>
    simp only [Opd.run] at h
    cases q : ρ[i]? with
    | none => rw [q] at h; exact False.elim h
    | some z =>
      rw [q] at h
      cases z with
      | no => exact False.elim h
      | sh d =>
        obtain ⟨v, e, _⟩ := o.sh i d q
        exact ⟨v, e, f (.inr i) ρ s lb H v .refl o (h lb H .refl o) e⟩
      | ow d =>
        obtain ⟨a, _, e, _⟩ := o.ow i d q
        exact ⟨.ref a, e, f (.inr i) ρ s lb H (.ref a) .refl o (h lb H .refl o) e⟩
      | mt R => exact False.elim h

theorem opt_post {α : Type} {σ : L2.St} {lb : Lb} {H : Hp} {ρ : Env} {s : Sto} {v : Option α} {k : α → Env → Sto → Lb → Hp → Prop} (o : Ok b lb ρ s σ H) (h : Post b σ lb H (opt v ρ s) k) : ∃ a, v = some a ∧ k a ρ s lb H := by
  cases v with
  | none => exact False.elim h
  | some a => exact ⟨a, rfl, h lb H .refl o⟩
/-! ### operations on values -/
def P1 (fresh : Bool) (cn : Cn) (r : V → Hp → VK → Prop) (p : D → Option D) : Prop := ∀ (lb : Lb) (H : Hp) (x : V) (d e : D) (Q : VK), Has lb H → RepB cn lb H d x → p d = some e → Kt fresh cn lb H e Q → r x H Q
def P2 (fresh : Bool) (cn : Cn) (r : R2) (p : D → D → Option D) : Prop := ∀ (lb : Lb) (H : Hp) (x y : V) (d1 d2 e : D) (Q : VK), Has lb H → RepB cn lb H d1 x → RepB cn lb H d2 y → p d1 d2 = some e → Kt fresh cn lb H e Q → r x y H Q
def tOp1 (r : V → Hp → VK → Prop) (ta : TE) : TE := fun σ H Q => ta σ H fun x H1 => r x H1 Q
theorem t1_run {fresh : Bool} {a : Opd} {r : V → Hp → VK → Prop} {p : D → Option D} (hp : P1 fresh b.cn r p) {σ : L2.St} {H : Hp} {Q : VK} (h : tK fresh b (e1 p a) σ H Q) : tOp1 r (tOpd b a) σ H Q := by
  obtain ⟨lb, ρ, s, o, h⟩ := h
  refine tOpd_run o (Post.bind h) fun x ρ1 s1 lb1 H1 v st o1 q sd => ?_
  obtain ⟨e, e1, k⟩ := opt_post o1 q
  cases e2 : look ρ1 x with
  | none => rw [e2] at e1; cases e1
  | some d =>
    rw [e2] at e1
    exact hp lb1 H1 v d e Q o1.has (sd.look o1 e2) e1 k
theorem t2_run {fresh : Bool} {a c : Opd} {r : R2} {p : D → D → Option D} (hp : P2 fresh b.cn r p) {σ : L2.St} {H : Hp} {Q : VK} (h : tK fresh b (e2 p a c) σ H Q) : tOp r (tOpd b a) (tOpd b c) σ H Q := by
  obtain ⟨lb, ρ, s, o, h⟩ := h
  refine tOpd_run o (Post.bind h) fun x ρ1 s1 lb1 H1 v st o1 q sd => ?_
  refine tOpd_run o1 (Post.bind q) fun y ρ2 s2 lb2 H2 u st2 o2 q2 sd2 => ?_
  obtain ⟨e, e1, k⟩ := opt_post o2 q2
  cases e2 : look ρ2 x with
  | none => rw [e2] at e1; cases e1
  | some d =>
    rw [e2] at e1
    cases e3 : look ρ2 y with
    | none => rw [e3] at e1; cases e1
    | some d' =>
      rw [e3] at e1
      exact hp lb2 H2 v u d d' e Q o2.has ((sd.stp st2).look o2 e2) (sd2.look o2 e3) e1 k
/-- a + b and their like -/
theorem de_bin {fresh : Bool} {op : Operator} {r : R2} {p : D → D → Option D} {ea ec : Expr} {a c : Opd} {pos : Pos} (ho : OpR X (binaryOp op) r) (hp : P2 fresh b.cn r p) (ha : DO X b ea a) (hc : DO X b ec c) :
    PE X (.BinOp ea op ec pos) (tK fresh b (e2 p a c)) := PE.imp (pe_op ho ha.pe hc.pe) fun _ _ _ h => t2_run hp h
theorem de_un {op : UnaryOp} {r : V → Hp → VK → Prop} {p : D → Option D} {ea : Expr} {a : Opd} {pos : Pos} (ho : UnR X (unaryOp op) r) (hp : P1 false b.cn r p) (ha : DO X b ea a) :
    DE X b (.UnaryOp op ea pos) (e1 p a) := PE.imp (pe_un ho ha.pe) fun _ _ _ h => t1_run hp h
theorem de_cmp {op : CmpOp} {r : R2} {p : D → D → Option D} {ea ec : Expr} {a c : Opd} {pos : Pos} (ho : OpR X (compareOp op) r) (hp : P2 false b.cn r p) (ha : DO X b ea a) (hc : DO X b ec c) (hm : behindInMarks op ec = false) :
    DE X b (.Compare ea [op] [ec] pos) (e2 p a c) := PE.imp (pe_cmpR ho ha.pe hc.pe hm) fun _ _ _ h => t2_run hp h

/-! ### tests -/
def tT (b : Bd) (m : M D) : TT := fun σ H Q => ∃ lb ρ s, Ok b lb ρ s σ H ∧ Post b σ lb H (m ρ s) fun d _ _ _ H' => match d with
  | .bool c => ∀ H2, Ext H' H2 → Q c H2
  | _ => False
abbrev DT (X : Cx) (b : Bd) (e : Expr) (m : M D) : Prop := PT X e (tT b m)
theorem tT_test {m : M D} {σ : L2.St} {H : Hp} {Q : Bool → Hp → Prop} (h : tT b m σ H Q) : tTest (tK false b m) σ H Q := by
  obtain ⟨lb, ρ, s, o, h⟩ := h
  refine ⟨lb, ρ, s, o, h.mono fun d ρ1 s1 lb1 H1 st o1 q => fun v H2 ex r => ?_⟩
  cases d with
  | bool c =>
    simp only [Rep] at r
    exact ⟨c, r, q H2 ex⟩
  | _ => exact False.elim q
/-- any expression but and, or, not, comparisons -/
theorem dt_val {e : Expr} {m : M D} (h : DE X b e m) (he : ∀ whole, isTrue e X.env whole = (do let v ← whole; standAt e.pos; holding [v] (truthy v)) := by intro _; rfl) : DT X b e m :=
  PT.imp (pt_val h he) fun _ _ _ h => tT_test h
theorem dt_cmp {op : CmpOp} {r : R2} {p : D → D → Option D} {ea ec : Expr} {a c : Opd} {pos : Pos} (ho : OpR X (compareOp op) r) (hp : P2 false b.cn r p) (ha : DO X b ea a) (hc : DO X b ec c) (hm : behindInMarks op ec = false) :
    DT X b (.Compare ea [op] [ec] pos) (e2 p a c) := PT.imp (pt_cmpR ho ha.pe hc.pe hm) fun σ H Q h => t2_run (Q := fun x H' => ∃ k, x = .bl k ∧ Q k H') hp (tT_test h)
end
end Pk
/-! Br3: argument lists, displays, calls, and | or | not, statements, a def. -/
namespace Pk
open PySem PySem.Spec PyProof.Rows L2

theorem SZ_eq : SZ = sizeLine := by decide
section
variable {X : Cx} {b : Bd}
def tAL (b : Bd) (ms : List (M D)) : TA := fun σ H Q => ∃ lb ρ s, Ok b lb ρ s σ H ∧ Post b σ lb H (eL ms ρ s) fun ds _ _ lb' H' => ∀ vs H2, Ext H' H2 → RepL b.cn lb' H2 ds vs → Q vs H2
abbrev DA (X : Cx) (b : Bd) (es : List Expr) (ms : List (M D)) : Prop := PA X es (tAL b ms)
theorem da_nil : DA X b [] [] := PA.imp pa_nil fun σ H Q ⟨lb, ρ, s, o, p⟩ => p lb H .refl o [] H .refl .nil
theorem da_cons {e : Expr} {es : List Expr} {m : M D} {ms : List (M D)} (h : DE X b e m) (hs : DA X b es ms) (hx : starEach (e :: es) X.env = (false, eval e X.env) :: starEach es X.env := by rfl) : DA X b (e :: es) (m :: ms) := by
  refine PA.imp (pa_cons h hs hx) fun σ H Q ⟨lb, ρ, s, o, p⟩ => ?_
  have p : Post b σ lb H ((m ρ s).bind fun d r s => (eL ms r s).bind fun ds r s => .ok (d :: ds) r s) _ := p
  refine ⟨lb, ρ, s, o, (Post.bind p).mono fun d ρ1 s1 lb1 H1 st o1 q => fun v H2 ex r => ?_⟩
  refine ⟨lb1, ρ1, s1, o1.ext ex, ((Post.bind q).from (o1.stp_ext ex)).mono fun ds ρ2 s2 lb2 H3 st2 o2 q2 => fun vs H4 ex4 rl => ?_⟩
  exact q2 lb2 H4 (o2.stp_ext ex4) (o2.ext ex4) (v :: vs) H4 .refl (.cons (r.stp (st2.trans (o2.stp_ext ex4))) rl)
theorem eL_len : ∀ {ms : List (M D)} {ρ ρ' : Env} {s s' : Sto} {ds : List D}, eL ms ρ s = .ok ds ρ' s' → ds.length = ms.length
  | [], ρ, ρ', s, s', ds, h => by cases h; rfl
  | m :: ms, ρ, ρ', s, s', ds, h => by
    have h : (m ρ s).bind (fun d r s => (eL ms r s).bind fun ds r s => .ok (d :: ds) r s) = .ok ds ρ' s' := h
    cases e : m ρ s with
    | ok d r1 s1 =>
      rw [e, R.bind_ok] at h
      cases e2 : eL ms r1 s1 with
      | ok ds2 r2 s2 =>
        rw [e2, R.bind_ok] at h
        cases h
        rw [List.length_cons, List.length_cons, eL_len e2]
      | exc x r s => rw [e2] at h; cases h
      | bad => rw [e2] at h; cases h
    | exc x r s => rw [e] at h; cases h
    | bad => rw [e] at h; cases h
/-- the items of a written tuple or list, with their number -/
theorem tAL_len {ms : List (M D)} {σ : L2.St} {lb : Lb} {H : Hp} {ρ : Env} {s : Sto} {k k' : List D → Env → Sto → Lb → Hp → Prop} (h : Post b σ lb H (eL ms ρ s) k) (f : ∀ ds ρ s lb' H', ds.length = ms.length → Stp lb H lb' H' → Ok b lb' ρ s σ H' → k ds ρ s lb' H' → k' ds ρ s lb' H') : Post b σ lb H (eL ms ρ s) k' := by
  cases e : eL ms ρ s with
  | ok ds r1 s1 => rw [e] at h; exact fun lb' H' st o => f ds r1 s1 lb' H' (eL_len e) st o (h lb' H' st o)
  | exc x r s => rw [e] at h; exact h
  | bad => rw [e] at h; exact h
theorem de_tup {es : List Expr} {ms : List (M D)} {x1 pos} (h : DA X b es ms) (hl : ms.length ≤ SZ := by decide) : DE X b (.Tuple es x1 pos) (eTup ms) := by
  refine PE.imp (pe_tup h) fun σ H Q ⟨lb, ρ, s, o, p⟩ => ⟨lb, ρ, s, o, tAL_len (Post.bind p) fun ds ρ1 s1 lb1 H1 hn st o1 q => fun vs H2 ex r => ?_⟩
  have hv : vs.length ≤ sizeLine := by rw [← r.length, hn, ← SZ_eq]; exact hl
  refine ⟨hv, fun a na => ?_⟩
  have ex2 : Ext H1 (L2.upd H2 a (.tup vs)) := ex.trans (Ext.upd na)
  have o2 := o1.ext ex2
  have la : lb1 a = none := (o1.ext ex).has |> fun z => Has.none z na
  refine KV.now (show KV b.cn lb1 (L2.upd H2 a (.tup vs)) (.tup ds) Q from q lb1 _ (o1.stp_ext ex2) o2) ?_
  simp only [Rep]
  exact ⟨a, vs, rfl, ⟨la, upd_same⟩, by rw [hn]; exact hl, r.stp ((o1.ext ex).stp_ext (Ext.upd na))⟩
theorem df_lst {es : List Expr} {ms : List (M D)} {pos} (h : DA X b es ms) (hl : ms.length ≤ SZ := by decide) : DF X b (.List es pos) (eLst ms) := by
  refine PE.imp (pe_lst h) fun σ H Q ⟨lb, ρ, s, o, p⟩ => ⟨lb, ρ, s, o, tAL_len (Post.bind p) fun ds ρ1 s1 lb1 H1 hn st o1 q => fun vs H2 ex r => ?_⟩
  have hv : vs.length ≤ sizeLine := by rw [← r.length, hn, ← SZ_eq]; exact hl
  refine ⟨hv, fun a na => ?_⟩
  exact (show KF b.cn lb1 H2 (.lst ds) Q from q lb1 H2 (o1.stp_ext ex) (o1.ext ex)) a (.lst vs) na ⟨vs, rfl, by rw [hn]; exact hl, r⟩

/-! ### and, or, not, if as values and tests -/
theorem bool_of {cn : Cn} {lb : Lb} {H : Hp} {c : Bool} {v : V} (h : Rep cn lb H (.bool c) v) : v = .bl c := by simpa only [Rep] using h
/-- the first of two: a bool -/
theorem first_bool {m : M D} {f : Bool → M D} {g : D → Env → Sto → R D} {σ : L2.St} {lb : Lb} {H : Hp} {ρ : Env} {s : Sto} {Q : VK} {k : D → Env → Sto → Lb → Hp → Prop} (o : Ok b lb ρ s σ H) (hg : ∀ c r s, g (.bool c) r s = f c r s) (hb : ∀ (d : D) (r : Env) (s : Sto), match d with | .bool _ => True | d => g d r s = .bad)
    (h : Post b σ lb H ((m ρ s).bind g) k) (hk : ∀ c H1, (∃ lb ρ s, Ok b lb ρ s σ H1 ∧ Post b σ lb H1 (f c ρ s) k) → Q (.bl c) H1) : tK false b m σ H Q := by
  refine ⟨lb, ρ, s, o, (Post.bind h).mono fun d ρ1 s1 lb1 H1 st o1 q => fun v H2 ex r => ?_⟩
  have hz := hb d ρ1 s1
  cases d with
  | bool c =>
    rw [bool_of r]
    rw [hg] at q
    exact hk c H2 ⟨lb1, ρ1, s1, o1.ext ex, Post.from q (o1.stp_ext ex)⟩
  | _ => rw [show g _ ρ1 s1 = R.bad from hz] at q; exact False.elim q
theorem first_test {m : M D} {f : Bool → M D} {g : D → Env → Sto → R D} {σ : L2.St} {lb : Lb} {H : Hp} {ρ : Env} {s : Sto} {Q : Bool → Hp → Prop} {k : D → Env → Sto → Lb → Hp → Prop} (o : Ok b lb ρ s σ H) (hg : ∀ c r s, g (.bool c) r s = f c r s) (hb : ∀ (d : D) (r : Env) (s : Sto), match d with | .bool _ => True | d => g d r s = .bad)
    (h : Post b σ lb H ((m ρ s).bind g) k) (hk : ∀ c H1, (∃ lb ρ s, Ok b lb ρ s σ H1 ∧ Post b σ lb H1 (f c ρ s) k) → Q c H1) : tT b m σ H Q := by
  refine ⟨lb, ρ, s, o, (Post.bind h).mono fun d ρ1 s1 lb1 H1 st o1 q => ?_⟩
  have hz := hb d ρ1 s1
  cases d with
  | bool c =>
    rw [hg] at q
    exact fun H2 ex => hk c H2 ⟨lb1, ρ1, s1, o1.ext ex, Post.from q (o1.stp_ext ex)⟩
  | _ => rw [show g _ ρ1 s1 = R.bad from hz] at q; exact False.elim q
theorem done_val {d : D} {σ : L2.St} {H : Hp} {Q : VK} {v : V} (h : ∃ lb ρ s, Ok b lb ρ s σ H ∧ Post b σ lb H ((eC d) ρ s) fun d _ _ lb' H' => Kt false b.cn lb' H' d Q) (r : ∀ lb, Rep b.cn lb H d v) : Q v H := by
  obtain ⟨lb, ρ, s, o, p⟩ := h
  exact KV.now (show KV b.cn lb H d Q from p lb H .refl o) (r lb)
abbrev andK (n : M D) (c : Bool) : M D := if c = true then n else eC (.bool false)
abbrev orK (n : M D) (c : Bool) : M D := if c = true then eC (.bool true) else n
theorem de_and1 {op a m pos} (h : DE X b a m) : DE X b (.BoolOp op [a] pos) m := pe_one h
theorem de_and {a c : Expr} {rest : List Expr} {m n : M D} {pos : Pos} (ha : DE X b a m) (hc : DE X b (.BoolOp .And (c :: rest) pos) n) : DE X b (.BoolOp .And (a :: c :: rest) pos) (eAnd m n) := by
  refine PE.imp (pe_and ha hc) fun σ H Q ⟨lb, ρ, s, o, p⟩ => ?_
  refine first_bool (f := andK n) o (fun c r s => by cases c <;> rfl) (fun d r s => by cases d <;> first | rfl | trivial) p fun c H1 h => ⟨c, rfl, ?_⟩
  cases c with
  | true => exact h
  | false => exact done_val h fun lb => by simp only [Rep]
theorem de_not {a : Expr} {m : M D} {pos : Pos} (ha : DE X b a m) : DE X b (.UnaryOp .Not a pos) (eNot m) := by
  refine PE.imp (pe_not ha) fun σ H Q ⟨lb, ρ, s, o, p⟩ => ?_
  refine first_bool (f := fun c => eC (.bool !c)) o (fun c r s => rfl) (fun d r s => by cases d <;> first | rfl | trivial) p fun c H1 h => ⟨c, rfl, ?_⟩
  exact done_val h fun lb => by simp only [Rep]
theorem done_test {c : Bool} {σ : L2.St} {H : Hp} {Q : Bool → Hp → Prop} (h : ∃ lb ρ s, Ok b lb ρ s σ H ∧ Post b σ lb H ((eC (.bool c)) ρ s) fun d _ _ _ H' => match d with
  | .bool c => ∀ H2, Ext H' H2 → Q c H2
  | _ => False) : Q c H := by
  obtain ⟨lb, ρ, s, o, p⟩ := h
  exact (show ∀ H2, Ext H H2 → Q c H2 from p lb H .refl o) H .refl
/-- tests of and, or: whatever their whole -/
abbrev DW (X : Cx) (b : Bd) (e : Expr) (m : M D) : Prop := PW X e (tT b m)
theorem PW.imp {X : Cx} {e : Expr} {t t' : TT} (h : PW X e t) (f : ∀ σ H Q, t' σ H Q → t σ H Q) : PW X e t' := ⟨fun wh pins s σ H Q I q => h.run wh pins s σ H Q I (f σ H Q q)⟩
theorem dw_or1 {a m pos} (h : DT X b a m) : DW X b (.BoolOp .Or [a] pos) m := pw_or1 h
theorem dw_or {a c : Expr} {rest : List Expr} {m n : M D} {pos : Pos} (ha : DT X b a m) (hc : DW X b (.BoolOp .Or (c :: rest) pos) n) : DW X b (.BoolOp .Or (a :: c :: rest) pos) (eOr m n) := by
  refine PW.imp (pw_or ha hc) fun σ H Q ⟨lb, ρ, s, o, p⟩ => ?_
  refine first_test (f := orK n) o (fun c r s => by cases c <;> rfl) (fun d r s => by cases d <;> first | rfl | trivial) p fun c H1 h => ?_
  cases c with
  | false => exact h
  | true => exact done_test h
theorem dt_w {e : Expr} {m : M D} (h : DW X b e m) : DT X b e m := h.pt
theorem dt_not {a : Expr} {m : M D} {pos : Pos} (ha : DT X b a m) : DT X b (.UnaryOp .Not a pos) (eNot m) := by
  refine PT.imp (pt_not ha) fun σ H Q ⟨lb, ρ, s, o, p⟩ => ?_
  refine first_test (f := fun c => eC (.bool !c)) o (fun c r s => rfl) (fun d r s => by cases d <;> first | rfl | trivial) p fun c H1 h => ?_
  exact done_test h
theorem de_ite {c x y : Expr} {m n k : M D} {pos : Pos} {fresh : Bool} (hc : DT X b c m) (hx : PE X x (tK fresh b n)) (hy : PE X y (tK fresh b k)) : PE X (.IfExp c x y pos) (tK fresh b (eIte m n k)) := by
  refine PE.imp (pe_ifExp hc hx hy) fun σ H Q ⟨lb, ρ, s, o, p⟩ => ?_
  refine first_test (f := fun c => if c = true then n else k) o (fun c r s => by cases c <;> rfl) (fun d r s => by cases d <;> first | rfl | trivial) p fun c H1 h => ?_
  cases c with
  | true => exact h
  | false => exact h
/-- a < b <= c -/
theorem chain_run {p q : D → D → Option D} {r r' : R2} {m1 m2 m3 : M D} (hp : P2 false b.cn r p) (hq : P2 false b.cn r' q) {σ : L2.St} {H : Hp} {Q : VK} (h : tK false b (eChain p q m1 m2 m3) σ H Q) : tChain r r' (tK false b m1) (tK false b m2) (tK false b m3) σ H Q := by
  obtain ⟨lb, ρ, s, o, h⟩ := h
  refine ⟨lb, ρ, s, o, (Post.bind h).mono fun x ρ1 s1 lb1 H1 st o1 h1 => fun vx H2 ex r1 => ?_⟩
  refine ⟨lb1, ρ1, s1, o1.ext ex, (Post.bind (Post.from h1 (o1.stp_ext ex))).mono fun y ρ2 s2 lb2 H3 st2 o2 h2 => fun vy H4 ex2 r2 => ?_⟩
  have h2 := Post.from h2 (o2.stp_ext ex2)
  have o4 := o2.ext ex2
  have rx := r1.stp (st2.trans (o2.stp_ext ex2))
  cases e : p x y with
  | none => rw [e] at h2; exact False.elim h2
  | some d =>
    rw [e] at h2
    cases d with
    | bool c =>
      refine hp lb2 H4 vx vy x y (.bool c) _ o4.has (.inl rx) (.inl r2) e fun v H5 ex5 r5 => ⟨c, bool_of r5, ?_⟩
      cases c with
      | true =>
        refine ⟨lb2, ρ2, s2, o4.ext ex5, (Post.bind (Post.from h2 (o4.stp_ext ex5))).mono fun z ρ3 s3 lb3 H6 st6 o6 h6 => fun vz H7 ex7 r7 => ?_⟩
        obtain ⟨d, e6, k⟩ := opt_post (o6.ext ex7) (Post.from h6 (o6.stp_ext ex7))
        exact hq lb3 H7 vy vz y z d Q (o6.ext ex7).has (.inl (r2.stp ((o4.stp_ext ex5).trans (st6.trans (o6.stp_ext ex7))))) (.inl r7) e6 k
      | false => exact KV.now (show KV b.cn lb2 H5 (.bool false) Q from h2 lb2 H5 (o4.stp_ext ex5) (o4.ext ex5)) (by simp only [Rep])
    | _ => exact False.elim h2
theorem de_chain {p q : D → D → Option D} {r r' : R2} {op op' : CmpOp} {e1 e2 e3 : Expr} {m1 m2 m3 : M D} {pos : Pos} (ho : OpR X (compareOp op) r) (hp : P2 false b.cn r p) (ho' : OpR X (compareOp op') r') (hq : P2 false b.cn r' q)
    (h1 : DE X b e1 m1) (h2 : DE X b e2 m2) (h3 : DE X b e3 m3) (hm : lastMarks [op, op'] [e2, e3] = false := by with_unfolding_all rfl) : DE X b (.Compare e1 [op, op'] [e2, e3] pos) (eChain p q m1 m2 m3) :=
  PE.imp (pe_chain ho ho' h1 h2 h3 hm) fun _ _ _ h => chain_run hp hq h
theorem dt_chain {p q : D → D → Option D} {r r' : R2} {op op' : CmpOp} {e1 e2 e3 : Expr} {m1 m2 m3 : M D} {pos : Pos} (ho : OpR X (compareOp op) r) (hp : P2 false b.cn r p) (ho' : OpR X (compareOp op') r') (hq : P2 false b.cn r' q)
    (h1 : DE X b e1 m1) (h2 : DE X b e2 m2) (h3 : DE X b e3 m3) (hm : lastMarks [op, op'] [e2, e3] = false := by with_unfolding_all rfl) : DT X b (.Compare e1 [op, op'] [e2, e3] pos) (eChain p q m1 m2 m3) :=
  PT.imp (pt_chain ho ho' h1 h2 h3 hm) fun σ H Q h => chain_run (Q := fun x H' => ∃ k, x = .bl k ∧ Q k H') hp hq (tT_test h)
end
end Pk
/-! Br4: calls of defs, statements, loops, a def's promise. -/
namespace Pk
open PySem PySem.Spec PyProof.Rows L2

/-- at a def's entry and end: no frame's own marks -/
structure EOk (cn : Cn) (lb : Lb) (s : Sto) (H : Hp) : Prop where
  sto : StoOk cn lb s H
  has : Has lb H
  nl : ∀ a l, lb a = some l → l.isLoc = false
/-- a def's promise -/
def spOf (cn : Cn) (F : Fn) : Sp := fun vs H Q E => ∃ lb s ds, EOk cn lb s H ∧ RepL cn lb H ds vs ∧ match F ds s with
  | .ok d s' => ∀ lb' H' v, Stp lb H lb' H' → EOk cn lb' s' H' → Rep cn lb' H' d v → Q v H'
  | .exc x s' => ∀ lb' H' cls dx, Stp lb H lb' H' → EOk cn lb' s' H' → XRep cn lb' H' x cls dx → E cls dx H'
  | .bad => False

/-- for a callee the caller's own things are others' -/
def rel (lb : Lb) : Lb := fun a => match lb a with
  | some (.loc _) => some .out
  | x => x
theorem rel_loc {lb : Lb} {a : Addr} {i : Nat} (h : lb a = some (.loc i)) : rel lb a = some .out := by unfold rel; rw [h]
theorem rel_ne {lb : Lb} {a : Addr} (h : ∀ i, lb a ≠ some (.loc i)) : rel lb a = lb a := by
  unfold rel
  cases q : lb a with
  | none => rfl
  | some l =>
    cases l with
    | loc i => exact absurd q (h i)
    | _ => rfl
theorem rel_none {lb : Lb} {a : Addr} : rel lb a = none ↔ lb a = none := by
  unfold rel
  cases q : lb a with
  | none => simp
  | some l => cases l <;> simp
theorem rel_sto {lb : Lb} {a : Addr} {l : Lab} (h : lb a = some l) (i : l.isSto = true) : rel lb a = some l := by
  rw [rel_ne (by rintro j e; rw [h] at e; cases e; cases i)]
  exact h
theorem of_rel_sto {lb : Lb} {a : Addr} {l : Lab} (h : rel lb a = some l) (i : l.isSto = true) : lb a = some l := by
  unfold rel at h
  cases q : lb a with
  | none => rw [q] at h; cases h
  | some l' =>
    rw [q] at h
    cases l' with
    | loc j => cases h; cases i
    | _ => exact h
theorem Stq.rel {lb : Lb} {H : Hp} : Stq lb H (rel lb) H := ⟨fun _ _ h _ => h, fun a h => .inl fun e => h (rel_none.mpr e), fun _ _ h i => rel_sto h i⟩
/-- back at the caller -/
def unrel (lb lc : Lb) : Lb := fun a => match lb a with
  | some (.loc i) => some (.loc i)
  | _ => lc a
theorem unrel_loc {lb lc : Lb} {a : Addr} {i : Nat} (h : lb a = some (.loc i)) : unrel lb lc a = some (.loc i) := by unfold unrel; rw [h]
theorem unrel_ne {lb lc : Lb} {a : Addr} (h : ∀ i, lb a ≠ some (.loc i)) : unrel lb lc a = lc a := by
  unfold unrel
  cases q : lb a with
  | none => rfl
  | some l =>
    cases l with
    | loc i => exact absurd q (h i)
    | _ => rfl
section
variable {cn : Cn} {lb lc : Lb} {H H' : Hp}
theorem unrel_case (lb : Lb) (a : Addr) : (∃ i, lb a = some (.loc i)) ∨ ∀ i, lb a ≠ some (.loc i) := by
  cases q : lb a with
  | none => exact .inr fun i e => nomatch e
  | some l =>
    cases l with
    | loc i => exact .inl ⟨i, rfl⟩
    | _ => exact .inr fun i e => by cases e
theorem Stp.unrel (s : Stp (rel lb) H lc H') : Stp lb H (Pk.unrel lb lc) H' where
  keep := fun a o h n => s.keep a o h (rel_none.mpr n)
  out := fun a h => by
    have h1 : rel lb a = some .out := by rw [rel_ne (by rintro i e; rw [h] at e; cases e)]; exact h
    rw [unrel_ne (by rintro i e; rw [h] at e; cases e)]
    exact s.out a h1
  new := fun a h => by
    rcases unrel_case lb a with ⟨i, e⟩ | e
    · exact .inl (by rw [e]; simp)
    · rw [unrel_ne e] at h
      exact (s.new a h).imp (fun z q => z (rel_none.mpr q)) id
  sto := fun a l h i => by
    rw [unrel_ne (by rintro j e; rw [h] at e; cases e; cases i)]
    exact s.sto a l (rel_sto h i) i
  dom := s.dom
/-- a store mark behind the call is one for the caller -/
theorem unrel_sto (s : Stp (rel lb) H lc H') {a : Addr} {l : Lab} (h : lc a = some l) (i : l.isSto = true) : Pk.unrel lb lc a = some l := by
  rw [unrel_ne ?_]
  · exact h
  · intro j e
    have := (s.out a (rel_loc e)).1
    rw [h] at this
    cases this
    cases i
theorem unrel_none (s : Stp (rel lb) H lc H') {a : Addr} (h : lc a = none) : Pk.unrel lb lc a = none := by
  rw [unrel_ne ?_]
  · exact h
  · intro j e
    have := (s.out a (rel_loc e)).1
    rw [h] at this
    cases this
theorem Stq.back (s : Stp (Pk.rel lb) H lc H') : Stq lc H' (Pk.unrel lb lc) H' := ⟨fun _ _ h _ => h, fun a h => .inl fun e => h (unrel_none s e), fun _ _ h i => unrel_sto s h i⟩
theorem of_unrel_sto {a : Addr} {l : Lab} (h : Pk.unrel lb lc a = some l) (i : l.isSto = true) : lc a = some l := by
  rcases unrel_case lb a with ⟨j, e⟩ | e
  · rw [unrel_loc e] at h; cases h; cases i
  · rw [unrel_ne e] at h; exact h
variable {lb0 : Lb} {H0 : Hp} {ρ : Env} {s s' : Sto} {σ : L2.St}
theorem BOk.entry (o : BOk cn lb0 H0 lb ρ s σ H) : EOk cn (rel lb) s H :=
  ⟨o.sto.stp .rel (fun _ _ _ _ => rfl) (fun _ _ e i => of_rel_sto e i), fun a l e => by
    cases q : lb a with
    | none => rw [rel_none.mpr q] at e; cases e
    | some l' => exact o.has a l' q, fun a l e => by
    unfold rel at e
    cases q : lb a with
    | none => rw [q] at e; cases e
    | some l' => rw [q] at e; cases l' <;> cases e <;> rfl⟩
theorem BOk.after (o : BOk cn lb0 H0 lb ρ s σ H) (st : Stp (rel lb) H lc H') (e : EOk cn lc s' H') : BOk cn lb0 H0 (Pk.unrel lb lc) ρ s' σ H' := by
  have st' := st.unrel
  refine ⟨o.since.trans st', e.sto.stp (Stq.back st) (fun _ _ _ _ => rfl) (fun _ _ h i => of_unrel_sto h i), fun a l h => ?_, o.len, fun i d h => ?_, fun i d h => ?_, fun i R h => ?_⟩
  · rcases unrel_case lb a with ⟨i, q⟩ | q
    · obtain ⟨u, hu, t⟩ := o.has a _ q
      exact ⟨u, by rw [(st.out a (rel_loc q)).2]; exact hu, t⟩
    · rw [unrel_ne q] at h
      exact e.has a l h
  · obtain ⟨v, e1, r⟩ := o.sh i d h
    exact ⟨v, e1, r.stp st'⟩
  · obtain ⟨a, u, e1, l, q, w⟩ := o.ow i d h
    exact ⟨a, u, e1, unrel_loc l, by rw [(st.out a (rel_loc l)).2]; exact q, w.stp st'⟩
  · obtain ⟨a, e1, w⟩ := o.mt i R h
    exact ⟨a, e1, w.keep st'.q fun x hx => ⟨unrel_loc hx, (st.out x (rel_loc hx)).2⟩⟩
end
theorem XRep.stq {cn : Cn} {lb lb' : Lb} {H H' : Hp} {x : Xc} {cls : Value} {dx : Option Addr} (h : XRep cn lb H x cls dx) (s : Stq lb H lb' H') : XRep cn lb' H' x cls dx := by
  obtain ⟨e, h⟩ := h
  refine ⟨e, ?_⟩
  cases q : x.arg with
  | none => rw [q] at h; exact h
  | some d =>
    rw [q] at h
    obtain ⟨p, v, e1, l, hp, r⟩ := h
    exact ⟨p, v, e1, s.none hp l, s.keep p _ hp l, r.stq s⟩
theorem XRep.stp {cn : Cn} {lb lb' : Lb} {H H' : Hp} {x : Xc} {cls : Value} {dx : Option Addr} (h : XRep cn lb H x cls dx) (s : Stp lb H lb' H') : XRep cn lb' H' x cls dx := h.stq s.q

section
variable {X : Cx} {b : Bd}
/-- a def of the text, called -/
structure Gd (n : Nat) (X : Cx) (b : Bd) : Prop where
  kk : b.cn.K = X.K
  calm : X.calm = true
  nd : X.N.Nodup
  tk : Takes X b.W
  room : Room n X.A
  po : PassesOwn (model X.prog X.w) X.A X.env X.xe
theorem call_run {F : Fn} {σ : L2.St} {lb : Lb} {H : Hp} {ρ : Env} {s : Sto} {ds : List D} {vs : List V} {Q : VK} (o : Ok b lb ρ s σ H) (r : RepL b.cn lb H ds vs) (h : Post b σ lb H ((F ds s).at ρ) fun d _ _ lb' H' => Kt false b.cn lb' H' d Q) :
    spOf b.cn F vs H Q (WE b.W σ) := by
  refine ⟨rel lb, s, ds, o.entry, r.stq .rel, ?_⟩
  cases e : F ds s with
  | ok d s' =>
    rw [e] at h
    exact fun lc H' v st e' rv => KV.now (show KV b.cn (unrel lb lc) H' d Q from h _ _ st.unrel (o.after st e')) (rv.stq (Stq.back st))
  | exc x s' =>
    rw [e] at h
    exact fun lc H' cls dx st e' rv => h _ _ _ _ st.unrel (o.after st e') (rv.stq (Stq.back st))
  | bad => rw [e] at h; exact h
theorem de_call {n k : Nat} {f : Addr} {fd : FuncData} {ps : List Str} {F : Fn} {dvs : List V} {dv : List D} {dsv : List Value} {x : Str} {p pos : Pos} {e : Expr} {es : List Expr} {ms : List (M D)} (g : Gd n X b) (hf : FnOk X.prog X.w X.K X.mg X.base (L2.CX X.prog X.w) k f fd ps (spOf b.cn F)) (hk : k ≤ n)
    (hg : Gl X x) (hm : X.mg x = some (.ref f)) (hkp : PySem.W.keepIn X.K (.ref f) = true) (hb : Binds X.K fd ps dsv) (hd : Vals dvs dsv) (hdv : ∀ lb H, RepL b.cn lb H dv dvs) (ha : DA X b (e :: es) ms)
    (hdb : (x == ("__debug__" : Str)) = false := by decide) (he : starEach (e :: es) X.env = (false, eval e X.env) :: starEach es X.env := by rfl) (hpl : (backTo pos (starEach es X.env)).any (·.1) = false := by rfl) :
    DE X b (.Call (.Name x p) (e :: es) [] pos) (eCall F ms dv) := by
  refine PE.imp (pe_callSD (E := WE b.W) hf (g.room.mono hk) hg hm hkp hb hd (fun σ => passAt g.tk σ) ha hdb he hpl) fun σ H Q ⟨lb, ρ, s, o, p⟩ => ?_
  refine ⟨lb, ρ, s, o, (Post.bind p).mono fun ds ρ1 s1 lb1 H1 st o1 q => fun vs H2 ex r => ?_⟩
  exact call_run (o1.ext ex) (r.append (hdv _ _)) (Post.from q (o1.stp_ext ex))

/-! ### statements -/
def tS (b : Bd) (m : S) : TS := fun D σ H => ∃ lb ρ s, Ok b lb ρ s σ H ∧ match m ρ s with
  | .ok f ρ' s' => ∀ lb' σ' H', Stp lb H lb' H' → Ok b lb' ρ' s' σ' H' → (match f with
    | .nx => D.nx σ' H'
    | .bk => D.bk σ' H'
    | .ct => D.ct σ' H'
    | .rt d => ∀ v, Rep b.cn lb' H' d v → D.rt v H')
  | .exc x ρ' s' => ∀ lb' σ' H' cls dx, Stp lb H lb' H' → Ok b lb' ρ' s' σ' H' → XRep b.cn lb' H' x cls dx → b.W cls dx σ' H'
  | .bad => False
abbrev DS (X : Cx) (b : Bd) (st : Stmt) (m : S) : Prop := PS X st (tS b m)
abbrev DSs (X : Cx) (b : Bd) (sts : List Stmt) (m : S) : Prop := PSs X sts (tS b m)
/-- what is wanted behind a statement, at a point of the body -/
def SPost (b : Bd) (D : Ends) (lb : Lb) (H : Hp) (r : R Fl) : Prop := match r with
  | .ok f ρ' s' => ∀ lb' σ' H', Stp lb H lb' H' → Ok b lb' ρ' s' σ' H' → (match f with
    | .nx => D.nx σ' H'
    | .bk => D.bk σ' H'
    | .ct => D.ct σ' H'
    | .rt d => ∀ v, Rep b.cn lb' H' d v → D.rt v H')
  | .exc x ρ' s' => ∀ lb' σ' H' cls dx, Stp lb H lb' H' → Ok b lb' ρ' s' σ' H' → XRep b.cn lb' H' x cls dx → b.W cls dx σ' H'
  | .bad => False
theorem SPost.from {D : Ends} {lb lb1 : Lb} {H H1 : Hp} {r : R Fl} (h : SPost b D lb H r) (st : Stp lb H lb1 H1) : SPost b D lb1 H1 r := by
  cases r with
  | ok f ρ s => exact fun lb' σ' H' s1 o => h lb' σ' H' (st.trans s1) o
  | exc x ρ s => exact fun lb' σ' H' c d s1 o z => h lb' σ' H' c d (st.trans s1) o z
  | bad => exact h
/-- an expression, then the rest -/
theorem SPost.bind {α : Type} {D : Ends} {σ : L2.St} {lb : Lb} {H : Hp} {r : R α} {f : α → Env → Sto → R Fl} (h : SPost b D lb H (r.bind f)) : Post b σ lb H r fun a ρ s lb' H' => SPost b D lb' H' (f a ρ s) := by
  cases r with
  | ok a ρ s => exact fun lb' H' st o => SPost.from h st
  | exc x ρ s => exact fun lb' H' c d st o z => h lb' σ H' c d st o z
  | bad => exact h
theorem ds_nil : DSs X b [] sNil := PSs.imp pss_nil fun D σ H ⟨lb, ρ, s, o, h⟩ => h lb σ H .refl o
theorem ds_brk {pos : Pos} : DS X b (.Break pos) sBrk := PS.imp ps_break fun D σ H ⟨lb, ρ, s, o, h⟩ => h lb σ H .refl o
theorem seq_run {m n : S} {D : Ends} {σ : L2.St} {H : Hp} (h : tS b (sSeq m n) D σ H) : tSeq (tS b m) (tS b n) D σ H := by
  obtain ⟨lb, ρ, s, o, h⟩ := h
  have h : SPost b D lb H ((m ρ s).bind fun f r s => match f with | .nx => n r s | f => .ok f r s) := h
  refine ⟨lb, ρ, s, o, ?_⟩
  cases e : m ρ s with
  | ok f ρ1 s1 =>
    rw [e, R.bind_ok] at h
    intro lb1 σ1 H1 st o1
    cases f with
    | nx => exact ⟨lb1, ρ1, s1, o1, SPost.from h st⟩
    | bk => exact h lb1 σ1 H1 st o1
    | ct => exact h lb1 σ1 H1 st o1
    | rt d => exact h lb1 σ1 H1 st o1
  | exc x ρ1 s1 => rw [e] at h; exact h
  | bad => rw [e] at h; exact h
theorem ds_cons {st : Stmt} {rest : List Stmt} {m n : S} (h1 : DS X b st m) (h2 : DSs X b rest n) : DSs X b (st :: rest) (sSeq m n) := PSs.imp (pss_cons h1 h2) fun _ _ _ h => seq_run h
theorem ds_one {st : Stmt} {m : S} (h1 : DS X b st m) : DSs X b [st] m := pss_one h1
theorem ds_ret {e : Expr} {m : M D} {pos : Pos} (h : DE X b e m) : DS X b (.Return (some e) pos) (sRet m) := PS.imp (ps_ret h) fun D σ H ⟨lb, ρ, s, o, p⟩ => by
  refine ⟨lb, ρ, s, o, (SPost.bind (D := D) p).mono fun d ρ1 s1 lb1 H1 st o1 q => fun v H2 ex r => ?_⟩
  exact q lb1 σ H2 (o1.stp_ext ex) (o1.ext ex) v r
theorem ds_expr {e : Expr} {m : M D} {pos : Pos} (h : DE X b e m) (hs : swapsWith e none pos.line X.env = pure false := by rfl) : DS X b (.Expr e pos) (sExpr m) := PS.imp (ps_expr h hs) fun D σ H ⟨lb, ρ, s, o, p⟩ => by
  refine ⟨lb, ρ, s, o, (SPost.bind (D := D) p).mono fun d ρ1 s1 lb1 H1 st o1 q => fun v H2 ex r => ?_⟩
  exact q lb1 σ H2 (o1.stp_ext ex) (o1.ext ex)
/-- x = e -/
theorem set_run {e : M D} {i : Nat} {D : Ends} {σ : L2.St} {H : Hp} (h : tS b (sSet false i e) D σ H) : tAsg (tK false b e) (gName i) D σ H := by
  obtain ⟨lb, ρ, s, o, p⟩ := h
  refine ⟨lb, ρ, s, o, (SPost.bind (D := D) p).mono fun d ρ1 s1 lb1 H1 st o1 q => fun v H2 ex r => ?_⟩
  exact q (unl lb1 i) (σ.set i (some v)) H2 ((o1.stp_ext ex).trans (.unl _ _ _)) ((o1.ext ex).setSh i r)
theorem setF_run {e : M D} {i : Nat} {D : Ends} {σ : L2.St} {H : Hp} (hi : i < σ.length) (h : tS b (sSet true i e) D σ H) : tAsg (tK true b e) (gName i) D σ H := by
  obtain ⟨lb, ρ, s, o, p⟩ := h
  refine ⟨lb, ρ, s, o, (SPost.bind (D := D) p).mono fun d ρ1 s1 lb1 H1 st o1 q => fun a u na w => ?_⟩
  obtain ⟨o2, st2⟩ := o1.setOw i (by rw [o1.len]; exact hi) na w
  exact q _ _ _ st2 o2
theorem ds_set {i : Nat} {x : Str} {e : Expr} {m : M D} {pos pos' : Pos} {n : Nat} (g : Gd n X b) (hi : X.N[i]? = some x) (hx : Loc X.env.scope x) (h : DE X b e m) (hs : swapsWith e (some (.Name x pos')) pos.line X.env = pure false := by rfl)
    (hf : X.fn x = true ∨ X.env.scope.names.lookup x = some .local := by first | exact .inl rfl | exact .inr rfl | assumption) : DS X b (.Assign [.Name x pos'] e pos) (sSet false i m) := PS.imp (ps_set g.nd hi hx h hs hf) fun _ _ _ h => set_run h
theorem inv_len {X : Cx} {pins : List (Addr × Obj)} {σ : L2.St} {H : Hp} {s : Shared} (I : Inv X pins σ H s) : σ.length = X.N.length := I.len
theorem ds_setF {i : Nat} {x : Str} {e : Expr} {m : M D} {pos pos' : Pos} {n : Nat} (g : Gd n X b) (hi : X.N[i]? = some x) (hx : Loc X.env.scope x) (h : DF X b e m) (hs : swapsWith e (some (.Name x pos')) pos.line X.env = pure false := by rfl)
    (hf : X.fn x = true ∨ X.env.scope.names.lookup x = some .local := by first | exact .inl rfl | exact .inr rfl | assumption) : DS X b (.Assign [.Name x pos'] e pos) (sSet true i m) :=
  ⟨fun pins s σ H D I q => (ps_set g.nd hi hx h hs hf).run pins s σ H D I (setF_run (by rw [inv_len I]; exact (List.getElem?_eq_some_iff.mp hi).1) q)⟩
theorem ds_if {c : Expr} {p q : List Stmt} {m : M D} {n k : S} {pos : Pos} (hc : DT X b c m) (hp : DSs X b p n) (hq : DSs X b q k) : DS X b (.If c p q pos) (sIf m n k) := by
  refine PS.imp (ps_if hc hp hq) fun D σ H ⟨lb, ρ, s, o, p⟩ => ⟨lb, ρ, s, o, (SPost.bind (D := D) p).mono fun d ρ1 s1 lb1 H1 st o1 q => ?_⟩
  cases d with
  | bool c =>
    intro H2 ex
    cases c with
    | true => exact ⟨lb1, ρ1, s1, o1.ext ex, SPost.from q (o1.stp_ext ex)⟩
    | false => exact ⟨lb1, ρ1, s1, o1.ext ex, SPost.from q (o1.stp_ext ex)⟩
  | _ => exact False.elim q
/-- what is never reached -/
theorem ds_never {st : Stmt} : DS X b st sNever := PS.imp ps_never fun D σ H ⟨lb, ρ, s, o, p⟩ => p
end
end Pk
/-! Br5: what a loop walks, targets, for, comprehensions, while. -/
namespace Pk
open PySem PySem.Spec PyProof.Rows L2

/-- J yields the items ds, one behind the other, as long as what nobody may change stands -/
def ItOk (cn : Cn) (lb : Lb) (H : Hp) (ds : List D) (J : L2.It) : Prop := ∀ lb' H', Stq lb H lb' H' → J.stop ds.length H' ∧
  ∀ (i : Nat) (d : D), ds[i]? = some d → J.go i H' ∧ ∀ x H2, J.yld i H' x H2 → Ext H' H2 ∧ (Has lb' H' → Rep cn lb' H2 d x)
def tI (b : Bd) (it : It) : TI := fun σ H R => ∃ lb ρ s, Ok b lb ρ s σ H ∧ Post b σ lb H (it ρ s) fun ds _ _ lb' H' => ds.length ≤ SZ → ∀ J H2, Ext H' H2 → ItOk b.cn lb' H2 ds J → R J H2
abbrev DI (X : Cx) (b : Bd) (tg iter : Expr) (it : It) : Prop := PI X tg iter (tI b it)

theorem Stq.trans {l1 l2 l3 : Lb} {H1 H2 H3 : Hp} (a : Stq l1 H1 l2 H2) (b : Stq l2 H2 l3 H3) : Stq l1 H1 l3 H3 where
  keep := fun x o h n => b.keep x o (a.keep x o h n) (a.none h n)
  new := fun x h => by
    rcases b.new x h with z | z
    · exact a.new x z
    · cases q : H1 x with
      | none => exact .inr rfl
      | some o =>
        refine .inl fun n => ?_
        rw [a.keep x o q n] at z
        cases z
  sto := fun x l h i => b.sto x l (a.sto x l h i) i
theorem ItOk.stq {cn : Cn} {lb lb' : Lb} {H H' : Hp} {ds : List D} {J : L2.It} (h : ItOk cn lb H ds J) (s : Stq lb H lb' H') : ItOk cn lb' H' ds J := fun l2 H2 s2 => h l2 H2 (s.trans s2)
theorem Stq.of_ext {lb : Lb} {H H' : Hp} (h : Ext H H') : Stq lb H lb H' := ⟨fun a o e _ => h a o e, fun _ e => .inl e, fun _ _ e _ => e⟩

/-! ### targets -/
mutual
def Tg.slots : Tg → List Nat
  | .n i => [i]
  | .t l => Tg.slotsL l
def Tg.slotsL : List Tg → List Nat
  | [] => []
  | g :: gs => g.slots ++ Tg.slotsL gs
end
/-- outside these slots nothing is set -/
def SameOut (is : List Nat) (σ σ' : L2.St) : Prop := ∀ own : List Nat, (∀ i ∈ is, i ∈ own) → wipe σ' own = wipe σ own
theorem wipe_set {σ : L2.St} {i : Nat} {x : Option V} : ∀ {vs : List Nat}, i ∈ vs → wipe (σ.set i x) vs = wipe σ vs
  | [], h => by cases h
  | v :: vs, h => by
    unfold wipe
    by_cases e : i ∈ vs
    · rw [wipe_set e]
    · have hv : v = i := by
        rcases List.mem_cons.mp h with z | z
        · exact z.symm
        · exact absurd z e
      subst hv
      have q : ∀ (ws : List Nat), v ∉ ws → wipe (σ.set v x) ws = (wipe σ ws).set v x := by
        intro ws
        induction ws with
        | nil => intro _; rfl
        | cons w ws ih =>
          intro hw
          have h1 : w ≠ v := fun e => hw (by rw [e]; exact List.mem_cons_self)
          have h2 : v ∉ ws := fun e => hw (List.mem_cons_of_mem _ e)
          unfold wipe
          rw [ih h2, List.set_comm _ _ (Ne.symm h1)]
      rw [q vs e, List.set_set]
def tG (b : Bd) (g : Tg) : TG := fun v σ H Q => ∃ lb ρ s d ρ', Ok b lb ρ s σ H ∧ Rep b.cn lb H d v ∧ setT ρ g d = some ρ' ∧ ∀ lb' σ', Stp lb H lb' H → Ok b lb' ρ' s σ' H → SameOut g.slots σ σ' → Q σ' H
def tGs (b : Bd) (gs : List Tg) : TGs := fun vs σ H Q => ∃ lb ρ s ds ρ', Ok b lb ρ s σ H ∧ RepL b.cn lb H ds vs ∧ setTs ρ gs ds = some ρ' ∧ ∀ lb' σ', Stp lb H lb' H → Ok b lb' ρ' s σ' H → SameOut (Tg.slotsL gs) σ σ' → Q σ' H
abbrev DG (X : Cx) (b : Bd) (tg : Expr) (g : Tg) : Prop := PG X tg (tG b g)
abbrev DGs (X : Cx) (b : Bd) (tgs : List Expr) (gs : List Tg) : Prop := PGs X tgs (tGs b gs)
theorem PG.imp {X : Cx} {e : Expr} {t t' : TG} (h : PG X e t) (f : ∀ v σ H Q, t' v σ H Q → t v σ H Q) : PG X e t' := ⟨fun pins s σ H x u Q I r q => h.run pins s σ H x u Q I r (f x σ H Q q)⟩
theorem PGs.imp {X : Cx} {e : List Expr} {t t' : TGs} (h : PGs X e t) (f : ∀ v σ H Q, t' v σ H Q → t v σ H Q) : PGs X e t' := ⟨fun pins s σ H x u Q I r q => h.run pins s σ H x u Q I r (f x σ H Q q)⟩
section
variable {X : Cx} {b : Bd}
theorem dg_n {i : Nat} {x : Str} {pos : Pos} (hN : X.N.Nodup) (hi : X.N[i]? = some x) (hx : Loc X.env.scope x) (hf : X.fn x = true ∨ X.env.scope.names.lookup x = some .local := by first | exact .inl rfl | exact .inr rfl | assumption) : DG X b (.Name x pos) (.n i) :=
  PG.imp (pg_name hN hi hx hf) fun v σ H Q ⟨lb, ρ, s, d, ρ', o, r, e, k⟩ => by
    simp only [setT, Option.some.injEq] at e
    subst e
    exact k (unl lb i) (σ.set i (some v)) (.unl _ _ _) (o.setSh i r) fun own hs => wipe_set (hs i (by simp only [Tg.slots]; exact List.mem_singleton.mpr rfl))
theorem dgs_nil : DGs X b [] [] := PGs.imp pgs_nil fun v σ H Q ⟨lb, ρ, s, ds, ρ', o, r, e, k⟩ => by
  cases ds with
  | nil =>
    simp only [setTs, Option.some.injEq] at e
    subst e
    simp only [RepL] at r
    exact ⟨r, k lb σ .refl o fun _ _ => rfl⟩
  | cons d ds => simp only [setTs] at e; cases e
theorem dgs_cons {e : Expr} {es : List Expr} {g : Tg} {gs : List Tg} (h : DG X b e g) (hs : DGs X b es gs) (hx : (assignEach (e :: es) X.env).map (·.2) = assign e X.env :: (assignEach es X.env).map (·.2) := by rfl) : DGs X b (e :: es) (g :: gs) := PGs.imp (pgs_cons h hs hx) fun v σ H Q ⟨lb, ρ, s, ds, ρ', o, r, e, k⟩ => by
  cases ds with
  | nil => simp only [setTs] at e; cases e
  | cons d ds =>
    simp only [setTs] at e
    cases q : setT ρ g d with
    | none => rw [q] at e; cases e
    | some ρ1 =>
      rw [q] at e
      have e : setTs ρ1 gs ds = some ρ' := e
      simp only [RepL] at r
      obtain ⟨v1, r1, e1, h1, h2⟩ := r
      refine ⟨v1, r1, e1, lb, ρ, s, d, ρ1, o, h1, q, fun lb1 σ1 st o1 so => ?_⟩
      refine ⟨lb1, ρ1, s, ds, ρ', o1, h2.stp st, e, fun lb2 σ2 st2 o2 so2 => k lb2 σ2 (st.trans st2) o2 fun own hi => ?_⟩
      simp only [Tg.slotsL] at hi
      rw [so2 own fun i m => hi i (List.mem_append_right _ m), so own fun i m => hi i (List.mem_append_left _ m)]
theorem PG.or {X : Cx} {e : Expr} {t u : TG} (h : PG X e t) (k : PG X e u) : PG X e (fun v σ H Q => t v σ H Q ∨ u v σ H Q) := ⟨fun pins s σ H x w Q I r q => q.elim (fun q => h.run pins s σ H x w Q I r q) (fun q => k.run pins s σ H x w Q I r q)⟩
theorem setTs_len : ∀ (gs : List Tg) (ρ ρ' : Env) (ds : List D), setTs ρ gs ds = some ρ' → ds.length = gs.length := by
  intro gs
  induction gs with
  | nil => intro ρ ρ' ds e; cases ds with | nil => rfl | cons _ _ => simp only [setTs] at e; cases e
  | cons g gs ih =>
    intro ρ ρ' ds e
    cases ds with
    | nil => simp only [setTs] at e; cases e
    | cons d ds =>
      simp only [setTs] at e
      cases q : setT ρ g d with
      | none => rw [q] at e; cases e
      | some ρ1 =>
        rw [q] at e
        rw [List.length_cons, List.length_cons, ih ρ1 ρ' ds e]
theorem dg_t {es : List Expr} {k : Nat} {pos : Pos} {gs : List Tg} {n : Nat} (g : Gd n X b) (h : DGs X b es gs) (hn : (assignEach es X.env).length = gs.length := by rfl) (hst : (assignEach es X.env).findIdx? (·.1) = none := by rfl) : DG X b (.Tuple es k pos) (.t gs) :=
  PG.imp (PG.or (pg_tup g.calm h hn hst) (pg_lst g.calm h hn hst)) fun v σ H Q ⟨lb, ρ, s, d, ρ', o, r, e, kk⟩ => by
    cases d with
    | tup ds =>
      simp only [setT] at e
      simp only [Rep] at r
      obtain ⟨a, vs, rfl, nt, z, rl⟩ := r
      refine .inl ⟨a, vs, rfl, nt.sq, by rw [← rl.length]; exact setTs_len _ _ _ _ e, lb, ρ, s, ds, ρ', o, rl, e, fun lb' σ' st o' so => kk lb' σ' st o' ?_⟩
      simp only [Tg.slots]
      exact so
    | lst ds =>
      simp only [setT] at e
      simp only [Rep] at r
      obtain ⟨a, vs, rfl, nt, z, rl⟩ := r
      refine .inr ⟨a, vs, rfl, nt.sq, by rw [← rl.length]; exact setTs_len _ _ _ _ e, lb, ρ, s, ds, ρ', o, rl, e, fun lb' σ' st o' so => kk lb' σ' st o' ?_⟩
      simp only [Tg.slots]
      exact so
    | _ => simp only [setT] at e; cases e

/-! ### for -/
theorem forL_cons {g : Tg} {body : S} {d : D} {ds : List D} {ρ ρ1 : Env} {s : Sto} (e : setT ρ g d = some ρ1) : forL g body (d :: ds) ρ s = (body ρ1 s).bind fun f r s => match f with
      | .nx => forL g body ds r s
      | .ct => forL g body ds r s
      | .bk => .ok .nx r s
      | .rt d => .ok (.rt d) r s := by
  simp only [forL, e] <;> rfl
theorem for_run {it : It} {g : Tg} {body : S} {D : Ends} {σ : L2.St} {H : Hp} (h : tS b (sFor it g body) D σ H) : tFor (tI b it) (tG b g) (tS b body) D σ H := by
  obtain ⟨lb, ρ, s, o, h⟩ := h
  have h : SPost b D lb H ((it ρ s).bind fun ds r s => forL g body ds r s) := h
  refine ⟨lb, ρ, s, o, (SPost.bind (D := D) h).mono fun ds ρ1 s1 lb1 H1 st o1 q => fun _ J H2 ex io => ?_⟩
  refine ⟨fun i m σ' H' => m = ds.length - i ∧ i ≤ ds.length ∧ ∃ lb ρ s, Ok b lb ρ s σ' H' ∧ ItOk b.cn lb H' ds J ∧ SPost b D lb H' (forL g body (ds.drop i) ρ s),
    ⟨ds.length, by simp, Nat.zero_le _, lb1, ρ1, s1, o1.ext ex, io, by simpa using SPost.from q (o1.stp_ext ex)⟩, ?_⟩
  rintro i m σ' H' ⟨rfl, hi, lb2, ρ2, s2, o2, io2, q2⟩
  obtain ⟨stop, go⟩ := io2 lb2 H' ⟨fun _ _ h _ => h, fun _ h => .inl h, fun _ _ h _ => h⟩
  by_cases hlt : i < ds.length
  · have hd : ds[i]? = some ds[i] := List.getElem?_eq_getElem hlt
    obtain ⟨hgo, hy⟩ := go i _ hd
    refine .inr ⟨hgo, fun σ3 H3 => ∃ lb ρ s, Ok b lb ρ s σ3 H3 ∧ ItOk b.cn lb H3 ds J ∧ SPost b D lb H3 (forL g body (ds.drop (i + 1)) ρ s), fun σ3 H3 h3 => ⟨ds.length - (i + 1), by omega, rfl, hlt, h3⟩, fun x H3 y => ?_⟩
    obtain ⟨ex3, rx⟩ := hy x H3 y
    rw [List.drop_eq_getElem_cons hlt] at q2
    have o3 := o2.ext ex3
    have st3 := o2.stp_ext ex3
    cases e : setT ρ2 g ds[i] with
    | none =>
      simp only [forL, e] at q2
      exact False.elim q2
    | some ρ3 =>
      rw [forL_cons e] at q2
      refine ⟨lb2, ρ2, s2, ds[i], ρ3, o3, rx o2.has, e, fun lb4 σ4 st4 o4 _ => ⟨lb4, ρ3, s2, o4, ?_⟩⟩
      have q4 := SPost.from q2 (st3.trans st4)
      cases eb : body ρ3 s2 with
      | ok f ρ5 s5 =>
        rw [eb, R.bind_ok] at q4
        intro lb5 σ5 H5 st5 o5
        have io5 : ItOk b.cn lb5 H5 ds J := io2.stq ((st3.trans st4).trans st5).q
        cases f with
        | nx => exact ⟨lb5, ρ5, s5, o5, io5, SPost.from q4 st5⟩
        | ct => exact ⟨lb5, ρ5, s5, o5, io5, SPost.from q4 st5⟩
        | bk => exact q4 lb5 σ5 H5 st5 o5
        | rt d => exact q4 lb5 σ5 H5 st5 o5
      | exc x ρ5 s5 => rw [eb] at q4; exact q4
      | bad => rw [eb] at q4; exact q4
  · have e : i = ds.length := by omega
    subst e
    refine .inl ⟨stop, ?_⟩
    rw [List.drop_length] at q2
    exact q2 lb2 σ' H' .refl o2
theorem while_run {c : M D} {body : S} {D : Ends} {σ : L2.St} {H : Hp} (h : tS b (sWhile c body) D σ H) : tWhile (tT b c) (tS b body) D σ H := by
  obtain ⟨lb, ρ, s, o, h⟩ := h
  refine ⟨fun m σ' H' => ∃ lb ρ s, Ok b lb ρ s σ' H' ∧ SPost b D lb H' (whileL c body m ρ s), ⟨WN, lb, ρ, s, o, h⟩, ?_⟩
  rintro m σ1 H1 ⟨lb1, ρ1, s1, o1, q1⟩
  cases m with
  | zero => exact False.elim q1
  | succ m =>
    refine ⟨lb1, ρ1, s1, o1, (SPost.bind (D := D) q1).mono fun d ρ2 s2 lb2 H2 st2 o2 q2 => ?_⟩
    cases d with
    | bool c =>
      intro H3 ex
      have q3 := SPost.from q2 (o2.stp_ext ex)
      have o3 := o2.ext ex
      cases c with
      | false => exact q3 lb2 σ1 H3 .refl o3
      | true =>
        refine ⟨fun σ4 H4 => ∃ lb ρ s, Ok b lb ρ s σ4 H4 ∧ SPost b D lb H4 (whileL c body m ρ s), fun σ4 H4 h4 => ⟨m, Nat.lt_succ_self m, h4⟩, lb2, ρ2, s2, o3, ?_⟩
        have q4 : SPost b D lb2 H3 ((body ρ2 s2).bind _) := q3
        cases eb : body ρ2 s2 with
        | ok f ρ5 s5 =>
          rw [eb, R.bind_ok] at q4
          intro lb5 σ5 H5 st5 o5
          cases f with
          | nx => exact ⟨lb5, ρ5, s5, o5, SPost.from q4 st5⟩
          | ct => exact ⟨lb5, ρ5, s5, o5, SPost.from q4 st5⟩
          | bk => exact q4 lb5 σ5 H5 st5 o5
          | rt d => exact q4 lb5 σ5 H5 st5 o5
        | exc x ρ5 s5 => rw [eb] at q4; exact q4
        | bad => rw [eb] at q4; exact q4
    | _ => exact False.elim q2
theorem ds_for {tg iter : Expr} {body : List Stmt} {it : It} {gt : Tg} {k : S} {pos : Pos} {n : Nat} (g : Gd n X b) (hi : DI X b tg iter it) (hg : DG X b tg gt) (hb : DSs X b body k)
    (hs : ∀ x, foldedSetIterable iter X.env x = pure x := by intro _; rfl) : DS X b (.For tg iter body [] pos) (sFor it gt k) := PS.imp (ps_for g.po g.calm hi hg hb hs) fun _ _ _ h => for_run h
theorem ds_while {c : Expr} {body : List Stmt} {m : M D} {k : S} {pos : Pos} {n : Nat} (g : Gd n X b) (hc : DT X b c m) (hb : DSs X b body k) : DS X b (.While c body [] pos) (sWhile m k) := PS.imp (ps_while g.po hc hb) fun _ _ _ h => while_run h
end
end Pk
/-! Br6: comprehensions. -/
namespace Pk
open PySem PySem.Spec PyProof.Rows L2

section
variable {cn : Cn} {lb0 lb : Lb} {H0 H : Hp} {ρ : Env} {s : Sto} {σ : L2.St}
/-- slot i forgotten -/
theorem BOk.forget (b : BOk cn lb0 H0 lb ρ s σ H) (i : Nat) : BOk cn lb0 H0 (unl lb i) (ρ.set i .no) s (σ.set i none) H := by
  have st := Stp.unl lb H i
  refine ⟨b.since.trans st, b.sto.stp st.q (fun _ _ _ _ => rfl) (fun _ _ e _ => (of_unl e).1), fun a l e => b.has a l (of_unl e).1, by simpa using b.len, fun j e h => ?_, fun j e h => ?_, fun j R h => ?_⟩
  · by_cases hj : i = j
    · subst hj
      rw [List.getElem?_set] at h
      simp only [if_true] at h
      split at h <;> cases h
    · rw [List.getElem?_set_ne hj] at h
      obtain ⟨u, e1, q⟩ := b.sh j e h
      exact ⟨u, by rw [List.getElem?_set_ne hj]; exact e1, q.stp st⟩
  · by_cases hj : i = j
    · subst hj
      rw [List.getElem?_set] at h
      simp only [if_true] at h
      split at h <;> cases h
    · rw [List.getElem?_set_ne hj] at h
      obtain ⟨a, o, e1, l, q, w⟩ := b.ow j e h
      exact ⟨a, o, by rw [List.getElem?_set_ne hj]; exact e1, unl_ne l (by rintro z; cases z; exact hj rfl), q, w.stp st⟩
  · by_cases hj : i = j
    · subst hj
      rw [List.getElem?_set] at h
      simp only [if_true] at h
      split at h <;> cases h
    · rw [List.getElem?_set_ne hj] at h
      obtain ⟨a, e1, w⟩ := b.mt j R h
      exact ⟨a, by rw [List.getElem?_set_ne hj]; exact e1, w.keep st.q fun x hx => ⟨unl_ne hx (by rintro z; cases z; exact hj rfl), rfl⟩⟩
def unlL (lb : Lb) : List Nat → Lb
  | [] => lb
  | i :: is => unl (unlL lb is) i
theorem Stp.unlL (lb : Lb) (H : Hp) : ∀ is : List Nat, Stp lb H (unlL lb is) H
  | [] => .refl
  | i :: is => (Stp.unlL lb H is).trans (.unl _ _ _)
theorem BOk.forgetL (b : BOk cn lb0 H0 lb ρ s σ H) : ∀ is : List Nat, BOk cn lb0 H0 (unlL lb is) (wipeL ρ is) s (wipe σ is) H
  | [] => b
  | i :: is => (b.forgetL is).forget i
theorem unlL_out {a : Addr} (h : lb a = some .out) : ∀ is : List Nat, unlL lb is a = some .out
  | [] => h
  | i :: is => unl_ne (unlL_out h is) (by intro z; cases z)
/-- a new thing that no value knows, marked as another's -/
theorem BOk.side (b : BOk cn lb0 H0 lb ρ s σ H) {p : Addr} (o : HO) (np : H p = none) (nt : Nt o := by exact trivial) : BOk cn lb0 H0 (mrk lb p .out) ρ s σ (L2.upd H p o) ∧ Stp lb H (mrk lb p .out) (L2.upd H p o) := by
  have lp : lb p = none := Has.none b.has np
  have ne : ∀ a l, lb a = some l → a ≠ p := fun a l e z => by rw [z, lp] at e; cases e
  have st : Stp lb H (mrk lb p .out) (L2.upd H p o) :=
    { keep := fun a o e n => Ext.upd np a o e
      out := fun a e => ⟨by rw [mrk_ne (ne a _ e)]; exact e, by rw [upd_ne (ne a _ e)]⟩
      new := fun a h => by
        by_cases ha : a = p
        · rw [ha]; exact .inr np
        · rw [mrk_ne ha] at h; exact .inl h
      sto := fun a l e z => by rw [mrk_ne (ne a l e)]; exact e
      dom := fun a e => by
        cases q : H a with
        | none => exact absurd q e
        | some u => rw [Ext.upd np a u q]; simp }
  have back : ∀ a l, mrk lb p .out a = some l → l ≠ .out → lb a = some l ∧ a ≠ p := fun a l e z => by
    by_cases ha : a = p
    · rw [ha, mrk_same] at e
      exact absurd (Option.some.inj e).symm z
    · rw [mrk_ne ha] at e
      exact ⟨e, ha⟩
  refine ⟨⟨b.since.trans st, b.sto.stp st.q (fun a l e _ => by rw [upd_ne (ne a l e)]) (fun a l e z => (back a l e (by rintro rfl; cases z)).1), fun a l e => ?_, b.len, fun j e h => ?_, fun j e h => ?_, fun j R h => ?_⟩, st⟩
  · by_cases ha : a = p
    · exact ⟨o, by rw [ha, upd_same], nt⟩
    · rw [mrk_ne ha] at e
      obtain ⟨u, q, t⟩ := b.has a l e
      exact ⟨u, by rw [upd_ne ha]; exact q, t⟩
  · obtain ⟨u, e1, q⟩ := b.sh j e h
    exact ⟨u, e1, q.stp st⟩
  · obtain ⟨a, o', e1, l, q, w⟩ := b.ow j e h
    exact ⟨a, o', e1, by rw [mrk_ne (ne a _ l)]; exact l, by rw [upd_ne (ne a _ l)]; exact q, w.stp st⟩
  · obtain ⟨a, e1, w⟩ := b.mt j R h
    exact ⟨a, e1, w.keep st.q fun x hx => ⟨by rw [mrk_ne (ne x _ hx)]; exact hx, by rw [upd_ne (ne x _ hx)]⟩⟩
/-- a thing that no value knows (marked as another's, not from ahead of the entry) is changed -/
theorem BOk.chgSide (b : BOk cn lb0 H0 lb ρ s σ H) {p : Addr} (o : HO) (lp : lb p = some .out) (n0 : lb0 p ≠ some .out) (h0 : H0 p = none) (nt : Nt o := by exact trivial) : BOk cn lb0 H0 lb ρ s σ (L2.upd H p o) ∧ Stq lb H lb (L2.upd H p o) := by
  have ne : ∀ a l, lb a = some l → l ≠ .out → a ≠ p := fun a l e n z => by rw [z, lp] at e; exact n (Option.some.inj e).symm
  have st : Stq lb H lb (L2.upd H p o) :=
    { keep := fun a u h n => by rw [upd_ne (by rintro rfl; rw [lp] at n; cases n)]; exact h
      new := fun _ h => .inl h
      sto := fun _ _ h _ => h }
  have si := b.since
  refine ⟨⟨⟨fun a u h n => ?_, fun a h => ?_, si.new, si.sto, fun a h => ?_⟩, b.sto.stp st (fun a l e z => by rw [upd_ne (ne a l e (by rintro rfl; cases z))]) (fun _ _ e _ => e), fun a l e => ?_, b.len, fun j e h => ?_, fun j e h => ?_, fun j R h => ?_⟩, st⟩
  · rw [upd_ne (by rintro rfl; rw [h0] at h; cases h)]
    exact si.keep a u h n
  · have na : a ≠ p := by rintro rfl; exact n0 h
    rw [upd_ne na]
    exact si.out a h
  · by_cases ha : a = p
    · rw [ha, upd_same]; simp
    · rw [upd_ne ha]; exact si.dom a h
  · by_cases ha : a = p
    · exact ⟨o, by rw [ha, upd_same], nt⟩
    · obtain ⟨u, q, t⟩ := b.has a l e
      exact ⟨u, by rw [upd_ne ha]; exact q, t⟩
  · obtain ⟨u, e1, q⟩ := b.sh j e h
    exact ⟨u, e1, q.stq st⟩
  · obtain ⟨a, o', e1, l, q, w⟩ := b.ow j e h
    exact ⟨a, o', e1, l, by rw [upd_ne (ne a _ l (by intro z; cases z))]; exact q, w.stq st⟩
  · obtain ⟨a, e1, w⟩ := b.mt j R h
    exact ⟨a, e1, w.keep st fun x hx => ⟨hx, by rw [upd_ne (ne x _ hx (by intro z; cases z))]⟩⟩
/-- .. taken away -/
def hid (H : Hp) (p : Addr) : Hp := fun a => if a = p then none else H a
def unm (lb : Lb) (p : Addr) : Lb := fun a => if a = p then none else lb a
theorem hid_ne {p a : Addr} (h : a ≠ p) : hid H p a = H a := by unfold hid; rw [if_neg h]
theorem hid_same {p : Addr} : hid H p p = none := by unfold hid; rw [if_pos rfl]
theorem unm_ne {p a : Addr} (h : a ≠ p) : unm lb p a = lb a := by unfold unm; rw [if_neg h]
theorem unm_same {p : Addr} : unm lb p p = none := by unfold unm; rw [if_pos rfl]
theorem upd_hid {p : Addr} {o : HO} (h : H p = some o) : L2.upd (hid H p) p o = H := by
  funext a
  by_cases ha : a = p
  · rw [ha, upd_same, h]
  · rw [upd_ne ha, hid_ne ha]
theorem Stq.gone {p : Addr} (lp : lb p = some .out) : Stq lb H (unm lb p) (hid H p) where
  keep := fun a u h n => by rw [hid_ne (by rintro rfl; rw [lp] at n; cases n)]; exact h
  new := fun a h => by
    by_cases ha : a = p
    · rw [ha, unm_same] at h; exact absurd rfl h
    · rw [unm_ne ha] at h; exact .inl h
  sto := fun a l h i => by rw [unm_ne (by rintro rfl; rw [lp] at h; cases h; cases i)]; exact h
theorem BOk.gone (b : BOk cn lb0 H0 lb ρ s σ H) {p : Addr} (lp : lb p = some .out) (n0 : lb0 p ≠ some .out) (h0 : H0 p = none) : BOk cn lb0 H0 (unm lb p) ρ s σ (hid H p) := by
  have ne : ∀ a l, lb a = some l → l ≠ .out → a ≠ p := fun a l e n z => by rw [z, lp] at e; exact n (Option.some.inj e).symm
  have st : Stq lb H (unm lb p) (hid H p) := .gone lp
  have si := b.since
  have of : ∀ a l, unm lb p a = some l → lb a = some l ∧ a ≠ p := fun a l e => by
    by_cases ha : a = p
    · rw [ha, unm_same] at e; cases e
    · rw [unm_ne ha] at e; exact ⟨e, ha⟩
  refine ⟨⟨fun a u h n => ?_, fun a h => ?_, fun a h => ?_, fun a l h i => ?_, fun a h => ?_⟩, b.sto.stp st (fun a l e z => by rw [hid_ne (ne a l e (by rintro rfl; cases z))]) (fun a l e _ => (of a l e).1), fun a l e => ?_, b.len, fun j e h => ?_, fun j e h => ?_, fun j R h => ?_⟩
  · rw [hid_ne (by rintro rfl; rw [h0] at h; cases h)]
    exact si.keep a u h n
  · have na : a ≠ p := by rintro rfl; exact n0 h
    rw [hid_ne na, unm_ne na]
    exact si.out a h
  · by_cases ha : a = p
    · rw [ha, unm_same] at h; exact absurd rfl h
    · rw [unm_ne ha] at h; exact si.new a h
  · have q := si.sto a l h i
    rw [unm_ne (ne a l q (by rintro rfl; cases i))]
    exact q
  · rw [hid_ne (by rintro rfl; exact h h0)]
    exact si.dom a h
  · obtain ⟨e, ha⟩ := of a l e
    obtain ⟨u, q, t⟩ := b.has a l e
    exact ⟨u, by rw [hid_ne ha]; exact q, t⟩
  · obtain ⟨u, e1, q⟩ := b.sh j e h
    exact ⟨u, e1, q.stq st⟩
  · obtain ⟨a, o', e1, l, q, w⟩ := b.ow j e h
    have na := ne a _ l (by intro z; cases z)
    exact ⟨a, o', e1, by rw [unm_ne na]; exact l, by rw [hid_ne na]; exact q, w.stq st⟩
  · obtain ⟨a, e1, w⟩ := b.mt j R h
    exact ⟨a, e1, w.keep st fun x hx => ⟨by rw [unm_ne (ne x _ hx (by intro z; cases z))]; exact hx, by rw [hid_ne (ne x _ hx (by intro z; cases z))]⟩⟩
/-- behind the block: the slots of its own names are as ahead of it -/
theorem BOk.backL (lb1 : Lb) (H1 : Hp) {ρ1 : Env} {σ1 : L2.St} (st : Stp lb1 H1 lb H) (hl1 : ρ1.length = ρ.length) (b1 : ∀ (i : Nat) (d : D), ρ1[i]? = some (.sh d) → ∃ v, σ1[i]? = some (some v) ∧ Rep cn lb1 H1 d v) :
    ∀ (is : List Nat), notOw ρ1 is = true → BOk cn lb0 H0 lb (wipeL ρ is) s (wipe σ1 is) H → BOk cn lb0 H0 lb (Pk.backL ρ1 ρ is) s σ1 H := by
  intro is hn b
  have len : (Pk.backL ρ1 ρ is).length = σ1.length := by
    have h1 : ∀ is : List Nat, (Pk.backL ρ1 ρ is).length = ρ.length := fun is => by
      induction is with
      | nil => rfl
      | cons i is ih => unfold Pk.backL; rw [List.length_set, ih]
    have h2 : ∀ is : List Nat, (wipeL ρ is).length = ρ.length := fun is => by
      induction is with
      | nil => rfl
      | cons i is ih => unfold wipeL; rw [List.length_set, ih]
    have h3 := b.len
    rw [wipe_length, h2] at h3
    rw [h1, h3]
  have out : ∀ (is : List Nat) (j : Nat), j ∉ is → (Pk.backL ρ1 ρ is)[j]? = (wipeL ρ is)[j]? := fun is j => by
    induction is with
    | nil => intro _; rfl
    | cons i is ih =>
      intro h
      have hj : i ≠ j := fun e => h (by rw [e]; exact List.mem_cons_self)
      unfold Pk.backL wipeL
      rw [List.getElem?_set_ne hj, List.getElem?_set_ne hj, ih fun z => h (List.mem_cons_of_mem _ z)]
  have outσ : ∀ (is : List Nat) (j : Nat), j ∉ is → (wipe σ1 is)[j]? = σ1[j]? := fun is j h => wipe_out h
  have inn : ∀ (is : List Nat) (j : Nat), j ∈ is → j < ρ.length → (Pk.backL ρ1 ρ is)[j]? = some (ρ1.getD j .no) := fun is j => by
    induction is with
    | nil => intro h; cases h
    | cons i is ih =>
      intro h hl
      have hlen : ∀ is : List Nat, (Pk.backL ρ1 ρ is).length = ρ.length := fun is => by
        induction is with
        | nil => rfl
        | cons i is ih => unfold Pk.backL; rw [List.length_set, ih]
      unfold Pk.backL
      by_cases hj : i = j
      · subst hj
        rw [List.getElem?_set, if_pos rfl, if_pos (by rw [hlen]; exact hl)]
      · rw [List.getElem?_set_ne hj]
        rcases List.mem_cons.mp h with z | z
        · exact absurd z.symm hj
        · exact ih z hl
  have wno : ∀ (is : List Nat) (j : Nat), j ∈ is → j < ρ.length → (wipeL ρ is)[j]? = some .no := fun is j => by
    induction is with
    | nil => intro h; cases h
    | cons i is ih =>
      intro h hl
      have hlen : ∀ is : List Nat, (wipeL ρ is).length = ρ.length := fun is => by
        induction is with
        | nil => rfl
        | cons i is ih => unfold wipeL; rw [List.length_set, ih]
      unfold wipeL
      by_cases hj : i = j
      · subst hj
        rw [List.getElem?_set, if_pos rfl, if_pos (by rw [hlen]; exact hl)]
      · rw [List.getElem?_set_ne hj]
        rcases List.mem_cons.mp h with z | z
        · exact absurd z.symm hj
        · exact ih z hl
  have big : ∀ (j : Nat), ρ.length ≤ j → (Pk.backL ρ1 ρ is)[j]? = none := fun j h => by
    apply List.getElem?_eq_none
    have h1 : ∀ is : List Nat, (Pk.backL ρ1 ρ is).length = ρ.length := fun is => by
      induction is with
      | nil => rfl
      | cons i is ih => unfold Pk.backL; rw [List.length_set, ih]
    rw [h1]; exact h
  refine ⟨b.since, b.sto, b.has, len, fun j d h => ?_, fun j d h => ?_, fun j R h => ?_⟩
  · by_cases hj : j ∈ is
    · by_cases hlt : j < ρ.length
      · rw [inn is j hj hlt] at h
        have e : ρ1[j]? = some (.sh d) := by
          have h := Option.some.inj h
          rw [List.getD_eq_getElem?_getD] at h
          cases q : ρ1[j]? with
          | none => rw [q] at h; cases h
          | some x => rw [q] at h; exact congrArg some h
        obtain ⟨v, e1, r⟩ := b1 j d e
        exact ⟨v, e1, r.stp st⟩
      · rw [big j (by omega)] at h; cases h
    · rw [out is j hj] at h
      obtain ⟨v, e1, r⟩ := b.sh j d h
      rw [outσ is j hj] at e1
      exact ⟨v, e1, r⟩
  · by_cases hj : j ∈ is
    · by_cases hlt : j < ρ.length
      · rw [inn is j hj hlt] at h
        have hno := List.all_eq_true.mp hn j hj
        have h := Option.some.inj h
        rw [List.getD_eq_getElem?_getD] at h
        cases q : ρ1[j]? with
        | none => rw [q] at h; cases h
        | some x =>
          rw [q] at h hno
          have h : x = .ow d := h
          rw [h] at hno
          cases hno
      · rw [big j (by omega)] at h; cases h
    · rw [out is j hj] at h
      obtain ⟨a, o, e1, l, q, w⟩ := b.ow j d h
      rw [outσ is j hj] at e1
      exact ⟨a, o, e1, l, q, w⟩
  · by_cases hj : j ∈ is
    · by_cases hlt : j < ρ.length
      · rw [inn is j hj hlt] at h
        have hno := List.all_eq_true.mp hn j hj
        have h := Option.some.inj h
        rw [List.getD_eq_getElem?_getD] at h
        cases q : ρ1[j]? with
        | none => rw [q] at h; cases h
        | some x =>
          rw [q] at h hno
          have h : x = .mt R := h
          rw [h] at hno
          cases hno
      · rw [big j (by omega)] at h; cases h
    · rw [out is j hj] at h
      obtain ⟨a, e1, w⟩ := b.mt j R h
      rw [outσ is j hj] at e1
      exact ⟨a, e1, w⟩
end
end Pk
/-! Br7: comprehensions, the rule. -/
namespace Pk
open PySem PySem.Spec PyProof.Rows L2

theorem wipe_wipe (σ : L2.St) (own : List Nat) : wipe (wipe σ own) own = wipe σ own := by
  apply List.ext_getElem?
  intro j
  by_cases h : j ∈ own
  · have e : ∀ (σ : L2.St) (vs : List Nat), j ∈ vs → j < σ.length → (wipe σ vs)[j]? = some none := by
      intro σ vs
      induction vs with
      | nil => intro h; cases h
      | cons v vs ih =>
        intro h hl
        unfold wipe
        by_cases hj : v = j
        · subst hj
          rw [List.getElem?_set, if_pos rfl, if_pos (by rw [wipe_length]; exact hl)]
        · rw [List.getElem?_set_ne hj]
          rcases List.mem_cons.mp h with z | z
          · exact absurd z.symm hj
          · exact ih z hl
    by_cases hl : j < σ.length
    · rw [e _ own h (by rw [wipe_length]; exact hl), e _ own h hl]
    · rw [List.getElem?_eq_none (by rw [wipe_length, wipe_length]; omega), List.getElem?_eq_none (by rw [wipe_length]; omega)]
  · rw [wipe_out h]
section
variable {lb lb1 : Lb} {H H1 : Hp}
theorem Stp.updNew {p : Addr} {o : HO} (s : Stp lb1 H1 lb H) (np : H1 p = none) (hs : Has lb1 H1) : Stp lb1 H1 lb (L2.upd H p o) where
  keep := fun a u h n => by rw [upd_ne (by rintro rfl; rw [np] at h; cases h)]; exact s.keep a u h n
  out := fun a h => by
    have na : a ≠ p := by
      rintro rfl
      obtain ⟨u, q, _⟩ := hs _ _ h
      rw [np] at q; cases q
    rw [upd_ne na]
    exact s.out a h
  new := s.new
  sto := s.sto
  dom := fun a h => by
    by_cases ha : a = p
    · rw [ha, upd_same]; simp
    · rw [upd_ne ha]; exact s.dom a h
theorem Stp.goneNew {p : Addr} (s : Stp lb1 H1 lb H) (np : H1 p = Option.none) (hs : Has lb1 H1) (lp : lb p = some .out) : Stp lb1 H1 (unm lb p) (hid H p) where
  keep := fun a u h n => by rw [hid_ne (by rintro rfl; rw [np] at h; cases h)]; exact s.keep a u h n
  out := fun a h => by
    have na : a ≠ p := by
      rintro rfl
      obtain ⟨u, q, _⟩ := hs _ _ h
      rw [np] at q; cases q
    rw [hid_ne na, unm_ne na]
    exact s.out a h
  new := fun a h => by
    by_cases ha : a = p
    · rw [ha, unm_same] at h; exact absurd rfl h
    · rw [unm_ne ha] at h; exact s.new a h
  sto := fun a l h i => by
    have q := s.sto a l h i
    rw [unm_ne (by rintro rfl; rw [lp] at q; cases q; cases i)]
    exact q
  dom := fun a h => by
    rw [hid_ne (by rintro rfl; exact h np)]
    exact s.dom a h
end
/-- within a comprehension nothing is raised -/
abbrev Bd.in (b : Bd) : Bd := { b with W := fun _ _ _ _ => False }
section
variable {X : Cx} {b : Bd}
theorem wipeL_len (ρ : Env) : ∀ is : List Nat, (wipeL ρ is).length = ρ.length
  | [] => rfl
  | i :: is => by unfold wipeL; rw [List.length_set, wipeL_len ρ is]
theorem comp_run {it : It} {g : Tg} {own : List Nat} {c e : M D} {σ : L2.St} {H : Hp} {Q : VK} (hg : ∀ i ∈ g.slots, i ∈ own) (h : tK true b (eComp it g own c e) σ H Q) : tLc (tI b it) (tG b.in g) (tT b.in c) (tK false b.in e) own σ H Q := by
  obtain ⟨lb, ρ, s, o, h⟩ := h
  refine ⟨lb, ρ, s, o, (Post.bind h).mono fun ds ρ1 s1 lb1 H1 st o1 q => fun hz J H2 ex io D nD => ?_⟩
  have o2 := o1.ext ex
  have q2 := Post.from q (o1.stp_ext ex)
  clear q h o o1 ex st
  cases hn : notOw ρ1 own with
  | false => rw [hn] at q2; exact False.elim q2
  | true =>
    rw [hn, if_pos rfl] at q2
    have h0 : b.H0 D = none := by
      cases z : b.H0 D with
      | none => rfl
      | some u => exact absurd nD (o2.since.dom D (by rw [z]; simp))
    have n0 : b.lb0 D ≠ some .out := fun z => by
      obtain ⟨u, w, _⟩ := o2.has D _ (o2.since.out D z).1
      rw [nD] at w; cases w
    let W : Nat → Nat → Hp → Prop := fun i m H' => m = ds.length - i ∧ i ≤ ds.length ∧ ∃ lb ρ s ys acc, Ok b lb (wipeL ρ own) s (wipe σ own) H' ∧ lb D = some .out ∧ H' D = some (.lst acc) ∧ RepL b.cn lb H' ys acc ∧ ys.length ≤ i ∧ ItOk b.cn lb H' ds J ∧
      Stp lb1 H2 lb H' ∧ Post b σ lb1 H2 ((compLoop g own c e (ds.drop i) ys.reverse ρ s).bind fun ys r1 s => .ok (.lst ys) (backL ρ1 r1 own) s) fun d _ _ lb' H' => Kt true b.cn lb' H' d Q
    obtain ⟨o3, st3⟩ := o2.side (.lst []) nD
    have o4 := o3.forgetL own
    refine ⟨W, ⟨ds.length, by simp, Nat.zero_le _, unlL (mrk lb1 D .out) own, ρ1, s1, [], [], o4, unlL_out mrk_same own, upd_same, .nil, Nat.le_refl _, io.stq (st3.trans (.unlL _ _ own)).q, st3.trans (.unlL _ _ own), by simpa using q2⟩, ?_⟩
    rintro i m H3 ⟨rfl, hi, lb3, ρ3, s3, ys, acc, o5, lD, hD, ry, hy, io3, st5, q5⟩
    obtain ⟨stop, go⟩ := io3 lb3 H3 ⟨fun _ _ h _ => h, fun _ h => .inl h, fun _ _ h _ => h⟩
    by_cases hlt : i < ds.length
    · have hd : ds[i]? = some ds[i] := List.getElem?_eq_getElem hlt
      obtain ⟨hgo, hyl⟩ := go i _ hd
      refine .inr ⟨hgo, fun H' => W (i + 1) (ds.length - (i + 1)) H', fun H' h' => ⟨_, by omega, h'⟩, fun x H4 y => ?_⟩
      obtain ⟨ex4, rx⟩ := hyl x H4 y
      have rx := rx o5.has
      rw [List.drop_eq_getElem_cons hlt] at q5
      simp only [compLoop] at q5
      have o6 := o5.ext ex4
      have st6 := o5.stp_ext ex4
      cases e1 : setT (wipeL ρ3 own) g ds[i] with
      | none => rw [e1] at q5; exact False.elim q5
      | some r1 =>
        rw [e1] at q5
        simp only at q5
        refine ⟨lb3, wipeL ρ3 own, s3, ds[i], r1, o6, rx, e1, fun lb7 σ7 st7 o7 so => ?_⟩
        have so : wipe σ7 own = wipe σ own := (so own hg).trans (wipe_wipe σ own)
        refine ⟨so, lb7, r1, s3, o7, ?_⟩
        have stA : Stp lb3 H3 lb7 H4 := st6.trans st7
        cases e2 : c r1 s3 with
        | exc x r2 s2 => rw [e2] at q5; exact False.elim q5
        | bad => rw [e2] at q5; exact False.elim q5
        | ok dc r2 s2 =>
          rw [e2] at q5
          intro lb8 H8 st8 o8
          cases dc with
          | bool t =>
            intro H9 ex9
            have o9 := o8.ext ex9
            have stB : Stp lb3 H3 lb8 H9 := (stA.trans st8).trans (o8.stp_ext ex9)
            cases t with
            | true =>
              refine ⟨lb8, r2, s2, o9, ?_⟩
              simp only at q5
              cases e3 : e r2 s2 with
              | exc x r4 s4 => rw [e3] at q5; exact False.elim q5
              | bad => rw [e3] at q5; exact False.elim q5
              | ok yv r4 s4 =>
                rw [e3] at q5
                simp only at q5
                intro lb10 H10 st10 o10 v H11 ex11 rv
                have o11 := o10.ext ex11
                have stC : Stp lb3 H3 lb10 H11 := (stB.trans st10).trans (o10.stp_ext ex11)
                obtain ⟨lD11, hD11⟩ := stC.out D lD
                rw [hD] at hD11
                have hlen : acc.length < sizeLine := by
                  rw [← ry.length, ← SZ_eq]
                  omega
                refine ⟨acc, hD11, hlen, rfl, hlt, ?_⟩
                obtain ⟨o12, st12⟩ := o11.chgSide (.lst (acc ++ [v])) lD11 n0 h0
                have o13 := o12.forgetL own
                rw [so] at o13
                have stF : Stq lb3 H3 (unlL lb10 own) (L2.upd H11 D (.lst (acc ++ [v]))) := (stC.q.trans st12).trans (Stp.unlL _ _ own).q
                have stG : Stq lb10 H11 (unlL lb10 own) (L2.upd H11 D (.lst (acc ++ [v]))) := st12.trans (Stp.unlL _ _ own).q
                refine ⟨unlL lb10 own, r4, s4, ys ++ [yv], acc ++ [v], o13, unlL_out lD11 own, upd_same, (ry.stq stF).append (.one (rv.stq stG)), by rw [List.length_append]; exact Nat.add_le_add_right hy 1, io3.stq stF,
                  ((st5.trans stC).updNew nD o2.has).trans (.unlL _ _ own), ?_⟩
                simpa using q5
            | false =>
              simp only at q5
              have o13 := o9.forgetL own
              rw [so] at o13
              obtain ⟨lD11, hD11⟩ := stB.out D lD
              have stF : Stp lb3 H3 (unlL lb8 own) H9 := stB.trans (.unlL _ _ own)
              exact ⟨rfl, hlt, unlL lb8 own, r2, s2, ys, acc, o13, unlL_out lD11 own, by rw [hD11]; exact hD, ry.stp stF, Nat.le_succ_of_le hy, io3.stq stF.q, st5.trans stF, q5⟩
          | _ => exact False.elim q5
    · have e : i = ds.length := by omega
      subst e
      refine .inl ⟨stop, ?_⟩
      rw [List.drop_length] at q5
      simp only [compLoop, List.reverse_reverse] at q5
      have stN := st5.goneNew nD o2.has lD
      have o6 := o5.gone lD n0 h0
      have hl : ρ1.length = ρ3.length := by
        have h1 := o5.len
        rw [wipeL_len, wipe_length] at h1
        rw [h1]
        exact o2.len
      have o7 := BOk.backL (ρ := ρ3) lb1 H2 stN hl o2.sh own hn o6
      have k := q5 (unm lb3 D) (hid H3 D) stN o7
      have k : KF b.cn (unm lb3 D) (hid H3 D) (.lst ys) Q := k
      have z := k D (.lst acc) hid_same ⟨acc, rfl, by omega, ry.stq (.gone lD)⟩
      rw [upd_hid hD] at z
      exact z
/-- a clause's test -/
abbrev DTs (X : Cx) (b : Bd) (ifs : List Expr) (c : M D) : Prop := PTs X ifs (tT b c)
theorem PTs.imp {X : Cx} {e : List Expr} {t t' : TT} (h : PTs X e t) (f : ∀ σ H Q, t' σ H Q → t σ H Q) : PTs X e t' := ⟨fun pins s σ H Q I q => h.run pins s σ H Q I (f σ H Q q)⟩
theorem dts_nil : DTs X b [] eYes := PTs.imp pts_nil fun σ H Q ⟨lb, ρ, s, o, p⟩ => (show ∀ H2, Ext H H2 → Q true H2 from p lb H .refl o) H .refl
theorem dts_one {c : Expr} {m : M D} (h : DT X b c m) : DTs X b [c] m := pts_one h
/-- the context of a comprehension's block -/
theorem Gd.blk {n : Nat} (g : Gd n X b) (s : Shared) (H : Hp) (scope : Scope) (cenv : PySem.Env) (fp : List Addr) : Gd n (X.blk s H scope cenv fp) b.in :=
  ⟨g.kk, g.calm, g.nd, takes0, g.room, PassesOwn.never⟩
theorem df_comp {n : Nat} {elt tg iter : Expr} {ifs : List Expr} {scope : Scope} {own : List (Str × Nat)} {pos : Pos} {it : It} {gt : Tg} {c e : M D} (g : Gd n X b) (hi : DI X b tg iter it) (ok : BlkOk X.N X.env.scope scope own)
    (hg : ∀ (s : Shared) (H : Hp) (C : Addr) (cl : List (Str × Addr)) (fp : List Addr), Gd n (X.blk s H scope (compEnvC scope cl C X.env) fp) b.in → DG (X.blk s H scope (compEnvC scope cl C X.env) fp) b.in tg gt)
    (ht : ∀ (s : Shared) (H : Hp) (C : Addr) (cl : List (Str × Addr)) (fp : List Addr), Gd n (X.blk s H scope (compEnvC scope cl C X.env) fp) b.in → DTs (X.blk s H scope (compEnvC scope cl C X.env) fp) b.in ifs c)
    (he : ∀ (s : Shared) (H : Hp) (C : Addr) (cl : List (Str × Addr)) (fp : List Addr), Gd n (X.blk s H scope (compEnvC scope cl C X.env) fp) b.in → DE (X.blk s H scope (compEnvC scope cl C X.env) fp) b.in elt e)
    (hsl : ∀ i ∈ gt.slots, i ∈ own.map (·.2) := by decide) (hs : ∀ x, foldedSetIterable iter X.env x = pure x := by intro _; rfl) :
    DF X b (.ListComp elt [⟨tg, iter, ifs, 0⟩] scope pos) (eComp it gt (own.map (·.2)) c e) :=
  PE.imp (pe_lc g.calm g.nd hi ok (fun s H C cl fp => hg s H C cl fp (g.blk ..)) (fun s H C cl fp => ht s H C cl fp (g.blk ..)) (fun s H C cl fp => he s H C cl fp (g.blk ..)) hs) fun _ _ _ h => comp_run hsl h
end
end Pk
/-! Br8: the built-in operations stand. -/
namespace Pk
open PySem PySem.Spec PyProof.Rows L2

/-! ### plain data as the library's -/
mutual
def toPy : D → PyData
  | .bool b => .bool b
  | .int i => .int i
  | .str x => .str x
  | .lst l => .list (toPyL l)
  | .tup l => .tuple (toPyL l)
  | _ => .none
def toPyL : List D → List PyData
  | [] => []
  | d :: ds => toPy d :: toPyL ds
end
mutual
theorem eqv_py : ∀ (x y : D) (n m : Nat), x.dep n = true → y.dep m = true → PyData.eqv (toPy x) (toPy y) = x.eqv y
  | .none, y, n, m, hx, hy => by cases y <;> first | rfl | (cases m <;> simp [D.dep] at hy) | simp [toPy, PyData.eqv, D.eqv]
  | .bool b, y, n, m, hx, hy => by cases y <;> first | rfl | (cases m <;> simp [D.dep] at hy) | simp [toPy, PyData.eqv, D.eqv]
  | .int b, y, n, m, hx, hy => by cases y <;> first | rfl | (cases m <;> simp [D.dep] at hy) | simp [toPy, PyData.eqv, D.eqv]
  | .str b, y, n, m, hx, hy => by cases y <;> first | rfl | (cases m <;> simp [D.dep] at hy) | simp [toPy, PyData.eqv, D.eqv]
  | .lst l, y, 0, m, hx, hy => by simp [D.dep] at hx
  | .tup l, y, 0, m, hx, hy => by simp [D.dep] at hx
  | .lst l, y, n + 1, m, hx, hy => by
    cases y with
    | lst k =>
      cases m with
      | zero => simp [D.dep] at hy
      | succ m =>
        simp only [D.dep] at hx hy
        simp only [toPy, PyData.eqv, D.eqv]
        exact eqvL_py l k n m hx hy
    | _ => first | rfl | (cases m <;> simp [D.dep] at hy) | simp [toPy, PyData.eqv, D.eqv]
  | .tup l, y, n + 1, m, hx, hy => by
    cases y with
    | tup k =>
      cases m with
      | zero => simp [D.dep] at hy
      | succ m =>
        simp only [D.dep] at hx hy
        simp only [toPy, PyData.eqv, D.eqv]
        exact eqvL_py l k n m hx hy
    | _ => first | rfl | (cases m <;> simp [D.dep] at hy) | simp [toPy, PyData.eqv, D.eqv]
  | .dct _ _, y, n, m, hx, hy => by cases n <;> simp [D.dep] at hx
  | .fn _, y, n, m, hx, hy => by cases n <;> simp [D.dep] at hx
  | .clo _ _, y, n, m, hx, hy => by cases n <;> simp [D.dep] at hx
  | .town, y, n, m, hx, hy => by cases n <;> simp [D.dep] at hx
  | .obj _, y, n, m, hx, hy => by cases n <;> simp [D.dep] at hx
  | .scr _, y, n, m, hx, hy => by cases n <;> simp [D.dep] at hx
theorem eqvL_py : ∀ (l k : List D) (n m : Nat), l.all (D.dep n) = true → k.all (D.dep m) = true → PyData.eqvAll (toPyL l) (toPyL k) = eqvL l k
  | [], [], n, m, hx, hy => by simp [toPyL, PyData.eqvAll, eqvL]
  | [], _ :: _, n, m, hx, hy => by simp [toPyL, PyData.eqvAll, eqvL]
  | _ :: _, [], n, m, hx, hy => by simp [toPyL, PyData.eqvAll, eqvL]
  | x :: l, y :: k, n, m, hx, hy => by
    simp only [List.all_cons, Bool.and_eq_true] at hx hy
    simp only [toPyL, PyData.eqvAll, eqvL]
    rw [eqv_py x y n m hx.1 hy.1, eqvL_py l k n m hx.2 hy.2]
end
mutual
theorem lay_py : ∀ (x : D) (n : Nat), x.dep n = true → (toPy x).canLay0 = true ∧ (toPy x).depth ≤ n
  | .none, n, h => ⟨by simp [toPy, PyData.canLay0], by simp [toPy, PyData.depth]⟩
  | .bool _, n, h => ⟨by simp [toPy, PyData.canLay0], by simp [toPy, PyData.depth]⟩
  | .int _, n, h => ⟨by simp [toPy, PyData.canLay0], by simp [toPy, PyData.depth]⟩
  | .str x, n, h => ⟨by
      have h : x.cps.all (· < 0x110000) = true := by cases n <;> simpa [D.dep] using h
      simp only [toPy, PyData.canLay0, PyData.strOk]
      exact h, by simp [toPy, PyData.depth]⟩
  | .lst l, 0, h => by simp [D.dep] at h
  | .tup l, 0, h => by simp [D.dep] at h
  | .lst l, n + 1, h => by
    simp only [D.dep] at h
    obtain ⟨h1, h2⟩ := layL_py l n h
    exact ⟨by simp only [toPy, PyData.canLay0]; exact h1, by simp only [toPy, PyData.depth]; exact Nat.succ_le_succ h2⟩
  | .tup l, n + 1, h => by
    simp only [D.dep] at h
    obtain ⟨h1, h2⟩ := layL_py l n h
    exact ⟨by simp only [toPy, PyData.canLay0]; exact h1, by simp only [toPy, PyData.depth]; exact Nat.succ_le_succ h2⟩
  | .dct _ _, n, h => by cases n <;> simp [D.dep] at h
  | .fn _, n, h => by cases n <;> simp [D.dep] at h
  | .clo _ _, n, h => by cases n <;> simp [D.dep] at h
  | .town, n, h => by cases n <;> simp [D.dep] at h
  | .obj _, n, h => by cases n <;> simp [D.dep] at h
  | .scr _, n, h => by cases n <;> simp [D.dep] at h
theorem layL_py : ∀ (l : List D) (n : Nat), l.all (D.dep n) = true → PyData.canLayAll0 (toPyL l) = true ∧ PyData.depthAll (toPyL l) ≤ n
  | [], n, h => ⟨by simp [toPyL, PyData.canLayAll0], by simp [toPyL, PyData.depthAll]⟩
  | x :: l, n, h => by
    simp only [List.all_cons, Bool.and_eq_true] at h
    obtain ⟨h1, h2⟩ := lay_py x n h.1
    obtain ⟨h3, h4⟩ := layL_py l n h.2
    exact ⟨by simp only [toPyL, PyData.canLayAll0, h1, h3]; rfl, by simp only [toPyL, PyData.depthAll]; omega⟩
end
theorem shaped_py {x : D} (h : x.dep 64 = true) : SeqAt.shaped (toPy x) = true := by
  obtain ⟨h1, h2⟩ := lay_py x 64 h
  unfold SeqAt.shaped
  rw [h1, decide_eq_true h2]
  rfl
section
variable {cn : Cn} {lb : Lb} {H : Hp}
mutual
theorem dp_rep : ∀ {x : D} {v : V} {n : Nat}, x.dep n = true → Rep cn lb H x v → Dp cn.K H v (toPy x)
  | .none, v, n, h, r => by simp only [Rep] at r; subst r; simp only [toPy]; exact .non
  | .bool b, v, n, h, r => by simp only [Rep] at r; subst r; simp only [toPy]; exact .bl b
  | .int b, v, n, h, r => by simp only [Rep] at r; subst r; simp only [toPy]; exact .int b
  | .str b, v, n, h, r => by simp only [Rep] at r; subst r; simp only [toPy]; exact .str b
  | .lst l, v, 0, h, r => by simp [D.dep] at h
  | .tup l, v, 0, h, r => by simp [D.dep] at h
  | .lst l, v, n + 1, h, r => by
    simp only [Rep] at r
    simp only [D.dep] at h
    obtain ⟨a, vs, rfl, nl, z, rl⟩ := r
    simp only [toPy]
    exact .lst nl.sq (dpL_rep h rl)
  | .tup l, v, n + 1, h, r => by
    simp only [Rep] at r
    simp only [D.dep] at h
    obtain ⟨a, vs, rfl, nl, z, rl⟩ := r
    simp only [toPy]
    exact .tup nl.sq (dpL_rep h rl)
  | .dct _ _, v, n, h, r => by cases n <;> simp [D.dep] at h
  | .fn _, v, n, h, r => by cases n <;> simp [D.dep] at h
  | .clo _ _, v, n, h, r => by cases n <;> simp [D.dep] at h
  | .town, v, n, h, r => by cases n <;> simp [D.dep] at h
  | .obj _, v, n, h, r => by cases n <;> simp [D.dep] at h
  | .scr _, v, n, h, r => by cases n <;> simp [D.dep] at h
theorem dpL_rep : ∀ {l : List D} {vs : List V} {n : Nat}, l.all (D.dep n) = true → RepL cn lb H l vs → DpAll cn.K H vs (toPyL l)
  | [], vs, n, h, r => by simp only [RepL] at r; subst r; simp only [toPyL]; exact .nil
  | x :: l, vs, n, h, r => by
    simp only [RepL] at r
    simp only [List.all_cons, Bool.and_eq_true] at h
    obtain ⟨v, r', rfl, r1, r2⟩ := r
    simp only [toPyL]
    exact .cons (dp_rep h.1 r1) (dpL_rep h.2 r2)
end
theorem dp_repB {x : D} {v : V} {n : Nat} (h : x.dep n = true) (r : RepB cn lb H x v) : Dp cn.K H v (toPy x) := by
  cases x with
  | lst l =>
    obtain ⟨a, vs, rfl, e, z, rl⟩ := r.lst
    cases n with
    | zero => simp [D.dep] at h
    | succ n =>
      simp only [D.dep] at h
      simp only [toPy]
      exact .lst (.of e) (dpL_rep h rl)
  | dct ks ds => cases n <;> simp [D.dep] at h
  | _ => exact dp_rep h (r.flat (fun _ e => nomatch e) (fun _ _ e => nomatch e))
theorem p2_eq : P2 false cn (rEqD cn.K) pEq := by
  intro lb H x y d1 d2 e Q hs r1 r2 h k
  unfold pEq at h
  split at h
  · rename_i hh
    obtain ⟨h1, h2⟩ := Bool.and_eq_true_iff.mp hh
    cases h
    refine ⟨_, _, dp_repB h1 r1, dp_repB h2 r2, shaped_py h1, shaped_py h2, ?_⟩
    rw [eqv_py d1 d2 64 64 h1 h2]
    exact KV.now k (by simp only [Rep])
  · cases h
theorem p2_ne : P2 false cn (rNeD cn.K) pNe := by
  intro lb H x y d1 d2 e Q hs r1 r2 h k
  unfold pNe at h
  split at h
  · rename_i hh
    obtain ⟨h1, h2⟩ := Bool.and_eq_true_iff.mp hh
    cases h
    refine ⟨_, _, dp_repB h1 r1, dp_repB h2 r2, shaped_py h1, shaped_py h2, ?_⟩
    rw [eqv_py d1 d2 64 64 h1 h2]
    exact KV.now k (by simp only [Rep])
  · cases h
theorem any_py : ∀ (l : List D) (d : D) (n m : Nat), l.all (D.dep n) = true → d.dep m = true → ((toPyL l).any fun z => PyData.eqv z (toPy d)) = l.any fun z => z.eqv d
  | [], d, n, m, h, hd => by simp [toPyL]
  | x :: l, d, n, m, h, hd => by
    simp only [List.all_cons, Bool.and_eq_true] at h
    simp only [toPyL, List.any_cons]
    rw [eqv_py x d n m h.1 hd, any_py l d n m h.2 hd]
theorem p2_in : P2 false cn (rInD cn.K) pIn := by
  intro lb H x y d1 d2 e Q hs r1 r2 h k
  cases d2 with
  | lst l =>
    simp only [pIn] at h
    split at h
    · rename_i hh
      obtain ⟨h1, h2⟩ := Bool.and_eq_true_iff.mp hh
      cases h
      have sh := shaped_py h2
      have dp := dp_repB h2 r2
      simp only [toPy] at sh dp
      refine ⟨_, _, dp_repB h1 r1, dp, shaped_py h1, sh, ?_⟩
      rw [any_py l d1 63 64 (by simpa [D.dep] using h2) h1]
      exact KV.now k (by simp only [Rep])
    · cases h
  | _ => cases h
/-! ### numbers -/
theorem p2_int0 {g : Int → Int → V} {f : Int → Int → D} {c : Int → Int → Bool} (hr : ∀ lb H i j, Rep cn lb H (f i j) (g i j)) : P2 false cn (rI0 g) (pInt2 f c) := by
  intro lb H x y d1 d2 e Q hs r1 r2 h k
  cases d1 with
  | int i =>
    cases d2 with
    | int j =>
      simp only [pInt2] at h
      split at h
      · cases h
        exact ⟨i, j, r1.int, r2.int, KV.now k (hr _ _ _ _)⟩
      · cases h
    | _ => cases h
  | _ => cases h
theorem p2_intC {g : Int → Int → V} {f : Int → Int → D} {c : Int → Int → Bool} {C : Int → Int → Prop} (hr : ∀ lb H i j, Rep cn lb H (f i j) (g i j)) (hc : ∀ i j, c i j = true → C i j) : P2 false cn (rI C g) (pInt2 f c) := by
  intro lb H x y d1 d2 e Q hs r1 r2 h k
  cases d1 with
  | int i =>
    cases d2 with
    | int j =>
      simp only [pInt2] at h
      split at h
      · rename_i hh
        cases h
        exact ⟨i, j, r1.int, r2.int, hc i j hh, KV.now k (hr _ _ _ _)⟩
      · cases h
    | _ => cases h
  | _ => cases h
theorem p2_sub : P2 false cn (rI0 fun i j => .int (i - j)) pSub := p2_int0 fun _ _ _ _ => by simp only [Rep]
theorem p2_mul : P2 false cn (rI CMul fun i j => .int (i * j)) pMul := p2_intC (fun _ _ _ _ => by simp only [Rep]) fun i j h => by
  simp only [big, Bool.or_eq_true, lim_iff] at h
  exact h
theorem p2_fdiv : P2 false cn (rI CDiv fun i j => .int (i / j)) pFdiv := p2_intC (fun _ _ _ _ => by simp only [Rep]) fun i j h => of_lim h
theorem p2_mod : P2 false cn (rI (fun _ j => 0 < j) fun i j => .int (i % j)) pMod := p2_intC (fun _ _ _ _ => by simp only [Rep]) fun i j h => of_lim h
theorem p2_pow : P2 false cn (rI CPow fun i j => .int (i ^ j.toNat)) pPow := p2_intC (fun _ _ _ _ => by simp only [Rep]) fun i j h => of_lim h
theorem p2_lt : P2 false cn (rI0 fun i j => .bl (decide (i < j))) pLt := p2_int0 fun _ _ _ _ => by simp only [Rep]
theorem p2_le : P2 false cn (rI0 fun i j => .bl (decide (i ≤ j))) pLe := p2_int0 fun _ _ _ _ => by simp only [Rep]
theorem p2_gt : P2 false cn (rI0 fun i j => .bl (decide (j < i))) pGt := p2_int0 fun _ _ _ _ => by simp only [Rep]
theorem p2_ge : P2 false cn (rI0 fun i j => .bl (decide (j ≤ i))) pGe := p2_int0 fun _ _ _ _ => by simp only [Rep]
theorem p1_neg : P1 false cn (rU fun i => .int (-i)) pNeg := by
  intro lb H x d e Q hs r h k
  cases d with
  | int i => cases h; exact ⟨i, r.int, KV.now k (by simp only [Rep])⟩
  | _ => cases h
theorem p1_abs : P1 false cn (fun x H Q => ∃ i, [x] = [V.int i] ∧ Q (.int (if i < 0 then -i else i)) H) pAbs := by
  intro lb H x d e Q hs r h k
  cases d with
  | int i => cases h; exact ⟨i, by rw [r.int], KV.now k (by simp only [Rep])⟩
  | _ => cases h
theorem p2_max2 : P2 false cn (fun x y H Q => ∃ i j, [x, y] = [V.int i, V.int j] ∧ Q (.int (if j > i then j else i)) H) pMax2 := by
  intro lb H x y d1 d2 e Q hs r1 r2 h k
  cases d1 with
  | int i =>
    cases d2 with
    | int j => cases h; exact ⟨i, j, by rw [r1.int, r2.int], KV.now k (by simp only [Rep])⟩
    | _ => cases h
  | _ => cases h
theorem p2_min2 : P2 false cn (fun x y H Q => ∃ i j, [x, y] = [V.int i, V.int j] ∧ Q (.int (if j < i then j else i)) H) pMin2 := by
  intro lb H x y d1 d2 e Q hs r1 r2 h k
  cases d1 with
  | int i =>
    cases d2 with
    | int j => cases h; exact ⟨i, j, by rw [r1.int, r2.int], KV.now k (by simp only [Rep])⟩
    | _ => cases h
  | _ => cases h
end
end Pk
/-! Br9: places, kinds, sums of lists, and the rules of expressions with built-ins. -/
namespace Pk
open PySem PySem.Spec PyProof.Rows L2
section
variable {cn : Cn} {lb : Lb} {H : Hp}
theorem ixOf_eq (n : Nat) (i : Int) : ixOf n i = ixN n i := rfl
theorem getI_rep {l : List D} {vs : List V} {i : Int} {d : D} (r : RepL cn lb H l vs) (h : getI l i = some d) : ∃ v, atI vs i = some v ∧ Rep cn lb H d v := by
  unfold getI at h
  cases e : ixOf l.length i with
  | none => rw [e] at h; cases h
  | some j =>
    rw [e] at h
    obtain ⟨v, e1, r1⟩ := r.get (show l[j]? = some d from h)
    refine ⟨v, ?_, r1⟩
    unfold atI
    rw [← r.length, ← ixOf_eq, e]
    exact e1
theorem p2_ix : P2 false cn (rIx cn.K) pIx := by
  intro lb H x y d1 d2 e Q hs r1 r2 h k
  cases d2 with
  | int i =>
    cases d1 with
    | lst l =>
      obtain ⟨a, vs, rfl, e1, z, rl⟩ := r1.lst
      obtain ⟨v, e2, rv⟩ := getI_rep rl h
      exact .inl ⟨a, vs, i, v, rfl, r2.int, .of e1, e2, KV.now k rv⟩
    | tup l =>
      obtain ⟨a, vs, rfl, e1, z, rl⟩ := r1.tup
      obtain ⟨v, e2, rv⟩ := getI_rep rl h
      exact .inr (.inl ⟨a, vs, i, v, rfl, r2.int, .of e1, e2, KV.now k rv⟩)
    | scr l =>
      obtain ⟨a, rfl, e1, z⟩ := r1.scr
      simp only [pIx] at h
      cases e2 : ixOf l.length i with
      | none => rw [e2] at h; cases h
      | some j =>
        rw [e2] at h
        cases e3 : l[j]? with
        | none => simp only [Option.bind_some, e3] at h; cases h
        | some n =>
          simp only [Option.bind_some, e3, Option.map_some, Option.some.injEq] at h
          subst h
          refine .inl ⟨a, _, i, .int n, rfl, r2.int, e1, ?_, KV.now k (by simp only [Rep])⟩
          unfold atI
          rw [List.length_map, ← ixOf_eq, e2]
          simp [e3]
    | _ => cases h
  | _ => cases d1 <;> cases h
/-! ### kinds -/
def TyD (K : PySem.W.Frag) (H : Hp) (v : V) (d : D) : Prop := match d with
    | .none => TyX K H v (.type "NoneType")
    | .bool _ => TyX K H v (.type "bool")
    | .int _ => TyX K H v (.type "int")
    | .str _ => TyX K H v (.type "str")
    | .tup _ => TyX K H v (.type "tuple")
    | .lst _ => TyX K H v (.type "list")
    | _ => True
theorem tyx {d : D} {v : V} (r : RepB cn lb H d v) : TyD cn.K H v d := by
  cases d with
  | none => rw [r.none]; exact .base .non
  | bool b => rw [r.bool]; exact .base (.bl b)
  | int b => rw [r.int]; exact .base (.int b)
  | str b => rw [r.str]; exact .base (.str b)
  | tup l => obtain ⟨a, vs, rfl, e, _⟩ := r.tup; exact .base (.tup e)
  | lst l => obtain ⟨a, vs, rfl, e, _⟩ := r.lst; exact .base (.lst e)
  | _ => trivial
theorem p1_isi (T : String) (p : D → Option D) (h0 : ∀ e, p .none = some e → ∃ c, e = .bool c ∧ kitB "NoneType" T = some c) (h1 : ∀ b e, p (.bool b) = some e → ∃ c, e = .bool c ∧ kitB "bool" T = some c)
    (h2 : ∀ b e, p (.int b) = some e → ∃ c, e = .bool c ∧ kitB "int" T = some c) (h3 : ∀ b e, p (.str b) = some e → ∃ c, e = .bool c ∧ kitB "str" T = some c) (h4 : ∀ b e, p (.tup b) = some e → ∃ c, e = .bool c ∧ kitB "tuple" T = some c)
    (h5 : ∀ b e, p (.lst b) = some e → ∃ c, e = .bool c ∧ kitB "list" T = some c) (h6 : ∀ b a, p (.dct b a) = none)
    (h7 : ∀ n, p (.fn n) = none) (h8 : ∀ n l, p (.clo n l) = none) (h9 : p .town = none) (h10 : ∀ n, p (.obj n) = none) (h11 : ∀ n, p (.scr n) = none) :
    P1 false cn (fun x H Q => rIsi cn.K [x, .ty T] H Q) p := by
  intro lb H x d e Q hs r h k
  have t := tyx r
  have fin : ∀ s, (∃ c, e = .bool c ∧ kitB s T = some c) → TyX cn.K H x (.type s) → rIsi cn.K [x, .ty T] H Q := fun s ⟨c, e1, e2⟩ t => by
    subst e1
    exact ⟨x, .ty T, .type s, .type T, c, rfl, .ty T, t, kit_ty e2, KV.now k (by simp only [Rep])⟩
  cases d with
  | none => exact fin _ (h0 e h) t
  | bool b => exact fin _ (h1 b e h) t
  | int b => exact fin _ (h2 b e h) t
  | str b => exact fin _ (h3 b e h) t
  | tup b => exact fin _ (h4 b e h) t
  | lst b => exact fin _ (h5 b e h) t
  | dct b a => rw [h6] at h; cases h
  | fn n => rw [h7] at h; cases h
  | clo n l => rw [h8] at h; cases h
  | town => rw [h9] at h; cases h
  | obj n => rw [h10] at h; cases h
  | scr n => rw [h11] at h; cases h
theorem p1_isInt : P1 false cn (fun x H Q => rIsi cn.K [x, .ty "int"] H Q) pIsInt := by
  refine p1_isi "int" pIsInt ?_ ?_ ?_ ?_ ?_ ?_ (fun _ _ => rfl) (fun _ => rfl) (fun _ _ => rfl) rfl (fun _ => rfl) (fun _ => rfl) <;> (intros; rename_i h; cases h; exact ⟨_, rfl, by decide +kernel⟩)
theorem p1_isBool : P1 false cn (fun x H Q => rIsi cn.K [x, .ty "bool"] H Q) pIsBool := by
  refine p1_isi "bool" pIsBool ?_ ?_ ?_ ?_ ?_ ?_ (fun _ _ => rfl) (fun _ => rfl) (fun _ _ => rfl) rfl (fun _ => rfl) (fun _ => rfl) <;> (intros; rename_i h; cases h; exact ⟨_, rfl, by decide +kernel⟩)
theorem p1_isTup : P1 false cn (fun x H Q => rIsi cn.K [x, .ty "tuple"] H Q) pIsTup := by
  refine p1_isi "tuple" pIsTup ?_ ?_ ?_ ?_ ?_ ?_ (fun _ _ => rfl) (fun _ => rfl) (fun _ _ => rfl) rfl (fun _ => rfl) (fun _ => rfl) <;> (intros; rename_i h; cases h; exact ⟨_, rfl, by decide +kernel⟩)
/-! ### lists of numbers, of truth values -/
theorem ints_rep : ∀ {l : List D} {vs : List V} {ns : List Int}, RepL cn lb H l vs → intsOf l = some ns → vs = ns.map V.int
  | [], vs, ns, r, h => by simp only [RepL] at r; cases h; rw [r]; rfl
  | d :: l, vs, ns, r, h => by
    simp only [RepL] at r
    obtain ⟨v, r', rfl, r1, r2⟩ := r
    cases d with
    | int i =>
      simp only [intsOf] at h
      cases e : intsOf l with
      | none => rw [e] at h; cases h
      | some ms =>
        rw [e] at h
        cases h
        simp only [Rep] at r1
        rw [r1, ints_rep r2 e]
        rfl
    | _ => cases h
theorem bools_rep : ∀ {l : List D} {vs : List V} {ns : List Bool}, RepL cn lb H l vs → boolsOf l = some ns → vs = ns.map V.bl
  | [], vs, ns, r, h => by simp only [RepL] at r; cases h; rw [r]; rfl
  | d :: l, vs, ns, r, h => by
    simp only [RepL] at r
    obtain ⟨v, r', rfl, r1, r2⟩ := r
    cases d with
    | bool i =>
      simp only [boolsOf] at h
      cases e : boolsOf l with
      | none => rw [e] at h; cases h
      | some ms =>
        rw [e] at h
        cases h
        simp only [Rep] at r1
        rw [r1, bools_rep r2 e]
        rfl
    | _ => cases h
theorem p1_all : P1 false cn (fun x H Q => rAll cn.K [x] H Q) pAll := by
  intro lb H x d e Q hs r h k
  cases d with
  | lst l =>
    obtain ⟨a, vs, rfl, e1, z, rl⟩ := r.lst
    simp only [pAll] at h
    cases e2 : boolsOf l with
    | none => rw [e2] at h; cases h
    | some bs =>
      rw [e2] at h
      cases h
      rw [bools_rep rl e2] at e1
      exact ⟨a, bs, rfl, .of e1, KV.now k (by simp only [Rep])⟩
  | _ => cases h
theorem p1_any : P1 false cn (fun x H Q => rAny cn.K [x] H Q) pAny := by
  intro lb H x d e Q hs r h k
  cases d with
  | lst l =>
    obtain ⟨a, vs, rfl, e1, z, rl⟩ := r.lst
    simp only [pAny] at h
    cases e2 : boolsOf l with
    | none => rw [e2] at h; cases h
    | some bs =>
      rw [e2] at h
      cases h
      rw [bools_rep rl e2] at e1
      exact ⟨a, bs, rfl, .of e1, KV.now k (by simp only [Rep])⟩
  | _ => cases h
/-! ### x + y -/
def rAddA (K : PySem.W.Frag) : R2 := fun x y H Q => (rI0 (fun i j => .int (i + j)) x y H Q) ∨ ((∃ i j, x = .str i ∧ y = .str j ∧ i.length + j.length ≤ sizeLine ∧ Q (.str (i ++ j)) H) ∨ (rCat x y H Q ∨ rCatA K x y H Q))
theorem op_addA {X : Cx} : OpR X (binaryOp .Add) (rAddA X.K) := op_add.or (op_add_str.or (op_cat.or op_catA))
theorem KV.tup {d : List D} {Q : VK} (k : KV cn lb H (.tup d) Q) (hs : Has lb H) {vs : List V} {p : Addr} (np : H p = none) (r : RepL cn lb H d vs) (z : d.length ≤ SZ) : Q (.ref p) (L2.upd H p (.tup vs)) := by
  refine k _ _ (Ext.upd np) ?_
  simp only [Rep]
  exact ⟨p, vs, rfl, ⟨hs.none np, upd_same⟩, z, r.stq (.of_ext (Ext.upd np))⟩
theorem p2_add : P2 false cn (rAddA cn.K) pAdd := by
  intro lb H x y d1 d2 e Q hs r1 r2 h k
  cases d1 with
  | int i =>
    cases d2 with
    | int j => cases h; exact .inl ⟨i, j, r1.int, r2.int, KV.now k (by simp only [Rep])⟩
    | _ => cases h
  | str i =>
    cases d2 with
    | str j =>
      simp only [pAdd] at h
      split at h
      · rename_i hz
        cases h
        exact .inr (.inl ⟨i, j, r1.str, r2.str, by have := of_lim hz; rw [← SZ_eq]; exact this, KV.now k (by simp only [Rep]; rfl)⟩)
      · cases h
    | _ => cases h
  | lst l =>
    cases d2 with
    | lst m =>
      simp only [pAdd] at h
      split at h
      · rename_i hz
        cases h
        have hz := of_lim hz
        obtain ⟨a, vs, rfl, e1, z1, rl⟩ := r1.lst
        obtain ⟨c, us, rfl, e2, z2, rm⟩ := r2.lst
        refine .inr (.inr (.inl ⟨a, c, vs, us, rfl, rfl, e1, e2, by rw [← rl.length, ← rm.length, ← SZ_eq]; exact hz, fun p np => ?_⟩))
        exact KV.kf hs k p _ np ⟨vs ++ us, rfl, by rw [List.length_append]; exact hz, rl.append rm⟩
      · cases h
    | _ => cases h
  | tup l =>
    cases d2 with
    | tup m =>
      simp only [pAdd] at h
      split at h
      · rename_i hz
        cases h
        have hz := of_lim hz
        have r1' := r1
        have r2' := r2
        obtain ⟨a, vs, rfl, e1, z1, rl⟩ := r1.tup
        obtain ⟨c, us, rfl, e2, z2, rm⟩ := r2.tup
        have f1 := r1'.flat (fun _ e => nomatch e) (fun _ _ e => nomatch e)
        have f2 := r2'.flat (fun _ e => nomatch e) (fun _ _ e => nomatch e)
        refine .inr (.inr (.inr ⟨a, c, vs, us, rfl, rfl, .of e1, .of e2, by rw [← rl.length, ← rm.length, ← SZ_eq]; exact hz, fun h0 => ?_, fun _ h0 => ?_, fun _ _ p np => ?_⟩))
        · have hl : l = [] := by
            have := rl.length
            rw [h0] at this
            exact List.length_eq_zero_iff.mp this
          subst hl
          exact KV.now k f2
        · have hl : m = [] := by
            have := rm.length
            rw [h0] at this
            exact List.length_eq_zero_iff.mp this
          subst hl
          have k2 : Kt false cn lb H (.tup l) Q := by simpa using k
          exact KV.now k2 f1
        · exact KV.tup k hs np (rl.append rm) (by rw [List.length_append]; exact hz)
      · cases h
    | _ => cases h
  | _ => cases h
end
end Pk
/-! Br10: rules of expressions with built-ins; lists changed in place; what a loop walks; a def. -/
namespace Pk
open PySem PySem.Spec PyProof.Rows L2
section
variable {X : Cx} {b : Bd} {n : Nat}
theorem Gd.units (g : Gd n X b) : X.A.units + 65 < cLine := by have := g.room.un; omega
theorem Gd.eqD (g : Gd n X b) : OpR X (compareOp .Eq) (rEqD b.cn.K) := by rw [g.kk]; exact op_eqD (by have := g.units; omega)
theorem Gd.neD (g : Gd n X b) : OpR X (compareOp .NotEq) (rNeD b.cn.K) := by rw [g.kk]; exact op_neD (by have := g.units; omega)
theorem Gd.inD (g : Gd n X b) : OpR X (compareOp .In) (rInD b.cn.K) := by rw [g.kk]; exact op_inD g.units
theorem Gd.addA (g : Gd n X b) : OpR X (binaryOp .Add) (rAddA b.cn.K) := by rw [g.kk]; exact op_addA
theorem de_ix {ea ec : Expr} {a c : Opd} {pos : Pos} (g : Gd n X b) (ha : DO X b ea a) (hc : DO X b ec c) (hs : PlainIx ec := by exact fun _ _ => rfl) : DE X b (.Subscript ea ec pos) (e2 pIx a c) :=
  PE.imp (pe_ix (by rw [g.kk]; exact ix_seq : IxR X (rIx b.cn.K)) ha.pe hc.pe hs) fun _ _ _ h => t2_run p2_ix h
/-- f(a), f(a, c) of built-in functions -/
theorem de_b1 {fresh : Bool} {x : Str} {id : String} {r : List V → Hp → VK → Prop} {p : D → Option D} {ea : Expr} {a : Opd} {q pos : Pos} (hc : CallR X (.builtin id) r) (hp : P1 fresh b.cn (fun x H Q => r [x] H Q) p) (hg : Gl X x) (hm : X.mg x = none) (hv : bootBuiltins x = some (.builtin id)) (ha : DO X b ea a)
    (hn : x ≠ "__name__" := by decide) (hdb : (x == ("__debug__" : Str)) = false := by decide) (he : starEach [ea] X.env = [(false, eval ea X.env)] := by rfl) : PE X (.Call (.Name x q) [ea] [] pos) (tK fresh b (e1 p a)) :=
  PE.imp (pe_callB hc hg hm hv (pa_cons ha.pe pa_nil he) hn hdb he rfl) fun _ _ _ h => t1_run hp h
theorem de_b2 {fresh : Bool} {x : Str} {id : String} {r : List V → Hp → VK → Prop} {p : D → D → Option D} {ea ec : Expr} {a c : Opd} {q pos : Pos} (hc : CallR X (.builtin id) r) (hp : P2 fresh b.cn (fun x y H Q => r [x, y] H Q) p) (hg : Gl X x) (hm : X.mg x = none) (hv : bootBuiltins x = some (.builtin id)) (ha : DO X b ea a) (hb : DO X b ec c)
    (hn : x ≠ "__name__" := by decide) (hdb : (x == ("__debug__" : Str)) = false := by decide) (he : starEach [ea, ec] X.env = (false, eval ea X.env) :: starEach [ec] X.env := by rfl) (he2 : starEach [ec] X.env = [(false, eval ec X.env)] := by rfl) : PE X (.Call (.Name x q) [ea, ec] [] pos) (tK fresh b (e2 p a c)) :=
  PE.imp (pe_callB hc hg hm hv (pa_cons ha.pe (pa_cons hb.pe pa_nil he2) he) hn hdb he (by rw [he2]; rfl)) fun _ _ _ h => t2_run hp h
/-- T(a) of a built-in type -/
theorem de_ty1 {fresh : Bool} {x : Str} {T : String} {r : List V → Hp → VK → Prop} {p : D → Option D} {ea : Expr} {a : Opd} {q pos : Pos} (hc : CallR X (.type T) r) (hp : P1 fresh b.cn (fun x H Q => r [x] H Q) p) (hg : Gl X x) (hm : X.mg x = none) (hv : bootBuiltins x = some (.type T)) (ha : DO X b ea a)
    (hn : x ≠ "__name__" := by decide) (hdb : (x == ("__debug__" : Str)) = false := by decide) (he : starEach [ea] X.env = [(false, eval ea X.env)] := by rfl) : PE X (.Call (.Name x q) [ea] [] pos) (tK fresh b (e1 p a)) :=
  PE.imp (pe_callTy hc hg hm hv (pa_cons ha.pe pa_nil he) hn hdb he rfl) fun _ _ _ h => t1_run hp h
/-- isinstance(a, T) -/
theorem de_isi {y : Str} {T : String} {p : D → Option D} {ea : Expr} {a : Opd} {q q2 pos : Pos} (g : Gd n X b) (hp : P1 false b.cn (fun x H Q => rIsi b.cn.K [x, .ty T] H Q) p) (hg : Gl X "isinstance") (hm : X.mg "isinstance" = none) (ha : DO X b ea a) (hgy : Gl X y) (hmy : X.mg y = none) (hvy : bootBuiltins y = some (.type T))
    (hny : y ≠ "__name__" := by decide) (hdy : (y == ("__debug__" : Str)) = false := by decide) (he : starEach [ea, .Name y q2] X.env = (false, eval ea X.env) :: starEach [.Name y q2] X.env := by rfl) : DE X b (.Call (.Name "isinstance" q) [ea, .Name y q2] [] pos) (e1 p a) :=
  PE.imp (pe_callB (by rw [g.kk]; exact call_isi : CallR X (.builtin "isinstance") (rIsi b.cn.K)) hg hm boot_isinstance (pa_cons ha.pe (pa_cons (pe_bltn hgy hmy hvy (v := .ty T) rfl hny hdy) pa_nil) he) (by decide) (by decide) he rfl) fun _ _ _ h => t1_run hp h
/-- len(a) -/
theorem de_len {ea : Expr} {a : Opd} {q pos : Pos} (g : Gd n X b) (hg : Gl X "len") (hm : X.mg "len" = none) (ha : DO X b ea a) (he : starEach [ea] X.env = [(false, eval ea X.env)] := by rfl) : DE X b (.Call (.Name "len" q) [ea] [] pos) (eLen a) := by
  refine PE.imp (pe_callB call_len_seq hg hm boot_len (pa_cons ha.pe pa_nil he) (by decide) (by decide) he rfl) fun σ H Q ⟨lb, ρ, s, o, h⟩ => ?_
  refine tOpd_run o (Post.bind h) fun x ρ1 s1 lb1 H1 v st o1 q sd => ?_
  obtain ⟨e, e1, k⟩ := opt_post o1 q
  cases e2 : look ρ1 x with
  | none => rw [e2] at e1; cases e1
  | some d =>
    rw [e2] at e1
    have rb := sd.look o1 e2
    cases d with
    | lst l =>
      cases e1
      obtain ⟨p, vs, rfl, hp, _, rl⟩ := rb.lst
      exact ⟨p, vs, rfl, .inl (.of hp), by rw [← rl.length]; exact KV.now k (by simp only [Rep])⟩
    | tup l =>
      cases e1
      obtain ⟨p, vs, rfl, hp, _, rl⟩ := rb.tup
      exact ⟨p, vs, rfl, .inr (.of hp), by rw [← rl.length]; exact KV.now k (by simp only [Rep])⟩
    | scr l =>
      cases e1
      obtain ⟨p, rfl, hp, _⟩ := rb.scr
      refine ⟨p, _, rfl, .inl (by rw [← g.kk]; exact hp), ?_⟩
      rw [List.length_map]
      exact KV.now k (by simp only [Rep])
    | town =>
      have r := rb.flat (fun _ e => nomatch e) (fun _ _ e => nomatch e)
      simp only [Rep] at r
      obtain ⟨p, rfl, lp⟩ := r
      obtain ⟨m, em, hp, _⟩ := o1.sto.town p lp
      refine ⟨p, _, rfl, .inl (.of hp), ?_⟩
      rw [List.length_replicate]
      simp only [Option.bind_some, lenOf, em, Option.map_some, Option.some.injEq] at e1
      subst e1
      exact KV.now k (by simp only [Rep])
    | _ => cases e1
/-- script == [] -/
theorem dp_ints {K : PySem.W.Frag} {H : Hp} : ∀ l : List Int, DpAll K H (l.map V.int) (l.map PyData.int)
  | [] => .nil
  | i :: l => .cons (.int i) (dp_ints l)
theorem lay_ints : ∀ l : List Int, PyData.canLayAll0 (l.map PyData.int) = true ∧ PyData.depthAll (l.map PyData.int) = 0
  | [] => ⟨by simp [PyData.canLayAll0], by simp [PyData.depthAll]⟩
  | i :: l => by
    obtain ⟨h1, h2⟩ := lay_ints l
    exact ⟨by simp [PyData.canLayAll0, PyData.canLay0, h1], by simp [PyData.depthAll, PyData.depth, h2]⟩
theorem scr0_run {a : Opd} {σ : L2.St} {H : Hp} {Q : VK} {tb : TE} (htb : ∀ σ H Q, (∀ p, H p = none → Q (.ref p) (L2.upd H p (.lst []))) → tb σ H Q) (h : tK false b (e1 pScr0 a) σ H Q) : tOp (rEqD b.cn.K) (tOpd b a) tb σ H Q := by
  obtain ⟨lb, ρ, s, o, h⟩ := h
  refine tOpd_run o (Post.bind h) fun x ρ1 s1 lb1 H1 v st o1 q sd => ?_
  obtain ⟨e, e1, k⟩ := opt_post o1 q
  cases e2 : look ρ1 x with
  | none => rw [e2] at e1; cases e1
  | some d =>
    rw [e2] at e1
    cases d with
    | scr l =>
      obtain ⟨p, rfl, hp, _⟩ := (sd.look o1 e2).scr
      simp only [Option.bind_some, pScr0, Option.some.injEq] at e1
      subst e1
      refine htb _ _ _ fun p2 np => ?_
      have hp2 : SqL b.cn.K (L2.upd H1 p2 (.lst [])) p (l.map V.int) := by
        rcases hp with hp | hp
        · rcases hp with hp | ⟨ob, hp⟩
          · exact .inl (.inl (Ext.upd np _ _ hp))
          · exact .inl (.inr ⟨ob, Ext.upd np _ _ hp⟩)
        · exact .inr hp
      obtain ⟨l1, l2⟩ := lay_ints l
      refine ⟨.list (l.map .int), .list [], .lst hp2 (dp_ints l), .lst (.of upd_same) .nil, ?_, by decide, ?_⟩
      · simp [SeqAt.shaped, PyData.canLay0, PyData.depth, l1, l2]
      · have ee : PyData.eqv (.list (l.map .int)) (.list []) = l.isEmpty := by cases l <;> simp [PyData.eqv, PyData.eqvAll]
        rw [ee]
        exact k _ _ (Ext.upd np) (by simp only [Rep])
    | _ => cases e1
theorem dt_scr0 {ea : Expr} {a : Opd} {p2 pos : Pos} (g : Gd n X b) (ha : DO X b ea a) (hm : behindInMarks .Eq (.List [] p2) = false := by rfl) : DT X b (.Compare ea [.Eq] [.List [] p2] pos) (e1 pScr0 a) :=
  PT.imp (pt_cmpR g.eqD ha.pe (pe_lst pa_nil) hm) fun σ H Q h => scr0_run (Q := fun x H' => ∃ k, x = .bl k ∧ Q k H') (fun σ H Q h => ⟨Nat.zero_le _, h⟩) (tT_test h)
/-! ### lists changed in place -/
theorem ow_lst {lb : Lb} {ρ : Env} {s : Sto} {σ : L2.St} {H : Hp} {i : Nat} {l : List D} (o : Ok b lb ρ s σ H) (h : ρ[i]? = some (.ow (.lst l))) : ∃ a vs, σ[i]? = some (some (.ref a)) ∧ lb a = some (.loc i) ∧ H a = some (.lst vs) ∧ l.length ≤ SZ ∧ RepL b.cn lb H l vs := by
  obtain ⟨a, u, e1, l1, q, w⟩ := o.ow i _ h
  obtain ⟨vs, rfl, z, r⟩ := w
  exact ⟨a, vs, e1, l1, q, z, r⟩
theorem ds_extend {x : Expr} {i : Nat} {e : Expr} {m : M D} {apos cpos pos : Pos} (hx : PE X x (tVar i)) (h : DE X b e m) (hbase : attributeBase x "extend" X.env (eval x X.env) = eval x X.env := by rfl)
    (hfew : ((backTo cpos (starEach [e] X.env)).all (fun x => !x.1) && (backToKw cpos (keywordEach [] X.env)).all (fun x => x.1.isSome) && decide ([e].length + ([] : List Keyword).length + (if ([] : List Keyword).isEmpty then 0 else 1) < 30)) = true := by rfl)
    (hline : (apos.endLine == cpos.line) = true := by rfl) (hs : starEach [e] X.env = (false, eval e X.env) :: starEach [] X.env := by rfl) (hsw : swapsWith (.Call (.Attribute x "extend" apos) [e] [] cpos) none pos.line X.env = pure false := by rfl) :
    DS X b (.Expr (.Call (.Attribute x "extend" apos) [e] [] cpos) pos) (sExtend i m) := by
  refine PS.imp (ps_expr (pe_bm PySem.F.plainAttrs_list PySem.F.slot_list_extend PySem.F.type_list_extend mt_extend hx (pa_cons h pa_nil hs) hbase hfew hline hs rfl) hsw) fun D σ H ⟨lb, ρ, s, o, p⟩ => ?_
  have p : SPost b D lb H (sExtend i m ρ s) := p
  unfold sExtend at p
  cases q : ρ[i]? with
  | none => rw [q] at p; exact False.elim p
  | some z =>
    cases z with
    | ow d =>
      cases d with
      | lst l =>
        simp only [q] at p
        obtain ⟨a, vs, e1, l1, h1, _, _⟩ := ow_lst o q
        refine ⟨.ref a, e1, .inl ⟨rfl, vs, .of h1⟩, lb, ρ, s, o, (SPost.bind (D := D) p).mono fun dv ρ1 s1 lb1 H1 st o1 k => fun v H2 ex r => ?_⟩
        have o2 := o1.ext ex
        have k := SPost.from k (o1.stp_ext ex)
        cases q1 : ρ1[i]? with
        | none => rw [q1] at k; exact False.elim k
        | some z =>
          cases z with
          | ow d =>
            cases d with
            | lst l =>
              cases dv with
              | lst m =>
                simp only [q1] at k
                split at k
                · rename_i hz
                  have hz := of_lim hz
                  obtain ⟨a', ws, e2, l2, h2, z2, rl⟩ := ow_lst o2 q1
                  rw [e1] at e2
                  cases e2
                  simp only [Rep] at r
                  obtain ⟨c, us, rfl, nl, z3, rm⟩ := r
                  refine ⟨a, c, ws, us, rfl, rfl, h2, nl.2, by rw [← rl.length, ← rm.length, ← SZ_eq]; exact hz, ?_⟩
                  obtain ⟨o3, st3⟩ := o2.change q1 e1 h2 (d' := .lst (l ++ m)) (o' := .lst (ws ++ us)) ⟨_, rfl, by rw [List.length_append]; exact hz, rl.append rm⟩
                  exact k lb1 σ _ st3 o3
                · exact False.elim k
              | _ => simp only [q1] at k; exact False.elim k
            | _ => simp only [q1] at k; exact False.elim k
          | _ => simp only [q1] at k; exact False.elim k
      | _ => simp only [q] at p; exact False.elim p
    | _ => simp only [q] at p; exact False.elim p
end
end Pk
/-! Br11: two names at once; the town; what a loop walks; a def. -/
namespace Pk
open PySem PySem.Spec PyProof.Rows L2
section
variable {X : Cx} {b : Bd} {n : Nat}
/-- slot i gets a value, or a new thing that stands at its place already -/
theorem BOk.put {cn : Cn} {lb0 lb : Lb} {H0 H : Hp} {ρ : Env} {s : Sto} {σ : L2.St} {p : Addr} {d : D} {o : HO} (i : Nat) (k : BOk cn lb0 H0 lb ρ s σ (hid H p)) (hi : i < σ.length) (hp : H p = some o) (w : OwnO cn lb (hid H p) d o) :
    ∃ lb', BOk cn lb0 H0 lb' (ρ.set i (.ow d)) s (σ.set i (some (.ref p))) H ∧ Stp lb (hid H p) lb' H := by
  obtain ⟨k2, st⟩ := k.setOw i (by rw [k.len]; exact hi) hid_same w
  rw [upd_hid hp] at k2 st
  exact ⟨_, k2, st⟩
theorem Ext.hid {H H' : Hp} {p : Addr} (h : Ext H H') (np : H p = none) : Ext H (hid H' p) := fun a o e => by
  rw [hid_ne (by rintro rfl; rw [np] at e; cases e)]
  exact h a o e
theorem Ext.hid2 {H H' : Hp} {p : Addr} (h : Ext H H') : Ext (Pk.hid H p) (Pk.hid H' p) := fun a o e => by
  by_cases ha : a = p
  · rw [ha, hid_same] at e; cases e
  · rw [hid_ne ha] at e ⊢
    exact h a o e
theorem par_run {f1 f2 : Bool} {i j : Nat} {m1 m2 : M D} {D : Ends} {σ : L2.St} {H : Hp} (hij : i ≠ j) (hi : i < σ.length) (hj : j < σ.length) (h : tS b (sPar f1 f2 i j m1 m2) D σ H) :
    tCons (tK f1 b m1) (tCons (tK f2 b m2) tNil) σ H fun vs H1 => ∃ v w, vs = [v, w] ∧ ∀ H3, Ext H1 H3 → D.nx ((σ.set i (some v)).set j (some w)) H3 := by
  obtain ⟨lb, ρ, s, o, h⟩ := h
  have h : SPost b D lb H ((m1 ρ s).bind fun d r s => (m2 r s).bind fun e r s => .ok .nx ((r.set i (if f1 then .ow d else .sh d)).set j (if f2 then .ow e else .sh e)) s) := h
  refine ⟨lb, ρ, s, o, ?_⟩
  cases e1 : m1 ρ s with
  | bad => rw [e1] at h; exact False.elim h
  | exc x r1 s1 => rw [e1] at h; exact fun lb' H' c d st o z => h lb' σ H' c d st o z
  | ok d1 ρ1 s1 =>
    rw [e1, R.bind_ok] at h
    intro lb1 H1 st1 o1
    have hj2 : ∀ v : Option V, j < (σ.set i v).length := fun v => by rw [List.length_set]; exact hj
    cases f1 with
    | false =>
      intro v1 H1' ex1 r1
      have o1' := o1.ext ex1
      have st1' := st1.trans (o1.stp_ext ex1)
      refine ⟨lb1, ρ1, s1, o1', ?_⟩
      cases e2 : m2 ρ1 s1 with
      | bad => rw [e2] at h; exact False.elim h
      | exc x r1 s1 => rw [e2] at h; exact fun lb' H' c d st o z => h lb' σ H' c d (st1'.trans st) o z
      | ok d2 ρ2 s2 =>
        rw [e2, R.bind_ok] at h
        intro lb2 H2 st2 o2
        cases f2 with
        | false =>
          intro v2 H2' ex2 r2
          refine ⟨v1, v2, rfl, fun H3 ex3 => ?_⟩
          have exs := ex2.trans ex3
          have o3 := o2.ext exs
          have st3 := o2.stp_ext exs
          have ra : Rep b.cn lb2 H3 d1 v1 := r1.stp (st2.trans st3)
          have rb : Rep b.cn lb2 H3 d2 v2 := r2.stp ((o2.ext ex2).stp_ext ex3)
          have o4 := o3.setSh i ra
          have o5 := o4.setSh j (rb.stp (.unl _ _ i))
          exact h _ _ _ ((st1'.trans (st2.trans st3)).trans ((Stp.unl _ _ i).trans (.unl _ _ j))) o5
        | true =>
          intro p2 ob2 np2 w2
          refine ⟨v1, .ref p2, rfl, fun H3 ex3 => ?_⟩
          have hp2 : H3 p2 = some ob2 := ex3 _ _ upd_same
          have exG : Ext H2 (hid H3 p2) := ((Ext.upd np2).trans ex3).hid np2
          have o3 := o2.ext exG
          have st3 := o2.stp_ext exG
          have ra : Rep b.cn lb2 (hid H3 p2) d1 v1 := r1.stp (st2.trans st3)
          have o4 := o3.setSh i ra
          obtain ⟨lb5, o5, st5⟩ := BOk.put j o4 (hj2 _) hp2 ((w2.stp st3).stp (.unl _ _ i))
          exact h _ _ _ ((st1'.trans (st2.trans st3)).trans ((Stp.unl _ _ i).trans st5)) o5
    | true =>
      intro p1 ob1 np1 w1
      obtain ⟨oS, stS⟩ := o1.side ob1 np1 w1.nt
      have st1' := st1.trans stS
      refine ⟨_, ρ1, s1, oS, ?_⟩
      have h0 : b.H0 p1 = none := by
        cases z : b.H0 p1 with
        | none => rfl
        | some u => exact absurd np1 (o1.since.dom p1 (by rw [z]; simp))
      have n0 : b.lb0 p1 ≠ some .out := fun z => by
        obtain ⟨u, w, _⟩ := o1.has p1 _ (o1.since.out p1 z).1
        rw [np1] at w; cases w
      cases e2 : m2 ρ1 s1 with
      | bad => rw [e2] at h; exact False.elim h
      | exc x r1 s1 => rw [e2] at h; exact fun lb' H' c d st o z => h lb' σ H' c d (st1'.trans st) o z
      | ok d2 ρ2 s2 =>
        rw [e2, R.bind_ok] at h
        intro lb2 H2 st2 o2
        obtain ⟨lp, hp⟩ := st2.out p1 mrk_same
        rw [upd_same] at hp
        have oG := o2.gone lp n0 h0
        have wG : OwnO b.cn (unm lb2 p1) (hid H2 p1) d1 ob1 := (w1.stp (stS.trans st2)).stq (.gone lp)
        have stG : Stp lb1 H1 (unm lb2 p1) (hid H2 p1) := (stS.trans st2).goneNew np1 o1.has lp
        cases f2 with
        | false =>
          intro v2 H2' ex2 r2
          refine ⟨.ref p1, v2, rfl, fun H3 ex3 => ?_⟩
          have exs := ex2.trans ex3
          have hp3 : H3 p1 = some ob1 := exs _ _ hp
          have exG : Ext (hid H2 p1) (hid H3 p1) := exs.hid2
          obtain ⟨lb4, o4, st4⟩ := BOk.put i (oG.ext exG) hi hp3 (wG.stp (oG.stp_ext exG))
          have rb : Rep b.cn lb2 H3 d2 v2 := r2.stp ((o2.ext ex2).stp_ext ex3)
          have rc : Rep b.cn lb4 H3 d2 v2 := rb.stq ((Stq.gone lp).trans st4.q)
          have o5 := o4.setSh j rc
          exact h _ _ _ ((st1.trans (stG.trans ((oG.stp_ext exG).trans st4))).trans (.unl _ _ j)) o5
        | true =>
          intro p2 ob2 np2 w2
          refine ⟨.ref p1, .ref p2, rfl, fun H3 ex3 => ?_⟩
          have hp2 : H3 p2 = some ob2 := ex3 _ _ upd_same
          have ex23 : Ext H2 (hid H3 p2) := ((Ext.upd np2).trans ex3).hid np2
          have hp3 : hid H3 p2 p1 = some ob1 := ex23 _ _ hp
          have exG : Ext (hid H2 p1) (hid (hid H3 p2) p1) := ex23.hid2
          obtain ⟨lb4, o4, st4⟩ := BOk.put i (oG.ext exG) hi hp3 (wG.stp (oG.stp_ext exG))
          have wc : OwnO b.cn lb4 (hid H3 p2) d2 ob2 := (w2.stq (.of_ext ex23)).stq ((Stq.gone lp).trans st4.q)
          obtain ⟨lb5, o5, st5⟩ := BOk.put j o4 (hj2 _) hp2 wc
          exact h _ _ _ ((st1.trans (stG.trans ((oG.stp_ext exG).trans st4))).trans st5) o5
theorem tK_mono {f : Bool} {m : M D} {σ : L2.St} {H : Hp} {Q Q' : VK} (h : tK f b m σ H Q) (hq : ∀ v H, Q v H → Q' v H) : tK f b m σ H Q' := by
  obtain ⟨lb, ρ, s, o, p⟩ := h
  refine ⟨lb, ρ, s, o, p.mono fun d ρ s lb' H' _ _ k => ?_⟩
  cases f with
  | true => exact fun p o np w => hq _ _ (k p o np w)
  | false => exact fun v H2 ex r => hq _ _ (k v H2 ex r)
theorem tA2_mono {f1 f2 : Bool} {m1 m2 : M D} {σ : L2.St} {H : Hp} {Q Q' : List V → Hp → Prop} (h : tCons (tK f1 b m1) (tCons (tK f2 b m2) tNil) σ H Q) (hq : ∀ v w H, Q [v, w] H → Q' [v, w] H) : tCons (tK f1 b m1) (tCons (tK f2 b m2) tNil) σ H Q' :=
  tK_mono h fun v H1 z2 => tK_mono z2 fun w H2 k => hq v w H2 k
/-- x, y = a, c: two plain local names -/
theorem ds_par {f1 f2 : Bool} {i j : Nat} {x y : Str} {ea ec : Expr} {m1 m2 : M D} {px py pt pos pt2 : Pos} {kt k2 : Nat} (g : Gd n X b) (hi : X.N[i]? = some x) (hj : X.N[j]? = some y) (hij : i ≠ j)
    (hx : X.env.scope.names.lookup x = some .local) (hy : X.env.scope.names.lookup y = some .local) (ha : PE X ea (tK f1 b m1)) (hc : PE X ec (tK f2 b m2))
    (hw : swappedStores [.Tuple [.Name x px, .Name y py] kt pt] (.Tuple [ea, ec] k2 pt2) X.env = pure (some [x, y]))
    (hs : swapsWithSole [.Tuple [.Name x px, .Name y py] kt pt] (.Tuple [ea, ec] k2 pt2) pos.line X.env = pure false := by rfl)
    (h1 : starEach [ea, ec] X.env = (false, eval ea X.env) :: starEach [ec] X.env := by rfl) (h2 : starEach [ec] X.env = (false, eval ec X.env) :: starEach [] X.env := by rfl) :
    DS X b (.Assign [.Tuple [.Name x px, .Name y py] kt pt] (.Tuple [ea, ec] k2 pt2) pos) (sPar f1 f2 i j m1 m2) := by
  refine ⟨fun pins s σ H D I q => (ps_par g.calm g.nd hi hj hij hx hy (pa_cons ha (pa_cons hc pa_nil h2) h1) hw hs).run pins s σ H D I ?_⟩
  have li : i < σ.length := by rw [I.len]; exact (List.getElem?_eq_some_iff.mp hi).1
  have lj : j < σ.length := by rw [I.len]; exact (List.getElem?_eq_some_iff.mp hj).1
  exact tA2_mono (par_run hij li lj q) fun v w H1 ⟨v', w', e, k⟩ => ⟨v', w', e, k H1 .refl⟩
end
end Pk
/-! Br12: several names at once, the town, what a loop walks, a def. -/
namespace Pk
open PySem PySem.Spec PyProof.Rows L2
section
variable {X : Cx} {b : Bd} {n : Nat}
/-- x, y = a, c by a tuple (a name that a comprehension reads) -/
theorem ds_parC {f1 f2 : Bool} {i j : Nat} {x y : Str} {ea ec : Expr} {m1 m2 : M D} {px py pt pos pt2 : Pos} {kt k2 : Nat} (g : Gd n X b) (hi : X.N[i]? = some x) (hj : X.N[j]? = some y) (hij : i ≠ j)
    (hx : Loc X.env.scope x) (hy : Loc X.env.scope y) (ha : PE X ea (tK f1 b m1)) (hc : PE X ec (tK f2 b m2))
    (hw : swappedStores [.Tuple [.Name x px, .Name y py] kt pt] (.Tuple [ea, ec] k2 pt2) X.env = pure none := by rfl)
    (hs : swapsWithSole [.Tuple [.Name x px, .Name y py] kt pt] (.Tuple [ea, ec] k2 pt2) pos.line X.env = pure false := by rfl)
    (h1 : starEach [ea, ec] X.env = (false, eval ea X.env) :: starEach [ec] X.env := by rfl) (h2 : starEach [ec] X.env = (false, eval ec X.env) :: starEach [] X.env := by rfl)
    (h3 : (assignEach [.Tuple [.Name x px, .Name y py] kt pt] X.env).map (·.2) = [assign (.Tuple [.Name x px, .Name y py] kt pt) X.env] := by rfl)
    (hn : (assignEach [.Name x px, .Name y py] X.env).length = 2 := by rfl) (hst : (assignEach [.Name x px, .Name y py] X.env).findIdx? (·.1) = none := by rfl)
    (hf : X.fn x = true ∨ X.env.scope.names.lookup x = some .local := by first | exact .inl rfl | exact .inr rfl | assumption) (hf2 : X.fn y = true ∨ X.env.scope.names.lookup y = some .local := by first | exact .inl rfl | exact .inr rfl | assumption)
    (h4 : (assignEach [.Name x px, .Name y py] X.env).map (·.2) = assign (.Name x px) X.env :: (assignEach [.Name y py] X.env).map (·.2) := by rfl) (h5 : (assignEach [.Name y py] X.env).map (·.2) = assign (.Name y py) X.env :: (assignEach [] X.env).map (·.2) := by rfl) :
    DS X b (.Assign [.Tuple [.Name x px, .Name y py] kt pt] (.Tuple [ea, ec] k2 pt2) pos) (sPar f1 f2 i j m1 m2) := by
  refine ⟨fun pins s σ H D I q => (ps_asg (pe_tup (pa_cons ha (pa_cons hc pa_nil h2) h1)) (pg_tup g.calm (pgs_cons (pg_name g.nd hi hx hf) (pgs_cons (pg_name g.nd hj hy hf2) pgs_nil h5) h4) hn hst) hs hw h3).run pins s σ H D I ?_⟩
  have li : i < σ.length := by rw [I.len]; exact (List.getElem?_eq_some_iff.mp hi).1
  have lj : j < σ.length := by rw [I.len]; exact (List.getElem?_eq_some_iff.mp hj).1
  show tCons (tK f1 b m1) (tCons (tK f2 b m2) tNil) σ H fun xs H1 => xs.length ≤ sizeLine ∧ ∀ p, H1 p = none → gTup X.K 2 (gCons (gName i) (gCons (gName j) gNil)) (.ref p) σ (L2.upd H1 p (.tup xs)) D.nx
  refine tA2_mono (par_run hij li lj q) fun v w H1 ⟨v', w', e, k⟩ => ?_
  cases e
  refine ⟨by show 2 ≤ sizeLine; decide, fun p np => ⟨p, [v, w], rfl, .of upd_same, rfl, v, [w], rfl, w, [], rfl, rfl, k _ (Ext.upd np)⟩⟩
/-- x, y = e -/
theorem ds_asg {tg e : Expr} {gt : Tg} {m : M D} {pos : Pos} (hg : DG X b tg gt) (h : DE X b e m) (hs : swapsWithSole [tg] e pos.line X.env = pure false := by rfl) (hw : swappedStores [tg] e X.env = pure none := by rfl)
    (h1 : (assignEach [tg] X.env).map (·.2) = [assign tg X.env] := by rfl) : DS X b (.Assign [tg] e pos) (sAsg gt m) := PS.imp (ps_asg h hg hs hw h1) fun D σ H ⟨lb, ρ, s, o, h⟩ => by
  have h : SPost b D lb H ((m ρ s).bind fun d r s => (opt (setT r gt d) r s).bind fun r1 r s => .ok .nx r1 s) := h
  refine ⟨lb, ρ, s, o, (SPost.bind (D := D) h).mono fun d ρ1 s1 lb1 H1 st o1 q => fun v H2 ex r => ?_⟩
  cases e : setT ρ1 gt d with
  | none => rw [e] at q; exact False.elim q
  | some ρ2 =>
    rw [e] at q
    exact ⟨lb1, ρ1, s1, d, ρ2, o1.ext ex, r, e, fun lb' σ' st' o' _ => q lb' σ' H2 ((o1.stp_ext ex).trans st') o'⟩
/-! ### the town -/
theorem BOk.town0 {cn : Cn} {lb0 lb : Lb} {H0 H : Hp} {ρ : Env} {s : Sto} {σ : L2.St} {p : Addr} (o : BOk cn lb0 H0 lb ρ s σ H) (i : Nat) (np : H p = none) (ht : s.t = none) :
    ∃ lb', Stp lb H lb' (L2.upd H p (.lst [])) ∧ BOk cn lb0 H0 lb' (ρ.set i (.sh .town)) { s with t := some 0 } (σ.set i (some (.ref p))) (L2.upd H p (.lst [])) := by
  have lp : lb p = none := Has.none o.has np
  have ne : ∀ a l, lb a = some l → a ≠ p := fun a l e z => by rw [z, lp] at e; cases e
  have st : Stp lb H (mrk lb p .town) (L2.upd H p (.lst [])) :=
    { keep := fun a o e n => Ext.upd np a o e
      out := fun a e => ⟨by rw [mrk_ne (ne a _ e)]; exact e, by rw [upd_ne (ne a _ e)]⟩
      new := fun a h => by
        by_cases ha : a = p
        · rw [ha]; exact .inr np
        · rw [mrk_ne ha] at h; exact .inl h
      sto := fun a l e z => by rw [mrk_ne (ne a l e)]; exact e
      dom := fun a e => by
        cases q : H a with
        | none => exact absurd q e
        | some u => rw [Ext.upd np a u q]; simp }
  have back : ∀ a l, mrk lb p .town a = some l → l ≠ .town → lb a = some l ∧ a ≠ p := fun a l e z => by
    by_cases ha : a = p
    · rw [ha, mrk_same] at e
      exact absurd (Option.some.inj e).symm z
    · rw [mrk_ne ha] at e
      exact ⟨e, ha⟩
  have notown : ∀ a, lb a ≠ some .town := fun a e => by
    obtain ⟨m, em, _⟩ := o.sto.town a e
    rw [ht] at em; cases em
  have only : ∀ a, mrk lb p .town a = some .town → a = p := fun a e => by
    refine Classical.byContradiction fun ha => ?_
    rw [mrk_ne ha] at e
    exact notown a e
  have sto : StoOk cn (mrk lb p .town) { s with t := some 0 } (L2.upd H p (.lst [])) :=
    { town := fun a e => by
        rw [only a e]
        exact ⟨0, rfl, upd_same, Nat.zero_le _⟩
      objs := fun m fs e => by
        obtain ⟨a, dx, fv, l1, l2, h1, h2, w⟩ := o.sto.objs m fs e
        exact ⟨a, dx, fv, st.sto a _ l1 rfl, st.sto dx _ l2 rfl, by rw [upd_ne (ne a _ l1)]; exact h1, by rw [upd_ne (ne dx _ l2)]; exact h2, FldOk.stp st.q (fun a l e _ => by rw [upd_ne (ne a l e)]) w⟩
      uniq := fun a c l h1 h2 z => by
        by_cases hl : l = .town
        · subst hl
          rw [only a h1, only c h2]
        · exact o.sto.uniq a c l (back a l h1 hl).1 (back c l h2 hl).1 z
      dom := fun a m f e => o.sto.dom a m f (e.imp (fun e => (back a _ e (by intro z; cases z)).1) (Or.imp (fun e => (back a _ e (by intro z; cases z)).1) (fun e => (back a _ e (by intro z; cases z)).1)))
      tabs := fun n q e => by
        obtain ⟨h1, h2⟩ := o.sto.tabs n q e
        exact ⟨st.sto _ _ h1 rfl, h2.stq st.q (by rw [upd_ne (ne _ _ h1)])⟩
      flds := fun a m f e => o.sto.flds a m f (back a _ e (by intro z; cases z)).1
      nods := o.sto.nods }
  have o2 : BOk cn lb0 H0 (mrk lb p .town) ρ { s with t := some 0 } σ (L2.upd H p (.lst [])) := by
    refine ⟨o.since.trans st, sto, fun a l e => ?_, o.len, fun j e h => ?_, fun j e h => ?_, fun j R h => ?_⟩
    · by_cases ha : a = p
      · exact ⟨_, by rw [ha, upd_same], by exact trivial⟩
      · rw [mrk_ne ha] at e
        obtain ⟨u, q, t⟩ := o.has a l e
        exact ⟨u, by rw [upd_ne ha]; exact q, t⟩
    · obtain ⟨u, e1, q⟩ := o.sh j e h
      exact ⟨u, e1, q.stp st⟩
    · obtain ⟨a, o', e1, l, q, w⟩ := o.ow j e h
      exact ⟨a, o', e1, by rw [mrk_ne (ne a _ l)]; exact l, by rw [upd_ne (ne a _ l)]; exact q, w.stp st⟩
    · obtain ⟨a, e1, w⟩ := o.mt j R h
      exact ⟨a, e1, w.keep st.q fun x hx => ⟨by rw [mrk_ne (ne x _ hx)]; exact hx, by rw [upd_ne (ne x _ hx)]⟩⟩
  have r : Rep cn (mrk lb p .town) (L2.upd H p (.lst [])) .town (.ref p) := by simp only [Rep]; exact ⟨p, rfl, mrk_same⟩
  exact ⟨_, st.trans (.unl _ _ i), o2.setSh i r⟩
/-- town = [] -/
theorem ds_town0 {i : Nat} {x : Str} {p2 pos pos' : Pos} (g : Gd n X b) (hi : X.N[i]? = some x) (hx : Loc X.env.scope x) (hs : swapsWith (.List [] p2) (some (.Name x pos')) pos.line X.env = pure false := by rfl)
    (hf : X.fn x = true ∨ X.env.scope.names.lookup x = some .local := by first | exact .inl rfl | exact .inr rfl | assumption) : DS X b (.Assign [.Name x pos'] (.List [] p2) pos) (sTown0 i) := PS.imp (ps_set g.nd hi hx (pe_lst pa_nil) hs hf) fun D σ H ⟨lb, ρ, s, o, h⟩ => by
  have h : SPost b D lb H (sTown0 i ρ s) := h
  unfold sTown0 at h
  cases e : s.t with
  | some m => rw [e] at h; exact False.elim h
  | none =>
    rw [e] at h
    refine ⟨Nat.zero_le _, fun p np => ?_⟩
    obtain ⟨lb', st, o'⟩ := o.town0 i np e
    exact h lb' _ _ st o'
theorem BOk.townUp {cn : Cn} {lb0 lb : Lb} {H0 H : Hp} {ρ : Env} {s : Sto} {σ : L2.St} {p : Addr} {m : Nat} (o : BOk cn lb0 H0 lb ρ s σ H) (lp : lb p = some .town) (ht : s.t = some m) (hm : m < SZ) :
    BOk cn lb0 H0 lb ρ { s with t := some (m + 1) } σ (L2.upd H p (.lst (List.replicate m (.int 0) ++ [.int 0]))) ∧ Stp lb H lb (L2.upd H p (.lst (List.replicate m (.int 0) ++ [.int 0]))) := by
  have ne : ∀ x l', lb x = some l' → l' ≠ .town → x ≠ p := fun x l' e n z => by rw [z, lp] at e; exact n (Option.some.inj e).symm
  have st : Stp lb H lb (L2.upd H p (.lst (List.replicate m (.int 0) ++ [.int 0]))) :=
    { keep := fun x u h n => by rw [upd_ne (by rintro rfl; rw [lp] at n; cases n)]; exact h
      out := fun x h => ⟨h, by rw [upd_ne (ne x _ h (by intro z; cases z))]⟩
      new := fun _ h => .inl h
      sto := fun _ _ h _ => h
      dom := fun x h => by
        by_cases hx : x = p
        · rw [hx, upd_same]; simp
        · rw [upd_ne hx]; exact h }
  have sto : StoOk cn lb { s with t := some (m + 1) } (L2.upd H p (.lst (List.replicate m (.int 0) ++ [.int 0]))) :=
    { town := fun a e => by
        rw [o.sto.uniq a p _ e lp rfl]
        exact ⟨m + 1, rfl, by rw [upd_same, List.replicate_succ'], hm⟩
      objs := fun k fs e => by
        obtain ⟨a, dx, fv, l1, l2, h1, h2, w⟩ := o.sto.objs k fs e
        refine ⟨a, dx, fv, l1, l2, by rw [upd_ne (ne a _ l1 (by intro z; cases z))]; exact h1, by rw [upd_ne (ne dx _ l2 (by intro z; cases z))]; exact h2, ?_⟩
        have fl : ∀ {fs : List (Str × Pk.D)} {fv : List (Str × V)}, FldOk cn lb H k fs fv → FldOk cn lb (L2.upd H p (.lst (List.replicate m (.int 0) ++ [.int 0]))) k fs fv := by
          intro fs
          induction fs with
          | nil => intro fv h; exact h
          | cons q fs ih =>
            intro fv h
            obtain ⟨f, d⟩ := q
            obtain ⟨v, r, e, h1, h2⟩ := h
            refine ⟨v, r, e, ?_, ih h2⟩
            unfold FOk at h1 ⊢
            cases d with
            | lst l =>
              obtain ⟨q, u, e, lq, hq, w⟩ := h1
              exact ⟨q, u, e, lq, by rw [upd_ne (ne q _ lq (by intro z; cases z))]; exact hq, w.stp st⟩
            | _ => exact Rep.stp st h1
        exact fl w
      uniq := o.sto.uniq
      dom := o.sto.dom
      tabs := fun n q e => by
        obtain ⟨h1, h2⟩ := o.sto.tabs n q e
        exact ⟨h1, h2.stq st.q (by rw [upd_ne (ne _ _ h1 (by intro z; cases z))])⟩
      flds := o.sto.flds
      nods := o.sto.nods }
  refine ⟨⟨o.since.trans st, sto, fun x l' e => ?_, o.len, fun j u h => ?_, fun j u h => ?_, fun j R h => ?_⟩, st⟩
  · by_cases hx : x = p
    · exact ⟨_, by rw [hx, upd_same], by exact trivial⟩
    · obtain ⟨u, q, t⟩ := o.has x l' e
      exact ⟨u, by rw [upd_ne hx]; exact q, t⟩
  · obtain ⟨u, e1, q⟩ := o.sh j u h
    exact ⟨u, e1, q.stp st⟩
  · obtain ⟨x, u, e1, l', q, w⟩ := o.ow j u h
    exact ⟨x, u, e1, l', by rw [upd_ne (ne x _ l' (by intro z; cases z))]; exact q, w.stp st⟩
  · obtain ⟨x, e1, w⟩ := o.mt j R h
    exact ⟨x, e1, w.keep st.q fun y hy => ⟨hy, by rw [upd_ne (ne y _ hy (by intro z; cases z))]⟩⟩
/-- town.append(0) -/
theorem ds_town {x : Expr} {i j : Nat} {p2 apos cpos pos : Pos} (hx : PE X x (tVar i)) (hbase : attributeBase x "append" X.env (eval x X.env) = eval x X.env := by rfl)
    (hfew : ((backTo cpos (starEach [.Constant (.int 0) j p2] X.env)).all (fun x => !x.1) && (backToKw cpos (keywordEach [] X.env)).all (fun x => x.1.isSome) && decide ([Expr.Constant (.int 0) j p2].length + ([] : List Keyword).length + (if ([] : List Keyword).isEmpty then 0 else 1) < 30)) = true := by rfl)
    (hline : (apos.endLine == cpos.line) = true := by rfl) (hsw : swapsWith (.Call (.Attribute x "append" apos) [.Constant (.int 0) j p2] [] cpos) none pos.line X.env = pure false := by rfl) :
    DS X b (.Expr (.Call (.Attribute x "append" apos) [.Constant (.int 0) j p2] [] cpos) pos) (sTown i) := by
  refine PS.imp (ps_expr (pe_bm PySem.F.plainAttrs_list PySem.F.slot_list_append PySem.F.type_list_append mt_append hx (pa_cons pe_int pa_nil) hbase hfew hline rfl rfl) hsw) fun D σ H ⟨lb, ρ, s, o, p⟩ => ?_
  have p : SPost b D lb H (sTown i ρ s) := p
  unfold sTown at p
  cases q : ρ[i]? with
  | none => rw [q] at p; exact False.elim p
  | some z =>
    cases z with
    | sh d =>
      cases d with
      | town =>
        simp only [q] at p
        cases e : s.t with
        | none => rw [e] at p; exact False.elim p
        | some m =>
          simp only [e] at p
          split at p
          · rename_i hz
            have hz := of_lim hz
            obtain ⟨v, e1, r⟩ := o.sh i _ q
            simp only [Rep] at r
            obtain ⟨a, rfl, la⟩ := r
            obtain ⟨m', em, ha, _⟩ := o.sto.town a la
            rw [e] at em
            cases em
            obtain ⟨o', st⟩ := o.townUp la e hz
            exact ⟨.ref a, e1, .inl ⟨rfl, _, .of ha⟩, a, _, .int 0, rfl, rfl, ha, by rw [List.length_replicate, ← SZ_eq]; exact hz, p lb σ _ st o'⟩
          · exact False.elim p
      | _ => simp only [q] at p; exact False.elim p
    | _ => simp only [q] at p; exact False.elim p
end
end Pk
/-! Br13: what a loop walks; a def. -/
namespace Pk
open PySem PySem.Spec PyProof.Rows L2
theorem PI.imp {X : Cx} {tg e : Expr} {t t' : TI} (h : PI X tg e t) (f : ∀ σ H R, t' σ H R → t σ H R) : PI X tg e t' := ⟨fun pins s σ H R I q => h.run pins s σ H R I (f σ H R q)⟩
section
variable {X : Cx} {b : Bd} {n : Nat} {tg : Expr}
/-- a list, a tuple, a text: by the value that comes -/
def iAny (K : PySem.W.Frag) (tl : TE) : TI := fun σ H R => tl σ H fun x H1 =>
  (∃ a, x = .ref a ∧ (∃ xs, SqL K H1 a xs) ∧ R (Itl K a) H1) ∨ (∃ a, x = .ref a ∧ (∃ xs, SqT K H1 a xs) ∧ R (Itt K a) H1) ∨ ∃ y, x = .str y ∧ R (Its y) H1
theorem pi_any {l : Expr} {tl : TE} (hl : PE X l tl) : PI X tg l (iAny X.K tl) := by
  refine ⟨fun pins s σ H R I h => thn (hl.run pins s σ H _ I h) fun v s1 z => ?_⟩
  obtain ⟨x, H1, I1, r1, q1⟩ := z
  have own : ∀ c : Addr, c ∈ [s1.heap.objs.size] → FpOk X pins H1 c := fun c hc => by
    rw [List.mem_singleton.mp hc]
    exact I1.fpOk (Nat.le_refl _) (I1.hok.fresh (Nat.le_refl _))
  rcases q1 with ⟨a, rfl, ⟨xs, hq⟩, q⟩ | ⟨a, rfl, ⟨xs, hq⟩, q⟩ | ⟨y, rfl, q⟩
  · cases r1
    obtain ⟨its, _, p, _⟩ := I1.list hq
    exact wpAny_pyIter_list p.isList ⟨_, _, _, _, H1, rfl, I1.kept (t' := s1.toks) fun c o e => Heap.get?_push_of_some _ e, turn_list a _, ⟨_, Heap.get?_push_size _ rfl, rfl, rfl⟩, own, q⟩
  · cases r1
    obtain ⟨its, _, p, _⟩ := I1.tuple hq
    exact wpAny_pyIter_tuple (show s1.heap.IsTuple a its.toArray from p) ⟨_, _, _, _, H1, rfl, I1.kept (t' := s1.toks) fun c o e => Heap.get?_push_of_some _ e, turn_tuple a _, ⟨_, Heap.get?_push_size _ rfl, rfl, rfl⟩, own, q⟩
  · obtain ⟨t, rfl⟩ := r1
    cases ha : y.cps.all (· < 128)
    · exact wpAny_pyIter_wide ha ⟨_, _, _, _, H1, rfl, I1.kept (t' := s1.toks) fun c o e => Heap.get?_push_of_some _ e, turn_str _ y t "str_iterator" (.inr rfl), ⟨_, Heap.get?_push_size _ rfl, rfl, rfl⟩, own, q⟩
    · exact wpAny_pyIter_ascii ha ⟨_, _, _, _, H1, rfl, I1.kept (t' := s1.toks) fun c o e => Heap.get?_push_of_some _ e, turn_str _ y t "str_ascii_iterator" (.inl rfl), ⟨_, Heap.get?_push_size _ rfl, rfl, rfl⟩, own, q⟩
theorem itOk_l {cn : Cn} {lb : Lb} {H : Hp} {K : PySem.W.Frag} {a : Addr} {l : List D} {vs : List V} (nl : NL lb H a vs) (r : RepL cn lb H l vs) : ItOk cn lb H l (Itl K a) := fun lb' H' s => by
  have nl' := nl.stq s
  have r' := r.stq s
  refine ⟨⟨vs, .of nl'.2, by rw [r.length]; exact Nat.le_refl _⟩, fun i d h => ?_⟩
  obtain ⟨v, e, rv⟩ := r'.get h
  refine ⟨⟨vs, v, .of nl'.2, e⟩, fun x H2 y => ?_⟩
  obtain ⟨rfl, y⟩ := y
  have := y vs (.of nl'.2)
  rw [e] at this
  cases this
  exact ⟨.refl, fun _ => rv⟩
theorem itOk_t {cn : Cn} {lb : Lb} {H : Hp} {K : PySem.W.Frag} {a : Addr} {l : List D} {vs : List V} (nl : NT lb H a vs) (r : RepL cn lb H l vs) : ItOk cn lb H l (Itt K a) := fun lb' H' s => by
  have nl' := nl.stq s
  have r' := r.stq s
  refine ⟨⟨vs, .of nl'.2, by rw [r.length]; exact Nat.le_refl _⟩, fun i d h => ?_⟩
  obtain ⟨v, e, rv⟩ := r'.get h
  refine ⟨⟨vs, v, .of nl'.2, e⟩, fun x H2 y => ?_⟩
  obtain ⟨rfl, y⟩ := y
  have := y vs (.of nl'.2)
  rw [e] at this
  cases this
  exact ⟨.refl, fun _ => rv⟩
theorem itOk_s {cn : Cn} {lb : Lb} {H : Hp} (x : Str) : ItOk cn lb H (x.cps.toList.map fun c => .str ⟨#[c]⟩) (Its x) := fun lb' H' s => by
  refine ⟨by show x.cps.size ≤ _; rw [List.length_map]; exact Nat.le_refl _, fun i d h => ?_⟩
  rw [List.getElem?_map] at h
  cases e : x.cps.toList[i]? with
  | none => rw [e] at h; cases h
  | some c =>
    rw [e] at h
    cases h
    have hi : i < x.cps.size := (List.getElem?_eq_some_iff.mp e).1
    refine ⟨hi, fun y H2 z => ?_⟩
    obtain ⟨rfl, c', e2, rfl⟩ := z
    have : c' = c := by
      rw [Array.getElem?_toList] at e
      rw [e] at e2
      exact (Option.some.inj e2).symm
    subst this
    exact ⟨.refl, fun _ => by simp only [Rep]⟩
theorem di_any {l : Expr} {m : M D} (g : Gd n X b) (h : DE X b l m) : DI X b tg l (iOf m) := by
  refine PI.imp (pi_any h) fun σ H R ⟨lb, ρ, s, o, h⟩ => ⟨lb, ρ, s, o, (Post.bind h).mono fun d ρ1 s1 lb1 H1 st o1 q => fun v H2 ex r => ?_⟩
  have o2 := o1.ext ex
  obtain ⟨ds, e1, k⟩ := opt_post o2 (Post.from q (o1.stp_ext ex))
  cases d with
  | lst l =>
    cases e1
    simp only [Rep] at r
    obtain ⟨a, vs, rfl, nl, z, rl⟩ := r
    exact .inl ⟨a, rfl, ⟨vs, .of nl.2⟩, k z _ H2 .refl (itOk_l nl rl)⟩
  | tup l =>
    cases e1
    simp only [Rep] at r
    obtain ⟨a, vs, rfl, nl, z, rl⟩ := r
    exact .inr (.inl ⟨a, rfl, ⟨vs, .of nl.2⟩, k z _ H2 .refl (itOk_t nl rl)⟩)
  | str y =>
    simp only [itemsOf] at e1
    split at e1
    · rename_i hz
      cases e1
      simp only [Rep] at r
      subst r
      exact .inr (.inr ⟨y, rfl, k (by simpa using of_lim hz) _ H2 .refl (itOk_s y)⟩)
    · cases e1
  | _ => cases e1
theorem itOk_r {cn : Cn} {lb : Lb} {H : Hp} (lo : Int) (m : Nat) : ItOk cn lb H (upto lo m) (Itr lo m) := fun lb' H' s => by
  unfold upto
  refine ⟨by show m ≤ _; rw [List.length_map, List.length_range]; exact Nat.le_refl _, fun i d h => ?_⟩
  rw [List.getElem?_map] at h
  cases e : (List.range m)[i]? with
  | none => rw [e] at h; cases h
  | some c =>
    rw [e] at h
    cases h
    obtain ⟨hi, e2⟩ := List.getElem?_eq_some_iff.mp e
    rw [List.length_range] at hi
    rw [List.getElem_range] at e2
    subst e2
    refine ⟨hi, fun y H2 z => ?_⟩
    obtain ⟨rfl, rfl⟩ := z
    exact ⟨.refl, fun _ => by simp only [Rep]⟩
theorem di_range1 {e : Expr} {m : M D} {p pos : Pos} (hg : Gl X "range") (hm : X.mg "range" = none) (h : DE X b e m) (hs : starEach [e] X.env = [(false, eval e X.env)] := by rfl) : DI X b tg (.Call (.Name "range" p) [e] [] pos) (iRange1 m) := by
  refine PI.imp (pi_range1 hg hm (pa_cons h pa_nil hs) hs) fun σ H R ⟨lb, ρ, s, o, h⟩ => ⟨lb, ρ, s, o, (Post.bind h).mono fun d ρ1 s1 lb1 H1 st o1 q => fun v H2 ex r => ?_⟩
  have o2 := o1.ext ex
  have q := Post.from q (o1.stp_ext ex)
  cases d with
  | int j =>
    simp only [Rep] at r
    subst r
    simp only at q
    split at q
    · rename_i hj
      simp only [small, Bool.and_eq_true, lim_iff] at hj
      refine ⟨j, rfl, hj.1.1, hj.1.2, q lb1 H2 .refl o2 ?_ _ H2 .refl (itOk_r 0 j.toNat)⟩
      simp only [upto, List.length_map, List.length_range]
      omega
    · exact False.elim q
  | _ => exact False.elim q
theorem di_range2 {e f : Expr} {m k : M D} {p pos : Pos} (hg : Gl X "range") (hm : X.mg "range" = none) (h : DE X b e m) (h2 : DE X b f k) (hs : starEach [e, f] X.env = [(false, eval e X.env), (false, eval f X.env)] := by rfl) (hs2 : starEach [f] X.env = [(false, eval f X.env)] := by rfl) :
    DI X b tg (.Call (.Name "range" p) [e, f] [] pos) (iRange2 m k) := by
  refine PI.imp (pi_range2 hg hm (pa_cons h (pa_cons h2 pa_nil hs2) (by rw [hs, hs2])) hs hs2) fun σ H R ⟨lb, ρ, s, o, h⟩ => ⟨lb, ρ, s, o, (Post.bind h).mono fun d ρ1 s1 lb1 H1 st o1 q => fun v H2 ex r => ?_⟩
  refine ⟨lb1, ρ1, s1, o1.ext ex, (Post.bind (Post.from q (o1.stp_ext ex))).mono fun d2 ρ3 s3 lb3 H3 st3 o3 q3 => fun v3 H4 ex4 r4 => ?_⟩
  have o4 := o3.ext ex4
  have q := Post.from q3 (o3.stp_ext ex4)
  cases d with
  | int i =>
    cases d2 with
    | int j =>
      simp only [Rep] at r r4
      subst r r4
      simp only at q
      split at q
      · rename_i hj
        simp only [small, Bool.and_eq_true, lim_iff] at hj
        refine ⟨i, j, rfl, ⟨hj.1.1.1, hj.1.1.2, hj.1.2.1, hj.1.2.2⟩, q lb3 H4 .refl o4 ?_ _ H4 .refl (itOk_r i (j - i).toNat)⟩
        simp only [upto, List.length_map, List.length_range]
        omega
      · exact False.elim q
    | _ => exact False.elim q
  | _ => exact False.elim q
theorem tup2_new {cn : Cn} {lb : Lb} {H : Hp} {T : Addr} {d e : D} {x y : V} (hs : Has lb H) (nT : H T = none) (r1 : Rep cn lb H d x) (r2 : Rep cn lb H e y) : Rep cn lb (L2.upd H T (.tup [x, y])) (.tup [d, e]) (.ref T) := by
  have st : Stq lb H lb (L2.upd H T (.tup [x, y])) := .of_ext (Ext.upd nT)
  simp only [Rep]
  exact ⟨T, [x, y], rfl, ⟨hs.none nT, upd_same⟩, by show 2 ≤ SZ; decide, .cons (r1.stq st) (.one (r2.stq st))⟩
theorem itOk_e {cn : Cn} {lb : Lb} {H : Hp} {K : PySem.W.Frag} {a : Addr} {l : List D} {vs : List V} (nl : NL lb H a vs) (r : RepL cn lb H l vs) : ItOk cn lb H (numbered l) (Ite K a) := fun lb' H' s => by
  have nl' := nl.stq s
  have r' := r.stq s
  refine ⟨⟨vs, .of nl'.2, by rw [← r.length]; simp [numbered]⟩, fun i d h => ?_⟩
  simp only [numbered, List.getElem?_map] at h
  cases e : (List.range l.length)[i]? with
  | none => rw [e] at h; cases h
  | some c =>
    rw [e] at h
    obtain ⟨hi, e2⟩ := List.getElem?_eq_some_iff.mp e
    rw [List.length_range] at hi
    rw [List.getElem_range] at e2
    subst e2
    have hd : l[i]? = some l[i] := List.getElem?_eq_getElem hi
    obtain ⟨v, ev, rv⟩ := r'.get hd
    have h : D.tup [.int (i : Int), l.getD i .none] = d := Option.some.inj h
    rw [List.getD_eq_getElem?_getD, hd] at h
    subst h
    refine ⟨⟨vs, v, .of nl'.2, ev⟩, fun x H2 y => ?_⟩
    obtain ⟨T, x', rfl, nT, rfl, y⟩ := y
    have := y vs (.of nl'.2)
    rw [ev] at this
    cases this
    exact ⟨Ext.upd nT, fun hs => tup2_new hs nT (by simp only [Rep]) rv⟩
theorem di_enumL {e : Expr} {m : M D} {elts : List Expr} {kk : Nat} {p pos tpos : Pos} (hg : Gl X "enumerate") (hm : X.mg "enumerate" = none) (h : DE X b e m) (hs : starEach [e] X.env = [(false, eval e X.env)] := by rfl) :
    DI X b (.Tuple elts kk tpos) (.Call (.Name "enumerate" p) [e] [] pos) (iEnumL m) := by
  refine PI.imp (pi_enum hg hm (pa_cons h pa_nil hs) hs) fun σ H R ⟨lb, ρ, s, o, h⟩ => ⟨lb, ρ, s, o, (Post.bind h).mono fun d ρ1 s1 lb1 H1 st o1 q => fun v H2 ex r => ?_⟩
  have o2 := o1.ext ex
  have q := Post.from q (o1.stp_ext ex)
  cases d with
  | lst l =>
    simp only [Rep] at r
    obtain ⟨a, vs, rfl, nl, z, rl⟩ := r
    exact ⟨a, vs, rfl, .of nl.2, q lb1 H2 .refl o2 (by simpa [numbered] using z) _ H2 .refl (itOk_e nl rl)⟩
  | _ => exact False.elim q

/-! ### a def -/
/-- no frame's own marks at the end -/
def dl (lb : Lb) : Lb := fun a => match lb a with
  | some (.loc _) => none
  | x => x
theorem dl_loc {lb : Lb} {a : Addr} {i : Nat} (h : lb a = some (.loc i)) : dl lb a = none := by unfold dl; rw [h]
theorem dl_ne {lb : Lb} {a : Addr} (h : ∀ i, lb a ≠ some (.loc i)) : dl lb a = lb a := by
  unfold dl
  cases q : lb a with
  | none => rfl
  | some l =>
    cases l with
    | loc i => exact absurd q (h i)
    | _ => rfl
theorem of_dl {lb : Lb} {a : Addr} {l : Lab} (h : dl lb a = some l) : lb a = some l ∧ l.isLoc = false := by
  rcases unrel_case lb a with ⟨i, q⟩ | q
  · rw [dl_loc q] at h; cases h
  · rw [dl_ne q] at h
    refine ⟨h, ?_⟩
    cases l with
    | loc i => exact absurd h (q i)
    | _ => rfl
theorem Stp.dl (lb : Lb) (H : Hp) : Stp lb H (dl lb) H where
  keep := fun _ _ h _ => h
  out := fun a h => ⟨by rw [dl_ne (by rintro i e; rw [h] at e; cases e)]; exact h, rfl⟩
  new := fun a h => by
    cases q : Pk.dl lb a with
    | none => exact absurd q h
    | some l => exact .inl (by rw [(of_dl q).1]; simp)
  sto := fun a l h i => by rw [dl_ne (by rintro j e; rw [h] at e; cases e; cases i)]; exact h
  dom := fun _ h => h
theorem BOk.leave {cn : Cn} {lb0 lb : Lb} {H0 H : Hp} {ρ : Env} {s : Sto} {σ : L2.St} (o : BOk cn lb0 H0 lb ρ s σ H) : EOk cn (dl lb) s H :=
  ⟨o.sto.stp (Stp.dl lb H).q (fun _ _ _ _ => rfl) (fun _ _ e _ => (of_dl e).1), fun a l e => o.has a l (of_dl e).1, fun a l e => (of_dl e).2⟩
theorem startL_get {k : Nat} {ds : List D} {i : Nat} {z : Sl} (h : (startL k ds)[i]? = some z) : (∃ d, ds[i]? = some d ∧ z = .sh d) ∨ z = .no := by
  unfold startL at h
  by_cases hi : i < ds.length
  · rw [List.getElem?_append_left (by simpa using hi), List.getElem?_map, List.getElem?_eq_getElem hi] at h
    cases h
    exact .inl ⟨_, List.getElem?_eq_getElem hi, rfl⟩
  · rw [List.getElem?_append_right (by simpa using hi), List.getElem?_replicate] at h
    split at h
    · cases h; exact .inr rfl
    · cases h
theorem EOk.start {cn : Cn} {lb : Lb} {H : Hp} {s : Sto} {ds : List D} {vs : List V} {N : List Str} (e : EOk cn lb s H) (r : RepL cn lb H ds vs) (hl : vs.length ≤ N.length) : BOk cn lb H lb (startL N.length ds) s (L2.start N vs) H := by
  refine ⟨.refl, e.sto, e.has, ?_, fun i d h => ?_, fun i d h => ?_, fun i R h => ?_⟩
  · have := r.length
    simp only [startL, L2.start, List.length_append, List.length_map, List.length_replicate]
    omega
  · rcases startL_get h with ⟨d', e1, e2⟩ | e2
    · cases e2
      obtain ⟨v, e3, rv⟩ := r.get e1
      refine ⟨v, ?_, rv⟩
      have hi : i < vs.length := (List.getElem?_eq_some_iff.mp e3).1
      unfold L2.start
      rw [List.getElem?_append_left (by simpa using hi), List.getElem?_map, e3]
      rfl
    · cases e2
  · rcases startL_get h with ⟨d', e1, e2⟩ | e2 <;> cases e2
  · rcases startL_get h with ⟨d', e1, e2⟩ | e2 <;> cases e2
theorem fn_ok {P : Program} {w : World} {mg : Str → Option Value} {base : Heap} {x qual : Str} {params : Arguments} {body : List Stmt} {scope : Scope} {dvs : List V} {kws : List (Str × V)} {f : Addr} {fd : FuncData} {N ps : List Str} {k : Nat} {cn : Cn} {m : S}
    (F : FunD cn.K x qual params body scope dvs kws f fd) (S : FnScope N ps scope)
    (hb : ∀ (cdv : Value) (A : Around) (outer : List PySem.Env) (s : Shared) (H : Hp) (E : XK) (c : Bd), c.cn = cn → Gd k (cxOf (L2.CX P w) P w cn.K mg base N qual scope f cdv A outer s H E) c → DSs (cxOf (L2.CX P w) P w cn.K mg base N qual scope f cdv A outer s H E) c body m) :
    FnOk P w cn.K mg base (L2.CX P w) (k + 1) f fd ps (spOf cn (fnOf ps.length N.length m)) := by
  have hpl : ps.length ≤ N.length := by have := congrArg List.length S.pre; rw [List.length_take] at this; omega
  refine F.ok S (fun vs H Q E h => ?_) fun cdv A outer s H vs Q E hr h => ?_
  · obtain ⟨lb, st, ds, eo, r, h⟩ := h
    unfold fnOf at h
    by_cases hl : ds.length = ps.length
    · rw [← r.length]; exact hl
    · rw [if_neg hl] at h; exact False.elim h
  · obtain ⟨lb, st, ds, eo, r, h⟩ := h
    unfold fnOf at h
    by_cases hl : ds.length = ps.length
    · rw [if_pos hl] at h
      let c : Bd := ⟨cn, lb, H, fun cls dx _ H' => E cls dx H'⟩
      have tk : Takes (cxOf (L2.CX P w) P w cn.K mg base N qual scope f cdv A outer s H E) c.W := takes_of rfl rfl rfl rfl
      have g : Gd k (cxOf (L2.CX P w) P w cn.K mg base N qual scope f cdv A outer s H E) c := ⟨rfl, rfl, S.nd, tk, hr, passes_of rfl⟩
      refine ⟨_, hb cdv A outer s H E c rfl g, lb, startL N.length ds, st, eo.start r (by rw [← r.length, hl]; exact hpl), ?_⟩
      cases e : m (startL N.length ds) st with
      | bad => rw [e] at h; exact h
      | exc z ρ1 s1 =>
        rw [e] at h
        exact fun lb' σ' H' cls dx st' o' xr => h (dl lb') H' cls dx (st'.trans (.dl _ _)) o'.leave (xr.stp (.dl _ _))
      | ok fl ρ1 s1 =>
        rw [e] at h
        cases fl with
        | nx => exact fun lb' σ' H' st' o' => h (dl lb') H' .non (st'.trans (.dl _ _)) o'.leave (by simp only [Rep])
        | rt d => exact fun lb' σ' H' st' o' v rv => h (dl lb') H' v (st'.trans (.dl _ _)) o'.leave (rv.stp (.dl _ _))
        | bk => exact False.elim h
        | ct => exact False.elim h
    · rw [if_neg hl] at h; exact False.elim h
end
end Pk
/-! Br14: short forms for the printed derivations. -/
namespace Pk
open PySem PySem.Spec PyProof.Rows L2
/-- a def of the text that keeps its promise: dv the defaults that fill up -/
def FnG (cn : Cn) (P : Program) (w : World) (mg : Str → Option Value) (base : Heap) (k : Nat) (x : Str) (F : Fn) (dv : List D) : Prop :=
  ∃ (f : Addr) (fd : FuncData) (ps : List Str) (dsv : List Value) (dvs : List V), FnOk P w cn.K mg base (L2.CX P w) k f fd ps (spOf cn F) ∧ mg x = some (.ref f) ∧ PySem.W.keepIn cn.K (.ref f) = true ∧ Binds cn.K fd ps dsv ∧ Vals dvs dsv ∧ ∀ lb H, RepL cn lb H dv dvs
theorem fn_okF {P : Program} {w : World} {mg : Str → Option Value} {base : Heap} {x qual : Str} {params : Arguments} {body : List Stmt} {scope : Scope} {dvs : List V} {kws : List (Str × V)} {f : Addr} {fd : FuncData} {N ps : List Str} {k p q : Nat} {cn : Cn} {m : S} {Fp : Fn}
    (F : FunD cn.K x qual params body scope dvs kws f fd) (S : FnScope N ps scope) (hp : ps.length = p) (hq : N.length = q) (hF : Fp = fnOf p q m)
    (hb : ∀ (cdv : Value) (A : Around) (outer : List PySem.Env) (s : Shared) (H : Hp) (E : XK) (c : Bd), c.cn = cn → Gd k (cxOf (L2.CX P w) P w cn.K mg base N qual scope f cdv A outer s H E) c → DSs (cxOf (L2.CX P w) P w cn.K mg base N qual scope f cdv A outer s H E) c body m) :
    FnOk P w cn.K mg base (L2.CX P w) (k + 1) f fd ps (spOf cn Fp) := by
  subst hF hp hq
  exact fn_ok F S hb
section
variable {X : Cx} {b : Bd} {n : Nat}
theorem do_v {e : Expr} {m : M D} (h : DE X b e m) : DO X b e (.v m) := h
theorem tK_f {m : M D} {σ : L2.St} {H : Hp} {Q : VK} (h : tK false b m σ H Q) : tK true b m σ H Q := by
  obtain ⟨lb, ρ, s, o, p⟩ := h
  exact ⟨lb, ρ, s, o, p.mono fun d ρ s lb' H' _ o' q => Kt.kf o'.has q⟩
theorem de_callG {k : Nat} {F : Fn} {dv : List D} {x : Str} {p pos : Pos} {e : Expr} {es : List Expr} {ms : List (M D)} {P : Program} {w : World} {mg : Str → Option Value} {base : Heap} (g : Gd n X b) (G : FnG b.cn P w mg base k x F dv) (hk : k ≤ n) (hP : X.prog = P) (hw : X.w = w) (hm : X.mg = mg) (hb : X.base = base)
    (hg : Gl X x) (ha : DA X b (e :: es) ms) (hdb : (x == ("__debug__" : Str)) = false := by decide) (he : starEach (e :: es) X.env = (false, eval e X.env) :: starEach es X.env := by rfl) (hpl : (backTo pos (starEach es X.env)).any (·.1) = false := by rfl) :
    DE X b (.Call (.Name x p) (e :: es) [] pos) (eCall F ms dv) := by
  subst hP hw hm hb
  obtain ⟨f, fd, ps, dsv, dvs, F1, F2, F3, F4, F5, F6⟩ := G
  rw [g.kk] at F1 F3 F4
  exact de_call g F1 hk hg F2 F3 F4 F5 F6 ha hdb he hpl
theorem de_gi {x : Str} {i : Int} {pos : Pos} {mg : Str → Option Value} (hm : X.mg = mg) (hg : Gl X x) (h : ∃ t, mg x = some (.int i t)) (hd : (x == ("__debug__" : Str)) = false := by decide) : DE X b (.Name x pos) (eC (.int i)) := by
  subst hm
  obtain ⟨t, h⟩ := h
  exact de_c (pe_glob hg h (v := .int i) ⟨t, rfl⟩ hd) fun _ _ => by simp only [Rep]
/-- name = [..] on one line -/
theorem ds_setLc {f : Bool} {i : Nat} {y : Str} {py : Pos} {elt tg iter : Expr} {ifs : List Expr} {scope : Scope} {own : List (Str × Nat)} {pos spos : Pos} {it : It} {gt : Tg} {c e : M D} (g : Gd n X b) (hy : X.N[i]? = some y) (hyl : X.env.scope.names.lookup y = some .local)
    (hi : DI X b tg iter it) (ok : BlkOk X.N X.env.scope scope own)
    (hg : ∀ (s : Shared) (H : Hp) (C : Addr) (cl : List (Str × Addr)) (fp : List Addr), Gd n (X.blk s H scope (compEnvC scope cl C X.env) fp) b.in → DG (X.blk s H scope (compEnvC scope cl C X.env) fp) b.in tg gt)
    (ht : ∀ (s : Shared) (H : Hp) (C : Addr) (cl : List (Str × Addr)) (fp : List Addr), Gd n (X.blk s H scope (compEnvC scope cl C X.env) fp) b.in → DTs (X.blk s H scope (compEnvC scope cl C X.env) fp) b.in ifs c)
    (he : ∀ (s : Shared) (H : Hp) (C : Addr) (cl : List (Str × Addr)) (fp : List Addr), Gd n (X.blk s H scope (compEnvC scope cl C X.env) fp) b.in → DE (X.blk s H scope (compEnvC scope cl C X.env) fp) b.in elt e)
    (hsw : swapsWith (.ListComp elt [⟨tg, iter, ifs, 0⟩] scope pos) (some (.Name y py)) spos.line X.env = pure true)
    (hsl : ∀ i ∈ gt.slots, i ∈ own.map (·.2) := by decide) (hs : ∀ x, foldedSetIterable iter X.env x = pure x := by intro _; rfl) :
    DS X b (.Assign [.Name y py] (.ListComp elt [⟨tg, iter, ifs, 0⟩] scope pos) spos) (sSet f i (eComp it gt (own.map (·.2)) c e)) := by
  refine ⟨fun pins s σ H D I q => (ps_setLc g.calm g.nd hy hyl hsw hi ok (fun s H C cl fp => hg s H C cl fp (g.blk ..)) (fun s H C cl fp => ht s H C cl fp (g.blk ..)) (fun s H C cl fp => he s H C cl fp (g.blk ..)) hs).run pins s σ H D I ?_⟩
  refine comp_run hsl (Q := fun x H1 => gName i x σ H1 D.nx) ?_
  cases f with
  | true => exact setF_run (by rw [I.len]; exact (List.getElem?_eq_some_iff.mp hy).1) q
  | false => exact tK_f (set_run q)
end
end Pk
/-! Br15: more built-ins. -/
namespace Pk
open PySem PySem.Spec PyProof.Rows L2
section
variable {X : Cx} {b : Bd} {n : Nat} {cn : Cn}
theorem Gd.all (g : Gd n X b) : CallR X (.builtin "all") (rAll b.cn.K) := by rw [g.kk]; exact cr_all g.calm
theorem Gd.any (g : Gd n X b) : CallR X (.builtin "any") (rAny b.cn.K) := by rw [g.kk]; exact cr_any g.calm
theorem Gd.sum (g : Gd n X b) : CallR X (.builtin "sum") (rSum b.cn.K) := by rw [g.kk]; exact cr_sum g.calm
abbrev rTupOf (K : PySem.W.Frag) : List V → Hp → VK → Prop := fun xs H Q => ∃ p ys, xs = [.ref p] ∧ ((SqL K H p ys ∧ ∀ l, H l = none → Q (.ref l) (L2.upd H l (.tup ys))) ∨ (SqT K H p ys ∧ Q (.ref p) H))
abbrev rLstOf (K : PySem.W.Frag) : List V → Hp → VK → Prop := fun xs H Q => ∃ p ys, xs = [.ref p] ∧ (SqL K H p ys ∨ SqT K H p ys) ∧ ∀ l, H l = none → Q (.ref l) (L2.upd H l (.lst ys))
theorem Gd.tuple (g : Gd n X b) : CallR X (.type "tuple") (rTupOf b.cn.K) := by rw [g.kk]; exact call_tuple_of
theorem Gd.list (g : Gd n X b) : CallR X (.type "list") (rLstOf b.cn.K) := by rw [g.kk]; exact call_list_of
theorem p1_tuple : P1 false cn (fun x H Q => rTupOf cn.K [x] H Q) pTup := by
  intro lb H x d e Q hs r h k
  cases d with
  | lst l =>
    cases h
    obtain ⟨a, vs, rfl, e1, z, rl⟩ := r.lst
    exact ⟨a, vs, rfl, .inl ⟨.of e1, fun p np => KV.tup k hs np rl z⟩⟩
  | tup l =>
    cases h
    have r' := r.flat (fun _ e => nomatch e) (fun _ _ e => nomatch e)
    obtain ⟨a, vs, rfl, e1, z, rl⟩ := r.tup
    exact ⟨a, vs, rfl, .inr ⟨.of e1, KV.now k r'⟩⟩
  | _ => cases h
end
end Pk
/-! Br16: the law's def at its entry. -/
namespace Pk
open PySem PySem.Spec PyProof.Rows L2
theorem eok_empty {cn : Cn} {H : Hp} (ht : cn.tb = []) : EOk cn (fun _ => none) ⟨none, []⟩ H where
  sto := ⟨fun a e => (by cases e), fun n fs e => (by simp at e), fun a b l e => (by cases e), fun a n f e => (by rcases e with e | e | e <;> cases e), fun n p e => (by rw [ht] at e; simp at e), fun a n f e => (by cases e), fun n fs e => (by simp at e)⟩
  has := fun a l e => by cases e
  nl := fun a l e => by cases e
theorem sp_law {cn : Cn} {F : Fn} {n : Nat} (ht : cn.tb = []) (hn : n ≤ SZ) (hF : ∀ ns : List Int, ns.length ≤ n → ∃ s', F [.scr ns] ⟨none, []⟩ = .ok (.bool true) s') (H : Hp) (a : Addr) (ns : List Int) (hl : ns.length ≤ n) (hS : SqL cn.K H a (ns.map V.int)) :
    spOf cn F [.ref a] H (fun v _ => v = .bl true) fun _ _ _ => False := by
  obtain ⟨s', e⟩ := hF ns hl
  refine ⟨fun _ => none, ⟨none, []⟩, [.scr ns], eok_empty ht, ?_, ?_⟩
  · refine ⟨_, _, rfl, ?_, rfl⟩
    simp only [Rep]
    exact ⟨a, rfl, hS.elim (fun x => .inl ⟨rfl, x⟩) .inr, Nat.le_trans hl hn⟩
  · rw [e]
    intro lb' H' v st eo r
    simpa only [Rep] using r
/-- a def without defaults, by what the head told -/
theorem fnG_of {cn : Cn} {P : Program} {w : World} {mg : Str → Option Value} {base : Heap} {k : Nat} {x y qual : Str} {params : Arguments} {body : List Stmt} {scope : Scope} {kws : List (Str × V)} {f : Addr} {fd : FuncData} {ps : List Str} {Fp : Fn}
    (F : FunD cn.K y qual params body scope [] kws f fd) (ok : FnOk P w cn.K mg base (L2.CX P w) k f fd ps (spOf cn Fp)) (g : mg x = some (.ref f))
    (h : ∀ (kV doc pm : Value) (an : Option Addr) (cdv ct : Value) (us : List Value), us.length = ps.length → bindArgs (PySem.W.fnOf y qual params body scope .none kV doc pm an cdv ct) ⟨us, []⟩ = pure (ps.zip us)) :
    FnG cn P w mg base k x Fp [] :=
  ⟨f, fd, ps, [], [], ok, g, F.kp, F.bindsN h, .nil, fun _ _ => rfl⟩
/-- the end of a law -/
theorem law_end {l : PySem.W.OpenLaw} {n k : Nat} {q : Program} {loose : List Str} {XP : (Str → Option Value) → Heap → Prop} {YP : World → Heap → Prop} {d : DefRec} {x : Str} {Fp : Fn}
    (hn : l.most = some n) (hn2 : n ≤ SZ) (hdf : d.params.defaults = []) (hr : Room k callerA)
    (F : ∀ (w : World) (mg : Str → Option Value) (fa : Addr) (h : Heap), YP w h → h.Ns mainGlobals mg → mg d.name = some (.ref fa) →
      ∃ (cn : Cn) (fd : FuncData), cn.tb = [] ∧ cn.K.In h ∧ (∀ (s : Shared) (u : Value), BindsTo s fd ⟨[u], []⟩ [(x, u)]) ∧ ∀ base : Heap, FnOk l.prog w cn.K mg base (L2.CX l.prog w) k fa fd [x] (spOf cn Fp))
    (hF : ∀ ns : List Int, ns.length ≤ n → ∃ s', Fp [.scr ns] ⟨none, []⟩ = .ok (.bool true) s') :
    PySem.W.WalkO q loose XP YP l.row.toRowW d [] (fun f vs => PySem.call f vs) := by
  refine Att.attach_call hn hdf fun w s₀ s₁ mg mb fa o pm cd doc a vs ns G Y ho hd hcd hmg hobj hints hlen hg => ?_
  obtain ⟨cn, fd, ht, KX, hb, ok⟩ := F w mg fa _ Y G.T.g hmg
  refine law_call (k := k) (sp := spOf cn Fp) KX G.T.g G.T.b G.T.builtins G.T.nolimit hg hobj hints (Nat.le_trans hlen (Nat.le_trans hn2 (by decide))) hr (fun base _ _ => ok base) hb (fun H hO hS => sp_law ht hn2 hF H a ns hlen hS) fun H e s' hc => ?_
  obtain ⟨_, _, _, _, _, _, _, _, _, _, _, _, z⟩ := hc
  exact z
end Pk
/-! Br17: sorted, min, max of data. -/
namespace Pk
open PySem PySem.Spec PyProof.Rows L2
mutual
theorem toks_py : ∀ x : D, PySem.W.keyToks (toPy x) = x.toks
  | .none => by simp [toPy, PySem.W.keyToks, D.toks]
  | .bool b => by simp [toPy, PySem.W.keyToks, D.toks]
  | .int b => by simp [toPy, PySem.W.keyToks, D.toks]
  | .str b => by simp [toPy, PySem.W.keyToks, D.toks]
  | .lst l => by simp only [toPy, PySem.W.keyToks, D.toks]; exact toksL_py l
  | .tup l => by simp only [toPy, PySem.W.keyToks, D.toks]; exact toksL_py l
  | .dct _ _ => by simp [toPy, PySem.W.keyToks, D.toks]
  | .fn _ => by simp [toPy, PySem.W.keyToks, D.toks]
  | .clo _ _ => by simp [toPy, PySem.W.keyToks, D.toks]
  | .town => by simp [toPy, PySem.W.keyToks, D.toks]
  | .obj _ => by simp [toPy, PySem.W.keyToks, D.toks]
  | .scr _ => by simp [toPy, PySem.W.keyToks, D.toks]
theorem toksL_py : ∀ l : List D, PySem.W.keyToksAll (toPyL l) = toksL l
  | [] => by simp [toPyL, PySem.W.keyToksAll, toksL]
  | x :: l => by simp only [toPyL, PySem.W.keyToksAll, toksL]; rw [toks_py x, toksL_py l]
end
mutual
theorem alk_py : ∀ x y : D, x.alk y = true → PySem.W.alike (toPy x) (toPy y) = true
  | .bool _, y, h => by cases y <;> first | (simp [D.alk] at h; done) | simp [toPy, PySem.W.alike]
  | .int _, y, h => by cases y <;> first | (simp [D.alk] at h; done) | simp [toPy, PySem.W.alike]
  | .str _, y, h => by cases y <;> first | (simp [D.alk] at h; done) | simp [toPy, PySem.W.alike]
  | .lst l, y, h => by
    cases y with
    | lst m => simp only [D.alk] at h; simp only [toPy, PySem.W.alike]; exact alkL_py l m h
    | _ => simp [D.alk] at h
  | .tup l, y, h => by
    cases y with
    | tup m => simp only [D.alk] at h; simp only [toPy, PySem.W.alike]; exact alkL_py l m h
    | _ => simp [D.alk] at h
  | .none, y, h => by simp [D.alk] at h
  | .dct _ _, y, h => by simp [D.alk] at h
  | .fn _, y, h => by simp [D.alk] at h
  | .clo _ _, y, h => by simp [D.alk] at h
  | .town, y, h => by simp [D.alk] at h
  | .obj _, y, h => by simp [D.alk] at h
  | .scr _, y, h => by simp [D.alk] at h
theorem alkL_py : ∀ l m : List D, alkL l m = true → PySem.W.alikeAll (toPyL l) (toPyL m) = true
  | [], m, h => by simp [toPyL, PySem.W.alikeAll]
  | x :: l, [], h => by simp [toPyL, PySem.W.alikeAll]
  | x :: l, y :: m, h => by
    simp only [alkL, Bool.and_eq_true] at h
    simp only [toPyL, PySem.W.alikeAll, alk_py x y h.1, alkL_py l m h.2, Bool.and_self]
end
mutual
theorem toPy_inj : ∀ x y : D, x.alk y = true → toPy x = toPy y → x = y
  | .bool a, y, h, e => by
    cases y with
    | bool b => simp only [toPy] at e; cases e; rfl
    | _ => simp [D.alk] at h
  | .int a, y, h, e => by
    cases y with
    | int b => simp only [toPy] at e; cases e; rfl
    | _ => simp [D.alk] at h
  | .str a, y, h, e => by
    cases y with
    | str b => simp only [toPy] at e; cases e; rfl
    | _ => simp [D.alk] at h
  | .lst l, y, h, e => by
    cases y with
    | lst m =>
      simp only [D.alk] at h
      simp only [toPy, PyData.list.injEq] at e
      rw [toPyL_inj l m h e]
    | _ => simp [D.alk] at h
  | .tup l, y, h, e => by
    cases y with
    | tup m =>
      simp only [D.alk] at h
      simp only [toPy, PyData.tuple.injEq] at e
      rw [toPyL_inj l m h e]
    | _ => simp [D.alk] at h
  | .none, y, h, e => by simp [D.alk] at h
  | .dct _ _, y, h, e => by simp [D.alk] at h
  | .fn _, y, h, e => by simp [D.alk] at h
  | .clo _ _, y, h, e => by simp [D.alk] at h
  | .town, y, h, e => by simp [D.alk] at h
  | .obj _, y, h, e => by simp [D.alk] at h
  | .scr _, y, h, e => by simp [D.alk] at h
theorem toPyL_inj : ∀ l m : List D, alkL l m = true → toPyL l = toPyL m → l = m
  | [], [], h, e => rfl
  | [], _ :: _, h, e => by simp [toPyL] at e
  | _ :: _, [], h, e => by simp [toPyL] at e
  | x :: l, y :: m, h, e => by
    simp only [alkL, Bool.and_eq_true] at h
    simp only [toPyL, List.cons.injEq] at e
    rw [toPy_inj x y h.1 e.1, toPyL_inj l m h.2 e.2]
end
/-! ### sorted -/
section
variable {cn : Cn} {lb : Lb} {H : Hp}
/-! ### min, max -/
end
end Pk
/-! Br18: enumerate of a list or a tuple: a walk that lays one new tuple a turn; the list by the kit's own rule. -/
namespace Pk
open PySem PySem.Spec PyProof.Rows L2
/-! ### a walk that lays a new tuple at each turn -/
section
variable {X : Cx} {pins : List (Addr × Obj)} {σ : L2.St} {H : Hp} {s : Shared} {E : Value → Shared → Prop} {e : Addr} {fp wr : List Addr} {n i : Nat} {Pt : Nat → Array Value → Prop} {Sn : Nat → Heap → Prop} {Mid : Nat → Addr → Heap → Prop}
theorem walk_lays {elts : List Expr} {kk : Nat} {tpos : Pos} {vs : List V} (W : WalksT X.prog X.w X.A e fp wr n Pt Sn Mid) (I : Inv X pins σ H s) (own : ∀ b ∈ wr, FpOk X pins H b) (lt : i < n) (now : Sn i s.heap) (few : vs.length ≤ sizeLine)
    (same : ∀ ar, Pt i ar → ∃ us, ar = us.toArray ∧ Vals vs us) :
    wpAny (model X.prog X.w) X.A (pyNext (.ref e)) (fun r s1 => ∃ u, r = some u ∧ wpAny (model X.prog X.w) X.A (letOwnedTupleGo (.Tuple elts kk tpos) (.ref e) u)
      (fun _ s2 => ∃ T, u = .ref T ∧ T ∉ wr ∧ H T = none ∧ Inv X pins σ (L2.upd H T (.tup vs)) s2 ∧ Sn (i + 1) s2.heap) E s1) E s := by
  refine W.item i s _ _ lt now fun T ar h1 tk got above there mid k1 => ⟨_, rfl, W.go elts kk tpos i T _ _ _ mid fun h2 next k2 => ?_⟩
  obtain ⟨us, rfl, rv⟩ := same ar got
  have off := W.apart i T h1 mid
  exact ⟨T, rfl, off, I.hok.fresh above, I.turnedNew (t' := tk) (fun b o nb q => k2 b o nb (k1 b o nb q)) own above ⟨few, us, rv, there.at fun o q => k2 T o off q⟩, next⟩
theorem walk_ends (W : WalksT X.prog X.w X.A e fp wr n Pt Sn Mid) (I : Inv X pins σ H s) (own : ∀ b ∈ wr, FpOk X pins H b) (now : Sn n s.heap) : wpAny (model X.prog X.w) X.A (pyNext (.ref e)) (fun r s1 => r = none ∧ Inv X pins σ H s1) E s :=
  W.done s _ _ now fun h' tk k => ⟨rfl, I.turnedL (t' := tk) k own⟩
end
/-! ### enumerate of a tuple -/
/-- the items vs of the tuple at a, each in a new pair -/
def IteT (K : PySem.W.Frag) (a : Addr) (vs : List V) : L2.It where
  go i H := SqT K H a vs ∧ i < vs.length
  yld i H v H' := ∃ T x, vs[i]? = some x ∧ v = .ref T ∧ H T = none ∧ H' = L2.upd H T (.tup [.int (i : Nat), x])
  stop i H := SqT K H a vs ∧ i = vs.length
/-- where the enumerate at e stands: its two cells -/
def AtT (a e it : Addr) (i : Nat) (h : Heap) : Prop := (∃ old, IsEnum h e it (0 + (i : Int)) old) ∧ h.IsTupleIter it a i
theorem AtT.keep {a e it : Addr} {i : Nat} {h h' : Heap} (p : AtT a e it i h) (k : ∀ b ∈ [e, it], ∀ o, h.get? b = some o → h'.get? b = some o) : AtT a e it i h' :=
  ⟨p.1.imp fun _ q => k e (by simp) _ q, p.2.at (k it (by simp))⟩
theorem AtT.obj {a e it : Addr} {i : Nat} {h : Heap} (p : AtT a e it i h) : ∀ b ∈ [e, it], ∃ o, h.get? b = some o ∧ ∀ v, o.data ≠ .cell v := by
  obtain ⟨⟨old, q⟩, o, q2, _, d⟩ := p
  intro b hb
  rcases List.mem_cons.mp hb with rfl | hb
  · exact ⟨_, q, nofun⟩
  · cases List.mem_singleton.mp hb
    exact ⟨o, q2, fun v z => by rw [d] at z; cases z⟩
section
variable {P : Program} {w : World} {K : PySem.W.Frag} {elts : List Expr} {kk : Nat} {tpos : Pos} {a e it : Addr}
/-- the kit's walk of it -/
theorem walkT {A : Around} {items : Array Value} (calm : A.handled = none) (ae : a ≠ e) (ai : a ≠ it) (ei : e ≠ it) : WalksT P w A e (e :: [it, a]) [e, it] items.size (fun i ar => ∃ t x, items[i]? = some x ∧ ar = #[.int (0 + (i : Int)) t, x])
    (fun i h => (∃ old, IsEnum h e it (0 + (i : Int)) old) ∧ h.IsTupleIter it a i ∧ h.IsTuple a items) (fun i T h => (∃ x, IsEnumOut h e it (0 + (i : Int) + 1) x T) ∧ (h.IsTupleIter it a (i + 1) ∧ h.IsTuple a items) ∧ T ≠ e ∧ T ≠ it) :=
  .enumFrom 0 (Draws.tuple (A := A.in1) calm it a ai items) e ei (by simp [ei, ae.symm]) (by simp)
theorem turn_pairs (vs : List V) (ae : a ≠ e) (ai : a ≠ it) (ei : e ≠ it) : Turn P w K (.Tuple elts kk tpos) (IteT K a vs) [e, it] e (AtT a e it) where
  mem := .head _
  obj _ _ p := p.obj
  keep _ _ _ p k := p.keep k
  self A i s Q E p h := p.1.elim fun _ q => wpAny_pyIter_enum q h
  item := by
    rintro X rfl rfl rfl calm i pins s σ H E I own p ⟨sq, lt⟩
    obtain ⟨us, rv, tp, few⟩ := I.tuple sq
    have len := rv.length
    obtain ⟨v, ev⟩ : ∃ v, vs[i]? = some v := ⟨_, List.getElem?_eq_getElem lt⟩
    obtain ⟨u, eu, ru⟩ := rv.get ev
    have lay := walk_lays (E := E) (elts := elts) (kk := kk) (tpos := tpos) (vs := [.int (i : Nat), v]) (walkT (I.ok.hd calm) ae ai ei) I own (i := i) (by simpa [← len] using lt) ⟨p.1, p.2, tp⟩ (by show 2 ≤ sizeLine; decide) ?_
    · refine thn lay fun r s1 ⟨u, er, g⟩ => ⟨u, er, thn g fun _ s2 ⟨T, eT, off, nT, J, p1, p2, _⟩ => ?_⟩
      subst eT
      refine ⟨.ref T, _, J, rfl, ⟨T, v, ev, rfl, nT, rfl⟩, ⟨p1, p2⟩, fun b hb => ?_⟩
      rw [upd_ne (show b ≠ T from fun z => off (z ▸ hb))]
      exact (own b hb).1
    · rintro ar ⟨t, x, ex, rfl⟩
      obtain rfl : u = x := by simpa [eu] using ex
      exact ⟨[.int (0 + (i : Int)) t, u], rfl, .cons ⟨t, by rw [Int.zero_add]⟩ (.cons ru .nil)⟩
  done := by
    rintro X rfl rfl rfl calm i pins s σ H E I own p ⟨sq, rfl⟩
    obtain ⟨us, rv, tp, few⟩ := I.tuple sq
    have len : us.toArray.size = vs.length := by simpa using rv.length.symm
    have W := walkT (P := X.prog) (w := X.w) (items := us.toArray) (I.ok.hd calm) ae ai ei
    rw [len] at W
    exact walk_ends W I own ⟨p.1, p.2, tp⟩
end
/-! ### the call enumerate(v): two new cells -/
/-- the heap with the iterator o and the enumerate on it -/
def enumOn (h : Heap) (o : Obj) : Heap := (h.push o).push { cls := .type "enumerate", data := .fields #[.none, .bool false, .ref h.objs.size, rawInt 0, .none, .none] }
section
variable {h : Heap} {o : Obj}
theorem enumOn_keep {b : Addr} {u : Obj} (q : h.get? b = some u) : (enumOn h o).get? b = some u := Heap.get?_push_of_some _ (Heap.get?_push_of_some _ q)
theorem enumOn_it (fr : o.isFreed = false) : (enumOn h o).get? h.objs.size = some o := Heap.get?_push_of_some _ (Heap.get?_push_size _ fr)
theorem enumOn_e : IsEnum (enumOn h o) (h.objs.size + 1) h.objs.size 0 .none := by
  have q := Heap.get?_push_size (h.push o) (o := { cls := .type "enumerate", data := .fields #[.none, .bool false, .ref h.objs.size, rawInt 0, .none, .none] }) rfl
  rwa [Heap.size_push] at q
end
theorem new_enum {v : Value} {o : Obj} {Z : Heap → Prop} (B : Begins v o Z) : Meets (Builtin.«enumerate.__new__» ⟨[.type "enumerate", v], []⟩) (fun _ R s => Z s.heap ∧ R (.ok (.ret (.ref (s.heap.push o).objs.size))) { s with heap := enumOn s.heap o }) :=
  .of_wp fun prog w A R ⟨hp, gs, dr, tk, os⟩ ⟨z, r⟩ => by
    have sub := sub_enumerate
    have begin_ : ∀ {A : Around} {E Q : Value → Shared → Prop}, Q (.ref hp.objs.size) ⟨hp.push o, gs, dr, tk, os⟩ → wpAny (model prog w) A (pyIter v) Q E ⟨hp, gs, dr, tk, os⟩ := fun q => B.iter prog w _ _ ⟨hp, gs, dr, tk, os⟩ _ z q
    wp_walk using begin_
    refine wpAny_stack_any fun _ => wpAny_pure ?_
    split
    rename_i c _ _ _ _ _
    · cases (c == Value.type "enumerate") <;> (wp_walk using begin_; exact ⟨_, rfl, r⟩)
    · wp_walk using begin_; exact ⟨_, rfl, r⟩
theorem call_enum {prog : Program} {w : World} {A : Around} {E Q : Value → Shared → Prop} {s : Shared} {v : Value} {o : Obj} {Z : Heap → Prop} (B : Begins v o Z) (z : Z s.heap) (q : Q (.ref (s.heap.objs.size + 1)) { s with heap := enumOn s.heap o }) :
    wpAny (model prog w) A (call (.type "enumerate") [v]) Q E s := by
  refine callType_new F.called_enumerate (by decide) (F.typeCall_enumerate_1 _) (F.newCall_enumerate_1 _) (fun obj => F.args_object_init_2 obj _) F.entry_enumerate_new (new_enum B) ⟨z, ?_⟩
  rw [Heap.size_push]
  exact ⟨⟨_, enumOn_e, rfl⟩, q⟩
/-! ### for i, x in enumerate(..) -/
section
variable {X : Cx} {e : Expr} {ta : TA} {p pos tpos : Pos} {elts : List Expr} {kk : Nat}
def iEnumT (K : PySem.W.Frag) (ta : TA) : TI := fun σ H R => ta σ H fun vs H1 => ∃ a xs, vs = [.ref a] ∧ SqT K H1 a xs ∧ R (IteT K a xs) H1
theorem pi_enumT (hg : Gl X "enumerate") (hm : X.mg "enumerate" = none) (ha : PA X [e] ta) (hs : starEach [e] X.env = [(false, eval e X.env)]) : PI X (.Tuple elts kk tpos) (.Call (.Name "enumerate" p) [e] [] pos) (iEnumT X.K ta) := by
  refine ⟨fun pins s σ H R I h => Call_ (ld_blt I hg hm boot_enumerate (PyProof.Rows.callWith_type1 (thn (ha.run pos pins s σ H _ I h) fun us s1 ⟨vs, H1, J, r1, a, xs, evs, sq, q⟩ => ?_) hs rfl))⟩
  subst evs
  obtain rfl := Vals.ref1 r1
  obtain ⟨us, rv, tp, few⟩ := J.tuple sq
  have below : a < s1.heap.objs.size := tp.elim fun _ z => Heap.lt_size z.1
  have two : ∀ b ∈ [s1.heap.objs.size + 1, s1.heap.objs.size], s1.heap.objs.size ≤ b := by simp
  refine call_enum (begins_tuple a us.toArray) tp (wpAny_pyIter_enum enumOn_e ?_)
  exact ⟨_, [s1.heap.objs.size + 1, s1.heap.objs.size], _, _, H1, rfl, J.kept (t' := s1.toks) fun _ _ z => enumOn_keep z, turn_pairs xs (Nat.ne_of_lt (Nat.lt_succ_of_lt below)) (Nat.ne_of_lt below) (Nat.succ_ne_self _), ⟨⟨_, enumOn_e⟩, ⟨_, enumOn_it rfl, rfl, rfl⟩⟩, fun b hb => J.fpOk (two b hb) (J.hok.fresh (two b hb)), q⟩
theorem pi_either {tg it : Expr} {t t' : TI} (h : PI X tg it t) (k : PI X tg it t') : PI X tg it fun σ H R => t σ H R ∨ t' σ H R := ⟨fun pins s σ H R I w => w.elim (h.run pins s σ H R I) (k.run pins s σ H R I)⟩
end
section
variable {X : Cx} {b : Bd}
theorem numbered_at {l : List D} {i : Nat} {d : D} (h : (numbered l)[i]? = some d) : ∃ x, l[i]? = some x ∧ d = .tup [.int (i : Int), x] := by
  obtain ⟨hi, rfl⟩ := List.getElem?_eq_some_iff.mp h
  have hi : i < l.length := by simpa [numbered] using hi
  exact ⟨l[i], List.getElem?_eq_getElem hi, by simp [numbered, List.getD_eq_getElem?_getD, hi]⟩
theorem itOk_eT {cn : Cn} {lb : Lb} {H : Hp} {K : PySem.W.Frag} {a : Addr} {l : List D} {vs : List V} (at_ : NT lb H a vs) (r : RepL cn lb H l vs) : ItOk cn lb H (numbered l) (IteT K a vs) := fun lb' H' st => by
  have sq : SqT K H' a vs := .of (at_.stq st).2
  have len : (numbered l).length = vs.length := by rw [← r.length]; simp [numbered]
  refine ⟨⟨sq, len⟩, fun i d h => ?_⟩
  obtain ⟨x, ex, rfl⟩ := numbered_at h
  obtain ⟨v, ev, rv⟩ := (r.stq st).get ex
  refine ⟨⟨sq, (List.getElem?_eq_some_iff.mp ev).1⟩, ?_⟩
  rintro _ _ ⟨T, x, ex, rfl, nT, rfl⟩
  cases ev.symm.trans ex
  exact ⟨Ext.upd nT, fun hs => tup2_new hs nT (by simp only [Rep]) rv⟩
/-- the tuple's half of enumerate -/
def iEnumU (m : M D) : It := fun r s => (m r s).bind fun d r s => match d with
  | .tup l => .ok (numbered l) r s
  | _ => .bad
/-- the value tells which half it is -/
theorem enum_which (m : M D) (ρ : Env) (s : Sto) : iEnumA m ρ s = iEnumL m ρ s ∨ iEnumA m ρ s = iEnumU m ρ s := by
  simp only [iEnumA, iEnumL, iEnumU]
  cases m ρ s with
  | ok d r1 s1 =>
    cases d with
    | tup l => exact .inr rfl
    | _ => exact .inl rfl
  | _ => exact .inl rfl
theorem di_enumU {e : Expr} {m : M D} {elts : List Expr} {kk : Nat} {p pos tpos : Pos} (hg : Gl X "enumerate") (hm : X.mg "enumerate" = none) (h : DE X b e m) (hs : starEach [e] X.env = [(false, eval e X.env)]) :
    DI X b (.Tuple elts kk tpos) (.Call (.Name "enumerate" p) [e] [] pos) (iEnumU m) := by
  refine PI.imp (pi_enumT hg hm (pa_cons h pa_nil hs) hs) fun σ H R ⟨lb, ρ, s, o, run⟩ => ⟨lb, ρ, s, o, (Post.bind run).mono fun d ρ1 s1 lb1 H1 st o1 q v H2 ex r => ?_⟩
  have q := Post.from q (o1.stp_ext ex)
  cases d with
  | tup l =>
    simp only [Rep] at r
    obtain ⟨a, vs, rfl, at_, z, rl⟩ := r
    exact ⟨a, vs, rfl, .of at_.2, q lb1 H2 .refl (o1.ext ex) (by simpa [numbered] using z) _ H2 .refl (itOk_eT at_ rl)⟩
  | _ => exact q.elim
theorem di_enumA {e : Expr} {m : M D} {elts : List Expr} {kk : Nat} {p pos tpos : Pos} (hg : Gl X "enumerate") (hm : X.mg "enumerate" = none) (h : DE X b e m) (hs : starEach [e] X.env = [(false, eval e X.env)] := by rfl) :
    DI X b (.Tuple elts kk tpos) (.Call (.Name "enumerate" p) [e] [] pos) (iEnumA m) :=
  PI.imp (pi_either (di_enumL hg hm h hs) (di_enumU hg hm h hs)) fun σ H R ⟨lb, ρ, s, o, run⟩ => (enum_which m ρ s).imp (fun z => ⟨lb, ρ, s, o, by rw [← z]; exact run⟩) fun z => ⟨lb, ρ, s, o, by rw [← z]; exact run⟩
end
end Pk
/-! Br19: any slice of a tuple with a step; x[::-1]; reversed(range(..)). -/
namespace Pk
open PySem PySem.Spec PyProof.Rows L2 HT
section
variable {prog : Program} {w : World} {A : Around} {s : Shared} {sl : Addr} {vl vu vs : Value} {lo hi : Option Int} {st : Int}
open Builtin.Slice in
end
/-! ### x[..:..:..] -/
section
variable {X : Cx} {b : Bd} {n : Nat}
theorem KV_lst {cn : Cn} {lb : Lb} {H : Hp} {d : List D} {Q : VK} (k : KV cn lb H (.lst d) Q) (hs : Has lb H) {vs : List V} {p : Addr} (np : H p = none) (r : RepL cn lb H d vs) (z : d.length ≤ SZ) : Q (.ref p) (L2.upd H p (.lst vs)) :=
  (Kt.kf (fresh := false) hs k : KF cn lb H (.lst d) Q) p _ np ⟨vs, rfl, z, r⟩
end
end Pk
/-! Br20: x[lo:hi] of lists and tuples. -/
namespace Pk
open PySem PySem.Spec PyProof.Rows L2
section
variable {X : Cx} {b : Bd} {n : Nat}
def tPt (b : Bd) (m : Option (M D)) : TO := fun σ H R => ∃ lb ρ s, Ok b lb ρ s σ H ∧ Post b σ lb H (eOpt m ρ s) fun o _ _ _ H' => ∀ H2, Ext H' H2 → R o H2
abbrev DP (X : Cx) (b : Bd) (e : Option Expr) (m : Option (M D)) : Prop := PO X e (tPt b m)
theorem dp_none : DP X b none none := ⟨fun pins s σ H Q I h => po_none.run pins s σ H Q I (by
  obtain ⟨lb, ρ, t, o, p⟩ := h
  exact p lb H .refl o H .refl)⟩
theorem dp_some {e : Expr} {m : M D} (h : DE X b e m) : DP X b (some e) (some m) := ⟨fun pins s σ H Q I q => (po_some h).run pins s σ H Q I (by
  obtain ⟨lb, ρ, t, o, p⟩ := q
  refine ⟨lb, ρ, t, o, (Post.bind p).mono fun d ρ1 s1 lb1 H1 st o1 q v H2 ex r => ?_⟩
  have q := Post.from q (o1.stp_ext ex)
  cases d with
  | int i =>
    simp only [Rep] at r
    subst r
    exact ⟨i, rfl, q lb1 H2 .refl (o1.ext ex) H2 .refl⟩
  | _ => exact False.elim q)⟩
theorem cut_ix (n d : Nat) (lo : Option Int) : HT.sIx n d lo = cutIx n d lo := by cases lo <;> rfl
theorem repL_drop {cn : Cn} {lb : Lb} {H : Hp} : ∀ (i : Nat) {l : List D} {vs : List V}, RepL cn lb H l vs → RepL cn lb H (l.drop i) (vs.drop i)
  | 0, _, _, r => r
  | i + 1, [], _, r => by simp only [RepL] at r; subst r; exact .nil
  | i + 1, d :: l, _, r => by
    obtain ⟨v, r', rfl, _, r2⟩ := r
    exact repL_drop i r2
theorem repL_take {cn : Cn} {lb : Lb} {H : Hp} : ∀ (i : Nat) {l : List D} {vs : List V}, RepL cn lb H l vs → RepL cn lb H (l.take i) (vs.take i)
  | 0, _, _, r => by rw [List.take_zero, List.take_zero]; exact .nil
  | i + 1, [], _, r => by simp only [RepL] at r; subst r; exact .nil
  | i + 1, d :: l, _, r => by
    obtain ⟨v, r', rfl, r1, r2⟩ := r
    exact .cons r1 (repL_take i r2)
theorem repL_cut {cn : Cn} {lb : Lb} {H : Hp} {l : List D} {vs : List V} (r : RepL cn lb H l vs) (lo hi : Option Int) : RepL cn lb H (cutL l lo hi) (cutV vs lo hi) := by
  unfold cutL cutV
  rw [cut_ix, cut_ix, ← r.length]
  exact repL_take _ (repL_drop _ r)
theorem cutL_len (l : List D) (lo hi : Option Int) : (cutL l lo hi).length ≤ l.length := by
  unfold cutL
  rw [List.length_take, List.length_drop]
  omega
theorem de_cut {ea : Expr} {lo hi : Option Expr} {a : Opd} {ml mh : Option (M D)} {p2 pos : Pos} (g : Gd n X b) (ha : DO X b ea a) (hl : DP X b lo ml) (hh : DP X b hi mh) : DE X b (.Subscript ea (.Slice lo hi none p2) pos) (eCut a ml mh) := by
  refine PE.imp (pe_slice (sl_list.or sl_tupA) ha.pe hl hh) fun σ H Q ⟨lb, ρ, s, o, h⟩ => ?_
  refine tOpd_run o (Post.bind h) fun x ρ1 s1 lb1 H1 v st o1 q sd => ?_
  refine ⟨lb1, ρ1, s1, o1, (Post.bind q).mono fun l0 ρ2 s2 lb2 H2 st2 o2 q2 => fun H2' ex => ?_⟩
  have o2' := o2.ext ex
  have q2' := Post.from q2 (o2.stp_ext ex)
  refine ⟨lb2, ρ2, s2, o2', (Post.bind q2').mono fun u0 ρ3 s3 lb3 H3 st3 o3 q3 => fun H3' ex3 => ?_⟩
  have o3' := o3.ext ex3
  have q3' := Post.from q3 (o3.stp_ext ex3)
  obtain ⟨e, e1, k⟩ := opt_post o3' q3'
  have k : KV b.cn lb3 H3' e Q := k
  cases e2 : look ρ3 x with
  | none => rw [e2] at e1; cases e1
  | some d =>
    rw [e2] at e1
    have r : RepB b.cn lb3 H3' d v := ((((sd.stp st2).stp (o2.stp_ext ex)).stp st3).stp (o3.stp_ext ex3)).look o3' e2
    cases d with
    | lst l =>
      cases e1
      obtain ⟨p, vs, rfl, hp, z, rl⟩ := r.lst
      exact .inl ⟨p, vs, rfl, .of hp, fun p3 np => KV_lst k o3'.has np (repL_cut rl l0 u0) (Nat.le_trans (cutL_len _ _ _) z)⟩
    | tup l =>
      cases e1
      have rf := r.flat (fun _ e => nomatch e) (fun _ _ e => nomatch e)
      obtain ⟨p, vs, rfl, hp, z, rl⟩ := r.tup
      refine .inr ⟨p, vs, rfl, .of hp, fun hw => ?_, fun _ p3 np => KV.tup k o3'.has np (repL_cut rl l0 u0) (Nat.le_trans (cutL_len _ _ _) z)⟩
      have ew : cutL l l0 u0 = l := by
        unfold cutL
        rw [cut_ix, cut_ix, ← rl.length] at hw
        rw [hw.1, hw.2]
        simp
      rw [ew] at k
      exact KV.now k rf
    | _ => cases e1
end
end Pk
/-! Br21: zip of two lists, of two tuples. -/
namespace Pk
open PySem PySem.Spec PyProof.Rows L2
end Pk
/-! Br22: raise X('..'). -/
namespace Pk
open PySem PySem.Spec PyProof.Rows L2
/-- the class number k stands in the text as x: an own error over ValueError without an own __init__ -/
structure ErrC (cn : Cn) (mg : Str → Option Value) (k : Nat) (x : Str) : Prop where
  ex : PySem.W.excIn cn.K (cn.cls k) He.veBase "ValueError.__new__" = true
  at_ : mg x = some (.ref (cn.cls k))
  kp : PySem.W.keepIn cn.K (.ref (cn.cls k)) = true
  sub : PySem.W.subIn cn.K (.ref (cn.cls k)) (.type "BaseException") = some true
  ty : PySem.W.typeIn cn.K (.ref (cn.cls k)) = some (.type "type")
section
variable {X : Cx} {b : Bd} {n : Nat}
theorem ds_raiseT {k j : Nat} {x m : Str} {mg : Str → Option Value} {p p2 pos pos' : Pos} {initId : String} (g : Gd n X b) (hm : X.mg = mg) (F : ExcBaseFacts "ValueError" "ValueError.__new__" initId He.veBase) (C : ErrC b.cn mg k x) (hg : Gl X x) (hdb : (x == ("__debug__" : Str)) = false := by decide) :
    DS X b (.Raise (some (.Call (.Name x p) [.Constant (.str m) j p2] [] pos)) none pos') (sRaise k .none) := by
  subst hm
  obtain ⟨c1, c2, c3, c4, c5⟩ := C
  have kk := g.kk
  rw [kk] at c1 c3 c4 c5
  refine PS.imp (ps_raise g.calm g.tk (pmk_own F c1 c2 c3 (raises_own c4 c5) hg hdb)) fun D σ H ⟨lb, ρ, s, o, h⟩ => ?_
  exact h lb σ H _ _ .refl o ⟨rfl, rfl⟩
end
end Pk
/-! Br23: a try whose clauses all bind one name. What is caught is held in one record (Got); one lemma for each thing that is done with it. -/
namespace Pk
open PySem PySem.Spec PyProof.Rows L2
/-- a clause: its class, and how its suite is read -/
abbrev Clause := Value × (Addr → Value → Option Addr → TS)
/-- the name in slot i goes, however the suite ends -/
def unName (i : Nat) (D : Ends) : Ends := ⟨fun σ H => D.nx (σ.set i none) H, D.rt, fun σ H => D.bk (σ.set i none) H, fun σ H => D.ct (σ.set i none) H⟩
/-- what the clauses wish: the first that takes the class has its suite read -/
def wishAs (K : PySem.W.Frag) (i : Nat) (out : WX) (D : Ends) (l : List Clause) : WX :=
  l.foldr (fun cl next cls d σ H => ∃ hit : Bool, PySem.W.exmOne K cls cl.1 = some hit ∧ match hit with
    | true => ∀ e : Addr, H e = none → i < σ.length → cl.2 e cls d (unName i D) (σ.set i (some (.ref e))) H
    | false => next cls d σ H) out
/-- a suite, whatever the exception's address and record -/
abbrev Suite (X : Cx) (sts : List Stmt) (ts : Addr → Value → Option Addr → TS) : Prop :=
  ∀ (e : Addr) (o : Obj) (cls : Value) (d : Option Addr) (pn : List (Addr × Obj)), Zc cls d o → (∃ fs, o.data = .fields fs) → PSs (X.suite e ((e, o) :: pn)) sts (ts e cls d)
inductive Clauses (X : Cx) (n : Str) : List ExceptHandler → List Clause → Prop
  | nil : Clauses X n [] []
  | cons {y : Str} {C : Value} {rd : Addr → Value → Option Addr → TS} {st : Stmt} {sts : List Stmt} {q q' : Pos} {more : List ExceptHandler} {cls : List Clause} :
      Names X y C → Suite X (st :: sts) rd → Clauses X n more cls → Clauses X n (.ExceptHandler (some (.Name y q)) (some n) (st :: sts) q' :: more) ((C, rd) :: cls)
/-- an exception that came to X's hands: sI the state as it rose, s the state now -/
structure Got (X : Cx) (pins : List (Addr × Obj)) (B : Heap) (e : Addr) (cls : Value) (d : Option Addr) (σ : L2.St) (H : Hp) (sI s : Shared) : Prop where
  rose : Inv X pins σ H sI
  low : ∀ b o, sI.heap.get? b = some o → b ∉ frs X.stack → B.get? b = some o
  late : sI.heap.UpToSlots s.heap
  free : H e = none
  oss : s.os = sI.os
  gens : AllBare s.gens
  fly : HandSPX.FlyingZ B X.stack e (Zc cls d) s.heap
section
variable {X : Cx} {pins : List (Addr × Obj)} {B : Heap} {e : Addr} {cls : Value} {d : Option Addr} {σ : L2.St} {H : Hp} {sI s : Shared}
theorem Got.inv (g : Got X pins B e cls d σ H sI s) : Inv X pins σ H s := g.rose.landed g.low g.fly.1 g.late g.oss g.gens
theorem Got.far (g : Got X pins B e cls d σ H sI s) : e ∉ frs X.stack := fun m => by
  obtain ⟨o, fs, at_, _, df⟩ := g.fly.there
  obtain ⟨_, o', at', nf⟩ := g.fly.2.2.1.mem m
  cases at_.symm.trans at'
  exact nf fs df
/-- its flight is put out once more -/
theorem Got.again (g : Got X pins B e cls d σ H sI s) {h : Heap} (f : HandSPX.FlyingZ B X.stack e (Zc cls d) h) (u : s.heap.UpToSlots h) : Got X pins B e cls d σ H sI { s with heap := h } :=
  ⟨g.rose, g.low, g.late.trans u, g.free, g.oss, g.gens, f⟩
/-- within a suite -/
theorem Got.suite (g : Got X pins B e cls d σ H sI s) (hs : X.stack = X.env :: X.outer) (hf : X.env.frame = some X.env.locals) :
    ∃ o, s.heap.get? e = some o ∧ Zc cls d o ∧ (∃ fs, o.data = .fields fs) ∧ Inv (X.suite e ((e, o) :: (X.pn ++ pins))) [] σ H s := by
  obtain ⟨o, fs, at_, z, df⟩ := g.fly.there
  have far := g.far
  rw [hs] at far
  exact ⟨o, at_, z, ⟨fs, df⟩, g.inv.suite at_ df g.free (fun h => far (List.mem_filterMap.mpr ⟨_, .head _, hf.trans (congrArg some h.symm)⟩)) fun m => by
    obtain ⟨en, m1, m2⟩ := List.mem_filterMap.mp m
    exact far (List.mem_filterMap.mpr ⟨en, .tail _ m1, m2⟩)⟩
variable {n : Str} {i : Nat} {D : Ends} {out : WX}
/-- no clause is left: it flies on, out of this frame -/
theorem Got.leave (g : Got X pins B e cls d σ H sI s) (hs : X.stack = X.env :: X.outer) (hf : X.env.frame = some X.env.locals) (tk : Takes X out) (w : out cls d σ H) :
    wpAny (model X.prog X.w) X.A (handleBy (.ref e) X.env []) (SP X pins D) X.xe s := by
  have up : wpAny (model X.prog X.w) X.A (setFlight (.ref e) X.env.frame) (fun _ t => wpAny (model X.prog X.w) X.A (throw (.ref e) : Sem Flow) (SP X pins D) X.xe t) X.xe s := by
    rw [hf]
    exact HandSPX.setFlight_upZ g.fly fun h held u => wpAny_throw (tk _ _ ⟨e, B, sI, pins, σ, H, cls, d, rfl, g.rose, g.low, g.late.trans u, .inr (.inr held), g.free, g.oss, g.gens, w⟩)
  obtain ⟨_, fs, T, _, _, at_, _, df, tb, _⟩ := id g.fly.2.2.2
  refine wpAny_handleBy_nil ?_
  unfold PySem.passOn
  refine wpAny_bind (wpAny_field at_ df tb ?_)
  have nn : ¬ (Value.ref T == Value.none) = true := by simp
  rw [if_neg nn]
  first
    | exact wpAny_bind up
    | exact wpAny_bind (wpAny_pure (wpAny_bind up))
/-- behind the suite the name goes; then the frame ends as the suite did -/
theorem un_name (ok : X.Ok) (hN : X.N.Nodup) (hi : X.N[i]? = some n) (hn : X.env.kindOf n = some .local) {p : Addr × Obj} {q : Pos} : ∀ {fl : Flow} {t : Shared}, SP (X.suite e (p :: (X.pn ++ pins))) [] (unName i D) fl t →
    wpAny (model X.prog X.w) X.A (do bindName X.env n .none; unbindBehindTheSuite X.env n q) (fun _ u => SP X pins D fl u) X.xe t
  | .next, _, ⟨_, _, J, k⟩ => gone_ok (J.unsuite ok) hN hi hn fun _ U => ⟨_, _, U, k⟩
  | .brk, _, ⟨_, _, J, k⟩ => gone_ok (J.unsuite ok) hN hi hn fun _ U => ⟨_, _, U, k⟩
  | .cont, _, ⟨_, _, J, k⟩ => gone_ok (J.unsuite ok) hN hi hn fun _ U => ⟨_, _, U, k⟩
  | .ret _, _, ⟨_, _, _, J, r, k⟩ => gone_ok (J.unsuite ok) hN hi hn fun _ U => ⟨_, _, _, U, r, k⟩
/-- the clauses, one behind the other -/
theorem Got.all (hs : X.stack = X.env :: X.outer) (hf : X.env.frame = some X.env.locals) (hN : X.N.Nodup) (hi : X.N[i]? = some n) (hn : X.env.kindOf n = some .local) (tk : Takes X out) {hds : List ExceptHandler} {l : List Clause} (c : Clauses X n hds l) :
    ∀ {s : Shared}, Got X pins B e cls d σ H sI s → wishAs X.K i out D l cls d σ H → wpAny (model X.prog X.w) X.A (handleBy (.ref e) X.env hds) (SP X pins D) X.xe s := by
  induction c with
  | nil => exact fun g w => g.leave hs hf tk w
  | @cons y C rd st sts q q' more cl nm su _ ih =>
    intro s g ⟨hit, hm, w⟩
    obtain ⟨o, at_, z, _, S⟩ := g.suite hs hf
    -- the class is asked for by its name
    have named : ∀ {Q E : Value → Shared → Prop}, Q C s → wpAny (model X.prog X.w) (X.A.mark (some (.ref e))) (eval (.Name y q) X.env) Q E s := fun h => match nm with
      | ⟨k1, k2, .inl k3⟩ => ld_glob (X := X.suite e ((e, o) :: (X.pn ++ pins))) S k1 k3 h k2
      | ⟨k1, k2, .inr ⟨k3, k4, k5⟩⟩ => ld_blt (X := X.suite e ((e, o) :: (X.pn ++ pins))) S k1 k3 k4 h k5 k2
    have asked := PySem.W.exm_one (M := model X.prog X.w) g.inv.kIn (fun _ _ _ _ k h => wpAny_typeOf_ref (k _ _ at_) (z.1 ▸ h)) hm
    refine wpAny_handleBy_cons (codeAny_handlers_test (named (asked.here ?_))) fun h => nomatch h
    cases hit with
    | false => exact ih g w
    | true =>
      refine codeAny_handlers_suite_as (HandSPX.lands_againZ g.fly fun h f u => ?_)
      obtain ⟨o2, _, z2, df2, S2⟩ := (g.again f u).suite hs hf
      refine store_ok (X := X.suite e ((e, o2) :: (X.pn ++ pins))) (v := .ref e) S2 hN hi (.inl hn) rfl (fun t T => ?_) (.inr hn)
      have room : i < σ.length := by rw [g.rose.len]; exact (List.getElem?_eq_some_iff.mp hi).1
      exact wpAny_mono ((su e o2 cls d _ z2 df2).run [] t _ H _ T (w e g.free room)) (fun _ _ k => un_name g.rose.ok hN hi hn k) fun _ _ k => k.elim
end
end Pk
/-! Br24: isinstance of the exception that is held; how many of a list's truth values are b; a def that is told of one pinned thing. -/
namespace Pk
open PySem PySem.Spec PyProof.Rows L2

/-- the exception's dict stands -/
def DOk (d : Option Addr) (H : Hp) : Prop := ∀ dx, d = some dx → ∃ fs, H dx = some (.xd fs)
theorem DOk.ext {d : Option Addr} {H H' : Hp} (h : DOk d H) (e : Ext H H') : DOk d H' := fun dx z => (h dx z).imp fun _ q => e _ _ q
/-! ### l.count(b) of truth values -/
/-! ### a def that is told of one pinned thing -/
end Pk
/-! Br25: _law_which. -/
namespace Pk
open PySem PySem.Spec PyProof.Rows L2

section
variable {X : Cx} {a : Addr} {d : Option Addr}
theorem Ext.same {H H' : Hp} {p : Addr} {o : HO} (e : Ext H H') (n : H p = none) : Ext H (L2.upd H' p o) := fun b x h => by
  rw [upd_ne (ne_of_none h n)]
  exact e b x h
end
/-- the classes of the errors -/
structure ExX (cn : Cn) : Prop where
  exc : ∀ k, k < 12 → ExcC cn.K (cn.cls k)
  kit : ∀ k j, k < 12 → j < 12 → PySem.W.kitOne cn.K (.ref (cn.cls k)) (.ref (cn.cls j)) = some (k == j)
  kve : ∀ k, k < 12 → PySem.W.kitOne cn.K (.ref (cn.cls k)) (.type "ValueError") = some true
  kle : ∀ k, k < 12 → PySem.W.kitOne cn.K (.ref (cn.cls k)) (.ref (cn.cls 12)) = some true
  exm : ∀ k, k < 12 → PySem.W.exmOne cn.K (.ref (cn.cls k)) (.ref (cn.cls 12)) = some true
  ex1 : ∀ k, k < 12 → PySem.W.exmOne cn.K (.ref (cn.cls k)) (.ref (cn.cls 1)) = some (k == 1)
  ex2 : ∀ k, k < 12 → PySem.W.exmOne cn.K (.ref (cn.cls k)) (.ref (cn.cls 2)) = some (k == 2)
/-- the names of the error classes in the text -/
structure ExN (cn : Cn) (mg : Str → Option Value) : Prop where
  n0 : mg "NoLand" = some (.ref (cn.cls 0))
  n1 : mg "NoCell" = some (.ref (cn.cls 1))
  n2 : mg "NoPeak" = some (.ref (cn.cls 2))
  n3 : mg "NoLevel" = some (.ref (cn.cls 3))
  n4 : mg "NoSlope" = some (.ref (cn.cls 4))
  n5 : mg "NoWalk" = some (.ref (cn.cls 5))
  n6 : mg "NoHeight" = some (.ref (cn.cls 6))
  n7 : mg "NoFit" = some (.ref (cn.cls 7))
  n8 : mg "NoKind" = some (.ref (cn.cls 8))
  n9 : mg "NoText" = some (.ref (cn.cls 9))
  n10 : mg "TooMany" = some (.ref (cn.cls 10))
  n11 : mg "Nothing" = some (.ref (cn.cls 11))
  n12 : mg "LandError" = some (.ref (cn.cls 12))
  is : mg "isinstance" = none
  ve : mg "ValueError" = none
end Pk
/-! Br26: the suites of the laws' try; raise NoCell(x). -/
namespace Pk
open PySem PySem.Spec PyProof.Rows L2

/-! ### suites -/
def tsWhich (cn : Cn) (i : Nat) : Addr → Value → Option Addr → TS := fun a cls d D σ H => ∃ k, k < 12 ∧ cls = .ref (cn.cls k) ∧ σ[i]? = some (some (.ref a)) ∧ DOk d H ∧ ∀ q H', Ext H H' → H q = none → H' q = some (.tup [.str "refused", .int (k : Nat)]) → D.rt (.ref q) H'
def tsCell (cn : Cn) (i : Nat) (m : Nat) (txt : Str) : Addr → Value → Option Addr → TS := fun a cls d D σ H => cls = .ref (cn.cls m) ∧ σ[i]? = some (some (.ref a)) ∧ ∃ dd v, d = some dd ∧ H dd = some (.xd [("cell", v)]) ∧ ∀ q H', Ext H H' → H q = none → H' q = some (.tup [.str txt, v]) → D.rt (.ref q) H'
def tsCell4 (cn : Cn) (i : Nat) : Addr → Value → Option Addr → TS := fun a cls d D σ H => cls = .ref (cn.cls 1) ∧ σ[i]? = some (some (.ref a)) ∧ ∃ dd v, d = some dd ∧ H dd = some (.xd [("cell", v)]) ∧ ∀ q q' H', Ext H H' → H q = none → H q' = none → H' q' = some (.tup [.str "refused", .int (1 : Nat)]) → H' q = some (.tup [.str "cell", v, .bl true, .ref q']) → D.rt (.ref q) H'
def tsPeak3 (cn : Cn) (i : Nat) : Addr → Value → Option Addr → TS := fun a cls d D σ H => cls = .ref (cn.cls 2) ∧ σ[i]? = some (some (.ref a)) ∧ ∃ dd v, d = some dd ∧ H dd = some (.xd [("cell", v)]) ∧ ∀ q q' H', Ext H H' → H q = none → H q' = none → H' q' = some (.tup [.str "refused", .int (2 : Nat)]) → H' q = some (.tup [.str "peak", v, .ref q']) → D.rt (.ref q) H'
/-! ### try -/
def Hk.cls (h : Hk) (cn : Cn) (i : Nat) : List (Value × (Addr → Value → Option Addr → TS)) := match h with
  | .no => [(.ref (cn.cls 12), tsWhich cn i)]
  | .cell => [(.ref (cn.cls 1), tsCell cn i 1 "cell"), (.ref (cn.cls 12), tsWhich cn i)]
  | .cell4 => [(.ref (cn.cls 1), tsCell4 cn i), (.ref (cn.cls 12), tsWhich cn i)]
  | .peak3 => [(.ref (cn.cls 2), tsPeak3 cn i), (.ref (cn.cls 12), tsWhich cn i)]
section
variable {X : Cx} {b : Bd} {n : Nat}
/-! ### raise NoCell(x) -/
/-- the thing o is such a class at C, its __new__ ValueError's -/
def oexO (C : Addr) : Obj → Bool
  | { cls := .type "type", data := .cls { mro := .ref B :: above, hasDict := true, hasDel := false, .. }, slots := ⟨[_, _, _, _, some (.builtin made), _]⟩, .. } => B == C && made == "ValueError.__new__" && PySem.HandSPX.refsVE above
  | _ => false
def oexB (K : PySem.W.Frag) (C : Addr) : Bool := (K.lookup C).any (oexO C)
theorem oexO_ok {C : Addr} {o : Obj} (q : oexO C o = true) : ∃ nm q N bs bm sn sub ab col dd k0 k1 k2 k3 k5, o = excClassObj nm q C N bs bm true sn sub ab col dd k0 k1 k2 k3 k5 "ValueError.__new__" ∧ PySem.HandSPX.refsVE bm = true := by
  unfold oexO at q
  split at q
  · simp only [Bool.and_eq_true, beq_iff_eq] at q
    obtain ⟨⟨rfl, rfl⟩, above⟩ := q
    exact ⟨_, _, _, _, _, _, _, _, _, _, _, _, _, _, _, rfl, above⟩
  · cases q
theorem oexB_ok {K : PySem.W.Frag} {C : Addr} (q : oexB K C = true) : ∃ nm q N bs bm sn sub ab col dd k0 k1 k2 k3 k5, K.lookup C = some (excClassObj nm q C N bs bm true sn sub ab col dd k0 k1 k2 k3 k5 "ValueError.__new__") ∧ PySem.HandSPX.refsVE bm = true := by
  obtain ⟨o, there, is⟩ := Option.any_eq_true .. |>.mp q
  obtain ⟨nm, qn, N, bs, bm, sn, sub, ab, col, dd, k0, k1, k2, k3, k5, rfl, above⟩ := oexO_ok is
  exact ⟨nm, qn, N, bs, bm, sn, sub, ab, col, dd, k0, k1, k2, k3, k5, there, above⟩
/-- __init__'s promise -/
def spI (C : Addr) : Sp := fun vs H Q _ => ∃ a v, vs = [.ref a, v] ∧ H a = some (exo a C none) ∧ ∀ dx, H dx = none → dx ≠ a → Q .non (L2.upd (L2.upd H dx (exd dx [("cell", v)])) a (exo a C (some dx)))
theorem init_ok {cn : Cn} {P : Program} {w : World} {mg : Str → Option Value} {base : Heap} {x qual : Str} {params : Arguments} {body : List Stmt} {scope : Scope} {kws : List (Str × V)} {f C : Addr} {fd : FuncData}
    (F : FunD cn.K x qual params body scope [] kws f fd) (S : FnScope ["self", "cell"] ["self", "cell"] scope) (T : OexC cn.K C) (hno : PySem.W.findIn cn.K (.ref C) "cell" = some none)
    (hb : ∀ (cdv : Value) (A : Around) (outer : List PySem.Env) (s : Shared) (H : Hp) (E : XK), PSs (cxOf (L2.CX P w) P w cn.K mg base ["self", "cell"] qual scope f cdv A outer s H E) body (tOst cn.K "cell" (tVar 0) (tVar 1))) :
    FnOk P w cn.K mg base (L2.CX P w) 1 f fd ["self", "cell"] (spI C) := by
  refine F.ok S (fun vs H Q E h => ?_) fun cdv A outer s H vs Q E hr h => ?_
  · obtain ⟨a, v, rfl, _⟩ := h
    rfl
  · obtain ⟨a, v, rfl, ha, hq⟩ := h
    exact ⟨_, hb cdv A outer s H E, v, rfl, .ref a, rfl, a, C, rfl, T, hno, .inl ⟨ha, fun dx n ne => hq dx n ne⟩⟩
/-- the class number k, with __init__(self, cell) -/
structure ErrI (cn : Cn) (P : Program) (w : World) (mg : Str → Option Value) (base : Heap) (k : Nat) (x : Str) : Prop where
  T : OexC cn.K (cn.cls k)
  at_ : mg x = some (.ref (cn.cls k))
  ini : ∃ (f : Addr) (fd : FuncData), FnOk P w cn.K mg base (L2.CX P w) 1 f fd ["self", "cell"] (spI (cn.cls k)) ∧ PySem.W.findIn cn.K (.ref (cn.cls k)) "__init__" = some (some (.ref f)) ∧ PySem.W.typeIn cn.K (.ref f) = some (.type "function") ∧ Binds cn.K fd ["self", "cell"] []
theorem ds_raiseC {k : Nat} {x : Str} {e : Expr} {m : M D} {p pos pos' : Pos} {P : Program} {w : World} {mg : Str → Option Value} {base : Heap} (g : Gd n X b) (I : ErrI b.cn P w mg base k x) (hn : 2 ≤ n) (hP : X.prog = P) (hw : X.w = w) (hm : X.mg = mg) (hb : X.base = base) (hg : Gl X x) (h : DE X b e m)
    (hdb : (x == ("__debug__" : Str)) = false := by decide) (he : starEach [e] X.env = (false, eval e X.env) :: starEach [] X.env := by rfl) :
    DS X b (.Raise (some (.Call (.Name x p) [e] [] pos)) none pos') (sRaise k (some m)) := by
  subst hP hw hm hb
  obtain ⟨T, at_, f, fd, F, iC, tI, hbd⟩ := I
  have kk := g.kk
  rw [kk] at T F iC tI hbd
  refine PS.imp (ps_raise g.calm g.tk (pmk_oex (dvs := []) T iC tI F (g.room.mono hn) hbd .nil (fun _ _ _ _ _ _ _ z => by obtain ⟨_, _, _, _, _, _, _, _, _, _, _, _, z⟩ := z; exact z.elim) hg at_ (pa_cons h pa_nil he) hdb he rfl)) fun D σ H ⟨lb, ρ, s, o, p⟩ => ?_
  have p : SPost b D lb H ((m ρ s).bind fun d r s => .exc ⟨k, some d⟩ r s) := p
  refine ⟨lb, ρ, s, o, (SPost.bind (D := D) (σ := σ) p).mono fun dv ρ1 s1 lb1 H1 st o1 q => fun v H2 ex r => ?_⟩
  have o2 := o1.ext ex
  have st2 := o1.stp_ext ex
  refine ⟨by simp, fun a na => ⟨a, v, rfl, upd_same, fun dx nd ne => ⟨rfl, dx, [("cell", v)], upd_same, by rw [upd_ne ne]; exact upd_same, ?_, ?_⟩⟩⟩
  · rw [upd_ne ne] at nd; exact nd
  · have nd2 : H2 dx = none := by rw [upd_ne ne] at nd; exact nd
    have eH : L2.upd (del (L2.upd (L2.upd (L2.upd H2 a (exo a (b.cn.cls k) none)) dx (exd dx [("cell", v)])) a (exo a (b.cn.cls k) (some dx))) a) dx (.xd [("cell", v)]) = L2.upd H2 dx (.xd [("cell", v)]) := by
      funext c
      by_cases hc : c = dx
      · rw [hc, upd_same, upd_same]
      · rw [upd_ne hc, upd_ne hc]
        by_cases ha : c = a
        · rw [ha, del_same, na]
        · rw [del_ne ha, upd_ne ha, upd_ne hc, upd_ne ha]
    rw [eH]
    have ex3 := Ext.upd (o := .xd [("cell", v)]) nd2
    exact q lb1 σ _ _ _ (st2.trans (o2.stp_ext ex3)) (o2.ext ex3) ⟨rfl, dx, v, rfl, Has.none o2.has nd2, upd_same, r.stp (o2.stp_ext ex3)⟩
end
end Pk
/-! Br27: [f, g, ..][i](a, ..). -/
namespace Pk
open PySem PySem.Spec PyProof.Rows L2
section
variable {X : Cx} {b : Bd} {n : Nat}
/-- the defs of a table -/
inductive TabOk (X : Cx) (b : Bd) (n : Nat) : List Expr → List Fn → Prop
  | nil : TabOk X b n [] []
  | cons {k : Nat} {x : Str} {F : Fn} {p : Pos} {es : List Expr} {Fs : List Fn} (G : FnG b.cn X.prog X.w X.mg X.base k x F []) (hk : k ≤ n) (hg : Gl X x) (hd : (x == ("__debug__" : Str)) = false) (r : TabOk X b n es Fs) : TabOk X b n (.Name x p :: es) (F :: Fs)
def tCs (vs : List V) : TA := fun _ H Q => Q vs H
theorem TabOk.pa {es : List Expr} {Fs : List Fn} (kk : b.cn.K = X.K) (T : TabOk X b n es Fs) : ∃ fs : List Addr, PA X es (tCs (fs.map V.ref)) ∧ fs.length = Fs.length ∧ ∀ (j : Nat) (f : Addr) (F : Fn), fs[j]? = some f → Fs[j]? = some F →
    ∃ (k : Nat) (fd : FuncData) (ps : List Str) (dsv : List Value), FnOk X.prog X.w X.K X.mg X.base (L2.CX X.prog X.w) k f fd ps (spOf b.cn F) ∧ k ≤ n ∧ PySem.W.keepIn X.K (.ref f) = true ∧ Binds X.K fd ps dsv ∧ Vals [] dsv := by
  induction T with
  | nil => exact ⟨[], PA.imp pa_nil fun _ _ _ h => h, rfl, fun j f F h => by simp at h⟩
  | @cons k x F p es Fs G hk hg hd r ih =>
    obtain ⟨fs, h1, h2, h3⟩ := ih
    obtain ⟨f, fd, ps, dsv, dvs, F1, F2, F3, F4, F5, F6⟩ := G
    rw [kk] at F1 F3 F4
    have e0 : dvs = [] := by
      have := (F6 (fun _ => none) (fun _ => none)).length
      exact List.length_eq_zero_iff.mp this.symm
    subst e0
    refine ⟨f :: fs, PA.imp (pa_cons (pe_glob hg F2 (v := .ref f) rfl hd) h1) fun σ H Q h => h, by rw [List.length_cons, List.length_cons, h2], fun j f' F' q1 q2 => ?_⟩
    cases j with
    | zero =>
      cases q1
      cases q2
      exact ⟨k, fd, ps, dsv, F1, hk, F3, F4, F5⟩
    | succ j => exact h3 j f' F' (by simpa using q1) (by simpa using q2)
end
end Pk
/-! Br28: the head's facts, with the error classes. -/
namespace Pk
open PySem PySem.Spec PyProof.Rows L2
/-- the first def of a class -/
def clsM (s : Stmt) : Stmt := match s with
  | .ClassDef _ _ _ (m :: _) .. => m
  | s => s
def obsX (fa : List He.Fa) (fn : List He.DefD) (fx : PySem.W.Frag → Bool) (K : PySem.W.Frag) : He.AlD := (((fa.all fun f => f.ok K) && fn.all fun d => d.ok K) && fx K, fn.map fun d => He.fnW K d.at_)
def SaysX (fa : List He.Fa) (fn : List He.DefD) (fx : PySem.W.Frag → Bool) (K : PySem.W.Frag) : Prop := obsX fa fn fx K = He.valD fn
def obsXG (n : Nat) (fa : List He.Fa) (fn : List He.DefD) (fx : PySem.W.Frag → Bool) (g : Addr → Option Obj) : He.AlD := obsX fa fn fx (He.frG g (He.asD g n))
def hookX (n : Nat) (fa : List He.Fa) (fn : List He.DefD) (fx : PySem.W.Frag → Bool) : PySem.W.Hook where
  α := He.AlD
  obs := fun s => obsXG n fa fn fx s.heap.get?
  val := fun _ => He.valD fn
  says := fun _ h => ∃ K : PySem.W.Frag, K.In h ∧ SaysX fa fn fx K
  of := fun _ _ e => ⟨_, He.frG_in, e⟩
  keeps := fun _ _ _ ⟨K, hK, c⟩ k => ⟨K, PySem.W.Frag.In.keeps hK k, c⟩
theorem obsXG_eq {n : Nat} {fa : List He.Fa} {fn : List He.DefD} {fx : PySem.W.Frag → Bool} {g : Addr → Option Obj} {s : Shared} (h : ∀ a, g a = s.heap.get? a) : obsXG n fa fn fx g = (hookX n fa fn fx).obs s := by
  have e : g = s.heap.get? := funext h
  rw [e] <;> rfl
section
variable {fa : List He.Fa} {fn : List He.DefD} {fx : PySem.W.Frag → Bool} {K : PySem.W.Frag}
theorem SaysX.d (c : SaysX fa fn fx K) : He.SaysD fa fn K := by
  have h1 := (He.ba (show (((fa.all fun f => f.ok K) && fn.all fun d => d.ok K) && fx K) = true from congrArg (fun z : He.AlD => z.1) c)).1
  have h2 : fn.map (fun d => He.fnW K d.at_) = fn.map He.DefD.val := congrArg (fun z : He.AlD => z.2) c
  show He.obsD fa fn K = He.valD fn
  unfold He.obsD He.valD
  rw [h1, h2]
theorem SaysX.x (c : SaysX fa fn fx K) : fx K = true := (He.ba (show (((fa.all fun f => f.ok K) && fn.all fun d => d.ok K) && fx K) = true from congrArg (fun z : He.AlD => z.1) c)).2
end
/-! ### the error classes -/
def exNames : List Str := ["NoLand", "NoCell", "NoPeak", "NoLevel", "NoSlope", "NoWalk", "NoHeight", "NoFit", "NoKind", "NoText", "TooMany", "Nothing", "LandError"]
def exCls (K : PySem.W.Frag) (k : Nat) : Addr := He.ga K (exNames.getD k "")
/-- a class with __init__(self, cell) -/
def oexA (K : PySem.W.Frag) (C : Addr) : Bool := oexB K C && (He.eqO (PySem.W.findIn K (.ref C) "__setattr__") (some (some (.builtin "object.__setattr__"))) && (decide (PySem.W.subIn K (.ref C) (.type "BaseException") = some true) && (decide (PySem.W.typeIn K (.ref C) = some (.type "type")) && (PySem.W.keepIn K (.ref C) &&
  (He.eqO (PySem.W.findIn K (.ref C) "cell") (some none) && (He.eqO (PySem.W.findIn K (.ref C) "__init__") (some (some (.ref (He.ma K C "__init__")))) && (decide (PySem.W.typeIn K (.ref (He.ma K C "__init__")) = some (.type "function")) && xfB K C)))))))
structure OexA (K : PySem.W.Frag) (C : Addr) : Prop where
  T : OexC K C
  no : PySem.W.findIn K (.ref C) "cell" = some none
  ini : PySem.W.findIn K (.ref C) "__init__" = some (some (.ref (He.ma K C "__init__")))
  ty : PySem.W.typeIn K (.ref (He.ma K C "__init__")) = some (.type "function")
  xf : XfC K C
theorem oexA_ok {K : PySem.W.Frag} {C : Addr} (h : oexA K C = true) : OexA K C := by
  obtain ⟨h1, h⟩ := He.ba h
  obtain ⟨h2, h⟩ := He.ba h
  obtain ⟨h3, h⟩ := He.ba h
  obtain ⟨h4, h⟩ := He.ba h
  obtain ⟨h5, h⟩ := He.ba h
  obtain ⟨h6, h⟩ := He.ba h
  obtain ⟨h7, h⟩ := He.ba h
  obtain ⟨h8, h9⟩ := He.ba h
  exact ⟨⟨oexB_ok h1, He.eqO_ok h2, of_decide_eq_true h3, of_decide_eq_true h4, h5⟩, He.eqO_ok h6, He.eqO_ok h7, of_decide_eq_true h8, xfB_ok h9⟩
/-- by what the head told -/
theorem errC_of {cn : Cn} {h : Heap} {mg : Str → Option Value} {x : Str} {k : Nat} (hc : cn.cls = exCls cn.K) (hx : exNames.getD k "" = x) (X : cn.K.In h) (G : h.Ns mainGlobals mg) (c : (He.Fa.exc x).ok cn.K = true) (c2 : (He.Fa.glo x).ok cn.K = true) : ErrC cn mg k x := by
  have e : cn.cls k = He.ga cn.K x := by rw [hc]; unfold exCls; rw [hx]
  obtain ⟨c1, c3, c4, c5⟩ := He.exc_ok c
  refine ⟨?_, ?_, ?_, ?_, ?_⟩ <;> rw [e]
  · exact c1
  · exact He.glo_ok X G c2
  · exact c3
  · exact c4
  · exact c5
theorem errI_of {cn : Cn} {P : Program} {w : World} {mg : Str → Option Value} {base : Heap} {h : Heap} {x qual : Str} {params : Arguments} {body : List Stmt} {scope : Scope} {fd : FuncData} {k : Nat} (hc : cn.cls = exCls cn.K) (hx : exNames.getD k "" = x) (X : cn.K.In h) (G : h.Ns mainGlobals mg) (c2 : (He.Fa.glo x).ok cn.K = true)
    (O : OexA cn.K (cn.cls k)) (F : FunD cn.K "__init__" qual params body scope [] [] (He.fAd cn.K (x, some "__init__")) fd) (S : FnScope ["self", "cell"] ["self", "cell"] scope)
    (hb : ∀ (f : Addr) (cdv : Value) (A : Around) (outer : List PySem.Env) (s : Shared) (H : Hp) (E : XK), PSs (cxOf (L2.CX P w) P w cn.K mg base ["self", "cell"] qual scope f cdv A outer s H E) body (tOst cn.K "cell" (tVar 0) (tVar 1)))
    (h2 : ∀ (kV doc pm : Value) (an : Option Addr) (cdv ct : Value) (us : List Value), us.length = 2 → bindArgs (PySem.W.fnOf "__init__" qual params body scope .none kV doc pm an cdv ct) ⟨us, []⟩ = pure ((["self", "cell"] : List Str).zip us)) : ErrI cn P w mg base k x := by
  have e : cn.cls k = He.ga cn.K x := by rw [hc]; unfold exCls; rw [hx]
  have ef : He.fAd cn.K (x, some "__init__") = He.ma cn.K (cn.cls k) "__init__" := by rw [e]; rfl
  rw [ef] at F
  refine ⟨O.T, by rw [e]; exact He.glo_ok X G c2, _, fd, init_ok F S O.T O.no (fun cdv A outer s H E => hb _ cdv A outer s H E), O.ini, O.ty, F.bindsN h2⟩
end Pk
/-! Br29: x * y of a tuple and a number. -/
namespace Pk
open PySem PySem.Spec PyProof.Rows L2
end Pk
/-! Br30: len(set(x)) of tuples of numbers. -/
namespace Pk
open PySem PySem.Spec PyProof.Rows L2
end Pk
/-! Br31: list(it) of an iterator that hands on itself; list(reversed(x)). -/
namespace Pk
open PySem PySem.Spec PyProof.Rows L2 RT
/-- what list(it) must know of an iterator ahead of its walk -/
structure ItKnown (prog : Program) (w : World) (A : Around) (it : Addr) (s : Shared) : Prop where
  type : s.TypeIs (.ref it) "list_reverseiterator"
  unsure : ∀ (E : Value → Shared → Prop) (Q : Bool → Shared → Prop), Q false s → wpAny (model prog w) A (Builtin.List.listLengthHint (.ref it)) Q E s
end Pk
/-! Br32: dict(pairs), d[k] with keys that are tuples of numbers. -/
namespace Pk
open PySem PySem.Spec PyProof.Rows L2
section
variable {X : Cx} {b : Bd} {n : Nat} {cn : Cn}
theorem pairsT_of {pins : List (Addr × Obj)} {σ : L2.St} {H : Hp} {s : Shared} (I : Inv X pins σ H s) : ∀ {ps : List Addr} {kvs : List (List Int × Addr × V)}, Paired (fun p kv => H p = some (.tup [.ref kv.2.1, kv.2.2]) ∧ H kv.2.1 = some (.tup (kv.1.map V.int))) ps kvs →
    ∃ prs : List (List Key × Addr × Value), Paired (fun (kv : List Int × Addr × V) q => kv.1.map Sum.inl = q.1 ∧ q.2.1 = kv.2.1 ∧ RelV kv.2.2 q.2.2) kvs prs ∧ prs.length = ps.length ∧ ∀ (j : Nat) (q : List Key × Addr × Value), prs[j]? = some q → ∃ c : Addr, ps[j]? = some c ∧ IsTup s.heap c #[.ref q.2.1, q.2.2] ∧ H q.2.1 = some (.tup (q.1.map kV))
  | _, _, .nil => ⟨[], .nil, rfl, fun j q e => by simp at e⟩
  | _, _, .cons (a := p) (b := kv) h t => by
    obtain ⟨prs, r, hl, hp⟩ := pairsT_of I t
    obtain ⟨its, rv, ht, _⟩ := I.tuple (.of h.1)
    obtain ⟨u, y, ei, ru, ry⟩ := vals2 rv
    subst ei
    obtain rfl : u = Value.ref kv.2.1 := ru
    refine ⟨(kv.1.map Sum.inl, kv.2.1, y) :: prs, .cons ⟨rfl, rfl, ry⟩ r, by rw [List.length_cons, List.length_cons, hl], fun j q e => ?_⟩
    cases j with
    | zero =>
      have e' : (kv.1.map Sum.inl, kv.2.1, y) = q := Option.some.inj e
      subst e'
      refine ⟨p, rfl, ht, ?_⟩
      rw [List.map_map]
      exact h.2
    | succ j =>
      obtain ⟨c, e1, e2, e3⟩ := hp j q (by simpa using e)
      exact ⟨c, by simpa using e1, e2, e3⟩
theorem stored_nodup : ∀ (ps xs : List (List Key × Addr × Value)), ((xs ++ ps).map (·.1)).Nodup → storedAllH xs ps = xs ++ ps
  | [], xs, _ => by simp [storedAllH]
  | p :: ps, xs, h => by
    have hn : atKey xs p.1 = none := by
      unfold atKey
      have : xs.find? (fun x => decide (x.1 = p.1)) = none := List.find?_eq_none.mpr fun x hx z => by
        have z : x.1 = p.1 := of_decide_eq_true z
        rw [List.map_append, List.nodup_append] at h
        exact h.2.2 x.1 (List.mem_map.mpr ⟨x, hx, rfl⟩) p.1 (by simp) z
      rw [this]
      rfl
    have e : storedAllH xs (p :: ps) = storedAllH (storedH xs p.1 p.2.1 p.2.2) ps := rfl
    rw [e, storedH_new hn, stored_nodup ps (xs ++ [(p.1, p.2.1, p.2.2)]) (by simpa using h)]
    simp
/-- dict(x), x a list of pairs (tuple of numbers, value), no two keys alike -/
def rDictT (K : PySem.W.Frag) : List V → Hp → VK → Prop := fun xs H Q => ∃ (a : Addr) (ps : List Addr) (kvs : List (List Int × Addr × V)), xs = [.ref a] ∧ SqL K H a (ps.map V.ref) ∧ Paired (fun p kv => H p = some (.tup [.ref kv.2.1, kv.2.2]) ∧ H kv.2.1 = some (.tup (kv.1.map V.int))) ps kvs ∧ (kvs.map (·.1)).Nodup ∧
  ∀ p, H p = none → Q (.ref p) (L2.upd H p (.dT (kvs.map fun kv => (kv.1.map Sum.inl, kv.2.2))))
theorem call_dictT (hcalm : X.calm = true) (hu : X.A.units + 10 < cLine) : CallR X (.type "dict") (rDictT X.K) := by
  intro pins s σ H xs us Q I r q
  obtain ⟨a, ps, kvs, ex, hq, hp, nd, q⟩ := q
  subst ex
  obtain ⟨u, eu, rx⟩ := vals1 r
  subst eu
  cases rx
  obtain ⟨its, rv, pl, hz⟩ := I.list hq
  have ei := refs_at rv
  subst ei
  rw [List.length_map] at hz
  obtain ⟨prs, rel, hl, hpr⟩ := pairsT_of I hp
  obtain ⟨o, nn, ho, hc, hd, hdat⟩ := pl
  have ndp : (prs.map (·.1)).Nodup := by
    have key : ∀ {kvs : List (List Int × Addr × V)} {prs : List (List Key × Addr × Value)}, Paired (fun (kv : List Int × Addr × V) q => kv.1.map Sum.inl = q.1 ∧ q.2.1 = kv.2.1 ∧ RelV kv.2.2 q.2.2) kvs prs → prs.map (·.1) = (kvs.map (·.1)).map (List.map Sum.inl) := fun h => by
      induction h with
      | nil => rfl
      | cons h t ih => rw [List.map_cons, List.map_cons, List.map_cons, ih, ← h.1]
    rw [key rel]
    refine List.pairwise_map.mpr (nd.imp fun {x y} hxy e => hxy ?_)
    have := congrArg (List.map fun k : Key => match k with | .inl i => i | .inr _ => 0) e
    simpa [List.map_map, Function.comp_def] using this
  have hkeys : ∀ x ∈ prs, H x.2.1 = some (.tup (x.1.map kV)) := fun x hx => by
    obtain ⟨j, hj, e⟩ := List.getElem_of_mem hx
    obtain ⟨c, _, _, e3⟩ := hpr j x (by rw [List.getElem?_eq_getElem hj, e])
    exact e3
  let Ts : Nat → Addr := fun j => ps.getD j 0
  have PA := PairArg.list (prog := X.prog) (w := X.w) a (ps.map Value.ref).toArray Ts (prs.map fun x => (Value.ref x.2.1, x.2.2))
  have hOK : PlainSeq "list" s.heap a (ps.map Value.ref).toArray ∧ PairItems s.heap (ps.map Value.ref).toArray Ts (prs.map fun x => (Value.ref x.2.1, x.2.2)) := by
    refine ⟨⟨o, nn, ho, hc, hd, hdat⟩, by simp [hl], fun j k v e => ?_⟩
    rw [List.getElem?_map] at e
    cases ej : prs[j]? with
    | none => rw [ej] at e; cases e
    | some x =>
      rw [ej] at e
      simp only [Option.map_some, Option.some.injEq, Prod.mk.injEq] at e
      obtain ⟨rfl, rfl⟩ := e
      obtain ⟨c, e1, e2, _⟩ := hpr j x ej
      have ec : Ts j = c := by show ps.getD j 0 = c; rw [List.getD_eq_getElem?_getD, e1]; rfl
      rw [ec]
      exact ⟨by simp [e1], .inl e2⟩
  refine call_dict_pairsH (knd := tupleKind (mixKind X.prog X.w)) (ps := prs) PA (I.ok.hd hcalm) (show X.A.in1.in1.units < cLine from by show X.A.units + 1 + 1 < cLine; omega) hOK ⟨by simp, fun i key v e => ?_⟩ (fun h' hk x hx => ?_) (by simp [hl]; exact hz) fun h' tk hd' hk => ?_
  · rw [PairRel, List.getElem?_map] at e
    cases ej : prs[i]? with
    | none => rw [ej] at e; cases e
    | some x =>
      rw [ej] at e
      simp only [Option.map_some, Option.some.injEq, Prod.mk.injEq] at e
      exact ⟨x.1, x.2.1, by rw [← e.2], e.1.symm⟩
  · obtain ⟨ob, its, m, h1, h2, h3, h4⟩ := key_of I.hok (hkeys x hx)
    exact ⟨ob, its, m, hk _ _ (Nat.ne_of_lt (Heap.lt_size h1)) (by simp) h1, h2, h3, h4⟩
  · have hm : (s.heap.objs.size == sysModules) = false := beq_eq_false_iff_ne.mpr (Nat.ne_of_gt I.big)
    have hlen : (kvs.map fun kv => ((kv.1.map Sum.inl : List Key), kv.2.2)).length ≤ sizeLine := by rw [List.length_map, Paired.length rel, hl]; exact hz
    have nH : H s.heap.objs.size = none := I.hok.fresh (Nat.le_refl _)
    rw [stored_nodup prs [] (by simpa using ndp), List.nil_append] at hd'
    obtain ⟨od, es, ep, d1, d2, d3, d4, d5, d6⟩ := hd'
    refine ⟨.ref s.heap.objs.size, _, I.laid (t' := tk) (o := .dT (kvs.map fun kv => (kv.1.map Sum.inl, kv.2.2))) (fun b o e => hk b o (by simp) e) (Nat.le_refl _) ⟨hlen, hm, prs, ?_, od, es, ep, d1, d2, d3, d4, d6⟩, rfl, q _ nH⟩
    have key : ∀ (H2 : Hp) {kvs : List (List Int × Addr × V)} {prs : List (List Key × Addr × Value)}, Paired (fun (kv : List Int × Addr × V) q => kv.1.map Sum.inl = q.1 ∧ q.2.1 = kv.2.1 ∧ RelV kv.2.2 q.2.2) kvs prs → (∀ x ∈ prs, H2 x.2.1 = some (.tup (x.1.map kV))) →
        Paired (fun (p : List Key × V) (q : List Key × Addr × Value) => p.1 = q.1 ∧ H2 q.2.1 = some (.tup (p.1.map kV)) ∧ RelV p.2 q.2.2) (kvs.map fun kv => (kv.1.map Sum.inl, kv.2.2)) prs := fun H2 {kvs prs} h => by
      induction h with
      | nil => intro _; exact .nil
      | @cons x y xs ys h t ih =>
        intro hk
        rw [List.map_cons]
        refine .cons ⟨h.1, ?_, h.2.2⟩ (ih fun z hz => hk z (List.mem_cons_of_mem _ hz))
        rw [h.1]
        exact hk y List.mem_cons_self
    exact key _ rel fun x hx => by rw [upd_ne (ne_of_none (hkeys x hx) nH)]; exact hkeys x hx
/-! ### plain -/
theorem pairs_rep {lb : Lb} {H : Hp} : ∀ {l : List D} {vs : List V} {r : List (List Int) × List D}, RepL cn lb H l vs → pairsOf l = some r → ∃ (ps : List Addr) (kvs : List (List Int × Addr × V)), vs = ps.map V.ref ∧ Paired (fun p kv => H p = some (.tup [.ref kv.2.1, kv.2.2]) ∧ H kv.2.1 = some (.tup (kv.1.map V.int))) ps kvs ∧
    kvs.map (·.1) = r.1 ∧ RepL cn lb H r.2 (kvs.map (·.2.2)) ∧ r.1.length = r.2.length
  | [], vs, r, h, e => by
    simp only [RepL] at h
    cases e
    exact ⟨[], [], h, .nil, rfl, .nil, rfl⟩
  | d :: l, vs, r, h, e => by
    simp only [RepL] at h
    obtain ⟨v, r', rfl, r1, r2⟩ := h
    unfold pairsOf at e
    split at e
    · rename_i heq
      cases heq
    · rename_i k x l' heq
      cases heq
      cases e1 : intsOf k with
      | none => rw [e1] at e; cases e
      | some ks =>
        rw [e1] at e
        simp only [Option.bind_some] at e
        cases e2 : pairsOf l with
        | none => rw [e2] at e; cases e
        | some rr =>
          rw [e2] at e
          cases e
          obtain ⟨ps, kvs, p1, p2, p3, p4, p5⟩ := pairs_rep r2 e2
          simp only [Rep] at r1
          obtain ⟨a, xs, rfl, nt, _, rx⟩ := r1
          simp only [RepL] at rx
          obtain ⟨v1, q1, rfl, s1, v2, q2, rfl, s2, rfl⟩ := rx
          simp only [Rep] at s1
          obtain ⟨c, ys, rfl, nc, _, ry⟩ := s1
          rw [ints_rep ry e1] at nc
          exact ⟨a :: ps, (ks, c, v2) :: kvs, by rw [p1]; rfl, .cons ⟨nt.2, nc.2⟩ p2, by rw [List.map_cons, p3], .cons s2 p4, by rw [List.length_cons, List.length_cons, p5]⟩
    · cases e
theorem p1_dict : P1 true cn (fun x H Q => rDictT cn.K [x] H Q) pDict := by
  intro lb H x d e Q hs r h k
  have k : KF cn lb H e Q := k
  cases d with
  | lst l =>
    simp only [pDict] at h
    cases e1 : pairsOf l with
    | none => rw [e1] at h; cases h
    | some rr =>
      rw [e1] at h
      simp only [Option.bind_some] at h
      split at h
      · rename_i hz
        have hz := of_lim hz
        cases h
        obtain ⟨a, vs, rfl, ea, sz, rl⟩ := r.lst
        obtain ⟨ps, kvs, p1, p2, p3, p4, p5⟩ := pairs_rep rl e1
        rw [p1] at ea
        have hlen : rr.1.length ≤ SZ := by rw [← p3, List.length_map, ← Paired.length p2]; have := rl.length; rw [p1, List.length_map] at this; omega
        refine ⟨a, ps, kvs, rfl, .of ea, p2, by rw [p3]; exact hz, fun p np => k p _ np ⟨kvs.map (·.2.2), by rw [List.length_map]; exact hlen, p4, by rw [List.length_map, List.length_map, ← p3, List.length_map], ?_, .inl ⟨rr.1, rfl, ?_⟩⟩⟩
        · exact List.pairwise_map.mpr (hz.imp fun {x y} hxy e => hxy (Ky.t.inj e))
        · rw [← p3, List.map_map, List.zip_map']
          rfl
      · cases h
  | _ => cases h
theorem Gd.dictT (g : Gd n X b) : CallR X (.type "dict") (rDictT b.cn.K) := by rw [g.kk]; exact call_dictT g.calm (by have := g.units; omega)
theorem dget_rep {lb : Lb} {H : Hp} {j : List Int} {d : D} : ∀ {js : List (List Int)} {ds : List D} {vs : List V}, RepL cn lb H ds vs → dctGet (js.map .t) ds (.t j) = some d → ∃ v, valV ((js.map fun j => (j.map Sum.inl : List Key)).zip vs) (j.map Sum.inl : List Key) = some v ∧ Rep cn lb H d v
  | [], ds, vs, r, h => by simp [dctGet] at h
  | k :: js, [], vs, r, h => by simp [dctGet] at h
  | k :: js, e :: ds, vs, r, h => by
    simp only [RepL] at r
    obtain ⟨v, r', rfl, r1, r2⟩ := r
    by_cases hk : k = j
    · subst hk
      simp [dctGet] at h
      subst h
      exact ⟨v, by simp [valV], r1⟩
    · have hk2 : ¬ ((k.map Sum.inl : List Key) = j.map Sum.inl) := fun e => hk (by
        have := congrArg (List.map fun k : Key => match k with | .inl i => i | .inr _ => 0) e
        simpa [List.map_map, Function.comp_def] using this)
      have h' : dctGet (js.map .t) ds (.t j) = some d := by simpa [dctGet, hk] using h
      obtain ⟨u, e1, e2⟩ := dget_rep r2 h'
      refine ⟨u, ?_, e2⟩
      rw [← e1]
      simp only [valV, List.map_cons, List.zip_cons_cons, List.find?_cons, hk2, decide_false]
theorem dgetT {H : Hp} {a b : Addr} {kvs : List (List Key × V)} {k : List Key} (e : Rd H a (.dT kvs)) (eb : H b = some (.tup (k.map kV))) : DGet H a (.ref b) (valV kvs k) := .inr ⟨kvs, k, b, e, rfl, eb, rfl⟩
def rDIx : R2 := fun x y H Q => ∃ a v, x = .ref a ∧ DGet H a y (some v) ∧ Q v H
theorem p2_ixD : P2 false cn rDIx pIxD := by
  intro lb H x y d1 d2 e Q hs r1 r2 h k
  cases d1 with
  | dct ks ds =>
    simp only [pIxD] at h
    cases d2 with
    | tup l =>
      simp only [keyOf] at h
      cases e1 : intsOf l with
      | none => rw [e1] at h; cases h
      | some j =>
        rw [e1] at h
        simp only [Option.map_some, Option.bind_some] at h
        obtain ⟨a, vs, rfl, rl, hl, nd, _, c⟩ := r1.dct
        obtain ⟨p, us, rfl, ep, _, ru⟩ := r2.tup
        rw [ints_rep ru e1] at ep
        rcases c with ⟨js, rfl, ea⟩ | ⟨js, ⟨rfl, _⟩, ea⟩
        · obtain ⟨v, e2, rv⟩ := dget_rep rl h
          refine ⟨a, v, rfl, ?_, KV.now k rv⟩
          have := dgetT (k := j.map Sum.inl) ea (by rw [List.map_map]; exact ep)
          rw [e2] at this
          exact this
        · exfalso
          have : ((js.map Ky.i).zip ds).find? (fun p => decide (p.1 = Ky.t j)) = none := List.find?_eq_none.mpr fun p hp z => by
            have z : p.1 = Ky.t j := of_decide_eq_true z
            obtain ⟨i, _, e⟩ := List.mem_map.mp (List.of_mem_zip (show (p.1, p.2) ∈ _ from hp)).1
            rw [z] at e
            cases e
          simp only [dctGet, this] at h
          cases h
    | _ => cases h
  | _ => cases h
theorem de_ixD {ea ec : Expr} {a c : Opd} {pos : Pos} (g : Gd n X b) (ha : DO X b ea a) (hc : DO X b ec c) (hs : NoSl ec := by exact fun _ _ => rfl) : DE X b (.Subscript ea ec pos) (e2 pIxD a c) :=
  PE.imp (pe_dget (by have := g.units; omega) ha.pe hc.pe hs) fun _ _ _ h => t2_run (r := rDIx) p2_ixD h
end
end Pk
/-! Br33: dicts whose keys are tuples of numbers: {}, k in d, list(d), d[k] = v, d.get(k, x). -/
namespace Pk
open PySem PySem.Spec PyProof.Rows L2
section
variable {X : Cx} {b : Bd} {n : Nat} {cn : Cn}
/-! ### {} -/
/-! ### in -/
/-! ### list(d) -/
/-! ### d[k] = v -/
/-! ### a method of a dict, be it locked or not -/
/-- a call o.name(..) as it is written: what the rules ask of its text alone -/
structure PlainM (X : Cx) (o : Expr) (name : Str) (e : Expr) (es : List Expr) (ap cp : Pos) : Prop where
  own : attributeBase o name X.env (eval o X.env) = eval o X.env
  few : ((backTo cp (starEach (e :: es) X.env)).all (fun x => !x.1) && (backToKw cp (keywordEach [] X.env)).all (fun x => x.1.isSome) && decide ((e :: es).length + ([] : List Keyword).length + (if ([] : List Keyword).isEmpty then 0 else 1) < 30)) = true
  row : (ap.endLine == cp.line) = true
  first : starEach (e :: es) X.env = (false, eval e X.env) :: starEach es X.env
  rest : (backTo cp (starEach es X.env)).any (·.1) = false
end
end Pk
/-! Br34: d.get(k, x), d.update(e), {k: v}. -/
namespace Pk
open PySem PySem.Spec PyProof.Rows L2
section
variable {X : Cx} {b : Bd} {n : Nat} {cn : Cn}
theorem look_slot {lb : Lb} {ρ : Env} {s : Sto} {σ : L2.St} {H : Hp} {i : Nat} {d : D} (o : Ok b lb ρ s σ H) (h : look ρ (.inr i) = some d) : ∃ v, σ[i]? = some (some v) ∧ RepB b.cn lb H d v := by
  unfold look at h
  cases q : ρ[i]? with
  | none => simp only [q] at h; cases h
  | some z =>
    simp only [q] at h
    cases z with
    | no => cases h
    | sh d' =>
      cases h
      obtain ⟨v, e1, r⟩ := o.sh i d q
      exact ⟨v, e1, .inl r⟩
    | ow d' =>
      cases h
      obtain ⟨a, ob, e1, l, z, w⟩ := o.ow i d q
      exact ⟨.ref a, e1, .inr ⟨a, ob, rfl, z, w⟩⟩
    | mt R => cases h
/-! ### d.get(k, x) -/
/-! ### d.update(e) -/
/-- the hashes of the cells -/
def hz (i j : Int) : Int := reduceHash (Builtin.Tuple.tupleHashOf [hashInt i, hashInt j])
theorem KT.mem {H : Hp} {kvs : List (List Key × V)} {xs : List (List Key × Addr × Value)} (r : KT H kvs xs) : ∀ x ∈ xs, ∃ p ∈ kvs, p.1 = x.1 := by
  induction r with
  | nil => intro x hx; cases hx
  | @cons p q ps qs h t ih =>
    intro x hx
    rcases List.mem_cons.mp hx with rfl | hx
    · exact ⟨p, List.mem_cons_self, h.1⟩
    · obtain ⟨p', h1, h2⟩ := ih x hx
      exact ⟨p', List.mem_cons_of_mem _ h1, h2⟩
end
end Pk
/-! Br35: {k: v}. -/
namespace Pk
open PySem PySem.Spec PyProof.Rows L2
end Pk
/-! Br36: d[k], y = a, c; x < y of tuples of numbers; sorted(set(x)). -/
namespace Pk
open PySem PySem.Spec PyProof.Rows L2
section
variable {X : Cx} {b : Bd} {n : Nat} {cn : Cn}
/-! ### x < y -/
end
end Pk
/-! Br37: set(x) of a list of numbers, in three parts: the loop, the __init__, the call. -/
namespace Pk
open PySem PySem.Spec PyProof.Rows L2
/-- from h on: the set of the numbers ns lies where h ended, and what was there still is -/
def Holds (w : World) (h : Heap) (ns : List Int) (h' : Heap) : Prop := (∃ c, c ≤ ns.length ∧ SetR w h' h.objs.size (fun j => decide (j ∈ ns)) c) ∧ ∀ d o, h.get? d = some o → h'.get? d = some o
end Pk
/-! Br38: sorted(set(x)) of numbers; a call of a def that a slot holds; a def as a value. -/
namespace Pk
open PySem PySem.Spec PyProof.Rows L2
section
variable {X : Cx} {b : Bd} {n : Nat} {cn : Cn}
/-! ### defs as values -/
/-- the defs that may come as values -/
def VTab (cn : Cn) (P : Program) (w : World) (mg : Str → Option Value) (base : Heap) (n : Nat) (Fs : List Fn) : Prop := ∀ (j : Nat) (F : Fn), Fs[j]? = some F → ∃ k x, k ≤ n ∧ FnG cn P w mg base k x F [] ∧ mg x = some (.ref (cn.fn j))
theorem VTab.nil {cn : Cn} {P : Program} {w : World} {mg : Str → Option Value} {base : Heap} {n : Nat} : VTab cn P w mg base n [] := fun j F h => by simp at h
theorem VTab.one {cn : Cn} {P : Program} {w : World} {mg : Str → Option Value} {base : Heap} {k : Nat} {x : Str} {F : Fn} (G : FnG cn P w mg base k x F []) (h : mg x = some (.ref (cn.fn 0))) : VTab cn P w mg base k [F] := fun j F' e => by
  cases j with
  | zero => cases e; exact ⟨k, x, Nat.le_refl _, G, h⟩
  | succ j => simp at e
end
end Pk
/-! Br40: a lambda is made; its promise. -/
namespace Pk
open PySem PySem.Spec PyProof.Rows L2
/-! ### the frame goes on -/
/-! ### what a lambda promises -/
def spL (cn : Cn) (L : List D → Fn) (ws vs : List V) (H : Hp) (Q : VK) (E : XK) : Prop := ∃ lb s caps ds, EOk cn lb s H ∧ RepL cn lb H caps ws ∧ RepL cn lb H ds vs ∧ match L caps ds s with
  | .ok d s' => ∀ lb' H' v, Stp lb H lb' H' → EOk cn lb' s' H' → Rep cn lb' H' d v → Q v H'
  | .exc x s' => ∀ lb' H' cls dx, Stp lb H lb' H' → EOk cn lb' s' H' → XRep cn lb' H' x cls dx → E cls dx H'
  | .bad => False
def LOk (cn : Cn) (P : Program) (w : World) (mg : Str → Option Value) (base : Heap) (k j : Nat) (L : List D → Fn) : Prop :=
  ∀ (A : Around) (outer : List PySem.Env) (s : Shared) (H : Hp) (f : Addr) (cl : List (Str × Addr)) (c : Addr) (us : List Value) (vs ws : List V) (Q : VK) (E : XK), Room k A → Env0 P w cn.K mg base A outer s H →
    H f = some (LamO f (cn.lm j) cl c) → H c = some (LamX.CodeO c (cn.lm j).qual) → NdefX.CellsAt cl (cn.lm j).fr (ws.map some) s.heap H → Vals vs us → spL cn L ws vs H Q E →
    codeAny (model P w) A (.call (.ref f) ⟨us, []⟩) (CR (L2.CX P w) outer P w H s Q E) s
end Pk
/-! Br41: sorted(x, key=f), f any function: it may call defs. -/
namespace Pk
open PySem PySem.Spec PyProof.Rows L2 PySem.W
end Pk
/-! Br42: sorted(x, key=lambda ..). -/
namespace Pk
open PySem PySem.Spec PyProof.Rows L2
/-! ### keys -/
section
variable {X : Cx} {b : Bd} {n : Nat}
/-- the frame at work while the keys are reckoned -/
structure KeyJ (b : Bd) (lb1 : Lb) (H2 : Hp) (ρ : Env) (σ : L2.St) (F : Fn) (l : List D) (KS : List D) (sF : Sto) (a : Addr) (oA : Obj) (kS : Addr) (i : Nat) (ks : List V) (H' : Hp) : Prop where
  ex : ∃ lb' st', Ok b lb' ρ st' σ H' ∧ Stp lb1 H2 lb' H' ∧ lb' a = some .out ∧ lb' kS = some .out ∧ keyGo F (l.drop i) st' = some (KS.drop i, sF) ∧ RepL b.cn lb' H' (KS.take i) ks
  ha : H' a = some (CelO a oA)
  hk : H' kS = some (.lst ks)
  len : ks.length = i
  na : H2 a = none
  nk : H2 kS = none
end
end Pk
/-! Br43: laws with lambdas: the entry, the end, the head's facts. -/
namespace Pk
open PySem PySem.Spec PyProof.Rows L2
/-! ### words of a lambda -/
/-! ### the entry -/
/-! ### the head's facts, with tables -/
structure SaysY (fa : List He.Fa) (fn : List He.DefD) (fx : PySem.W.Frag → Bool) (tf : List He.Defn) (h : Heap) (K : PySem.W.Frag) : Prop where
  x : SaysX fa fn fx K
  hd : ∀ p ∈ tf, PySem.W.codeHdIn K (He.cT K p).1 (He.cT K p).2 = true
  out : ∀ p ∈ tf, K.lookup (He.cT K p).2 = none
  empty : ∀ p ∈ tf, h.get? (He.cT K p).2 = some { cls := .none, data := .fields #[] }
  nd : (tf.map fun p => (He.cT K p).2).Nodup
end Pk
/-! Pk5: x.index(y). -/
namespace Pk
noncomputable section
def pIdx (x d : D) : Option D := match x with
  | .lst l => if (D.lst l).dep 64 && d.dep 64 then (l.findIdx? fun z => z.eqv d).map fun j => .int ((j : Nat) : Int) else .none
  | _ => .none
def eIdx (i : Nat) (m : M D) : M D := fun r s => match look r (.inr i) with
  | some (.lst _) => (m r s).bind fun d r s => opt ((look r (.inr i)).bind fun x => pIdx x d) r s
  | _ => .bad
end
end Pk
/-! Br44: x.index(y). -/
namespace Pk
open PySem PySem.Spec PyProof.Rows L2
section
variable {X : Cx} {b : Bd} {n : Nat} {cn : Cn}
theorem toPyL_get : ∀ (l : List D) (j : Nat), (toPyL l)[j]? = (l[j]?).map toPy
  | [], j => by simp [toPyL]
  | x :: l, 0 => by simp [toPyL]
  | x :: l, j + 1 => by simp only [toPyL, List.getElem?_cons_succ]; exact toPyL_get l j
theorem de_index {x : Expr} {i : Nat} {e : Expr} {m : M D} {apos cpos : Pos} (g : Gd n X b) (hx : PE X x (tVar i)) (h : DE X b e m) (hbase : attributeBase x "index" X.env (eval x X.env) = eval x X.env := by rfl)
    (hfew : ((backTo cpos (starEach [e] X.env)).all (fun x => !x.1) && (backToKw cpos (keywordEach [] X.env)).all (fun x => x.1.isSome) && decide ([e].length + ([] : List Keyword).length + (if ([] : List Keyword).isEmpty then 0 else 1) < 30)) = true := by rfl)
    (hline : (apos.endLine == cpos.line) = true := by rfl) (hs : starEach [e] X.env = (false, eval e X.env) :: starEach [] X.env := by rfl) :
    DE X b (.Call (.Attribute x "index" apos) [e] [] cpos) (eIdx i m) := by
  have hu : X.A.units + 65 < cLine := by have := g.units; omega
  refine PE.imp (pe_bm PySem.F.plainAttrs_list PySem.F.slot_list_index PySem.F.type_list_index (mt_indexD hu) hx (pa_cons h pa_nil hs) hbase hfew hline hs rfl) fun σ H Q ⟨lb, ρ, s, o, p⟩ => ?_
  unfold eIdx at p
  cases q : look ρ (.inr i) with
  | none => rw [q] at p; exact False.elim p
  | some d =>
    cases d with
    | lst l0 =>
      simp only [q] at p
      obtain ⟨v, e1, r0⟩ := look_slot o q
      obtain ⟨a, vs0, rfl, ea0, _, _⟩ := r0.lst
      refine ⟨.ref a, e1, .inl ⟨rfl, vs0, .of ea0⟩, lb, ρ, s, o, (Post.bind p).mono fun dv ρ1 s1 lb1 H1 st o1 k => fun v H2 ex r => ?_⟩
      have o2 := o1.ext ex
      have k := Post.from k (o1.stp_ext ex)
      obtain ⟨e, ee, k⟩ := opt_post o2 k
      cases q1 : look ρ1 (.inr i) with
      | none => rw [q1] at ee; cases ee
      | some d =>
        rw [q1] at ee
        simp only [Option.bind_some] at ee
        cases d with
        | lst l =>
          simp only [pIdx] at ee
          split at ee
          · rename_i hh
            obtain ⟨h1, h2⟩ := Bool.and_eq_true_iff.mp hh
            cases ej : l.findIdx? (fun z => z.eqv dv) with
            | none => rw [ej] at ee; cases ee
            | some j =>
              rw [ej] at ee
              cases ee
              obtain ⟨hj, hj1, hj2⟩ := List.findIdx?_eq_some_iff_getElem.mp ej
              obtain ⟨v1, e2, r1⟩ := look_slot o2 q1
              rw [e1] at e2
              cases e2
              have dp := dp_repB h1 r1
              have sh := shaped_py h1
              have dq := dp_rep h2 r
              rw [g.kk] at dp dq
              simp only [toPy] at dp sh
              have hd : l.all (D.dep 63) = true := by simpa [D.dep] using h1
              have hdm : ∀ z ∈ l, z.dep 63 = true := fun z hz => List.all_eq_true.mp hd z hz
              refine ⟨a, v, _, _, j, toPy l[j], rfl, rfl, dp, dq, sh, shaped_py h2, by rw [toPyL_get, List.getElem?_eq_getElem hj]; rfl, ?_, fun m z' hm hz => ?_, ?_⟩
              · rw [eqv_py _ _ 63 64 (hdm _ (List.getElem_mem hj)) h2]
                exact hj1
              · rw [toPyL_get, List.getElem?_eq_getElem (by omega)] at hz
                cases hz
                rw [eqv_py _ _ 63 64 (hdm _ (List.getElem_mem (by omega))) h2]
                have := hj2 m hm
                simpa using this
              · exact KV.now (show KV b.cn lb1 H2 _ Q from k) (by simp only [Rep])
          · cases ee
        | _ => cases ee
    | _ => simp only [q] at p; exact False.elim p
end
end Pk
/-! Br45: defs with defaults; calls with a keyword. -/
namespace Pk
open PySem PySem.Spec PyProof.Rows L2
end Pk
/-! Pk6: a call of a lambda that a slot holds. -/
namespace Pk
noncomputable section
end
end Pk
/-! Br46: a call of a lambda that a slot holds: the captured cells are hidden while it runs. -/
namespace Pk
open PySem PySem.Spec PyProof.Rows L2
section
variable {P : Program} {w : World}
open Classical in
noncomputable def cut (Z : Addr → Prop) (H : Hp) : Hp := fun a => if Z a then none else H a
open Classical in
noncomputable def put (Z : Addr → Prop) (H H' : Hp) : Hp := fun a => if Z a then H a else H' a
theorem cut_out {Z : Addr → Prop} {H : Hp} {a : Addr} (h : ¬ Z a) : cut Z H a = H a := by unfold cut; rw [if_neg h]
/-- the hidden things are cells -/
def CellsZ (Z : Addr → Prop) (lb : Lb) (H : Hp) (h : Heap) : Prop := ∀ a, Z a → lb a = none ∧ ∃ o, H a = some (CelO a o) ∧ h.get? a = some o ∧ ∃ u, o.data = .cell (some u)
end
section
variable {cn : Cn} {Z : Addr → Prop} {lb : Lb} {H : Hp} {h : Heap}
mutual
theorem rep_hide (C : CellsZ Z lb H h) : ∀ {x : D} {v : V} {n : Nat}, x.dep n = true → Rep cn lb H x v → Rep cn lb (cut Z H) x v
  | .none, v, n, hd, r => by simp only [Rep] at r ⊢; exact r
  | .bool b, v, n, hd, r => by simp only [Rep] at r ⊢; exact r
  | .int b, v, n, hd, r => by simp only [Rep] at r ⊢; exact r
  | .str b, v, n, hd, r => by simp only [Rep] at r ⊢; exact r
  | .lst l, v, 0, hd, r => by simp [D.dep] at hd
  | .tup l, v, 0, hd, r => by simp [D.dep] at hd
  | .lst l, v, n + 1, hd, r => by
    simp only [D.dep] at hd
    simp only [Rep] at r ⊢
    obtain ⟨a, vs, rfl, nl, z, rl⟩ := r
    refine ⟨a, vs, rfl, ⟨nl.1, ?_⟩, z, repL_hide C hd rl⟩
    rw [cut_out fun za => ?_]
    · exact nl.2
    · obtain ⟨_, o, e, _⟩ := C a za
      rw [nl.2] at e
      unfold CelO at e
      cases e
  | .tup l, v, n + 1, hd, r => by
    simp only [D.dep] at hd
    simp only [Rep] at r ⊢
    obtain ⟨a, vs, rfl, nl, z, rl⟩ := r
    refine ⟨a, vs, rfl, ⟨nl.1, ?_⟩, z, repL_hide C hd rl⟩
    rw [cut_out fun za => ?_]
    · exact nl.2
    · obtain ⟨_, o, e, _⟩ := C a za
      rw [nl.2] at e
      unfold CelO at e
      cases e
  | .dct _ _, v, n, hd, r => by cases n <;> simp [D.dep] at hd
  | .fn _, v, n, hd, r => by cases n <;> simp [D.dep] at hd
  | .clo _ _, v, n, hd, r => by cases n <;> simp [D.dep] at hd
  | .town, v, n, hd, r => by cases n <;> simp [D.dep] at hd
  | .obj _, v, n, hd, r => by cases n <;> simp [D.dep] at hd
  | .scr _, v, n, hd, r => by cases n <;> simp [D.dep] at hd
theorem repL_hide (C : CellsZ Z lb H h) : ∀ {l : List D} {vs : List V} {n : Nat}, l.all (D.dep n) = true → RepL cn lb H l vs → RepL cn lb (cut Z H) l vs
  | [], vs, n, hd, r => by simp only [RepL] at r ⊢; exact r
  | x :: l, vs, n, hd, r => by
    simp only [List.all_cons, Bool.and_eq_true] at hd
    simp only [RepL] at r ⊢
    obtain ⟨v, r', rfl, r1, r2⟩ := r
    exact ⟨v, r', rfl, rep_hide C hd.1 r1, repL_hide C hd.2 r2⟩
end
end
/-- the lambdas that may come as values -/
def LTab (cn : Cn) (P : Program) (w : World) (mg : Str → Option Value) (base : Heap) (n : Nat) (Lt : List (Nat × (List D → Fn))) : Prop := ∀ (j : Nat) (L : List D → Fn), Lt.lookup j = some L → ∃ k, k ≤ n ∧ LOk cn P w mg base k j L
theorem LTab.nil {cn : Cn} {P : Program} {w : World} {mg : Str → Option Value} {base : Heap} {n : Nat} : LTab cn P w mg base n [] := fun j F h => by cases h
theorem LTab.cons {cn : Cn} {P : Program} {w : World} {mg : Str → Option Value} {base : Heap} {n k j : Nat} {L : List D → Fn} {Lt : List (Nat × (List D → Fn))} (h : LOk cn P w mg base k j L) (hk : k ≤ n) (t : LTab cn P w mg base n Lt) : LTab cn P w mg base n ((j, L) :: Lt) := fun i M e => by
  rw [List.lookup_cons] at e
  split at e
  · rename_i q
    cases e
    have : i = j := by simpa using q
    subst this
    exact ⟨k, hk, h⟩
  · exact t i M e
end Pk
/-! Br47: a def that hands back a lambda: its cells are told when the call ends. -/
namespace Pk
open PySem PySem.Spec PyProof.Rows L2
end Pk
/-! Br48: a call of a def with a lambda as the last argument: its cells are told for the callee. -/
namespace Pk
open PySem PySem.Spec PyProof.Rows L2
end Pk
/-! Br49: a call of a def with a lambda as the last argument: the rule. -/
namespace Pk
open PySem PySem.Spec PyProof.Rows L2
end Pk
/-! Br50: d.get(k); three names at once, the last a constant. -/
namespace Pk
open PySem PySem.Spec PyProof.Rows L2
end Pk
/-! Br51: x in (..). -/
namespace Pk
open PySem PySem.Spec PyProof.Rows L2
end Pk
/-! Pk7: dicts whose keys are numbers. -/
namespace Pk
noncomputable section
/-! texts -/
end
end Pk
/-! Br52: dicts whose keys are numbers: d[k], d[k] = v. -/
namespace Pk
open PySem PySem.Spec PyProof.Rows L2
section
variable {X : Cx} {b : Bd} {n : Nat} {cn : Cn}
/-! ### d[k] = v -/
end
end Pk
/-! Br53: sep.join(texts), a sign times a number. -/
namespace Pk
open PySem PySem.Spec PyProof.Rows L2
end Pk
/-! Pk8: what a walk over a dict draws. -/
namespace Pk
noncomputable section
end
end Pk
/-! Br54: a comprehension over a dict's keys. -/
namespace Pk
open PySem PySem.Spec PyProof.Rows L2
/-- two heaps that are the same but for the lock of one dict that nobody may change -/
structure Lk (lb : Lb) (H H' : Hp) : Prop where
  none : ∀ a, H a = none ↔ H' a = none
  lab : ∀ a l, lb a = some l → H' a = H a
  rest : ∀ a o, H a = some o → (∀ kvs, o ≠ .dT kvs) → (∀ od kvs, o ≠ .frz od (.dT kvs)) → H' a = some o
  rd : ∀ a kvs, Rd H a (.dT kvs) → Rd H' a (.dT kvs)
section
variable {cn : Cn} {lb : Lb} {H H' : Hp}
theorem Lk.rdK (k : Lk lb H H') {a : Addr} {kvs : List (Key × V)} (h : Rd H a (.dK kvs)) : Rd H' a (.dK kvs) := by
  rcases h with h | ⟨o, h⟩
  · exact .inl (k.rest a _ h (fun _ e => nomatch e) (fun _ _ e => nomatch e))
  · exact .inr ⟨o, k.rest a _ h (fun _ e => nomatch e) (fun _ _ e => by cases e)⟩
theorem Lk.rdL (k : Lk lb H H') {a : Addr} {vs : List V} (h : Rd H a (.lst vs)) : Rd H' a (.lst vs) := by
  rcases h with h | ⟨o, h⟩
  · exact .inl (k.rest a _ h (fun _ e => nomatch e) (fun _ _ e => nomatch e))
  · exact .inr ⟨o, k.rest a _ h (fun _ e => nomatch e) (fun _ _ e => by cases e)⟩
theorem Lk.ext (k : Lk lb H H') {a : Addr} {P : Heap → Prop} (h : H a = some (.ext P)) : H' a = some (.ext P) := k.rest a _ h (fun _ e => nomatch e) (fun _ _ e => nomatch e)
mutual
theorem Rep.lk (k : Lk lb H H') : ∀ {d : D} {v : V}, Rep cn lb H d v → Rep cn lb H' d v
  | .none, v, h => by simpa only [Rep] using h
  | .bool b, v, h => by simpa only [Rep] using h
  | .int b, v, h => by simpa only [Rep] using h
  | .str b, v, h => by simpa only [Rep] using h
  | .tup l, v, h => by
    simp only [Rep] at h ⊢
    obtain ⟨a, vs, e, n, z, r⟩ := h
    exact ⟨a, vs, e, ⟨n.1, k.rest a _ n.2 (fun _ e => nomatch e) (fun _ _ e => nomatch e)⟩, z, RepL.lk k r⟩
  | .lst l, v, h => by
    simp only [Rep] at h ⊢
    obtain ⟨a, vs, e, n, z, r⟩ := h
    exact ⟨a, vs, e, ⟨n.1, k.rest a _ n.2 (fun _ e => nomatch e) (fun _ _ e => nomatch e)⟩, z, RepL.lk k r⟩
  | .dct ks ds, v, h => by
    simp only [Rep] at h ⊢
    obtain ⟨a, vs, e, n, z, r, l, nd, c⟩ := h
    rcases c with ⟨js, e1, e2⟩ | ⟨js, e1, e2⟩
    · exact ⟨a, vs, e, n, z, RepL.lk k r, l, nd, .inl ⟨js, e1, k.rd a _ e2⟩⟩
    · exact ⟨a, vs, e, n, z, RepL.lk k r, l, nd, .inr ⟨js, e1, k.rdK e2⟩⟩
  | .fn b, v, h => by simpa only [Rep] using h
  | .clo j l, v, h => by
    simp only [Rep] at h ⊢
    obtain ⟨f, cl, c, ws, e, ⟨f1, f2⟩, ⟨c1, c2⟩, cr, r⟩ := h
    refine ⟨f, cl, c, ws, e, ⟨f1, k.ext f2⟩, ⟨c1, k.ext c2⟩, ⟨cr.len, cr.sub, cr.inj, fun i y e => ?_⟩, RepL.lk k r⟩
    obtain ⟨c, o, u, v, h1, h2, h3, h4⟩ := cr.at_ i y e
    exact ⟨c, o, u, v, h1, h2, k.ext h3, h4⟩
  | .town, v, h => by simpa only [Rep] using h
  | .obj j, v, h => by simpa only [Rep] using h
  | .scr l, v, h => by
    simp only [Rep] at h ⊢
    obtain ⟨a, e, n, z⟩ := h
    refine ⟨a, e, ?_, z⟩
    rcases n with ⟨n1, n2⟩ | n
    · exact .inl ⟨n1, k.rdL n2⟩
    · exact .inr n
theorem RepL.lk (k : Lk lb H H') : ∀ {ds : List D} {vs : List V}, RepL cn lb H ds vs → RepL cn lb H' ds vs
  | [], vs, h => by simpa only [RepL] using h
  | d :: ds, vs, h => by
    simp only [RepL] at h ⊢
    obtain ⟨v, r, e, h1, h2⟩ := h
    exact ⟨v, r, e, Rep.lk k h1, RepL.lk k h2⟩
end
theorem OwnO.lk {d : D} {o : HO} (h : OwnO cn lb H d o) (k : Lk lb H H') : OwnO cn lb H' d o := by
  cases d with
  | lst l => obtain ⟨vs, e, z, r⟩ := h; exact ⟨vs, e, z, r.lk k⟩
  | dct ks ds => obtain ⟨vs, z, r, l, nd, c⟩ := h; exact ⟨vs, z, r.lk k, l, nd, c⟩
  | _ => exact h.elim
theorem FldOk.lk {n : Nat} (k : Lk lb H H') : ∀ {fs : List (Str × D)} {fv : List (Str × V)}, FldOk cn lb H n fs fv → FldOk cn lb H' n fs fv
  | [], _, h => h
  | (f, d) :: fs, fv, h => by
    obtain ⟨v, r, e, h1, h2⟩ := h
    refine ⟨v, r, e, ?_, FldOk.lk k h2⟩
    unfold FOk at h1 ⊢
    cases d with
    | lst l =>
      obtain ⟨p, o, e, lp, hp, w⟩ := h1
      exact ⟨p, o, e, lp, by rw [k.lab p _ lp]; exact hp, w.lk k⟩
    | _ => exact Rep.lk k h1
theorem MtL.lk {i : Nat} (k : Lk lb H H') : ∀ {as : List Addr} {R : List (List D)}, MtL cn lb H i as R → MtL cn lb H' i as R
  | as, [], h => h
  | as, l :: R, h => by
    obtain ⟨r, as', vs, e, h1, h2, h3, h4, h5⟩ := h
    exact ⟨r, as', vs, e, h1, by rw [k.lab r _ h1]; exact h2, h3, h4.lk k, MtL.lk k h5⟩
theorem StoOk.lk {s : Sto} (h : StoOk cn lb s H) (k : Lk lb H H') : StoOk cn lb s H' where
  town := fun a e => by rw [k.lab a _ e]; exact h.town a e
  objs := fun n fs e => by
    obtain ⟨a, dx, fv, l1, l2, h1, h2, w⟩ := h.objs n fs e
    exact ⟨a, dx, fv, l1, l2, by rw [k.lab a _ l1]; exact h1, by rw [k.lab dx _ l2]; exact h2, w.lk k⟩
  uniq := h.uniq
  dom := h.dom
  flds := h.flds
  nods := h.nods
  tabs := fun n p e => by
    obtain ⟨h1, ps, h2, h3, h4⟩ := h.tabs n p e
    refine ⟨h1, ps, by rw [k.lab _ _ h1]; exact h2, h3, fun pos cv q => ?_⟩
    obtain ⟨c, e1, e2, e3⟩ := h4 pos cv q
    exact ⟨c, e1, e2, k.ext e3⟩
/-- .. and the frame stands, with another beginning -/
theorem BOk.lk {lb0 lb1 : Lb} {H0 H1 : Hp} {ρ : Env} {s : Sto} {σ : L2.St} (b : BOk cn lb0 H0 lb ρ s σ H) (k : Lk lb H H') (si : Stp lb1 H1 lb H') : BOk cn lb1 H1 lb ρ s σ H' := by
  refine ⟨si, b.sto.lk k, fun a l e => by rw [k.lab a l e]; exact b.has a l e, b.len, fun i d h => ?_, fun i d h => ?_, fun i R h => ?_⟩
  · obtain ⟨v, e1, r⟩ := b.sh i d h
    exact ⟨v, e1, r.lk k⟩
  · obtain ⟨a, o, e1, l, q, w⟩ := b.ow i d h
    exact ⟨a, o, e1, l, by rw [k.lab a _ l]; exact q, w.lk k⟩
  · obtain ⟨a, e1, l, as, q, nd, sz, w⟩ := b.mt i R h
    exact ⟨a, e1, l, as, by rw [k.lab a _ l]; exact q, nd, sz, w.lk k⟩
end
end Pk
/-! Br55: the rule of a comprehension over a dict's keys. -/
namespace Pk
open PySem PySem.Spec PyProof.Rows L2
section
variable {X : Cx} {b : Bd} {n : Nat}
/-- the same with another beginning -/
abbrev Bd.at (b : Bd) (l0 : Lb) (h0 : Hp) : Bd := { b with lb0 := l0, H0 := h0 }
theorem Gd.at (g : Gd n X b) (l0 : Lb) (h0 : Hp) : Gd n X (b.at l0 h0) := ⟨g.kk, g.calm, g.nd, g.tk, g.room, g.po⟩
end
end Pk
/-! Pk9: a list of new lists that only one slot knows. -/
namespace Pk
noncomputable section
end
end Pk
/-! Pka: objects of one class: fields, methods. -/
namespace Pk
open PySem (Str)
noncomputable section
def putFD (f : Str) (d : D) : List (Str × D) → List (Str × D)
  | [] => [(f, d)]
  | (k, x) :: r => if k = f then (k, d) :: r else (k, x) :: putFD f d r
def Sto.fs (s : Sto) (n : Nat) : List (Str × D) := s.o.getD n []
def Sto.fld (s : Sto) (n : Nat) (f : Str) : Option D := (s.o[n]?).bind fun fs => fs.lookup f
def Sto.put (s : Sto) (n : Nat) (f : Str) (d : D) : Sto := { s with o := s.o.set n (putFD f d (s.fs n)) }
def D.isL : D → Bool
  | .lst _ => true
  | _ => false
/-- the field may be set anew: there, no list, not too many -/
def Sto.free (s : Sto) (n : Nat) (f : Str) : Bool := lim (n < s.o.length ∧ (s.fs n).length < 1000) && !(((s.fld n f).getD .none).isL)
end
end Pk
/-! Pkb: objects compared, written; numbers as texts. -/
namespace Pk
open PySem (Str)
noncomputable section
end
end Pk
/-! Pkc: texts: int(x), len, in, split, slices, times. -/
namespace Pk
open PySem (Str)
noncomputable section
end
end Pk
/-! Pkd: comprehensions whose element may raise. -/
namespace Pk
open PySem (Str)
noncomputable section
end
end Pk
/-! Pke: a call of a def that is told of no object; lists that a def told, which are then changed. -/
namespace Pk
noncomputable section
end
end Pk
namespace Pk
open PySem (Str)
noncomputable section
variable (Lt : List (Nat × (List D → Fn))) (Rc : Fn)
def bo_is_whole : S :=
    (sRet (eAnd (e1 pIsInt (.v (eV 0))) (eAnd (eNot (e1 pIsBool (.v (eV 0)))) (eChain pLe pLe (eV 1) (eV 0) (eV 2)))))
def py_is_whole : Fn := fnOf 3 3 bo_is_whole
def co_is_line_0 : M D :=
    (eComp (iOf (eV 0)) (.n 2) [2] eYes (eCall py_is_whole [(eV 2), (eC (.int 0)), (eC (.int 999))] []))
def bo_is_line : S :=
    (sSeq (sIf (eOr (eNot (e1 pIsTup (.v (eV 0)))) (e2 pNe (.v (eLen (.v (eV 0)))) (.v (eV 1)))) (sRet (eC (.bool false))) sNil)
    (sRet (e1 pAll (.v co_is_line_0))))
def py_is_line : Fn := fnOf 2 3 bo_is_line
def co_is_land_0 : M D :=
    (eComp (iOf (eV 0)) (.n 1) [1] eYes (eCall py_is_line [(eV 1), (eLen (.v (e2 pIx (.v (eV 0)) (.v (eC (.int 0))))))] []))
def bo_is_land : S :=
    (sSeq (sIf (eOr (eNot (e1 pIsTup (.v (eV 0)))) (eNot (eChain pLe pLe (eC (.int 1)) (eLen (.v (eV 0))) (eC (.int 8))))) (sRet (eC (.bool false))) sNil)
    (sSeq (sIf (eOr (eNot (e1 pIsTup (.v (e2 pIx (.v (eV 0)) (.v (eC (.int 0))))))) (eNot (eChain pLe pLe (eC (.int 1)) (eLen (.v (e2 pIx (.v (eV 0)) (.v (eC (.int 0)))))) (eC (.int 8))))) (sRet (eC (.bool false))) sNil)
    (sRet (e1 pAll (.v co_is_land_0)))))
def py_is_land : Fn := fnOf 1 2 bo_is_land
def bo_need_land : S :=
    (sIf (eNot (eCall py_is_land [(eV 0)] [])) (sRaise 0 .none) sNil)
def py_need_land : Fn := fnOf 1 1 bo_need_land
def bo_is_cell : S :=
    (sSeq (sIf (eOr (eNot (e1 pIsTup (.v (eV 1)))) (e2 pNe (.v (eLen (.v (eV 1)))) (.v (eC (.int 2))))) (sRet (eC (.bool false))) sNil)
    (sRet (eAnd (eCall py_is_whole [(e2 pIx (.v (eV 1)) (.v (eC (.int 0)))), (eC (.int 0)), (e2 pSub (.v (eLen (.v (eV 0)))) (.v (eC (.int 1))))] []) (eCall py_is_whole [(e2 pIx (.v (eV 1)) (.v (eC (.int 1)))), (eC (.int 0)), (e2 pSub (.v (eLen (.v (e2 pIx (.v (eV 0)) (.v (eC (.int 0))))))) (.v (eC (.int 1))))] []))))
def py_is_cell : Fn := fnOf 2 2 bo_is_cell
def co_cells_of_0 : M D :=
    (eComp (iRange1 (eLen (.v (e2 pIx (.v (eV 0)) (.v (eC (.int 0))))))) (.n 3) [3] eYes (eTup [(eV 2), (eV 3)]))
def fo_cells_of_0 : S :=
    (sExtend 1 co_cells_of_0)
def bo_cells_of : S :=
    (sSeq (sSet true 1 (eLst []))
    (sSeq (sFor (iRange1 (eLen (.v (eV 0)))) (.n 2) fo_cells_of_0)
    (sRet (eV 1))))
def py_cells_of : Fn := fnOf 1 4 bo_cells_of
def bo_at : S :=
    (sRet (e2 pIx (.v (e2 pIx (.v (eV 0)) (.v (e2 pIx (.v (eV 1)) (.v (eC (.int 0))))))) (.v (e2 pIx (.v (eV 1)) (.v (eC (.int 1)))))))
def py_at : Fn := fnOf 2 2 bo_at
def fo_law_cell_at_0 : S :=
    (sSet false 2 (e2 pFdiv (.v (eV 2)) (.v (eC (.int 1000003)))))
def bo_law_cell_at : S :=
    (sSeq (sIf (e2 pLt (.v (eV 1)) (.v (eLen (.v (eV 0))))) (sRet (e2 pIx (.v (eV 0)) (.v (eV 1)))) sNil)
    (sSeq (sIf (e1 pScr0 (.v (eV 0))) (sRet (eC (.int 0))) sNil)
    (sSeq (sSet false 2 (e2 pIx (.v (eV 0)) (.v (e2 pMod (.v (eV 1)) (.v (eLen (.v (eV 0))))))))
    (sSeq (sFor (iRange1 (e2 pMin2 (.v (e2 pFdiv (.v (eV 1)) (.v (eLen (.v (eV 0)))))) (.v (eC (.int 60))))) (.n 3) fo_law_cell_at_0)
    (sRet (e2 pAdd (.v (e2 pAdd (.v (e2 pMul (.v (e2 pIx (.v (eV 0)) (.v (e2 pMod (.v (eV 1)) (.v (eLen (.v (eV 0)))))))) (.v (eC (.int 31))))) (.v (eV 1)))) (.v (e2 pMul (.v (eV 2)) (.v (eC (.int 101)))))))))))
def py_law_cell_at : Fn := fnOf 2 4 bo_law_cell_at
def bo_law_mixed : S :=
    (sSeq (sSet false 3 (e2 pMod (.v (e2 pAdd (.v (e2 pAdd (.v (e2 pMul (.v (eCall py_law_cell_at [(eV 0), (eV 1)] [])) (.v (eC (.int 1103515245))))) (.v (e2 pMul (.v (eC (.int 7919))) (.v (eV 1)))))) (.v (eC (.int 12345))))) (.v (eC (.int 2147483647)))))
    (sRet (e2 pMod (.v (e2 pMod (.v (e2 pMod (.v (e2 pPow (.v (eV 3)) (.v (eC (.int 5))))) (.v (eC (.int 2147483647))))) (.v (eC (.int 999983))))) (.v (eV 2)))))
def py_law_mixed : Fn := fnOf 3 4 bo_law_mixed
def bo_law_draw : S :=
    (sSeq (sTown 1)
    (sRet (eCall py_law_mixed [(eV 0), (eLen (.v (eV 1))), (eV 2)] [])))
def py_law_draw : Fn := fnOf 3 3 bo_law_draw
def bo_law_pick : S :=
    (sRet (e2 pIx (.v (eV 2)) (.v (eCall py_law_draw [(eV 0), (eV 1), (eLen (.v (eV 2)))] []))))
def py_law_pick : Fn := fnOf 3 3 bo_law_pick
def bo_need_cell : S :=
    (sIf (eNot (eCall py_is_cell [(eV 0), (eV 1)] [])) (sRaise 1 (some (eV 1))) sNil)
def py_need_cell : Fn := fnOf 2 2 bo_need_cell
def bo_need_both : S :=
    (sSeq (sExpr (eCall py_need_land [(eV 0)] []))
    (sExpr (eCall py_need_cell [(eV 0), (eV 1)] [])))
def py_need_both : Fn := fnOf 2 2 bo_need_both
def co_law_cells_0 : M D :=
    (eComp (iRange1 (eLen (.v (e2 pIx (.v (eV 0)) (.v (eC (.int 0))))))) (.n 3) [3] eYes (eTup [(eV 2), (eV 3)]))
def fo_law_cells_0 : S :=
    (sExtend 1 co_law_cells_0)
def bo_law_cells : S :=
    (sSeq (sSet true 1 (eLst []))
    (sSeq (sFor (iRange1 (eLen (.v (eV 0)))) (.n 2) fo_law_cells_0)
    (sRet (eV 1))))
def py_law_cells : Fn := fnOf 1 4 bo_law_cells
def wh_common_part_0 : S :=
    (sWhile (e2 pNe (.v (eV 1)) (.v (eC (.int 0)))) (sPar false false 0 1 (eV 1) (e2 pMod (.v (eV 0)) (.v (eV 1)))))
def bo_common_part : S :=
    (sSeq wh_common_part_0
    (sRet (eV 0)))
def py_common_part : Fn := fnOf 2 2 bo_common_part
def co_between_of_0 : M D :=
    (eComp (iRange2 (eC (.int 1)) (eV 4)) (.n 5) [5] eYes (eTup [(e2 pAdd (.v (e2 pIx (.v (eV 0)) (.v (eC (.int 0))))) (.v (e2 pFdiv (.v (e2 pMul (.v (eV 2)) (.v (eV 5)))) (.v (eV 4))))), (e2 pAdd (.v (e2 pIx (.v (eV 0)) (.v (eC (.int 1))))) (.v (e2 pFdiv (.v (e2 pMul (.v (eV 3)) (.v (eV 5)))) (.v (eV 4)))))]))
def bo_between_of : S :=
    (sSeq (sPar false false 2 3 (e2 pSub (.v (e2 pIx (.v (eV 1)) (.v (eC (.int 0))))) (.v (e2 pIx (.v (eV 0)) (.v (eC (.int 0)))))) (e2 pSub (.v (e2 pIx (.v (eV 1)) (.v (eC (.int 1))))) (.v (e2 pIx (.v (eV 0)) (.v (eC (.int 1)))))))
    (sSeq (sSet false 4 (eCall py_common_part [(e1 pAbs (.v (eV 2))), (e1 pAbs (.v (eV 3)))] []))
    (sRet co_between_of_0)))
def py_between_of : Fn := fnOf 2 6 bo_between_of
def fo_sees_of_0 : S :=
    (sSeq (sSet false 7 (e2 pAdd (.v (e2 pMul (.v (eCall py_at [(eV 0), (eV 1)] [])) (.v (e2 pSub (.v (e2 pSub (.v (eV 4)) (.v (eV 5)))) (.v (eC (.int 1))))))) (.v (e2 pMul (.v (eCall py_at [(eV 0), (eV 2)] [])) (.v (e2 pAdd (.v (eV 5)) (.v (eC (.int 1)))))))))
    (sIf (e2 pGe (.v (e2 pMul (.v (eCall py_at [(eV 0), (eV 6)] [])) (.v (eV 4)))) (.v (eV 7))) (sRet (eC (.bool false))) sNil))
def bo_sees_of : S :=
    (sSeq (sSet false 3 (eCall py_between_of [(eV 1), (eV 2)] []))
    (sSeq (sSet false 4 (e2 pAdd (.v (eLen (.v (eV 3)))) (.v (eC (.int 1)))))
    (sSeq (sFor (iEnumA (eV 3)) (.t [(.n 5), (.n 6)]) fo_sees_of_0)
    (sRet (eC (.bool true))))))
def py_sees_of : Fn := fnOf 3 8 bo_sees_of
def co_seen_of_0 : M D :=
    (eComp (iOf (eCall py_cells_of [(eV 0)] [])) (.n 2) [2] (eCall py_sees_of [(eV 0), (eV 1), (eV 2)] []) (eV 2))
def bo_seen_of : S :=
    (sRet co_seen_of_0)
def py_seen_of : Fn := fnOf 2 3 bo_seen_of
def bo_seen : S :=
    (sSeq (sExpr (eCall py_need_both [(eV 0), (eV 1)] []))
    (sRet (eCall py_seen_of [(eV 0), (eV 1)] [])))
def py_seen : Fn := fnOf 2 2 bo_seen
def co_choices_0 : M D :=
    (eComp (iOf (eCall Rc [(eCut (.v (eV 0)) (some (e2 pAdd (.v (eV 3)) (.v (eC (.int 1))))) none), (e2 pSub (.v (eV 1)) (.v (eC (.int 1))))] [])) (.n 5) [5] eYes (e2 pAdd (.v (eLst [(eV 4)])) (.v (eV 5))))
def fo_choices_0 : S :=
    (sExtend 2 (co_choices_0 Rc))
def bo_choices : S :=
    (sSeq (sIf (e2 pEq (.v (eV 1)) (.v (eC (.int 0)))) (sRet (eLst [(eLst [])])) sNil)
    (sSeq (sSet true 2 (eLst []))
    (sSeq (sFor (iEnumA (eV 0)) (.t [(.n 3), (.n 4)]) (fo_choices_0 Rc))
    (sRet (eV 2)))))
def py_choices : Nat → Fn
  | 0 => fnOf 2 6 (sSeq sNever (sSeq sNever (sSeq sNever sNever)))
  | k + 1 => fnOf 2 6 (bo_choices (py_choices k))
def co_watchers_0 : M D :=
    (eComp (iOf (eV 4)) (.n 6) [6] eYes (e2 pIn (.v (eV 5)) (.v (e2 pIxD (.v (eV 2)) (.v (eV 6))))))
def co_watchers_1 : M D :=
    (eComp (iOf (eV 1)) (.n 5) [5] eYes (e1 pAny (.v co_watchers_0)))
def fo_watchers_0 : S :=
    (sIf (e1 pAll (.v co_watchers_1)) (sRet (eV 4)) sNil)
def fo_watchers_1 : S :=
    (sFor (iOf (eCall (py_choices 13) [(eV 1), (eV 3)] [])) (.n 4) fo_watchers_0)
def co_watchers_2 : M D :=
    (eComp (iOf (eV 1)) (.n 5) [5] eYes (eTup [(eV 5), (eCall py_seen_of [(eV 0), (eV 5)] [])]))
def bo_watchers : S :=
    (sSeq (sExpr (eCall py_need_land [(eV 0)] []))
    (sSeq (sSet false 1 (eCall py_cells_of [(eV 0)] []))
    (sSeq (sIf (e2 pGt (.v (eLen (.v (eV 1)))) (.v (eC (.int 12)))) (sRaise 10 .none) sNil)
    (sSeq (sSet false 2 (e1 pDict (.v co_watchers_2)))
    (sSeq (sFor (iRange2 (eC (.int 1)) (eLen (.v (eV 1)))) (.n 3) fo_watchers_1)
    (sRet (eV 1)))))))
def py_watchers : Fn := fnOf 1 7 bo_watchers
def co_law_lists_0 : M D :=
    (eComp (iRange2 (e2 pAdd (.v (e2 pIx (.v (e2 pAdd (.v (eV 3)) (.v (eLst [(e1 pNeg (.v (eC (.int 1))))])))) (.v (e2 pMax2 (.v (eC (.int 0))) (.v (e2 pSub (.v (eLen (.v (eV 3)))) (.v (eC (.int 1))))))))) (.v (eC (.int 1)))) (eV 0)) (.n 4) [4] eYes (e2 pAdd (.v (eV 3)) (.v (eLst [(eV 4)]))))
def fo_law_lists_0 : S :=
    (sExtend 2 co_law_lists_0)
def bo_law_lists : S :=
    (sSeq (sIf (e2 pEq (.v (eV 1)) (.v (eC (.int 0)))) (sRet (eLst [(eLst [])])) sNil)
    (sSeq (sSet true 2 (eLst []))
    (sSeq (sFor (iOf (eCall Rc [(eV 0), (e2 pSub (.v (eV 1)) (.v (eC (.int 1))))] [])) (.n 3) fo_law_lists_0)
    (sRet (eV 2)))))
def py_law_lists : Nat → Fn
  | 0 => fnOf 2 5 (sSeq sNever (sSeq sNever (sSeq sNever sNever)))
  | k + 1 => fnOf 2 5 (bo_law_lists (py_law_lists k))
end
end Pk
namespace Pk
open PySem (Str)
noncomputable section
def co_law_0 : M D :=
    (eComp (iOf (eV 14)) (.n 18) [18] (e2 pIn (.v (eV 17)) (.v (eCall py_seen [(eV 5), (eV 18)] []))) (eV 18))
def co_law_1 : M D :=
    (eComp (iOf (eV 6)) (.n 17) [17] (e2 pEq (.v co_law_0) (.v (eLst []))) (eV 17))
def co_law_2 : M D :=
    (eComp (iOf (eV 12)) (.n 18) [18] (e2 pNe (.v (eV 18)) (.v (eV 13))) (eV 18))
def fo_law_0 : S :=
    (sSeq (sSet false 14 co_law_2)
    (sIf (e2 pEq (.v co_law_1) (.v (eLst []))) (sRet (eC (.bool false))) sNil))
def co_law_3 : M D :=
    (eComp (iOf (eV 8)) (.n 16) [16] eYes (e2 pIx (.v (eV 6)) (.v (eV 16))))
def co_law_4 : M D :=
    (eComp (iOf (eV 10)) (.n 13) [13] (e2 pIn (.v (eV 16)) (.v (e2 pIx (.v (eV 7)) (.v (eV 13))))) (eC (.int 1)))
def co_law_5 : M D :=
    (eComp (iRange1 (eLen (.v (eV 6)))) (.n 16) [16] (e2 pEq (.v co_law_4) (.v (eLst []))) (eV 16))
def fo_law_1 : S :=
    (sIf (e2 pEq (.v (eV 8)) (.v (eLst []))) (sSeq (sSet false 11 co_law_5)
    (sSet false 8 (eIte (e2 pEq (.v (eV 11)) (.v (eLst []))) (eV 10) (eLst [])))) sNil)
def fo_law_2 : S :=
    (sSeq (sFor (iOf (eCall (py_law_lists 13) [(eLen (.v (eV 6))), (eV 9)] [])) (.n 10) fo_law_1)
    (sIf (e2 pNe (.v (eV 8)) (.v (eLst []))) sBrk sNil))
def co_law_6 : M D :=
    (eComp (iOf (eCall py_seen [(eV 5), (eV 13)] [])) (.n 17) [17] eYes (eIdx 6 (eV 17)))
def co_law_7 : M D :=
    (eComp (iOf (eV 6)) (.n 13) [13] eYes co_law_6)
def co_law_8 : M D :=
    (eComp (iRange1 (eV 3)) (.n 16) [16] eYes (eCall py_law_draw [(eV 0), (eV 1), (eV 4)] []))
def co_law_9 : M D :=
    (eComp (iRange1 (eV 2)) (.n 15) [15] eYes (e1 pTup (.v co_law_8)))
def bo_law : S :=
    (sSeq (sTown0 1)
    (sSeq (sAsg (.t [(.n 2), (.n 3)]) (eCall py_law_pick [(eV 0), (eV 1), (eLst [(eTup [(eC (.int 1)), (eC (.int 8))]), (eTup [(eC (.int 8)), (eC (.int 1))]), (eTup [(eC (.int 2)), (eC (.int 6))]), (eTup [(eC (.int 6)), (eC (.int 2))]), (eTup [(eC (.int 3)), (eC (.int 4))]), (eTup [(eC (.int 2)), (eC (.int 5))]), (eTup [(eC (.int 3)), (eC (.int 3))]), (eTup [(eC (.int 1)), (eC (.int 7))])])] []))
    (sSeq (sSet false 4 (eCall py_law_pick [(eV 0), (eV 1), (eLst [(eC (.int 2)), (eC (.int 3)), (eC (.int 10)), (eC (.int 1000))])] []))
    (sSeq (sSet false 5 (e1 pTup (.v co_law_9)))
    (sSeq (sSet false 6 (eCall py_law_cells [(eV 5)] []))
    (sSeq (sSet false 7 co_law_7)
    (sSeq (sSet false 8 (eLst []))
    (sSeq (sFor (iRange2 (eC (.int 1)) (e2 pAdd (.v (eLen (.v (eV 6)))) (.v (eC (.int 1))))) (.n 9) fo_law_2)
    (sSeq (sSet false 12 (eCall py_watchers [(eV 5)] []))
    (sSeq (sIf (e2 pNe (.v (eV 12)) (.v co_law_3)) (sRet (eC (.bool false))) sNil)
    (sSeq (sFor (iOf (eV 12)) (.n 13) fo_law_0)
    (sRet (eC (.bool true))))))))))))))
def py_law : Fn := fnOf 1 19 bo_law
end
end Pk
/-! Sp0: how the combinators compute; lands and cells as plain values. -/
namespace Pk
open PySem (Str)

@[simp] theorem and_bool {p : Prop} [Decidable p] : (if p then true else false) = decide p := by by_cases h : p <;> simp [h]

@[simp] theorem eqv_none_none   : D.eqv .none .none = true := by simp only [D.eqv]
@[simp] theorem eqv_none_bool  (c : Bool) : D.eqv .none (.bool c) = false := by simp only [D.eqv]
@[simp] theorem eqv_none_int  (c : Int) : D.eqv .none (.int c) = false := by simp only [D.eqv]
@[simp] theorem eqv_none_str  (c : Str) : D.eqv .none (.str c) = false := by simp only [D.eqv]
@[simp] theorem eqv_none_tup  (c : List D) : D.eqv .none (.tup c) = false := by simp only [D.eqv]
@[simp] theorem eqv_none_lst  (c : List D) : D.eqv .none (.lst c) = false := by simp only [D.eqv]
@[simp] theorem eqv_bool_none (a : Bool)  : D.eqv (.bool a) .none = false := by simp only [D.eqv]
@[simp] theorem eqv_bool_bool (a : Bool) (c : Bool) : D.eqv (.bool a) (.bool c) = (a == c) := by simp only [D.eqv]
@[simp] theorem eqv_bool_int (a : Bool) (c : Int) : D.eqv (.bool a) (.int c) = ((if a then 1 else 0) == c) := by simp only [D.eqv]
@[simp] theorem eqv_bool_str (a : Bool) (c : Str) : D.eqv (.bool a) (.str c) = false := by simp only [D.eqv]
@[simp] theorem eqv_bool_tup (a : Bool) (c : List D) : D.eqv (.bool a) (.tup c) = false := by simp only [D.eqv]
@[simp] theorem eqv_bool_lst (a : Bool) (c : List D) : D.eqv (.bool a) (.lst c) = false := by simp only [D.eqv]
@[simp] theorem eqv_int_none (a : Int)  : D.eqv (.int a) .none = false := by simp only [D.eqv]
@[simp] theorem eqv_int_bool (a : Int) (c : Bool) : D.eqv (.int a) (.bool c) = (a == (if c then 1 else 0)) := by simp only [D.eqv]
@[simp] theorem eqv_int_int (a : Int) (c : Int) : D.eqv (.int a) (.int c) = (a == c) := by simp only [D.eqv]
@[simp] theorem eqv_int_str (a : Int) (c : Str) : D.eqv (.int a) (.str c) = false := by simp only [D.eqv]
@[simp] theorem eqv_int_tup (a : Int) (c : List D) : D.eqv (.int a) (.tup c) = false := by simp only [D.eqv]
@[simp] theorem eqv_int_lst (a : Int) (c : List D) : D.eqv (.int a) (.lst c) = false := by simp only [D.eqv]
@[simp] theorem eqv_str_none (a : Str)  : D.eqv (.str a) .none = false := by simp only [D.eqv]
@[simp] theorem eqv_str_bool (a : Str) (c : Bool) : D.eqv (.str a) (.bool c) = false := by simp only [D.eqv]
@[simp] theorem eqv_str_int (a : Str) (c : Int) : D.eqv (.str a) (.int c) = false := by simp only [D.eqv]
@[simp] theorem eqv_str_str (a : Str) (c : Str) : D.eqv (.str a) (.str c) = (a == c) := by simp only [D.eqv]
@[simp] theorem eqv_str_tup (a : Str) (c : List D) : D.eqv (.str a) (.tup c) = false := by simp only [D.eqv]
@[simp] theorem eqv_str_lst (a : Str) (c : List D) : D.eqv (.str a) (.lst c) = false := by simp only [D.eqv]
@[simp] theorem eqv_tup_none (a : List D)  : D.eqv (.tup a) .none = false := by simp only [D.eqv]
@[simp] theorem eqv_tup_bool (a : List D) (c : Bool) : D.eqv (.tup a) (.bool c) = false := by simp only [D.eqv]
@[simp] theorem eqv_tup_int (a : List D) (c : Int) : D.eqv (.tup a) (.int c) = false := by simp only [D.eqv]
@[simp] theorem eqv_tup_str (a : List D) (c : Str) : D.eqv (.tup a) (.str c) = false := by simp only [D.eqv]
@[simp] theorem eqv_tup_tup (a : List D) (c : List D) : D.eqv (.tup a) (.tup c) = eqvL a c := by simp only [D.eqv]
@[simp] theorem eqv_tup_lst (a : List D) (c : List D) : D.eqv (.tup a) (.lst c) = false := by simp only [D.eqv]
@[simp] theorem eqv_lst_none (a : List D)  : D.eqv (.lst a) .none = false := by simp only [D.eqv]
@[simp] theorem eqv_lst_bool (a : List D) (c : Bool) : D.eqv (.lst a) (.bool c) = false := by simp only [D.eqv]
@[simp] theorem eqv_lst_int (a : List D) (c : Int) : D.eqv (.lst a) (.int c) = false := by simp only [D.eqv]
@[simp] theorem eqv_lst_str (a : List D) (c : Str) : D.eqv (.lst a) (.str c) = false := by simp only [D.eqv]
@[simp] theorem eqv_lst_tup (a : List D) (c : List D) : D.eqv (.lst a) (.tup c) = false := by simp only [D.eqv]
@[simp] theorem eqv_lst_lst (a : List D) (c : List D) : D.eqv (.lst a) (.lst c) = eqvL a c := by simp only [D.eqv]
@[simp] theorem eqvL_nn : eqvL [] [] = true := by simp only [eqvL]
@[simp] theorem eqvL_cc (x y : D) (l m : List D) : eqvL (x :: l) (y :: m) = (x.eqv y && eqvL l m) := by simp only [eqvL]
@[simp] theorem eqvL_nc (y : D) (m : List D) : eqvL [] (y :: m) = false := by simp only [eqvL]
@[simp] theorem eqvL_cn (x : D) (l : List D) : eqvL (x :: l) [] = false := by simp only [eqvL]
@[simp] theorem dep_none (n : Nat) : D.dep n .none = true := by cases n <;> rfl
@[simp] theorem dep_bool (n : Nat) (b : Bool) : D.dep n (.bool b) = true := by cases n <;> rfl
@[simp] theorem dep_int (n : Nat) (b : Int) : D.dep n (.int b) = true := by cases n <;> rfl
@[simp] theorem dep_lst (n : Nat) (l : List D) : D.dep (n + 1) (.lst l) = l.all (D.dep n) := rfl
@[simp] theorem dep_tup (n : Nat) (l : List D) : D.dep (n + 1) (.tup l) = l.all (D.dep n) := rfl

theorem setT_2 (r : Env) (i j : Nat) (x y : D) : setT r (.t [.n i, .n j]) (.tup [x, y]) = some ((r.set i (.sh x)).set j (.sh y)) := by simp only [setT, setTs, Option.bind_some]
/-! ### a def's run -/
theorem fnOf_rt {p n : Nat} {b : S} {ds : List D} {s s' : Sto} {d : D} {r : Env} (hl : ds.length = p) (h : b (startL n ds) s = .ok (.rt d) r s') : fnOf p n b ds s = .ok d s' := by
  unfold fnOf; rw [if_pos hl, h]
/-! ### comprehensions -/
theorem wipeL_len' (r : Env) : ∀ is : List Nat, (wipeL r is).length = r.length
  | [] => rfl
  | i :: is => by simp only [wipeL, List.length_set, wipeL_len' r is]
theorem wipeL_get {r : Env} {j : Nat} : ∀ {is : List Nat}, j ∉ is → (wipeL r is)[j]? = r[j]?
  | [], _ => rfl
  | i :: is, h => by
    simp only [wipeL]
    rw [List.getElem?_set_ne (fun e => h (by rw [e]; exact List.mem_cons_self)), wipeL_get fun z => h (List.mem_cons_of_mem _ z)]
theorem backL_len (r0 r : Env) : ∀ is : List Nat, (backL r0 r is).length = r.length
  | [] => rfl
  | i :: is => by simp only [backL, List.length_set, backL_len r0 r is]
theorem backL_same {r0 r : Env} {own : List Nat} (h : wipeL r own = wipeL r0 own) : backL r0 r own = r0 := by
  have hl : r.length = r0.length := by rw [← wipeL_len' r own, h, wipeL_len']
  have out : ∀ (is : List Nat) (j : Nat), j ∉ is → (backL r0 r is)[j]? = r[j]? := fun is j => by
    induction is with
    | nil => intro _; rfl
    | cons i is ih =>
      intro hn
      simp only [backL]
      rw [List.getElem?_set_ne (fun e => hn (by rw [e]; exact List.mem_cons_self)), ih fun z => hn (List.mem_cons_of_mem _ z)]
  have inn : ∀ (is : List Nat) (j : Nat), j ∈ is → j < r.length → (backL r0 r is)[j]? = some (r0.getD j .no) := fun is j => by
    induction is with
    | nil => intro h; cases h
    | cons i is ih =>
      intro h1 h2
      simp only [backL]
      by_cases hj : i = j
      · subst hj
        rw [List.getElem?_set, if_pos rfl, if_pos (by rw [backL_len]; exact h2)]
      · rw [List.getElem?_set_ne hj]
        rcases List.mem_cons.mp h1 with z | z
        · exact absurd z.symm hj
        · exact ih z h2
  apply List.ext_getElem?
  intro j
  by_cases hj : j ∈ own
  · by_cases hlt : j < r.length
    · rw [inn own j hj hlt, List.getD_eq_getElem?_getD, List.getElem?_eq_getElem (by omega)]
      rfl
    · rw [List.getElem?_eq_none (by rw [backL_len]; omega), List.getElem?_eq_none (by omega)]
  · rw [out own j hj, ← wipeL_get (r := r) hj, h, wipeL_get hj]
/-- a comprehension whose parts change nothing -/
theorem compLoop_pure {α : Type} {g : Tg} {own : List Nat} {c e : M D} {W : Env} {s : Sto} (enc : α → D) (p : α → Bool) (f : α → D) : ∀ (xs : List α) (acc : List D) (r : Env), wipeL r own = W →
    (∀ x ∈ xs, ∃ r2, setT W g (enc x) = some r2 ∧ wipeL r2 own = W ∧ c r2 s = .ok (.bool (p x)) r2 s ∧ (p x = true → e r2 s = .ok (f x) r2 s)) →
    ∃ r', wipeL r' own = W ∧ compLoop g own c e (xs.map enc) acc r s = .ok (acc.reverse ++ (xs.filter p).map f) r' s
  | [], acc, r, hr, _ => ⟨r, hr, by simp [compLoop]⟩
  | x :: xs, acc, r, hr, h => by
    obtain ⟨r2, h1, h2, h3, h4⟩ := h x List.mem_cons_self
    have hx : ∀ y ∈ xs, ∃ r2, setT W g (enc y) = some r2 ∧ wipeL r2 own = W ∧ c r2 s = .ok (.bool (p y)) r2 s ∧ (p y = true → e r2 s = .ok (f y) r2 s) := fun y hy => h y (List.mem_cons_of_mem _ hy)
    simp only [List.map_cons, compLoop, hr, h1, h3]
    cases hp : p x with
    | true =>
      obtain ⟨r', e1, e2⟩ := compLoop_pure enc p f xs (f x :: acc) r2 h2 hx
      refine ⟨r', e1, ?_⟩
      simp only [h4 hp]
      rw [e2]
      simp [hp]
    | false =>
      obtain ⟨r', e1, e2⟩ := compLoop_pure enc p f xs acc r2 h2 hx
      refine ⟨r', e1, ?_⟩
      simp only
      rw [e2]
      simp [hp]
theorem eComp_pure {α : Type} {it : It} {g : Tg} {own : List Nat} {c e : M D} {r r1 : Env} {s s1 : Sto} (xs : List α) (enc : α → D) (p : α → Bool) (f : α → D) (hi : it r s = .ok (xs.map enc) r1 s1) (hn : notOw r1 own = true)
    (h : ∀ x ∈ xs, ∃ r2, setT (wipeL r1 own) g (enc x) = some r2 ∧ wipeL r2 own = wipeL r1 own ∧ c r2 s1 = .ok (.bool (p x)) r2 s1 ∧ (p x = true → e r2 s1 = .ok (f x) r2 s1)) :
    eComp it g own c e r s = .ok (.lst ((xs.filter p).map f)) r1 s1 := by
  obtain ⟨r', e1, e2⟩ := compLoop_pure (W := wipeL r1 own) (g := g) enc p f xs [] r1 rfl h
  unfold eComp
  rw [hi, R.bind_ok, if_pos hn, e2, R.bind_ok, backL_same e1]
  simp
/-- .. without a test -/
theorem eComp_map {α : Type} {it : It} {g : Tg} {own : List Nat} {e : M D} {r r1 : Env} {s s1 : Sto} (xs : List α) (enc : α → D) (f : α → D) (hi : it r s = .ok (xs.map enc) r1 s1) (hn : notOw r1 own = true)
    (h : ∀ x ∈ xs, ∃ r2, setT (wipeL r1 own) g (enc x) = some r2 ∧ wipeL r2 own = wipeL r1 own ∧ e r2 s1 = .ok (f x) r2 s1) :
    eComp it g own eYes e r s = .ok (.lst (xs.map f)) r1 s1 := by
  have q := eComp_pure (c := eYes) (e := e) (g := g) xs enc (fun _ => true) f hi hn (fun x hx => by
    obtain ⟨r2, h1, h2, h3⟩ := h x hx
    exact ⟨r2, h1, h2, rfl, fun _ => h3⟩)
  rw [q, List.filter_eq_self.mpr (fun _ _ => rfl)]
/-- a comprehension that goes on in the store -/
theorem compLoop_sto {g : Tg} {own : List Nat} {e : M D} {W : Env} (I : Nat → List D → Sto → Prop) : ∀ (ds : List D) (acc : List D) (r : Env) (s : Sto) (k : Nat), wipeL r own = W → I k acc.reverse s →
    (∀ (j : Nat) (d : D), ds[j]? = some d → ∀ acc s, I (k + j) acc s → ∃ r2 y s2, setT W g d = some r2 ∧ wipeL r2 own = W ∧ e r2 s = .ok y r2 s2 ∧ I (k + j + 1) (acc ++ [y]) s2) →
    ∃ r' ys s', wipeL r' own = W ∧ compLoop g own eYes e ds acc r s = .ok ys r' s' ∧ I (k + ds.length) ys s'
  | [], acc, r, s, k, hr, hI, _ => ⟨r, acc.reverse, s, hr, by simp [compLoop], by simpa using hI⟩
  | d :: ds, acc, r, s, k, hr, hI, h => by
    obtain ⟨r2, y, s2, h1, h2, h3, h4⟩ := h 0 d rfl acc.reverse s hI
    obtain ⟨r', ys, s', e1, e2, e3⟩ := compLoop_sto I ds (y :: acc) r2 s2 (k + 1) h2 (by simpa using h4) (fun j d hd acc s hI => by
      have := h (j + 1) d (by simpa using hd) acc s (by rw [show k + (j + 1) = k + 1 + j by omega]; exact hI)
      rw [show k + (j + 1) + 1 = k + 1 + j + 1 by omega] at this
      exact this)
    refine ⟨r', ys, s', e1, ?_, ?_⟩
    · simp only [compLoop, hr, h1, eYes, eC, h3]
      exact e2
    · rw [List.length_cons]
      rw [show k + (ds.length + 1) = k + 1 + ds.length by omega]
      exact e3
theorem eComp_sto {it : It} {g : Tg} {own : List Nat} {e : M D} {r r1 : Env} {s s1 : Sto} {ds : List D} (I : Nat → List D → Sto → Prop) (hi : it r s = .ok ds r1 s1) (hn : notOw r1 own = true) (h0 : I 0 [] s1)
    (h : ∀ (j : Nat) (d : D), ds[j]? = some d → ∀ acc s, I j acc s → ∃ r2 y s2, setT (wipeL r1 own) g d = some r2 ∧ wipeL r2 own = wipeL r1 own ∧ e r2 s = .ok y r2 s2 ∧ I (j + 1) (acc ++ [y]) s2) :
    ∃ ys s', eComp it g own eYes e r s = .ok (.lst ys) r1 s' ∧ I ds.length ys s' := by
  obtain ⟨r', ys, s', e1, e2, e3⟩ := compLoop_sto (W := wipeL r1 own) I ds [] r1 s1 0 rfl h0 (fun j d hd acc s hI => by
    have := h j d hd acc s (by simpa using hI)
    simpa using this)
  refine ⟨ys, s', ?_, by simpa using e3⟩
  unfold eComp
  rw [hi, R.bind_ok, if_pos hn, e2, R.bind_ok, backL_same e1]

/-! ### loops -/
/-- a for by its invariant, each turn ends in the next -/
theorem forL_inv {α : Type} {g : Tg} {b : S} (enc : α → D) (I : Nat → Env → Sto → Prop) : ∀ (xs : List α) (k : Nat) (r : Env) (s : Sto), I k r s →
    (∀ (j : Nat) (x : α), xs[j]? = some x → ∀ r s, I (k + j) r s → ∃ r1 r2 s2, setT r g (enc x) = some r1 ∧ b r1 s = .ok .nx r2 s2 ∧ I (k + j + 1) r2 s2) →
    ∃ r' s', forL g b (xs.map enc) r s = .ok .nx r' s' ∧ I (k + xs.length) r' s'
  | [], k, r, s, h0, _ => ⟨r, s, rfl, by simpa using h0⟩
  | x :: xs, k, r, s, h0, h => by
    obtain ⟨r1, r2, s2, h1, h2, h3⟩ := h 0 x rfl r s (by simpa using h0)
    obtain ⟨r', s', e1, e2⟩ := forL_inv enc I xs (k + 1) r2 s2 (by simpa using h3) (fun j y hj r s hI => by
      have := h (j + 1) y (by simpa using hj) r s (by rw [show k + (j + 1) = k + 1 + j by omega]; exact hI)
      rw [show k + (j + 1) + 1 = k + 1 + j + 1 by omega] at this
      exact this)
    refine ⟨r', s', ?_, ?_⟩
    · simp only [List.map_cons, forL, h1, h2, R.bind_ok]
      exact e1
    · rw [List.length_cons, show k + (xs.length + 1) = k + 1 + xs.length by omega]
      exact e2
@[simp] def flOf : Option D → Fl
  | some d => .rt d
  | .none => .nx
/-- a for whose turns return or go on, changing nothing that counts: P x: it goes on; else it hands back d x -/
theorem forL_search {α : Type} {g : Tg} {b : S} {s : Sto} (enc : α → D) (I : Env → Prop) (stop : α → Option D) : ∀ (xs : List α) (r : Env), I r →
    (∀ x ∈ xs, ∀ r, I r → ∃ r1 r2, setT r g (enc x) = some r1 ∧ I r2 ∧ b r1 s = .ok (flOf (stop x)) r2 s) →
    ∃ r', I r' ∧ forL g b (xs.map enc) r s = .ok (flOf (xs.findSome? stop)) r' s
  | [], r, hr, _ => ⟨r, hr, rfl⟩
  | x :: xs, r, hr, h => by
    obtain ⟨r1, r2, h1, h2, h3⟩ := h x List.mem_cons_self r hr
    cases hs : stop x with
    | some d =>
      rw [hs] at h3
      exact ⟨r2, h2, by simp only [List.map_cons, forL, h1, h3, R.bind_ok, List.findSome?_cons, hs, flOf]⟩
    | none =>
      rw [hs] at h3
      obtain ⟨r', e1, e2⟩ := forL_search enc I stop xs r2 h2 (fun y hy => h y (List.mem_cons_of_mem _ hy))
      refine ⟨r', e1, ?_⟩
      simp only [List.map_cons, forL, h1, h3, R.bind_ok, List.findSome?_cons, hs, flOf]
      exact e2
/-- a while by a measure -/
theorem whileL_inv {c : M D} {b : S} (I : Env → Sto → Prop) (μ : Env → Sto → Nat) (Qd : Env → Sto → Prop) : ∀ (n : Nat) (r : Env) (s : Sto), I r s → μ r s < n →
    (∀ r s, I r s → (∃ r1 s1 r2 s2, c r s = .ok (.bool true) r1 s1 ∧ b r1 s1 = .ok .nx r2 s2 ∧ I r2 s2 ∧ μ r2 s2 < μ r s) ∨ (∃ r1 s1, c r s = .ok (.bool false) r1 s1 ∧ Qd r1 s1)) →
    ∃ r' s', whileL c b n r s = .ok .nx r' s' ∧ Qd r' s'
  | 0, r, s, _, h, _ => by omega
  | n + 1, r, s, hI, hm, h => by
    rcases h r s hI with ⟨r1, s1, r2, s2, h1, h2, h3, h4⟩ | ⟨r1, s1, h1, h2⟩
    · obtain ⟨r', s', e1, e2⟩ := whileL_inv I μ Qd n r2 s2 h3 (by omega) h
      refine ⟨r', s', ?_, e2⟩
      simp only [whileL, h1, h2, R.bind_ok]
      exact e1
    · exact ⟨r1, s1, by simp only [whileL, h1, R.bind_ok], h2⟩
theorem sWhile_inv {c : M D} {b : S} {r : Env} {s : Sto} (I : Env → Sto → Prop) (μ : Env → Sto → Nat) (Qd : Env → Sto → Prop) (hI : I r s) (hm : μ r s < 1000000000)
    (h : ∀ r s, I r s → (∃ r1 s1 r2 s2, c r s = .ok (.bool true) r1 s1 ∧ b r1 s1 = .ok .nx r2 s2 ∧ I r2 s2 ∧ μ r2 s2 < μ r s) ∨ (∃ r1 s1, c r s = .ok (.bool false) r1 s1 ∧ Qd r1 s1)) :
    ∃ r' s', sWhile c b r s = .ok .nx r' s' ∧ Qd r' s' := whileL_inv I μ Qd WN r s hI hm h

/-! ### numbers as items -/
theorem boolsOf_map (ns : List Bool) : boolsOf (ns.map .bool) = some ns := by
  induction ns with
  | nil => rfl
  | cons n ns ih => simp [boolsOf, ih]
theorem boolsOf_map' {α : Type} (f : α → Bool) (xs : List α) : boolsOf (xs.map fun x => .bool (f x)) = some (xs.map f) := by
  have := boolsOf_map (xs.map f)
  rw [List.map_map] at this
  exact this
theorem getI_map {α : Type} (f : α → D) (xs : List α) (i : Nat) (x : α) (h : xs[i]? = some x) : getI (xs.map f) (i : Int) = some (f x) := by
  have hi : i < xs.length := (List.getElem?_eq_some_iff.mp h).1
  unfold getI ixOf
  rw [if_pos (by omega), List.length_map, if_pos (by omega)]
  simp [h]
theorem getI_nat {xs : List D} {i : Nat} {x : D} (h : xs[i]? = some x) : getI xs (i : Int) = some x := by
  have := getI_map id xs i x h
  simpa using this
end Pk
/-! Sp1: lands, cells. -/
namespace Pk
open PySem (Str)
def encR (r : List Int) : D := .tup (r.map .int)
def encL (L : List (List Int)) : D := .tup (L.map encR)
def encC (c : Int × Int) : D := .tup [.int c.1, .int c.2]
structure Land (L : List (List Int)) (h w : Nat) : Prop where
  rows : L.length = h
  hr : 1 ≤ h ∧ h ≤ 8
  hw : 1 ≤ w ∧ w ≤ 8
  cols : ∀ r ∈ L, r.length = w
  ht : ∀ r ∈ L, ∀ x ∈ r, 0 ≤ x ∧ x ≤ 999
def InL (h w : Nat) (c : Int × Int) : Prop := 0 ≤ c.1 ∧ c.1 < h ∧ 0 ≤ c.2 ∧ c.2 < w
def rowAt (L : List (List Int)) (i : Int) : List Int := L.getD i.toNat []
def hAt (L : List (List Int)) (c : Int × Int) : Int := (rowAt L c.1).getD c.2.toNat 0

theorem is_whole_int (i lo hi : Int) (s : Sto) : py_is_whole [.int i, .int lo, .int hi] s = .ok (.bool (decide (lo ≤ i) && decide (i ≤ hi))) s := by
  by_cases h : lo ≤ i <;> simp [py_is_whole, bo_is_whole, fnOf, startL, h]
theorem co_is_line_0_ok (r : List Int) (z : Sl) (s : Sto) : co_is_line_0 [.sh (encR r), z, .no] s = .ok (.lst (r.map fun x => .bool (decide (0 ≤ x) && decide (x ≤ 999)))) [.sh (encR r), z, .no] s :=
  eComp_map r .int _ rfl rfl fun x hx => ⟨_, rfl, rfl, by simp [is_whole_int]⟩
theorem is_line_ok (r : List Int) (s : Sto) (h : ∀ x ∈ r, 0 ≤ x ∧ x ≤ 999) : py_is_line [encR r, .int r.length] s = .ok (.bool true) s := by
  have h' := co_is_line_0_ok r (.sh (.int r.length)) s
  simp [encR] at h'
  simp [py_is_line, bo_is_line, fnOf, startL, encR, h', pAll, boolsOf_map']
  exact h
theorem getI_int {l : List D} {i : Int} (h0 : 0 ≤ i) (h1 : i < l.length) : getI l i = l[i.toNat]? := by
  unfold getI ixOf
  rw [if_pos h0, if_pos h1]
  rfl
theorem Land.cons {L : List (List Int)} {h w : Nat} (hL : Land L h w) : ∃ r L', L = r :: L' ∧ r.length = w := by
  cases L with
  | nil => have := hL.rows; have := hL.hr; simp at *; omega
  | cons r L' => exact ⟨r, L', rfl, hL.cols r List.mem_cons_self⟩
theorem getI_zero (x : D) (l : List D) : getI (x :: l) 0 = some x := by simp [getI, ixOf]
theorem is_land_ok {L : List (List Int)} {h w : Nat} (hL : Land L h w) (s : Sto) : py_is_land [encL L] s = .ok (.bool true) s := by
  obtain ⟨r0, L', rfl, hw⟩ := hL.cons
  have h1 := hL.rows
  have h2 := hL.hr
  have h3 := hL.hw
  have hc : co_is_land_0 [.sh (encL (r0 :: L')), .no] s = .ok (.lst ((r0 :: L').map fun _ => .bool true)) [.sh (encL (r0 :: L')), .no] s :=
    eComp_map (r0 :: L') encR _ rfl rfl fun r hr => ⟨_, rfl, rfl, by
      have e : r.length = w := hL.cols r hr
      have q := is_line_ok r s (hL.ht r hr)
      rw [e] at q
      simp [encL, encR, getI_zero, hw] at q ⊢
      rw [q]
      rfl⟩
  simp [encL, encR] at hc
  simp only [List.length_cons] at h1
  have b1 : (1 : Int) ≤ L'.length + 1 := by omega
  have b2 : ((L'.length : Int) + 1) ≤ 8 := by omega
  have b3 : (1 : Int) ≤ r0.length := by omega
  have b4 : (r0.length : Int) ≤ 8 := by omega
  simp [py_is_land, bo_is_land, fnOf, startL, encL, encR, hc, getI_zero, pAll, boolsOf_map', boolsOf, b1, b2, b3, b4]
theorem need_land_ok {L : List (List Int)} {h w : Nat} (hL : Land L h w) (s : Sto) : py_need_land [encL L] s = .ok .none s := by
  simp [py_need_land, bo_need_land, fnOf, startL, is_land_ok hL]
theorem is_cell_int {L : List (List Int)} {h w : Nat} (hL : Land L h w) (c : Int × Int) (s : Sto) : py_is_cell [encL L, encC c] s = .ok (.bool (decide (0 ≤ c.1) && decide (c.1 < h) && decide (0 ≤ c.2) && decide (c.2 < w))) s := by
  obtain ⟨r0, L', rfl, hw⟩ := hL.cons
  have h1 := hL.rows
  simp only [List.length_cons] at h1
  subst h1 hw
  simp [py_is_cell, bo_is_cell, fnOf, startL, encL, encR, encC, getI, ixOf, is_whole_int]
  by_cases a1 : 0 ≤ c.1 <;> by_cases a2 : c.1 ≤ L'.length <;> simp [a1, a2]
  · have a3 : c.1 < L'.length + 1 := by omega
    simp [a3]
    by_cases a4 : 0 ≤ c.2 <;> simp [a4]
    omega
  · intro h1
    omega
theorem need_cell_ok {L : List (List Int)} {h w : Nat} (hL : Land L h w) {c : Int × Int} (hc : InL h w c) (s : Sto) : py_need_cell [encL L, encC c] s = .ok .none s := by
  obtain ⟨a, b, d, e⟩ := hc
  simp [py_need_cell, bo_need_cell, fnOf, startL, is_cell_int hL, a, b, d, e]
theorem need_both_ok {L : List (List Int)} {h w : Nat} (hL : Land L h w) {c : Int × Int} (hc : InL h w c) (s : Sto) : py_need_both [encL L, encC c] s = .ok .none s := by
  simp [py_need_both, bo_need_both, fnOf, startL, need_land_ok hL, need_cell_ok hL hc]
theorem row_get {L : List (List Int)} {h w : Nat} (hL : Land L h w) {i : Int} (h0 : 0 ≤ i) (h1 : i < h) : getI (L.map encR) i = some (.tup ((rowAt L i).map .int)) ∧ (rowAt L i).length = w := by
  have hl : i.toNat < L.length := by rw [hL.rows]; omega
  have e : rowAt L i = L[i.toNat] := by simp [rowAt, List.getD, hl]
  rw [getI_int h0 (by rw [List.length_map, hL.rows]; omega), e]
  exact ⟨by simp [hl, encR], hL.cols _ (List.getElem_mem hl)⟩
theorem at_get {L : List (List Int)} {h w : Nat} (hL : Land L h w) {c : Int × Int} (hc : InL h w c) : getI ((rowAt L c.1).map .int) c.2 = some (.int (hAt L c)) := by
  obtain ⟨a, b, d, e⟩ := hc
  obtain ⟨g1, g2⟩ := row_get hL a b
  rw [getI_int d (by rw [List.length_map, g2]; exact e)]
  have hl : c.2.toNat < (rowAt L c.1).length := by omega
  unfold hAt
  rw [List.getElem?_map, List.getElem?_eq_getElem hl, List.getD_eq_getElem?_getD, List.getElem?_eq_getElem hl]
  rfl
@[simp] theorem getI_c0 (x y : D) : getI [x, y] 0 = some x := getI_zero _ _
@[simp] theorem getI_c1 (x y : D) : getI [x, y] 1 = some y := by simp [getI, ixOf]
theorem at_ok {L : List (List Int)} {h w : Nat} (hL : Land L h w) {c : Int × Int} (hc : InL h w c) (s : Sto) : py_at [encL L, encC c] s = .ok (.int (hAt L c)) s := by
  have g1 := (row_get hL hc.1 hc.2.1).1
  have g3 := at_get hL hc
  simp [py_at, bo_at, fnOf, startL, encL, encC, g1, g3]
/-! ### all cells -/
def rowC (i w : Nat) : List (Int × Int) := (List.range w).map fun (j : Nat) => ((i : Int), (j : Int))
def cellsL (h w : Nat) : List (Int × Int) := (List.range h).flatMap fun i => rowC i w
theorem cellsL_succ (h w : Nat) : cellsL (h + 1) w = cellsL h w ++ rowC h w := by simp [cellsL, List.range_succ]
theorem cellsL_len (h w : Nat) : (cellsL h w).length = h * w := by
  induction h with
  | zero => simp [cellsL]
  | succ h ih => rw [cellsL_succ, List.length_append, ih, Nat.succ_mul]; simp [rowC]
theorem mem_cellsL {h w : Nat} {c : Int × Int} : c ∈ cellsL h w ↔ InL h w c := by
  unfold cellsL rowC InL
  simp only [List.mem_flatMap, List.mem_range, List.mem_map]
  constructor
  · rintro ⟨i, hi, j, hj, rfl⟩
    exact ⟨by simp, by simpa using hi, by simp, by simpa using hj⟩
  · rintro ⟨a, b, d, e⟩
    exact ⟨c.1.toNat, by omega, c.2.toNat, by omega, by ext <;> simp <;> omega⟩
theorem Land.row0 {L : List (List Int)} {h w : Nat} (hL : Land L h w) : getI (L.map encR) 0 = some (.tup ((rowAt L 0).map .int)) := (row_get hL (Int.le_refl 0) (by have := hL.hr; omega)).1
theorem Land.len0 {L : List (List Int)} {h w : Nat} (hL : Land L h w) : (rowAt L 0).length = w := (row_get hL (Int.le_refl 0) (by have := hL.hr; omega)).2
theorem small_nat {n : Nat} (h : n ≤ 1000000) : small (n : Int) = true := lim_of ⟨by omega, by omega⟩
theorem SZ_int {n : Nat} (h : n ≤ 1000000) : (n : Int) ≤ (SZ : Int) := Int.ofNat_le.mpr (Nat.le_trans h (by decide))
theorem co_cells_ok {L : List (List Int)} {h w : Nat} (hL : Land L h w) (s : Sto) (k : Nat) (z : Sl) (hz : notOw [.no, .no, .no, z] [3] = true) (x : Sl) : co_cells_of_0 [.sh (encL L), x, .sh (.int k), z] s =
      .ok (.lst ((List.range w).map fun (j : Nat) => encC ((k : Int), (j : Int)))) [.sh (encL L), x, .sh (.int k), z] s := by
  have h3 := hL.hw
  have h0 := hL.row0
  have l0 := hL.len0
  unfold co_cells_of_0
  refine eComp_map (List.range w) (fun (j : Nat) => .int (0 + (j : Int))) (fun (j : Nat) => encC ((k : Int), (j : Int))) ?_ hz fun j hj => ⟨[.sh (encL L), x, .sh (.int k), .sh (.int (0 + j))], rfl, rfl, by simp [encC]⟩
  simp [encL, h0, l0, small_nat (n := w) (by omega), SZ_int (n := w) (by omega), upto]
theorem cells_for {L : List (List Int)} {h w : Nat} (hL : Land L h w) (s : Sto) (k : Nat) (hk : k ≤ 8) :
    fo_cells_of_0 [.sh (encL L), .ow (.lst ((cellsL k w).map encC)), .sh (.int k), .no] s = .ok .nx [.sh (encL L), .ow (.lst ((cellsL (k + 1) w).map encC)), .sh (.int k), .no] s := by
  have h3 := hL.hw
  have hc := co_cells_ok hL s k .no rfl (.ow (.lst ((cellsL k w).map encC)))
  have hl : (cellsL k w).length + w ≤ SZ := by
    rw [cellsL_len]
    have : k * w ≤ 8 * 8 := Nat.mul_le_mul hk h3.2
    simp only [SZ]
    omega
  simp [fo_cells_of_0, hc, hl, cellsL_succ, rowC, Function.comp_def]
theorem cells_of_ok {L : List (List Int)} {h w : Nat} (hL : Land L h w) (s : Sto) : py_cells_of [encL L] s = .ok (.lst ((cellsL h w).map encC)) s := by
  have h2 := hL.hr
  obtain ⟨r', s', e1, e2⟩ := forL_inv (g := .n 2) (b := fo_cells_of_0) (fun (k : Nat) => D.int (0 + (k : Int))) (fun k r s1 => s1 = s ∧ ∃ z, r = [.sh (encL L), .ow (.lst ((cellsL k w).map encC)), z, .no]) (List.range h) 0 [.sh (encL L), .ow (.lst []), .no, .no] s
    ⟨rfl, .no, by simp [cellsL]⟩ (fun j x hj r s1 hI => by
      obtain ⟨rfl, z, rfl⟩ := hI
      obtain ⟨hj1, hj2⟩ := List.getElem?_eq_some_iff.mp hj
      rw [List.getElem_range] at hj2
      rw [List.length_range] at hj1
      subst hj2
      refine ⟨[.sh (encL L), .ow (.lst ((cellsL (0 + j) w).map encC)), .sh (.int (0 + j)), .no], _, _, rfl, ?_, rfl, ⟨.sh (.int (0 + j)), rfl⟩⟩
      have := cells_for hL s1 j (by omega)
      simpa using this)
  obtain ⟨rfl, z, rfl⟩ := e2
  simp only [List.length_range, Nat.zero_add] at e1
  have e1' : forL (.n 2) fo_cells_of_0 (upto 0 h) [.sh (encL L), .ow (.lst []), .no, .no] s' = _ := e1
  simp [py_cells_of, bo_cells_of, fnOf, startL, encL, hL.rows, small_nat (n := h) (by omega), SZ_int (n := h) (by omega)]
  simp [encL] at e1'
  rw [e1']
  simp
theorem law_cells_ok {L : List (List Int)} {h w : Nat} (hL : Land L h w) (s : Sto) : py_law_cells [encL L] s = .ok (.lst ((cellsL h w).map encC)) s := cells_of_ok hL s
end Pk
/-! Sp2: draws; the land that the script makes. -/
namespace Pk
open PySem (Str)
def St (n : Nat) : Sto := ⟨some n, []⟩
theorem scr_ix {ns : List Int} {i : Int} (h0 : 0 ≤ i) (h1 : i < ns.length) : ∃ v : Int, pIx (.scr ns) (.int i) = some (.int v) := by
  have hl : i.toNat < ns.length := by omega
  refine ⟨ns[i.toNat], ?_⟩
  simp only [pIx, ixOf, if_pos h0, if_pos h1, Option.bind_some, List.getElem?_eq_getElem hl, Option.map_some]
theorem cell_for (a b z : Sl) (s : Sto) (v : Int) : fo_law_cell_at_0 [a, b, .sh (.int v), z] s = .ok .nx [a, b, .sh (.int (v / 1000003)), z] s := by
  have h1 : lim ((0 : Int) < 1000003 ∧ (1000003 : Int) < 1073741824) = true := lim_of ⟨by decide, by decide⟩
  simp [fo_law_cell_at_0, h1]
theorem cell_at_ok (ns : List Int) (k : Nat) (s : Sto) (hn : ns.length ≤ 63) : ∃ v : Int, py_law_cell_at [.scr ns, .int k] s = .ok (.int v) s := by
  by_cases h : k < ns.length
  · obtain ⟨v, hv⟩ := scr_ix (ns := ns) (i := k) (by omega) (by omega)
    refine ⟨v, ?_⟩
    have hk : ((k : Int) < ns.length) := by omega
    simp only [pIx] at hv
    simp [py_law_cell_at, bo_law_cell_at, fnOf, startL, hk, hv, h]
  · cases hns : ns with
    | nil =>
      refine ⟨0, ?_⟩
      have hk : ¬ (k : Int) < 0 := by omega
      simp [py_law_cell_at, bo_law_cell_at, fnOf, startL, hk]
    | cons x xs =>
      rw [← hns]
      have hp : 0 < ns.length := by rw [hns]; simp
      have he : ns.isEmpty = false := by rw [hns]; rfl
      obtain ⟨v, hv⟩ := scr_ix (ns := ns) (i := (k : Int) % (ns.length : Int)) (Int.emod_nonneg _ (by omega)) (Int.emod_lt_of_pos _ (by omega))
      have hk : ¬ ((k : Int) < ns.length) := by omega
      have l1 : lim ((0 : Int) < ns.length) = true := lim_of (by omega)
      have l2 : lim ((0 : Int) < ns.length ∧ (ns.length : Int) < 1073741824) = true := lim_of (by omega)
      have l2n : (ns.length : Int) < 1073741824 := by omega
      have hq : 0 ≤ (k : Int) / (ns.length : Int) := Int.ediv_nonneg (by omega) (by omega)
      have hb : big 31 = true := lim_of ⟨by decide, by decide⟩
      have hb2 : big 101 = true := lim_of ⟨by decide, by decide⟩
      obtain ⟨q, hqe⟩ : ∃ q : Int, q = (if (60 : Int) < (k : Int) / (ns.length : Int) then (60 : Int) else (k : Int) / (ns.length : Int)) := ⟨_, rfl⟩
      have hq0 : 0 ≤ q ∧ q ≤ 60 := by rw [hqe]; split <;> omega
      have l3 : small q = true := lim_of ⟨by omega, by omega⟩
      have l4 : lim (q ≤ (SZ : Int)) = true := lim_of (by simp only [SZ]; omega)
      obtain ⟨r', s', e1, e2⟩ := forL_inv (g := .n 3) (b := fo_law_cell_at_0) (fun (k : Nat) => D.int (0 + (k : Int))) (fun _ r s1 => s1 = s ∧ ∃ (u : Int) (z : Sl), r = [.sh (.scr ns), .sh (.int k), .sh (.int u), z]) (List.range q.toNat) 0 [.sh (.scr ns), .sh (.int k), .sh (.int v), .no] s
        ⟨rfl, v, .no, rfl⟩ (fun j x hj r s1 hI => by
          obtain ⟨rfl, u, z, rfl⟩ := hI
          exact ⟨_, _, _, rfl, cell_for _ _ _ _ _, rfl, _, _, rfl⟩)
      obtain ⟨rfl, u, z, rfl⟩ := e2
      have e1' : forL (.n 3) fo_law_cell_at_0 (upto 0 q.toNat) [.sh (.scr ns), .sh (.int k), .sh (.int v), .no] s' = _ := e1
      refine ⟨v * 31 + k + u * 101, ?_⟩
      simp only [pIx] at hv
      simp [py_law_cell_at, bo_law_cell_at, fnOf, startL, hk, h, hv, he, hp, l2n, ← hqe, l3, of_lim l4, e1', hb, hb2]
theorem mixed_ok (ns : List Int) (k b : Nat) (s : Sto) (hn : ns.length ≤ 63) (hk : k ≤ 1000000) (hb : 0 < b) : ∃ v : Nat, v < b ∧ py_law_mixed [.scr ns, .int k, .int b] s = .ok (.int v) s := by
  obtain ⟨v, hv⟩ := cell_at_ok ns k s hn
  have b1 : big 1103515245 = true := lim_of ⟨by decide, by decide⟩
  have b2 : big 7919 = true := lim_of ⟨by decide, by decide⟩
  have l1 : lim ((0 : Int) < 2147483647) = true := lim_of (by decide)
  have l2 : lim ((0 : Int) < 999983) = true := lim_of (by decide)
  have l3 : lim ((0 : Int) < b) = true := lim_of (by omega)
  obtain ⟨y, hy⟩ : ∃ y : Int, y = (v * 1103515245 + 7919 * k + 12345) % 2147483647 := ⟨_, rfl⟩
  have hy0 : 0 ≤ y ∧ y < 2147483647 := by rw [hy]; exact ⟨Int.emod_nonneg _ (by decide), Int.emod_lt_of_pos _ (by decide)⟩
  have l4n : y.natAbs < 18446744073709551616 := by omega
  refine ⟨((((y ^ 5) % 2147483647) % 999983) % (b : Int)).toNat, ?_, ?_⟩
  · have := Int.emod_lt_of_pos (((y ^ 5) % 2147483647) % 999983) (b := (b : Int)) (by omega)
    have := Int.emod_nonneg (((y ^ 5) % 2147483647) % 999983) (b := (b : Int)) (by omega)
    omega
  · have := Int.emod_nonneg (((y ^ 5) % 2147483647) % 999983) (b := (b : Int)) (by omega)
    have e : (((((y ^ 5) % 2147483647) % 999983) % (b : Int)).toNat : Int) = (((y ^ 5) % 2147483647) % 999983) % (b : Int) := Int.toNat_of_nonneg this
    rw [e]
    simp [py_law_mixed, bo_law_mixed, fnOf, startL, hv, b1, b2, hb, ← hy, l4n]
theorem draw_ok (ns : List Int) (n b : Nat) (hn : ns.length ≤ 63) (hk : n < 1000000) (hb : 0 < b) : ∃ v : Nat, v < b ∧ py_law_draw [.scr ns, .town, .int b] (St n) = .ok (.int v) (St (n + 1)) := by
  obtain ⟨v, h1, h2⟩ := mixed_ok ns (n + 1) b (St (n + 1)) hn (by omega) hb
  refine ⟨v, h1, ?_⟩
  have l1 : lim (n < SZ) = true := lim_of (by simp only [SZ]; omega)
  simp only [Int.natCast_add, Int.cast_ofNat_Int] at h2
  simp [py_law_draw, bo_law_draw, fnOf, startL, St, l1] at h2 ⊢
  rw [h2]
  rfl
theorem pick_ok (ns : List Int) (n : Nat) (l : List D) (hn : ns.length ≤ 63) (hk : n < 1000000) (hl : l ≠ []) : ∃ d ∈ l, py_law_pick [.scr ns, .town, .lst l] (St n) = .ok d (St (n + 1)) := by
  have hp : 0 < l.length := List.length_pos_iff.mpr hl
  obtain ⟨v, h1, h2⟩ := draw_ok ns n l.length hn hk hp
  refine ⟨l[v], List.getElem_mem h1, ?_⟩
  have := getI_nat (xs := l) (i := v) (x := l[v]) (List.getElem?_eq_getElem h1)
  simp [py_law_pick, bo_law_pick, fnOf, startL, h2, this]
/-- the row of a land -/
theorem upto_len (n : Nat) (i : Int) : (upto i n).length = n := by simp [upto]
theorem upto_get {n j : Nat} {i : Int} {d : D} (h : (upto i n)[j]? = some d) : j < n ∧ d = .int (i + j) := by
  have hj : j < n := by have := (List.getElem?_eq_some_iff.mp h).1; rw [upto_len] at this; exact this
  refine ⟨hj, ?_⟩
  simp [upto, hj] at h
  exact h.symm
theorem range1_nat {i n : Nat} {r : Env} {s : Sto} (h : r[i]? = some (.sh (.int n))) (hn : n ≤ 1000000) : iRange1 (eV i) r s = .ok (upto 0 n) r s := by
  simp [h, small_nat hn, SZ_int hn]
end Pk
/-! SpC: cells and small numbers, in general. -/
namespace Pk
open PySem (Str)
theorem abs_nat (i : Int) : (if i < 0 then -i else i) = (i.natAbs : Int) := by split <;> omega
theorem small_int {i : Int} (h : -1000000 ≤ i ∧ i ≤ 1000000) : small i = true := lim_of ⟨by omega, by omega⟩
theorem big_int {i : Int} (h : -1000000 ≤ i ∧ i ≤ 1000000) : big i = true := lim_of ⟨by omega, by omega⟩
theorem hAt_le {L : List (List Int)} {h w : Nat} (hL : Land L h w) {c : Int × Int} (hc : InL h w c) : 0 ≤ hAt L c ∧ hAt L c ≤ 999 := by
  obtain ⟨a, b, d, e⟩ := hc
  have hl : c.1.toNat < L.length := by rw [hL.rows]; omega
  have er : rowAt L c.1 = L[c.1.toNat] := by simp [rowAt, List.getD, hl]
  have hl2 : c.2.toNat < (L[c.1.toNat]).length := by rw [hL.cols _ (List.getElem_mem hl)]; omega
  have : hAt L c = (L[c.1.toNat])[c.2.toNat] := by
    unfold hAt
    rw [er, List.getD_eq_getElem?_getD, List.getElem?_eq_getElem hl2]
    rfl
  rw [this]
  exact hL.ht _ (List.getElem_mem hl) _ (List.getElem_mem hl2)
theorem eqvL_nil_iff (l : List D) : eqvL l [] = l.isEmpty := by cases l <;> simp
/-! ### neighbours, by the law -/
def nearB (a b : Int × Int) : Bool := decide (((a.1 - b.1).natAbs : Int) + ((a.2 - b.2).natAbs : Int) = 1)
/-! ### cells as data -/
@[simp] theorem dep_encC (n : Nat) (c : Int × Int) : D.dep (n + 1) (encC c) = true := by simp [encC]
theorem dep_cells (n : Nat) (l : List (Int × Int)) : D.dep (n + 2) (.lst (l.map encC)) = true := by simp
@[simp] theorem dep64_encC (c : Int × Int) : D.dep 64 (encC c) = true := dep_encC 63 c
@[simp] theorem dep64_cells (l : List (Int × Int)) : D.dep 64 (.lst (l.map encC)) = true := dep_cells 62 l
theorem eqv_encC (a b : Int × Int) : (encC a).eqv (encC b) = decide (a = b) := by
  simp [encC]
  rw [Bool.eq_iff_iff]
  simp [Prod.ext_iff]
end Pk
/-! Sp5: the least and the greatest of a list of data, by an order on what they stand for. -/
namespace Pk
open PySem (Str)
theorem toks_int (i : Int) : D.toks (.int i) = [.inl i] := by simp only [D.toks]
theorem toks_tup (l : List D) : D.toks (.tup l) = toksL l := by simp only [D.toks]
theorem toksL_nil : toksL [] = [.inl 0] := by simp only [toksL]
theorem toksL_cons (x : D) (l : List D) : toksL (x :: l) = .inl 1 :: (x.toks ++ toksL l) := by simp only [toksL]
theorem toksLt_ii (a b : Int) (r t : List Tok) : toksLt (.inl a :: r) (.inl b :: t) = (decide (a < b) || (decide (a = b) && toksLt r t)) := by
  simp only [toksLt, tokLt]
  by_cases h1 : a < b
  · simp [h1]
  · by_cases h2 : a = b
    · subst h2; simp
    · have : b < a := by omega
      simp [h1, h2, this]
@[simp] theorem lt_int (a b : Int) : D.lt (.int a) (.int b) = decide (a < b) := by
  unfold D.lt
  rw [toks_int, toks_int, toksLt_ii]
  simp [toksLt]
def ltC (a b : Int × Int) : Bool := decide (a.1 < b.1) || (decide (a.1 = b.1) && decide (a.2 < b.2))
@[simp] theorem lt_encC (a b : Int × Int) : (encC a).lt (encC b) = ltC a b := by
  unfold D.lt encC ltC
  simp only [toks_tup, toksL_cons, toksL_nil, toks_int, List.cons_append, List.nil_append, toksLt_ii]
  simp [toksLt]
def encP (p : Int × (Int × Int)) : D := .tup [.int p.1, encC p.2]
def ltP (a b : Int × (Int × Int)) : Bool := decide (a.1 < b.1) || (decide (a.1 = b.1) && ltC a.2 b.2)
@[simp] theorem lt_encP (a b : Int × (Int × Int)) : (encP a).lt (encP b) = ltP a b := by
  unfold D.lt encP encC ltP ltC
  simp only [toks_tup, toksL_cons, toksL_nil, toks_int, List.cons_append, List.nil_append, toksLt_ii]
  simp [toksLt]
@[simp] theorem alk_int (a b : Int) : D.alk (.int a) (.int b) = true := by simp only [D.alk]
@[simp] theorem alk_encC (a b : Int × Int) : (encC a).alk (encC b) = true := by simp [encC, D.alk, alkL]
@[simp] theorem alk_encP (a b : Int × (Int × Int)) : (encP a).alk (encP b) = true := by simp [encP, encC, D.alk, alkL]
structure Ord {α : Type} (lt : α → α → Bool) : Prop where
  tr : ∀ x y z, lt x y = true → lt y z = true → lt x z = true
  nt : ∀ x y z, lt x z = true → lt x y = true ∨ lt y z = true
  ir : ∀ x, lt x x = false
theorem ord_C : Ord ltC := ⟨fun x y z h1 h2 => by simp [ltC] at *; omega, fun x y z h => by simp [ltC] at *; omega, fun x => by simp [ltC]⟩
/-! ### the cells stand in order -/
theorem cellsL_sorted (h w : Nat) : (cellsL h w).Pairwise fun a b => ltC a b = true := by
  induction h with
  | zero => simp [cellsL]
  | succ h ih =>
    rw [cellsL_succ, List.pairwise_append]
    refine ⟨ih, ?_, fun a ha b hb => ?_⟩
    · unfold rowC
      rw [List.pairwise_map]
      refine List.Pairwise.imp (fun {a b} hab => ?_) List.pairwise_lt_range
      simp [ltC]
      omega
    · have h1 := mem_cellsL.mp ha
      unfold rowC at hb
      obtain ⟨j, hj, rfl⟩ := List.mem_map.mp hb
      have := h1.2.1
      simp [ltC]
      omega
theorem cellsL_nodup (h w : Nat) : (cellsL h w).Nodup := (cellsL_sorted h w).imp fun {a b} hab e => by subst e; rw [ord_C.ir] at hab; cases hab
end Pk
/-! Sp3: sight. -/
namespace Pk
open PySem (Str)
def muC (r : Env) (s : Sto) : Nat := match r with
  | [_, .sh (.int y)] => y.toNat
  | _ => 0
theorem common_ok (x y : Nat) (s : Sto) (hx : x ≤ 1000000) (hy : y ≤ 1000000) : py_common_part [.int x, .int y] s = .ok (.int (Nat.gcd x y)) s := by
  obtain ⟨r', s', e1, e2⟩ := sWhile_inv (c := e2 pNe (.v (eV 1)) (.v (eC (.int 0)))) (b := sPar false false 0 1 (eV 1) (e2 pMod (.v (eV 0)) (.v (eV 1)))) (r := [.sh (.int x), .sh (.int y)]) (s := s)
    (fun r s1 => s1 = s ∧ ∃ a b : Nat, r = [.sh (.int a), .sh (.int b)] ∧ Nat.gcd a b = Nat.gcd x y) muC (fun r s1 => s1 = s ∧ r = [.sh (.int (Nat.gcd x y)), .sh (.int 0)]) ⟨rfl, x, y, rfl, rfl⟩ (by simp [muC]; omega) (fun r s1 hI => by
      obtain ⟨rfl, a, b, rfl, hg⟩ := hI
      by_cases hb : b = 0
      · subst hb
        refine Or.inr ⟨[.sh (.int a), .sh (.int 0)], s1, by simp, rfl, ?_⟩
        rw [← hg]
        simp
      · refine Or.inl ⟨[.sh (.int a), .sh (.int b)], s1, [.sh (.int b), .sh (.int ((a % b : Nat) : Int))], s1, ?_, ?_, ⟨rfl, b, a % b, rfl, ?_⟩, ?_⟩
        · simp [hb]
        · have : 0 < b := by omega
          simp [this]
        · rw [← hg, Nat.gcd_comm b, Nat.gcd_comm a, ← Nat.gcd_rec]
        · simp [muC]
          have := Nat.mod_lt a (show b > 0 by omega)
          omega)
  obtain ⟨rfl, rfl⟩ := e2
  have e1' : wh_common_part_0 [.sh (.int x), .sh (.int y)] s' = _ := e1
  simp [py_common_part, bo_common_part, fnOf, startL, e1']
/-! ### the cells between two -/
def gG (a b : Int × Int) : Nat := Int.gcd (b.1 - a.1) (b.2 - a.2)
def ptB (a b : Int × Int) (k : Nat) : Int × Int := (a.1 + (b.1 - a.1) / (gG a b : Int) * ((k : Int) + 1), a.2 + (b.2 - a.2) / (gG a b : Int) * ((k : Int) + 1))
def btw (a b : Int × Int) : List (Int × Int) := (List.range (gG a b - 1)).map (ptB a b)
theorem btw_len (a b : Int × Int) : (btw a b).length = gG a b - 1 := by simp [btw]
structure Near8 (a b : Int × Int) : Prop where
  d1 : -7 ≤ b.1 - a.1 ∧ b.1 - a.1 ≤ 7
  d2 : -7 ≤ b.2 - a.2 ∧ b.2 - a.2 ≤ 7
theorem near8 {h w : Nat} (hh : h ≤ 8) (hw : w ≤ 8) {a b : Int × Int} (ha : InL h w a) (hb : InL h w b) : Near8 a b := by
  obtain ⟨a1, a2, a3, a4⟩ := ha
  obtain ⟨b1, b2, b3, b4⟩ := hb
  exact ⟨by omega, by omega⟩
theorem gG_le {a b : Int × Int} (h : Near8 a b) : gG a b ≤ 7 := by
  unfold gG
  by_cases h1 : b.1 - a.1 = 0
  · by_cases h2 : b.2 - a.2 = 0
    · rw [h1, h2]; decide
    · have := Nat.le_of_dvd (by omega) (Int.gcd_dvd_natAbs_right (b.1 - a.1) (b.2 - a.2))
      have := h.d2
      omega
  · have := Nat.le_of_dvd (by omega) (Int.gcd_dvd_natAbs_left (b.1 - a.1) (b.2 - a.2))
    have := h.d1
    omega
theorem mul_ed {d g k : Int} (h : g ∣ d) : d * k / g = d / g * k := by
  obtain ⟨q, rfl⟩ := h
  by_cases hg : g = 0
  · subst hg; simp
  · rw [Int.mul_assoc, Int.mul_ediv_cancel_left _ hg, Int.mul_ediv_cancel_left _ hg]
theorem co_between_ok (a b : Int × Int) (h : Near8 a b) (s : Sto) (x1 : Sl) : co_between_of_0 [.sh (encC a), x1, .sh (.int (b.1 - a.1)), .sh (.int (b.2 - a.2)), .sh (.int (gG a b)), .no] s = .ok (.lst ((btw a b).map encC)) [.sh (encC a), x1, .sh (.int (b.1 - a.1)), .sh (.int (b.2 - a.2)), .sh (.int (gG a b)), .no] s := by
  have hg := gG_le h
  have e : (btw a b).map encC = (List.range (gG a b - 1)).map fun (k : Nat) => encC (ptB a b k) := by simp [btw, Function.comp_def]
  rw [e]
  unfold co_between_of_0
  refine eComp_map (List.range (gG a b - 1)) (fun (k : Nat) => .int (1 + (k : Int))) (fun (k : Nat) => encC (ptB a b k)) ?_ rfl fun k hk => ⟨[.sh (encC a), x1, .sh (.int (b.1 - a.1)), .sh (.int (b.2 - a.2)), .sh (.int (gG a b)), .sh (.int (1 + k))], rfl, rfl, ?_⟩
  · have l1 : (gG a b : Int) - 1 ≤ (SZ : Int) := by simp only [SZ]; omega
    have l2 : ((gG a b : Int) - 1).toNat = gG a b - 1 := by omega
    simp [small_int (i := 1) (by omega), small_nat (n := gG a b) (by omega), l1, l2, upto]
  · have hk' := List.mem_range.mp hk
    have g0 : 0 < gG a b := by omega
    have g1 : (gG a b : Int) < 1073741824 := by omega
    have m1 : ((gG a b : Nat) : Int) ∣ (b.1 - a.1) := Int.gcd_dvd_left ..
    have m2 : ((gG a b : Nat) : Int) ∣ (b.2 - a.2) := Int.gcd_dvd_right ..
    have b1 := big_int (i := b.1 - a.1) (by have := h.d1; omega)
    have b2 := big_int (i := b.2 - a.2) (by have := h.d2; omega)
    have c1 : (1 : Int) + k = k + 1 := by omega
    simp [encC, b1, b2, g0, g1, mul_ed m1, mul_ed m2, ptB, c1]
theorem between_of_ok (a b : Int × Int) (h : Near8 a b) (s : Sto) : py_between_of [encC a, encC b] s = .ok (.lst ((btw a b).map encC)) s := by
  have h1 := h.d1
  have h2 := h.d2
  have hc := common_ok (b.1 - a.1).natAbs (b.2 - a.2).natAbs s (by omega) (by omega)
  have hq := co_between_ok a b h s (.sh (encC b))
  have e : Nat.gcd (b.1 - a.1).natAbs (b.2 - a.2).natAbs = gG a b := rfl
  rw [e] at hc
  simp only [encC] at hq
  simp [py_between_of, bo_between_of, fnOf, startL, encC, abs_nat, hc, hq]
/-! ### .. by the law -/
/-! ### who sees whom -/
theorem ptB_in {h w : Nat} {a b : Int × Int} (ha : InL h w a) (hb : InL h w b) {k : Nat} (hk : k < gG a b - 1) : InL h w (ptB a b k) := by
  obtain ⟨a1, a2, a3, a4⟩ := ha
  obtain ⟨b1, b2, b3, b4⟩ := hb
  obtain ⟨q, hq⟩ : ((gG a b : Nat) : Int) ∣ (b.1 - a.1) := Int.gcd_dvd_left ..
  obtain ⟨p, hp⟩ : ((gG a b : Nat) : Int) ∣ (b.2 - a.2) := Int.gcd_dvd_right ..
  have g0 : (gG a b : Int) ≠ 0 := by omega
  have key : ∀ (x y z : Int), 0 ≤ x → 0 ≤ y → y - x = (gG a b : Int) * z → 0 ≤ x + z * ((k : Int) + 1) ∧ (x + z * ((k : Int) + 1) ≤ x ∨ x + z * ((k : Int) + 1) ≤ y) := by
    intro x y z hx hy e
    have c1 : (k : Int) + 1 ≤ (gG a b : Int) := by omega
    have c0 : (0 : Int) ≤ (k : Int) + 1 := by omega
    by_cases hz : 0 ≤ z
    · have := Int.mul_nonneg hz c0
      have := Int.mul_le_mul_of_nonneg_left c1 hz
      rw [Int.mul_comm z (gG a b : Int)] at this
      exact ⟨by omega, Or.inr (by omega)⟩
    · have hz' : z ≤ 0 := by omega
      have := Int.mul_le_mul_of_nonpos_left hz' c1
      have := Int.mul_nonpos_of_nonpos_of_nonneg hz' c0
      rw [Int.mul_comm z (gG a b : Int)] at *
      exact ⟨by omega, Or.inl (by omega)⟩
  have e1 : (b.1 - a.1) / (gG a b : Int) = q := by rw [hq, Int.mul_ediv_cancel_left _ g0]
  have e2 : (b.2 - a.2) / (gG a b : Int) = p := by rw [hp, Int.mul_ediv_cancel_left _ g0]
  unfold InL ptB
  rw [e1, e2]
  have k1 := key a.1 b.1 q a1 b1 hq
  have k2 := key a.2 b.2 p a3 b3 hp
  refine ⟨k1.1, ?_, k2.1, ?_⟩
  · rcases k1.2 with z | z <;> simp only <;> omega
  · rcases k2.2 with z | z <;> simp only <;> omega
end Pk
/-! Sp4: sight, by the program and by the law. -/
namespace Pk
open PySem (Str)
def lineB (L : List (List Int)) (a b : Int × Int) (k : Nat) : Bool := decide (hAt L (ptB a b k) * ((gG a b - 1 : Nat) + 1 : Int) < hAt L a * ((gG a b - 1 : Nat) - (k : Int)) + hAt L b * ((k : Int) + 1))
def seesB (L : List (List Int)) (a b : Int × Int) : Bool := (List.range (gG a b - 1)).all (lineB L a b)
def encK (a b : Int × Int) (k : Nat) : D := .tup [.int k, encC (ptB a b k)]
theorem numbered_btw (a b : Int × Int) : numbered ((btw a b).map encC) = (List.range (gG a b - 1)).map (encK a b) := by
  unfold numbered
  rw [List.length_map, btw_len]
  apply List.map_congr_left
  intro k hk
  have hk' := List.mem_range.mp hk
  simp [encK, btw, hk']
theorem sees_of_ok {L : List (List Int)} {h w : Nat} (hL : Land L h w) {a b : Int × Int} (ha : InL h w a) (hb : InL h w b) (s : Sto) : py_sees_of [encL L, encC a, encC b] s = .ok (.bool (seesB L a b)) s := by
  have hn := near8 hL.hr.2 hL.hw.2 ha hb
  have hg := gG_le hn
  have qb := between_of_ok a b hn s
  have A1 := hAt_le hL ha
  have B1 := hAt_le hL hb
  obtain ⟨r', e1, e2⟩ := forL_search (g := .t [.n 5, .n 6]) (b := fo_sees_of_0) (s := s) (encK a b) (fun r => ∃ x5 x6 x7, r = [.sh (encL L), .sh (encC a), .sh (encC b), .sh (.lst ((btw a b).map encC)), .sh (.int (((gG a b - 1 : Nat) : Int) + 1)), x5, x6, x7])
    (fun k => if lineB L a b k then Option.none else some (.bool false)) (List.range (gG a b - 1)) [.sh (encL L), .sh (encC a), .sh (encC b), .sh (.lst ((btw a b).map encC)), .sh (.int (((gG a b - 1 : Nat) : Int) + 1)), .no, .no, .no] ⟨_, _, _, rfl⟩
    (fun k hk r hI => by
      obtain ⟨x5, x6, x7, rfl⟩ := hI
      have hk' := List.mem_range.mp hk
      have hp := ptB_in ha hb hk'
      have P1 := hAt_le hL hp
      have v1 := at_ok hL ha s
      have v2 := at_ok hL hb s
      have v3 := at_ok hL hp s
      refine ⟨[.sh (encL L), .sh (encC a), .sh (encC b), .sh (.lst ((btw a b).map encC)), .sh (.int (((gG a b - 1 : Nat) : Int) + 1)), .sh (.int k), .sh (encC (ptB a b k)), x7],
        [.sh (encL L), .sh (encC a), .sh (encC b), .sh (.lst ((btw a b).map encC)), .sh (.int (((gG a b - 1 : Nat) : Int) + 1)), .sh (.int k), .sh (encC (ptB a b k)), .sh (.int (hAt L a * (((gG a b - 1 : Nat) : Int) - (k : Int)) + hAt L b * ((k : Int) + 1)))], by simp [encK], ⟨_, _, _, rfl⟩, ?_⟩
      have b1 := big_int (i := hAt L a) (by omega)
      have b2 := big_int (i := hAt L b) (by omega)
      have b3 := big_int (i := hAt L (ptB a b k)) (by omega)
      have c1 : ((gG a b - 1 : Nat) : Int) + 1 - k - 1 = ((gG a b - 1 : Nat) : Int) - k := by omega
      cases hl : lineB L a b k with
      | true =>
        simp only [lineB, decide_eq_true_eq] at hl
        simp [fo_sees_of_0, v1, v2, v3, b1, b2, b3, c1]
        simp [Int.not_le.mpr hl]
      | false =>
        simp only [lineB, decide_eq_false_iff_not] at hl
        simp [fo_sees_of_0, v1, v2, v3, b1, b2, b3, c1]
        simp [hl, Int.not_lt.mp hl])
  obtain ⟨x5, x6, x7, rfl⟩ := e1
  have e3 : flOf ((List.range (gG a b - 1)).findSome? (fun k => if lineB L a b k then Option.none else some (D.bool false))) = if seesB L a b then .nx else .rt (.bool false) := by
    cases hs : seesB L a b with
    | true =>
      rw [List.findSome?_eq_none_iff.mpr (fun x hx => by
        simp only [seesB, List.all_eq_true] at hs
        rw [if_pos (hs x hx)])]
      rfl
    | false =>
      simp only [seesB, List.all_eq_false] at hs
      obtain ⟨x, hx, hf⟩ := hs
      cases hq : (List.range (gG a b - 1)).findSome? (fun k => if lineB L a b k then Option.none else some (D.bool false)) with
      | none =>
        have := List.findSome?_eq_none_iff.mp hq x hx
        rw [if_neg hf] at this
        cases this
      | some d =>
        obtain ⟨y, _, hy⟩ := List.exists_of_findSome?_eq_some hq
        split at hy
        · cases hy
        · cases hy; rfl
  rw [e3] at e2
  rw [← numbered_btw] at e2
  have lm : (((btw a b).length : Nat) : Int) = ((gG a b - 1 : Nat) : Int) := by rw [btw_len]
  cases hs : seesB L a b <;> simp [hs] at e2 <;> simp [py_sees_of, bo_sees_of, fnOf, startL, qb, lm, e2]
theorem seen_of_ok {L : List (List Int)} {h w : Nat} (hL : Land L h w) {a : Int × Int} (ha : InL h w a) (s : Sto) : py_seen_of [encL L, encC a] s = .ok (.lst (((cellsL h w).filter (seesB L a)).map encC)) s := by
  have hc : co_seen_of_0 [.sh (encL L), .sh (encC a), .no] s = .ok (.lst (((cellsL h w).filter (seesB L a)).map encC)) [.sh (encL L), .sh (encC a), .no] s := by
    unfold co_seen_of_0
    refine eComp_pure (cellsL h w) encC (seesB L a) encC ?_ rfl fun c hc => ⟨[.sh (encL L), .sh (encC a), .sh (encC c)], rfl, rfl, ?_, fun _ => by simp⟩
    · simp [cells_of_ok hL]
    · simp [sees_of_ok hL ha (mem_cellsL.mp hc)]
  simp [py_seen_of, bo_seen_of, fnOf, startL, hc]
theorem seen_ok {L : List (List Int)} {h w : Nat} (hL : Land L h w) {a : Int × Int} (ha : InL h w a) (s : Sto) : py_seen [encL L, encC a] s = .ok (.lst (((cellsL h w).filter (seesB L a)).map encC)) s := by
  simp [py_seen, bo_seen, fnOf, startL, need_both_ok hL ha, seen_of_ok hL ha]
theorem self_sees (L : List (List Int)) (a : Int × Int) : seesB L a a = true := by simp [seesB, gG]
end Pk
/-! Sp7: lands made cell by cell; sight over tilted, lifted, stretched lands; the best view. -/
namespace Pk
open PySem (Str)
/-! ### sight does not change -/
mutual
theorem eqv_refl : ∀ (x : D) (n : Nat), x.dep n = true → x.eqv x = true
  | .none, n, h => by simp
  | .bool b, n, h => by simp
  | .int i, n, h => by simp
  | .str x, n, h => by simp
  | .lst l, 0, h => by simp [D.dep] at h
  | .tup l, 0, h => by simp [D.dep] at h
  | .lst l, n + 1, h => by rw [eqv_lst_lst]; exact eqvL_refl l n (by simpa [D.dep] using h)
  | .tup l, n + 1, h => by rw [eqv_tup_tup]; exact eqvL_refl l n (by simpa [D.dep] using h)
  | .dct _ _, n, h => by cases n <;> simp [D.dep] at h
  | .fn _, n, h => by cases n <;> simp [D.dep] at h
  | .clo _ _, n, h => by cases n <;> simp [D.dep] at h
  | .town, n, h => by cases n <;> simp [D.dep] at h
  | .obj _, n, h => by cases n <;> simp [D.dep] at h
  | .scr _, n, h => by cases n <;> simp [D.dep] at h
theorem eqvL_refl : ∀ (l : List D) (n : Nat), (∀ x ∈ l, x.dep n = true) → eqvL l l = true
  | [], n, h => by simp
  | x :: l, n, h => by
    rw [eqvL_cc, eqv_refl x n (h x List.mem_cons_self), eqvL_refl l n fun y hy => h y (List.mem_cons_of_mem _ hy)]
    rfl
end
theorem pNe_self {d : D} (h : d.dep 64 = true) : pNe d d = some (.bool false) := by simp only [pNe, h, eqv_refl d 64 h, Bool.and_self, if_true, Bool.not_true]
end Pk
/-! Sp8: what are no lands, no cells; refusals. -/
namespace Pk
open PySem (Str)
/-! ### what is asked -/
end Pk
namespace Pk
open PySem (Str)
end Pk
/-! Sp9: lands turned, mirrored, upside down. -/
namespace Pk
open PySem (Str)
def turnL (L : List (List Int)) (w : Nat) : List (List Int) := (List.range w).map fun k => L.map fun r => r.getD (w - 1 - k) 0
def upL (L : List (List Int)) : List (List Int) := L.map fun r => r.map fun x => 999 - x
theorem Land.turn {L : List (List Int)} {h w : Nat} (hL : Land L h w) : Land (turnL L w) w h := by
  refine ⟨by simp [turnL], hL.hw, hL.hr, fun r hr => ?_, fun r hr x hx => ?_⟩
  · simp [turnL] at hr
    obtain ⟨k, hk, rfl⟩ := hr
    simp [hL.rows]
  · simp [turnL] at hr
    obtain ⟨k, hk, rfl⟩ := hr
    simp at hx
    obtain ⟨a, ha, rfl⟩ := hx
    have h1 := hL.cols a ha
    have : w - 1 - k < a.length := by omega
    simp [this]
    exact hL.ht a ha _ (List.getElem_mem this)
theorem Land.up {L : List (List Int)} {h w : Nat} (hL : Land L h w) : Land (upL L) h w := by
  refine ⟨by simp [upL, hL.rows], hL.hr, hL.hw, fun r hr => ?_, fun r hr x hx => ?_⟩
  · simp [upL] at hr
    obtain ⟨a, ha, rfl⟩ := hr
    simp [hL.cols a ha]
  · simp [upL] at hr
    obtain ⟨a, ha, rfl⟩ := hr
    simp at hx
    obtain ⟨y, hy, rfl⟩ := hx
    have := hL.ht a ha y hy
    omega
end Pk
/-! Spa: lands beside one another, parts. -/
namespace Pk
open PySem (Str)
/-! ### parts -/
end Pk
/-! Spb: is_land of any rows. -/
namespace Pk
open PySem (Str)
theorem sSeq_nx' {a b : S} {r r1 : Env} {s s1 : Sto} (h : a r s = .ok .nx r1 s1) : sSeq a b r s = b r1 s1 := by simp [h]
end Pk
/-! Spc2: neighbours, water that falls. -/
namespace Pk
open PySem (Str)
def besideL (h w : Nat) (c : Int × Int) : List (Int × Int) := (cellsL h w).filter (nearB c)
def lowN (L : List (List Int)) (h w : Nat) (c : Int × Int) : List (Int × Int) := (besideL h w c).filter fun o => decide (hAt L o < hAt L c)
theorem mem_lowN {L : List (List Int)} {h w : Nat} {c o : Int × Int} : o ∈ lowN L h w c ↔ InL h w o ∧ nearB c o = true ∧ hAt L o < hAt L c := by
  simp [lowN, besideL, mem_cellsL, and_assoc]
  intro _
  exact and_comm
/-- the next cell of water at c: the lowest, the first of several -/
def IsNext (L : List (List Int)) (h w : Nat) (c d : Int × Int) : Prop := d ∈ lowN L h w c ∧ ∀ y ∈ lowN L h w c, ltP (hAt L y, y) (hAt L d, d) = false
theorem next_uniq {L : List (List Int)} {h w : Nat} {c d e : Int × Int} (h1 : IsNext L h w c d) (h2 : IsNext L h w c e) : d = e := by
  have a := h1.2 e h2.1
  have b := h2.2 d h1.1
  obtain ⟨d1, d2⟩ := d
  obtain ⟨e1, e2⟩ := e
  simp only [ltP, ltC, Bool.or_eq_false_iff, Bool.and_eq_false_iff, decide_eq_false_iff_not] at a b
  simp only [Prod.mk.injEq]
  omega
/-- the way of water -/
inductive Way (L : List (List Int)) (h w : Nat) : (Int × Int) → List (Int × Int) → Prop
  | stay {c : Int × Int} (hs : lowN L h w c = []) : Way L h w c [c]
  | go {c d : Int × Int} {l : List (Int × Int)} (hn : IsNext L h w c d) (hw : Way L h w d l) : Way L h w c (c :: l)
theorem Way.head {L : List (List Int)} {h w : Nat} {c : Int × Int} {l : List (Int × Int)} (h1 : Way L h w c l) : ∃ t, l = c :: t := by
  cases h1 with
  | stay _ => exact ⟨[], rfl⟩
  | go _ _ => exact ⟨_, rfl⟩
theorem Way.uniq {L : List (List Int)} {h w : Nat} {c : Int × Int} {l m : List (Int × Int)} (h1 : Way L h w c l) : Way L h w c m → l = m := by
  induction h1 generalizing m with
  | stay hs =>
    intro h2
    cases h2 with
    | stay _ => rfl
    | go hn _ => have := hn.1; rw [hs] at this; cases this
  | go hn hw ih =>
    intro h2
    cases h2 with
    | stay hs => have := hn.1; rw [hs] at this; cases this
    | go hn2 hw2 =>
      have := next_uniq hn hn2
      subst this
      rw [ih hw2]
/-- heights go down -/
theorem Way.down {L : List (List Int)} {h w : Nat} {c : Int × Int} {l : List (Int × Int)} (h1 : Way L h w c l) : (∀ x ∈ l, hAt L x ≤ hAt L c) ∧ l.Nodup := by
  induction h1 with
  | stay hs => exact ⟨fun x hx => by rw [List.mem_singleton.mp hx]; exact Int.le_refl _, by simp⟩
  | go hn hw ih =>
    have hlt := (mem_lowN.mp hn.1).2.2
    refine ⟨fun x hx => ?_, ?_⟩
    · rcases List.mem_cons.mp hx with rfl | hx
      · exact Int.le_refl _
      · have := ih.1 x hx; omega
    · refine List.nodup_cons.mpr ⟨fun hm => ?_, ih.2⟩
      have := ih.1 _ hm
      omega
theorem Way.last {L : List (List Int)} {h w : Nat} {c : Int × Int} {l : List (Int × Int)} (h1 : Way L h w c l) (hc : InL h w c) : ∃ p e, l = p ++ [e] ∧ lowN L h w e = [] ∧ InL h w e := by
  induction h1 with
  | @stay c hs => exact ⟨[], c, rfl, hs, hc⟩
  | @go c d l hn hw ih =>
    obtain ⟨p, e, rfl, h2, h3⟩ := ih (mem_lowN.mp hn.1).1
    exact ⟨c :: p, e, rfl, h2, h3⟩
theorem Way.cells {L : List (List Int)} {h w : Nat} {c : Int × Int} {l : List (Int × Int)} (h1 : Way L h w c l) (hc : InL h w c) : ∀ x ∈ l, InL h w x := by
  induction h1 with
  | stay hs => intro x hx; rw [List.mem_singleton.mp hx]; exact hc
  | go hn hw ih =>
    intro x hx
    rcases List.mem_cons.mp hx with rfl | hx
    · exact hc
    · exact ih (mem_lowN.mp hn.1).1 x hx
end Pk
/-! Spd: walks. -/
namespace Pk
open PySem (Str)
def prs {α : Type} (l : List α) : List (α × α) := l.zip l.tail
theorem prs_append {α : Type} (a b : α) : ∀ l : List α, prs (l ++ [a] ++ [b]) = prs (l ++ [a]) ++ [(a, b)]
  | [] => rfl
  | [x] => rfl
  | x :: y :: l => by
    have := prs_append a b (y :: l)
    simp only [List.cons_append] at this ⊢
    show (x, y) :: prs (y :: (l ++ [a] ++ [b])) = (x, y) :: prs (y :: (l ++ [a])) ++ [(a, b)]
    rw [this]
    rfl
def chainB (C : List (Int × Int)) : Bool := (prs C).all fun p => nearB p.1 p.2
structure WalkOk (h w : Nat) (W : List (Int × Int)) : Prop where
  ne : W ≠ []
  cells : ∀ c ∈ W, InL h w c
  near : chainB W = true
theorem WalkOk.more {h w : Nat} {l : List (Int × Int)} {a b : Int × Int} (hW : WalkOk h w (l ++ [a])) (hb : InL h w b) (hn : nearB a b = true) : WalkOk h w (l ++ [a] ++ [b]) := by
  refine ⟨by simp, fun c hc => ?_, ?_⟩
  · rcases List.mem_append.mp hc with z | z
    · exact hW.cells c z
    · rw [List.mem_singleton.mp z]; exact hb
  · unfold chainB
    rw [prs_append a b l, List.all_append]
    have := hW.near
    unfold chainB at this
    rw [this]
    simp [hn]
end Pk
/-! Spe: which lists are walks; their numbers. -/
namespace Pk
open PySem (Str)
/-! ### numbers -/
end Pk
/-! Spf: cells in lists, sorted cells, dicts of cells. -/
namespace Pk
open PySem (Str)
theorem pIn_cells (c : Int × Int) (l : List (Int × Int)) : pIn (encC c) (.lst (l.map encC)) = some (.bool (decide (c ∈ l))) := by
  have h1 : D.dep 64 (encC c) = true := by simp [encC]
  have h2 : D.dep 64 (.lst (l.map encC)) = true := dep_cells 62 l
  have h3 : (l.map encC).any (fun z => z.eqv (encC c)) = decide (c ∈ l) := by
    rw [Bool.eq_iff_iff, List.any_eq_true, decide_eq_true_eq]
    constructor
    · rintro ⟨z, hz, e⟩
      obtain ⟨y, hy, rfl⟩ := List.mem_map.mp hz
      rw [eqv_encC] at e
      rw [← of_decide_eq_true e]
      exact hy
    · intro hc
      exact ⟨encC c, List.mem_map.mpr ⟨c, hc, rfl⟩, by rw [eqv_encC]; simp⟩
  simp only [pIn, h1, h2, Bool.and_self, if_true, h3]
/-! dicts of cells -/
def kyC (c : Int × Int) : Ky := .t [c.1, c.2]
theorem kyC_inj {a b : Int × Int} : kyC a = kyC b ↔ a = b := by
  obtain ⟨a1, a2⟩ := a
  obtain ⟨b1, b2⟩ := b
  simp [kyC]
theorem keyOf_encC (c : Int × Int) : keyOf (encC c) = some (kyC c) := rfl
theorem pairsOf_cells (g : Int × Int → D) : ∀ l : List (Int × Int), pairsOf (l.map fun c => .tup [encC c, g c]) = some (l.map fun c => [c.1, c.2], l.map g)
  | [] => rfl
  | c :: l => by
    simp only [List.map_cons, encC, pairsOf]
    have := pairsOf_cells g l
    simp only [encC] at this
    rw [this]
    rfl
theorem pDict_cells (g : Int × Int → D) {l : List (Int × Int)} (hn : l.Nodup) : pDict (.lst (l.map fun c => .tup [encC c, g c])) = some (.dct (l.map kyC) (l.map g)) := by
  have h1 : (l.map fun c : Int × Int => [c.1, c.2]).Nodup := by
    refine List.pairwise_map.mpr (hn.imp fun {a b} hab e => hab ?_)
    obtain ⟨a1, a2⟩ := a
    obtain ⟨b1, b2⟩ := b
    simpa using e
  simp only [pDict, pairsOf_cells, Option.bind_some, lim_of h1, if_true, List.map_map]
  rfl
end Pk
/-! Spg: what is seen along one step. -/
namespace Pk
open PySem (Str)
end Pk
/-! Spr0: what hangs together, in plain words. -/
namespace Pk
open PySem (Str)
abbrev C := Int × Int
/-- one comes from a to b by steps of near, each to a cell of P -/
inductive Rch (near : C → C → Bool) (P : C → Prop) (a : C) : C → Prop
  | refl : Rch near P a a
  | step {x y : C} (h : Rch near P a x) (hn : near x y = true) (hp : P y) : Rch near P a y
section
variable {near : C → C → Bool} {P Q : C → Prop} {a b c : C}
theorem Rch.trans (h1 : Rch near P a b) (h2 : Rch near P b c) : Rch near P a c := by
  induction h2 with
  | refl => exact h1
  | step h hn hp ih => exact .step ih hn hp
theorem Rch.one (hn : near a b = true) (hp : P b) : Rch near P a b := .step .refl hn hp
theorem Rch.mono (hPQ : ∀ x, P x → Q x) (h : Rch near P a b) : Rch near Q a b := by
  induction h with
  | refl => exact .refl
  | step h hn hp ih => exact .step ih hn (hPQ _ hp)
theorem Rch.all (h : Rch near P a b) (ha : P a) : P b := by
  cases h with
  | refl => exact ha
  | step _ _ hp => exact hp
theorem Rch.symm (sy : ∀ x y, near x y = near y x) (ha : P a) (h : Rch near P a b) : Rch near P b a := by
  induction h with
  | refl => exact .refl
  | step h hn hp ih => exact Rch.trans (Rch.one (by rw [sy]; exact hn) (h.all ha)) ih
theorem Rch.congr (h : ∀ x, P x ↔ Q x) : Rch near P a b ↔ Rch near Q a b := ⟨Rch.mono fun x => (h x).mp, Rch.mono fun x => (h x).mpr⟩
end
theorem nearB_comm (a b : C) : nearB a b = nearB b a := by
  simp only [nearB]
  rw [decide_eq_decide]
  omega
/-! ### cells of a land that are good -/
abbrev GoodP (h w : Nat) (g : C → Bool) : C → Prop := fun y => InL h w y ∧ g y = true
abbrev RG (h w : Nat) (g : C → Bool) : C → C → Prop := Rch nearB (GoodP h w g)
/-- all cells to which one comes -/
noncomputable def sprd (h w : Nat) (g : C → Bool) (c : C) : List C := (cellsL h w).filter fun x => lim (RG h w g c x)
/-! ### parts: by classes -/
/-- the first cells of classes, in order -/
noncomputable def firstOf (cls : C → List C) (cs : List C) : List C := cs.filter fun c => lim (∀ d ∈ cs, ltC d c = true → c ∉ cls d)
structure Classes (cls : C → List C) (cs : List C) : Prop where
  self : ∀ c ∈ cs, c ∈ cls c
  sub : ∀ c ∈ cs, ∀ x ∈ cls c, x ∈ cs
  same : ∀ c ∈ cs, ∀ x ∈ cls c, cls x = cls c
/-- going through the cells: which are new, what was seen -/
theorem parts_turn {cls : C → List C} {cs pre post : List C} {c : C} (K : Classes cls cs) (hs : cs.Pairwise fun a b => ltC a b = true) (e : cs = pre ++ c :: post) :
    (∃ d ∈ pre, c ∈ cls d) ↔ c ∉ firstOf cls cs := by
  have hc : c ∈ cs := by rw [e]; simp
  unfold firstOf
  rw [List.mem_filter, lim_iff]
  rw [e] at hs
  have hs1 : ∀ d ∈ pre, ltC d c = true := fun d hd => (List.pairwise_append.mp hs).2.2 d hd c List.mem_cons_self
  constructor
  · rintro ⟨d, hd, hcd⟩ ⟨_, h2⟩
    exact h2 d (by rw [e]; exact List.mem_append_left _ hd) (hs1 d hd) hcd
  · intro h
    apply Classical.byContradiction
    intro hn
    refine h ⟨hc, fun d hd hlt hcd => hn ⟨d, ?_, hcd⟩⟩
    rw [e] at hd
    rcases List.mem_append.mp hd with h1 | h1
    · exact h1
    · exfalso
      rcases List.mem_cons.mp h1 with rfl | h1
      · rw [ord_C.ir] at hlt; cases hlt
      · have h2 := (List.pairwise_cons.mp (List.pairwise_append.mp hs).2.1).1 d h1
        have := ord_C.tr _ _ _ hlt h2
        rw [ord_C.ir] at this; cases this
end Pk
/-! Spr1: dicts of cells; spread_of. -/
namespace Pk
open PySem (Str)
/-- a dict whose keys are cells -/
def dC (F : List C) (v : C → D) : D := .dct (F.map kyC) (F.map v)
def addK (F : List C) (c : C) : List C := if c ∈ F then F else F ++ [c]
theorem mem_addK {F : List C} {c x : C} : x ∈ addK F c ↔ x ∈ F ∨ x = c := by
  unfold addK
  split
  · rename_i h
    exact ⟨.inl, fun q => q.elim id fun e => e ▸ h⟩
  · simp
theorem addK_nodup {F : List C} {c : C} (h : F.Nodup) : (addK F c).Nodup := by
  unfold addK
  split
  · exact h
  · rename_i n
    rw [List.nodup_append]
    exact ⟨h, by simp, fun a ha b hb e => n (by rw [List.mem_singleton.mp hb] at e; exact e ▸ ha)⟩
theorem dctGet_C (F : List C) (v : C → D) (c : C) : dctGet (F.map kyC) (F.map v) (kyC c) = if c ∈ F then some (v c) else none := by
  induction F with
  | nil => simp [dctGet]
  | cons x F ih =>
    by_cases e : x = c
    · simp [dctGet, e]
    · have n : ¬ kyC x = kyC c := fun q => e (kyC_inj.mp q)
      have e' : ¬ c = x := fun q => e q.symm
      simp [dctGet, n, e'] at ih ⊢
      rw [ih]
theorem pIxD_C {F : List C} (v : C → D) {c : C} (h : c ∈ F) : pIxD (dC F v) (encC c) = some (v c) := by
  simp only [pIxD, dC, keyOf_encC, Option.bind_some, dctGet_C, if_pos h]
theorem pDict_C (v : C → D) {l : List C} (hn : l.Nodup) : pDict (.lst (l.map fun c => .tup [encC c, v c])) = some (dC l v) := pDict_cells v hn
theorem few {h w : Nat} (hh : h ≤ 8) (hw : w ≤ 8) {F : List C} (hn : F.Nodup) (hF : ∀ c ∈ F, InL h w c) : F.length ≤ h * w ∧ F.length ≤ 64 := by
  have p : F.Perm ((cellsL h w).filter fun x => decide (x ∈ F)) := (List.perm_ext_iff_of_nodup hn ((cellsL_nodup h w).filter _)).mpr fun x => by
    simp only [List.mem_filter, decide_eq_true_eq]
    exact ⟨fun hx => ⟨mem_cellsL.mpr (hF x hx), hx⟩, fun hx => hx.2⟩
  have := List.length_filter_le (fun x => decide (x ∈ F)) (cellsL h w)
  rw [← p.length_eq, cellsL_len] at this
  have : h * w ≤ 8 * 8 := Nat.mul_le_mul hh hw
  omega
/-! ### spread_of -/
end Pk
/-! Spr2: spread_of, flat_of, land_at. -/
namespace Pk
open PySem (Str)
structure SpI (h w : Nat) (g : C → Bool) (c : C) (F S : List C) : Prop where
  nd : F.Nodup
  hc : c ∈ F
  rc : ∀ x ∈ F, RG h w g c x
  sub : ∀ x ∈ S, x ∈ F
  cl : ∀ x ∈ F, x ∉ S → ∀ y, nearB x y = true → GoodP h w g y → y ∈ F
  sl : S.length ≤ F.length
def sameH (L : List (List Int)) (c : C) : C → Bool := fun x => decide (hAt L x = hAt L c)
end Pk
/-! Sp6: the nearest higher cell. -/
namespace Pk
open PySem (Str)
theorem take_succ_filter {α : Type} (p : α → Bool) (l : List α) {k : Nat} {x : α} (h : l[k]? = some x) : (l.take (k + 1)).filter p = (l.take k).filter p ++ (if p x then [x] else []) := by
  rw [List.take_succ, h, List.filter_append]
  simp [List.filter_cons]
end Pk
/-! Spr3: parts_of, all_flats, islands. -/
namespace Pk
open PySem (Str)
/-! ### the loop, in plain words -/
structure SnI (cls : C → List C) (cs : List C) (k : Nat) (M : List (List C)) (S : List C) : Prop where
  made : M = ((cs.take k).filter fun c => decide (c ∈ firstOf cls cs)).map cls
  seen : ∀ x, x ∈ S ↔ ∃ d ∈ cs.take k, x ∈ cls d
  nd : S.Nodup
theorem SnI.zero (cls : C → List C) (cs : List C) : SnI cls cs 0 [] [] := ⟨by simp, by simp, by simp⟩
theorem SnI.yes {cls : C → List C} {cs : List C} (K : Classes cls cs) (hs : cs.Pairwise fun a b => ltC a b = true) {k : Nat} {c : C} (hk : cs[k]? = some c) {M : List (List C)} {S S' : List C} (I : SnI cls cs k M S) (hc : c ∉ S) (hS : ∀ x, x ∈ S' ↔ x ∈ S ∨ x ∈ cls c) (nd : S'.Nodup) :
    SnI cls cs (k + 1) (M ++ [cls c]) S' := by
  obtain ⟨hlt, hg⟩ := List.getElem?_eq_some_iff.mp hk
  have e : cs = cs.take k ++ c :: cs.drop (k + 1) := by rw [← hg, ← List.drop_eq_getElem_cons hlt]; simp
  have hf : c ∈ firstOf cls cs := Classical.byContradiction fun q => hc ((I.seen c).mpr ((parts_turn K hs e).mpr q))
  refine ⟨?_, fun x => ?_, nd⟩
  · rw [take_succ_filter _ _ hk, I.made]
    simp [hf]
  · rw [hS, I.seen, List.take_succ, hk]
    simp only [Option.toList, List.mem_append, List.mem_singleton]
    exact ⟨fun q => q.elim (fun ⟨d, h1, h2⟩ => ⟨d, .inl h1, h2⟩) fun q => ⟨c, .inr rfl, q⟩, fun ⟨d, h1, h2⟩ => h1.elim (fun h1 => .inl ⟨d, h1, h2⟩) fun h1 => .inr (h1 ▸ h2)⟩
theorem SnI.no {cls : C → List C} {cs : List C} (K : Classes cls cs) (hs : cs.Pairwise fun a b => ltC a b = true) {k : Nat} {c : C} (hk : cs[k]? = some c) {M : List (List C)} {S : List C} (I : SnI cls cs k M S) (hc : c ∈ S) : SnI cls cs (k + 1) M S := by
  obtain ⟨hlt, hg⟩ := List.getElem?_eq_some_iff.mp hk
  have e : cs = cs.take k ++ c :: cs.drop (k + 1) := by rw [← hg, ← List.drop_eq_getElem_cons hlt]; simp
  obtain ⟨d, hd, hcd⟩ := (I.seen c).mp hc
  have hf : c ∉ firstOf cls cs := (parts_turn K hs e).mp ⟨d, hd, hcd⟩
  have hdc : d ∈ cs := List.mem_of_mem_take hd
  refine ⟨?_, fun x => ?_, I.nd⟩
  · rw [take_succ_filter _ _ hk, I.made]
    simp [hf]
  · rw [I.seen, List.take_succ, hk]
    simp only [Option.toList, List.mem_append, List.mem_singleton]
    refine ⟨fun ⟨d, h1, h2⟩ => ⟨d, .inl h1, h2⟩, fun ⟨y, h1, h2⟩ => h1.elim (fun h1 => ⟨y, h1, h2⟩) fun h1 => ⟨d, hd, ?_⟩⟩
    subst h1
    rw [← K.same d hdc y hcd]
    exact h2
theorem SnI.last {cls : C → List C} {cs : List C} {M : List (List C)} {S : List C} (I : SnI cls cs cs.length M S) : M = (firstOf cls cs).map cls := by
  rw [I.made, List.take_length]
  congr 1
  unfold firstOf
  refine List.filter_congr fun c hc => ?_
  rw [Bool.eq_iff_iff, decide_eq_true_eq, List.mem_filter]
  exact ⟨fun h => h.2, fun h => ⟨hc, h⟩⟩
theorem SnI.len {cls : C → List C} {cs : List C} {k : Nat} {M : List (List C)} {S : List C} (I : SnI cls cs k M S) : M.length ≤ cs.length := by
  rw [I.made, List.length_map]
  exact Nat.le_trans (List.length_filter_le _ _) (by rw [List.length_take]; omega)
/-! ### parts_of -/
def dry (L : List (List Int)) (v : Int) : C → Bool := fun x => decide (v ≤ hAt L x)
end Pk
/-! Spr4: the pass between two cells. -/
namespace Pk
open PySem (Str)
/-- a walk from a to x nowhere lower than v -/
def Wide (L : List (List Int)) (h w : Nat) (a : C) (v : Int) (x : C) : Prop := v ≤ hAt L a ∧ RG h w (dry L v) a x
def IsPass (L : List (List Int)) (h w : Nat) (a b : C) (v : Int) : Prop := Wide L h w a v b ∧ ∀ u, Wide L h w a u b → u ≤ v
theorem IsPass.uniq {L : List (List Int)} {h w : Nat} {a b : C} {u v : Int} (h1 : IsPass L h w a b u) (h2 : IsPass L h w a b v) : u = v := by
  have := h1.2 v h2.1
  have := h2.2 u h1.1
  omega
theorem dry_iff {L : List (List Int)} {v : Int} {x : C} : dry L v x = true ↔ v ≤ hAt L x := by simp [dry]
theorem Wide.high {L : List (List Int)} {h w : Nat} {a x : C} {v : Int} (hw : Wide L h w a v x) (ha : InL h w a) : InL h w x ∧ v ≤ hAt L x := by
  have := hw.2.all (P := GoodP h w (dry L v)) ⟨ha, dry_iff.mpr hw.1⟩
  exact ⟨this.1, dry_iff.mp this.2⟩
theorem Wide.symm {L : List (List Int)} {h w : Nat} {a x : C} {v : Int} (hw : Wide L h w a v x) (ha : InL h w a) : Wide L h w x v a :=
  ⟨(hw.high ha).2, hw.2.symm nearB_comm ⟨ha, dry_iff.mpr hw.1⟩⟩
theorem Wide.trans {L : List (List Int)} {h w : Nat} {a b x : C} {v : Int} (h1 : Wide L h w a v b) (h2 : Wide L h w b v x) : Wide L h w a v x := ⟨h1.1, h1.2.trans h2.2⟩
theorem Wide.down {L : List (List Int)} {h w : Nat} {a x : C} {u v : Int} (hw : Wide L h w a v x) (huv : u ≤ v) : Wide L h w a u x :=
  ⟨by have := hw.1; omega, hw.2.mono fun y hy => ⟨hy.1, dry_iff.mpr (by have := dry_iff.mp hy.2; omega)⟩⟩
theorem IsPass.symm {L : List (List Int)} {h w : Nat} {a b : C} {v : Int} (h1 : IsPass L h w a b v) (ha : InL h w a) (hb : InL h w b) : IsPass L h w b a v := ⟨h1.1.symm ha, fun u hu => h1.2 u (hu.symm hb)⟩
end Pk
/-! Spr5: _law_passes: what is best so far goes round. -/
namespace Pk
open PySem (Str)
/-- a for, by a state that stands in the frame -/
theorem forL_st {α β : Type} {g : Tg} {b : S} {s : Sto} (enc : α → D) (E : β → Env) (I : Nat → β → Prop) : ∀ (xs : List α) (k : Nat) (x : β), I k x →
    (∀ (j : Nat) (a : α), xs[j]? = some a → ∀ x, I (k + j) x → ∃ r1 y, setT (E x) g (enc a) = some r1 ∧ b r1 s = .ok .nx (E y) s ∧ I (k + j + 1) y) →
    ∃ y, forL g b (xs.map enc) (E x) s = .ok .nx (E y) s ∧ I (k + xs.length) y
  | [], k, x, h0, _ => ⟨x, rfl, by simpa using h0⟩
  | a :: xs, k, x, h0, h => by
    obtain ⟨r1, y, h1, h2, h3⟩ := h 0 a rfl x (by simpa using h0)
    obtain ⟨z, e1, e2⟩ := forL_st enc E I xs (k + 1) y (by simpa using h3) (fun j a hj x hI => by
      have := h (j + 1) a (by simpa using hj) x (by rw [show k + (j + 1) = k + 1 + j by omega]; exact hI)
      rw [show k + (j + 1) + 1 = k + 1 + j + 1 by omega] at this
      exact this)
    refine ⟨z, ?_, ?_⟩
    · simp only [List.map_cons, forL, h1, h2, R.bind_ok]
      exact e1
    · rw [List.length_cons, show k + (xs.length + 1) = k + 1 + xs.length by omega]
      exact e2
/-! sums over cells -/
theorem sum_le {α : Type} {f g : α → Nat} : ∀ {l : List α}, (∀ x ∈ l, f x ≤ g x) → (l.map f).sum ≤ (l.map g).sum
  | [], _ => Nat.le_refl _
  | a :: l, h => by
    have h1 := h a List.mem_cons_self
    have h2 := sum_le (l := l) fun x hx => h x (List.mem_cons_of_mem _ hx)
    simp only [List.map_cons, List.sum_cons]
    omega
theorem sum_lt {α : Type} {f g : α → Nat} {c : α} : ∀ {l : List α}, (∀ x ∈ l, f x ≤ g x) → c ∈ l → f c < g c → (l.map f).sum < (l.map g).sum
  | [], _, h, _ => by cases h
  | a :: l, h, hc, hlt => by
    have h1 := h a List.mem_cons_self
    have h2 := sum_le (l := l) fun x hx => h x (List.mem_cons_of_mem _ hx)
    simp only [List.map_cons, List.sum_cons]
    rcases List.mem_cons.mp hc with e | e
    · subst e; omega
    · have := sum_lt (l := l) (fun x hx => h x (List.mem_cons_of_mem _ hx)) e hlt
      omega
/-! ### a table of numbers by cells -/
abbrev nD (v : C → Int) : C → D := fun x => .int (v x)
def updN (v : C → Int) (c : C) (k : Int) : C → Int := fun x => if x = c then k else v x
def getN (F : List C) (v : C → Int) (c : C) (d : Int) : Int := if c ∈ F then v c else d
/-! ### _law_passes -/
theorem pNe_nil_ints (l : List Int) : pNe (.lst (l.map .int)) (.lst []) = some (.bool (!l.isEmpty)) := by
  have h1 : D.dep 64 (.lst (l.map .int)) = true := by
    show List.all _ _ = true
    rw [List.all_map, List.all_eq_true]
    exact fun x _ => rfl
  have h2 : D.dep 64 (.lst []) = true := rfl
  simp only [pNe, h1, h2, Bool.and_self, if_true]
  cases l <;> simp
/-- what is known between the turns -/
structure PaI (L : List (List Int)) (h w : Nat) (a : C) (F : List C) (v : C → Int) : Prop where
  nd : F.Nodup
  hin : ∀ x ∈ F, InL h w x
  ha : a ∈ F
  va : v a = hAt L a
  ok : ∀ x ∈ F, 0 ≤ v x ∧ Wide L h w a (v x) x
def phi (h w : Nat) (F : List C) (v : C → Int) : Nat := ((cellsL h w).map fun x => if x ∈ F then (v x).toNat + 1 else 0).sum
theorem PaI.le {L : List (List Int)} {h w : Nat} (hL : Land L h w) {a : C} (ha : InL h w a) {F : List C} {v : C → Int} (I : PaI L h w a F v) {x : C} (hx : x ∈ F) : 0 ≤ v x ∧ v x ≤ 999 := by
  have h1 := I.ok x hx
  have h2 := (hAt_le hL ha).2
  have h3 := h1.2.1
  omega
theorem PaI.step {L : List (List Int)} {h w : Nat} (hL : Land L h w) {a : C} {F : List C} {v : C → Int} (I : PaI L h w a F v) {c o : C} (hc : InL h w c) (ho : o ∈ F) (hn : nearB c o = true) (hlt : getN F v c (-1) < min (v o) (hAt L c)) :
    PaI L h w a (addK F c) (updN v c (min (v o) (hAt L c))) ∧ phi h w F v < phi h w (addK F c) (updN v c (min (v o) (hAt L c))) := by
  have hac : a ≠ c := fun e => by
    have h1 := (I.ok o ho).2.1
    have h2 := I.va
    have h3 := I.ha
    rw [e] at h1 h2 h3
    unfold getN at hlt
    rw [if_pos h3] at hlt
    omega
  refine ⟨⟨addK_nodup I.nd, fun x hx => ?_, mem_addK.mpr (.inl I.ha), ?_, fun x hx => ?_⟩, ?_⟩
  · rcases mem_addK.mp hx with q | q
    · exact I.hin x q
    · rw [q]; exact hc
  · unfold updN
    rw [if_neg hac]
    exact I.va
  · by_cases e : x = c
    · subst e
      have e1 : updN v x (min (v o) (hAt L x)) x = min (v o) (hAt L x) := by simp [updN]
      rw [e1]
      have ho2 := I.ok o ho
      have hx0 := (hAt_le hL hc).1
      refine ⟨by omega, (ho2.2.down (u := min (v o) (hAt L x)) (by omega)).1, ?_⟩
      · exact .step (ho2.2.down (u := min (v o) (hAt L x)) (by omega)).2 (by rw [nearB_comm]; exact hn) ⟨hc, dry_iff.mpr (by omega)⟩
    · have e1 : updN v c (min (v o) (hAt L c)) x = v x := by simp [updN, e]
      rw [e1]
      rcases mem_addK.mp hx with q | q
      · exact I.ok x q
      · exact absurd q e
  · unfold phi
    refine sum_lt (c := c) (fun x hx => ?_) (mem_cellsL.mpr hc) ?_
    · by_cases e : x = c
      · subst e
        unfold getN at hlt
        by_cases q : x ∈ F
        · rw [if_pos q] at hlt
          have q2 : x ∈ addK F x := mem_addK.mpr (.inr rfl)
          simp only [q, q2, if_true, updN]
          omega
        · simp [q]
      · have : x ∈ addK F c ↔ x ∈ F := by rw [mem_addK]; exact ⟨fun q => q.elim id fun q => absurd q e, .inl⟩
        simp only [this, updN, e, if_false]
        omega
    · have q2 : c ∈ addK F c := mem_addK.mpr (.inr rfl)
      have h0 := (I.ok o ho).1
      have h1 := (hAt_le hL hc).1
      simp only [q2, if_true, updN]
      unfold getN at hlt
      by_cases q : c ∈ F
      · rw [if_pos q] at hlt
        have := (I.ok c q).1
        simp only [q, if_true]
        omega
      · simp only [q, if_false]
        omega
end Pk
/-! Spr6: _law_passes, whole. -/
namespace Pk
open PySem (Str)
end Pk
/-! Spr7: parts that hold two cells; small things for laws. -/
namespace Pk
open PySem (Str)
end Pk
/-! Spr8: all flats, differences, flats, pits. -/
namespace Pk
open PySem (Str)
noncomputable abbrev flatL (L : List (List Int)) (h w : Nat) (c : C) : List C := sprd h w (sameH L c) c
noncomputable def flatsL (L : List (List Int)) (h w : Nat) : List C := firstOf (flatL L h w) (cellsL h w)
/-! ### all_flats -/
/-! ### flats, differences, pits -/
def peakP (L : List (List Int)) (h w : Nat) (f : C) : Prop := ∀ c ∈ flatL L h w f, ∀ o, InL h w o → nearB c o = true → hAt L o ≤ hAt L c
noncomputable def peaksS (L : List (List Int)) (h w : Nat) : List C := (flatsL L h w).filter fun f => lim (peakP L h w f)
end Pk
/-! Spr9: basins. -/
namespace Pk
open PySem (Str)
/-! ### basin, basins -/
end Pk
/-! Sps0: _law_parts: the least label goes round. -/
namespace Pk
open PySem (Str)
noncomputable section
end
/-- parts of a sorted list of cells, by touching -/
abbrev RS (tch : C → C → Bool) (S : List C) : C → C → Prop := Rch tch (· ∈ S)
def updL (lab : C → C) (c e : C) : C → C := fun x => if x = c then e else lab x
structure LbI (tch : C → C → Bool) (S : List C) (lab : C → C) : Prop where
  mem : ∀ x ∈ S, lab x ∈ S
  rc : ∀ x ∈ S, RS tch S x (lab x)
  le : ∀ x ∈ S, ltC x (lab x) = false
def codeC (c : C) : Nat := (c.1 * 64 + c.2).toNat
def psi (S : List C) (lab : C → C) : Nat := (S.map fun x => codeC (lab x)).sum
theorem code_lt {h w : Nat} (hh : h ≤ 8) (hw : w ≤ 8) {a b : C} (ha : InL h w a) (hb : InL h w b) (hl : ltC a b = true) : codeC a < codeC b := by
  obtain ⟨a1, a2, a3, a4⟩ := ha
  obtain ⟨b1, b2, b3, b4⟩ := hb
  simp only [ltC, Bool.or_eq_true, Bool.and_eq_true, decide_eq_true_eq] at hl
  unfold codeC
  omega
theorem LbI.step {h w : Nat} (hh : h ≤ 8) (hw : w ≤ 8) {tch : C → C → Bool} {S : List C} {lab : C → C} (hS : ∀ c ∈ S, InL h w c) (I : LbI tch S lab) {c d : C} (hc : c ∈ S) (hd : d ∈ S) (hl : ltC (lab d) (lab c) = true) (ht : tch c d = true) :
    LbI tch S (updL lab c (lab d)) ∧ psi S (updL lab c (lab d)) < psi S lab := by
  refine ⟨⟨fun x hx => ?_, fun x hx => ?_, fun x hx => ?_⟩, ?_⟩
  · unfold updL; split
    · exact I.mem d hd
    · exact I.mem x hx
  · unfold updL; split
    · rename_i e; rw [e]; exact (Rch.one ht hd).trans (I.rc d hd)
    · exact I.rc x hx
  · unfold updL; split
    · rename_i e
      rw [e]
      cases q : ltC c (lab d) with
      | false => rfl
      | true =>
        have := ord_C.tr _ _ _ q hl
        rw [I.le c hc] at this
        cases this
    · exact I.le x hx
  · unfold psi
    refine sum_lt (c := c) (fun x hx => ?_) hc ?_
    · unfold updL; split
      · rename_i e; rw [e]; exact Nat.le_of_lt (code_lt hh hw (hS _ (I.mem d hd)) (hS _ (I.mem c hc)) hl)
      · exact Nat.le_refl _
    · have : updL lab c (lab d) c = lab d := by simp [updL]
      rw [this]
      exact code_lt hh hw (hS _ (I.mem d hd)) (hS _ (I.mem c hc)) hl
/-! ### the rounds -/
section
variable {F : Fn} {tch : C → C → Bool} {S : List C} {h w : Nat}
structure RdI (tch : C → C → Bool) (S : List C) (lab0 : C → C) (x : (C → C) × Bool × Sl × Sl) (P : Prop) : Prop where
  i : LbI tch S x.1
  le : psi S x.1 ≤ psi S lab0
  yes : x.2.1 = true → psi S x.1 < psi S lab0
  no : x.2.1 = false → x.1 = lab0 ∧ P
end
end Pk
/-! Sps1: _law_flats. -/
namespace Pk
open PySem (Str)
/-! ### the order of parts -/
/-! ### levels -/
end Pk
/-! Sps2: the part of a cell; how many cells all parts have. -/
namespace Pk
open PySem (Str)
end Pk
/-! Sps3: peaks in their order; _law_ends, _law_peaks. -/
namespace Pk
open PySem (Str)
def keyP (L : List (List Int)) (c : C) : Int × C := (0 - hAt L c, c)
def leP (L : List (List Int)) (a b : C) : Bool := !(ltP (keyP L b) (keyP L a))
noncomputable def peaksL (L : List (List Int)) (h w : Nat) : List C := (peaksS L h w).mergeSort (leP L)
/-! ### _law_ends -/
end Pk
/-! Sps4: upside down; the top; cells and peaks. -/
namespace Pk
open PySem (Str)
/-! ### flats' first cells -/
/-! ### the highest of all rows -/
end Pk
/-! Sps5: heads of islands. -/
namespace Pk
open PySem (Str)
end Pk
/-! Sps6: small things for laws: numbered, sets of cells, heads of parts. -/
namespace Pk
open PySem (Str)
noncomputable def headC (L : List (List Int)) (h w : Nat) (v : Int) (c : C) : C := match (peaksL L h w).filter fun q => decide (q ∈ sprd h w (dry L v) c) with
  | q :: _ => q
  | [] => (0, 0)
theorem e2_v {p : D → D → Option D} {a c : M D} {r r1 r2 : Env} {s s1 s2 : Sto} {d e x : D} (h1 : a r s = .ok d r1 s1) (h2 : c r1 s1 = .ok e r2 s2) (h3 : p d e = some x) : e2 p (.v a) (.v c) r s = .ok x r2 s2 := by
  simp only [e2, Opd.run, h1, h2, R.bind_ok, look, Option.bind_some, h3, opt_some]
end Pk
/-! Spv0: one step at a time. -/
namespace Pk
theorem e1_v {p : D → Option D} {a : M D} {r r1 : Env} {s s1 : Sto} {d x : D} (h1 : a r s = .ok d r1 s1) (h2 : p d = some x) : e1 p (.v a) r s = .ok x r1 s1 := by simp [h1, h2]
theorem sExtend_of {i : Nat} {e : M D} {r r1 : Env} {s s1 : Sto} {l l' m : List D} (h1 : r[i]? = some (.ow (.lst l))) (h2 : e r s = .ok (.lst m) r1 s1) (h3 : r1[i]? = some (.ow (.lst l'))) (h4 : l'.length + m.length ≤ SZ) : sExtend i e r s = .ok .nx (r1.set i (.ow (.lst (l' ++ m)))) s1 := by
  simp only [sExtend, h1, h2, R.bind_ok, h3, lim_of h4, if_true]
theorem sSet_of {f : Bool} {i : Nat} {e : M D} {r r1 : Env} {s s1 : Sto} {d : D} (h : e r s = .ok d r1 s1) : sSet f i e r s = .ok .nx (r1.set i (if f then .ow d else .sh d)) s1 := by simp only [sSet, h, R.bind_ok]
theorem sFor_of {it : It} {g : Tg} {b : S} {r r1 : Env} {s s1 : Sto} {ds : List D} (h : it r s = .ok ds r1 s1) : sFor it g b r s = forL g b ds r1 s1 := by simp only [sFor, h, R.bind_ok]
end Pk
/-! Spt0: the cheapest walks, in plain words: costs are pairs of numbers; what is least so far goes round. -/
namespace Pk
abbrev Pc := Int × Int
def ltQ (x y : Pc) : Prop := x.1 < y.1 ∨ (x.1 = y.1 ∧ x.2 < y.2)
def leQ (x y : Pc) : Prop := ¬ ltQ y x
def addP (x i : Pc) : Pc := (x.1 + i.1, x.2 + i.2)
instance (x y : Pc) : Decidable (ltQ x y) := by unfold ltQ; exact inferInstance
instance (x y : Pc) : Decidable (leQ x y) := by unfold leQ; exact inferInstance
theorem leQ.refl (x : Pc) : leQ x x := by simp only [leQ, ltQ]; omega
theorem leQ.trans {x y u : Pc} (h1 : leQ x y) (h2 : leQ y u) : leQ x u := by simp only [leQ, ltQ] at *; omega
theorem leQ.antisymm {x y : Pc} (h1 : leQ x y) (h2 : leQ y x) : x = y := by simp only [leQ, ltQ] at *; exact Prod.ext (by omega) (by omega)
theorem leQ_add {x i : Pc} (h1 : 0 ≤ i.1) (h2 : 0 ≤ i.2) : leQ x (addP x i) := by simp only [leQ, ltQ, addP]; omega
theorem leQ_mono {x y i : Pc} (h : leQ x y) : leQ (addP x i) (addP y i) := by simp only [leQ, ltQ, addP] at *; omega
/-- the steps and what each costs -/
structure Edges (E : C → C → Option Pc) (cs : List C) : Prop where
  nn : ∀ o c i, E o c = some i → 0 ≤ i.1 ∧ i.1 ≤ 999 ∧ 0 ≤ i.2 ∧ i.2 ≤ 1
  inn : ∀ o c i, E o c = some i → o ∈ cs
  ne : ∀ o c i, E o c = some i → o ≠ c
/-- a walk to g, what it costs -/
inductive Wk (E : C → C → Option Pc) (g : C) (z : Pc) : C → Pc → Prop
  | nil : Wk E g z g z
  | cons {o c : C} {x i : Pc} (he : E o c = some i) (h : Wk E g z c x) : Wk E g z o (addP x i)
/-- .. with no cell twice, and whose cells are known to cost no more -/
inductive SW (E : C → C → Option Pc) (g : C) (z : Pc) (F : List C) (v : C → Pc) : C → List C → Pc → Prop
  | nil (hg : g ∈ F) (hz : leQ (v g) z) : SW E g z F v g [g] z
  | cons {o c : C} {l : List C} {x i : Pc} (he : E o c = some i) (h : SW E g z F v c l x) (hn : o ∉ l) (hF : o ∈ F) (hv : leQ (v o) (addP x i)) : SW E g z F v o (o :: l) (addP x i)
section
variable {E : C → C → Option Pc} {g : C} {z : Pc} {F F' cs : List C} {v v' : C → Pc} {c : C} {l : List C} {x : Pc}
theorem SW.mono (hF : ∀ c ∈ F, c ∈ F') (hv : ∀ c ∈ F, leQ (v' c) (v c)) (h : SW E g z F v c l x) : SW E g z F' v' c l x := by
  induction h with
  | nil hg hz => exact .nil (hF _ hg) ((hv _ hg).trans hz)
  | cons he h hn hF1 hv1 ih => exact .cons he ih hn (hF _ hF1) ((hv _ hF1).trans hv1)
theorem SW.wk (h : SW E g z F v c l x) : Wk E g z c x := by
  induction h with
  | nil hg hz => exact .nil
  | cons he h hn hF1 hv1 ih => exact .cons he ih
theorem SW.gz (h : SW E g z F v c l x) : g ∈ F ∧ leQ (v g) z := by
  induction h with
  | nil hg hz => exact ⟨hg, hz⟩
  | cons he h hn hF1 hv1 ih => exact ih
theorem SW.le (hE : Edges E cs) (h : SW E g z F v c l x) : ∀ o ∈ l, o ∈ F ∧ leQ (v o) x := by
  induction h with
  | nil hg hz => intro o ho; rw [List.mem_singleton.mp ho]; exact ⟨hg, hz⟩
  | cons he h hn hF1 hv1 ih =>
    intro o' ho
    rcases List.mem_cons.mp ho with rfl | ho
    · exact ⟨hF1, hv1⟩
    · obtain ⟨a1, a2⟩ := ih o' ho
      obtain ⟨n1, n2, n3, n4⟩ := hE.nn _ _ _ he
      exact ⟨a1, a2.trans (leQ_add n1 n3)⟩
theorem SW.nodup (h : SW E g z F v c l x) : l.Nodup := by
  induction h with
  | nil hg hz => simp
  | cons he h hn hF1 hv1 ih => exact List.nodup_cons.mpr ⟨hn, ih⟩
theorem SW.bd (hE : Edges E cs) (h : SW E g z F v c l x) : 1 ≤ l.length ∧ z.1 ≤ x.1 ∧ z.2 ≤ x.2 ∧ x.1 ≤ z.1 + 999 * ((l.length : Int) - 1) ∧ x.2 ≤ z.2 + ((l.length : Int) - 1) := by
  induction h with
  | nil hg hz => simp
  | cons he h hn hF1 hv1 ih =>
    obtain ⟨n1, n2, n3, n4⟩ := hE.nn _ _ _ he
    simp only [List.length_cons, addP]
    omega
end
def wtP (F : List C) (v : C → Pc) (c : C) : Nat := if c ∈ F then ((v c).1 * 64 + (v c).2).toNat else 4091968
def muP (cs F : List C) (v : C → Pc) : Nat := (cs.map (wtP F v)).sum
/-- the state of the search: pend: the cells whose steps are still to be looked at -/
structure PI (E : C → C → Option Pc) (g : C) (z : Pc) (cs F : List C) (v : C → Pc) (pend : C → Prop) : Prop where
  nd : F.Nodup
  sub : ∀ c ∈ F, c ∈ cs
  hg : g ∈ F
  sw : ∀ c ∈ F, ∃ l, SW E g z F v c l (v c)
  rel : ∀ c ∈ F, ¬ pend c → ∀ o i, E o c = some i → o ∈ F ∧ leQ (v o) (addP (v c) i)
theorem nodup_len {l cs : List C} (hn : l.Nodup) (hs : ∀ c ∈ l, c ∈ cs) (hc : cs.Nodup) : l.length ≤ cs.length := by
  have p : l.Perm (cs.filter fun x => decide (x ∈ l)) := (List.perm_ext_iff_of_nodup hn (hc.filter _)).mpr fun x => by
    simp only [List.mem_filter, decide_eq_true_eq]
    exact ⟨fun hx => ⟨hs x hx, hx⟩, fun hx => hx.2⟩
  rw [p.length_eq]
  exact List.length_filter_le _ _
section
variable {E : C → C → Option Pc} {g : C} {z : Pc} {F cs : List C} {v : C → Pc} {pend : C → Prop} {c o : C} {i : Pc}
theorem PI.bd (I : PI E g z cs F v pend) (hE : Edges E cs) (hcs : cs.Nodup) (hl : cs.length ≤ 64) (hz : 0 ≤ z.1 ∧ z.1 ≤ 999 ∧ z.2 = 0) (hc : c ∈ F) : 0 ≤ (v c).1 ∧ (v c).1 ≤ 63936 ∧ 0 ≤ (v c).2 ∧ (v c).2 ≤ 63 := by
  obtain ⟨l, h⟩ := I.sw c hc
  obtain ⟨b1, b2, b3, b4, b5⟩ := h.bd hE
  have := nodup_len h.nodup (fun y hy => I.sub y (h.le hE y hy).1) hcs
  omega
end
/-- the least costs of all -/
structure Best (E : C → C → Option Pc) (g : C) (z : Pc) (cs F : List C) (v : C → Pc) : Prop where
  nd : F.Nodup
  sub : ∀ c ∈ F, c ∈ cs
  att : ∀ c ∈ F, Wk E g z c (v c)
  least : ∀ c x, Wk E g z c x → c ∈ F ∧ leQ (v c) x
section
variable {E E' : C → C → Option Pc} {g : C} {z : Pc} {F F' cs : List C} {v v' : C → Pc}
theorem PI.best (I : PI E g z cs F v fun _ => False) : Best E g z cs F v := by
  refine ⟨I.nd, I.sub, fun c hc => let ⟨_, h⟩ := I.sw c hc; h.wk, fun c x h => ?_⟩
  induction h with
  | nil =>
    obtain ⟨l, h⟩ := I.sw g I.hg
    exact h.gz
  | cons he h ih =>
    obtain ⟨r1, r2⟩ := I.rel _ ih.1 id _ _ he
    exact ⟨r1, r2.trans (leQ_mono ih.2)⟩
theorem Best.mem (B : Best E g z cs F v) (c : C) : c ∈ F ↔ ∃ x, Wk E g z c x := ⟨fun h => ⟨_, B.att c h⟩, fun ⟨x, h⟩ => (B.least c x h).1⟩
theorem Best.uniq (B : Best E g z cs F v) (B' : Best E g z cs F' v') {c : C} (h : c ∈ F) : c ∈ F' ∧ v' c = v c := by
  obtain ⟨h1, h2⟩ := B'.least c _ (B.att c h)
  exact ⟨h1, h2.antisymm (B.least c _ (B'.att c h1)).2⟩
/-- the best walk's first step -/
theorem Best.step (B : Best E g z cs F v) {c : C} (h : c ∈ F) : (c = g ∧ v c = z) ∨ ∃ o i, E c o = some i ∧ o ∈ F ∧ v c = addP (v o) i := by
  have := B.att c h
  generalize hx : v c = x at this
  cases this with
  | nil => exact .inl ⟨rfl, rfl⟩
  | cons he hw =>
    rename_i o x0 i
    obtain ⟨o1, o2⟩ := B.least o _ hw
    refine .inr ⟨o, i, he, o1, ?_⟩
    have h1 := (B.least c _ (.cons he (B.att o o1))).2
    rw [hx] at h1
    exact h1.antisymm (leQ_mono o2)
end
end Pk
/-! Spt1: prices_to. -/
namespace Pk
open PySem (Str)
theorem sIf_true {c : M D} {a b : S} {r r1 : Env} {s s1 : Sto} (h : c r s = .ok (.bool true) r1 s1) : sIf c a b r s = a r1 s1 := by simp [h]
theorem sIf_false {c : M D} {a b : S} {r r1 : Env} {s s1 : Sto} (h : c r s = .ok (.bool false) r1 s1) : sIf c a b r s = b r1 s1 := by simp [h]
structure PrB (h w : Nat) (P : C → C → Option Int) : Prop where
  bd : ∀ o c m, InL h w o → InL h w c → P o c = some m → 0 ≤ m ∧ m ≤ 999
end Pk
/-! Spt2: prices_to, its loops. -/
namespace Pk
open PySem (Str)
/-- what a loop did -/
structure Gone (E : C → C → Option Pc) (cs F N : List C) (v : C → Pc) (F' N' : List C) (v' : C → Pc) : Prop where
  up : ∀ x ∈ F, x ∈ F' ∧ leQ (v' x) (v x)
  mu : muP cs F' v' ≤ muP cs F v
  lt : N' = N ∨ muP cs F' v' < muP cs F v
  nn : N.Nodup → N'.Nodup
  ns : (∀ x ∈ N, x ∈ F) → ∀ x ∈ N', x ∈ F'
theorem Gone.refl {E : C → C → Option Pc} {cs F N : List C} {v : C → Pc} : Gone E cs F N v F N v := ⟨fun x hx => ⟨hx, .refl _⟩, Nat.le_refl _, .inl rfl, id, fun h => h⟩
theorem Gone.trans {E : C → C → Option Pc} {cs F N F' N' F'' N'' : List C} {v v' v'' : C → Pc} (a : Gone E cs F N v F' N' v') (b : Gone E cs F' N' v' F'' N'' v'') : Gone E cs F N v F'' N'' v'' where
  up := fun x hx => ⟨(b.up x (a.up x hx).1).1, (b.up x (a.up x hx).1).2.trans (a.up x hx).2⟩
  mu := Nat.le_trans b.mu a.mu
  lt := by
    rcases b.lt with q | q
    · rcases a.lt with q' | q'
      · exact .inl (q.trans q')
      · exact .inr (Nat.lt_of_le_of_lt b.mu q')
    · exact .inr (Nat.lt_of_lt_of_le q a.mu)
  nn := fun h => b.nn (a.nn h)
  ns := fun h => b.ns (a.ns h)
end Pk
/-! Spt3: prices_to, its promise. -/
namespace Pk
open PySem (Str)
structure PrSt where
  F : List C
  v : C → Pc
  V : List C
  z5 : Sl
  z6 : Sl
  z7 : Sl
  z8 : Sl
  z9 : Sl
end Pk
/-! Spt4: the prices; steps_by. -/
namespace Pk
open PySem (Str)
/-- the least cost, if there is a walk -/
def IsBest (E : C → C → Option Pc) (g : C) (z : Pc) (c : C) (x : Pc) : Prop := Wk E g z c x ∧ ∀ y, Wk E g z c y → leQ x y
theorem IsBest.uniq {E : C → C → Option Pc} {g : C} {z : Pc} {c : C} {x y : Pc} (h1 : IsBest E g z c x) (h2 : IsBest E g z c y) : x = y := (h1.2 y h2.1).antisymm (h2.2 x h1.1)
open Classical in
noncomputable def bestOf (E : C → C → Option Pc) (g : C) (z : Pc) (c : C) : Option Pc := if h : ∃ x, IsBest E g z c x then some h.choose else none
theorem bestOf_some {E : C → C → Option Pc} {g : C} {z : Pc} {c : C} {x : Pc} : bestOf E g z c = some x ↔ IsBest E g z c x := by
  unfold bestOf
  split
  · rename_i h
    constructor
    · intro e; cases e; exact h.choose_spec
    · intro e; rw [IsBest.uniq h.choose_spec e]
  · rename_i h
    constructor
    · intro e; cases e
    · intro e; exact absurd ⟨x, e⟩ h
section
variable {E : C → C → Option Pc} {g : C} {z : Pc} {cs F : List C} {v : C → Pc}
theorem Best.is (B : Best E g z cs F v) {c : C} (h : c ∈ F) : IsBest E g z c (v c) := ⟨B.att c h, fun y hy => (B.least c y hy).2⟩
theorem Best.of (B : Best E g z cs F v) (c : C) : bestOf E g z c = if c ∈ F then some (v c) else none := by
  by_cases h : c ∈ F
  · rw [if_pos h]; exact bestOf_some.mpr (B.is h)
  · rw [if_neg h]
    cases e : bestOf E g z c with
    | none => rfl
    | some x => exact absurd ((B.mem c).mpr ⟨x, (bestOf_some.mp e).1⟩) h
end
/-! ### prices -/
end Pk
/-! Sps7: saddles. -/
namespace Pk
open PySem (Str)
/-- the peaks above one -/
noncomputable def aboveL (L : List (List Int)) (h w : Nat) (p : C) : List C := (peaksL L h w).take ((peaksL L h w).findIdx fun q => decide (q = p))
theorem findIdx_enc (l : List C) (p : C) (hp : p ∈ l) : (l.map encC).findIdx? (fun z => z.eqv (encC p)) = some (l.findIdx fun q => decide (q = p)) := by
  rw [List.findIdx?_map]
  have : ((fun z => z.eqv (encC p)) ∘ encC) = fun q : C => decide (q = p) := by
    funext q
    simp only [Function.comp, eqv_encC]
  rw [this, List.findIdx?_eq_some_iff_findIdx_eq]
  refine ⟨List.findIdx_lt_length_of_exists ⟨p, hp, by simp⟩, rfl⟩
theorem pIdx_cells {l : List C} {p : C} (hp : p ∈ l) : pIdx (.lst (l.map encC)) (encC p) = some (.int ((l.findIdx fun q => decide (q = p) : Nat) : Int)) := by
  have d1 := dep64_cells l
  have d2 := dep64_encC p
  simp only [pIdx, d1, d2, Bool.and_self, if_true, findIdx_enc l p hp, Option.map_some]
open Classical in
noncomputable def passN (L : List (List Int)) (h w : Nat) (a b : C) : Int := if q : ∃ v, IsPass L h w a b v then q.choose else 0
def IsSad (L : List (List Int)) (h w : Nat) (p : C) (v : Int) : Prop :=
  (aboveL L h w p = [] ∧ (∃ c, InL h w c ∧ hAt L c = v) ∧ ∀ x, InL h w x → v ≤ hAt L x) ∨
  (aboveL L h w p ≠ [] ∧ (∃ q ∈ aboveL L h w p, passN L h w p q = v) ∧ ∀ q ∈ aboveL L h w p, passN L h w p q ≤ v)
theorem IsSad.uniq {L : List (List Int)} {h w : Nat} {p : C} {u v : Int} (h1 : IsSad L h w p u) (h2 : IsSad L h w p v) : u = v := by
  rcases h1 with ⟨a, ⟨c, c1, c2⟩, a3⟩ | ⟨a, ⟨c, c1, c2⟩, a3⟩ <;> rcases h2 with ⟨b, ⟨d, d1, d2⟩, b3⟩ | ⟨b, ⟨d, d1, d2⟩, b3⟩
  · have := a3 d d1
    have := b3 c c1
    omega
  · exact absurd a b
  · exact absurd b a
  · have := a3 d d1
    have := b3 c c1
    omega
theorem pEq_nil_cells (S : List C) : pEq (.lst (S.map encC)) (.lst []) = some (.bool S.isEmpty) := by
  have d1 := dep64_cells S
  have d0 : D.dep 64 (.lst []) = true := rfl
  simp only [pEq, d1, d0, Bool.and_self, if_true, eqv_lst_lst, eqvL_nil_iff]
  cases S <;> rfl
open Classical in
noncomputable def sadN (L : List (List Int)) (h w : Nat) (p : C) : Int := if q : ∃ v, IsSad L h w p v then q.choose else 0
end Pk
/-! Sps8: _law_saddle, lords, lines. -/
namespace Pk
open PySem (Str)
/-! ### a peak's island at its own height is its flat -/
/-! ### lords -/
noncomputable def lordC (L : List (List Int)) (h w : Nat) (p : C) : C := headC L h w (sadN L h w p) p
/-! ### lines -/
inductive Ln (L : List (List Int)) (h w : Nat) : C → List C → Prop
  | stop {p : C} : aboveL L h w p = [] → Ln L h w p []
  | go {p : C} {l : List C} : aboveL L h w p ≠ [] → Ln L h w (lordC L h w p) l → Ln L h w p (lordC L h w p :: l)
theorem Ln.uniq {L : List (List Int)} {h w : Nat} {p : C} {l m : List C} (h1 : Ln L h w p l) (h2 : Ln L h w p m) : l = m := by
  induction h1 generalizing m with
  | stop e => cases h2 with
    | stop _ => rfl
    | go e2 _ => exact absurd e e2
  | go e _ ih => cases h2 with
    | stop e2 => exact absurd e2 e
    | go _ h3 => rw [ih h3]
end Pk
/-! Spx0: choices, watchers. -/
namespace Pk
open PySem (Str)
/-- all rising lists of so many of some things, in order -/
def chL {α : Type} : Nat → List α → List (List α)
  | 0, _ => [[]]
  | _ + 1, [] => []
  | m + 1, x :: l => (chL m l).map (x :: ·) ++ chL (m + 1) l
theorem chL_sub {α : Type} : ∀ (m : Nat) (l x : List α), x ∈ chL m l ↔ x.Sublist l ∧ x.length = m
  | 0, l, x => by
    simp only [chL, List.mem_singleton]
    constructor
    · rintro rfl; exact ⟨List.nil_sublist l, rfl⟩
    · rintro ⟨_, h⟩; exact List.length_eq_zero_iff.mp h
  | m + 1, [], x => by
    simp only [chL, List.not_mem_nil, false_iff]
    rintro ⟨h1, h2⟩
    rw [List.sublist_nil.mp h1] at h2
    simp at h2
  | m + 1, a :: l, x => by
    rw [chL, List.mem_append, List.mem_map, chL_sub (m + 1) l x]
    constructor
    · rintro (⟨y, hy, rfl⟩ | ⟨h1, h2⟩)
      · obtain ⟨h1, h2⟩ := (chL_sub m l y).mp hy
        exact ⟨h1.cons₂ a, by simp [h2]⟩
      · exact ⟨h1.cons a, h2⟩
    · rintro ⟨h1, h2⟩
      cases h1 with
      | cons _ h => exact .inr ⟨h, h2⟩
      | cons_cons _ h => exact .inl ⟨_, (chL_sub m l _).mpr ⟨h, by simpa using h2⟩, rfl⟩
theorem chL_len {α : Type} : ∀ (m : Nat) (l : List α), (chL m l).length ≤ 2 ^ l.length
  | 0, l => by simp [chL]; exact Nat.one_le_two_pow
  | m + 1, [] => by simp [chL]
  | m + 1, a :: l => by
    have h1 := chL_len m l
    have h2 := chL_len (m + 1) l
    rw [chL, List.length_append, List.length_map, List.length_cons, Nat.pow_succ]
    omega
/-- the lists that begin with the k-th thing, and later ones -/
theorem chL_turn {α : Type} (m : Nat) : ∀ (l : List α), chL (m + 1) l = (List.range l.length).flatMap fun k => match l[k]? with
    | some x => (chL m (l.drop (k + 1))).map (x :: ·)
    | none => []
  | [] => rfl
  | a :: l => by
    rw [chL, chL_turn m l, List.length_cons, List.range_succ_eq_map, List.flatMap_cons, List.flatMap_map]
    rfl
theorem fm_congr {α β : Type} {f g : α → List β} : ∀ {l : List α}, (∀ x ∈ l, f x = g x) → l.flatMap f = l.flatMap g
  | [], _ => rfl
  | a :: l, h => by
    rw [List.flatMap_cons, List.flatMap_cons, h a (by simp), fm_congr fun x hx => h x (List.mem_cons_of_mem _ hx)]
theorem cons_eq {α : Type} {a b : α} {l m : List α} (h1 : a = b) (h2 : l = m) : a :: l = b :: m := by rw [h1, h2]
section
variable {α : Type} (enc : α → D)
def encLs (l : List α) : D := .lst (l.map enc)
theorem py_choices_ok (s : Sto) : ∀ (k m : Nat) (l : List α), m ≤ k → l.length ≤ 16 → py_choices (k + 1) [encLs enc l, .int (m : Int)] s = .ok (.lst ((chL m l).map (encLs enc))) s
  | k, 0, l, _, _ => by
    unfold py_choices
    refine fnOf_rt (r := [.sh (encLs enc l), .sh (.int 0), .no, .no, .no, .no]) rfl ?_
    unfold bo_choices
    have e0 : startL 6 [encLs enc l, .int ((0 : Nat) : Int)] = [.sh (encLs enc l), .sh (.int 0), .no, .no, .no, .no] := rfl
    have pe : pEq (.int 0) (.int 0) = some (.bool true) := by simp
    have ec : chL 0 l = [[]] := by simp only [chL]
    rw [e0, ec]
    simp only [Pk.sSeq, Pk.sNil, Pk.sRet, Pk.sExpr, Pk.sSet, Pk.sPar, Pk.sIf, Pk.sAppend, Pk.sExtend, Pk.sAsg, Pk.eC, Pk.eV, Pk.Opd.run, Pk.look, Pk.e1, Pk.e2, Pk.e3, Pk.eL, Pk.eTup, Pk.eLst, Pk.eCall, Pk.FR.at_ok, Pk.eAnd, Pk.eOr, Pk.eNot, Pk.eIte, Pk.iOf, Pk.itemsOf, Pk.opt_some, Pk.R.bind_ok, List.getElem?_cons_zero, List.getElem?_cons_succ, List.append_nil, List.nil_append, List.cons_append, List.set_cons_zero, List.set_cons_succ, Option.bind_some, if_true, Bool.not_true, Bool.not_false, decide_true, decide_false, Pk.pNeg, if_false, Bool.false_eq_true, pe]
    rfl
  | 0, m + 1, l, h, _ => by omega
  | k + 1, m + 1, l, hm, hl => by
    unfold py_choices
    have ih : ∀ (l' : List α), l'.length ≤ 16 → py_choices (k + 1) [encLs enc l', .int (m : Int)] s = .ok (.lst ((chL m l').map (encLs enc))) s := fun l' hl' => py_choices_ok s k m l' (by omega) hl'
    have en : numbered (l.map enc) = (List.range l.length).map fun (j : Nat) => .tup [.int j, (l.map enc).getD j .none] := by
      unfold numbered
      rw [List.length_map]
    let R : List (List α) → Sl → Sl → Env := fun M x3 x4 => [.sh (encLs enc l), .sh (.int ((m + 1 : Nat) : Int)), .ow (.lst (M.map (encLs enc))), x3, x4, .no]
    let G : Nat → List (List α) := fun j => match l[j]? with
      | some x => (chL m (l.drop (j + 1))).map (x :: ·)
      | none => []
    obtain ⟨⟨M, x3, x4⟩, e, hI⟩ := forL_st (g := .t [.n 3, .n 4]) (b := fo_choices_0 (py_choices (k + 1))) (s := s) (fun (j : Nat) => D.tup [.int j, (l.map enc).getD j .none]) (fun x : List (List α) × Sl × Sl => R x.1 x.2.1 x.2.2) (fun n x => x.1 = (List.range n).flatMap G ∧ x.1.length ≤ n * 65536) (List.range l.length) 0 ([], .no, .no) ⟨rfl, by simp⟩ (fun j i hj x hI => by
      obtain ⟨M, z3, z4⟩ := x
      obtain ⟨hI, hn⟩ := hI
      simp only at hI hn
      rw [Nat.zero_add] at hI hn
      obtain ⟨hj1, hj2⟩ := List.getElem?_eq_some_iff.mp hj
      rw [List.getElem_range] at hj2
      rw [List.length_range] at hj1
      subst hj2
      have hgi : l[j]? = some l[j] := List.getElem?_eq_getElem hj1
      have eg : (l.map enc).getD j .none = enc l[j] := by
        rw [List.getD_eq_getElem?_getD, List.getElem?_map, hgi]
        rfl
      have hd : (l.drop (j + 1)).length ≤ 16 := by rw [List.length_drop]; omega
      have rc := ih (l.drop (j + 1)) hd
      obtain ⟨A, hA⟩ : ∃ A, A = chL m (l.drop (j + 1)) := ⟨_, rfl⟩
      rw [← hA] at rc
      have lA : A.length ≤ 65536 := by
        rw [hA]
        refine Nat.le_trans (chL_len _ _) ?_
        exact Nat.le_trans (Nat.pow_le_pow_right (by omega) hd) (by decide)
      have eG : G j = A.map (l[j] :: ·) := by
        show (match l[j]? with | some x => (chL m (l.drop (j + 1))).map (x :: ·) | none => []) = _
        rw [hgi, hA]
      have ct : cutL (l.map enc) (some ((j : Int) + 1)) none = (l.drop (j + 1)).map enc := by
        unfold cutL cutIx
        simp only [List.length_map]
        have : ¬ ((j : Int) + 1 < 0) := by omega
        rw [if_neg this, show ((j : Int) + 1).toNat = j + 1 by omega, Nat.min_eq_left (by omega), List.take_of_length_le (by simp), List.map_drop]
      have co : co_choices_0 (py_choices (k + 1)) (R M (.sh (.int j)) (.sh (enc l[j]))) s = .ok (.lst ((A.map (l[j] :: ·)).map (encLs enc))) (R M (.sh (.int j)) (.sh (enc l[j]))) s := by
        rw [List.map_map]
        refine eComp_map A (encLs enc) _ ?_ rfl fun y hy => ⟨[.sh (encLs enc l), .sh (.int ((m + 1 : Nat) : Int)), .ow (.lst (M.map (encLs enc))), .sh (.int j), .sh (enc l[j]), .sh (encLs enc y)], rfl, rfl, ?_⟩
        · have e1 : ((m + 1 : Nat) : Int) - 1 = (m : Int) := by omega
          have e2 : D.lst (cutL (l.map enc) (some ((j : Int) + 1)) none) = encLs enc (l.drop (j + 1)) := by rw [ct]; rfl
          simp only [Pk.sSeq, Pk.sNil, Pk.sRet, Pk.sExpr, Pk.sSet, Pk.sPar, Pk.sIf, Pk.sAppend, Pk.sExtend, Pk.sAsg, Pk.eC, Pk.eV, Pk.Opd.run, Pk.look, Pk.e1, Pk.e2, Pk.e3, Pk.eL, Pk.eTup, Pk.eLst, Pk.eCall, Pk.FR.at_ok, Pk.eAnd, Pk.eOr, Pk.eNot, Pk.eIte, Pk.iOf, Pk.itemsOf, Pk.opt_some, Pk.R.bind_ok, List.getElem?_cons_zero, List.getElem?_cons_succ, List.append_nil, List.nil_append, List.cons_append, List.set_cons_zero, List.set_cons_succ, Option.bind_some, if_true, Bool.not_true, Bool.not_false, decide_true, decide_false, Pk.pNeg, if_false, Bool.false_eq_true, R, eCut, eOpt, encLs, pAdd, pCut, pSub, pInt2]
          rw [e2, e1, rc]
          simp only [Pk.sSeq, Pk.sNil, Pk.sRet, Pk.sExpr, Pk.sSet, Pk.sPar, Pk.sIf, Pk.sAppend, Pk.sExtend, Pk.sAsg, Pk.eC, Pk.eV, Pk.Opd.run, Pk.look, Pk.e1, Pk.e2, Pk.e3, Pk.eL, Pk.eTup, Pk.eLst, Pk.eCall, Pk.FR.at_ok, Pk.eAnd, Pk.eOr, Pk.eNot, Pk.eIte, Pk.iOf, Pk.itemsOf, Pk.opt_some, Pk.R.bind_ok, List.getElem?_cons_zero, List.getElem?_cons_succ, List.append_nil, List.nil_append, List.cons_append, List.set_cons_zero, List.set_cons_succ, Option.bind_some, if_true, Bool.not_true, Bool.not_false, decide_true, decide_false, Pk.pNeg, if_false, Bool.false_eq_true]
        · have hy2 : y.length ≤ 16 := by
            rw [hA] at hy
            have := (chL_sub m _ y).mp hy
            have := this.1.length_le
            omega
          have hz : 1 + y.length ≤ SZ := by simp only [SZ]; omega
          simp only [Pk.sSeq, Pk.sNil, Pk.sRet, Pk.sExpr, Pk.sSet, Pk.sPar, Pk.sIf, Pk.sAppend, Pk.sExtend, Pk.sAsg, Pk.eC, Pk.eV, Pk.Opd.run, Pk.look, Pk.e1, Pk.e2, Pk.e3, Pk.eL, Pk.eTup, Pk.eLst, Pk.eCall, Pk.FR.at_ok, Pk.eAnd, Pk.eOr, Pk.eNot, Pk.eIte, Pk.iOf, Pk.itemsOf, Pk.opt_some, Pk.R.bind_ok, List.getElem?_cons_zero, List.getElem?_cons_succ, List.append_nil, List.nil_append, List.cons_append, List.set_cons_zero, List.set_cons_succ, Option.bind_some, if_true, Bool.not_true, Bool.not_false, decide_true, decide_false, Pk.pNeg, if_false, Bool.false_eq_true, pAdd, encLs, List.length_singleton, List.length_map, lim_of hz, Function.comp, List.map_cons]
      refine ⟨R M (.sh (.int j)) (.sh (enc l[j])), (M ++ G j, .sh (.int j), .sh (enc l[j])), ?_, ?_, ?_, ?_⟩
      · rw [eg]
        exact setT_2 _ _ _ _ _
      · unfold fo_choices_0
        have hz : (M.map (encLs enc)).length + ((A.map (l[j] :: ·)).map (encLs enc)).length ≤ SZ := by
          simp only [List.length_map, SZ]
          have : j * 65536 ≤ 16 * 65536 := Nat.mul_le_mul_right _ (by omega)
          omega
        refine (sExtend_of (l := M.map (encLs enc)) (l' := M.map (encLs enc)) rfl co rfl hz).trans ?_
        rw [eG, ← List.map_append]
        rfl
      · simp only
        rw [Nat.zero_add, List.range_succ, List.flatMap_append, hI]
        simp
      · simp only
        rw [List.length_append, eG, List.length_map, Nat.zero_add, Nat.succ_mul]
        omega)
    simp only [Nat.zero_add, List.length_range] at hI
    obtain ⟨hI, _⟩ := hI
    rw [← chL_turn m l] at hI
    subst hI
    refine fnOf_rt (r := (R (chL (m + 1) l) x3 x4).set 2 (.sh (.lst ((chL (m + 1) l).map (encLs enc))))) rfl ?_
    unfold bo_choices
    have e0 : startL 6 [encLs enc l, .int ((m + 1 : Nat) : Int)] = [.sh (encLs enc l), .sh (.int ((m + 1 : Nat) : Int)), .no, .no, .no, .no] := rfl
    have pe : pEq (.int ((m + 1 : Nat) : Int)) (.int 0) = some (.bool false) := by
      simp
      omega
    rw [e0]
    rw [sSeq_nx' (r1 := [.sh (encLs enc l), .sh (.int ((m + 1 : Nat) : Int)), .no, .no, .no, .no]) (s1 := s) (by simp only [Pk.sSeq, Pk.sNil, Pk.sRet, Pk.sExpr, Pk.sSet, Pk.sPar, Pk.sIf, Pk.sAppend, Pk.sExtend, Pk.sAsg, Pk.eC, Pk.eV, Pk.Opd.run, Pk.look, Pk.e1, Pk.e2, Pk.e3, Pk.eL, Pk.eTup, Pk.eLst, Pk.eCall, Pk.FR.at_ok, Pk.eAnd, Pk.eOr, Pk.eNot, Pk.eIte, Pk.iOf, Pk.itemsOf, Pk.opt_some, Pk.R.bind_ok, List.getElem?_cons_zero, List.getElem?_cons_succ, List.append_nil, List.nil_append, List.cons_append, List.set_cons_zero, List.set_cons_succ, Option.bind_some, if_true, Bool.not_true, Bool.not_false, decide_true, decide_false, Pk.pNeg, if_false, Bool.false_eq_true, pe])]
    rw [sSeq_nx' (r1 := R [] .no .no) (s1 := s) (by simp only [Pk.sSeq, Pk.sNil, Pk.sRet, Pk.sExpr, Pk.sSet, Pk.sPar, Pk.sIf, Pk.sAppend, Pk.sExtend, Pk.sAsg, Pk.eC, Pk.eV, Pk.Opd.run, Pk.look, Pk.e1, Pk.e2, Pk.e3, Pk.eL, Pk.eTup, Pk.eLst, Pk.eCall, Pk.FR.at_ok, Pk.eAnd, Pk.eOr, Pk.eNot, Pk.eIte, Pk.iOf, Pk.itemsOf, Pk.opt_some, Pk.R.bind_ok, List.getElem?_cons_zero, List.getElem?_cons_succ, List.append_nil, List.nil_append, List.cons_append, List.set_cons_zero, List.set_cons_succ, Option.bind_some, if_true, Bool.not_true, Bool.not_false, decide_true, decide_false, Pk.pNeg, if_false, Bool.false_eq_true, R, List.map_nil])]
    rw [sSeq_nx' (r1 := R (chL (m + 1) l) x3 x4) (s1 := s) (by
      rw [← e]
      simp only [Pk.sSeq, Pk.sNil, Pk.sRet, Pk.sExpr, Pk.sSet, Pk.sPar, Pk.sIf, Pk.sAppend, Pk.sExtend, Pk.sAsg, Pk.eC, Pk.eV, Pk.Opd.run, Pk.look, Pk.e1, Pk.e2, Pk.e3, Pk.eL, Pk.eTup, Pk.eLst, Pk.eCall, Pk.FR.at_ok, Pk.eAnd, Pk.eOr, Pk.eNot, Pk.eIte, Pk.iOf, Pk.itemsOf, Pk.opt_some, Pk.R.bind_ok, List.getElem?_cons_zero, List.getElem?_cons_succ, List.append_nil, List.nil_append, List.cons_append, List.set_cons_zero, List.set_cons_succ, Option.bind_some, if_true, Bool.not_true, Bool.not_false, decide_true, decide_false, Pk.pNeg, if_false, Bool.false_eq_true, sFor, iEnumA, R, encLs, en])]
    simp only [Pk.sSeq, Pk.sNil, Pk.sRet, Pk.sExpr, Pk.sSet, Pk.sPar, Pk.sIf, Pk.sAppend, Pk.sExtend, Pk.sAsg, Pk.eC, Pk.eV, Pk.Opd.run, Pk.look, Pk.e1, Pk.e2, Pk.e3, Pk.eL, Pk.eTup, Pk.eLst, Pk.eCall, Pk.FR.at_ok, Pk.eAnd, Pk.eOr, Pk.eNot, Pk.eIte, Pk.iOf, Pk.itemsOf, Pk.opt_some, Pk.R.bind_ok, List.getElem?_cons_zero, List.getElem?_cons_succ, List.append_nil, List.nil_append, List.cons_append, List.set_cons_zero, List.set_cons_succ, Option.bind_some, if_true, Bool.not_true, Bool.not_false, decide_true, decide_false, Pk.pNeg, if_false, Bool.false_eq_true, R]
/-! ### watchers -/
/-- all cells are seen -/
def covB (L : List (List Int)) (h w : Nat) (W : List C) : Bool := (cellsL h w).all fun c => W.any fun o => seesB L o c
noncomputable def wCands (h w : Nat) : List (List C) := (List.range (h * w - 1)).flatMap fun m => chL (m + 1) (cellsL h w)
noncomputable def watchL (L : List (List Int)) (h w : Nat) : List C := ((wCands h w).find? (covB L h w)).getD (cellsL h w)
variable {L : List (List Int)} {h w : Nat}
abbrev vwD (L : List (List Int)) (h w : Nat) : C → D := fun c => .lst (((cellsL h w).filter (seesB L c)).map encC)
noncomputable abbrev Ewt (L : List (List Int)) (h w : Nat) (x3 x4 : Sl) : Env := [.sh (encL L), .sh (.lst ((cellsL h w).map encC)), .sh (dC (cellsL h w) (vwD L h w)), x3, x4, .no, .no]
theorem fo_wt {W : List C} (hW : ∀ c ∈ W, InL h w c) (x3 : Sl) (s : Sto) :
    fo_watchers_0 (Ewt L h w x3 (.sh (encLs encC W))) s = .ok (if covB L h w W then .rt (encLs encC W) else .nx) (Ewt L h w x3 (.sh (encLs encC W))) s := by
  have c1 : co_watchers_1 (Ewt L h w x3 (.sh (encLs encC W))) s = .ok (.lst ((cellsL h w).map fun c => .bool (W.any fun o => seesB L o c))) (Ewt L h w x3 (.sh (encLs encC W))) s := by
    refine eComp_map (cellsL h w) encC _ (by simp only [Pk.sSeq, Pk.sNil, Pk.sRet, Pk.sExpr, Pk.sSet, Pk.sPar, Pk.sIf, Pk.sAppend, Pk.sExtend, Pk.sAsg, Pk.eC, Pk.eV, Pk.Opd.run, Pk.look, Pk.e1, Pk.e2, Pk.e3, Pk.eL, Pk.eTup, Pk.eLst, Pk.eCall, Pk.FR.at_ok, Pk.eAnd, Pk.eOr, Pk.eNot, Pk.eIte, Pk.iOf, Pk.itemsOf, Pk.opt_some, Pk.R.bind_ok, List.getElem?_cons_zero, List.getElem?_cons_succ, List.append_nil, List.nil_append, List.cons_append, List.set_cons_zero, List.set_cons_succ, Option.bind_some, if_true, Bool.not_true, Bool.not_false, decide_true, decide_false, Pk.pNeg, if_false, Bool.false_eq_true, Ewt]) rfl fun c hc => ⟨[.sh (encL L), .sh (.lst ((cellsL h w).map encC)), .sh (dC (cellsL h w) (vwD L h w)), x3, .sh (encLs encC W), .sh (encC c), .no], rfl, rfl, ?_⟩
    have c0 : co_watchers_0 [.sh (encL L), .sh (.lst ((cellsL h w).map encC)), .sh (dC (cellsL h w) (vwD L h w)), x3, .sh (encLs encC W), .sh (encC c), .no] s = .ok (.lst (W.map fun o => .bool (seesB L o c))) [.sh (encL L), .sh (.lst ((cellsL h w).map encC)), .sh (dC (cellsL h w) (vwD L h w)), x3, .sh (encLs encC W), .sh (encC c), .no] s := by
      refine eComp_map W encC _ (by simp only [Pk.sSeq, Pk.sNil, Pk.sRet, Pk.sExpr, Pk.sSet, Pk.sPar, Pk.sIf, Pk.sAppend, Pk.sExtend, Pk.sAsg, Pk.eC, Pk.eV, Pk.Opd.run, Pk.look, Pk.e1, Pk.e2, Pk.e3, Pk.eL, Pk.eTup, Pk.eLst, Pk.eCall, Pk.FR.at_ok, Pk.eAnd, Pk.eOr, Pk.eNot, Pk.eIte, Pk.iOf, Pk.itemsOf, Pk.opt_some, Pk.R.bind_ok, List.getElem?_cons_zero, List.getElem?_cons_succ, List.append_nil, List.nil_append, List.cons_append, List.set_cons_zero, List.set_cons_succ, Option.bind_some, if_true, Bool.not_true, Bool.not_false, decide_true, decide_false, Pk.pNeg, if_false, Bool.false_eq_true, encLs]) rfl fun o ho => ⟨[.sh (encL L), .sh (.lst ((cellsL h w).map encC)), .sh (dC (cellsL h w) (vwD L h w)), x3, .sh (encLs encC W), .sh (encC c), .sh (encC o)], rfl, rfl, ?_⟩
      have g1 := pIxD_C (F := cellsL h w) (vwD L h w) (mem_cellsL.mpr (hW o ho))
      have pi := pIn_cells c ((cellsL h w).filter (seesB L o))
      have e : decide (c ∈ (cellsL h w).filter (seesB L o)) = seesB L o c := by
        simp [List.mem_filter, hc]
      rw [e] at pi
      simp only [Pk.sSeq, Pk.sNil, Pk.sRet, Pk.sExpr, Pk.sSet, Pk.sPar, Pk.sIf, Pk.sAppend, Pk.sExtend, Pk.sAsg, Pk.eC, Pk.eV, Pk.Opd.run, Pk.look, Pk.e1, Pk.e2, Pk.e3, Pk.eL, Pk.eTup, Pk.eLst, Pk.eCall, Pk.FR.at_ok, Pk.eAnd, Pk.eOr, Pk.eNot, Pk.eIte, Pk.iOf, Pk.itemsOf, Pk.opt_some, Pk.R.bind_ok, List.getElem?_cons_zero, List.getElem?_cons_succ, List.append_nil, List.nil_append, List.cons_append, List.set_cons_zero, List.set_cons_succ, Option.bind_some, if_true, Bool.not_true, Bool.not_false, decide_true, decide_false, Pk.pNeg, if_false, Bool.false_eq_true, g1, pi]
    have pa : pAny (.lst (W.map fun o => .bool (seesB L o c))) = some (.bool (W.any fun o => seesB L o c)) := by
      simp only [pAny, boolsOf_map', Option.map_some, List.any_map]
      rfl
    exact e1_v c0 pa
  have pl : pAll (.lst ((cellsL h w).map fun c => .bool (W.any fun o => seesB L o c))) = some (.bool (covB L h w W)) := by
    simp only [pAll, boolsOf_map', Option.map_some, List.all_map, covB]
    rfl
  unfold fo_watchers_0
  have q := e1_v (p := pAll) c1 pl
  cases e : covB L h w W with
  | true => rw [e] at q; rw [sIf_true q]; simp only [Pk.sSeq, Pk.sNil, Pk.sRet, Pk.sExpr, Pk.sSet, Pk.sPar, Pk.sIf, Pk.sAppend, Pk.sExtend, Pk.sAsg, Pk.eC, Pk.eV, Pk.Opd.run, Pk.look, Pk.e1, Pk.e2, Pk.e3, Pk.eL, Pk.eTup, Pk.eLst, Pk.eCall, Pk.FR.at_ok, Pk.eAnd, Pk.eOr, Pk.eNot, Pk.eIte, Pk.iOf, Pk.itemsOf, Pk.opt_some, Pk.R.bind_ok, List.getElem?_cons_zero, List.getElem?_cons_succ, List.append_nil, List.nil_append, List.cons_append, List.set_cons_zero, List.set_cons_succ, Option.bind_some, if_true, Bool.not_true, Bool.not_false, decide_true, decide_false, Pk.pNeg, if_false, Bool.false_eq_true, Ewt]
  | false => rw [e] at q; rw [sIf_false q]; rfl
theorem watchers_ok (hL : Land L h w) (h12 : h * w ≤ 12) (s : Sto) : py_watchers [encL L] s = .ok (encLs encC (watchL L h w)) s := by
  have lc : (cellsL h w).length = h * w := cellsL_len h w
  have h1 : 1 ≤ h * w := Nat.mul_pos hL.hr.1 hL.hw.1
  have c2 : co_watchers_2 [.sh (encL L), .sh (.lst ((cellsL h w).map encC)), .no, .no, .no, .no, .no] s = .ok (.lst ((cellsL h w).map fun c => .tup [encC c, vwD L h w c])) [.sh (encL L), .sh (.lst ((cellsL h w).map encC)), .no, .no, .no, .no, .no] s :=
    eComp_map (cellsL h w) encC _ (by simp only [Pk.sSeq, Pk.sNil, Pk.sRet, Pk.sExpr, Pk.sSet, Pk.sPar, Pk.sIf, Pk.sAppend, Pk.sExtend, Pk.sAsg, Pk.eC, Pk.eV, Pk.Opd.run, Pk.look, Pk.e1, Pk.e2, Pk.e3, Pk.eL, Pk.eTup, Pk.eLst, Pk.eCall, Pk.FR.at_ok, Pk.eAnd, Pk.eOr, Pk.eNot, Pk.eIte, Pk.iOf, Pk.itemsOf, Pk.opt_some, Pk.R.bind_ok, List.getElem?_cons_zero, List.getElem?_cons_succ, List.append_nil, List.nil_append, List.cons_append, List.set_cons_zero, List.set_cons_succ, Option.bind_some, if_true, Bool.not_true, Bool.not_false, decide_true, decide_false, Pk.pNeg, if_false, Bool.false_eq_true]) rfl fun c hc => ⟨[.sh (encL L), .sh (.lst ((cellsL h w).map encC)), .no, .no, .no, .sh (encC c), .no], rfl, rfl, by simp only [Pk.sSeq, Pk.sNil, Pk.sRet, Pk.sExpr, Pk.sSet, Pk.sPar, Pk.sIf, Pk.sAppend, Pk.sExtend, Pk.sAsg, Pk.eC, Pk.eV, Pk.Opd.run, Pk.look, Pk.e1, Pk.e2, Pk.e3, Pk.eL, Pk.eTup, Pk.eLst, Pk.eCall, Pk.FR.at_ok, Pk.eAnd, Pk.eOr, Pk.eNot, Pk.eIte, Pk.iOf, Pk.itemsOf, Pk.opt_some, Pk.R.bind_ok, List.getElem?_cons_zero, List.getElem?_cons_succ, List.append_nil, List.nil_append, List.cons_append, List.set_cons_zero, List.set_cons_succ, Option.bind_some, if_true, Bool.not_true, Bool.not_false, decide_true, decide_false, Pk.pNeg, if_false, Bool.false_eq_true, seen_of_ok hL (mem_cellsL.mp hc)]⟩
  have pd := pDict_C (vwD L h w) (cellsL_nodup h w)
  -- one turn of the outer loop
  have inner : ∀ (m : Nat) (hm : m + 1 ≤ 12) (x4 : Sl), ∃ y4, fo_watchers_1 (Ewt L h w (.sh (.int (1 + (m : Int)))) x4) s = .ok (match (chL (m + 1) (cellsL h w)).find? (covB L h w) with | some W => .rt (encLs encC W) | none => .nx) (Ewt L h w (.sh (.int (1 + (m : Int)))) y4) s := fun m hm x4 => by
    have ch := py_choices_ok encC s 12 (m + 1) (cellsL h w) hm (by omega)
    have hin : ∀ W ∈ chL (m + 1) (cellsL h w), ∀ c ∈ W, InL h w c := fun W hW c hc => mem_cellsL.mp (((chL_sub _ _ W).mp hW).1.subset hc)
    have lp : ∀ (A : List (List C)) (x4 : Sl), (∀ W ∈ A, ∀ c ∈ W, InL h w c) → ∃ y4, forL (.n 4) fo_watchers_0 (A.map (encLs encC)) (Ewt L h w (.sh (.int (1 + (m : Int)))) x4) s = .ok (match A.find? (covB L h w) with | some W => .rt (encLs encC W) | none => .nx) (Ewt L h w (.sh (.int (1 + (m : Int)))) y4) s := fun A => by
      induction A with
      | nil => intro x4 _; exact ⟨x4, rfl⟩
      | cons W A ih =>
        intro x4 hA
        have f := fo_wt (L := L) (hA W (by simp)) (.sh (.int (1 + (m : Int)))) s
        have st : setT (Ewt L h w (.sh (.int (1 + (m : Int)))) x4) (.n 4) (encLs encC W) = some (Ewt L h w (.sh (.int (1 + (m : Int)))) (.sh (encLs encC W))) := rfl
        cases e : covB L h w W with
        | true =>
          rw [e] at f
          refine ⟨.sh (encLs encC W), ?_⟩
          simp only [List.map_cons, forL, st, f, if_true, R.bind_ok, List.find?_cons, e]
        | false =>
          rw [e] at f
          obtain ⟨y4, q⟩ := ih (.sh (encLs encC W)) fun V hV => hA V (List.mem_cons_of_mem _ hV)
          refine ⟨y4, ?_⟩
          simp only [List.map_cons, forL, st, f, Bool.false_eq_true, if_false, R.bind_ok, List.find?_cons, e]
          exact q
    obtain ⟨y4, q⟩ := lp _ x4 hin
    refine ⟨y4, ?_⟩
    unfold fo_watchers_1
    rw [← q]
    have em : (1 + (m : Int)) = ((m + 1 : Nat) : Int) := by omega
    have ec : D.lst ((cellsL h w).map encC) = encLs encC (cellsL h w) := rfl
    simp only [Pk.sSeq, Pk.sNil, Pk.sRet, Pk.sExpr, Pk.sSet, Pk.sPar, Pk.sIf, Pk.sAppend, Pk.sExtend, Pk.sAsg, Pk.eC, Pk.eV, Pk.Opd.run, Pk.look, Pk.e1, Pk.e2, Pk.e3, Pk.eL, Pk.eTup, Pk.eLst, Pk.eCall, Pk.FR.at_ok, Pk.eAnd, Pk.eOr, Pk.eNot, Pk.eIte, Pk.iOf, Pk.itemsOf, Pk.opt_some, Pk.R.bind_ok, List.getElem?_cons_zero, List.getElem?_cons_succ, List.append_nil, List.nil_append, List.cons_append, List.set_cons_zero, List.set_cons_succ, Option.bind_some, if_true, Bool.not_true, Bool.not_false, decide_true, decide_false, Pk.pNeg, if_false, Bool.false_eq_true, sFor, Ewt]
    rw [em, ec, ch]
    simp only [Pk.sSeq, Pk.sNil, Pk.sRet, Pk.sExpr, Pk.sSet, Pk.sPar, Pk.sIf, Pk.sAppend, Pk.sExtend, Pk.sAsg, Pk.eC, Pk.eV, Pk.Opd.run, Pk.look, Pk.e1, Pk.e2, Pk.e3, Pk.eL, Pk.eTup, Pk.eLst, Pk.eCall, Pk.FR.at_ok, Pk.eAnd, Pk.eOr, Pk.eNot, Pk.eIte, Pk.iOf, Pk.itemsOf, Pk.opt_some, Pk.R.bind_ok, List.getElem?_cons_zero, List.getElem?_cons_succ, List.append_nil, List.nil_append, List.cons_append, List.set_cons_zero, List.set_cons_succ, Option.bind_some, if_true, Bool.not_true, Bool.not_false, decide_true, decide_false, Pk.pNeg, if_false, Bool.false_eq_true]
  -- the outer loop
  have outer : ∀ (n k : Nat) (x3 x4 : Sl), k + n ≤ 11 → ∃ y3 y4, forL (.n 3) fo_watchers_1 ((List.range n).map fun j => D.int (1 + ((k + j : Nat) : Int))) (Ewt L h w x3 x4) s = .ok (match ((List.range n).flatMap fun j => chL (k + j + 1) (cellsL h w)).find? (covB L h w) with | some W => .rt (encLs encC W) | none => .nx) (Ewt L h w y3 y4) s := fun n => by
    induction n with
    | zero => intro k x3 x4 _; exact ⟨x3, x4, rfl⟩
    | succ n ih =>
      intro k x3 x4 hk
      obtain ⟨y4, q⟩ := inner k (by omega) x4
      have st : setT (Ewt L h w x3 x4) (.n 3) (.int (1 + (k : Int))) = some (Ewt L h w (.sh (.int (1 + (k : Int)))) x4) := rfl
      obtain ⟨z3, z4, q2⟩ := ih (k + 1) (.sh (.int (1 + (k : Int)))) y4 (by omega)
      have e1 : ((List.range (n + 1)).map fun j => D.int (1 + ((k + j : Nat) : Int))) = .int (1 + (k : Int)) :: (List.range n).map fun j => D.int (1 + ((k + 1 + j : Nat) : Int)) := by
        rw [List.range_succ_eq_map, List.map_cons, List.map_map]
        refine cons_eq (by simp) (List.map_congr_left fun j _ => ?_)
        simp only [Function.comp, Nat.succ_eq_add_one]
        rw [show k + (j + 1) = k + 1 + j by omega]
      have e2 : ((List.range (n + 1)).flatMap fun j => chL (k + j + 1) (cellsL h w)) = chL (k + 1) (cellsL h w) ++ (List.range n).flatMap fun j => chL (k + 1 + j + 1) (cellsL h w) := by
        rw [List.range_succ_eq_map, List.flatMap_cons, List.flatMap_map]
        congr 1
        refine fm_congr fun j _ => ?_
        simp only [Nat.succ_eq_add_one]
        rw [show k + (j + 1) + 1 = k + 1 + j + 1 by omega]
      rw [e1, e2, List.find?_append]
      cases e : (chL (k + 1) (cellsL h w)).find? (covB L h w) with
      | some W =>
        rw [e] at q
        refine ⟨.sh (.int (1 + (k : Int))), y4, ?_⟩
        simp only [forL, st, q, R.bind_ok, Option.some_or]
      | none =>
        rw [e] at q
        refine ⟨z3, z4, ?_⟩
        simp only [forL, st, q, R.bind_ok, Option.none_or]
        exact q2
  obtain ⟨y3, y4, q⟩ := outer (h * w - 1) 0 .no .no (by omega)
  have eu : upto 1 (h * w - 1) = (List.range (h * w - 1)).map fun j => D.int (1 + ((0 + j : Nat) : Int)) := by
    unfold upto
    refine List.map_congr_left fun j _ => by rw [Nat.zero_add]
  have ef : ((List.range (h * w - 1)).flatMap fun j => chL (0 + j + 1) (cellsL h w)) = wCands h w := by
    unfold wCands
    refine fm_congr fun j _ => by rw [Nat.zero_add]
  rw [← eu, ef] at q
  have bo : bo_watchers (startL 7 [encL L]) s = .ok (.rt (encLs encC (watchL L h w))) (match (wCands h w).find? (covB L h w) with | some _ => Ewt L h w y3 y4 | none => Ewt L h w y3 y4) s := by
    have e0 : startL 7 [encL L] = [.sh (encL L), .no, .no, .no, .no, .no, .no] := rfl
    unfold bo_watchers
    rw [e0]
    rw [sSeq_nx' (r1 := [.sh (encL L), .no, .no, .no, .no, .no, .no]) (s1 := s) (by simp only [Pk.sSeq, Pk.sNil, Pk.sRet, Pk.sExpr, Pk.sSet, Pk.sPar, Pk.sIf, Pk.sAppend, Pk.sExtend, Pk.sAsg, Pk.eC, Pk.eV, Pk.Opd.run, Pk.look, Pk.e1, Pk.e2, Pk.e3, Pk.eL, Pk.eTup, Pk.eLst, Pk.eCall, Pk.FR.at_ok, Pk.eAnd, Pk.eOr, Pk.eNot, Pk.eIte, Pk.iOf, Pk.itemsOf, Pk.opt_some, Pk.R.bind_ok, List.getElem?_cons_zero, List.getElem?_cons_succ, List.append_nil, List.nil_append, List.cons_append, List.set_cons_zero, List.set_cons_succ, Option.bind_some, if_true, Bool.not_true, Bool.not_false, decide_true, decide_false, Pk.pNeg, if_false, Bool.false_eq_true, need_land_ok hL])]
    rw [sSeq_nx' (r1 := [.sh (encL L), .sh (.lst ((cellsL h w).map encC)), .no, .no, .no, .no, .no]) (s1 := s) (by simp only [Pk.sSeq, Pk.sNil, Pk.sRet, Pk.sExpr, Pk.sSet, Pk.sPar, Pk.sIf, Pk.sAppend, Pk.sExtend, Pk.sAsg, Pk.eC, Pk.eV, Pk.Opd.run, Pk.look, Pk.e1, Pk.e2, Pk.e3, Pk.eL, Pk.eTup, Pk.eLst, Pk.eCall, Pk.FR.at_ok, Pk.eAnd, Pk.eOr, Pk.eNot, Pk.eIte, Pk.iOf, Pk.itemsOf, Pk.opt_some, Pk.R.bind_ok, List.getElem?_cons_zero, List.getElem?_cons_succ, List.append_nil, List.nil_append, List.cons_append, List.set_cons_zero, List.set_cons_succ, Option.bind_some, if_true, Bool.not_true, Bool.not_false, decide_true, decide_false, Pk.pNeg, if_false, Bool.false_eq_true, cells_of_ok hL])]
    rw [sSeq_nx' (r1 := [.sh (encL L), .sh (.lst ((cellsL h w).map encC)), .no, .no, .no, .no, .no]) (s1 := s) (by
      have : ¬ (12 : Int) < ((h * w : Nat) : Int) := by omega
      simp only [Pk.sSeq, Pk.sNil, Pk.sRet, Pk.sExpr, Pk.sSet, Pk.sPar, Pk.sIf, Pk.sAppend, Pk.sExtend, Pk.sAsg, Pk.eC, Pk.eV, Pk.Opd.run, Pk.look, Pk.e1, Pk.e2, Pk.e3, Pk.eL, Pk.eTup, Pk.eLst, Pk.eCall, Pk.FR.at_ok, Pk.eAnd, Pk.eOr, Pk.eNot, Pk.eIte, Pk.iOf, Pk.itemsOf, Pk.opt_some, Pk.R.bind_ok, List.getElem?_cons_zero, List.getElem?_cons_succ, List.append_nil, List.nil_append, List.cons_append, List.set_cons_zero, List.set_cons_succ, Option.bind_some, if_true, Bool.not_true, Bool.not_false, decide_true, decide_false, Pk.pNeg, if_false, Bool.false_eq_true, eLen, lenOf, List.length_map, lc, pGt, pInt2, this])]
    rw [sSeq_nx' (r1 := Ewt L h w .no .no) (s1 := s) (by rw [sSet_of (e1_v c2 pd)]; rfl)]
    have sf : sFor (iRange2 (eC (.int 1)) (eLen (.v (eV 1)))) (.n 3) fo_watchers_1 (Ewt L h w .no .no) s = forL (.n 3) fo_watchers_1 (upto 1 (h * w - 1)) (Ewt L h w .no .no) s := by
      have s1 := small_int (i := 1) (by omega)
      have s2 := small_int (i := ((h * w : Nat) : Int)) (by omega)
      have s3 : ((h * w : Nat) : Int) - 1 ≤ (SZ : Int) := by simp only [SZ]; omega
      have e : (((h * w : Nat) : Int) - 1).toNat = h * w - 1 := by omega
      refine sFor_of ?_
      simp only [Pk.sSeq, Pk.sNil, Pk.sRet, Pk.sExpr, Pk.sSet, Pk.sPar, Pk.sIf, Pk.sAppend, Pk.sExtend, Pk.sAsg, Pk.eC, Pk.eV, Pk.Opd.run, Pk.look, Pk.e1, Pk.e2, Pk.e3, Pk.eL, Pk.eTup, Pk.eLst, Pk.eCall, Pk.FR.at_ok, Pk.eAnd, Pk.eOr, Pk.eNot, Pk.eIte, Pk.iOf, Pk.itemsOf, Pk.opt_some, Pk.R.bind_ok, List.getElem?_cons_zero, List.getElem?_cons_succ, List.append_nil, List.nil_append, List.cons_append, List.set_cons_zero, List.set_cons_succ, Option.bind_some, if_true, Bool.not_true, Bool.not_false, decide_true, decide_false, Pk.pNeg, if_false, Bool.false_eq_true, iRange2, Ewt, eLen, lenOf, List.length_map, lc, s1, s2, lim_of s3, e, Bool.and_self]
    unfold watchL
    cases e : (wCands h w).find? (covB L h w) with
    | some W =>
      rw [e] at q
      have z : sFor (iRange2 (eC (.int 1)) (eLen (.v (eV 1)))) (.n 3) fo_watchers_1 (Ewt L h w .no .no) s = .ok (.rt (encLs encC W)) (Ewt L h w y3 y4) s := sf.trans q
      simp only [sSeq, z, R.bind_ok, Option.getD_some]
    | none =>
      rw [e] at q
      have z : sFor (iRange2 (eC (.int 1)) (eLen (.v (eV 1)))) (.n 3) fo_watchers_1 (Ewt L h w .no .no) s = .ok .nx (Ewt L h w y3 y4) s := sf.trans q
      rw [sSeq_nx' z]
      simp only [Pk.sSeq, Pk.sNil, Pk.sRet, Pk.sExpr, Pk.sSet, Pk.sPar, Pk.sIf, Pk.sAppend, Pk.sExtend, Pk.sAsg, Pk.eC, Pk.eV, Pk.Opd.run, Pk.look, Pk.e1, Pk.e2, Pk.e3, Pk.eL, Pk.eTup, Pk.eLst, Pk.eCall, Pk.FR.at_ok, Pk.eAnd, Pk.eOr, Pk.eNot, Pk.eIte, Pk.iOf, Pk.itemsOf, Pk.opt_some, Pk.R.bind_ok, List.getElem?_cons_zero, List.getElem?_cons_succ, List.append_nil, List.nil_append, List.cons_append, List.set_cons_zero, List.set_cons_succ, Option.bind_some, if_true, Bool.not_true, Bool.not_false, decide_true, decide_false, Pk.pNeg, if_false, Bool.false_eq_true, Ewt, Option.getD_none]
      rfl
  exact fnOf_rt rfl bo
end
end Pk
/-! Sx_k26: watchers. -/
namespace Pk
open PySem (Str)
/-! ### rising lists, by their last numbers -/
def loR (a : Nat) (r : List Nat) : Nat := (r.getLast?.map (· + 1)).getD a
def extR (a e : Nat) (r : List Nat) : List (List Nat) := (List.range (e - loR a r)).map fun j => r ++ [loR a r + j]
theorem loR_cons (a : Nat) (r : List Nat) : loR a (a :: r) = loR (a + 1) r := by
  cases r with
  | nil => rfl
  | cons x r => simp only [loR, List.getLast?_cons_cons]; cases h : (x :: r).getLast? with
    | none => simp at h
    | some y => rfl
theorem loR_ne {a b : Nat} {r : List Nat} (h : r ≠ []) : loR a r = loR b r := by
  unfold loR
  cases e : r.getLast? with
  | none => exact absurd (List.getLast?_eq_none_iff.mp e) h
  | some y => rfl
theorem chL_last : ∀ (c a m : Nat), chL (m + 1) (List.range' a c) = (chL m (List.range' a c)).flatMap (extR a (a + c))
  | 0, a, 0 => by simp [chL, extR, loR]
  | 0, a, m + 1 => by simp [chL]
  | c + 1, a, 0 => by
    have ih := chL_last c (a + 1) 0
    have e0 : chL (0 + 1) (a :: List.range' (a + 1) c) = (chL 0 (List.range' (a + 1) c)).map (a :: ·) ++ chL (0 + 1) (List.range' (a + 1) c) := by conv => lhs; rw [chL]
    rw [List.range'_succ, e0, ih]
    simp only [chL, List.map_cons, List.map_nil, List.flatMap_cons, List.flatMap_nil, List.append_nil]
    have e1 : extR a (a + (c + 1)) [] = [a] :: extR (a + 1) (a + 1 + c) [] := by
      unfold extR loR
      simp only [List.getLast?_nil, Option.map_none, Option.getD_none, List.nil_append]
      rw [show a + (c + 1) - a = c + 1 by omega, show a + 1 + c - (a + 1) = c by omega, List.range_succ_eq_map, List.map_cons, List.map_map]
      refine cons_eq (by simp) (List.map_congr_left fun j _ => ?_)
      simp only [Function.comp, Nat.succ_eq_add_one]
      congr 1
      omega
    rw [e1]
    rfl
  | c + 1, a, m + 1 => by
    have ih1 := chL_last c (a + 1) m
    have ih2 := chL_last c (a + 1) (m + 1)
    rw [List.range'_succ, chL, ih2]
    conv => rhs; rw [chL, List.flatMap_append]
    congr 1
    · rw [ih1, List.map_flatMap, List.flatMap_map]
      refine fm_congr fun r _ => ?_
      unfold extR
      rw [loR_cons, List.map_map, show a + (c + 1) = a + 1 + c by omega]
      rfl
    · refine fm_congr fun r hr => ?_
      have hne : r ≠ [] := fun q => by
        have := ((chL_sub _ _ r).mp hr).2
        rw [q] at this
        simp at this
      unfold extR
      rw [loR_ne (a := a + 1) (b := a) hne, show a + (c + 1) = a + 1 + c by omega]
theorem chL_map {α β : Type} (f : α → β) : ∀ (m : Nat) (l : List α), chL m (l.map f) = (chL m l).map (List.map f)
  | 0, l => by simp [chL]
  | m + 1, [] => by simp [chL]
  | m + 1, a :: l => by
    rw [List.map_cons, chL, chL, chL_map f m l, chL_map f (m + 1) l, List.map_append, List.map_map, List.map_map]
    rfl
theorem chL_full {α : Type} : ∀ (l : List α), chL l.length l = [l]
  | [] => by simp [chL]
  | a :: l => by
    have h1 : chL (l.length + 1) l = [] := by
      cases e : chL (l.length + 1) l with
      | nil => rfl
      | cons x t =>
        have : x ∈ chL (l.length + 1) l := by rw [e]; simp
        obtain ⟨h1, h2⟩ := (chL_sub _ _ x).mp this
        have := h1.length_le
        omega
    rw [List.length_cons, chL, chL_full l, h1]
    rfl
abbrev encN (k : Nat) : D := .int (k : Int)
theorem law_lists_ok (s : Sto) (n : Nat) (hn : n ≤ 12) : ∀ (k m : Nat), m ≤ k → m ≤ 12 → py_law_lists (k + 1) [.int (n : Int), .int (m : Int)] s = .ok (.lst ((chL m (List.range n)).map (encLs encN))) s
  | k, 0, _, _ => by
    unfold py_law_lists
    refine fnOf_rt (r := [.sh (.int (n : Int)), .sh (.int 0), .no, .no, .no]) rfl ?_
    unfold bo_law_lists
    have e0 : startL 5 [.int (n : Int), .int ((0 : Nat) : Int)] = [.sh (.int (n : Int)), .sh (.int 0), .no, .no, .no] := rfl
    have pe : pEq (.int 0) (.int 0) = some (.bool true) := by simp
    have ec : chL 0 (List.range n) = [[]] := by simp only [chL]
    rw [e0, ec]
    simp only [Pk.sSeq, Pk.sNil, Pk.sRet, Pk.sExpr, Pk.sSet, Pk.sPar, Pk.sIf, Pk.sAppend, Pk.sExtend, Pk.sAsg, Pk.eC, Pk.eV, Pk.Opd.run, Pk.look, Pk.e1, Pk.e2, Pk.e3, Pk.eL, Pk.eTup, Pk.eLst, Pk.eCall, Pk.FR.at_ok, Pk.eAnd, Pk.eOr, Pk.eNot, Pk.eIte, Pk.iOf, Pk.itemsOf, Pk.opt_some, Pk.R.bind_ok, List.getElem?_cons_zero, List.getElem?_cons_succ, List.append_nil, List.nil_append, List.cons_append, List.set_cons_zero, List.set_cons_succ, Option.bind_some, if_true, Bool.not_true, Bool.not_false, decide_true, decide_false, Pk.pNeg, if_false, Bool.false_eq_true, pe]
    rfl
  | 0, m + 1, h, _ => by omega
  | k + 1, m + 1, hm, hm2 => by
    unfold py_law_lists
    have ih := law_lists_ok s n hn k m (by omega) (by omega)
    obtain ⟨A, hA⟩ : ∃ A, A = chL m (List.range n) := ⟨_, rfl⟩
    rw [← hA] at ih
    have mA : ∀ r ∈ A, r.length = m ∧ ∀ x ∈ r, x < n := fun r hr => by
      rw [hA] at hr
      obtain ⟨h1, h2⟩ := (chL_sub m _ r).mp hr
      exact ⟨h2, fun x hx => List.mem_range.mp (h1.subset hx)⟩
    have lA : A.length ≤ 4096 := by
      rw [hA]
      refine Nat.le_trans (chL_len _ _) ?_
      rw [List.length_range]
      exact Nat.le_trans (Nat.pow_le_pow_right (by omega) hn) (by decide)
    let R : List (List Nat) → Sl → Env := fun M x3 => [.sh (.int (n : Int)), .sh (.int ((m + 1 : Nat) : Int)), .ow (.lst (M.map (encLs encN))), x3, .no]
    obtain ⟨⟨M, x3⟩, e, hI⟩ := forL_st (g := .n 3) (b := fo_law_lists_0) (s := s) (encLs encN) (fun x : List (List Nat) × Sl => R x.1 x.2) (fun j x => x.1 = (A.take j).flatMap (extR 0 n) ∧ x.1.length ≤ j * 12) A 0 ([], .no) ⟨by simp, by simp⟩ (fun j r hj x hI => by
      obtain ⟨M, z3⟩ := x
      obtain ⟨hI, hlen⟩ := hI
      simp only at hI hlen
      rw [Nat.zero_add] at hI hlen
      have hj1 := (List.getElem?_eq_some_iff.mp hj).1
      obtain ⟨r1, r2⟩ := mA r (List.mem_of_getElem? hj)
      have hlo : loR 0 r ≤ n := by
        unfold loR
        cases q : r.getLast? with
        | none => simp
        | some y =>
          have := r2 y (List.mem_of_getLast? q)
          simp only [Option.map_some, Option.getD_some]
          omega
      -- the last number, or -1
      have hz1 : r.length + 1 ≤ SZ := by simp only [SZ]; omega
      have ix : pIx (.lst (r.map encN ++ [.int (-1)])) (.int (if (r.length : Int) - 1 > 0 then (r.length : Int) - 1 else 0)) = some (.int ((loR 0 r : Int) - 1)) := by
        rcases List.eq_nil_or_concat r with q | ⟨p, y, q⟩
        · subst q
          simp [getI, ixOf, loR]
        · subst q
          simp only [List.concat_eq_append] at *
          have el : loR 0 (p ++ [y]) = y + 1 := by simp [loR]
          have e1 : (if ((p ++ [y]).length : Int) - 1 > 0 then ((p ++ [y]).length : Int) - 1 else 0) = (p.length : Int) := by
            simp only [List.length_append, List.length_singleton]
            split <;> omega
          rw [e1, el]
          have : getI ((p ++ [y]).map encN ++ [.int (-1)]) (p.length : Int) = some (.int (y : Int)) := getI_nat (by simp)
          show getI _ _ = _
          rw [this]
          congr 2
          omega
      have co : co_law_lists_0 (R M (.sh (encLs encN r))) s = .ok (.lst ((extR 0 n r).map (encLs encN))) (R M (.sh (encLs encN r))) s := by
        unfold extR
        rw [List.map_map]
        refine eComp_map (List.range (n - loR 0 r)) (fun j => D.int ((loR 0 r : Int) + (j : Int))) _ ?_ rfl fun j _ => ⟨[.sh (.int (n : Int)), .sh (.int ((m + 1 : Nat) : Int)), .ow (.lst (M.map (encLs encN))), .sh (encLs encN r), .sh (.int ((loR 0 r : Int) + (j : Int)))], rfl, rfl, ?_⟩
        · have s1 := small_int (i := (loR 0 r : Int)) (by omega)
          have s2 := small_int (i := (n : Int)) (by omega)
          have s3 : (n : Int) - (loR 0 r : Int) ≤ (SZ : Int) := by simp only [SZ]; omega
          have e1 : (loR 0 r : Int) - 1 + 1 = (loR 0 r : Int) := by omega
          have e2 : ((n : Int) - (loR 0 r : Int)).toNat = n - loR 0 r := by omega
          simp only [Pk.sSeq, Pk.sNil, Pk.sRet, Pk.sExpr, Pk.sSet, Pk.sPar, Pk.sIf, Pk.sAppend, Pk.sExtend, Pk.sAsg, Pk.eC, Pk.eV, Pk.Opd.run, Pk.look, Pk.e1, Pk.e2, Pk.e3, Pk.eL, Pk.eTup, Pk.eLst, Pk.eCall, Pk.FR.at_ok, Pk.eAnd, Pk.eOr, Pk.eNot, Pk.eIte, Pk.iOf, Pk.itemsOf, Pk.opt_some, Pk.R.bind_ok, List.getElem?_cons_zero, List.getElem?_cons_succ, List.append_nil, List.nil_append, List.cons_append, List.set_cons_zero, List.set_cons_succ, Option.bind_some, if_true, Bool.not_true, Bool.not_false, decide_true, decide_false, Pk.pNeg, if_false, Bool.false_eq_true, iRange2, R, eLen, encLs, pAdd, lenOf, List.length_map, List.length_singleton, lim_of hz1, pSub, pInt2, pMax2, ix, e1, s1, s2, lim_of s3, e2, Bool.and_self, upto]
        · simp only [Pk.sSeq, Pk.sNil, Pk.sRet, Pk.sExpr, Pk.sSet, Pk.sPar, Pk.sIf, Pk.sAppend, Pk.sExtend, Pk.sAsg, Pk.eC, Pk.eV, Pk.Opd.run, Pk.look, Pk.e1, Pk.e2, Pk.e3, Pk.eL, Pk.eTup, Pk.eLst, Pk.eCall, Pk.FR.at_ok, Pk.eAnd, Pk.eOr, Pk.eNot, Pk.eIte, Pk.iOf, Pk.itemsOf, Pk.opt_some, Pk.R.bind_ok, List.getElem?_cons_zero, List.getElem?_cons_succ, List.append_nil, List.nil_append, List.cons_append, List.set_cons_zero, List.set_cons_succ, Option.bind_some, if_true, Bool.not_true, Bool.not_false, decide_true, decide_false, Pk.pNeg, if_false, Bool.false_eq_true, encLs, pAdd, List.length_map, List.length_singleton, lim_of hz1, Function.comp, List.map_append, List.map_cons, List.map_nil]
          congr 4
      refine ⟨R M (.sh (encLs encN r)), (M ++ extR 0 n r, .sh (encLs encN r)), rfl, ?_, ?_, ?_⟩
      · unfold fo_law_lists_0
        have le : (extR 0 n r).length ≤ 12 := by unfold extR; rw [List.length_map, List.length_range]; omega
        have hz : (M.map (encLs encN)).length + ((extR 0 n r).map (encLs encN)).length ≤ SZ := by
          simp only [List.length_map, SZ]
          have : j * 12 ≤ 4096 * 12 := Nat.mul_le_mul_right _ (by omega)
          omega
        refine (sExtend_of (l := M.map (encLs encN)) (l' := M.map (encLs encN)) rfl co rfl hz).trans ?_
        rw [← List.map_append]
        rfl
      · simp only
        rw [Nat.zero_add, List.take_succ, hj, List.flatMap_append, hI]
        simp
      · have le : (extR 0 n r).length ≤ 12 := by unfold extR; rw [List.length_map, List.length_range]; omega
        simp only
        rw [List.length_append, Nat.zero_add, Nat.succ_mul]
        omega)
    simp only [Nat.zero_add, List.take_length] at hI
    obtain ⟨hI, _⟩ := hI
    have ec : (chL (m + 1) (List.range n)) = A.flatMap (extR 0 n) := by
      have := chL_last n 0 m
      rw [← List.range_eq_range', Nat.zero_add, ← hA] at this
      exact this
    rw [← ec] at hI
    subst hI
    refine fnOf_rt (r := (R (chL (m + 1) (List.range n)) x3).set 2 (.sh (.lst ((chL (m + 1) (List.range n)).map (encLs encN))))) rfl ?_
    unfold bo_law_lists
    have e0 : startL 5 [.int (n : Int), .int ((m + 1 : Nat) : Int)] = [.sh (.int (n : Int)), .sh (.int ((m + 1 : Nat) : Int)), .no, .no, .no] := rfl
    have pe : pEq (.int ((m + 1 : Nat) : Int)) (.int 0) = some (.bool false) := by
      simp
      omega
    rw [e0]
    rw [sSeq_nx' (r1 := [.sh (.int (n : Int)), .sh (.int ((m + 1 : Nat) : Int)), .no, .no, .no]) (s1 := s) (by simp only [Pk.sSeq, Pk.sNil, Pk.sRet, Pk.sExpr, Pk.sSet, Pk.sPar, Pk.sIf, Pk.sAppend, Pk.sExtend, Pk.sAsg, Pk.eC, Pk.eV, Pk.Opd.run, Pk.look, Pk.e1, Pk.e2, Pk.e3, Pk.eL, Pk.eTup, Pk.eLst, Pk.eCall, Pk.FR.at_ok, Pk.eAnd, Pk.eOr, Pk.eNot, Pk.eIte, Pk.iOf, Pk.itemsOf, Pk.opt_some, Pk.R.bind_ok, List.getElem?_cons_zero, List.getElem?_cons_succ, List.append_nil, List.nil_append, List.cons_append, List.set_cons_zero, List.set_cons_succ, Option.bind_some, if_true, Bool.not_true, Bool.not_false, decide_true, decide_false, Pk.pNeg, if_false, Bool.false_eq_true, pe])]
    rw [sSeq_nx' (r1 := R [] .no) (s1 := s) (by simp only [Pk.sSeq, Pk.sNil, Pk.sRet, Pk.sExpr, Pk.sSet, Pk.sPar, Pk.sIf, Pk.sAppend, Pk.sExtend, Pk.sAsg, Pk.eC, Pk.eV, Pk.Opd.run, Pk.look, Pk.e1, Pk.e2, Pk.e3, Pk.eL, Pk.eTup, Pk.eLst, Pk.eCall, Pk.FR.at_ok, Pk.eAnd, Pk.eOr, Pk.eNot, Pk.eIte, Pk.iOf, Pk.itemsOf, Pk.opt_some, Pk.R.bind_ok, List.getElem?_cons_zero, List.getElem?_cons_succ, List.append_nil, List.nil_append, List.cons_append, List.set_cons_zero, List.set_cons_succ, Option.bind_some, if_true, Bool.not_true, Bool.not_false, decide_true, decide_false, Pk.pNeg, if_false, Bool.false_eq_true, R, List.map_nil])]
    rw [sSeq_nx' (r1 := R (chL (m + 1) (List.range n)) x3) (s1 := s) (by
      rw [← e]
      have e1 : ((m + 1 : Nat) : Int) - 1 = (m : Int) := by omega
      simp only [Pk.sSeq, Pk.sNil, Pk.sRet, Pk.sExpr, Pk.sSet, Pk.sPar, Pk.sIf, Pk.sAppend, Pk.sExtend, Pk.sAsg, Pk.eC, Pk.eV, Pk.Opd.run, Pk.look, Pk.e1, Pk.e2, Pk.e3, Pk.eL, Pk.eTup, Pk.eLst, Pk.eCall, Pk.FR.at_ok, Pk.eAnd, Pk.eOr, Pk.eNot, Pk.eIte, Pk.iOf, Pk.itemsOf, Pk.opt_some, Pk.R.bind_ok, List.getElem?_cons_zero, List.getElem?_cons_succ, List.append_nil, List.nil_append, List.cons_append, List.set_cons_zero, List.set_cons_succ, Option.bind_some, if_true, Bool.not_true, Bool.not_false, decide_true, decide_false, Pk.pNeg, if_false, Bool.false_eq_true, sFor, R, pSub, pInt2]
      rw [e1, ih]
      simp only [Pk.sSeq, Pk.sNil, Pk.sRet, Pk.sExpr, Pk.sSet, Pk.sPar, Pk.sIf, Pk.sAppend, Pk.sExtend, Pk.sAsg, Pk.eC, Pk.eV, Pk.Opd.run, Pk.look, Pk.e1, Pk.e2, Pk.e3, Pk.eL, Pk.eTup, Pk.eLst, Pk.eCall, Pk.FR.at_ok, Pk.eAnd, Pk.eOr, Pk.eNot, Pk.eIte, Pk.iOf, Pk.itemsOf, Pk.opt_some, Pk.R.bind_ok, List.getElem?_cons_zero, List.getElem?_cons_succ, List.append_nil, List.nil_append, List.cons_append, List.set_cons_zero, List.set_cons_succ, Option.bind_some, if_true, Bool.not_true, Bool.not_false, decide_true, decide_false, Pk.pNeg, if_false, Bool.false_eq_true])]
    simp only [Pk.sSeq, Pk.sNil, Pk.sRet, Pk.sExpr, Pk.sSet, Pk.sPar, Pk.sIf, Pk.sAppend, Pk.sExtend, Pk.sAsg, Pk.eC, Pk.eV, Pk.Opd.run, Pk.look, Pk.e1, Pk.e2, Pk.e3, Pk.eL, Pk.eTup, Pk.eLst, Pk.eCall, Pk.FR.at_ok, Pk.eAnd, Pk.eOr, Pk.eNot, Pk.eIte, Pk.iOf, Pk.itemsOf, Pk.opt_some, Pk.R.bind_ok, List.getElem?_cons_zero, List.getElem?_cons_succ, List.append_nil, List.nil_append, List.cons_append, List.set_cons_zero, List.set_cons_succ, Option.bind_some, if_true, Bool.not_true, Bool.not_false, decide_true, decide_false, Pk.pNeg, if_false, Bool.false_eq_true, R]
/-! ### the law -/
section
variable {L : List (List Int)} {h w : Nat}
def cAt (h w : Nat) (k : Nat) : C := (cellsL h w).getD k (0, 0)
theorem cAt_get {k : Nat} (hk : k < h * w) : (cellsL h w)[k]? = some (cAt h w k) := by
  have : k < (cellsL h w).length := by rw [cellsL_len]; exact hk
  rw [cAt, List.getD_eq_getElem?_getD, List.getElem?_eq_getElem this]
  rfl
theorem cells_at : cellsL h w = (List.range (h * w)).map (cAt h w) := by
  refine List.ext_getElem? fun k => ?_
  by_cases hk : k < h * w
  · rw [cAt_get hk, List.getElem?_map, List.getElem?_range hk]
    rfl
  · rw [List.getElem?_eq_none (by rw [cellsL_len]; omega), List.getElem?_eq_none (by simp; omega)]
def idx (h w : Nat) (c : C) : Nat := (cellsL h w).findIdx fun q => decide (q = c)
theorem idx_at {k : Nat} (hk : k < h * w) : idx h w (cAt h w k) = k := by
  unfold idx
  have hl : k < (cellsL h w).length := by rw [cellsL_len]; exact hk
  have e : (cellsL h w)[k] = cAt h w k := by
    have := cAt_get hk
    rw [List.getElem?_eq_getElem hl] at this
    exact Option.some.inj this
  rw [List.findIdx_eq hl]
  refine ⟨by simpa using e, fun j hj => ?_⟩
  have := List.pairwise_iff_getElem.mp (cellsL_nodup h w) j k (by omega) hl hj
  rw [e] at this
  simpa using this
theorem pIn_ints (k : Int) (l : List Int) : pIn (.int k) (.lst (l.map .int)) = some (.bool (decide (k ∈ l))) := by
  have d2 : D.dep 64 (.lst (l.map .int)) = true := by
    show List.all _ _ = true
    rw [List.all_map, List.all_eq_true]
    exact fun x _ => rfl
  simp only [pIn, dep_int, d2, Bool.and_self, if_true]
  congr 2
  rw [Bool.eq_iff_iff, List.any_map, List.any_eq_true, decide_eq_true_eq]
  constructor
  · rintro ⟨x, hx, e⟩
    simp at e
    rw [← e]; exact hx
  · intro hx
    exact ⟨k, hx, by simp⟩
/-- the numbers of the cells that are seen from one -/
def vwL (L : List (List Int)) (h w : Nat) (c : C) : List Int := ((cellsL h w).filter (seesB L c)).map fun o => (idx h w o : Int)
theorem mem_vwL {c : C} {k : Nat} (hk : k < h * w) : (k : Int) ∈ vwL L h w c ↔ seesB L c (cAt h w k) = true := by
  unfold vwL
  rw [List.mem_map]
  constructor
  · rintro ⟨o, ho, e⟩
    obtain ⟨h1, h2⟩ := List.mem_filter.mp ho
    obtain ⟨j, hj, e2⟩ := List.getElem_of_mem h1
    rw [cellsL_len] at hj
    have : o = cAt h w j := by
      have := cAt_get hj
      rw [List.getElem?_eq_getElem (by rw [cellsL_len]; exact hj), e2] at this
      exact Option.some.inj this
    subst this
    rw [idx_at hj] at e
    have : j = k := by omega
    rw [← this]
    exact h2
  · intro q
    exact ⟨cAt h w k, List.mem_filter.mpr ⟨List.mem_of_getElem? (cAt_get hk), q⟩, by rw [idx_at hk]⟩
noncomputable abbrev E26 (ns : List Int) (t w2 b : D) (L : List (List Int)) (h w : Nat) (x8 x9 x10 x11 x12 x13 x14 : Sl) : Env := [.sh (.scr ns), .sh .town, .sh t, .sh w2, .sh b, .sh (encL L), .sh (.lst ((cellsL h w).map encC)), .sh (.lst ((cellsL h w).map fun c => .lst ((vwL L h w c).map .int))), x8, x9, x10, x11, x12, x13, x14, .no, .no, .no, .no]
def covI (L : List (List Int)) (h w : Nat) (x : List Nat) : Bool := covB L h w (x.map (cAt h w))
variable (ns : List Int) (t w2 b : D) (s : Sto)
def unsL (L : List (List Int)) (h w : Nat) (x : List Nat) : List Nat := (List.range (h * w)).filter fun k => !(x.any fun o => seesB L (cAt h w o) (cAt h w k))
theorem uns_cov (x : List Nat) : (unsL L h w x).isEmpty = covI L h w x := by
  unfold unsL covI covB
  rw [cells_at, List.all_map, Bool.eq_iff_iff, List.isEmpty_iff, List.filter_eq_nil_iff, List.all_eq_true]
  constructor
  · intro q k hk
    have := q k hk
    simp only [Bool.not_eq_true', Bool.not_eq_false] at this
    simpa [List.any_map, Function.comp_def] using this
  · intro q k hk
    have := q k hk
    simpa [List.any_map, Function.comp_def] using this
theorem pEq_nil_ints (l : List Int) : pEq (.lst (l.map .int)) (.lst []) = some (.bool l.isEmpty) := by
  have h1 : D.dep 64 (.lst (l.map .int)) = true := by
    show List.all _ _ = true
    rw [List.all_map, List.all_eq_true]
    exact fun x _ => rfl
  have h2 : D.dep 64 (.lst []) = true := rfl
  simp only [pEq, h1, h2, Bool.and_self, if_true]
  cases l <;> simp
theorem co26_5 (hL : Land L h w) (h12 : h * w ≤ 12) {x : List Nat} (hx : ∀ o ∈ x, o < h * w) (x8 x9 x11 : Sl) :
    co_law_5 (E26 ns t w2 b L h w x8 x9 (.sh (encLs encN x)) x11 .no .no .no) s = .ok (.lst ((unsL L h w x).map encN)) (E26 ns t w2 b L h w x8 x9 (.sh (encLs encN x)) x11 .no .no .no) s := by
  unfold unsL
  have lc : (cellsL h w).length = h * w := cellsL_len h w
  have s1 := small_nat (n := h * w) (by omega)
  have s2 := SZ_int (n := h * w) (by omega)
  refine eComp_pure (List.range (h * w)) (fun k => D.int (0 + (k : Int))) (fun k => !(x.any fun o => seesB L (cAt h w o) (cAt h w k))) encN ?_ rfl fun k hk => ⟨[.sh (.scr ns), .sh .town, .sh t, .sh w2, .sh b, .sh (encL L), .sh (.lst ((cellsL h w).map encC)), .sh (.lst ((cellsL h w).map fun c => .lst ((vwL L h w c).map .int))), x8, x9, .sh (encLs encN x), x11, .no, .no, .no, .no, .sh (.int (0 + (k : Int))), .no, .no], rfl, rfl, ?_, fun _ => ?_⟩
  · simp only [Pk.sSeq, Pk.sNil, Pk.sRet, Pk.sExpr, Pk.sSet, Pk.sPar, Pk.sIf, Pk.sAppend, Pk.sExtend, Pk.sAsg, Pk.eC, Pk.eV, Pk.Opd.run, Pk.look, Pk.e1, Pk.e2, Pk.e3, Pk.eL, Pk.eTup, Pk.eLst, Pk.eCall, Pk.FR.at_ok, Pk.eAnd, Pk.eOr, Pk.eNot, Pk.eIte, Pk.iOf, Pk.itemsOf, Pk.opt_some, Pk.R.bind_ok, List.getElem?_cons_zero, List.getElem?_cons_succ, List.append_nil, List.nil_append, List.cons_append, List.set_cons_zero, List.set_cons_succ, Option.bind_some, if_true, Bool.not_true, Bool.not_false, decide_true, decide_false, Pk.pNeg, if_false, Bool.false_eq_true, iRange1, E26, eLen, lenOf, List.length_map, lc, s1, lim_of s2, Bool.and_self, Int.toNat_natCast, upto]
  · have hk := List.mem_range.mp hk
    have c4 : co_law_4 [.sh (.scr ns), .sh .town, .sh t, .sh w2, .sh b, .sh (encL L), .sh (.lst ((cellsL h w).map encC)), .sh (.lst ((cellsL h w).map fun c => .lst ((vwL L h w c).map .int))), x8, x9, .sh (encLs encN x), x11, .no, .no, .no, .no, .sh (.int (0 + (k : Int))), .no, .no] s = .ok (.lst (((x.filter fun o => seesB L (cAt h w o) (cAt h w k)).map fun _ => (1 : Int)).map .int)) [.sh (.scr ns), .sh .town, .sh t, .sh w2, .sh b, .sh (encL L), .sh (.lst ((cellsL h w).map encC)), .sh (.lst ((cellsL h w).map fun c => .lst ((vwL L h w c).map .int))), x8, x9, .sh (encLs encN x), x11, .no, .no, .no, .no, .sh (.int (0 + (k : Int))), .no, .no] s := by
      rw [List.map_map]
      refine eComp_pure x encN (fun o => seesB L (cAt h w o) (cAt h w k)) _ (by simp only [Pk.sSeq, Pk.sNil, Pk.sRet, Pk.sExpr, Pk.sSet, Pk.sPar, Pk.sIf, Pk.sAppend, Pk.sExtend, Pk.sAsg, Pk.eC, Pk.eV, Pk.Opd.run, Pk.look, Pk.e1, Pk.e2, Pk.e3, Pk.eL, Pk.eTup, Pk.eLst, Pk.eCall, Pk.FR.at_ok, Pk.eAnd, Pk.eOr, Pk.eNot, Pk.eIte, Pk.iOf, Pk.itemsOf, Pk.opt_some, Pk.R.bind_ok, List.getElem?_cons_zero, List.getElem?_cons_succ, List.append_nil, List.nil_append, List.cons_append, List.set_cons_zero, List.set_cons_succ, Option.bind_some, if_true, Bool.not_true, Bool.not_false, decide_true, decide_false, Pk.pNeg, if_false, Bool.false_eq_true, encLs]) rfl fun o ho => ⟨[.sh (.scr ns), .sh .town, .sh t, .sh w2, .sh b, .sh (encL L), .sh (.lst ((cellsL h w).map encC)), .sh (.lst ((cellsL h w).map fun c => .lst ((vwL L h w c).map .int))), x8, x9, .sh (encLs encN x), x11, .no, .sh (.int (o : Int)), .no, .no, .sh (.int (0 + (k : Int))), .no, .no], rfl, rfl, ?_, fun _ => by simp only [Pk.sSeq, Pk.sNil, Pk.sRet, Pk.sExpr, Pk.sSet, Pk.sPar, Pk.sIf, Pk.sAppend, Pk.sExtend, Pk.sAsg, Pk.eC, Pk.eV, Pk.Opd.run, Pk.look, Pk.e1, Pk.e2, Pk.e3, Pk.eL, Pk.eTup, Pk.eLst, Pk.eCall, Pk.FR.at_ok, Pk.eAnd, Pk.eOr, Pk.eNot, Pk.eIte, Pk.iOf, Pk.itemsOf, Pk.opt_some, Pk.R.bind_ok, List.getElem?_cons_zero, List.getElem?_cons_succ, List.append_nil, List.nil_append, List.cons_append, List.set_cons_zero, List.set_cons_succ, Option.bind_some, if_true, Bool.not_true, Bool.not_false, decide_true, decide_false, Pk.pNeg, if_false, Bool.false_eq_true]; rfl⟩
      have gi : pIx (.lst ((cellsL h w).map fun c => .lst ((vwL L h w c).map .int))) (.int (o : Int)) = some (.lst ((vwL L h w (cAt h w o)).map .int)) := getI_map _ _ o _ (cAt_get (hx o ho))
      have pi := pIn_ints (0 + (k : Int)) (vwL L h w (cAt h w o))
      have e : decide ((0 + (k : Int)) ∈ vwL L h w (cAt h w o)) = seesB L (cAt h w o) (cAt h w k) := by
        rw [Int.zero_add, Bool.eq_iff_iff, decide_eq_true_eq, mem_vwL hk]
      rw [e] at pi
      simp only [Pk.sSeq, Pk.sNil, Pk.sRet, Pk.sExpr, Pk.sSet, Pk.sPar, Pk.sIf, Pk.sAppend, Pk.sExtend, Pk.sAsg, Pk.eC, Pk.eV, Pk.Opd.run, Pk.look, Pk.e1, Pk.e2, Pk.e3, Pk.eL, Pk.eTup, Pk.eLst, Pk.eCall, Pk.FR.at_ok, Pk.eAnd, Pk.eOr, Pk.eNot, Pk.eIte, Pk.iOf, Pk.itemsOf, Pk.opt_some, Pk.R.bind_ok, List.getElem?_cons_zero, List.getElem?_cons_succ, List.append_nil, List.nil_append, List.cons_append, List.set_cons_zero, List.set_cons_succ, Option.bind_some, if_true, Bool.not_true, Bool.not_false, decide_true, decide_false, Pk.pNeg, if_false, Bool.false_eq_true, gi, pi]
    have pe := pEq_nil_ints ((x.filter fun o => seesB L (cAt h w o) (cAt h w k)).map fun _ => (1 : Int))
    have e : ((x.filter fun o => seesB L (cAt h w o) (cAt h w k)).map fun _ => (1 : Int)).isEmpty = !(x.any fun o => seesB L (cAt h w o) (cAt h w k)) := by
      rw [Bool.eq_iff_iff, List.isEmpty_iff, List.map_eq_nil_iff, List.filter_eq_nil_iff]
      simp
    rw [e] at pe
    exact e2_v c4 rfl pe
  · simp only [Pk.sSeq, Pk.sNil, Pk.sRet, Pk.sExpr, Pk.sSet, Pk.sPar, Pk.sIf, Pk.sAppend, Pk.sExtend, Pk.sAsg, Pk.eC, Pk.eV, Pk.Opd.run, Pk.look, Pk.e1, Pk.e2, Pk.e3, Pk.eL, Pk.eTup, Pk.eLst, Pk.eCall, Pk.FR.at_ok, Pk.eAnd, Pk.eOr, Pk.eNot, Pk.eIte, Pk.iOf, Pk.itemsOf, Pk.opt_some, Pk.R.bind_ok, List.getElem?_cons_zero, List.getElem?_cons_succ, List.append_nil, List.nil_append, List.cons_append, List.set_cons_zero, List.set_cons_succ, Option.bind_some, if_true, Bool.not_true, Bool.not_false, decide_true, decide_false, Pk.pNeg, if_false, Bool.false_eq_true, Int.zero_add]
theorem fo26_1 (hL : Land L h w) (h12 : h * w ≤ 12) {x : List Nat} (hx : ∀ o ∈ x, o < h * w) (y : List Nat) (x9 x11 : Sl) :
    ∃ y11, fo_law_1 (E26 ns t w2 b L h w (.sh (encLs encN y)) x9 (.sh (encLs encN x)) x11 .no .no .no) s = .ok .nx (E26 ns t w2 b L h w (.sh (encLs encN (if y = [] then (if covI L h w x then x else []) else y))) x9 (.sh (encLs encN x)) y11 .no .no .no) s := by
  have pe : pEq (encLs encN y) (.lst []) = some (.bool y.isEmpty) := by
    have := pEq_nil_ints (y.map fun (k : Nat) => (k : Int))
    rw [List.map_map] at this
    rw [show (y.map fun (k : Nat) => (k : Int)).isEmpty = y.isEmpty by cases y <;> rfl] at this
    exact this
  cases y with
  | cons a y =>
    refine ⟨x11, ?_⟩
    unfold fo_law_1
    rw [if_neg (by simp)]
    simp only [Pk.sSeq, Pk.sNil, Pk.sRet, Pk.sExpr, Pk.sSet, Pk.sPar, Pk.sIf, Pk.sAppend, Pk.sExtend, Pk.sAsg, Pk.eC, Pk.eV, Pk.Opd.run, Pk.look, Pk.e1, Pk.e2, Pk.e3, Pk.eL, Pk.eTup, Pk.eLst, Pk.eCall, Pk.FR.at_ok, Pk.eAnd, Pk.eOr, Pk.eNot, Pk.eIte, Pk.iOf, Pk.itemsOf, Pk.opt_some, Pk.R.bind_ok, List.getElem?_cons_zero, List.getElem?_cons_succ, List.append_nil, List.nil_append, List.cons_append, List.set_cons_zero, List.set_cons_succ, Option.bind_some, if_true, Bool.not_true, Bool.not_false, decide_true, decide_false, Pk.pNeg, if_false, Bool.false_eq_true, E26, pe, List.isEmpty_cons]
  | nil =>
    refine ⟨.sh (.lst ((unsL L h w x).map encN)), ?_⟩
    unfold fo_law_1
    have pu : pEq (.lst ((unsL L h w x).map encN)) (.lst []) = some (.bool (covI L h w x)) := by
      have := pEq_nil_ints ((unsL L h w x).map fun (k : Nat) => (k : Int))
      rw [List.map_map] at this
      rw [show ((unsL L h w x).map fun (k : Nat) => (k : Int)).isEmpty = (unsL L h w x).isEmpty by cases unsL L h w x <;> rfl, uns_cov] at this
      exact this
    rw [sIf_true (r1 := E26 ns t w2 b L h w (.sh (encLs encN [])) x9 (.sh (encLs encN x)) x11 .no .no .no) (s1 := s) (by simp only [Pk.sSeq, Pk.sNil, Pk.sRet, Pk.sExpr, Pk.sSet, Pk.sPar, Pk.sIf, Pk.sAppend, Pk.sExtend, Pk.sAsg, Pk.eC, Pk.eV, Pk.Opd.run, Pk.look, Pk.e1, Pk.e2, Pk.e3, Pk.eL, Pk.eTup, Pk.eLst, Pk.eCall, Pk.FR.at_ok, Pk.eAnd, Pk.eOr, Pk.eNot, Pk.eIte, Pk.iOf, Pk.itemsOf, Pk.opt_some, Pk.R.bind_ok, List.getElem?_cons_zero, List.getElem?_cons_succ, List.append_nil, List.nil_append, List.cons_append, List.set_cons_zero, List.set_cons_succ, Option.bind_some, if_true, Bool.not_true, Bool.not_false, decide_true, decide_false, Pk.pNeg, if_false, Bool.false_eq_true, E26, pe, List.isEmpty_nil])]
    rw [sSeq_nx' (r1 := E26 ns t w2 b L h w (.sh (encLs encN [])) x9 (.sh (encLs encN x)) (.sh (.lst ((unsL L h w x).map encN))) .no .no .no) (s1 := s) (by
      rw [sSet_of (co26_5 ns t w2 b s hL h12 hx _ x9 x11)]
      rfl)]
    rw [if_pos rfl]
    cases q : covI L h w x with
    | true => rw [q] at pu; simp only [Pk.sSeq, Pk.sNil, Pk.sRet, Pk.sExpr, Pk.sSet, Pk.sPar, Pk.sIf, Pk.sAppend, Pk.sExtend, Pk.sAsg, Pk.eC, Pk.eV, Pk.Opd.run, Pk.look, Pk.e1, Pk.e2, Pk.e3, Pk.eL, Pk.eTup, Pk.eLst, Pk.eCall, Pk.FR.at_ok, Pk.eAnd, Pk.eOr, Pk.eNot, Pk.eIte, Pk.iOf, Pk.itemsOf, Pk.opt_some, Pk.R.bind_ok, List.getElem?_cons_zero, List.getElem?_cons_succ, List.append_nil, List.nil_append, List.cons_append, List.set_cons_zero, List.set_cons_succ, Option.bind_some, if_true, Bool.not_true, Bool.not_false, decide_true, decide_false, Pk.pNeg, if_false, Bool.false_eq_true, E26, pu]
    | false => rw [q] at pu; simp only [Pk.sSeq, Pk.sNil, Pk.sRet, Pk.sExpr, Pk.sSet, Pk.sPar, Pk.sIf, Pk.sAppend, Pk.sExtend, Pk.sAsg, Pk.eC, Pk.eV, Pk.Opd.run, Pk.look, Pk.e1, Pk.e2, Pk.e3, Pk.eL, Pk.eTup, Pk.eLst, Pk.eCall, Pk.FR.at_ok, Pk.eAnd, Pk.eOr, Pk.eNot, Pk.eIte, Pk.iOf, Pk.itemsOf, Pk.opt_some, Pk.R.bind_ok, List.getElem?_cons_zero, List.getElem?_cons_succ, List.append_nil, List.nil_append, List.cons_append, List.set_cons_zero, List.set_cons_succ, Option.bind_some, if_true, Bool.not_true, Bool.not_false, decide_true, decide_false, Pk.pNeg, if_false, Bool.false_eq_true, E26, pu]; rfl
theorem find_min {α : Type} (p : List α → Bool) (l : List α) : ∀ (k : Nat) (W : List α), ((List.range k).flatMap fun j => chL (j + 1) l).find? p = some W → ∀ x : List α, x.Sublist l → 1 ≤ x.length → x.length < W.length → p x = false
  | 0, W, h => by simp at h
  | k + 1, W, h => by
    intro x hx h1 h2
    rw [List.range_succ, List.flatMap_append, List.find?_append] at h
    have all : ∀ y ∈ (List.range k).flatMap (fun j => chL (j + 1) l), y.length ≤ k := fun y hy => by
      obtain ⟨j, hj, hm⟩ := List.mem_flatMap.mp hy
      have := ((chL_sub _ _ y).mp hm).2
      have := List.mem_range.mp hj
      omega
    cases e : ((List.range k).flatMap fun j => chL (j + 1) l).find? p with
    | some V =>
      rw [e] at h
      simp only [Option.some_or, Option.some.injEq] at h
      subst h
      exact find_min p l k V e x hx h1 h2
    | none =>
      rw [e] at h
      simp only [Option.none_or, List.flatMap_cons, List.flatMap_nil, List.append_nil] at h
      have hW := ((chL_sub _ _ W).mp (List.mem_of_find?_eq_some h)).2
      have hin : x ∈ (List.range k).flatMap (fun j => chL (j + 1) l) := List.mem_flatMap.mpr ⟨x.length - 1, List.mem_range.mpr (by omega), (chL_sub _ _ x).mpr ⟨hx, by omega⟩⟩
      have := List.find?_eq_none.mp e x hin
      simpa using this
theorem loop1_26 (hL : Land L h w) (h12 : h * w ≤ 12) (x9 : Sl) : ∀ (A : List (List Nat)), (∀ x ∈ A, x ≠ [] ∧ ∀ o ∈ x, o < h * w) → ∀ (y : List Nat) (x10 x11 : Sl),
    ∃ y10 y11, forL (.n 10) fo_law_1 (A.map (encLs encN)) (E26 ns t w2 b L h w (.sh (encLs encN y)) x9 x10 x11 .no .no .no) s = .ok .nx (E26 ns t w2 b L h w (.sh (encLs encN (if y = [] then (A.find? (covI L h w)).getD [] else y))) x9 y10 y11 .no .no .no) s
  | [], _, y, x10, x11 => ⟨x10, x11, by
    have : (if y = [] then (([] : List (List Nat)).find? (covI L h w)).getD [] else y) = y := by
      split
      · rename_i q; rw [q]; rfl
      · rfl
    rw [this]
    rfl⟩
  | x :: A, hA, y, x10, x11 => by
    obtain ⟨hx0, hx⟩ := hA x (by simp)
    obtain ⟨z11, q⟩ := fo26_1 ns t w2 b s hL h12 hx y x9 x11
    obtain ⟨y10, y11, q2⟩ := loop1_26 hL h12 x9 A (fun v hv => hA v (List.mem_cons_of_mem _ hv)) (if y = [] then (if covI L h w x then x else []) else y) (.sh (encLs encN x)) z11
    refine ⟨y10, y11, ?_⟩
    have e : (if (if y = [] then (if covI L h w x then x else []) else y) = [] then (A.find? (covI L h w)).getD [] else (if y = [] then (if covI L h w x then x else []) else y)) = (if y = [] then ((x :: A).find? (covI L h w)).getD [] else y) := by
      by_cases hy : y = []
      · subst hy
        cases e : covI L h w x with
        | true => simp [List.find?_cons, e, hx0]
        | false => simp [List.find?_cons, e]
      · simp [hy]
    rw [e] at q2
    have st : setT (E26 ns t w2 b L h w (.sh (encLs encN y)) x9 x10 x11 .no .no .no) (.n 10) (encLs encN x) = some (E26 ns t w2 b L h w (.sh (encLs encN y)) x9 (.sh (encLs encN x)) x11 .no .no .no) := rfl
    simp only [List.map_cons, forL, st, q, R.bind_ok]
    exact q2
theorem loop2_26 (hL : Land L h w) (h12 : h * w ≤ 12) : ∀ (n k : Nat) (x9 x10 x11 : Sl), k + n ≤ 12 →
    ∃ y9 y10 y11, forL (.n 9) fo_law_2 ((List.range n).map fun j => D.int (1 + ((k + j : Nat) : Int))) (E26 ns t w2 b L h w (.sh (encLs encN [])) x9 x10 x11 .no .no .no) s = .ok .nx (E26 ns t w2 b L h w (.sh (encLs encN ((((List.range n).flatMap fun j => chL (k + j + 1) (List.range (h * w))).find? (covI L h w)).getD []))) y9 y10 y11 .no .no .no) s
  | 0, k, x9, x10, x11, _ => ⟨x9, x10, x11, rfl⟩
  | n + 1, k, x9, x10, x11, hk => by
    have lc : (cellsL h w).length = h * w := cellsL_len h w
    have e1 : ((List.range (n + 1)).map fun j => D.int (1 + ((k + j : Nat) : Int))) = .int (1 + (k : Int)) :: (List.range n).map fun j => D.int (1 + ((k + 1 + j : Nat) : Int)) := by
      rw [List.range_succ_eq_map, List.map_cons, List.map_map]
      refine cons_eq (by simp) (List.map_congr_left fun j _ => ?_)
      simp only [Function.comp, Nat.succ_eq_add_one]
      rw [show k + (j + 1) = k + 1 + j by omega]
    have e2 : ((List.range (n + 1)).flatMap fun j => chL (k + j + 1) (List.range (h * w))) = chL (k + 1) (List.range (h * w)) ++ (List.range n).flatMap fun j => chL (k + 1 + j + 1) (List.range (h * w)) := by
      rw [List.range_succ_eq_map, List.flatMap_cons, List.flatMap_map]
      congr 1
      refine fm_congr fun j _ => ?_
      simp only [Nat.succ_eq_add_one]
      rw [show k + (j + 1) + 1 = k + 1 + j + 1 by omega]
    have hA : ∀ x ∈ chL (k + 1) (List.range (h * w)), x ≠ [] ∧ ∀ o ∈ x, o < h * w := fun x hx => by
      obtain ⟨h1, h2⟩ := (chL_sub _ _ x).mp hx
      exact ⟨fun q => by rw [q] at h2; simp at h2, fun o ho => List.mem_range.mp (h1.subset ho)⟩
    obtain ⟨z10, z11, q⟩ := loop1_26 ns t w2 b s hL h12 (.sh (.int (1 + (k : Int)))) _ hA [] x10 x11
    rw [if_pos rfl] at q
    have ll := law_lists_ok s (h * w) h12 12 (k + 1) (by omega) (by omega)
    have em : (1 + (k : Int)) = ((k + 1 : Nat) : Int) := by omega
    have st : setT (E26 ns t w2 b L h w (.sh (encLs encN [])) x9 x10 x11 .no .no .no) (.n 9) (.int (1 + (k : Int))) = some (E26 ns t w2 b L h w (.sh (encLs encN [])) (.sh (.int (1 + (k : Int)))) x10 x11 .no .no .no) := rfl
    have sf : sFor (iOf (eCall (py_law_lists 13) [(eLen (.v (eV 6))), (eV 9)] [])) (.n 10) fo_law_1 (E26 ns t w2 b L h w (.sh (encLs encN [])) (.sh (.int (1 + (k : Int)))) x10 x11 .no .no .no) s = .ok .nx (E26 ns t w2 b L h w (.sh (encLs encN (((chL (k + 1) (List.range (h * w))).find? (covI L h w)).getD []))) (.sh (.int (1 + (k : Int)))) z10 z11 .no .no .no) s := by
      rw [← q]
      simp only [Pk.sSeq, Pk.sNil, Pk.sRet, Pk.sExpr, Pk.sSet, Pk.sPar, Pk.sIf, Pk.sAppend, Pk.sExtend, Pk.sAsg, Pk.eC, Pk.eV, Pk.Opd.run, Pk.look, Pk.e1, Pk.e2, Pk.e3, Pk.eL, Pk.eTup, Pk.eLst, Pk.eCall, Pk.FR.at_ok, Pk.eAnd, Pk.eOr, Pk.eNot, Pk.eIte, Pk.iOf, Pk.itemsOf, Pk.opt_some, Pk.R.bind_ok, List.getElem?_cons_zero, List.getElem?_cons_succ, List.append_nil, List.nil_append, List.cons_append, List.set_cons_zero, List.set_cons_succ, Option.bind_some, if_true, Bool.not_true, Bool.not_false, decide_true, decide_false, Pk.pNeg, if_false, Bool.false_eq_true, sFor, E26, eLen, lenOf, List.length_map, lc]
      rw [em, ll]
      simp only [Pk.sSeq, Pk.sNil, Pk.sRet, Pk.sExpr, Pk.sSet, Pk.sPar, Pk.sIf, Pk.sAppend, Pk.sExtend, Pk.sAsg, Pk.eC, Pk.eV, Pk.Opd.run, Pk.look, Pk.e1, Pk.e2, Pk.e3, Pk.eL, Pk.eTup, Pk.eLst, Pk.eCall, Pk.FR.at_ok, Pk.eAnd, Pk.eOr, Pk.eNot, Pk.eIte, Pk.iOf, Pk.itemsOf, Pk.opt_some, Pk.R.bind_ok, List.getElem?_cons_zero, List.getElem?_cons_succ, List.append_nil, List.nil_append, List.cons_append, List.set_cons_zero, List.set_cons_succ, Option.bind_some, if_true, Bool.not_true, Bool.not_false, decide_true, decide_false, Pk.pNeg, if_false, Bool.false_eq_true]
    rw [e1, e2, List.find?_append]
    cases e : (chL (k + 1) (List.range (h * w))).find? (covI L h w) with
    | some W =>
      rw [e] at sf
      have hW : W ≠ [] := (hA W (List.mem_of_find?_eq_some e)).1
      have pe : pNe (encLs encN W) (.lst []) = some (.bool true) := by
        have := pNe_nil_ints (W.map fun (k : Nat) => (k : Int))
        rw [List.map_map] at this
        rw [show (W.map fun (k : Nat) => (k : Int)).isEmpty = false by cases W with | nil => exact absurd rfl hW | cons _ _ => rfl] at this
        exact this
      refine ⟨.sh (.int (1 + (k : Int))), z10, z11, ?_⟩
      have f2 : fo_law_2 (E26 ns t w2 b L h w (.sh (encLs encN [])) (.sh (.int (1 + (k : Int)))) x10 x11 .no .no .no) s = .ok .bk (E26 ns t w2 b L h w (.sh (encLs encN W)) (.sh (.int (1 + (k : Int)))) z10 z11 .no .no .no) s := by
        unfold fo_law_2
        rw [sSeq_nx' sf]
        simp only [Option.getD_some]
        simp only [Pk.sSeq, Pk.sNil, Pk.sRet, Pk.sExpr, Pk.sSet, Pk.sPar, Pk.sIf, Pk.sAppend, Pk.sExtend, Pk.sAsg, Pk.eC, Pk.eV, Pk.Opd.run, Pk.look, Pk.e1, Pk.e2, Pk.e3, Pk.eL, Pk.eTup, Pk.eLst, Pk.eCall, Pk.FR.at_ok, Pk.eAnd, Pk.eOr, Pk.eNot, Pk.eIte, Pk.iOf, Pk.itemsOf, Pk.opt_some, Pk.R.bind_ok, List.getElem?_cons_zero, List.getElem?_cons_succ, List.append_nil, List.nil_append, List.cons_append, List.set_cons_zero, List.set_cons_succ, Option.bind_some, if_true, Bool.not_true, Bool.not_false, decide_true, decide_false, Pk.pNeg, if_false, Bool.false_eq_true, E26, pe, sBrk]
      simp only [forL, st, f2, R.bind_ok, Option.some_or, Option.getD_some]
    | none =>
      rw [e] at sf
      have pe : pNe (encLs encN []) (.lst []) = some (.bool false) := pNe_self rfl
      obtain ⟨y9, y10, y11, q3⟩ := loop2_26 hL h12 n (k + 1) (.sh (.int (1 + (k : Int)))) z10 z11 (by omega)
      refine ⟨y9, y10, y11, ?_⟩
      have f2 : fo_law_2 (E26 ns t w2 b L h w (.sh (encLs encN [])) (.sh (.int (1 + (k : Int)))) x10 x11 .no .no .no) s = .ok .nx (E26 ns t w2 b L h w (.sh (encLs encN [])) (.sh (.int (1 + (k : Int)))) z10 z11 .no .no .no) s := by
        unfold fo_law_2
        rw [sSeq_nx' sf]
        simp only [Option.getD_none]
        simp only [Pk.sSeq, Pk.sNil, Pk.sRet, Pk.sExpr, Pk.sSet, Pk.sPar, Pk.sIf, Pk.sAppend, Pk.sExtend, Pk.sAsg, Pk.eC, Pk.eV, Pk.Opd.run, Pk.look, Pk.e1, Pk.e2, Pk.e3, Pk.eL, Pk.eTup, Pk.eLst, Pk.eCall, Pk.FR.at_ok, Pk.eAnd, Pk.eOr, Pk.eNot, Pk.eIte, Pk.iOf, Pk.itemsOf, Pk.opt_some, Pk.R.bind_ok, List.getElem?_cons_zero, List.getElem?_cons_succ, List.append_nil, List.nil_append, List.cons_append, List.set_cons_zero, List.set_cons_succ, Option.bind_some, if_true, Bool.not_true, Bool.not_false, decide_true, decide_false, Pk.pNeg, if_false, Bool.false_eq_true, E26, pe]
      simp only [forL, st, f2, R.bind_ok, Option.none_or]
      exact q3
theorem cov_cells (hL : Land L h w) : covB L h w (cellsL h w) = true := by
  unfold covB
  rw [List.all_eq_true]
  intro c hc
  rw [List.any_eq_true]
  exact ⟨c, hc, self_sees L c⟩
/-- the law's list is the program's -/
theorem best_watch (hL : Land L h w) : ∃ B, ((List.range (h * w)).flatMap fun j => chL (j + 1) (List.range (h * w))).find? (covI L h w) = some B ∧ watchL L h w = B.map (cAt h w) ∧ ∀ o ∈ B, o < h * w := by
  have h1 : 1 ≤ h * w := Nat.mul_pos hL.hr.1 hL.hw.1
  obtain ⟨n, hn⟩ : ∃ n, h * w = n + 1 := ⟨h * w - 1, by omega⟩
  have cf : chL (n + 1) (List.range (n + 1)) = [List.range (n + 1)] := by
    have := chL_full (List.range (n + 1))
    rw [List.length_range] at this
    exact this
  have e1 : ((List.range (n + 1)).flatMap fun j => chL (j + 1) (List.range (n + 1))) = ((List.range n).flatMap fun j => chL (j + 1) (List.range (n + 1))) ++ [List.range (n + 1)] := by
    rw [List.range_succ, List.flatMap_append]
    simp only [List.flatMap_cons, List.flatMap_nil, List.append_nil]
    rw [← List.range_succ, cf]
  have e2 : wCands h w = ((List.range n).flatMap fun j => chL (j + 1) (List.range (n + 1))).map (List.map (cAt h w)) := by
    unfold wCands
    rw [hn, Nat.add_sub_cancel, List.map_flatMap]
    refine fm_congr fun j _ => ?_
    rw [cells_at, chL_map, hn]
  have cv : covI L h w (List.range (n + 1)) = true := by
    unfold covI
    rw [← hn, ← cells_at]
    exact cov_cells hL
  rw [hn, e1, List.find?_append]
  unfold watchL
  rw [e2, List.find?_map]
  have ec : covB L h w ∘ List.map (cAt h w) = covI L h w := rfl
  rw [ec]
  cases e : ((List.range n).flatMap fun j => chL (j + 1) (List.range (n + 1))).find? (covI L h w) with
  | some B =>
    refine ⟨B, rfl, rfl, fun o ho => ?_⟩
    obtain ⟨j, _, hj⟩ := List.mem_flatMap.mp (List.mem_of_find?_eq_some e)
    exact List.mem_range.mp (((chL_sub _ _ B).mp hj).1.subset ho)
  | none =>
    refine ⟨List.range (n + 1), by simp [List.find?_cons, cv], ?_, fun o ho => List.mem_range.mp ho⟩
    simp only [Option.map_none, Option.getD_none]
    rw [cells_at, hn]
theorem watch_sub (hL : Land L h w) : (watchL L h w).Sublist (cellsL h w) ∧ ∀ x : List C, x.Sublist (cellsL h w) → 1 ≤ x.length → x.length < (watchL L h w).length → covB L h w x = false := by
  unfold watchL
  cases e : (wCands h w).find? (covB L h w) with
  | some W =>
    simp only [Option.getD_some]
    obtain ⟨j, _, hj⟩ := List.mem_flatMap.mp (List.mem_of_find?_eq_some e)
    exact ⟨((chL_sub _ _ W).mp hj).1, find_min (covB L h w) (cellsL h w) _ W e⟩
  | none =>
    simp only [Option.getD_none]
    refine ⟨List.Sublist.refl _, fun x hx h1 h2 => ?_⟩
    rw [cellsL_len] at h2
    have := List.find?_eq_none.mp e x (List.mem_flatMap.mpr ⟨x.length - 1, List.mem_range.mpr (by omega), (chL_sub _ _ x).mpr ⟨hx, by omega⟩⟩)
    simpa using this
theorem rest_unseen (hL : Land L h w) {c : C} (hc : c ∈ watchL L h w) : covB L h w ((watchL L h w).filter fun o => !decide (o = c)) = false := by
  obtain ⟨w1, w2⟩ := watch_sub (L := L) hL
  have nd : (watchL L h w).Nodup := w1.nodup (cellsL_nodup h w)
  by_cases q : (watchL L h w).filter (fun o => !decide (o = c)) = []
  · rw [q]
    unfold covB
    have h1 := hL.hr.1
    have h2 := hL.hw.1
    have : (0, 0) ∈ cellsL h w := mem_cellsL.mpr ⟨by simp, by simp; omega, by simp, by simp; omega⟩
    rw [Bool.eq_false_iff]
    intro k
    have := List.all_eq_true.mp k _ this
    simp at this
  · refine w2 _ (List.filter_sublist.trans w1) (by
      cases e : (watchL L h w).filter (fun o => !decide (o = c)) with
      | nil => exact absurd e q
      | cons _ _ => simp) ?_
    have := List.length_filter_lt_length_iff_exists (p := fun o => !decide (o = c)) (l := watchL L h w)
    rw [this]
    exact ⟨c, hc, by simp⟩
theorem co26_8 (hn : ns.length ≤ 63) (t : D) (w b : Nat) (hw : w ≤ 8) (hb : 0 < b ∧ b ≤ 1000) (z15 : Sl) (n : Nat) (hk : n < 900000) :
    ∃ r : List Int, r.length = w ∧ (∀ x ∈ r, 0 ≤ x ∧ x ≤ 999) ∧ co_law_8 [.sh (.scr ns), .sh .town, .sh t, .sh (.int w), .sh (.int b), .no, .no, .no, .no, .no, .no, .no, .no, .no, .no, z15, .no, .no, .no] (St n) =
      .ok (.lst (r.map .int)) [.sh (.scr ns), .sh .town, .sh t, .sh (.int w), .sh (.int b), .no, .no, .no, .no, .no, .no, .no, .no, .no, .no, z15, .no, .no, .no] (St (n + w)) := by
  obtain ⟨ys, s', e1, e2⟩ := eComp_sto (it := iRange1 (eV 3)) (g := .n 16) (own := [16]) (e := eCall py_law_draw [eV 0, eV 1, eV 4] []) (r := [.sh (.scr ns), .sh .town, .sh t, .sh (.int w), .sh (.int b), .no, .no, .no, .no, .no, .no, .no, .no, .no, .no, z15, .no, .no, .no]) (s := St n) (ds := upto 0 w)
    (fun k ys s1 => s1 = St (n + k) ∧ ∃ r : List Int, ys = r.map .int ∧ r.length = k ∧ ∀ x ∈ r, 0 ≤ x ∧ x ≤ 999) (range1_nat rfl (by omega)) rfl ⟨rfl, [], rfl, rfl, fun x hx => by cases hx⟩
    (fun j d hd acc s1 hI => by
      obtain ⟨rfl, r, rfl, h1, h2⟩ := hI
      obtain ⟨hj, rfl⟩ := upto_get hd
      obtain ⟨v, h3, h4⟩ := draw_ok ns (n + j) b hn (by omega) hb.1
      refine ⟨[.sh (.scr ns), .sh .town, .sh t, .sh (.int w), .sh (.int b), .no, .no, .no, .no, .no, .no, .no, .no, .no, .no, z15, .sh (.int (0 + j)), .no, .no], .int v, St (n + j + 1), rfl, rfl, by simp only [Pk.sSeq, Pk.sNil, Pk.sRet, Pk.sExpr, Pk.sSet, Pk.sPar, Pk.sIf, Pk.sAppend, Pk.sExtend, Pk.sAsg, Pk.eC, Pk.eV, Pk.Opd.run, Pk.look, Pk.e1, Pk.e2, Pk.e3, Pk.eL, Pk.eTup, Pk.eLst, Pk.eCall, Pk.FR.at_ok, Pk.eAnd, Pk.eOr, Pk.eNot, Pk.eIte, Pk.iOf, Pk.itemsOf, Pk.opt_some, Pk.R.bind_ok, List.getElem?_cons_zero, List.getElem?_cons_succ, List.append_nil, List.nil_append, List.cons_append, List.set_cons_zero, List.set_cons_succ, Option.bind_some, if_true, Bool.not_true, Bool.not_false, decide_true, decide_false, Pk.pNeg, if_false, Bool.false_eq_true, h4], rfl, r ++ [(v : Int)], by simp, by simp [h1], fun x hx => ?_⟩
      rcases List.mem_append.mp hx with z | z
      · exact h2 x z
      · rw [List.mem_singleton.mp z]; omega)
  rw [upto_len] at e2
  obtain ⟨rfl, r, rfl, h1, h2⟩ := e2
  exact ⟨r, h1, h2, e1⟩
theorem co26_9 (hn : ns.length ≤ 63) (h w b : Nat) (hh : h ≤ 8) (hw : w ≤ 8) (hb : 0 < b ∧ b ≤ 1000) (n : Nat) (hk : n < 800000) :
    ∃ L : List (List Int), L.length = h ∧ (∀ r ∈ L, r.length = w) ∧ (∀ r ∈ L, ∀ x ∈ r, 0 ≤ x ∧ x ≤ 999) ∧ co_law_9 [.sh (.scr ns), .sh .town, .sh (.int h), .sh (.int w), .sh (.int b), .no, .no, .no, .no, .no, .no, .no, .no, .no, .no, .no, .no, .no, .no] (St n) =
      .ok (.lst (L.map encR)) [.sh (.scr ns), .sh .town, .sh (.int h), .sh (.int w), .sh (.int b), .no, .no, .no, .no, .no, .no, .no, .no, .no, .no, .no, .no, .no, .no] (St (n + h * w)) := by
  obtain ⟨ys, s', e1, e2⟩ := eComp_sto (it := iRange1 (eV 2)) (g := .n 15) (own := [15]) (e := Pk.e1 pTup (.v co_law_8)) (r := [.sh (.scr ns), .sh .town, .sh (.int h), .sh (.int w), .sh (.int b), .no, .no, .no, .no, .no, .no, .no, .no, .no, .no, .no, .no, .no, .no]) (s := St n) (ds := upto 0 h)
    (fun k ys s1 => s1 = St (n + k * w) ∧ ∃ L : List (List Int), ys = L.map encR ∧ L.length = k ∧ (∀ r ∈ L, r.length = w) ∧ ∀ r ∈ L, ∀ x ∈ r, 0 ≤ x ∧ x ≤ 999) (range1_nat rfl (by omega)) rfl ⟨by simp, [], rfl, rfl, ⟨fun x hx => (by cases hx), fun x hx => (by cases hx)⟩⟩
    (fun j d hd acc s1 hI => by
      obtain ⟨rfl, L, rfl, h1, h2, h3⟩ := hI
      obtain ⟨hj, rfl⟩ := upto_get hd
      have : j * w ≤ 8 * 8 := Nat.mul_le_mul (by omega) hw
      obtain ⟨r, r1, r2, r3⟩ := co26_8 ns hn (.int h) w b hw hb (.sh (.int (0 + j))) (n + j * w) (by omega)
      refine ⟨_, encR r, St (n + j * w + w), rfl, rfl, e1_v (p := pTup) r3 rfl, ?_, L ++ [r], by simp, by simp [h1], fun x hx => ?_, fun x hx => ?_⟩
      · rw [Nat.succ_mul, Nat.add_assoc]
      · rcases List.mem_append.mp hx with z | z
        · exact h2 x z
        · rw [List.mem_singleton.mp z]; exact r1
      · rcases List.mem_append.mp hx with z | z
        · exact h3 x z
        · rw [List.mem_singleton.mp z]; exact r2)
  rw [upto_len] at e2
  obtain ⟨rfl, L, rfl, h1, h2, h3⟩ := e2
  exact ⟨L, h1, h2, h3, e1⟩
theorem fo26_0 (hL : Land L h w) (W : List C) (hW : ∀ c ∈ W, InL h w c) {c : C} (hu : covB L h w (W.filter fun o => !decide (o = c)) = false) (x8 x9 x10 x11 x14 : Sl) :
    ∃ y14, fo_law_0 (E26 ns t w2 b L h w x8 x9 x10 x11 (.sh (encLs encC W)) (.sh (encC c)) x14) s = .ok .nx (E26 ns t w2 b L h w x8 x9 x10 x11 (.sh (encLs encC W)) (.sh (encC c)) y14) s := by
  obtain ⟨Rst, hR⟩ : ∃ R, R = W.filter fun o => !decide (o = c) := ⟨_, rfl⟩
  rw [← hR] at hu
  have hRi : ∀ o ∈ Rst, InL h w o := fun o ho => by rw [hR] at ho; exact hW o (List.mem_filter.mp ho).1
  refine ⟨.sh (encLs encC Rst), ?_⟩
  have c2 : co_law_2 (E26 ns t w2 b L h w x8 x9 x10 x11 (.sh (encLs encC W)) (.sh (encC c)) x14) s = .ok (encLs encC Rst) (E26 ns t w2 b L h w x8 x9 x10 x11 (.sh (encLs encC W)) (.sh (encC c)) x14) s := by
    rw [hR]
    refine eComp_pure W encC (fun o => !decide (o = c)) encC (by simp only [Pk.sSeq, Pk.sNil, Pk.sRet, Pk.sExpr, Pk.sSet, Pk.sPar, Pk.sIf, Pk.sAppend, Pk.sExtend, Pk.sAsg, Pk.eC, Pk.eV, Pk.Opd.run, Pk.look, Pk.e1, Pk.e2, Pk.e3, Pk.eL, Pk.eTup, Pk.eLst, Pk.eCall, Pk.FR.at_ok, Pk.eAnd, Pk.eOr, Pk.eNot, Pk.eIte, Pk.iOf, Pk.itemsOf, Pk.opt_some, Pk.R.bind_ok, List.getElem?_cons_zero, List.getElem?_cons_succ, List.append_nil, List.nil_append, List.cons_append, List.set_cons_zero, List.set_cons_succ, Option.bind_some, if_true, Bool.not_true, Bool.not_false, decide_true, decide_false, Pk.pNeg, if_false, Bool.false_eq_true, E26, encLs]) rfl fun o ho => ⟨[.sh (.scr ns), .sh .town, .sh t, .sh w2, .sh b, .sh (encL L), .sh (.lst ((cellsL h w).map encC)), .sh (.lst ((cellsL h w).map fun c => .lst ((vwL L h w c).map .int))), x8, x9, x10, x11, .sh (encLs encC W), .sh (encC c), x14, .no, .no, .no, .sh (encC o)], rfl, rfl, ?_, fun _ => by simp only [Pk.sSeq, Pk.sNil, Pk.sRet, Pk.sExpr, Pk.sSet, Pk.sPar, Pk.sIf, Pk.sAppend, Pk.sExtend, Pk.sAsg, Pk.eC, Pk.eV, Pk.Opd.run, Pk.look, Pk.e1, Pk.e2, Pk.e3, Pk.eL, Pk.eTup, Pk.eLst, Pk.eCall, Pk.FR.at_ok, Pk.eAnd, Pk.eOr, Pk.eNot, Pk.eIte, Pk.iOf, Pk.itemsOf, Pk.opt_some, Pk.R.bind_ok, List.getElem?_cons_zero, List.getElem?_cons_succ, List.append_nil, List.nil_append, List.cons_append, List.set_cons_zero, List.set_cons_succ, Option.bind_some, if_true, Bool.not_true, Bool.not_false, decide_true, decide_false, Pk.pNeg, if_false, Bool.false_eq_true]⟩
    have ne : pNe (encC o) (encC c) = some (.bool !(decide (o = c))) := by
      have hd : ∀ z : C, D.dep 64 (encC z) = true := fun z => dep64_encC z
      simp only [pNe, hd, Bool.and_self, if_true, eqv_encC]
    simp only [Pk.sSeq, Pk.sNil, Pk.sRet, Pk.sExpr, Pk.sSet, Pk.sPar, Pk.sIf, Pk.sAppend, Pk.sExtend, Pk.sAsg, Pk.eC, Pk.eV, Pk.Opd.run, Pk.look, Pk.e1, Pk.e2, Pk.e3, Pk.eL, Pk.eTup, Pk.eLst, Pk.eCall, Pk.FR.at_ok, Pk.eAnd, Pk.eOr, Pk.eNot, Pk.eIte, Pk.iOf, Pk.itemsOf, Pk.opt_some, Pk.R.bind_ok, List.getElem?_cons_zero, List.getElem?_cons_succ, List.append_nil, List.nil_append, List.cons_append, List.set_cons_zero, List.set_cons_succ, Option.bind_some, if_true, Bool.not_true, Bool.not_false, decide_true, decide_false, Pk.pNeg, if_false, Bool.false_eq_true, ne]
  have c1 : co_law_1 (E26 ns t w2 b L h w x8 x9 x10 x11 (.sh (encLs encC W)) (.sh (encC c)) (.sh (encLs encC Rst))) s = .ok (.lst (((cellsL h w).filter fun p => !(Rst.any fun o => seesB L o p)).map encC)) (E26 ns t w2 b L h w x8 x9 x10 x11 (.sh (encLs encC W)) (.sh (encC c)) (.sh (encLs encC Rst))) s := by
    refine eComp_pure (cellsL h w) encC (fun p => !(Rst.any fun o => seesB L o p)) encC (by simp only [Pk.sSeq, Pk.sNil, Pk.sRet, Pk.sExpr, Pk.sSet, Pk.sPar, Pk.sIf, Pk.sAppend, Pk.sExtend, Pk.sAsg, Pk.eC, Pk.eV, Pk.Opd.run, Pk.look, Pk.e1, Pk.e2, Pk.e3, Pk.eL, Pk.eTup, Pk.eLst, Pk.eCall, Pk.FR.at_ok, Pk.eAnd, Pk.eOr, Pk.eNot, Pk.eIte, Pk.iOf, Pk.itemsOf, Pk.opt_some, Pk.R.bind_ok, List.getElem?_cons_zero, List.getElem?_cons_succ, List.append_nil, List.nil_append, List.cons_append, List.set_cons_zero, List.set_cons_succ, Option.bind_some, if_true, Bool.not_true, Bool.not_false, decide_true, decide_false, Pk.pNeg, if_false, Bool.false_eq_true, E26]) rfl fun p hp => ⟨[.sh (.scr ns), .sh .town, .sh t, .sh w2, .sh b, .sh (encL L), .sh (.lst ((cellsL h w).map encC)), .sh (.lst ((cellsL h w).map fun c => .lst ((vwL L h w c).map .int))), x8, x9, x10, x11, .sh (encLs encC W), .sh (encC c), .sh (encLs encC Rst), .no, .no, .sh (encC p), .no], rfl, rfl, ?_, fun _ => by simp only [Pk.sSeq, Pk.sNil, Pk.sRet, Pk.sExpr, Pk.sSet, Pk.sPar, Pk.sIf, Pk.sAppend, Pk.sExtend, Pk.sAsg, Pk.eC, Pk.eV, Pk.Opd.run, Pk.look, Pk.e1, Pk.e2, Pk.e3, Pk.eL, Pk.eTup, Pk.eLst, Pk.eCall, Pk.FR.at_ok, Pk.eAnd, Pk.eOr, Pk.eNot, Pk.eIte, Pk.iOf, Pk.itemsOf, Pk.opt_some, Pk.R.bind_ok, List.getElem?_cons_zero, List.getElem?_cons_succ, List.append_nil, List.nil_append, List.cons_append, List.set_cons_zero, List.set_cons_succ, Option.bind_some, if_true, Bool.not_true, Bool.not_false, decide_true, decide_false, Pk.pNeg, if_false, Bool.false_eq_true]⟩
    have c0 : co_law_0 [.sh (.scr ns), .sh .town, .sh t, .sh w2, .sh b, .sh (encL L), .sh (.lst ((cellsL h w).map encC)), .sh (.lst ((cellsL h w).map fun c => .lst ((vwL L h w c).map .int))), x8, x9, x10, x11, .sh (encLs encC W), .sh (encC c), .sh (encLs encC Rst), .no, .no, .sh (encC p), .no] s = .ok (.lst ((Rst.filter fun o => seesB L o p).map encC)) [.sh (.scr ns), .sh .town, .sh t, .sh w2, .sh b, .sh (encL L), .sh (.lst ((cellsL h w).map encC)), .sh (.lst ((cellsL h w).map fun c => .lst ((vwL L h w c).map .int))), x8, x9, x10, x11, .sh (encLs encC W), .sh (encC c), .sh (encLs encC Rst), .no, .no, .sh (encC p), .no] s := by
      refine eComp_pure Rst encC (fun o => seesB L o p) encC (by simp only [Pk.sSeq, Pk.sNil, Pk.sRet, Pk.sExpr, Pk.sSet, Pk.sPar, Pk.sIf, Pk.sAppend, Pk.sExtend, Pk.sAsg, Pk.eC, Pk.eV, Pk.Opd.run, Pk.look, Pk.e1, Pk.e2, Pk.e3, Pk.eL, Pk.eTup, Pk.eLst, Pk.eCall, Pk.FR.at_ok, Pk.eAnd, Pk.eOr, Pk.eNot, Pk.eIte, Pk.iOf, Pk.itemsOf, Pk.opt_some, Pk.R.bind_ok, List.getElem?_cons_zero, List.getElem?_cons_succ, List.append_nil, List.nil_append, List.cons_append, List.set_cons_zero, List.set_cons_succ, Option.bind_some, if_true, Bool.not_true, Bool.not_false, decide_true, decide_false, Pk.pNeg, if_false, Bool.false_eq_true, encLs]) rfl fun o ho => ⟨[.sh (.scr ns), .sh .town, .sh t, .sh w2, .sh b, .sh (encL L), .sh (.lst ((cellsL h w).map encC)), .sh (.lst ((cellsL h w).map fun c => .lst ((vwL L h w c).map .int))), x8, x9, x10, x11, .sh (encLs encC W), .sh (encC c), .sh (encLs encC Rst), .no, .no, .sh (encC p), .sh (encC o)], rfl, rfl, ?_, fun _ => by simp only [Pk.sSeq, Pk.sNil, Pk.sRet, Pk.sExpr, Pk.sSet, Pk.sPar, Pk.sIf, Pk.sAppend, Pk.sExtend, Pk.sAsg, Pk.eC, Pk.eV, Pk.Opd.run, Pk.look, Pk.e1, Pk.e2, Pk.e3, Pk.eL, Pk.eTup, Pk.eLst, Pk.eCall, Pk.FR.at_ok, Pk.eAnd, Pk.eOr, Pk.eNot, Pk.eIte, Pk.iOf, Pk.itemsOf, Pk.opt_some, Pk.R.bind_ok, List.getElem?_cons_zero, List.getElem?_cons_succ, List.append_nil, List.nil_append, List.cons_append, List.set_cons_zero, List.set_cons_succ, Option.bind_some, if_true, Bool.not_true, Bool.not_false, decide_true, decide_false, Pk.pNeg, if_false, Bool.false_eq_true]⟩
      have pi := pIn_cells p ((cellsL h w).filter (seesB L o))
      have e : decide (p ∈ (cellsL h w).filter (seesB L o)) = seesB L o p := by simp [List.mem_filter, hp]
      rw [e] at pi
      simp only [Pk.sSeq, Pk.sNil, Pk.sRet, Pk.sExpr, Pk.sSet, Pk.sPar, Pk.sIf, Pk.sAppend, Pk.sExtend, Pk.sAsg, Pk.eC, Pk.eV, Pk.Opd.run, Pk.look, Pk.e1, Pk.e2, Pk.e3, Pk.eL, Pk.eTup, Pk.eLst, Pk.eCall, Pk.FR.at_ok, Pk.eAnd, Pk.eOr, Pk.eNot, Pk.eIte, Pk.iOf, Pk.itemsOf, Pk.opt_some, Pk.R.bind_ok, List.getElem?_cons_zero, List.getElem?_cons_succ, List.append_nil, List.nil_append, List.cons_append, List.set_cons_zero, List.set_cons_succ, Option.bind_some, if_true, Bool.not_true, Bool.not_false, decide_true, decide_false, Pk.pNeg, if_false, Bool.false_eq_true, seen_ok hL (hRi o ho), pi]
    have pe := pEq_nil_cells (Rst.filter fun o => seesB L o p)
    have e : (Rst.filter fun o => seesB L o p).isEmpty = !(Rst.any fun o => seesB L o p) := by
      rw [Bool.eq_iff_iff, List.isEmpty_iff, List.filter_eq_nil_iff]
      simp
    rw [e] at pe
    exact e2_v c0 rfl pe
  have pe := pEq_nil_cells ((cellsL h w).filter fun p => !(Rst.any fun o => seesB L o p))
  have e : ((cellsL h w).filter fun p => !(Rst.any fun o => seesB L o p)).isEmpty = covB L h w Rst := by
    unfold covB
    rw [Bool.eq_iff_iff, List.isEmpty_iff, List.filter_eq_nil_iff, List.all_eq_true]
    simp
  rw [e, hu] at pe
  unfold fo_law_0
  rw [sSeq_nx' (r1 := E26 ns t w2 b L h w x8 x9 x10 x11 (.sh (encLs encC W)) (.sh (encC c)) (.sh (encLs encC Rst))) (s1 := s) (by rw [sSet_of c2]; rfl)]
  have q : e2 pEq (.v co_law_1) (.v (eLst [])) (E26 ns t w2 b L h w x8 x9 x10 x11 (.sh (encLs encC W)) (.sh (encC c)) (.sh (encLs encC Rst))) s = .ok (.bool false) (E26 ns t w2 b L h w x8 x9 x10 x11 (.sh (encLs encC W)) (.sh (encC c)) (.sh (encLs encC Rst))) s := e2_v c1 rfl pe
  rw [sIf_false q]
  rfl
end
theorem law_ok (ns : List Int) (hn : ns.length ≤ 63) : ∃ s', py_law [.scr ns] ⟨none, []⟩ = .ok (.bool true) s' := by
  obtain ⟨d, hd, l1⟩ := pick_ok ns 0 [.tup [.int 1, .int 8], .tup [.int 8, .int 1], .tup [.int 2, .int 6], .tup [.int 6, .int 2], .tup [.int 3, .int 4], .tup [.int 2, .int 5], .tup [.int 3, .int 3], .tup [.int 1, .int 7]] hn (by omega) (by simp)
  obtain ⟨h, w, rfl, hh, hw, h12⟩ : ∃ h w : Nat, d = .tup [.int h, .int w] ∧ (1 ≤ h ∧ h ≤ 8) ∧ (1 ≤ w ∧ w ≤ 8) ∧ h * w ≤ 12 := by
    simp only [List.mem_cons, List.not_mem_nil, or_false] at hd
    rcases hd with rfl | rfl | rfl | rfl | rfl | rfl | rfl | rfl
    · exact ⟨1, 8, rfl, by omega, by omega, by omega⟩
    · exact ⟨8, 1, rfl, by omega, by omega, by omega⟩
    · exact ⟨2, 6, rfl, by omega, by omega, by omega⟩
    · exact ⟨6, 2, rfl, by omega, by omega, by omega⟩
    · exact ⟨3, 4, rfl, by omega, by omega, by omega⟩
    · exact ⟨2, 5, rfl, by omega, by omega, by omega⟩
    · exact ⟨3, 3, rfl, by omega, by omega, by omega⟩
    · exact ⟨1, 7, rfl, by omega, by omega, by omega⟩
  obtain ⟨d, hd, l2⟩ := pick_ok ns 1 [.int 2, .int 3, .int 10, .int 1000] hn (by omega) (by simp)
  obtain ⟨b, rfl, hb⟩ : ∃ b : Nat, d = .int b ∧ (0 < b ∧ b ≤ 1000) := by
    simp only [List.mem_cons, List.not_mem_nil, or_false] at hd
    rcases hd with rfl | rfl | rfl | rfl
    · exact ⟨2, rfl, by omega⟩
    · exact ⟨3, rfl, by omega⟩
    · exact ⟨10, rfl, by omega⟩
    · exact ⟨1000, rfl, by omega⟩
  obtain ⟨L, a1, a2, a3, l3⟩ := co26_9 ns hn h w b hh.2 hw.2 hb 2 (by omega)
  have hL : Land L h w := ⟨a1, hh, hw, a2, a3⟩
  obtain ⟨s, hs⟩ : ∃ s, s = St (2 + h * w) := ⟨_, rfl⟩
  rw [← hs] at l3
  have l1' : py_law_pick [.scr ns, .town, .lst [.tup [.int 1, .int 8], .tup [.int 8, .int 1], .tup [.int 2, .int 6], .tup [.int 6, .int 2], .tup [.int 3, .int 4], .tup [.int 2, .int 5], .tup [.int 3, .int 3], .tup [.int 1, .int 7]]] ⟨some 0, []⟩ = .ok (.tup [.int h, .int w]) (St 1) := l1
  have l2' : py_law_pick [.scr ns, .town, .lst [.int 2, .int 3, .int 10, .int 1000]] (St 1) = .ok (.int b) (St 2) := l2
  have lc : (cellsL h w).length = h * w := cellsL_len h w
  have h1 : 1 ≤ h * w := Nat.mul_pos hh.1 hw.1
  -- views
  have c7 : co_law_7 [.sh (.scr ns), .sh .town, .sh (.int h), .sh (.int w), .sh (.int b), .sh (encL L), .sh (.lst ((cellsL h w).map encC)), .no, .no, .no, .no, .no, .no, .no, .no, .no, .no, .no, .no] s = .ok (.lst ((cellsL h w).map fun c => .lst ((vwL L h w c).map .int))) [.sh (.scr ns), .sh .town, .sh (.int h), .sh (.int w), .sh (.int b), .sh (encL L), .sh (.lst ((cellsL h w).map encC)), .no, .no, .no, .no, .no, .no, .no, .no, .no, .no, .no, .no] s := by
    refine eComp_map (cellsL h w) encC _ (by simp only [Pk.sSeq, Pk.sNil, Pk.sRet, Pk.sExpr, Pk.sSet, Pk.sPar, Pk.sIf, Pk.sAppend, Pk.sExtend, Pk.sAsg, Pk.eC, Pk.eV, Pk.Opd.run, Pk.look, Pk.e1, Pk.e2, Pk.e3, Pk.eL, Pk.eTup, Pk.eLst, Pk.eCall, Pk.FR.at_ok, Pk.eAnd, Pk.eOr, Pk.eNot, Pk.eIte, Pk.iOf, Pk.itemsOf, Pk.opt_some, Pk.R.bind_ok, List.getElem?_cons_zero, List.getElem?_cons_succ, List.append_nil, List.nil_append, List.cons_append, List.set_cons_zero, List.set_cons_succ, Option.bind_some, if_true, Bool.not_true, Bool.not_false, decide_true, decide_false, Pk.pNeg, if_false, Bool.false_eq_true]) rfl fun c hc => ⟨[.sh (.scr ns), .sh .town, .sh (.int h), .sh (.int w), .sh (.int b), .sh (encL L), .sh (.lst ((cellsL h w).map encC)), .no, .no, .no, .no, .no, .no, .sh (encC c), .no, .no, .no, .no, .no], rfl, rfl, ?_⟩
    unfold vwL
    rw [List.map_map]
    refine eComp_map ((cellsL h w).filter (seesB L c)) encC _ (by simp only [Pk.sSeq, Pk.sNil, Pk.sRet, Pk.sExpr, Pk.sSet, Pk.sPar, Pk.sIf, Pk.sAppend, Pk.sExtend, Pk.sAsg, Pk.eC, Pk.eV, Pk.Opd.run, Pk.look, Pk.e1, Pk.e2, Pk.e3, Pk.eL, Pk.eTup, Pk.eLst, Pk.eCall, Pk.FR.at_ok, Pk.eAnd, Pk.eOr, Pk.eNot, Pk.eIte, Pk.iOf, Pk.itemsOf, Pk.opt_some, Pk.R.bind_ok, List.getElem?_cons_zero, List.getElem?_cons_succ, List.append_nil, List.nil_append, List.cons_append, List.set_cons_zero, List.set_cons_succ, Option.bind_some, if_true, Bool.not_true, Bool.not_false, decide_true, decide_false, Pk.pNeg, if_false, Bool.false_eq_true, seen_ok hL (mem_cellsL.mp hc)]) rfl fun o ho => ⟨[.sh (.scr ns), .sh .town, .sh (.int h), .sh (.int w), .sh (.int b), .sh (encL L), .sh (.lst ((cellsL h w).map encC)), .no, .no, .no, .no, .no, .no, .sh (encC c), .no, .no, .no, .sh (encC o), .no], rfl, rfl, ?_⟩
    have pi := pIdx_cells (List.mem_filter.mp ho).1
    unfold eIdx
    simp only [Pk.sSeq, Pk.sNil, Pk.sRet, Pk.sExpr, Pk.sSet, Pk.sPar, Pk.sIf, Pk.sAppend, Pk.sExtend, Pk.sAsg, Pk.eC, Pk.eV, Pk.Opd.run, Pk.look, Pk.e1, Pk.e2, Pk.e3, Pk.eL, Pk.eTup, Pk.eLst, Pk.eCall, Pk.FR.at_ok, Pk.eAnd, Pk.eOr, Pk.eNot, Pk.eIte, Pk.iOf, Pk.itemsOf, Pk.opt_some, Pk.R.bind_ok, List.getElem?_cons_zero, List.getElem?_cons_succ, List.append_nil, List.nil_append, List.cons_append, List.set_cons_zero, List.set_cons_succ, Option.bind_some, if_true, Bool.not_true, Bool.not_false, decide_true, decide_false, Pk.pNeg, if_false, Bool.false_eq_true, pi]
    rfl
  -- the search
  obtain ⟨y9, y10, y11, lp⟩ := loop2_26 ns (.int h) (.int w) (.int b) s hL h12 (h * w) 0 .no .no .no (by omega)
  obtain ⟨B, eB, wB, bB⟩ := best_watch hL
  have ef : ((List.range (h * w)).flatMap fun j => chL (0 + j + 1) (List.range (h * w))) = (List.range (h * w)).flatMap fun j => chL (j + 1) (List.range (h * w)) := fm_congr fun j _ => by rw [Nat.zero_add]
  rw [ef, eB] at lp
  simp only [Option.getD_some] at lp
  have eu : upto 1 (h * w) = (List.range (h * w)).map fun j => D.int (1 + ((0 + j : Nat) : Int)) := by
    unfold upto
    refine List.map_congr_left fun j _ => by rw [Nat.zero_add]
  rw [← eu] at lp
  have wt := watchers_ok hL h12 s
  have wsub := (watch_sub (L := L) hL).1
  have wi : ∀ c ∈ watchL L h w, InL h w c := fun c hc => mem_cellsL.mp (wsub.subset hc)
  have c3 : co_law_3 (E26 ns (.int h) (.int w) (.int b) L h w (.sh (encLs encN B)) y9 y10 y11 (.sh (encLs encC (watchL L h w))) .no .no) s = .ok (encLs encC (watchL L h w)) (E26 ns (.int h) (.int w) (.int b) L h w (.sh (encLs encN B)) y9 y10 y11 (.sh (encLs encC (watchL L h w))) .no .no) s := by
    have := eComp_map (it := iOf (eV 8)) (g := .n 16) (own := [16]) (e := e2 pIx (.v (eV 6)) (.v (eV 16))) (r := E26 ns (.int h) (.int w) (.int b) L h w (.sh (encLs encN B)) y9 y10 y11 (.sh (encLs encC (watchL L h w))) .no .no) (r1 := E26 ns (.int h) (.int w) (.int b) L h w (.sh (encLs encN B)) y9 y10 y11 (.sh (encLs encC (watchL L h w))) .no .no) (s := s) (s1 := s) B encN (fun k => encC (cAt h w k)) (by simp only [Pk.sSeq, Pk.sNil, Pk.sRet, Pk.sExpr, Pk.sSet, Pk.sPar, Pk.sIf, Pk.sAppend, Pk.sExtend, Pk.sAsg, Pk.eC, Pk.eV, Pk.Opd.run, Pk.look, Pk.e1, Pk.e2, Pk.e3, Pk.eL, Pk.eTup, Pk.eLst, Pk.eCall, Pk.FR.at_ok, Pk.eAnd, Pk.eOr, Pk.eNot, Pk.eIte, Pk.iOf, Pk.itemsOf, Pk.opt_some, Pk.R.bind_ok, List.getElem?_cons_zero, List.getElem?_cons_succ, List.append_nil, List.nil_append, List.cons_append, List.set_cons_zero, List.set_cons_succ, Option.bind_some, if_true, Bool.not_true, Bool.not_false, decide_true, decide_false, Pk.pNeg, if_false, Bool.false_eq_true, E26, encLs]) rfl (fun k hk => ⟨[.sh (.scr ns), .sh .town, .sh (.int h), .sh (.int w), .sh (.int b), .sh (encL L), .sh (.lst ((cellsL h w).map encC)), .sh (.lst ((cellsL h w).map fun c => .lst ((vwL L h w c).map .int))), .sh (encLs encN B), y9, y10, y11, .sh (encLs encC (watchL L h w)), .no, .no, .no, .sh (.int (k : Int)), .no, .no], rfl, rfl, by
      have gi : pIx (.lst ((cellsL h w).map encC)) (.int (k : Int)) = some (encC (cAt h w k)) := getI_map encC _ k _ (cAt_get (bB k hk))
      simp only [Pk.sSeq, Pk.sNil, Pk.sRet, Pk.sExpr, Pk.sSet, Pk.sPar, Pk.sIf, Pk.sAppend, Pk.sExtend, Pk.sAsg, Pk.eC, Pk.eV, Pk.Opd.run, Pk.look, Pk.e1, Pk.e2, Pk.e3, Pk.eL, Pk.eTup, Pk.eLst, Pk.eCall, Pk.FR.at_ok, Pk.eAnd, Pk.eOr, Pk.eNot, Pk.eIte, Pk.iOf, Pk.itemsOf, Pk.opt_some, Pk.R.bind_ok, List.getElem?_cons_zero, List.getElem?_cons_succ, List.append_nil, List.nil_append, List.cons_append, List.set_cons_zero, List.set_cons_succ, Option.bind_some, if_true, Bool.not_true, Bool.not_false, decide_true, decide_false, Pk.pNeg, if_false, Bool.false_eq_true, gi]⟩)
    have e : encLs encC (watchL L h w) = .lst (B.map fun k => encC (cAt h w k)) := by rw [wB, encLs, List.map_map]; rfl
    unfold co_law_3
    rw [this, ← e]
  have nW : pNe (encLs encC (watchL L h w)) (encLs encC (watchL L h w)) = some (.bool false) := pNe_self (dep_cells 62 _)
  obtain ⟨⟨y13, y14⟩, f0, _⟩ := forL_st (g := .n 13) (b := fo_law_0) (s := s) encC (fun x : Sl × Sl => E26 ns (.int h) (.int w) (.int b) L h w (.sh (encLs encN B)) y9 y10 y11 (.sh (encLs encC (watchL L h w))) x.1 x.2) (fun _ _ => True) (watchL L h w) 0 (.no, .no) trivial (fun j c hj x _ => by
    obtain ⟨z14, q⟩ := fo26_0 ns (.int h) (.int w) (.int b) s hL (watchL L h w) wi (rest_unseen hL (List.mem_of_getElem? hj)) (.sh (encLs encN B)) y9 y10 y11 x.2
    exact ⟨_, (.sh (encC c), z14), rfl, q, trivial⟩)
  refine ⟨s, fnOf_rt (r := E26 ns (.int h) (.int w) (.int b) L h w (.sh (encLs encN B)) y9 y10 y11 (.sh (encLs encC (watchL L h w))) y13 y14) rfl ?_⟩
  unfold bo_law
  rw [sSeq_nx' (r1 := [.sh (.scr ns), .sh .town, .no, .no, .no, .no, .no, .no, .no, .no, .no, .no, .no, .no, .no, .no, .no, .no, .no]) (s1 := ⟨some 0, []⟩) (by simp [startL])]
  rw [sSeq_nx' (r1 := [.sh (.scr ns), .sh .town, .sh (.int h), .sh (.int w), .no, .no, .no, .no, .no, .no, .no, .no, .no, .no, .no, .no, .no, .no, .no]) (s1 := St 1) (by
    simp only [Pk.sSeq, Pk.sNil, Pk.sRet, Pk.sExpr, Pk.sSet, Pk.sPar, Pk.sIf, Pk.sAppend, Pk.sExtend, Pk.sAsg, Pk.eC, Pk.eV, Pk.Opd.run, Pk.look, Pk.e1, Pk.e2, Pk.e3, Pk.eL, Pk.eTup, Pk.eLst, Pk.eCall, Pk.FR.at_ok, Pk.eAnd, Pk.eOr, Pk.eNot, Pk.eIte, Pk.iOf, Pk.itemsOf, Pk.opt_some, Pk.R.bind_ok, List.getElem?_cons_zero, List.getElem?_cons_succ, List.append_nil, List.nil_append, List.cons_append, List.set_cons_zero, List.set_cons_succ, Option.bind_some, if_true, Bool.not_true, Bool.not_false, decide_true, decide_false, Pk.pNeg, if_false, Bool.false_eq_true, l1', setT_2])]
  rw [sSeq_nx' (r1 := [.sh (.scr ns), .sh .town, .sh (.int h), .sh (.int w), .sh (.int b), .no, .no, .no, .no, .no, .no, .no, .no, .no, .no, .no, .no, .no, .no]) (s1 := St 2) (by simp only [Pk.sSeq, Pk.sNil, Pk.sRet, Pk.sExpr, Pk.sSet, Pk.sPar, Pk.sIf, Pk.sAppend, Pk.sExtend, Pk.sAsg, Pk.eC, Pk.eV, Pk.Opd.run, Pk.look, Pk.e1, Pk.e2, Pk.e3, Pk.eL, Pk.eTup, Pk.eLst, Pk.eCall, Pk.FR.at_ok, Pk.eAnd, Pk.eOr, Pk.eNot, Pk.eIte, Pk.iOf, Pk.itemsOf, Pk.opt_some, Pk.R.bind_ok, List.getElem?_cons_zero, List.getElem?_cons_succ, List.append_nil, List.nil_append, List.cons_append, List.set_cons_zero, List.set_cons_succ, Option.bind_some, if_true, Bool.not_true, Bool.not_false, decide_true, decide_false, Pk.pNeg, if_false, Bool.false_eq_true, l2'])]
  rw [sSeq_nx' (r1 := [.sh (.scr ns), .sh .town, .sh (.int h), .sh (.int w), .sh (.int b), .sh (encL L), .no, .no, .no, .no, .no, .no, .no, .no, .no, .no, .no, .no, .no]) (s1 := s) (by rw [sSet_of (e1_v (p := pTup) l3 rfl)]; rfl)]
  rw [sSeq_nx' (r1 := [.sh (.scr ns), .sh .town, .sh (.int h), .sh (.int w), .sh (.int b), .sh (encL L), .sh (.lst ((cellsL h w).map encC)), .no, .no, .no, .no, .no, .no, .no, .no, .no, .no, .no, .no]) (s1 := s) (by simp only [Pk.sSeq, Pk.sNil, Pk.sRet, Pk.sExpr, Pk.sSet, Pk.sPar, Pk.sIf, Pk.sAppend, Pk.sExtend, Pk.sAsg, Pk.eC, Pk.eV, Pk.Opd.run, Pk.look, Pk.e1, Pk.e2, Pk.e3, Pk.eL, Pk.eTup, Pk.eLst, Pk.eCall, Pk.FR.at_ok, Pk.eAnd, Pk.eOr, Pk.eNot, Pk.eIte, Pk.iOf, Pk.itemsOf, Pk.opt_some, Pk.R.bind_ok, List.getElem?_cons_zero, List.getElem?_cons_succ, List.append_nil, List.nil_append, List.cons_append, List.set_cons_zero, List.set_cons_succ, Option.bind_some, if_true, Bool.not_true, Bool.not_false, decide_true, decide_false, Pk.pNeg, if_false, Bool.false_eq_true, law_cells_ok hL])]
  rw [sSeq_nx' (r1 := E26 ns (.int h) (.int w) (.int b) L h w .no .no .no .no .no .no .no) (s1 := s) (by rw [sSet_of c7]; rfl)]
  rw [sSeq_nx' (r1 := E26 ns (.int h) (.int w) (.int b) L h w (.sh (encLs encN [])) .no .no .no .no .no .no) (s1 := s) (by simp only [Pk.sSeq, Pk.sNil, Pk.sRet, Pk.sExpr, Pk.sSet, Pk.sPar, Pk.sIf, Pk.sAppend, Pk.sExtend, Pk.sAsg, Pk.eC, Pk.eV, Pk.Opd.run, Pk.look, Pk.e1, Pk.e2, Pk.e3, Pk.eL, Pk.eTup, Pk.eLst, Pk.eCall, Pk.FR.at_ok, Pk.eAnd, Pk.eOr, Pk.eNot, Pk.eIte, Pk.iOf, Pk.itemsOf, Pk.opt_some, Pk.R.bind_ok, List.getElem?_cons_zero, List.getElem?_cons_succ, List.append_nil, List.nil_append, List.cons_append, List.set_cons_zero, List.set_cons_succ, Option.bind_some, if_true, Bool.not_true, Bool.not_false, decide_true, decide_false, Pk.pNeg, if_false, Bool.false_eq_true, E26]; rfl)]
  rw [sSeq_nx' (r1 := E26 ns (.int h) (.int w) (.int b) L h w (.sh (encLs encN B)) y9 y10 y11 .no .no .no) (s1 := s) (by
    rw [← lp]
    have s1 := small_int (i := 1) (by omega)
    have s2 := small_int (i := ((h * w : Nat) : Int) + 1) (by omega)
    have s3 : ((h * w : Nat) : Int) + 1 - 1 ≤ (SZ : Int) := by simp only [SZ]; omega
    have e : (((h * w : Nat) : Int) + 1 - 1).toNat = h * w := by omega
    refine sFor_of ?_
    simp only [Pk.sSeq, Pk.sNil, Pk.sRet, Pk.sExpr, Pk.sSet, Pk.sPar, Pk.sIf, Pk.sAppend, Pk.sExtend, Pk.sAsg, Pk.eC, Pk.eV, Pk.Opd.run, Pk.look, Pk.e1, Pk.e2, Pk.e3, Pk.eL, Pk.eTup, Pk.eLst, Pk.eCall, Pk.FR.at_ok, Pk.eAnd, Pk.eOr, Pk.eNot, Pk.eIte, Pk.iOf, Pk.itemsOf, Pk.opt_some, Pk.R.bind_ok, List.getElem?_cons_zero, List.getElem?_cons_succ, List.append_nil, List.nil_append, List.cons_append, List.set_cons_zero, List.set_cons_succ, Option.bind_some, if_true, Bool.not_true, Bool.not_false, decide_true, decide_false, Pk.pNeg, if_false, Bool.false_eq_true, iRange2, E26, eLen, lenOf, List.length_map, lc, pAdd, s1, s2, lim_of s3, e, Bool.and_self])]
  rw [sSeq_nx' (r1 := E26 ns (.int h) (.int w) (.int b) L h w (.sh (encLs encN B)) y9 y10 y11 (.sh (encLs encC (watchL L h w))) .no .no) (s1 := s) (by simp only [Pk.sSeq, Pk.sNil, Pk.sRet, Pk.sExpr, Pk.sSet, Pk.sPar, Pk.sIf, Pk.sAppend, Pk.sExtend, Pk.sAsg, Pk.eC, Pk.eV, Pk.Opd.run, Pk.look, Pk.e1, Pk.e2, Pk.e3, Pk.eL, Pk.eTup, Pk.eLst, Pk.eCall, Pk.FR.at_ok, Pk.eAnd, Pk.eOr, Pk.eNot, Pk.eIte, Pk.iOf, Pk.itemsOf, Pk.opt_some, Pk.R.bind_ok, List.getElem?_cons_zero, List.getElem?_cons_succ, List.append_nil, List.nil_append, List.cons_append, List.set_cons_zero, List.set_cons_succ, Option.bind_some, if_true, Bool.not_true, Bool.not_false, decide_true, decide_false, Pk.pNeg, if_false, Bool.false_eq_true, E26, wt])]
  rw [sSeq_nx' (r1 := E26 ns (.int h) (.int w) (.int b) L h w (.sh (encLs encN B)) y9 y10 y11 (.sh (encLs encC (watchL L h w))) .no .no) (s1 := s) (by
    rw [sIf_false (e2_v (r1 := E26 ns (.int h) (.int w) (.int b) L h w (.sh (encLs encN B)) y9 y10 y11 (.sh (encLs encC (watchL L h w))) .no .no) (s1 := s) (by simp only [Pk.sSeq, Pk.sNil, Pk.sRet, Pk.sExpr, Pk.sSet, Pk.sPar, Pk.sIf, Pk.sAppend, Pk.sExtend, Pk.sAsg, Pk.eC, Pk.eV, Pk.Opd.run, Pk.look, Pk.e1, Pk.e2, Pk.e3, Pk.eL, Pk.eTup, Pk.eLst, Pk.eCall, Pk.FR.at_ok, Pk.eAnd, Pk.eOr, Pk.eNot, Pk.eIte, Pk.iOf, Pk.itemsOf, Pk.opt_some, Pk.R.bind_ok, List.getElem?_cons_zero, List.getElem?_cons_succ, List.append_nil, List.nil_append, List.cons_append, List.set_cons_zero, List.set_cons_succ, Option.bind_some, if_true, Bool.not_true, Bool.not_false, decide_true, decide_false, Pk.pNeg, if_false, Bool.false_eq_true, E26]) c3 nW)]
    rfl)]
  rw [sSeq_nx' (r1 := E26 ns (.int h) (.int w) (.int b) L h w (.sh (encLs encN B)) y9 y10 y11 (.sh (encLs encC (watchL L h w))) y13 y14) (s1 := s) (by
    rw [← f0]
    simp only [Pk.sSeq, Pk.sNil, Pk.sRet, Pk.sExpr, Pk.sSet, Pk.sPar, Pk.sIf, Pk.sAppend, Pk.sExtend, Pk.sAsg, Pk.eC, Pk.eV, Pk.Opd.run, Pk.look, Pk.e1, Pk.e2, Pk.e3, Pk.eL, Pk.eTup, Pk.eLst, Pk.eCall, Pk.FR.at_ok, Pk.eAnd, Pk.eOr, Pk.eNot, Pk.eIte, Pk.iOf, Pk.itemsOf, Pk.opt_some, Pk.R.bind_ok, List.getElem?_cons_zero, List.getElem?_cons_succ, List.append_nil, List.nil_append, List.cons_append, List.set_cons_zero, List.set_cons_succ, Option.bind_some, if_true, Bool.not_true, Bool.not_false, decide_true, decide_false, Pk.pNeg, if_false, Bool.false_eq_true, sFor, E26, encLs])]
  rfl
end Pk
/-! Br56: a list of new lists that only one slot knows: x = [e for ..], x[j][k] = v, x[j][k]. -/
namespace Pk
open PySem PySem.Spec PyProof.Rows L2
/-- rows that are kept aside -/
def RwL (cn : Cn) (lb : Lb) (H : Hp) : List Addr → List (List D) → Prop
  | as, [] => as = []
  | as, l :: R => ∃ r as' vs, as = r :: as' ∧ lb r = some .out ∧ H r = some (.lst vs) ∧ l.length ≤ SZ ∧ RepL cn lb H l vs ∧ RwL cn lb H as' R
theorem RwL.go {cn : Cn} {lb lb' : Lb} {H H' : Hp} (s : Stq lb H lb' H') : ∀ {as : List Addr} {R : List (List D)}, (∀ x ∈ as, lb x = some .out → lb' x = some .out ∧ H' x = H x) → RwL cn lb H as R → RwL cn lb' H' as R
  | as, [], _, h => h
  | as, l :: R, k, h => by
    obtain ⟨r, as', vs, rfl, h1, h2, h3, h4, h5⟩ := h
    obtain ⟨k1, k2⟩ := k r List.mem_cons_self h1
    exact ⟨r, as', vs, rfl, k1, by rw [k2]; exact h2, h3, h4.stq s, RwL.go s (fun x hx => k x (List.mem_cons_of_mem _ hx)) h5⟩
theorem RwL.stp {cn : Cn} {lb lb' : Lb} {H H' : Hp} (s : Stp lb H lb' H') {as : List Addr} {R : List (List D)} (h : RwL cn lb H as R) : RwL cn lb' H' as R := h.go s.q fun x _ e => s.out x e
theorem RwL.out {cn : Cn} {lb : Lb} {H : Hp} : ∀ {as : List Addr} {R : List (List D)}, RwL cn lb H as R → ∀ x ∈ as, lb x = some .out
  | as, [], h, x, hx => by have h : as = [] := h; subst h; cases hx
  | as, l :: R, h, x, hx => by
    obtain ⟨r, as', vs, rfl, h1, h2, h3, h4, h5⟩ := h
    rcases List.mem_cons.mp hx with e | e
    · rw [e]; exact h1
    · exact RwL.out h5 x e
theorem RwL.len {cn : Cn} {lb : Lb} {H : Hp} : ∀ {as : List Addr} {R : List (List D)}, RwL cn lb H as R → as.length = R.length
  | as, [], h => by have h : as = [] := h; subst h; rfl
  | as, m :: R, h => by
    obtain ⟨r, as', ws, rfl, h1, h2, h3, h4, h5⟩ := h
    rw [List.length_cons, List.length_cons, RwL.len h5]
end Pk
/-! Br57: x[j][k] = v, x[j][k] of a matrix. -/
namespace Pk
open PySem PySem.Spec PyProof.Rows L2
theorem MtL.at {cn : Cn} {lb : Lb} {H : Hp} {i : Nat} : ∀ {as : List Addr} {R : List (List D)} {j : Nat} {l : List D}, MtL cn lb H i as R → R[j]? = some l → ∃ r vs, as[j]? = some r ∧ lb r = some (.loc i) ∧ H r = some (.lst vs) ∧ l.length ≤ SZ ∧ RepL cn lb H l vs
  | as, [], j, l, h, e => by simp at e
  | as, m :: R, 0, l, h, e => by
    obtain ⟨r, as', vs, rfl, h1, h2, h3, h4, h5⟩ := h
    simp at e
    subst e
    exact ⟨r, vs, rfl, h1, h2, h3, h4⟩
  | as, m :: R, j + 1, l, h, e => by
    obtain ⟨r, as', vs, rfl, h1, h2, h3, h4, h5⟩ := h
    obtain ⟨r', vs', q1, q2⟩ := MtL.at (j := j) h5 (by simpa using e)
    exact ⟨r', vs', by simpa using q1, q2⟩
theorem MtL.len {cn : Cn} {lb : Lb} {H : Hp} {i : Nat} : ∀ {as : List Addr} {R : List (List D)}, MtL cn lb H i as R → as.length = R.length
  | as, [], h => by have h : as = [] := h; subst h; rfl
  | as, m :: R, h => by
    obtain ⟨r, as', ws, rfl, h1, h2, h3, h4, h5⟩ := h
    rw [List.length_cons, List.length_cons, MtL.len h5]
theorem RepL.set {cn : Cn} {lb : Lb} {H : Hp} {d : D} {v : V} (r : Rep cn lb H d v) : ∀ {ds : List D} {vs : List V} {j : Nat}, RepL cn lb H ds vs → RepL cn lb H (ds.set j d) (vs.set j v)
  | [], vs, j, h => by simp only [RepL] at h; subst h; simp only [List.set_nil]; exact .nil
  | e :: ds, vs, 0, h => by
    simp only [RepL] at h
    obtain ⟨u, us, rfl, h1, h2⟩ := h
    exact .cons r h2
  | e :: ds, vs, j + 1, h => by
    simp only [RepL] at h
    obtain ⟨u, us, rfl, h1, h2⟩ := h
    exact .cons h1 (RepL.set r h2)
end Pk
/-! Br58: objects in the store. -/
namespace Pk
open PySem PySem.Spec PyProof.Rows L2
theorem StoOk.obj {cn : Cn} {lb : Lb} {s : Sto} {H : Hp} {a : Addr} {n : Nat} (h : StoOk cn lb s H) (la : lb a = some (.inst n)) :
    ∃ fs dx fv, s.o[n]? = some fs ∧ lb dx = some (.idct n) ∧ H a = some (.ins cn.gr dx fv) ∧ H dx = some (.own a) ∧ FldOk cn lb H n fs fv := by
  have hn := h.dom a n "" (.inl la)
  obtain ⟨a', dx, fv, l1, l2, h1, h2, w⟩ := h.objs n _ (List.getElem?_eq_getElem hn)
  cases h.uniq a' a _ l1 la rfl
  exact ⟨_, dx, fv, List.getElem?_eq_getElem hn, l2, h1, h2, w⟩
theorem look_ne {α : Type} {f g : Str} {x : α} {r : List (Str × α)} (h : f ≠ g) : List.lookup f ((g, x) :: r) = List.lookup f r := by
  have hb : (f == g) = false := beq_eq_false_iff_ne.mpr h
  simp only [List.lookup, hb]
theorem look_eq {α : Type} {f : Str} {x : α} {r : List (Str × α)} : List.lookup f ((f, x) :: r) = some x := by
  have hb : (f == f) = true := beq_iff_eq.mpr rfl
  simp only [List.lookup, hb]
theorem FldOk.get {cn : Cn} {lb : Lb} {H : Hp} {n : Nat} (f : Str) : ∀ {fs : List (Str × D)} {fv : List (Str × V)}, FldOk cn lb H n fs fv →
    (fs.lookup f = none ∧ fv.lookup f = none) ∨ ∃ d v, fs.lookup f = some d ∧ fv.lookup f = some v ∧ FOk cn lb H n f d v
  | [], fv, h => by
    have h : fv = [] := h
    subst h
    exact .inl ⟨rfl, rfl⟩
  | (g, d) :: fs, fv, h => by
    obtain ⟨v, r, rfl, h1, h2⟩ := h
    by_cases e : f = g
    · subst e
      exact .inr ⟨d, v, look_eq, look_eq, h1⟩
    · rw [look_ne e, look_ne e]
      exact FldOk.get f h2
theorem FldOk.mapNe {cn : Cn} {lb lb' : Lb} {H H' : Hp} {n : Nat} {f : Str} (k : ∀ g d v, g ≠ f → FOk cn lb H n g d v → FOk cn lb' H' n g d v) : ∀ {fs : List (Str × D)} {fv : List (Str × V)}, f ∉ fs.map (·.1) → FldOk cn lb H n fs fv → FldOk cn lb' H' n fs fv
  | [], fv, _, h => h
  | (g, d) :: fs, fv, nf, h => by
    obtain ⟨v, r, rfl, h1, h2⟩ := h
    rw [List.map_cons, List.mem_cons, not_or] at nf
    exact ⟨v, r, rfl, k g d v (Ne.symm nf.1) h1, FldOk.mapNe k nf.2 h2⟩
theorem FldOk.put {cn : Cn} {lb lb' : Lb} {H H' : Hp} {n : Nat} {f : Str} {d : D} {v : V} (k : ∀ g d v, g ≠ f → FOk cn lb H n g d v → FOk cn lb' H' n g d v) (hd : FOk cn lb' H' n f d v) :
    ∀ {fs : List (Str × D)} {fv : List (Str × V)}, (fs.map (·.1)).Nodup → FldOk cn lb H n fs fv → FldOk cn lb' H' n (putFD f d fs) (putF f v fv)
  | [], fv, _, h => by
    have h : fv = [] := h
    subst h
    exact ⟨v, [], rfl, hd, rfl⟩
  | (g, e) :: fs, fv, nd, h => by
    obtain ⟨u, r, rfl, h1, h2⟩ := h
    obtain ⟨n1, n2⟩ := List.nodup_cons.mp nd
    unfold putFD putF
    by_cases z : g = f
    · subst z
      rw [if_pos rfl, if_pos rfl]
      exact ⟨v, r, rfl, hd, FldOk.mapNe k n1 h2⟩
    · rw [if_neg z, if_neg z]
      exact ⟨u, _, rfl, k g e u z h1, FldOk.put k hd n2 h2⟩
theorem FOk.oth {cn : Cn} {lb lb' : Lb} {H H' : Hp} {n : Nat} {f : Str} {d : D} {v : V} (h : FOk cn lb H n f d v) (s : Stq lb H lb' H') (k : ∀ a, lb a = some (.fld n f) → H' a = H a) : FOk cn lb' H' n f d v := by
  unfold FOk at h ⊢
  cases d with
  | lst l =>
    obtain ⟨p, o, e, lp, hp, w⟩ := h
    exact ⟨p, o, e, s.sto p _ lp rfl, by rw [k p lp]; exact hp, w.stq s⟩
  | _ => exact Rep.stq s h
theorem FldOk.oth {cn : Cn} {lb lb' : Lb} {H H' : Hp} {n : Nat} (s : Stq lb H lb' H') (k : ∀ a f, lb a = some (.fld n f) → H' a = H a) : ∀ {fs : List (Str × D)} {fv : List (Str × V)}, FldOk cn lb H n fs fv → FldOk cn lb' H' n fs fv
  | [], fv, h => h
  | (g, d) :: fs, fv, h => by
    obtain ⟨v, r, rfl, h1, h2⟩ := h
    exact ⟨v, r, rfl, h1.oth s fun a e => k a g e, FldOk.oth s k h2⟩
end Pk
/-! Br59: fields of objects. -/
namespace Pk
open PySem PySem.Spec PyProof.Rows L2
/-- what the class of the objects must have -/
structure GrX (cn : Cn) : Prop where
  cls : Cls cn.K cn.gr
  rows : NoAttr cn.K cn.gr "rows"
  past : NoAttr cn.K cn.gr "past"
  notes : NoAttr cn.K cn.gr "notes"
end Pk
/-! Br5a: methods called, objects made, len of an object. -/
namespace Pk
open PySem PySem.Spec PyProof.Rows L2
/-! ### a method of an object -/
/-- the def f is the method m of the class C: what a call of it stands on -/
structure MDef (X : Cx) (k : Nat) (C f : Addr) (m : Str) (fd : FuncData) (ps : List Str) (sp : Sp) (dvs : List V) (ds : List Value) (E : L2.St → XK) : Prop where
  cls : Cls X.K C
  found : Meth X.K C m f
  keeps : FnOk X.prog X.w X.K X.mg X.base (L2.CX X.prog X.w) k f fd ps sp
  room : Room k X.A
  binds : Binds X.K fd ps ds
  filled : Vals dvs ds
  out : ∀ σ, PassesAt (L2.CX X.prog X.w) X σ (E σ)
section
variable {X : Cx} {k : Nat} {f C : Addr} {fd : FuncData} {ps : List Str} {sp : Sp} {dvs : List V} {ds : List Value} {E : L2.St → XK} {m : Str} {pos apos : Pos} {o : Expr} {ta : TE} {W : Addr → TE}
theorem MDef.call {pins : List (Addr × Obj)} {s : Shared} {σ : L2.St} {H : Hp} {a : Addr} {Q : VK} {vs : List V} {us : List Value} (M : MDef X k C f m fd ps sp dvs ds E) (I : Inv X pins σ H s) (r : Vals vs us) (h : sp (.ref a :: (vs ++ dvs)) H Q (E σ)) :
    wpAny (model X.prog X.w) X.A (PySem.call (.ref f) (.ref a :: us)) (EP X pins σ Q) X.xe s :=
  run_fnSD (E := E) (vs := .ref a :: vs) M.keeps M.room M.binds M.filled (M.out σ) I (.cons rfl r) h
end
/-! ### an object made -/
/-- a method that keeps its promise -/
def MtG (cn : Cn) (P : Program) (w : World) (mg : Str → Option Value) (base : Heap) (k : Nat) (x : Str) (F : Fn) (dv : List D) : Prop :=
  ∃ (f : Addr) (fd : FuncData) (ps : List Str) (dsv : List Value) (dvs : List V), FnOk P w cn.K mg base (L2.CX P w) k f fd ps (spOf cn F) ∧ Meth cn.K cn.gr x f ∧ Binds cn.K fd ps dsv ∧ Vals dvs dsv ∧ ∀ lb H, RepL cn lb H dv dvs
end Pk
/-! Br5b: {k: v, l: w}; len of an object. -/
namespace Pk
open PySem PySem.Spec PyProof.Rows L2
section
variable {X : Cx} {b : Bd} {n : Nat} {cn : Cn}
/-- what a display of two leaves -/
def two (k l : List Key) (y z : V) : List (List Key × V) := if k = l then [(k, z)] else [(k, y), (l, z)]
/-! ### len of an object -/
end
end Pk
/-! Br5c: isinstance of the class, == and str of objects, str of numbers. -/
namespace Pk
open PySem PySem.Spec PyProof.Rows L2
/-- what more the class of the objects must have -/
structure GrY (cn : Cn) : Prop where
  cls : Cls cn.K cn.gr
  ha : PySem.W.findIn cn.K (.ref cn.gr) "__class__" = some (some (.builtin "object.__class__"))
  hn : PySem.W.specialIn cn.K (.builtin "object.__class__") "__get__" = some (some (.builtin "getset_descriptor.__get__"))
  tk : PySem.W.takesIn cn.K (.builtin "object.__class__") = some true
  mro : PySem.W.mroIn cn.K cn.gr (.type "object") = some true
  own : PySem.W.kitOne cn.K (.ref cn.gr) (.ref cn.gr) = some true
  oth : ∀ t, t ∈ ["NoneType", "bool", "int", "str", "tuple", "list"] → PySem.W.kitOne cn.K (.type t) (.ref cn.gr) = some false
  nf : ∀ t, t ∈ ["int", "str", "tuple"] → PySem.W.notFirst cn.K cn.gr (.type t) = true
section
variable {X : Cx} {b : Bd} {n : Nat} {cn : Cn}
theorem GrY.ty {lb : Lb} {s : Sto} {H : Hp} {a : Addr} {n : Nat} (G : GrY cn) (h : StoOk cn lb s H) (la : lb a = some (.inst n)) : TyX cn.K H (.ref a) (.ref cn.gr) := by
  obtain ⟨fs, dx, fv, hs, ldx, h1, h2, w⟩ := h.obj la
  exact .base (.ins h1 G.cls G.ha G.hn G.tk G.mro)
/-! ### == by the class's own __eq__ -/
theorem MtG.nil {k : Nat} {F : Fn} {x : Str} {P : Program} {w : World} {mg : Str → Option Value} {base : Heap} (G : MtG cn P w mg base k x F []) :
    ∃ (f : Addr) (fd : FuncData) (ps : List Str), FnOk P w cn.K mg base (L2.CX P w) k f fd ps (spOf cn F) ∧ Meth cn.K cn.gr x f ∧ Binds cn.K fd ps [] := by
  obtain ⟨f, fd, ps, dsv, dvs, F1, F2, F4, F5, F6⟩ := G
  have hd : dvs = [] := by
    have := F6 (fun _ => none) (fun _ => none)
    simpa only [RepL] using this
  subst hd
  cases F5
  exact ⟨f, fd, ps, F1, F2, F4⟩
/-! ### str(x) by the class's own __str__ -/
/-! ### numbers as texts, f-strings -/
end
end Pk
/-! Br5d: methods and the class as the head tells them; calls with one keyword. -/
namespace Pk
open PySem PySem.Spec PyProof.Rows L2
end Pk
/-! Br5e: x[j][k], x[l][m] = v, w of a matrix. -/
namespace Pk
open PySem PySem.Spec PyProof.Rows L2
end Pk
/-! Br5f: x, y, z = a, b, [] -/
namespace Pk
open PySem PySem.Spec PyProof.Rows L2
end Pk
/-! Br5g: texts. -/
namespace Pk
open PySem PySem.Spec PyProof.Rows L2
end Pk
namespace Pk
open PySem PySem.Spec PyProof.Rows L2
def top (i : Nat) : Stmt := PySem.Challenge.pw_peakland_k26_whole_watchers.main.body.getD i (.Pass ⟨0, 0, 0, 0⟩)
structure Tx (cn : Cn) (mg : Str → Option Value) : Prop where
  e_NoLand : ErrC cn mg 0 "NoLand"
  e_TooMany : ErrC cn mg 10 "TooMany"
  b_abs : mg "abs" = none
  b_all : mg "all" = none
  b_any : mg "any" = none
  b_bool : mg "bool" = none
  b_dict : mg "dict" = none
  b_enumerate : mg "enumerate" = none
  b_int : mg "int" = none
  b_isinstance : mg "isinstance" = none
  b_len : mg "len" = none
  b_max : mg "max" = none
  b_min : mg "min" = none
  b_range : mg "range" = none
  b_tuple : mg "tuple" = none
  g_HIGH : ∃ t, mg "HIGH" = some (.int 999 t)
  g_MOST_lands : ∃ t, mg "MOST_lands" = some (.int 8 t)
  g_MOST_sight : ∃ t, mg "MOST_sight" = some (.int 12 t)
section
variable {cn : Cn} {P : Program} {w : World} {mg : Str → Option Value} {base : Heap}
theorem sc_NoCell_init : FnScope ["self", "cell"] ["self", "cell"] (defScope (clsM (top 3))) := ⟨rfl, rfl, rfl, by decide +kernel, rfl, by decide +kernel, by decide +kernel⟩
theorem sc_is_whole : FnScope ["thing", "low", "high"] ["thing", "low", "high"] (defScope (top 8)) := ⟨rfl, rfl, rfl, by decide +kernel, rfl, by decide +kernel, by decide +kernel⟩
theorem ok_is_whole {f : Addr} {fd : FuncData} (F : FunD cn.K "is_whole" "is_whole" (defArgs (top 8)) (defBody (top 8)) (defScope (top 8)) [] [] f fd) (T : Tx cn mg) :
    FnOk P w cn.K mg base (L2.CX P w) 1 f fd ["thing", "low", "high"] (spOf cn py_is_whole) :=
  fn_okF F sc_is_whole rfl rfl (show py_is_whole = fnOf 3 3 bo_is_whole from rfl) fun cdv A outer s H E c hc g => by
    subst hc
    exact (ds_one (ds_ret (de_and (de_isi g p1_isInt rfl T.b_isinstance (do_v (de_v 0 (pv 0))) rfl T.b_int (by decide +kernel)) (de_and (de_not (de_isi g p1_isBool rfl T.b_isinstance (do_v (de_v 0 (pv 0))) rfl T.b_bool (by decide +kernel))) (de_and1 (de_chain op_le p2_le op_le p2_le (de_v 1 (pv 1)) (de_v 0 (pv 0)) (de_v 2 (pv 2))))))))
theorem sc_is_line : FnScope ["thing", "long", "one"] ["thing", "long"] (defScope (top 9)) := ⟨rfl, rfl, rfl, by decide +kernel, rfl, by decide +kernel, by decide +kernel⟩
theorem ok_is_line {f : Addr} {fd : FuncData} (F : FunD cn.K "is_line" "is_line" (defArgs (top 9)) (defBody (top 9)) (defScope (top 9)) [] [] f fd) (T : Tx cn mg) (G_is_whole : FnG cn P w mg base 1 "is_whole" py_is_whole []) :
    FnOk P w cn.K mg base (L2.CX P w) 2 f fd ["thing", "long"] (spOf cn py_is_line) :=
  fn_okF F sc_is_line rfl rfl (show py_is_line = fnOf 2 3 bo_is_line from rfl) fun cdv A outer s H E c hc g => by
    subst hc
    exact (ds_cons (ds_if (dt_w (dw_or (dt_not (dt_val (de_isi g p1_isTup rfl T.b_isinstance (do_v (de_v 0 (pv 0))) rfl T.b_tuple (by decide +kernel)))) (dw_or1 (dt_cmp g.neD p2_ne (do_v (de_len g rfl T.b_len (do_v (de_v 0 (pv 0))))) (do_v (de_v 1 (pv 1))) (nomark _))))) (ds_one (ds_ret de_bool)) ds_nil)
    (ds_one (ds_ret (de_b1 g.all p1_all rfl T.b_all boot_all (do_v (de_f (df_comp (own := [("one", 2)]) g (di_any g (de_v 0 (pv 0))) (blkOk_by (by kernel_rfl)) (fun _ _ _ _ _ g => (dg_n g.nd (i := 2) rfl (.inl rfl))) (fun _ _ _ _ _ g => dts_nil) (fun _ _ _ _ _ g => (de_callG g G_is_whole (by decide) rfl rfl rfl rfl rfl (da_cons (de_v 2 (pv 2)) (da_cons de_int (da_cons (de_gi rfl rfl T.g_HIGH) da_nil))))))))))))
theorem sc_is_land : FnScope ["thing", "line"] ["thing"] (defScope (top 10)) := ⟨rfl, rfl, rfl, by decide +kernel, rfl, by decide +kernel, by decide +kernel⟩
theorem ok_is_land {f : Addr} {fd : FuncData} (F : FunD cn.K "is_land" "is_land" (defArgs (top 10)) (defBody (top 10)) (defScope (top 10)) [] [] f fd) (T : Tx cn mg) (G_is_line : FnG cn P w mg base 2 "is_line" py_is_line []) :
    FnOk P w cn.K mg base (L2.CX P w) 3 f fd ["thing"] (spOf cn py_is_land) :=
  fn_okF F sc_is_land rfl rfl (show py_is_land = fnOf 1 2 bo_is_land from rfl) fun cdv A outer s H E c hc g => by
    subst hc
    exact (ds_cons (ds_if (dt_w (dw_or (dt_not (dt_val (de_isi g p1_isTup rfl T.b_isinstance (do_v (de_v 0 (pv 0))) rfl T.b_tuple (by decide +kernel)))) (dw_or1 (dt_not (dt_chain op_le p2_le op_le p2_le de_int (de_len g rfl T.b_len (do_v (de_v 0 (pv 0)))) (de_gi rfl rfl T.g_MOST_lands)))))) (ds_one (ds_ret de_bool)) ds_nil)
    (ds_cons (ds_if (dt_w (dw_or (dt_not (dt_val (de_isi g p1_isTup rfl T.b_isinstance (do_v (de_ix g (do_v (de_v 0 (pv 0))) (do_v de_int))) rfl T.b_tuple (by decide +kernel)))) (dw_or1 (dt_not (dt_chain op_le p2_le op_le p2_le de_int (de_len g rfl T.b_len (do_v (de_ix g (do_v (de_v 0 (pv 0))) (do_v de_int)))) (de_gi rfl rfl T.g_MOST_lands)))))) (ds_one (ds_ret de_bool)) ds_nil)
    (ds_one (ds_ret (de_b1 g.all p1_all rfl T.b_all boot_all (do_v (de_f (df_comp (own := [("line", 1)]) g (di_any g (de_v 0 (pv 0))) (blkOk_by (by kernel_rfl)) (fun _ _ _ _ _ g => (dg_n g.nd (i := 1) rfl (.inl rfl))) (fun _ _ _ _ _ g => dts_nil) (fun _ _ _ _ _ g => (de_callG g G_is_line (by decide) rfl rfl rfl rfl rfl (da_cons (de_v 1 (pv 1)) (da_cons (de_len g rfl T.b_len (do_v (de_ix g (do_v (de_v 0 (pv 0))) (do_v de_int)))) da_nil))))))))))))
theorem sc_need_land : FnScope ["thing"] ["thing"] (defScope (top 11)) := ⟨rfl, rfl, rfl, by decide +kernel, rfl, by decide +kernel, by decide +kernel⟩
theorem ok_need_land {f : Addr} {fd : FuncData} (F : FunD cn.K "need_land" "need_land" (defArgs (top 11)) (defBody (top 11)) (defScope (top 11)) [] [] f fd) (T : Tx cn mg) (G_is_land : FnG cn P w mg base 3 "is_land" py_is_land []) :
    FnOk P w cn.K mg base (L2.CX P w) 4 f fd ["thing"] (spOf cn py_need_land) :=
  fn_okF F sc_need_land rfl rfl (show py_need_land = fnOf 1 1 bo_need_land from rfl) fun cdv A outer s H E c hc g => by
    subst hc
    exact (ds_one (ds_if (dt_not (dt_val (de_callG g G_is_land (by decide) rfl rfl rfl rfl rfl (da_cons (de_v 0 (pv 0)) da_nil)))) (ds_one (ds_raiseT g rfl PySem.F.excBase_ValueError T.e_NoLand rfl)) ds_nil))
theorem sc_is_cell : FnScope ["land", "thing"] ["land", "thing"] (defScope (top 12)) := ⟨rfl, rfl, rfl, by decide +kernel, rfl, by decide +kernel, by decide +kernel⟩
theorem ok_is_cell {f : Addr} {fd : FuncData} (F : FunD cn.K "is_cell" "is_cell" (defArgs (top 12)) (defBody (top 12)) (defScope (top 12)) [] [] f fd) (T : Tx cn mg) (G_is_whole : FnG cn P w mg base 1 "is_whole" py_is_whole []) :
    FnOk P w cn.K mg base (L2.CX P w) 2 f fd ["land", "thing"] (spOf cn py_is_cell) :=
  fn_okF F sc_is_cell rfl rfl (show py_is_cell = fnOf 2 2 bo_is_cell from rfl) fun cdv A outer s H E c hc g => by
    subst hc
    exact (ds_cons (ds_if (dt_w (dw_or (dt_not (dt_val (de_isi g p1_isTup rfl T.b_isinstance (do_v (de_v 1 (pv 1))) rfl T.b_tuple (by decide +kernel)))) (dw_or1 (dt_cmp g.neD p2_ne (do_v (de_len g rfl T.b_len (do_v (de_v 1 (pv 1))))) (do_v de_int) (nomark _))))) (ds_one (ds_ret de_bool)) ds_nil)
    (ds_one (ds_ret (de_and (de_callG g G_is_whole (by decide) rfl rfl rfl rfl rfl (da_cons (de_ix g (do_v (de_v 1 (pv 1))) (do_v de_int)) (da_cons de_int (da_cons (de_bin op_sub p2_sub (do_v (de_len g rfl T.b_len (do_v (de_v 0 (pv 0))))) (do_v de_int)) da_nil)))) (de_and1 (de_callG g G_is_whole (by decide) rfl rfl rfl rfl rfl (da_cons (de_ix g (do_v (de_v 1 (pv 1))) (do_v de_int)) (da_cons de_int (da_cons (de_bin op_sub p2_sub (do_v (de_len g rfl T.b_len (do_v (de_ix g (do_v (de_v 0 (pv 0))) (do_v de_int))))) (do_v de_int)) da_nil)))))))))
theorem sc_need_cell : FnScope ["land", "thing"] ["land", "thing"] (defScope (top 13)) := ⟨rfl, rfl, rfl, by decide +kernel, rfl, by decide +kernel, by decide +kernel⟩
theorem ok_need_cell {f : Addr} {fd : FuncData} (F : FunD cn.K "need_cell" "need_cell" (defArgs (top 13)) (defBody (top 13)) (defScope (top 13)) [] [] f fd) (T : Tx cn mg) (G_is_cell : FnG cn P w mg base 2 "is_cell" py_is_cell []) (I_NoCell : ErrI cn P w mg base 1 "NoCell") :
    FnOk P w cn.K mg base (L2.CX P w) 3 f fd ["land", "thing"] (spOf cn py_need_cell) :=
  fn_okF F sc_need_cell rfl rfl (show py_need_cell = fnOf 2 2 bo_need_cell from rfl) fun cdv A outer s H E c hc g => by
    subst hc
    exact (ds_one (ds_if (dt_not (dt_val (de_callG g G_is_cell (by decide) rfl rfl rfl rfl rfl (da_cons (de_v 0 (pv 0)) (da_cons (de_v 1 (pv 1)) da_nil))))) (ds_one (ds_raiseC g I_NoCell (by decide) rfl rfl rfl rfl rfl (de_v 1 (pv 1)))) ds_nil))
theorem sc_need_both : FnScope ["land", "thing"] ["land", "thing"] (defScope (top 14)) := ⟨rfl, rfl, rfl, by decide +kernel, rfl, by decide +kernel, by decide +kernel⟩
theorem ok_need_both {f : Addr} {fd : FuncData} (F : FunD cn.K "need_both" "need_both" (defArgs (top 14)) (defBody (top 14)) (defScope (top 14)) [] [] f fd) (T : Tx cn mg) (G_need_cell : FnG cn P w mg base 3 "need_cell" py_need_cell []) (G_need_land : FnG cn P w mg base 4 "need_land" py_need_land []) :
    FnOk P w cn.K mg base (L2.CX P w) 5 f fd ["land", "thing"] (spOf cn py_need_both) :=
  fn_okF F sc_need_both rfl rfl (show py_need_both = fnOf 2 2 bo_need_both from rfl) fun cdv A outer s H E c hc g => by
    subst hc
    exact (ds_cons (ds_expr (de_callG g G_need_land (by decide) rfl rfl rfl rfl rfl (da_cons (de_v 0 (pv 0)) da_nil)))
    (ds_one (ds_expr (de_callG g G_need_cell (by decide) rfl rfl rfl rfl rfl (da_cons (de_v 0 (pv 0)) (da_cons (de_v 1 (pv 1)) da_nil))))))
theorem sc_cells_of : FnScope ["land", "made", "down", "across"] ["land"] (defScope (top 15)) := ⟨rfl, rfl, rfl, by decide +kernel, rfl, by decide +kernel, by decide +kernel⟩
theorem ok_cells_of {f : Addr} {fd : FuncData} (F : FunD cn.K "cells_of" "cells_of" (defArgs (top 15)) (defBody (top 15)) (defScope (top 15)) [] [] f fd) (T : Tx cn mg) :
    FnOk P w cn.K mg base (L2.CX P w) 1 f fd ["land"] (spOf cn py_cells_of) :=
  fn_okF F sc_cells_of rfl rfl (show py_cells_of = fnOf 1 4 bo_cells_of from rfl) fun cdv A outer s H E c hc g => by
    subst hc
    exact (ds_cons (ds_setF g (i := 1) rfl (.inl rfl) (df_lst da_nil))
    (ds_cons (ds_for g (di_range1 rfl T.b_range (de_len g rfl T.b_len (do_v (de_v 0 (pv 0))))) (dg_n g.nd (i := 2) rfl (.inr rfl)) (ds_one (ds_extend (pv 1) (de_f (df_comp (own := [("across", 3)]) g (di_range1 rfl T.b_range (de_len g rfl T.b_len (do_v (de_ix g (do_v (de_v 0 (pv 0))) (do_v de_int))))) (blkOk_by (by kernel_rfl)) (fun _ _ _ _ _ g => (dg_n g.nd (i := 3) rfl (.inl rfl))) (fun _ _ _ _ _ g => dts_nil) (fun _ _ _ _ _ g => (de_tup (da_cons (de_v 2 (pv 2)) (da_cons (de_v 3 (pv 3)) da_nil)))))))))
    (ds_one (ds_ret (de_v 1 (pv 1))))))
theorem sc_at : FnScope ["land", "cell"] ["land", "cell"] (defScope (top 16)) := ⟨rfl, rfl, rfl, by decide +kernel, rfl, by decide +kernel, by decide +kernel⟩
theorem ok_at {f : Addr} {fd : FuncData} (F : FunD cn.K "at" "at" (defArgs (top 16)) (defBody (top 16)) (defScope (top 16)) [] [] f fd) (T : Tx cn mg) :
    FnOk P w cn.K mg base (L2.CX P w) 1 f fd ["land", "cell"] (spOf cn py_at) :=
  fn_okF F sc_at rfl rfl (show py_at = fnOf 2 2 bo_at from rfl) fun cdv A outer s H E c hc g => by
    subst hc
    exact (ds_one (ds_ret (de_ix g (do_v (de_ix g (do_v (de_v 0 (pv 0))) (do_v (de_ix g (do_v (de_v 1 (pv 1))) (do_v de_int))))) (do_v (de_ix g (do_v (de_v 1 (pv 1))) (do_v de_int))))))
theorem sc_common_part : FnScope ["one", "other"] ["one", "other"] (defScope (top 19)) := ⟨rfl, rfl, rfl, by decide +kernel, rfl, by decide +kernel, by decide +kernel⟩
theorem ok_common_part {f : Addr} {fd : FuncData} (F : FunD cn.K "common_part" "common_part" (defArgs (top 19)) (defBody (top 19)) (defScope (top 19)) [] [] f fd) (T : Tx cn mg) :
    FnOk P w cn.K mg base (L2.CX P w) 1 f fd ["one", "other"] (spOf cn py_common_part) :=
  fn_okF F sc_common_part rfl rfl (show py_common_part = fnOf 2 2 bo_common_part from rfl) fun cdv A outer s H E c hc g => by
    subst hc
    exact (ds_cons (ds_while g (dt_cmp g.neD p2_ne (do_v (de_v 1 (pv 1))) (do_v de_int) (nomark _)) (ds_one (ds_par g (i := 0) (j := 1) rfl rfl (by decide) rfl rfl (de_v 1 (pv 1)) (de_bin op_mod p2_mod (do_v (de_v 0 (pv 0))) (do_v (de_v 1 (pv 1)))) rfl)))
    (ds_one (ds_ret (de_v 0 (pv 0)))))
theorem sc_between_of : FnScope ["one", "other", "down", "across", "many", "k"] ["one", "other"] (defScope (top 20)) := ⟨rfl, rfl, rfl, by decide +kernel, rfl, by decide +kernel, by decide +kernel⟩
theorem ok_between_of {f : Addr} {fd : FuncData} (F : FunD cn.K "between_of" "between_of" (defArgs (top 20)) (defBody (top 20)) (defScope (top 20)) [] [] f fd) (T : Tx cn mg) (G_common_part : FnG cn P w mg base 1 "common_part" py_common_part []) :
    FnOk P w cn.K mg base (L2.CX P w) 2 f fd ["one", "other"] (spOf cn py_between_of) :=
  fn_okF F sc_between_of rfl rfl (show py_between_of = fnOf 2 6 bo_between_of from rfl) fun cdv A outer s H E c hc g => by
    subst hc
    exact (ds_cons (ds_parC g (i := 2) (j := 3) rfl rfl (by decide) (.inr rfl) (.inr rfl) (de_bin op_sub p2_sub (do_v (de_ix g (do_v (de_v 1 (pv 1))) (do_v de_int))) (do_v (de_ix g (do_v (de_v 0 (pv 0))) (do_v de_int)))) (de_bin op_sub p2_sub (do_v (de_ix g (do_v (de_v 1 (pv 1))) (do_v de_int))) (do_v (de_ix g (do_v (de_v 0 (pv 0))) (do_v de_int)))))
    (ds_cons (ds_set g (i := 4) rfl (.inr rfl) (de_callG g G_common_part (by decide) rfl rfl rfl rfl rfl (da_cons (de_b1 call_abs p1_abs rfl T.b_abs boot_abs (do_v (de_v 2 (pv 2)))) (da_cons (de_b1 call_abs p1_abs rfl T.b_abs boot_abs (do_v (de_v 3 (pv 3)))) da_nil))))
    (ds_one (ds_ret (de_f (df_comp (own := [("k", 5)]) g (di_range2 rfl T.b_range de_int (de_v 4 (pv 4))) (blkOk_by (by kernel_rfl)) (fun _ _ _ _ _ g => (dg_n g.nd (i := 5) rfl (.inl rfl))) (fun _ _ _ _ _ g => dts_nil) (fun _ _ _ _ _ g => (de_tup (da_cons (de_bin g.addA p2_add (do_v (de_ix g (do_v (de_v 0 (pv 0))) (do_v de_int))) (do_v (de_bin op_fdiv p2_fdiv (do_v (de_bin op_mul p2_mul (do_v (de_v 2 (pv 2))) (do_v (de_v 5 (pv 5))))) (do_v (de_v 4 (pv 4)))))) (da_cons (de_bin g.addA p2_add (do_v (de_ix g (do_v (de_v 0 (pv 0))) (do_v de_int))) (do_v (de_bin op_fdiv p2_fdiv (do_v (de_bin op_mul p2_mul (do_v (de_v 3 (pv 3))) (do_v (de_v 5 (pv 5))))) (do_v (de_v 4 (pv 4)))))) da_nil))))))))))
theorem sc_sees_of : FnScope ["land", "one", "other", "some", "many", "number", "cell", "line"] ["land", "one", "other"] (defScope (top 21)) := ⟨rfl, rfl, rfl, by decide +kernel, rfl, by decide +kernel, by decide +kernel⟩
theorem ok_sees_of {f : Addr} {fd : FuncData} (F : FunD cn.K "sees_of" "sees_of" (defArgs (top 21)) (defBody (top 21)) (defScope (top 21)) [] [] f fd) (T : Tx cn mg) (G_at : FnG cn P w mg base 1 "at" py_at []) (G_between_of : FnG cn P w mg base 2 "between_of" py_between_of []) :
    FnOk P w cn.K mg base (L2.CX P w) 3 f fd ["land", "one", "other"] (spOf cn py_sees_of) :=
  fn_okF F sc_sees_of rfl rfl (show py_sees_of = fnOf 3 8 bo_sees_of from rfl) fun cdv A outer s H E c hc g => by
    subst hc
    exact (ds_cons (ds_set g (i := 3) rfl (.inl rfl) (de_callG g G_between_of (by decide) rfl rfl rfl rfl rfl (da_cons (de_v 1 (pv 1)) (da_cons (de_v 2 (pv 2)) da_nil))))
    (ds_cons (ds_set g (i := 4) rfl (.inl rfl) (de_bin g.addA p2_add (do_v (de_len g rfl T.b_len (do_v (de_v 3 (pv 3))))) (do_v de_int)))
    (ds_cons (ds_for g (di_enumA rfl T.b_enumerate (de_v 3 (pv 3))) (dg_t g (dgs_cons (dg_n g.nd (i := 5) rfl (.inl rfl)) (dgs_cons (dg_n g.nd (i := 6) rfl (.inl rfl)) dgs_nil))) (ds_cons (ds_set g (i := 7) rfl (.inl rfl) (de_bin g.addA p2_add (do_v (de_bin op_mul p2_mul (do_v (de_callG g G_at (by decide) rfl rfl rfl rfl rfl (da_cons (de_v 0 (pv 0)) (da_cons (de_v 1 (pv 1)) da_nil)))) (do_v (de_bin op_sub p2_sub (do_v (de_bin op_sub p2_sub (do_v (de_v 4 (pv 4))) (do_v (de_v 5 (pv 5))))) (do_v de_int))))) (do_v (de_bin op_mul p2_mul (do_v (de_callG g G_at (by decide) rfl rfl rfl rfl rfl (da_cons (de_v 0 (pv 0)) (da_cons (de_v 2 (pv 2)) da_nil)))) (do_v (de_bin g.addA p2_add (do_v (de_v 5 (pv 5))) (do_v de_int)))))))
    (ds_one (ds_if (dt_cmp op_ge p2_ge (do_v (de_bin op_mul p2_mul (do_v (de_callG g G_at (by decide) rfl rfl rfl rfl rfl (da_cons (de_v 0 (pv 0)) (da_cons (de_v 6 (pv 6)) da_nil)))) (do_v (de_v 4 (pv 4))))) (do_v (de_v 7 (pv 7))) (nomark _)) (ds_one (ds_ret de_bool)) ds_nil))))
    (ds_one (ds_ret de_bool)))))
theorem sc_seen_of : FnScope ["land", "cell", "other"] ["land", "cell"] (defScope (top 22)) := ⟨rfl, rfl, rfl, by decide +kernel, rfl, by decide +kernel, by decide +kernel⟩
theorem ok_seen_of {f : Addr} {fd : FuncData} (F : FunD cn.K "seen_of" "seen_of" (defArgs (top 22)) (defBody (top 22)) (defScope (top 22)) [] [] f fd) (T : Tx cn mg) (G_cells_of : FnG cn P w mg base 1 "cells_of" py_cells_of []) (G_sees_of : FnG cn P w mg base 3 "sees_of" py_sees_of []) :
    FnOk P w cn.K mg base (L2.CX P w) 4 f fd ["land", "cell"] (spOf cn py_seen_of) :=
  fn_okF F sc_seen_of rfl rfl (show py_seen_of = fnOf 2 3 bo_seen_of from rfl) fun cdv A outer s H E c hc g => by
    subst hc
    exact (ds_one (ds_ret (de_f (df_comp (own := [("other", 2)]) g (di_any g (de_callG g G_cells_of (by decide) rfl rfl rfl rfl rfl (da_cons (de_v 0 (pv 0)) da_nil))) (blkOk_by (by kernel_rfl)) (fun _ _ _ _ _ g => (dg_n g.nd (i := 2) rfl (.inl rfl))) (fun _ _ _ _ _ g => (dts_one (dt_val (de_callG g G_sees_of (by decide) rfl rfl rfl rfl rfl (da_cons (de_v 0 (pv 0)) (da_cons (de_v 1 (pv 1)) (da_cons (de_v 2 (pv 2)) da_nil))))))) (fun _ _ _ _ _ g => (de_v 2 (pv 2)))))))
theorem sc_seen : FnScope ["land", "cell"] ["land", "cell"] (defScope (top 23)) := ⟨rfl, rfl, rfl, by decide +kernel, rfl, by decide +kernel, by decide +kernel⟩
theorem ok_seen {f : Addr} {fd : FuncData} (F : FunD cn.K "seen" "seen" (defArgs (top 23)) (defBody (top 23)) (defScope (top 23)) [] [] f fd) (T : Tx cn mg) (G_need_both : FnG cn P w mg base 5 "need_both" py_need_both []) (G_seen_of : FnG cn P w mg base 4 "seen_of" py_seen_of []) :
    FnOk P w cn.K mg base (L2.CX P w) 6 f fd ["land", "cell"] (spOf cn py_seen) :=
  fn_okF F sc_seen rfl rfl (show py_seen = fnOf 2 2 bo_seen from rfl) fun cdv A outer s H E c hc g => by
    subst hc
    exact (ds_cons (ds_expr (de_callG g G_need_both (by decide) rfl rfl rfl rfl rfl (da_cons (de_v 0 (pv 0)) (da_cons (de_v 1 (pv 1)) da_nil))))
    (ds_one (ds_ret (de_callG g G_seen_of (by decide) rfl rfl rfl rfl rfl (da_cons (de_v 0 (pv 0)) (da_cons (de_v 1 (pv 1)) da_nil))))))
theorem sc_choices : FnScope ["some", "many", "made", "number", "one", "rest"] ["some", "many"] (defScope (top 24)) := ⟨rfl, rfl, rfl, by decide +kernel, rfl, by decide +kernel, by decide +kernel⟩
theorem okz_choices {f : Addr} {fd : FuncData} (F : FunD cn.K "choices" "choices" (defArgs (top 24)) (defBody (top 24)) (defScope (top 24)) [] [] f fd) (T : Tx cn mg) :
    FnOk P w cn.K mg base (L2.CX P w) 1 f fd ["some", "many"] (spOf cn (py_choices 0)) :=
  fn_okF (k := 0) F sc_choices rfl rfl (show py_choices 0 = fnOf 2 6 (sSeq sNever (sSeq sNever (sSeq sNever sNever))) from rfl) fun cdv A outer s H E c hc g => by
    subst hc
    exact (ds_cons ds_never (ds_cons ds_never (ds_cons ds_never (ds_one ds_never))))
theorem ok_choices {f : Addr} {fd : FuncData} (F : FunD cn.K "choices" "choices" (defArgs (top 24)) (defBody (top 24)) (defScope (top 24)) [] [] f fd) (T : Tx cn mg) {j : Nat} (G_rec : FnG cn P w mg base (j + 1) "choices" (py_choices j) []) :
    FnOk P w cn.K mg base (L2.CX P w) (j + 2) f fd ["some", "many"] (spOf cn (py_choices (j + 1))) :=
  fn_okF (k := j + 1) F sc_choices rfl rfl (show py_choices (j + 1) = fnOf 2 6 (bo_choices (py_choices j)) from rfl) fun cdv A outer s H E c hc g => by
    subst hc
    exact (ds_cons (ds_if (dt_cmp g.eqD p2_eq (do_v (de_v 1 (pv 1))) (do_v de_int) (nomark _)) (ds_one (ds_ret (de_f (df_lst (da_cons (de_f (df_lst da_nil)) da_nil))))) ds_nil)
    (ds_cons (ds_setF g (i := 2) rfl (.inl rfl) (df_lst da_nil))
    (ds_cons (ds_for g (di_enumA rfl T.b_enumerate (de_v 0 (pv 0))) (dg_t g (dgs_cons (dg_n g.nd (i := 3) rfl (.inl rfl)) (dgs_cons (dg_n g.nd (i := 4) rfl (.inr rfl)) dgs_nil))) (ds_one (ds_extend (pv 2) (de_f (df_comp (own := [("rest", 5)]) g (di_any g (de_callG g G_rec (Nat.le_refl _) rfl rfl rfl rfl rfl (da_cons (de_cut g (do_v (de_v 0 (pv 0))) (dp_some (de_bin g.addA p2_add (do_v (de_v 3 (pv 3))) (do_v de_int))) dp_none) (da_cons (de_bin op_sub p2_sub (do_v (de_v 1 (pv 1))) (do_v de_int)) da_nil)))) (blkOk_by (by kernel_rfl)) (fun _ _ _ _ _ g => (dg_n g.nd (i := 5) rfl (.inl rfl))) (fun _ _ _ _ _ g => dts_nil) (fun _ _ _ _ _ g => (de_bin g.addA p2_add (do_v (de_f (df_lst (da_cons (de_v 4 (pv 4)) da_nil)))) (do_v (de_v 5 (pv 5))))))))))
    (ds_one (ds_ret (de_v 2 (pv 2)))))))
theorem sc_watchers : FnScope ["land", "cells", "views", "many", "some", "cell", "one"] ["land"] (defScope (top 25)) := ⟨rfl, rfl, rfl, by decide +kernel, rfl, by decide +kernel, by decide +kernel⟩
theorem ok_watchers {f : Addr} {fd : FuncData} (F : FunD cn.K "watchers" "watchers" (defArgs (top 25)) (defBody (top 25)) (defScope (top 25)) [] [] f fd) (T : Tx cn mg) (G_cells_of : FnG cn P w mg base 1 "cells_of" py_cells_of []) (G_choices : FnG cn P w mg base 14 "choices" (py_choices 13) []) (G_need_land : FnG cn P w mg base 4 "need_land" py_need_land []) (G_seen_of : FnG cn P w mg base 4 "seen_of" py_seen_of []) :
    FnOk P w cn.K mg base (L2.CX P w) 15 f fd ["land"] (spOf cn py_watchers) :=
  fn_okF F sc_watchers rfl rfl (show py_watchers = fnOf 1 7 bo_watchers from rfl) fun cdv A outer s H E c hc g => by
    subst hc
    exact (ds_cons (ds_expr (de_callG g G_need_land (by decide) rfl rfl rfl rfl rfl (da_cons (de_v 0 (pv 0)) da_nil)))
    (ds_cons (ds_set g (i := 1) rfl (.inl rfl) (de_callG g G_cells_of (by decide) rfl rfl rfl rfl rfl (da_cons (de_v 0 (pv 0)) da_nil)))
    (ds_cons (ds_if (dt_cmp op_gt p2_gt (do_v (de_len g rfl T.b_len (do_v (de_v 1 (pv 1))))) (do_v (de_gi rfl rfl T.g_MOST_sight)) (nomark _)) (ds_one (ds_raiseT g rfl PySem.F.excBase_ValueError T.e_TooMany rfl)) ds_nil)
    (ds_cons (ds_set g (i := 2) rfl (.inr rfl) (de_f (de_ty1 g.dictT p1_dict rfl T.b_dict PyProof.Rows.boot_dict (do_v (de_f (df_comp (own := [("cell", 5)]) g (di_any g (de_v 1 (pv 1))) (blkOk_by (by kernel_rfl)) (fun _ _ _ _ _ g => (dg_n g.nd (i := 5) rfl (.inl rfl))) (fun _ _ _ _ _ g => dts_nil) (fun _ _ _ _ _ g => (de_tup (da_cons (de_v 5 (pv 5)) (da_cons (de_callG g G_seen_of (by decide) rfl rfl rfl rfl rfl (da_cons (de_v 0 (pv 0)) (da_cons (de_v 5 (pv 5)) da_nil))) da_nil))))))))))
    (ds_cons (ds_for g (di_range2 rfl T.b_range de_int (de_len g rfl T.b_len (do_v (de_v 1 (pv 1))))) (dg_n g.nd (i := 3) rfl (.inl rfl)) (ds_one (ds_for g (di_any g (de_callG g G_choices (by decide) rfl rfl rfl rfl rfl (da_cons (de_v 1 (pv 1)) (da_cons (de_v 3 (pv 3)) da_nil)))) (dg_n g.nd (i := 4) rfl (.inr rfl)) (ds_one (ds_if (dt_val (de_b1 g.all p1_all rfl T.b_all boot_all (do_v (de_f (df_comp (own := [("cell", 5)]) g (di_any g (de_v 1 (pv 1))) (blkOk_by (by kernel_rfl)) (fun _ _ _ _ _ g => (dg_n g.nd (i := 5) rfl (.inr rfl))) (fun _ _ _ _ _ g => dts_nil) (fun _ _ _ _ _ g => (de_b1 g.any p1_any rfl T.b_any boot_any (do_v (de_f (df_comp (own := [("one", 6)]) g (di_any g (de_v 4 (pv 4))) (blkOk_by (by kernel_rfl)) (fun _ _ _ _ _ g => (dg_n g.nd (i := 6) rfl (.inl rfl))) (fun _ _ _ _ _ g => dts_nil) (fun _ _ _ _ _ g => (de_cmp g.inD p2_in (do_v (de_v 5 (pv 5))) (do_v (de_ixD g (do_v (de_v 2 (pv 2))) (do_v (de_v 6 (pv 6))))) (by with_unfolding_all rfl))))))))))))) (ds_one (ds_ret (de_v 4 (pv 4)))) ds_nil)))))
    (ds_one (ds_ret (de_v 1 (pv 1)))))))))
theorem sc_law_cell_at : FnScope ["script", "k", "rest", "turn"] ["script", "k"] (defScope (top 27)) := ⟨rfl, rfl, rfl, by decide +kernel, rfl, by decide +kernel, by decide +kernel⟩
theorem ok_law_cell_at {f : Addr} {fd : FuncData} (F : FunD cn.K "_law_cell_at" "_law_cell_at" (defArgs (top 27)) (defBody (top 27)) (defScope (top 27)) [] [] f fd) (T : Tx cn mg) :
    FnOk P w cn.K mg base (L2.CX P w) 1 f fd ["script", "k"] (spOf cn py_law_cell_at) :=
  fn_okF F sc_law_cell_at rfl rfl (show py_law_cell_at = fnOf 2 4 bo_law_cell_at from rfl) fun cdv A outer s H E c hc g => by
    subst hc
    exact (ds_cons (ds_if (dt_cmp op_lt p2_lt (do_v (de_v 1 (pv 1))) (do_v (de_len g rfl T.b_len (do_v (de_v 0 (pv 0))))) (nomark _)) (ds_one (ds_ret (de_ix g (do_v (de_v 0 (pv 0))) (do_v (de_v 1 (pv 1)))))) ds_nil)
    (ds_cons (ds_if (dt_scr0 g (do_v (de_v 0 (pv 0)))) (ds_one (ds_ret de_int)) ds_nil)
    (ds_cons (ds_set g (i := 2) rfl (.inl rfl) (de_ix g (do_v (de_v 0 (pv 0))) (do_v (de_bin op_mod p2_mod (do_v (de_v 1 (pv 1))) (do_v (de_len g rfl T.b_len (do_v (de_v 0 (pv 0)))))))))
    (ds_cons (ds_for g (di_range1 rfl T.b_range (de_b2 (call_min2 g.calm) p2_min2 rfl T.b_min boot_min (do_v (de_bin op_fdiv p2_fdiv (do_v (de_v 1 (pv 1))) (do_v (de_len g rfl T.b_len (do_v (de_v 0 (pv 0))))))) (do_v de_int))) (dg_n g.nd (i := 3) rfl (.inl rfl)) (ds_one (ds_set g (i := 2) rfl (.inl rfl) (de_bin op_fdiv p2_fdiv (do_v (de_v 2 (pv 2))) (do_v de_int)))))
    (ds_one (ds_ret (de_bin g.addA p2_add (do_v (de_bin g.addA p2_add (do_v (de_bin op_mul p2_mul (do_v (de_ix g (do_v (de_v 0 (pv 0))) (do_v (de_bin op_mod p2_mod (do_v (de_v 1 (pv 1))) (do_v (de_len g rfl T.b_len (do_v (de_v 0 (pv 0))))))))) (do_v de_int))) (do_v (de_v 1 (pv 1))))) (do_v (de_bin op_mul p2_mul (do_v (de_v 2 (pv 2))) (do_v de_int))))))))))
theorem sc_law_mixed : FnScope ["script", "k", "bound", "drawn"] ["script", "k", "bound"] (defScope (top 28)) := ⟨rfl, rfl, rfl, by decide +kernel, rfl, by decide +kernel, by decide +kernel⟩
theorem ok_law_mixed {f : Addr} {fd : FuncData} (F : FunD cn.K "_law_mixed" "_law_mixed" (defArgs (top 28)) (defBody (top 28)) (defScope (top 28)) [] [] f fd) (T : Tx cn mg) (G_law_cell_at : FnG cn P w mg base 1 "_law_cell_at" py_law_cell_at []) :
    FnOk P w cn.K mg base (L2.CX P w) 2 f fd ["script", "k", "bound"] (spOf cn py_law_mixed) :=
  fn_okF F sc_law_mixed rfl rfl (show py_law_mixed = fnOf 3 4 bo_law_mixed from rfl) fun cdv A outer s H E c hc g => by
    subst hc
    exact (ds_cons (ds_set g (i := 3) rfl (.inl rfl) (de_bin op_mod p2_mod (do_v (de_bin g.addA p2_add (do_v (de_bin g.addA p2_add (do_v (de_bin op_mul p2_mul (do_v (de_callG g G_law_cell_at (by decide) rfl rfl rfl rfl rfl (da_cons (de_v 0 (pv 0)) (da_cons (de_v 1 (pv 1)) da_nil)))) (do_v de_int))) (do_v (de_bin op_mul p2_mul (do_v de_int) (do_v (de_v 1 (pv 1))))))) (do_v de_int))) (do_v de_int)))
    (ds_one (ds_ret (de_bin op_mod p2_mod (do_v (de_bin op_mod p2_mod (do_v (de_bin op_mod p2_mod (do_v (de_bin op_pow p2_pow (do_v (de_v 3 (pv 3))) (do_v de_int))) (do_v de_int))) (do_v de_int))) (do_v (de_v 2 (pv 2)))))))
theorem sc_law_draw : FnScope ["script", "town", "bound"] ["script", "town", "bound"] (defScope (top 29)) := ⟨rfl, rfl, rfl, by decide +kernel, rfl, by decide +kernel, by decide +kernel⟩
theorem ok_law_draw {f : Addr} {fd : FuncData} (F : FunD cn.K "_law_draw" "_law_draw" (defArgs (top 29)) (defBody (top 29)) (defScope (top 29)) [] [] f fd) (T : Tx cn mg) (G_law_mixed : FnG cn P w mg base 2 "_law_mixed" py_law_mixed []) :
    FnOk P w cn.K mg base (L2.CX P w) 3 f fd ["script", "town", "bound"] (spOf cn py_law_draw) :=
  fn_okF F sc_law_draw rfl rfl (show py_law_draw = fnOf 3 3 bo_law_draw from rfl) fun cdv A outer s H E c hc g => by
    subst hc
    exact (ds_cons (ds_town (pv 1))
    (ds_one (ds_ret (de_callG g G_law_mixed (by decide) rfl rfl rfl rfl rfl (da_cons (de_v 0 (pv 0)) (da_cons (de_len g rfl T.b_len (do_v (de_v 1 (pv 1)))) (da_cons (de_v 2 (pv 2)) da_nil)))))))
theorem sc_law_pick : FnScope ["script", "town", "some"] ["script", "town", "some"] (defScope (top 30)) := ⟨rfl, rfl, rfl, by decide +kernel, rfl, by decide +kernel, by decide +kernel⟩
theorem ok_law_pick {f : Addr} {fd : FuncData} (F : FunD cn.K "_law_pick" "_law_pick" (defArgs (top 30)) (defBody (top 30)) (defScope (top 30)) [] [] f fd) (T : Tx cn mg) (G_law_draw : FnG cn P w mg base 3 "_law_draw" py_law_draw []) :
    FnOk P w cn.K mg base (L2.CX P w) 4 f fd ["script", "town", "some"] (spOf cn py_law_pick) :=
  fn_okF F sc_law_pick rfl rfl (show py_law_pick = fnOf 3 3 bo_law_pick from rfl) fun cdv A outer s H E c hc g => by
    subst hc
    exact (ds_one (ds_ret (de_ix g (do_v (de_v 2 (pv 2))) (do_v (de_callG g G_law_draw (by decide) rfl rfl rfl rfl rfl (da_cons (de_v 0 (pv 0)) (da_cons (de_v 1 (pv 1)) (da_cons (de_len g rfl T.b_len (do_v (de_v 2 (pv 2)))) da_nil))))))))
theorem sc_law_cells : FnScope ["land", "made", "down", "across"] ["land"] (defScope (top 31)) := ⟨rfl, rfl, rfl, by decide +kernel, rfl, by decide +kernel, by decide +kernel⟩
theorem ok_law_cells {f : Addr} {fd : FuncData} (F : FunD cn.K "_law_cells" "_law_cells" (defArgs (top 31)) (defBody (top 31)) (defScope (top 31)) [] [] f fd) (T : Tx cn mg) :
    FnOk P w cn.K mg base (L2.CX P w) 1 f fd ["land"] (spOf cn py_law_cells) :=
  fn_okF F sc_law_cells rfl rfl (show py_law_cells = fnOf 1 4 bo_law_cells from rfl) fun cdv A outer s H E c hc g => by
    subst hc
    exact (ds_cons (ds_setF g (i := 1) rfl (.inl rfl) (df_lst da_nil))
    (ds_cons (ds_for g (di_range1 rfl T.b_range (de_len g rfl T.b_len (do_v (de_v 0 (pv 0))))) (dg_n g.nd (i := 2) rfl (.inr rfl)) (ds_one (ds_extend (pv 1) (de_f (df_comp (own := [("across", 3)]) g (di_range1 rfl T.b_range (de_len g rfl T.b_len (do_v (de_ix g (do_v (de_v 0 (pv 0))) (do_v de_int))))) (blkOk_by (by kernel_rfl)) (fun _ _ _ _ _ g => (dg_n g.nd (i := 3) rfl (.inl rfl))) (fun _ _ _ _ _ g => dts_nil) (fun _ _ _ _ _ g => (de_tup (da_cons (de_v 2 (pv 2)) (da_cons (de_v 3 (pv 3)) da_nil)))))))))
    (ds_one (ds_ret (de_v 1 (pv 1))))))
theorem sc_law_lists : FnScope ["many", "long", "made", "rest", "k"] ["many", "long"] (defScope (top 32)) := ⟨rfl, rfl, rfl, by decide +kernel, rfl, by decide +kernel, by decide +kernel⟩
theorem okz_law_lists {f : Addr} {fd : FuncData} (F : FunD cn.K "_law_lists" "_law_lists" (defArgs (top 32)) (defBody (top 32)) (defScope (top 32)) [] [] f fd) (T : Tx cn mg) :
    FnOk P w cn.K mg base (L2.CX P w) 1 f fd ["many", "long"] (spOf cn (py_law_lists 0)) :=
  fn_okF (k := 0) F sc_law_lists rfl rfl (show py_law_lists 0 = fnOf 2 5 (sSeq sNever (sSeq sNever (sSeq sNever sNever))) from rfl) fun cdv A outer s H E c hc g => by
    subst hc
    exact (ds_cons ds_never (ds_cons ds_never (ds_cons ds_never (ds_one ds_never))))
theorem ok_law_lists {f : Addr} {fd : FuncData} (F : FunD cn.K "_law_lists" "_law_lists" (defArgs (top 32)) (defBody (top 32)) (defScope (top 32)) [] [] f fd) (T : Tx cn mg) {j : Nat} (G_rec : FnG cn P w mg base (j + 1) "_law_lists" (py_law_lists j) []) :
    FnOk P w cn.K mg base (L2.CX P w) (j + 2) f fd ["many", "long"] (spOf cn (py_law_lists (j + 1))) :=
  fn_okF (k := j + 1) F sc_law_lists rfl rfl (show py_law_lists (j + 1) = fnOf 2 5 (bo_law_lists (py_law_lists j)) from rfl) fun cdv A outer s H E c hc g => by
    subst hc
    exact (ds_cons (ds_if (dt_cmp g.eqD p2_eq (do_v (de_v 1 (pv 1))) (do_v de_int) (nomark _)) (ds_one (ds_ret (de_f (df_lst (da_cons (de_f (df_lst da_nil)) da_nil))))) ds_nil)
    (ds_cons (ds_setF g (i := 2) rfl (.inl rfl) (df_lst da_nil))
    (ds_cons (ds_for g (di_any g (de_callG g G_rec (Nat.le_refl _) rfl rfl rfl rfl rfl (da_cons (de_v 0 (pv 0)) (da_cons (de_bin op_sub p2_sub (do_v (de_v 1 (pv 1))) (do_v de_int)) da_nil)))) (dg_n g.nd (i := 3) rfl (.inr rfl)) (ds_one (ds_extend (pv 2) (de_f (df_comp (own := [("k", 4)]) g (di_range2 rfl T.b_range (de_bin g.addA p2_add (do_v (de_ix g (do_v (de_bin g.addA p2_add (do_v (de_v 3 (pv 3))) (do_v (de_f (df_lst (da_cons (de_un un_neg p1_neg (do_v de_int)) da_nil)))))) (do_v (de_b2 (call_max2 g.calm) p2_max2 rfl T.b_max boot_max (do_v de_int) (do_v (de_bin op_sub p2_sub (do_v (de_len g rfl T.b_len (do_v (de_v 3 (pv 3))))) (do_v de_int))))))) (do_v de_int)) (de_v 0 (pv 0))) (blkOk_by (by kernel_rfl)) (fun _ _ _ _ _ g => (dg_n g.nd (i := 4) rfl (.inl rfl))) (fun _ _ _ _ _ g => dts_nil) (fun _ _ _ _ _ g => (de_bin g.addA p2_add (do_v (de_v 3 (pv 3))) (do_v (de_f (df_lst (da_cons (de_v 4 (pv 4)) da_nil)))))))))))
    (ds_one (ds_ret (de_v 2 (pv 2)))))))
theorem sc_law : FnScope ["script", "town", "tall", "wide", "high", "land", "cells", "views", "best", "long", "some", "unseen", "told", "one", "rest", "turn", "k", "spot", "other"] ["script"] (defScope (top 33)) := ⟨rfl, rfl, rfl, by decide +kernel, rfl, by decide +kernel, by decide +kernel⟩
theorem ok_law {f : Addr} {fd : FuncData} (F : FunD cn.K "law" "law" (defArgs (top 33)) (defBody (top 33)) (defScope (top 33)) [] [] f fd) (T : Tx cn mg) (G_law_cells : FnG cn P w mg base 1 "_law_cells" py_law_cells []) (G_law_draw : FnG cn P w mg base 3 "_law_draw" py_law_draw []) (G_law_lists : FnG cn P w mg base 14 "_law_lists" (py_law_lists 13) []) (G_law_pick : FnG cn P w mg base 4 "_law_pick" py_law_pick []) (G_seen : FnG cn P w mg base 6 "seen" py_seen []) (G_watchers : FnG cn P w mg base 15 "watchers" py_watchers []) :
    FnOk P w cn.K mg base (L2.CX P w) 16 f fd ["script"] (spOf cn py_law) :=
  fn_okF F sc_law rfl rfl (show py_law = fnOf 1 19 bo_law from rfl) fun cdv A outer s H E c hc g => by
    subst hc
    exact (ds_cons (ds_town0 g (i := 1) rfl (.inr rfl))
    (ds_cons (ds_asg (dg_t g (dgs_cons (dg_n g.nd (i := 2) rfl (.inl rfl)) (dgs_cons (dg_n g.nd (i := 3) rfl (.inr rfl)) dgs_nil))) (de_callG g G_law_pick (by decide) rfl rfl rfl rfl rfl (da_cons (de_v 0 (pv 0)) (da_cons (de_v 1 (pv 1)) (da_cons (de_f (df_lst (da_cons (de_tup (da_cons de_int (da_cons de_int da_nil))) (da_cons (de_tup (da_cons de_int (da_cons de_int da_nil))) (da_cons (de_tup (da_cons de_int (da_cons de_int da_nil))) (da_cons (de_tup (da_cons de_int (da_cons de_int da_nil))) (da_cons (de_tup (da_cons de_int (da_cons de_int da_nil))) (da_cons (de_tup (da_cons de_int (da_cons de_int da_nil))) (da_cons (de_tup (da_cons de_int (da_cons de_int da_nil))) (da_cons (de_tup (da_cons de_int (da_cons de_int da_nil))) da_nil)))))))))) da_nil)))))
    (ds_cons (ds_set g (i := 4) rfl (.inr rfl) (de_callG g G_law_pick (by decide) rfl rfl rfl rfl rfl (da_cons (de_v 0 (pv 0)) (da_cons (de_v 1 (pv 1)) (da_cons (de_f (df_lst (da_cons de_int (da_cons de_int (da_cons de_int (da_cons de_int da_nil)))))) da_nil)))))
    (ds_cons (ds_set g (i := 5) rfl (.inr rfl) (de_ty1 g.tuple p1_tuple rfl T.b_tuple PyProof.Rows.boot_tuple (do_v (de_f (df_comp (own := [("turn", 15)]) g (di_range1 rfl T.b_range (de_v 2 (pv 2))) (blkOk_by (by kernel_rfl)) (fun _ _ _ _ _ g => (dg_n g.nd (i := 15) rfl (.inl rfl))) (fun _ _ _ _ _ g => dts_nil) (fun _ _ _ _ _ g => (de_ty1 g.tuple p1_tuple rfl T.b_tuple PyProof.Rows.boot_tuple (do_v (de_f (df_comp (own := [("k", 16)]) g (di_range1 rfl T.b_range (de_v 3 (pv 3))) (blkOk_by (by kernel_rfl)) (fun _ _ _ _ _ g => (dg_n g.nd (i := 16) rfl (.inl rfl))) (fun _ _ _ _ _ g => dts_nil) (fun _ _ _ _ _ g => (de_callG g G_law_draw (by decide) rfl rfl rfl rfl rfl (da_cons (de_v 0 (pv 0)) (da_cons (de_v 1 (pv 1)) (da_cons (de_v 4 (pv 4)) da_nil)))))))))))))))
    (ds_cons (ds_set g (i := 6) rfl (.inr rfl) (de_callG g G_law_cells (by decide) rfl rfl rfl rfl rfl (da_cons (de_v 5 (pv 5)) da_nil)))
    (ds_cons (ds_set g (i := 7) rfl (.inr rfl) (de_f (df_comp (own := [("one", 13)]) g (di_any g (de_v 6 (pv 6))) (blkOk_by (by kernel_rfl)) (fun _ _ _ _ _ g => (dg_n g.nd (i := 13) rfl (.inl rfl))) (fun _ _ _ _ _ g => dts_nil) (fun _ _ _ _ _ g => (de_f (df_comp (own := [("spot", 17)]) g (di_any g (de_callG g G_seen (by decide) rfl rfl rfl rfl rfl (da_cons (de_v 5 (pv 5)) (da_cons (de_v 13 (pv 13)) da_nil)))) (blkOk_by (by kernel_rfl)) (fun _ _ _ _ _ g => (dg_n g.nd (i := 17) rfl (.inl rfl))) (fun _ _ _ _ _ g => dts_nil) (fun _ _ _ _ _ g => (de_index g (pv 6) (de_v 17 (pv 17))))))))))
    (ds_cons (ds_set g (i := 8) rfl (.inl rfl) (de_f (df_lst da_nil)))
    (ds_cons (ds_for g (di_range2 rfl T.b_range de_int (de_bin g.addA p2_add (do_v (de_len g rfl T.b_len (do_v (de_v 6 (pv 6))))) (do_v de_int))) (dg_n g.nd (i := 9) rfl (.inl rfl)) (ds_cons (ds_for g (di_any g (de_callG g G_law_lists (by decide) rfl rfl rfl rfl rfl (da_cons (de_len g rfl T.b_len (do_v (de_v 6 (pv 6)))) (da_cons (de_v 9 (pv 9)) da_nil)))) (dg_n g.nd (i := 10) rfl (.inr rfl)) (ds_one (ds_if (dt_cmp g.eqD p2_eq (do_v (de_v 8 (pv 8))) (do_v (de_f (df_lst da_nil))) (nomark _)) (ds_cons (ds_setLc (i := 11) (own := [("k", 16)]) g rfl rfl (di_range1 rfl T.b_range (de_len g rfl T.b_len (do_v (de_v 6 (pv 6))))) (blkOk_by (by kernel_rfl)) (fun _ _ _ _ _ g => (dg_n g.nd (i := 16) rfl (.inr rfl))) (fun _ _ _ _ _ g => (dts_one (dt_cmp g.eqD p2_eq (do_v (de_f (df_comp (own := [("one", 13)]) g (di_any g (de_v 10 (pv 10))) (blkOk_by (by kernel_rfl)) (fun _ _ _ _ _ g => (dg_n g.nd (i := 13) rfl (.inl rfl))) (fun _ _ _ _ _ g => (dts_one (dt_cmp g.inD p2_in (do_v (de_v 16 (pv 16))) (do_v (de_ix g (do_v (de_v 7 (pv 7))) (do_v (de_v 13 (pv 13))))) (by with_unfolding_all rfl)))) (fun _ _ _ _ _ g => de_int)))) (do_v (de_f (df_lst da_nil))) (nomark _)))) (fun _ _ _ _ _ g => (de_v 16 (pv 16))) (sw_true rfl rfl rfl (by decide +kernel)))
    (ds_one (ds_set g (i := 8) rfl (.inl rfl) (de_ite (dt_cmp g.eqD p2_eq (do_v (de_v 11 (pv 11))) (do_v (de_f (df_lst da_nil))) (nomark _)) (de_v 10 (pv 10)) (de_f (df_lst da_nil)))))) ds_nil)))
    (ds_one (ds_if (dt_cmp g.neD p2_ne (do_v (de_v 8 (pv 8))) (do_v (de_f (df_lst da_nil))) (nomark _)) (ds_one ds_brk) ds_nil))))
    (ds_cons (ds_set g (i := 12) rfl (.inl rfl) (de_callG g G_watchers (by decide) rfl rfl rfl rfl rfl (da_cons (de_v 5 (pv 5)) da_nil)))
    (ds_cons (ds_if (dt_cmp g.neD p2_ne (do_v (de_v 12 (pv 12))) (do_v (de_f (df_comp (own := [("k", 16)]) g (di_any g (de_v 8 (pv 8))) (blkOk_by (by kernel_rfl)) (fun _ _ _ _ _ g => (dg_n g.nd (i := 16) rfl (.inl rfl))) (fun _ _ _ _ _ g => dts_nil) (fun _ _ _ _ _ g => (de_ix g (do_v (de_v 6 (pv 6))) (do_v (de_v 16 (pv 16)))))))) (nomark _)) (ds_one (ds_ret de_bool)) ds_nil)
    (ds_cons (ds_for g (di_any g (de_v 12 (pv 12))) (dg_n g.nd (i := 13) rfl (.inr rfl)) (ds_cons (ds_set g (i := 14) rfl (.inr rfl) (de_f (df_comp (own := [("other", 18)]) g (di_any g (de_v 12 (pv 12))) (blkOk_by (by kernel_rfl)) (fun _ _ _ _ _ g => (dg_n g.nd (i := 18) rfl (.inl rfl))) (fun _ _ _ _ _ g => (dts_one (dt_cmp g.neD p2_ne (do_v (de_v 18 (pv 18))) (do_v (de_v 13 (pv 13))) (nomark _)))) (fun _ _ _ _ _ g => (de_v 18 (pv 18))))))
    (ds_one (ds_if (dt_cmp g.eqD p2_eq (do_v (de_f (df_comp (own := [("spot", 17)]) g (di_any g (de_v 6 (pv 6))) (blkOk_by (by kernel_rfl)) (fun _ _ _ _ _ g => (dg_n g.nd (i := 17) rfl (.inr rfl))) (fun _ _ _ _ _ g => (dts_one (dt_cmp g.eqD p2_eq (do_v (de_f (df_comp (own := [("other", 18)]) g (di_any g (de_v 14 (pv 14))) (blkOk_by (by kernel_rfl)) (fun _ _ _ _ _ g => (dg_n g.nd (i := 18) rfl (.inl rfl))) (fun _ _ _ _ _ g => (dts_one (dt_cmp g.inD p2_in (do_v (de_v 17 (pv 17))) (do_v (de_callG g G_seen (by decide) rfl rfl rfl rfl rfl (da_cons (de_v 5 (pv 5)) (da_cons (de_v 18 (pv 18)) da_nil)))) (by with_unfolding_all rfl)))) (fun _ _ _ _ _ g => (de_v 18 (pv 18)))))) (do_v (de_f (df_lst da_nil))) (nomark _)))) (fun _ _ _ _ _ g => (de_v 17 (pv 17)))))) (do_v (de_f (df_lst da_nil))) (nomark _)) (ds_one (ds_ret de_bool)) ds_nil))))
    (ds_one (ds_ret de_bool)))))))))))))
end
end Pk
namespace Pk
open PySem PySem.Spec PyProof.Rows L2
def hd_is_whole : He.DefD := ⟨("is_whole", none), "is_whole", "is_whole", defArgs (top 8), defBody (top 8), defScope (top 8), [], []⟩
def hd_is_line : He.DefD := ⟨("is_line", none), "is_line", "is_line", defArgs (top 9), defBody (top 9), defScope (top 9), [], []⟩
def hd_is_land : He.DefD := ⟨("is_land", none), "is_land", "is_land", defArgs (top 10), defBody (top 10), defScope (top 10), [], []⟩
def hd_need_land : He.DefD := ⟨("need_land", none), "need_land", "need_land", defArgs (top 11), defBody (top 11), defScope (top 11), [], []⟩
def hd_is_cell : He.DefD := ⟨("is_cell", none), "is_cell", "is_cell", defArgs (top 12), defBody (top 12), defScope (top 12), [], []⟩
def hd_need_cell : He.DefD := ⟨("need_cell", none), "need_cell", "need_cell", defArgs (top 13), defBody (top 13), defScope (top 13), [], []⟩
def hd_need_both : He.DefD := ⟨("need_both", none), "need_both", "need_both", defArgs (top 14), defBody (top 14), defScope (top 14), [], []⟩
def hd_cells_of : He.DefD := ⟨("cells_of", none), "cells_of", "cells_of", defArgs (top 15), defBody (top 15), defScope (top 15), [], []⟩
def hd_at : He.DefD := ⟨("at", none), "at", "at", defArgs (top 16), defBody (top 16), defScope (top 16), [], []⟩
def hd_common_part : He.DefD := ⟨("common_part", none), "common_part", "common_part", defArgs (top 19), defBody (top 19), defScope (top 19), [], []⟩
def hd_between_of : He.DefD := ⟨("between_of", none), "between_of", "between_of", defArgs (top 20), defBody (top 20), defScope (top 20), [], []⟩
def hd_sees_of : He.DefD := ⟨("sees_of", none), "sees_of", "sees_of", defArgs (top 21), defBody (top 21), defScope (top 21), [], []⟩
def hd_seen_of : He.DefD := ⟨("seen_of", none), "seen_of", "seen_of", defArgs (top 22), defBody (top 22), defScope (top 22), [], []⟩
def hd_seen : He.DefD := ⟨("seen", none), "seen", "seen", defArgs (top 23), defBody (top 23), defScope (top 23), [], []⟩
def hd_choices : He.DefD := ⟨("choices", none), "choices", "choices", defArgs (top 24), defBody (top 24), defScope (top 24), [], []⟩
def hd_watchers : He.DefD := ⟨("watchers", none), "watchers", "watchers", defArgs (top 25), defBody (top 25), defScope (top 25), [], []⟩
def hd_law_cell_at : He.DefD := ⟨("_law_cell_at", none), "_law_cell_at", "_law_cell_at", defArgs (top 27), defBody (top 27), defScope (top 27), [], []⟩
def hd_law_mixed : He.DefD := ⟨("_law_mixed", none), "_law_mixed", "_law_mixed", defArgs (top 28), defBody (top 28), defScope (top 28), [], []⟩
def hd_law_draw : He.DefD := ⟨("_law_draw", none), "_law_draw", "_law_draw", defArgs (top 29), defBody (top 29), defScope (top 29), [], []⟩
def hd_law_pick : He.DefD := ⟨("_law_pick", none), "_law_pick", "_law_pick", defArgs (top 30), defBody (top 30), defScope (top 30), [], []⟩
def hd_law_cells : He.DefD := ⟨("_law_cells", none), "_law_cells", "_law_cells", defArgs (top 31), defBody (top 31), defScope (top 31), [], []⟩
def hd_law_lists : He.DefD := ⟨("_law_lists", none), "_law_lists", "_law_lists", defArgs (top 32), defBody (top 32), defScope (top 32), [], []⟩
def hd_law : He.DefD := ⟨("law", none), "law", "law", defArgs (top 33), defBody (top 33), defScope (top 33), [], []⟩
def hd_NoCell_init : He.DefD := ⟨("NoCell", some "__init__"), "__init__", "NoCell.__init__", defArgs (clsM (top 3)), defBody (clsM (top 3)), defScope (clsM (top 3)), [], []⟩
def hfn0 : List He.DefD := [
  hd_is_whole,
  hd_is_line,
  hd_is_land,
  hd_need_land,
  hd_is_cell,
  hd_need_cell,
  hd_need_both,
  hd_cells_of,
  hd_at,
  hd_common_part,
  hd_between_of,
  hd_sees_of]
def hfn1 : List He.DefD := [
  hd_seen_of,
  hd_seen,
  hd_choices,
  hd_watchers,
  hd_law_cell_at,
  hd_law_mixed,
  hd_law_draw,
  hd_law_pick,
  hd_law_cells,
  hd_law_lists,
  hd_law,
  hd_NoCell_init]
def hfn : List He.DefD := hfn0 ++ hfn1
def hfa : List He.Fa := ([.glo "is_whole", .glo "is_line", .glo "is_land", .glo "need_land", .glo "is_cell", .glo "need_cell", .glo "need_both", .glo "cells_of", .glo "at", .glo "common_part", .glo "between_of", .glo "sees_of"] : List He.Fa) ++ ([.glo "seen_of", .glo "seen", .glo "choices", .glo "watchers", .glo "_law_cell_at", .glo "_law_mixed", .glo "_law_draw", .glo "_law_pick", .glo "_law_cells", .glo "_law_lists", .glo "law", .glo "NoLand"] : List He.Fa) ++ ([.glo "NoCell", .glo "TooMany", .glo "LandError", .exc "NoLand", .exc "TooMany", .int "HIGH" 999, .int "MOST_lands" 8, .int "MOST_sight" 12, .free "abs", .free "all", .free "any", .free "bool"] : List He.Fa) ++ ([.free "dict", .free "enumerate", .free "int", .free "isinstance", .free "len", .free "max", .free "min", .free "range", .free "tuple"] : List He.Fa)
def hnames : List PySem.Str := (["LandError", "NoLand", "NoCell", "TooMany", "MOST_lands", "HIGH", "is_whole", "is_line", "is_land", "need_land", "is_cell", "need_cell"] : List PySem.Str) ++ (["need_both", "cells_of", "at", "MOST_sight", "common_part", "between_of", "sees_of", "seen_of", "seen", "choices", "watchers", "_law_cell_at"] : List PySem.Str) ++ (["_law_mixed", "_law_draw", "_law_pick", "_law_cells", "_law_lists"] : List PySem.Str)
abbrev hrow : PySem.W.OpenRow := PySem.W.OpenLaw.row PySem.Challenge.rw_peakland_k26_whole_watchers
def hfx (K : PySem.W.Frag) : Bool := true && oexA K (exCls K 1)
abbrev hhk : PySem.W.Hook := hookX 5 hfa hfn hfx
def hob (s : PySem.W.SharedT) : He.AlD := obsXG 5 hfa hfn hfx (HandSHeadRun.getT s)
theorem hob_eq (s : PySem.W.SharedT) : hob s = hhk.obs s.abs := obsXG_eq (HandSHeadRun.getT_eq s)
set_option maxHeartbeats 0 in
theorem hrun (w : World) : HandSHeadRun.RunEq hrow (PySem.W.view hrow.prog [33]) hhk hob 9000 hnames w := by
  intro os
  kernel_rfl
theorem facts {P : Program} {w : World} {cn : Cn} {h : Heap} {mg : Str → Option Value} {f : Addr} (X : cn.K.In h) (G : h.Ns mainGlobals mg) (hlw : mg ("law" : Str) = some (.ref f)) (cX : SaysX hfa hfn hfx cn.K) (hc : cn.cls = exCls cn.K) (hv : cn.fn = fun _ => He.ga cn.K "_law_near") :
    ∃ fd : FuncData, (∀ (s : Shared) (v : Value), BindsTo s fd ⟨[v], []⟩ [("script", v)]) ∧ ∀ base : Heap, FnOk P w cn.K mg base (L2.CX P w) 16 f fd ["script"] (spOf cn py_law) := by
  have c := cX.d
  have O1 : OexA cn.K (cn.cls 1) := by rw [hc]; exact oexA_ok (He.ba cX.x).2
  have T : Tx cn mg := ⟨errC_of hc (k := 0) rfl X G (c.fact 27 (f := .exc "NoLand") rfl) (c.fact 23 (f := .glo "NoLand") rfl),
    errC_of hc (k := 10) rfl X G (c.fact 28 (f := .exc "TooMany") rfl) (c.fact 25 (f := .glo "TooMany") rfl),
    He.free_ok X G (c.fact 32 (f := .free "abs") rfl),
    He.free_ok X G (c.fact 33 (f := .free "all") rfl),
    He.free_ok X G (c.fact 34 (f := .free "any") rfl),
    He.free_ok X G (c.fact 35 (f := .free "bool") rfl),
    He.free_ok X G (c.fact 36 (f := .free "dict") rfl),
    He.free_ok X G (c.fact 37 (f := .free "enumerate") rfl),
    He.free_ok X G (c.fact 38 (f := .free "int") rfl),
    He.free_ok X G (c.fact 39 (f := .free "isinstance") rfl),
    He.free_ok X G (c.fact 40 (f := .free "len") rfl),
    He.free_ok X G (c.fact 41 (f := .free "max") rfl),
    He.free_ok X G (c.fact 42 (f := .free "min") rfl),
    He.free_ok X G (c.fact 43 (f := .free "range") rfl),
    He.free_ok X G (c.fact 44 (f := .free "tuple") rfl),
    He.int_ok X G (c.fact 29 (f := .int "HIGH" 999) rfl),
    He.int_ok X G (c.fact 30 (f := .int "MOST_lands" 8) rfl),
    He.int_ok X G (c.fact 31 (f := .int "MOST_sight" 12) rfl)⟩
  obtain ⟨fd_is_whole, F_is_whole⟩ := c.def_ 0 (d := hd_is_whole) rfl
  obtain ⟨fd_is_line, F_is_line⟩ := c.def_ 1 (d := hd_is_line) rfl
  obtain ⟨fd_is_land, F_is_land⟩ := c.def_ 2 (d := hd_is_land) rfl
  obtain ⟨fd_need_land, F_need_land⟩ := c.def_ 3 (d := hd_need_land) rfl
  obtain ⟨fd_is_cell, F_is_cell⟩ := c.def_ 4 (d := hd_is_cell) rfl
  obtain ⟨fd_need_cell, F_need_cell⟩ := c.def_ 5 (d := hd_need_cell) rfl
  obtain ⟨fd_need_both, F_need_both⟩ := c.def_ 6 (d := hd_need_both) rfl
  obtain ⟨fd_cells_of, F_cells_of⟩ := c.def_ 7 (d := hd_cells_of) rfl
  obtain ⟨fd_at, F_at⟩ := c.def_ 8 (d := hd_at) rfl
  obtain ⟨fd_common_part, F_common_part⟩ := c.def_ 9 (d := hd_common_part) rfl
  obtain ⟨fd_between_of, F_between_of⟩ := c.def_ 10 (d := hd_between_of) rfl
  obtain ⟨fd_sees_of, F_sees_of⟩ := c.def_ 11 (d := hd_sees_of) rfl
  obtain ⟨fd_seen_of, F_seen_of⟩ := c.def_ 12 (d := hd_seen_of) rfl
  obtain ⟨fd_seen, F_seen⟩ := c.def_ 13 (d := hd_seen) rfl
  obtain ⟨fd_choices, F_choices⟩ := c.def_ 14 (d := hd_choices) rfl
  obtain ⟨fd_watchers, F_watchers⟩ := c.def_ 15 (d := hd_watchers) rfl
  obtain ⟨fd_law_cell_at, F_law_cell_at⟩ := c.def_ 16 (d := hd_law_cell_at) rfl
  obtain ⟨fd_law_mixed, F_law_mixed⟩ := c.def_ 17 (d := hd_law_mixed) rfl
  obtain ⟨fd_law_draw, F_law_draw⟩ := c.def_ 18 (d := hd_law_draw) rfl
  obtain ⟨fd_law_pick, F_law_pick⟩ := c.def_ 19 (d := hd_law_pick) rfl
  obtain ⟨fd_law_cells, F_law_cells⟩ := c.def_ 20 (d := hd_law_cells) rfl
  obtain ⟨fd_law_lists, F_law_lists⟩ := c.def_ 21 (d := hd_law_lists) rfl
  obtain ⟨fd_law, F_law⟩ := c.def_ 22 (d := hd_law) rfl
  obtain ⟨fd_NoCell_init, F_NoCell_init⟩ := c.def_ 23 (d := hd_NoCell_init) rfl
  have el := hlw.symm.trans (He.glo_ok X G (c.fact 22 (f := .glo "law") rfl))
  cases el
  have bl := FunD.bindsA (ps := ["script"]) F_law fun _ _ _ _ _ _ us hl => match us, hl with | [_], _ => rfl
  refine ⟨fd_law, fun s v => bl s [v] rfl, fun base => ?_⟩
  have I_NoCell : ErrI cn P w mg base 1 "NoCell" := errI_of hc rfl X G (c.fact 24 (f := .glo "NoCell") rfl) O1 F_NoCell_init sc_NoCell_init (fun f cdv A outer s H E => pss_one (ps_ost (pv 0) (pv 1))) fun _ _ _ _ _ _ us hl => match us, hl with | [_, _], _ => rfl
  have G_is_whole : FnG cn P w mg base 1 "is_whole" py_is_whole [] := fnG_of F_is_whole (ok_is_whole F_is_whole T) (He.glo_ok X G (c.fact 0 (f := .glo "is_whole") rfl)) fun _ _ _ _ _ _ us hl => match us, hl with | [_, _, _], _ => rfl
  have G_is_line : FnG cn P w mg base 2 "is_line" py_is_line [] := fnG_of F_is_line (ok_is_line F_is_line T G_is_whole) (He.glo_ok X G (c.fact 1 (f := .glo "is_line") rfl)) fun _ _ _ _ _ _ us hl => match us, hl with | [_, _], _ => rfl
  have G_is_land : FnG cn P w mg base 3 "is_land" py_is_land [] := fnG_of F_is_land (ok_is_land F_is_land T G_is_line) (He.glo_ok X G (c.fact 2 (f := .glo "is_land") rfl)) fun _ _ _ _ _ _ us hl => match us, hl with | [_], _ => rfl
  have G_need_land : FnG cn P w mg base 4 "need_land" py_need_land [] := fnG_of F_need_land (ok_need_land F_need_land T G_is_land) (He.glo_ok X G (c.fact 3 (f := .glo "need_land") rfl)) fun _ _ _ _ _ _ us hl => match us, hl with | [_], _ => rfl
  have G_is_cell : FnG cn P w mg base 2 "is_cell" py_is_cell [] := fnG_of F_is_cell (ok_is_cell F_is_cell T G_is_whole) (He.glo_ok X G (c.fact 4 (f := .glo "is_cell") rfl)) fun _ _ _ _ _ _ us hl => match us, hl with | [_, _], _ => rfl
  have G_need_cell : FnG cn P w mg base 3 "need_cell" py_need_cell [] := fnG_of F_need_cell (ok_need_cell F_need_cell T G_is_cell I_NoCell) (He.glo_ok X G (c.fact 5 (f := .glo "need_cell") rfl)) fun _ _ _ _ _ _ us hl => match us, hl with | [_, _], _ => rfl
  have G_need_both : FnG cn P w mg base 5 "need_both" py_need_both [] := fnG_of F_need_both (ok_need_both F_need_both T G_need_cell G_need_land) (He.glo_ok X G (c.fact 6 (f := .glo "need_both") rfl)) fun _ _ _ _ _ _ us hl => match us, hl with | [_, _], _ => rfl
  have G_cells_of : FnG cn P w mg base 1 "cells_of" py_cells_of [] := fnG_of F_cells_of (ok_cells_of F_cells_of T) (He.glo_ok X G (c.fact 7 (f := .glo "cells_of") rfl)) fun _ _ _ _ _ _ us hl => match us, hl with | [_], _ => rfl
  have G_at : FnG cn P w mg base 1 "at" py_at [] := fnG_of F_at (ok_at F_at T) (He.glo_ok X G (c.fact 8 (f := .glo "at") rfl)) fun _ _ _ _ _ _ us hl => match us, hl with | [_, _], _ => rfl
  have G_common_part : FnG cn P w mg base 1 "common_part" py_common_part [] := fnG_of F_common_part (ok_common_part F_common_part T) (He.glo_ok X G (c.fact 9 (f := .glo "common_part") rfl)) fun _ _ _ _ _ _ us hl => match us, hl with | [_, _], _ => rfl
  have G_between_of : FnG cn P w mg base 2 "between_of" py_between_of [] := fnG_of F_between_of (ok_between_of F_between_of T G_common_part) (He.glo_ok X G (c.fact 10 (f := .glo "between_of") rfl)) fun _ _ _ _ _ _ us hl => match us, hl with | [_, _], _ => rfl
  have G_sees_of : FnG cn P w mg base 3 "sees_of" py_sees_of [] := fnG_of F_sees_of (ok_sees_of F_sees_of T G_at G_between_of) (He.glo_ok X G (c.fact 11 (f := .glo "sees_of") rfl)) fun _ _ _ _ _ _ us hl => match us, hl with | [_, _, _], _ => rfl
  have G_seen_of : FnG cn P w mg base 4 "seen_of" py_seen_of [] := fnG_of F_seen_of (ok_seen_of F_seen_of T G_cells_of G_sees_of) (He.glo_ok X G (c.fact 12 (f := .glo "seen_of") rfl)) fun _ _ _ _ _ _ us hl => match us, hl with | [_, _], _ => rfl
  have G_seen : FnG cn P w mg base 6 "seen" py_seen [] := fnG_of F_seen (ok_seen F_seen T G_need_both G_seen_of) (He.glo_ok X G (c.fact 13 (f := .glo "seen") rfl)) fun _ _ _ _ _ _ us hl => match us, hl with | [_, _], _ => rfl
  have R_choices_0 : FnG cn P w mg base 1 "choices" (py_choices 0) [] := fnG_of F_choices (okz_choices F_choices T) (He.glo_ok X G (c.fact 14 (f := .glo "choices") rfl)) fun _ _ _ _ _ _ us hl => match us, hl with | [_, _], _ => rfl
  have R_choices_1 : FnG cn P w mg base 2 "choices" (py_choices 1) [] := fnG_of F_choices (ok_choices F_choices T R_choices_0) (He.glo_ok X G (c.fact 14 (f := .glo "choices") rfl)) fun _ _ _ _ _ _ us hl => match us, hl with | [_, _], _ => rfl
  have R_choices_2 : FnG cn P w mg base 3 "choices" (py_choices 2) [] := fnG_of F_choices (ok_choices F_choices T R_choices_1) (He.glo_ok X G (c.fact 14 (f := .glo "choices") rfl)) fun _ _ _ _ _ _ us hl => match us, hl with | [_, _], _ => rfl
  have R_choices_3 : FnG cn P w mg base 4 "choices" (py_choices 3) [] := fnG_of F_choices (ok_choices F_choices T R_choices_2) (He.glo_ok X G (c.fact 14 (f := .glo "choices") rfl)) fun _ _ _ _ _ _ us hl => match us, hl with | [_, _], _ => rfl
  have R_choices_4 : FnG cn P w mg base 5 "choices" (py_choices 4) [] := fnG_of F_choices (ok_choices F_choices T R_choices_3) (He.glo_ok X G (c.fact 14 (f := .glo "choices") rfl)) fun _ _ _ _ _ _ us hl => match us, hl with | [_, _], _ => rfl
  have R_choices_5 : FnG cn P w mg base 6 "choices" (py_choices 5) [] := fnG_of F_choices (ok_choices F_choices T R_choices_4) (He.glo_ok X G (c.fact 14 (f := .glo "choices") rfl)) fun _ _ _ _ _ _ us hl => match us, hl with | [_, _], _ => rfl
  have R_choices_6 : FnG cn P w mg base 7 "choices" (py_choices 6) [] := fnG_of F_choices (ok_choices F_choices T R_choices_5) (He.glo_ok X G (c.fact 14 (f := .glo "choices") rfl)) fun _ _ _ _ _ _ us hl => match us, hl with | [_, _], _ => rfl
  have R_choices_7 : FnG cn P w mg base 8 "choices" (py_choices 7) [] := fnG_of F_choices (ok_choices F_choices T R_choices_6) (He.glo_ok X G (c.fact 14 (f := .glo "choices") rfl)) fun _ _ _ _ _ _ us hl => match us, hl with | [_, _], _ => rfl
  have R_choices_8 : FnG cn P w mg base 9 "choices" (py_choices 8) [] := fnG_of F_choices (ok_choices F_choices T R_choices_7) (He.glo_ok X G (c.fact 14 (f := .glo "choices") rfl)) fun _ _ _ _ _ _ us hl => match us, hl with | [_, _], _ => rfl
  have R_choices_9 : FnG cn P w mg base 10 "choices" (py_choices 9) [] := fnG_of F_choices (ok_choices F_choices T R_choices_8) (He.glo_ok X G (c.fact 14 (f := .glo "choices") rfl)) fun _ _ _ _ _ _ us hl => match us, hl with | [_, _], _ => rfl
  have R_choices_10 : FnG cn P w mg base 11 "choices" (py_choices 10) [] := fnG_of F_choices (ok_choices F_choices T R_choices_9) (He.glo_ok X G (c.fact 14 (f := .glo "choices") rfl)) fun _ _ _ _ _ _ us hl => match us, hl with | [_, _], _ => rfl
  have R_choices_11 : FnG cn P w mg base 12 "choices" (py_choices 11) [] := fnG_of F_choices (ok_choices F_choices T R_choices_10) (He.glo_ok X G (c.fact 14 (f := .glo "choices") rfl)) fun _ _ _ _ _ _ us hl => match us, hl with | [_, _], _ => rfl
  have R_choices_12 : FnG cn P w mg base 13 "choices" (py_choices 12) [] := fnG_of F_choices (ok_choices F_choices T R_choices_11) (He.glo_ok X G (c.fact 14 (f := .glo "choices") rfl)) fun _ _ _ _ _ _ us hl => match us, hl with | [_, _], _ => rfl
  have G_choices : FnG cn P w mg base 14 "choices" (py_choices 13) [] := fnG_of F_choices (ok_choices F_choices T R_choices_12) (He.glo_ok X G (c.fact 14 (f := .glo "choices") rfl)) fun _ _ _ _ _ _ us hl => match us, hl with | [_, _], _ => rfl
  have G_watchers : FnG cn P w mg base 15 "watchers" py_watchers [] := fnG_of F_watchers (ok_watchers F_watchers T G_cells_of G_choices G_need_land G_seen_of) (He.glo_ok X G (c.fact 15 (f := .glo "watchers") rfl)) fun _ _ _ _ _ _ us hl => match us, hl with | [_], _ => rfl
  have G_law_cell_at : FnG cn P w mg base 1 "_law_cell_at" py_law_cell_at [] := fnG_of F_law_cell_at (ok_law_cell_at F_law_cell_at T) (He.glo_ok X G (c.fact 16 (f := .glo "_law_cell_at") rfl)) fun _ _ _ _ _ _ us hl => match us, hl with | [_, _], _ => rfl
  have G_law_mixed : FnG cn P w mg base 2 "_law_mixed" py_law_mixed [] := fnG_of F_law_mixed (ok_law_mixed F_law_mixed T G_law_cell_at) (He.glo_ok X G (c.fact 17 (f := .glo "_law_mixed") rfl)) fun _ _ _ _ _ _ us hl => match us, hl with | [_, _, _], _ => rfl
  have G_law_draw : FnG cn P w mg base 3 "_law_draw" py_law_draw [] := fnG_of F_law_draw (ok_law_draw F_law_draw T G_law_mixed) (He.glo_ok X G (c.fact 18 (f := .glo "_law_draw") rfl)) fun _ _ _ _ _ _ us hl => match us, hl with | [_, _, _], _ => rfl
  have G_law_pick : FnG cn P w mg base 4 "_law_pick" py_law_pick [] := fnG_of F_law_pick (ok_law_pick F_law_pick T G_law_draw) (He.glo_ok X G (c.fact 19 (f := .glo "_law_pick") rfl)) fun _ _ _ _ _ _ us hl => match us, hl with | [_, _, _], _ => rfl
  have G_law_cells : FnG cn P w mg base 1 "_law_cells" py_law_cells [] := fnG_of F_law_cells (ok_law_cells F_law_cells T) (He.glo_ok X G (c.fact 20 (f := .glo "_law_cells") rfl)) fun _ _ _ _ _ _ us hl => match us, hl with | [_], _ => rfl
  have R_law_lists_0 : FnG cn P w mg base 1 "_law_lists" (py_law_lists 0) [] := fnG_of F_law_lists (okz_law_lists F_law_lists T) (He.glo_ok X G (c.fact 21 (f := .glo "_law_lists") rfl)) fun _ _ _ _ _ _ us hl => match us, hl with | [_, _], _ => rfl
  have R_law_lists_1 : FnG cn P w mg base 2 "_law_lists" (py_law_lists 1) [] := fnG_of F_law_lists (ok_law_lists F_law_lists T R_law_lists_0) (He.glo_ok X G (c.fact 21 (f := .glo "_law_lists") rfl)) fun _ _ _ _ _ _ us hl => match us, hl with | [_, _], _ => rfl
  have R_law_lists_2 : FnG cn P w mg base 3 "_law_lists" (py_law_lists 2) [] := fnG_of F_law_lists (ok_law_lists F_law_lists T R_law_lists_1) (He.glo_ok X G (c.fact 21 (f := .glo "_law_lists") rfl)) fun _ _ _ _ _ _ us hl => match us, hl with | [_, _], _ => rfl
  have R_law_lists_3 : FnG cn P w mg base 4 "_law_lists" (py_law_lists 3) [] := fnG_of F_law_lists (ok_law_lists F_law_lists T R_law_lists_2) (He.glo_ok X G (c.fact 21 (f := .glo "_law_lists") rfl)) fun _ _ _ _ _ _ us hl => match us, hl with | [_, _], _ => rfl
  have R_law_lists_4 : FnG cn P w mg base 5 "_law_lists" (py_law_lists 4) [] := fnG_of F_law_lists (ok_law_lists F_law_lists T R_law_lists_3) (He.glo_ok X G (c.fact 21 (f := .glo "_law_lists") rfl)) fun _ _ _ _ _ _ us hl => match us, hl with | [_, _], _ => rfl
  have R_law_lists_5 : FnG cn P w mg base 6 "_law_lists" (py_law_lists 5) [] := fnG_of F_law_lists (ok_law_lists F_law_lists T R_law_lists_4) (He.glo_ok X G (c.fact 21 (f := .glo "_law_lists") rfl)) fun _ _ _ _ _ _ us hl => match us, hl with | [_, _], _ => rfl
  have R_law_lists_6 : FnG cn P w mg base 7 "_law_lists" (py_law_lists 6) [] := fnG_of F_law_lists (ok_law_lists F_law_lists T R_law_lists_5) (He.glo_ok X G (c.fact 21 (f := .glo "_law_lists") rfl)) fun _ _ _ _ _ _ us hl => match us, hl with | [_, _], _ => rfl
  have R_law_lists_7 : FnG cn P w mg base 8 "_law_lists" (py_law_lists 7) [] := fnG_of F_law_lists (ok_law_lists F_law_lists T R_law_lists_6) (He.glo_ok X G (c.fact 21 (f := .glo "_law_lists") rfl)) fun _ _ _ _ _ _ us hl => match us, hl with | [_, _], _ => rfl
  have R_law_lists_8 : FnG cn P w mg base 9 "_law_lists" (py_law_lists 8) [] := fnG_of F_law_lists (ok_law_lists F_law_lists T R_law_lists_7) (He.glo_ok X G (c.fact 21 (f := .glo "_law_lists") rfl)) fun _ _ _ _ _ _ us hl => match us, hl with | [_, _], _ => rfl
  have R_law_lists_9 : FnG cn P w mg base 10 "_law_lists" (py_law_lists 9) [] := fnG_of F_law_lists (ok_law_lists F_law_lists T R_law_lists_8) (He.glo_ok X G (c.fact 21 (f := .glo "_law_lists") rfl)) fun _ _ _ _ _ _ us hl => match us, hl with | [_, _], _ => rfl
  have R_law_lists_10 : FnG cn P w mg base 11 "_law_lists" (py_law_lists 10) [] := fnG_of F_law_lists (ok_law_lists F_law_lists T R_law_lists_9) (He.glo_ok X G (c.fact 21 (f := .glo "_law_lists") rfl)) fun _ _ _ _ _ _ us hl => match us, hl with | [_, _], _ => rfl
  have R_law_lists_11 : FnG cn P w mg base 12 "_law_lists" (py_law_lists 11) [] := fnG_of F_law_lists (ok_law_lists F_law_lists T R_law_lists_10) (He.glo_ok X G (c.fact 21 (f := .glo "_law_lists") rfl)) fun _ _ _ _ _ _ us hl => match us, hl with | [_, _], _ => rfl
  have R_law_lists_12 : FnG cn P w mg base 13 "_law_lists" (py_law_lists 12) [] := fnG_of F_law_lists (ok_law_lists F_law_lists T R_law_lists_11) (He.glo_ok X G (c.fact 21 (f := .glo "_law_lists") rfl)) fun _ _ _ _ _ _ us hl => match us, hl with | [_, _], _ => rfl
  have G_law_lists : FnG cn P w mg base 14 "_law_lists" (py_law_lists 13) [] := fnG_of F_law_lists (ok_law_lists F_law_lists T R_law_lists_12) (He.glo_ok X G (c.fact 21 (f := .glo "_law_lists") rfl)) fun _ _ _ _ _ _ us hl => match us, hl with | [_, _], _ => rfl
  exact ok_law F_law T G_law_cells G_law_draw G_law_lists G_law_pick G_seen G_watchers
end Pk
open PySem PySem.W PySem.Calls PyProof.Rows
set_option maxHeartbeats 0 in
theorem PySem.Challenge.cw_peakland_k26_whole_watchers_holds : PySem.Challenge.rw_peakland_k26_whole_watchers.Holds := by
  w_on; o_law
  refine HandSHeadRun.head_any (r := OpenLaw.row PySem.Challenge.rw_peakland_k26_whole_watchers) (q := view (OpenLaw.row PySem.Challenge.rw_peakland_k26_whole_watchers).prog [33]) (H := Pk.hhk) (ob := Pk.hob) (M := 9000) (loose := Pk.hnames) (d := HandSHeadRun.topDef (OpenLaw.row PySem.Challenge.rw_peakland_k26_whole_watchers).prog 33) (kwd := []) Pk.hob_eq
    (by kernel_rfl) (fun s => by kernel_rfl) Pk.hrun (by kernel_rfl) (by kernel_rfl) (by kernel_rfl) (by rfl) (by first | assumption | decide +kernel) (by decide +kernel) ⟨rfl, rfl, rfl, rfl, rfl, by decide +kernel⟩ ?hw ?hc
  case hw => w_witness2
  case hc =>
    refine Pk.law_end (l := PySem.Challenge.rw_peakland_k26_whole_watchers) (n := 63) (k := 16) (x := "script") (Fp := Pk.py_law) rfl (by decide) (by kernel_rfl) ⟨rfl, by decide, by decide⟩ ?F Pk.law_ok
    intro w mg fa h Y G hmg0
    obtain ⟨K, KX, c⟩ := Y
    have hmg : mg ("law" : PySem.Str) = some (.ref fa) := by
      have e : (HandSHeadRun.topDef (OpenLaw.row PySem.Challenge.rw_peakland_k26_whole_watchers).prog 33).name = ("law" : PySem.Str) := by kernel_rfl
      rw [← e]
      exact hmg0
    obtain ⟨fd, hb, hF⟩ := Pk.facts (P := (PySem.Challenge.rw_peakland_k26_whole_watchers).prog) (w := w) (cn := ⟨K, fun _ => He.ga K "_law_near", Pk.exCls K, 0, [], fun _ => ⟨"", default, default, default, []⟩⟩) KX G hmg c rfl rfl
    exact ⟨⟨K, fun _ => He.ga K "_law_near", Pk.exCls K, 0, [], fun _ => ⟨"", default, default, default, []⟩⟩, fd, rfl, KX, hb, hF⟩
