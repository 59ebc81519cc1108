import PyProof.Rows.All
import Wide.All
import OpenK.AllK
import Wide.FinOn
import KE.KStateDown
import HandS.CallLocal
import HandS.CallSlots
import HandS.Conv
import HandS.Deep
import HandS.Defaults
import HandS.Dict
import HandS.EndTab
import HandS.Ends
import HandS.ExcField
import HandS.ExcInit
import HandS.ExcIs
import HandS.ExcOwn
import HandS.FStr
import HandS.ForExc
import HandS.ForMost
import HandS.Head0
import HandS.Head1
import HandS.Head2
import HandS.HeadEnd
import HandS.HeadHook1
import HandS.HeadHook2
import HandS.HeadHook4
import HandS.HotCalls
import HandS.IsInst
import HandS.Iter
import HandS.Lambda
import HandS.List
import HandS.MakeKw
import HandS.Nested
import HandS.OwnEq
import HandS.Rev
import HandS.RevRange
import HandS.SetFor
import HandS.Small
import HandS.SortKw
import HandS.SortOrd
import HandS.Star
import HandS.Strs
import HandS.Style
import HandS.Text
import HandS.TryMany
import HandS.TryOnly
import HandS.TupAny
import HandS.TupMul
import HandS.TupSets
import HandS.Words
import HandS.Zip
import KE.DataFind
import KE.DataMinMax
import KE.GoesEnum
import KE.KCallOwn
import KE.KDictCopyH
import KE.KDictDisplayH
import KE.KDictList
import KE.KDictPairs
import KE.KExcIs
import KE.SortData
import KE.SortKeyHeap
import OpenK.KOps
import PyProof.Rows.StrJoinRep
import PyProof.StrBlock2
import PySem.Str
import PySem.Challenge.RW_peakland_k28_whole_fills
set_option Elab.async false
set_option linter.all false
set_option autoImplicit false
set_option maxRecDepth 100000
set_option maxHeartbeats 4000000
/-! Pk0: a small language of plain values. Each Python def of the program and of the laws is written as a term of
these combinators; what it computes is then a plain Lean function. No heap here: lists and dicts are values; a slot
of the frame that holds a list which only this frame knows is marked `ow` (owned) and may be changed in place. -/
namespace Pk
open PySem (Str)

/-- a limit that no reckoning opens: true just where p holds -/
noncomputable def lim (p : Prop) : Bool := @decide p (Classical.propDecidable p)
theorem lim_of {p : Prop} (h : p) : lim p = true := @decide_eq_true p (Classical.propDecidable p) h
theorem of_lim {p : Prop} (h : lim p = true) : p := @of_decide_eq_true p (Classical.propDecidable p) h
@[simp] theorem lim_iff {p : Prop} : (lim p = true) ↔ p := ⟨of_lim, lim_of⟩
noncomputable section
/-- a dict's key: a number, a tuple of numbers -/
inductive Ky where
  | i (n : Int)
  | t (l : List Int)
  deriving DecidableEq, Inhabited
inductive D where
  | none | bool (b : Bool) | int (i : Int) | str (x : Str)
  | tup (l : List D) | lst (l : List D) | dct (ks : List Ky) (vs : List D)
  | fn (k : Nat) | clo (k : Nat) (l : List D) | town | obj (n : Nat) | scr (l : List Int)
  deriving Inhabited

def Ky.d : Ky → D
  | .i n => .int n
  | .t l => .tup (l.map .int)

/-- a slot of a frame: nothing known, a value that may be shared, a list or dict that only this slot knows -/
inductive Sl where
  | no | sh (d : D) | ow (d : D) | mt (R : List (List D))
  deriving Inhabited
abbrev Env := List Sl
/-- what calls may change: how long the town is (if there is one), the fields of the objects -/
structure Sto where
  t : Option Nat
  o : List (List (Str × D))
/-- an exception: its class, what it was made with (NoCell, NoPeak) -/
structure Xc where
  cls : Nat
  arg : Option D

inductive R (α : Type) where
  | ok (a : α) (r : Env) (s : Sto)
  | exc (x : Xc) (r : Env) (s : Sto)
  | bad
abbrev M (α : Type) := Env → Sto → R α
def R.bind {α β : Type} : R α → (α → Env → Sto → R β) → R β
  | .ok a r s, f => f a r s
  | .exc x r s, _ => .exc x r s
  | .bad, _ => .bad
@[simp] theorem R.bind_ok {α β : Type} {a : α} {r : Env} {s : Sto} {f : α → Env → Sto → R β} : (R.ok a r s).bind f = f a r s := rfl
@[simp] theorem R.bind_exc {α β : Type} {x : Xc} {r : Env} {s : Sto} {f : α → Env → Sto → R β} : (R.exc x r s : R α).bind f = .exc x r s := rfl
@[simp] theorem R.bind_bad {α β : Type} {f : α → Env → Sto → R β} : (R.bad : R α).bind f = .bad := rfl

/-- a def's end -/
inductive FR where
  | ok (d : D) (s : Sto)
  | exc (x : Xc) (s : Sto)
  | bad
abbrev Fn := List D → Sto → FR

def opt {α : Type} (o : Option α) (r : Env) (s : Sto) : R α := match o with
  | some a => .ok a r s
  | .none => .bad
@[simp] theorem opt_some {α : Type} {a : α} {r : Env} {s : Sto} : opt (some a) r s = .ok a r s := rfl
@[simp] theorem opt_none {α : Type} {r : Env} {s : Sto} : opt (Option.none : Option α) r s = .bad := rfl

/-! ### expressions -/
@[simp] def eC (d : D) : M D := fun r s => .ok d r s
/-- a name; a list that only this frame knew may from now on be shared -/
@[simp] def eV (i : Nat) : M D := fun r s => match r[i]? with
  | some (.sh d) => .ok d r s
  | some (.ow d) => .ok d (r.set i (.sh d)) s
  | some (.mt R) => .ok (.lst (R.map .lst)) (r.set i (.sh (.lst (R.map .lst)))) s
  | _ => .bad
/-- an operand: a value, or the content of a slot that is only looked at -/
inductive Opd where
  | v (m : M D)
  | b (i : Nat)
@[simp] def Opd.run : Opd → M (D ⊕ Nat)
  | .v m => fun r s => (m r s).bind fun d r s => .ok (.inl d) r s
  | .b i => fun r s => match r[i]? with
    | some (.sh _) => .ok (.inr i) r s
    | some (.ow _) => .ok (.inr i) r s
    | _ => .bad
@[simp] def look (r : Env) : D ⊕ Nat → Option D
  | .inl d => some d
  | .inr i => match r[i]? with
    | some (.sh d) => some d
    | some (.ow d) => some d
    | _ => .none
@[simp] def e1 (p : D → Option D) (a : Opd) : M D := fun r s => (a.run r s).bind fun x r s => opt ((look r x).bind p) r s
@[simp] def e2 (p : D → D → Option D) (a b : Opd) : M D := fun r s => (a.run r s).bind fun x r s => (b.run r s).bind fun y r s =>
  opt ((look r x).bind fun d => (look r y).bind fun e => p d e) r s
@[simp] def e3 (p : D → D → D → Option D) (a b c : Opd) : M D := fun r s => (a.run r s).bind fun x r s => (b.run r s).bind fun y r s => (c.run r s).bind fun z r s =>
  opt ((look r x).bind fun d => (look r y).bind fun e => (look r z).bind fun f => p d e f) r s
@[simp] def eL : List (M D) → M (List D)
  | [] => fun r s => .ok [] r s
  | m :: ms => fun r s => (m r s).bind fun d r s => (eL ms r s).bind fun ds r s => .ok (d :: ds) r s
@[simp] def eTup (ms : List (M D)) : M D := fun r s => (eL ms r s).bind fun ds r s => .ok (.tup ds) r s
@[simp] def eLst (ms : List (M D)) : M D := fun r s => (eL ms r s).bind fun ds r s => .ok (.lst ds) r s
def FR.at (f : FR) (r : Env) : R D := match f with
  | .ok d s => .ok d r s
  | .exc x s => .exc x r s
  | .bad => .bad
@[simp] theorem FR.at_ok {d : D} {s : Sto} {r : Env} : (FR.ok d s).at r = .ok d r s := rfl
@[simp] theorem FR.at_exc {x : Xc} {s : Sto} {r : Env} : (FR.exc x s).at r = .exc x r s := rfl
@[simp] theorem FR.at_bad {r : Env} : FR.bad.at r = .bad := rfl
/-- a call of a def; dv: the defaults that fill up -/
@[simp] def eCall (f : Fn) (ms : List (M D)) (dv : List D) : M D := fun r s => (eL ms r s).bind fun ds r s => (f (ds ++ dv) s).at r
@[simp] def eAnd (a b : M D) : M D := fun r s => (a r s).bind fun d r s => match d with
  | .bool true => b r s
  | .bool false => .ok (.bool false) r s
  | _ => .bad
@[simp] def eOr (a b : M D) : M D := fun r s => (a r s).bind fun d r s => match d with
  | .bool true => .ok (.bool true) r s
  | .bool false => b r s
  | _ => .bad
@[simp] def eNot (a : M D) : M D := fun r s => (a r s).bind fun d r s => match d with
  | .bool b => .ok (.bool !b) r s
  | _ => .bad
@[simp] def eIte (c a b : M D) : M D := fun r s => (c r s).bind fun d r s => match d with
  | .bool true => a r s
  | .bool false => b r s
  | _ => .bad
/-- a comparison of three -/
@[simp] def eChain (p q : D → D → Option D) (a b c : M D) : M D := fun r s => (a r s).bind fun x r s => (b r s).bind fun y r s =>
  match p x y with
  | some (.bool true) => (c r s).bind fun z r s => opt (q y z) r s
  | some (.bool false) => .ok (.bool false) r s
  | _ => .bad

/-! ### targets: names, tuples of targets -/
inductive Tg where
  | n (i : Nat)
  | t (l : List Tg)
mutual
@[simp] def setT (r : Env) : Tg → D → Option Env
  | .n i, d => some (r.set i (.sh d))
  | .t l, .tup ds => setTs r l ds
  | .t l, .lst ds => setTs r l ds
  | .t _, _ => .none
@[simp] def setTs (r : Env) : List Tg → List D → Option Env
  | [], [] => some r
  | g :: gs, d :: ds => (setT r g d).bind fun r => setTs r gs ds
  | _, _ => .none
end

def SZ : Nat := 16777216
/-! ### what a loop walks: its items -/
abbrev It := M (List D)
@[simp] def itemsOf : D → Option (List D)
  | .lst l => some l
  | .tup l => some l
  | .str x => if lim (x.cps.size ≤ SZ) then some (x.cps.toList.map fun c => .str ⟨#[c]⟩) else .none
  | _ => .none
/-- a list, a tuple, a dict's keys, a text -/
@[simp] def iOf (m : M D) : It := fun r s => (m r s).bind fun d r s => opt (itemsOf d) r s
def upto (lo : Int) (n : Nat) : List D := (List.range n).map fun (k : Nat) => .int (lo + (k : Int))
def small (i : Int) : Bool := lim (-(2 ^ 62) ≤ i ∧ i < 2 ^ 62)
@[simp] def iRange1 (a : M D) : It := fun r s => (a r s).bind fun d r s => match d with
  | .int j => if small j && lim (j ≤ (SZ : Int)) then .ok (upto 0 j.toNat) r s else .bad
  | _ => .bad
@[simp] def iRange2 (a b : M D) : It := fun r s => (a r s).bind fun d r s => (b r s).bind fun e r s => match d, e with
  | .int i, .int j => if small i && small j && lim (j - i ≤ (SZ : Int)) then .ok (upto i (j - i).toNat) r s else .bad
  | _, _ => .bad
def numbered (l : List D) : List D := (List.range l.length).map fun (k : Nat) => .tup [.int (k : Int), l.getD k .none]
def paired (l m : List D) : List D := (List.range (min l.length m.length)).map fun (k : Nat) => .tup [l.getD k .none, m.getD k .none]
/-- enumerate(list) -/
@[simp] def iEnumL (m : M D) : It := fun r s => (m r s).bind fun d r s => match d with
  | .lst l => .ok (numbered l) r s
  | _ => .bad

/-! ### comprehensions -/
@[simp] def wipeL (r : Env) : List Nat → Env
  | [] => r
  | i :: is => (wipeL r is).set i .no
/-- behind a comprehension: its own names are as ahead of it -/
def backL (r0 r : Env) : List Nat → Env
  | [] => r
  | i :: is => (backL r0 r is).set i (r0.getD i .no)
@[simp] def notOw (r : Env) (is : List Nat) : Bool := is.all fun i => match r[i]? with
  | some (.ow _) => false
  | some (.mt _) => false
  | some _ => true
  | _ => false
/-- the items one after the other: g is set, c is asked, e is reckoned -/
def compLoop (g : Tg) (own : List Nat) (c e : M D) : List D → List D → M (List D)
  | [], acc => fun r s => .ok acc.reverse r s
  | d :: ds, acc => fun r s => match setT (wipeL r own) g d with
    | some r1 => match c r1 s with
      | .ok (.bool true) r2 s2 => match e r2 s2 with
        | .ok y r3 s3 => compLoop g own c e ds (y :: acc) r3 s3
        | _ => .bad
      | .ok (.bool false) r2 s2 => compLoop g own c e ds acc r2 s2
      | _ => .bad
    | .none => .bad
def eComp (it : It) (g : Tg) (own : List Nat) (c e : M D) : M D := fun r s => (it r s).bind fun ds r s =>
  if notOw r own then (compLoop g own c e ds [] r s).bind fun ys r1 s => .ok (.lst ys) (backL r r1 own) s else .bad
@[simp] def eYes : M D := eC (.bool true)

/-! ### statements -/
inductive Fl where
  | nx | rt (d : D) | bk | ct
abbrev S := M Fl
/-- what is never reached -/
@[simp] def sNever : S := fun _ _ => .bad
@[simp] def sNil : S := fun r s => .ok .nx r s
@[simp] def sSeq (a b : S) : S := fun r s => (a r s).bind fun f r s => match f with
  | .nx => b r s
  | f => .ok f r s
@[simp] def sRet (e : M D) : S := fun r s => (e r s).bind fun d r s => .ok (.rt d) r s
@[simp] def sBrk : S := fun r s => .ok .bk r s
@[simp] def sExpr (e : M D) : S := fun r s => (e r s).bind fun _ r s => .ok .nx r s
/-- x = e; fresh: e makes a new list or dict, which only x knows from now on -/
@[simp] def sSet (fresh : Bool) (i : Nat) (e : M D) : S := fun r s => (e r s).bind fun d r s => .ok .nx (r.set i (if fresh then .ow d else .sh d)) s
/-- town = [] -/
@[simp] def sTown0 (i : Nat) : S := fun r s => match s.t with
  | .none => .ok .nx (r.set i (.sh .town)) { s with t := some 0 }
  | some _ => .bad
@[simp] def sAsg (g : Tg) (e : M D) : S := fun r s => (e r s).bind fun d r s => (opt (setT r g d) r s).bind fun r1 r s => .ok .nx r1 s
/-- x, y = a, b -/
@[simp] def sPar (f1 f2 : Bool) (i j : Nat) (a b : M D) : S := fun r s => (a r s).bind fun d r s => (b r s).bind fun e r s =>
  .ok .nx ((r.set i (if f1 then .ow d else .sh d)).set j (if f2 then .ow e else .sh e)) s
/-- x, y, .. = a, b, .. of values that may be shared -/
@[simp] def setAll (r : Env) : List Nat → List D → Env
  | i :: is, d :: ds => setAll (r.set i (.sh d)) is ds
  | _, _ => r
@[simp] def sParV (is : List Nat) (ms : List (M D)) : S := fun r s => (eL ms r s).bind fun ds r s => .ok .nx (setAll r is ds) s
@[simp] def sIf (c : M D) (a b : S) : S := fun r s => (c r s).bind fun d r s => match d with
  | .bool true => a r s
  | .bool false => b r s
  | _ => .bad
def forL (g : Tg) (b : S) : List D → S
  | [] => fun r s => .ok .nx r s
  | d :: ds => fun r s => match setT r g d with
    | some r1 => (b r1 s).bind fun f r s => match f with
      | .nx => forL g b ds r s
      | .ct => forL g b ds r s
      | .bk => .ok .nx r s
      | .rt d => .ok (.rt d) r s
    | .none => .bad
@[simp] def sFor (it : It) (g : Tg) (b : S) : S := fun r s => (it r s).bind fun ds r s => forL g b ds r s
def whileL (c : M D) (b : S) : Nat → S
  | 0 => fun _ _ => .bad
  | n + 1 => fun r s => (c r s).bind fun d r s => match d with
    | .bool true => (b r s).bind fun f r s => match f with
      | .nx => whileL c b n r s
      | .ct => whileL c b n r s
      | .bk => .ok .nx r s
      | .rt d => .ok (.rt d) r s
    | .bool false => .ok .nx r s
    | _ => .bad
/-- turns of a while: never more than so many -/
def WN : Nat := 1000000000
def sWhile (c : M D) (b : S) : S := whileL c b WN
/-- raise X(e) | raise X("..") -/
@[simp] def sRaise (k : Nat) (arg : Option (M D)) : S := fun r s => match arg with
  | .none => .exc ⟨k, .none⟩ r s
  | some m => (m r s).bind fun d r s => .exc ⟨k, some d⟩ r s

/-! ### lists and dicts changed in place: of this frame, of the town -/
@[simp] def sAppend (i : Nat) (e : M D) : S := fun r s => match r[i]? with
  | some (.ow (.lst _)) => (e r s).bind fun d r s => match r[i]? with
    | some (.ow (.lst l)) => if lim (l.length < SZ) then .ok .nx (r.set i (.ow (.lst (l ++ [d])))) s else .bad
    | _ => .bad
  | _ => .bad
/-- town.append(0) -/
@[simp] def sTown (i : Nat) : S := fun r s => match r[i]? with
  | some (.sh .town) => match s.t with
    | some n => if lim (n < SZ) then .ok .nx r { s with t := some (n + 1) } else .bad
    | .none => .bad
  | _ => .bad
@[simp] def sExtend (i : Nat) (e : M D) : S := fun r s => match r[i]? with
  | some (.ow (.lst _)) => (e r s).bind fun d r s => match r[i]?, d with
    | some (.ow (.lst l)), .lst m => if lim (l.length + m.length ≤ SZ) then .ok .nx (r.set i (.ow (.lst (l ++ m)))) s else .bad
    | _, _ => .bad
  | _ => .bad
/-- x.pop() -/
@[simp] def ePop (i : Nat) : M D := fun r s => match r[i]? with
  | some (.ow (.lst l)) => match l.getLast? with
    | some d => .ok d (r.set i (.ow (.lst l.dropLast))) s
    | .none => .bad
  | _ => .bad

/-! ### a def -/
def startL (n : Nat) (ds : List D) : Env := ds.map .sh ++ List.replicate (n - ds.length) .no
/-- p parameters, n names, a body -/
def fnOf (p n : Nat) (b : S) : Fn := fun ds s => if ds.length = p then match b (startL n ds) s with
  | .ok .nx _ s => .ok .none s
  | .ok (.rt d) _ s => .ok d s
  | .ok _ _ _ => .bad
  | .exc x _ s => .exc x s
  | .bad => .bad
  else .bad
end
end Pk
/-! Pk1: the built-in operations on plain values. -/
namespace Pk
open PySem (Str)

noncomputable section
/-! ### equality -/
mutual
def D.eqv : D → D → Bool
  | .none, .none => true
  | .bool a, .bool b => a == b
  | .bool a, .int j => (if a then 1 else 0) == j
  | .int i, .bool b => i == (if b then 1 else 0)
  | .int i, .int j => i == j
  | .str x, .str y => x == y
  | .lst xs, .lst ys => eqvL xs ys
  | .tup xs, .tup ys => eqvL xs ys
  | _, _ => false
def eqvL : List D → List D → Bool
  | [], [] => true
  | x :: xs, y :: ys => D.eqv x y && eqvL xs ys
  | _, _ => false
end
/-- data: numbers, texts, lists and tuples of data, no deeper than n -/
def D.dep : Nat → D → Bool
  | _, .none => true
  | _, .bool _ => true
  | _, .int _ => true
  | _, .str x => x.cps.all (· < 0x110000)
  | n + 1, .lst l => l.all (D.dep n)
  | n + 1, .tup l => l.all (D.dep n)
  | _, _ => false
/-- script == [] -/
@[simp] def pScr0 : D → Option D
  | .scr l => some (.bool l.isEmpty)
  | _ => .none
@[simp] def pEq (x y : D) : Option D := if x.dep 64 && y.dep 64 then some (.bool (x.eqv y)) else .none
@[simp] def pNe (x y : D) : Option D := if x.dep 64 && y.dep 64 then some (.bool !(x.eqv y)) else .none

/-! ### numbers -/
@[simp] def pInt2 (f : Int → Int → D) (c : Int → Int → Bool) : D → D → Option D
  | .int i, .int j => if c i j then some (f i j) else .none
  | _, _ => .none
def big (i : Int) : Bool := lim (-(2 ^ 64) < i ∧ i < 2 ^ 64)
@[simp] def pSub : D → D → Option D := pInt2 (fun i j => .int (i - j)) fun _ _ => true
@[simp] def pMul : D → D → Option D := pInt2 (fun i j => .int (i * j)) fun i j => big i || big j
@[simp] def pFdiv : D → D → Option D := pInt2 (fun i j => .int (i / j)) fun _ j => lim (0 < j ∧ j < 1073741824)
@[simp] def pMod : D → D → Option D := pInt2 (fun i j => .int (i % j)) fun _ j => lim (0 < j)
@[simp] def pPow : D → D → Option D := pInt2 (fun i j => .int (i ^ j.toNat)) fun i j => lim (0 ≤ j ∧ j ≤ 1000000 ∧ i.natAbs < 2 ^ 64)
@[simp] def pLt : D → D → Option D := pInt2 (fun i j => .bool (decide (i < j))) fun _ _ => true
@[simp] def pLe : D → D → Option D := pInt2 (fun i j => .bool (decide (i ≤ j))) fun _ _ => true
@[simp] def pGt : D → D → Option D := pInt2 (fun i j => .bool (decide (j < i))) fun _ _ => true
@[simp] def pGe : D → D → Option D := pInt2 (fun i j => .bool (decide (j ≤ i))) fun _ _ => true
@[simp] def pNeg : D → Option D
  | .int i => some (.int (-i))
  | _ => .none
@[simp] def pAbs : D → Option D
  | .int i => some (.int (if i < 0 then -i else i))
  | _ => .none
@[simp] def pMax2 : D → D → Option D := pInt2 (fun i j => .int (if j > i then j else i)) fun _ _ => true
@[simp] def pMin2 : D → D → Option D := pInt2 (fun i j => .int (if j < i then j else i)) fun _ _ => true

/-! ### kinds -/
@[simp] def pIsInt : D → Option D
  | .int _ => some (.bool true)
  | .bool _ => some (.bool true)
  | .none => some (.bool false)
  | .str _ => some (.bool false)
  | .tup _ => some (.bool false)
  | .lst _ => some (.bool false)
  | _ => .none
@[simp] def pIsBool : D → Option D
  | .int _ => some (.bool false)
  | .bool _ => some (.bool true)
  | .none => some (.bool false)
  | .str _ => some (.bool false)
  | .tup _ => some (.bool false)
  | .lst _ => some (.bool false)
  | _ => .none
@[simp] def pIsTup : D → Option D
  | .int _ => some (.bool false)
  | .bool _ => some (.bool false)
  | .none => some (.bool false)
  | .str _ => some (.bool false)
  | .tup _ => some (.bool true)
  | .lst _ => some (.bool false)
  | _ => .none
@[simp] def pIsLst : D → Option D
  | .int _ => some (.bool false)
  | .bool _ => some (.bool false)
  | .none => some (.bool false)
  | .str _ => some (.bool false)
  | .tup _ => some (.bool false)
  | .lst _ => some (.bool true)
  | _ => .none
@[simp] def pIsStr : D → Option D
  | .int _ => some (.bool false)
  | .bool _ => some (.bool false)
  | .none => some (.bool false)
  | .str _ => some (.bool true)
  | .tup _ => some (.bool false)
  | .lst _ => some (.bool false)
  | _ => .none
/-- x is None -/
@[simp] def pIsN : D → Option D
  | .none => some (.bool true)
  | .int _ => some (.bool false)
  | .bool _ => some (.bool false)
  | .str _ => some (.bool false)
  | .tup _ => some (.bool false)
  | .lst _ => some (.bool false)
  | .dct _ _ => some (.bool false)
  | _ => .none
@[simp] def pNotN : D → Option D
  | .none => some (.bool false)
  | .int _ => some (.bool true)
  | .bool _ => some (.bool true)
  | .str _ => some (.bool true)
  | .tup _ => some (.bool true)
  | .lst _ => some (.bool true)
  | .dct _ _ => some (.bool true)
  | _ => .none
/-- x is b, of truth values -/
@[simp] def pIs2 : D → D → Option D
  | .bool a, .bool b => some (.bool (decide (a = b)))
  | _, _ => .none
@[simp] def pIsNot2 : D → D → Option D
  | .bool a, .bool b => some (.bool !(decide (a = b)))
  | _, _ => .none

/-! ### lists and tuples -/
def ixOf (n : Nat) (i : Int) : Option Nat := if 0 ≤ i then (if i < n then some i.toNat else .none) else if -(n : Int) ≤ i then some (i + n).toNat else .none
def getI (l : List D) (i : Int) : Option D := (ixOf l.length i).bind fun j => l[j]?
/-- x[i] -/
@[simp] def pIx : D → D → Option D
  | .lst l, .int i => getI l i
  | .tup l, .int i => getI l i
  | .scr l, .int i => (ixOf l.length i).bind fun j => (l[j]?).map .int
  | _, _ => .none
/-- len(x), also of the town -/
@[simp] def lenOf (s : Sto) : D → Option D
  | .lst l => some (.int l.length)
  | .tup l => some (.int l.length)
  | .scr l => some (.int l.length)
  | .town => s.t.map fun (n : Nat) => D.int (n : Int)
  | _ => .none
@[simp] def eLen (a : Opd) : M D := fun r s => (a.run r s).bind fun x r s => opt ((look r x).bind (lenOf s)) r s
/-- the place that a part of a slice means -/
def cutIx (n : Nat) (d : Nat) : Option Int → Nat
  | .none => d
  | some i => if i < 0 then (i + (n : Int)).toNat else min i.toNat n
def cutL (l : List D) (lo hi : Option Int) : List D := (l.drop (cutIx l.length 0 lo)).take (cutIx l.length l.length hi - cutIx l.length 0 lo)
/-- x + y: numbers, texts, lists, tuples -/
@[simp] def pAdd : D → D → Option D
  | .int i, .int j => some (.int (i + j))
  | .str x, .str y => if lim (x.cps.size + y.cps.size ≤ SZ) then some (.str ⟨x.cps ++ y.cps⟩) else .none
  | .lst l, .lst m => if lim (l.length + m.length ≤ SZ) then some (.lst (l ++ m)) else .none
  | .tup l, .tup m => if lim (l.length + m.length ≤ SZ) then some (.tup (l ++ m)) else .none
  | _, _ => .none
@[simp] def pAddL : D → D → Option D
  | .lst l, .lst m => if lim (l.length + m.length ≤ SZ) then some (.lst (l ++ m)) else .none
  | _, _ => .none
/-- x[::-1] of a list -/
@[simp] def pRevL : D → Option D
  | .lst l => some (.lst l.reverse)
  | _ => .none
/-- tuple(x), list(x) -/
@[simp] def pTup : D → Option D
  | .lst l => some (.tup l)
  | .tup l => some (.tup l)
  | _ => .none
@[simp] def pList : D → Option D
  | .lst l => some (.lst l)
  | .tup l => some (.lst l)
  | _ => .none
def pRepT : D → D → Option D
  | .tup l, .int k => if lim (l ≠ [] ∧ 2 ≤ k ∧ k ≤ 1000 ∧ l.length ≤ 1000) then some (.tup (List.replicate k.toNat l).flatten) else .none
  | _, _ => .none
@[simp] def pIn : D → D → Option D
  | d, .lst l => if d.dep 64 && D.dep 64 (.lst l) then some (.bool (l.any fun z => z.eqv d)) else .none
  | _, _ => .none
@[simp] def pNotIn : D → D → Option D
  | d, .lst l => if d.dep 64 && D.dep 64 (.lst l) then some (.bool !(l.any fun z => z.eqv d)) else .none
  | _, _ => .none
def intsOf : List D → Option (List Int)
  | [] => some []
  | .int i :: l => (intsOf l).map (i :: ·)
  | _ :: _ => .none
def boolsOf : List D → Option (List Bool)
  | [] => some []
  | .bool i :: l => (boolsOf l).map (i :: ·)
  | _ :: _ => .none
def pAll : D → Option D
  | .lst l => (boolsOf l).map fun bs => .bool (bs.all id)
  | _ => .none
def pSum : D → Option D
  | .lst l => (intsOf l).map fun bs => .int bs.sum
  | _ => .none
end
end Pk
/-! Pk2: order of data; sorted, min, max of a list of data. -/
namespace Pk
open PySem (Str)
noncomputable section
abbrev Tok := Int ⊕ List Nat
mutual
def D.toks : D → List Tok
  | .bool b => [.inl (if b = true then 1 else 0)]
  | .int n => [.inl n]
  | .str x => [.inr x.cps.toList]
  | .lst xs => toksL xs
  | .tup xs => toksL xs
  | _ => []
def toksL : List D → List Tok
  | [] => [.inl 0]
  | x :: xs => .inl 1 :: (D.toks x ++ toksL xs)
end
def tokLt : Tok → Tok → Bool
  | .inl a, .inl b => decide (a < b)
  | .inl _, .inr _ => true
  | .inr _, .inl _ => false
  | .inr a, .inr b => decide (a < b)
def toksLt : List Tok → List Tok → Bool
  | [], [] => false
  | [], _ :: _ => true
  | _ :: _, [] => false
  | x :: r, y :: t => tokLt x y || (!tokLt y x && toksLt r t)
def D.lt (x y : D) : Bool := toksLt x.toks y.toks
mutual
/-- the two can be compared, place by place -/
def D.alk : D → D → Bool
  | .bool _, .bool _ => true
  | .int _, .int _ => true
  | .str _, .str _ => true
  | .lst xs, .lst ys => alkL xs ys
  | .tup xs, .tup ys => alkL xs ys
  | _, _ => false
def alkL : List D → List D → Bool
  | x :: xs, y :: ys => D.alk x y && alkL xs ys
  | [], _ => true
  | _ :: _, [] => true
end
def D.tupNe : D → Bool
  | .tup (_ :: _) => true
  | _ => false
def D.notTup : D → Bool
  | .bool _ => true
  | .int _ => true
  | .str _ => true
  | .lst _ => true
  | _ => false
def allAlk (l : List D) : Bool := l.all fun x => l.all fun y => x.alk y
def ordOk (l : List D) : Bool := l.all (D.dep 62) && allAlk l
def sortOk (l : List D) : Bool := ordOk l && (l.all D.tupNe || l.all D.notTup)
def leD (x y : D) : Bool := !(y.lt x)
/-- sorted(x) -/
def pSorted : D → Option D
  | .lst l => if sortOk l then some (.lst (l.mergeSort leD)) else .none
  | _ => .none
def minD (x : D) (l : List D) : D := l.foldl (fun a y => if y.lt a then y else a) x
/-- min(x), max(x) -/
def pMinD : D → Option D
  | .lst (x :: l) => if ordOk (x :: l) then some (minD x l) else .none
  | .tup (x :: l) => if ordOk (x :: l) then some (minD x l) else .none
  | _ => .none
/-- enumerate(x) of a list, a tuple -/
@[simp] def iEnumA (m : M D) : It := fun r s => (m r s).bind fun d r s => match d with
  | .lst l => .ok (numbered l) r s
  | .tup l => .ok (numbered l) r s
  | _ => .bad
/-- x[::-1] -/
@[simp] def pRev : D → Option D
  | .lst l => some (.lst l.reverse)
  | .tup l => some (.tup l.reverse)
  | _ => .none
/-- reversed(range(n)) -/
@[simp] def iRevR1 (a : M D) : It := fun r s => (a r s).bind fun d r s => match d with
  | .int j => if small j && lim (j ≤ (SZ : Int)) then .ok ((List.range j.toNat).map fun (k : Nat) => .int (j - 1 - (k : Int))) r s else .bad
  | _ => .bad
/-- x[lo:hi] -/
@[simp] def eOpt : Option (M D) → M (Option Int)
  | .none => fun r s => .ok .none r s
  | some m => fun r s => (m r s).bind fun d r s => match d with
    | .int i => .ok (some i) r s
    | _ => .bad
@[simp] def pCut (d : D) (lo hi : Option Int) : Option D := match d with
  | .lst l => some (.lst (cutL l lo hi))
  | .tup l => some (.tup (cutL l lo hi))
  | _ => .none
@[simp] def eCut (a : Opd) (lo hi : Option (M D)) : M D := fun r s => (a.run r s).bind fun x r s => (eOpt lo r s).bind fun l r s => (eOpt hi r s).bind fun h r s => opt ((look r x).bind fun d => pCut d l h) r s
/-- zip(x, y) of two lists, two tuples -/
@[simp] def iZip (a c : M D) : It := fun r s => (eL [a, c] r s).bind fun ds r s => match ds with
  | [.lst l, .lst m] => .ok (paired l m) r s
  | [.tup l, .tup m] => .ok (paired l m) r s
  | _ => .bad
end
end Pk
/-! Pk3: try; calls of one of several defs. -/
namespace Pk
open PySem (Str)
noncomputable section
inductive Hk where
  | no | cell | cell4 | peak3
/-- x * y of numbers, of a tuple and a number -/
@[simp] def pMulT : D → D → Option D
  | .tup l, .int k => pRepT (.tup l) (.int k)
  | a, b => pMul a b
/-- dict(x) of pairs whose keys are tuples of numbers, no two of which are equal -/
def pairsOf : List D → Option (List (List Int) × List D)
  | [] => some ([], [])
  | .tup [.tup k, v] :: l => (intsOf k).bind fun ks => (pairsOf l).map fun r => (ks :: r.1, v :: r.2)
  | _ :: _ => .none
def pDict : D → Option D
  | .lst l => (pairsOf l).bind fun r => if lim (r.1.Nodup) then some (.dct (r.1.map .t) r.2) else .none
  | _ => .none
/-- x[k] of a dict -/
def keyOf : D → Option Ky
  | .tup l => (intsOf l).map .t
  | _ => .none
def dctGet (ks : List Ky) (ds : List D) (k : Ky) : Option D := ((ks.zip ds).find? fun p => decide (p.1 = k)).map (·.2)
def pIxD : D → D → Option D
  | .dct ks ds, k => (keyOf k).bind fun k => dctGet ks ds k
  | _, _ => .none
/-! ### dicts with keys that are tuples of numbers -/
def isTK : Ky → Bool
  | .t l => lim (l.length ≤ 8)
  | _ => false
def kyD : Ky → D
  | .t l => .tup (l.map .int)
  | .i n => .int n
def eDct0 : M D := fun r s => .ok (.dct [] []) r s
def eDct1 (mk mv : M D) : M D := fun r s => (mk r s).bind fun k r s => (mv r s).bind fun v r s => match keyOf k with
  | some k => .ok (.dct [k] [v]) r s
  | .none => .bad
def putKs (ks : List Ky) (k : Ky) : List Ky := if k ∈ ks then ks else ks ++ [k]
def putDs (ks : List Ky) (ds : List D) (k : Ky) (v : D) : List D := if k ∈ ks then (ks.zip ds).map fun p => if p.1 = k then v else p.2 else ds ++ [v]
/-- d[k] = v -/
def sPutD (i : Nat) (mk mv : M D) : S := fun r s => (mv r s).bind fun v r s => match r[i]? with
  | some (.ow (.dct _ _)) => (mk r s).bind fun k r s => (match r[i]?, keyOf k with
    | some (.ow (.dct ks ds)), some k => if lim (ks.length < SZ) && ks.all isTK then .ok .nx (r.set i (.ow (.dct (putKs ks k) (putDs ks ds k v)))) s else .bad
    | _, _ => .bad)
  | _ => .bad
/-- k in d, k not in d -/
def pInD (k d : D) : Option D := match d with
  | .dct ks _ => if ks.all isTK then (keyOf k).map fun k => .bool (decide (k ∈ ks)) else .none
  | _ => .none
def pNotInD (k d : D) : Option D := match d with
  | .dct ks _ => if ks.all isTK then (keyOf k).map fun k => .bool !(decide (k ∈ ks)) else .none
  | _ => .none
/-- list(d) -/
def pLstD : D → Option D
  | .dct ks _ => if ks.all isTK then some (.lst (ks.map kyD)) else .none
  | _ => .none
/-- d.get(k, x) -/
def pGetD (d k x : D) : Option D := match d with
  | .dct ks ds => if ks.all isTK then (keyOf k).map fun k => (dctGet ks ds k).getD x else .none
  | _ => .none
def eGetD (i : Nat) (mk mx : M D) : M D := fun r s => match look r (.inr i) with
  | some (.dct ks _) => if ks.all isTK then (eL [mk, mx] r s).bind fun xs r s => (match xs with
    | [k, x] => opt ((look r (.inr i)).bind fun d => pGetD d k x) r s
    | _ => .bad) else .bad
  | _ => .bad
/-- d[k], y = a, c -/
def sPut2 (i j : Nat) (mk ma mc : M D) : S := fun r s => (eL [ma, mc] r s).bind fun xs r s => match xs with
  | [v, w] => (match r[i]? with
    | some (.ow (.dct _ _)) => (mk r s).bind fun k r s => (match r[i]?, keyOf k with
      | some (.ow (.dct ks ds)), some k => if lim (ks.length < SZ) && ks.all isTK then .ok .nx ((r.set i (.ow (.dct (putKs ks k) (putDs ks ds k v)))).set j (.sh w)) s else .bad
      | _, _ => .bad)
    | _ => .bad)
  | _ => .bad
/-- sorted(set(x)) of numbers, of cells -/
def insI (x : Int) : List Int → List Int
  | [] => [x]
  | y :: l => if x < y then x :: y :: l else if x = y then y :: l else y :: insI x l
def sortI (l : List Int) : List Int := l.foldr insI []
def pSortSetI : D → Option D
  | .lst l => (intsOf l).bind fun ns => if lim (l.length < 63) then some (.lst ((sortI ns).map .int)) else .none
  | _ => .none
/-! ### lambdas -/
/-- what a lambda captures: the slots of this frame -/
def capL (r : Env) : List Nat → Option (List D)
  | [] => some []
  | j :: js => match r[j]? with
    | some (.sh d) => (capL r js).map (d :: ·)
    | _ => .none
/-- a lambda with p parameters, n names in all, its body; caps: what it captured -/
def lamFn (p n : Nat) (m : M D) (caps : List D) : Fn := fun ds s => if ds.length = p then match m (startL n (ds ++ caps)) s with
  | .ok d _ s => .ok d s
  | .exc x _ s => .exc x s
  | .bad => .bad
  else .bad
/-- the keys of items, one after the other -/
def keyGo (F : Fn) : List D → Sto → Option (List D × Sto)
  | [], s => some ([], s)
  | d :: l, s => match F [d] s with
    | .ok k s => (keyGo F l s).map fun r => (k :: r.1, r.2)
    | _ => .none
end
end Pk
/-! Pk4: sorted lists without two that are equal. -/
namespace Pk
/-! ### sorted(set(x)) -/
theorem insI_mem (x y : Int) : ∀ l : List Int, y ∈ insI x l ↔ y = x ∨ y ∈ l
  | [] => by simp [insI]
  | z :: l => by
    unfold insI
    split
    · simp
    · split
      · rename_i h; subst h; simp
      · simp only [List.mem_cons, insI_mem x y l]
        exact ⟨fun h => h.elim (fun h => .inr (.inl h)) (fun h => h.elim .inl fun h => .inr (.inr h)), fun h => h.elim (fun h => .inr (.inl h)) (fun h => h.elim .inl fun h => .inr (.inr h))⟩
theorem insI_sorted (x : Int) : ∀ l : List Int, l.Pairwise (· < ·) → (insI x l).Pairwise (· < ·)
  | [], _ => by simp [insI]
  | z :: l, h => by
    obtain ⟨h1, h2⟩ := List.pairwise_cons.mp h
    unfold insI
    split
    · rename_i hx
      refine List.pairwise_cons.mpr ⟨fun y hy => ?_, h⟩
      rcases List.mem_cons.mp hy with e | e
      · rw [e]; exact hx
      · have := h1 y e; omega
    · split
      · exact h
      · rename_i n1 n2
        refine List.pairwise_cons.mpr ⟨fun y hy => ?_, insI_sorted x l h2⟩
        rcases (insI_mem x y l).mp hy with e | e
        · rw [e]; omega
        · exact h1 y e
theorem sortI_mem (y : Int) : ∀ l : List Int, y ∈ sortI l ↔ y ∈ l
  | [] => by simp [sortI]
  | x :: l => by
    have := sortI_mem y l
    unfold sortI at this ⊢
    rw [List.foldr_cons, insI_mem, List.mem_cons, this]
theorem sortI_sorted : ∀ l : List Int, (sortI l).Pairwise (· < ·)
  | [] => by simp [sortI]
  | x :: l => insI_sorted x _ (sortI_sorted l)
theorem sorted_ext {α : Type} {r : α → α → Prop} (ir : ∀ a, ¬ r a a) (as : ∀ a c, r a c → ¬ r c a) : ∀ {l m : List α}, l.Pairwise r → m.Pairwise r → (∀ y, y ∈ l ↔ y ∈ m) → l = m
  | [], [], _, _, _ => rfl
  | [], y :: m, _, _, h => by have := (h y).mpr List.mem_cons_self; cases this
  | x :: l, [], _, _, h => by have := (h x).mp List.mem_cons_self; cases this
  | x :: l, y :: m, hl, hm, h => by
    obtain ⟨l1, l2⟩ := List.pairwise_cons.mp hl
    obtain ⟨m1, m2⟩ := List.pairwise_cons.mp hm
    have e : x = y := by
      rcases List.mem_cons.mp ((h x).mp List.mem_cons_self) with e | e
      · exact e
      · rcases List.mem_cons.mp ((h y).mpr List.mem_cons_self) with e' | e'
        · exact e'.symm
        · exact absurd (l1 y e') (as _ _ (m1 x e))
    subst e
    have := sorted_ext ir as l2 m2 fun y => by
      have hy := h y
      constructor
      · intro q
        rcases List.mem_cons.mp (hy.mp (List.mem_cons_of_mem _ q)) with e | e
        · subst e; exact absurd (l1 y q) (ir _)
        · exact e
      · intro q
        rcases List.mem_cons.mp (hy.mpr (List.mem_cons_of_mem _ q)) with e | e
        · subst e; exact absurd (m1 y q) (ir _)
        · exact e
    rw [this]
end Pk
/-! Br0: plain values stand in the abstract heap; what a def's frame knows; the judgements DE, DS, DT over the layer's PE, PS, PT. -/
namespace Pk
open PySem PySem.Spec PyProof.Rows L2

/-- who alone may change the thing at an address -/
inductive Lab where
  | town | inst (n : Nat) | idct (n : Nat) | fld (n : Nat) (f : Str) | tab (n : Nat) | loc (i : Nat) | out
  deriving DecidableEq
abbrev Lb := Addr → Option Lab
def Lab.isLoc : Lab → Bool
  | .loc _ => true
  | _ => false
def Lab.isSto : Lab → Bool
  | .loc _ => false
  | .out => false
  | _ => true
/-- a lambda of the text: its def's name, its words, the names that it captures -/
structure Lm where
  qual : Str
  params : Arguments
  body : Expr
  scope : Scope
  fr : List Str
/-- what the top left: where the defs and classes stand -/
structure Cn where
  K : PySem.W.Frag
  fn : Nat → Addr
  cls : Nat → Addr
  gr : Addr
  tb : List (Addr × Str)
  lm : Nat → Lm
/-- the object at f is the lambda m with the cells cl; the object at c is o -/
def LamO (f : Addr) (m : Lm) (cl : List (Str × Addr)) (c : Addr) : HO := .ext fun h => ∃ pm ctv, h.get? f = some (PySem.W.kla_obj "<lambda>" m.qual m.params m.body m.scope cl pm c ctv)
def CelO (c : Addr) (o : Obj) : HO := .ext fun h => h.get? c = some o

def KLst (K : PySem.W.Frag) (a : Addr) (vs : List V) : Prop :=
  ∃ (o : Obj) (its : Array Value) (n : Nat), K.lookup a = some o ∧ o.cls = .type "list" ∧ o.dict = none ∧ o.data = .seq its n ∧ its.size ≤ sizeLine ∧ Vals vs its.toList
/-- a list, a tuple that nobody changes; the script -/
def NL (lb : Lb) (H : Hp) (a : Addr) (vs : List V) : Prop := lb a = none ∧ H a = some (.lst vs)
def NT (lb : Lb) (H : Hp) (a : Addr) (vs : List V) : Prop := lb a = none ∧ H a = some (.tup vs)
def NS (K : PySem.W.Frag) (lb : Lb) (H : Hp) (a : Addr) (vs : List V) : Prop := (lb a = none ∧ Rd H a (.lst vs)) ∨ KLst K a vs
theorem NL.sq {K : PySem.W.Frag} {lb : Lb} {H : Hp} {a : Addr} {vs : List V} (h : NL lb H a vs) : SqL K H a vs := .of h.2
theorem NT.sq {K : PySem.W.Frag} {lb : Lb} {H : Hp} {a : Addr} {vs : List V} (h : NT lb H a vs) : SqT K H a vs := .of h.2
theorem NS.sq {K : PySem.W.Frag} {lb : Lb} {H : Hp} {a : Addr} {vs : List V} (h : NS K lb H a vs) : SqL K H a vs := h.elim (fun x => .inl x.2) .inr

/-- what may be marked: no tuple -/
def Nt : HO → Prop
  | .tup _ => False
  | _ => True
/-- what the captured cells hold -/
structure CelR (lb : Lb) (H : Hp) (fr : List Str) (cl : List (Str × Addr)) (ws : List V) : Prop where
  len : ws.length = fr.length
  sub : ∀ y c, cl.lookup y = some c → y ∈ fr
  inj : ∀ x y c, cl.lookup x = some c → cl.lookup y = some c → x = y
  at_ : ∀ (i : Nat) (y : Str), fr[i]? = some y → ∃ c o u v, cl.lookup y = some c ∧ lb c = none ∧ H c = some (CelO c o) ∧ o.data = .cell (some u) ∧ ws[i]? = some v ∧ L2.RelV v u
/-- a table of code objects -/
def TabL (lb : Lb) (H : Hp) (P : Addr) (q : Str) : Prop := ∃ ps : Array Value, H P = some (.tbl ps) ∧ TriplesOk ps.toList ∧ ∀ (pos : Pos) (cv : Value), codeAmong pos ps.toList = some cv → ∃ c, cv = .ref c ∧ lb c = none ∧ H c = some (LamX.CodeO c q)
mutual
def Rep (cn : Cn) (lb : Lb) (H : Hp) : D → V → Prop
  | .none, v => v = .non
  | .bool b, v => v = .bl b
  | .int i, v => v = .int i
  | .str x, v => v = .str x
  | .tup l, v => ∃ a vs, v = .ref a ∧ NT lb H a vs ∧ l.length ≤ SZ ∧ RepL cn lb H l vs
  | .lst l, v => ∃ a vs, v = .ref a ∧ NL lb H a vs ∧ l.length ≤ SZ ∧ RepL cn lb H l vs
  | .dct ks ds, v => ∃ a vs, v = .ref a ∧ lb a = none ∧ ks.length ≤ SZ ∧ RepL cn lb H ds vs ∧ ks.length = vs.length ∧ ks.Nodup ∧
      ((∃ js : List (List Int), ks = js.map .t ∧ Rd H a (.dT ((js.map fun j => j.map Sum.inl).zip vs))) ∨ (∃ js : List Int, (ks = js.map .i ∧ ks ≠ []) ∧ Rd H a (.dK ((js.map Sum.inl).zip vs))))
  | .fn k, v => v = .ref (cn.fn k)
  | .clo k l, v => ∃ f cl c ws, v = .ref f ∧ (lb f = none ∧ H f = some (LamO f (cn.lm k) cl c)) ∧ (lb c = none ∧ H c = some (LamX.CodeO c (cn.lm k).qual)) ∧ CelR lb H (cn.lm k).fr cl ws ∧ RepL cn lb H l ws
  | .town, v => ∃ a, v = .ref a ∧ lb a = some .town
  | .obj n, v => ∃ a, v = .ref a ∧ lb a = some (.inst n)
  | .scr l, v => ∃ a, v = .ref a ∧ NS cn.K lb H a (l.map V.int) ∧ l.length ≤ SZ
def RepL (cn : Cn) (lb : Lb) (H : Hp) : List D → List V → Prop
  | [], vs => vs = []
  | d :: ds, vs => ∃ v r, vs = v :: r ∧ Rep cn lb H d v ∧ RepL cn lb H ds r
end

/-- the heap goes on: what nobody may change stands; the callers' own things stand; a thing that is newly marked is new -/
structure Stp (lb : Lb) (H : Hp) (lb' : Lb) (H' : Hp) : Prop where
  keep : ∀ a o, H a = some o → lb a = none → H' a = some o
  out : ∀ a, lb a = some .out → lb' a = some .out ∧ H' a = H a
  new : ∀ a, lb' a ≠ none → lb a ≠ none ∨ H a = none
  sto : ∀ a l, lb a = some l → l.isSto = true → lb' a = some l
  dom : ∀ a, H a ≠ none → H' a ≠ none
theorem Stp.refl {lb : Lb} {H : Hp} : Stp lb H lb H := ⟨fun _ _ h _ => h, fun _ h => ⟨h, rfl⟩, fun _ h => .inl h, fun _ _ h _ => h, fun _ h => h⟩
theorem Stp.trans {l1 l2 l3 : Lb} {H1 H2 H3 : Hp} (a : Stp l1 H1 l2 H2) (b : Stp l2 H2 l3 H3) : Stp l1 H1 l3 H3 where
  keep := fun x o h n => by
    have h2 := a.keep x o h n
    refine b.keep x o h2 ?_
    cases q : l2 x with
    | none => rfl
    | some l =>
      rcases a.new x (by rw [q]; simp) with z | z
      · exact absurd n z
      · rw [h] at z; cases z
  out := fun x h => by
    obtain ⟨h2, e2⟩ := a.out x h
    obtain ⟨h3, e3⟩ := b.out x h2
    exact ⟨h3, e3.trans e2⟩
  new := fun x h => by
    rcases b.new x h with z | z
    · exact a.new x z
    · cases q : H1 x with
      | none => exact .inr rfl
      | some o => exact absurd z (a.dom x (by rw [q]; simp))
  sto := fun x l h i => b.sto x l (a.sto x l h i) i
  dom := fun x h => b.dom x (a.dom x h)
/-- nothing that stands is changed -/
def Ext (H H' : Hp) : Prop := ∀ a o, H a = some o → H' a = some o
theorem Ext.refl {H : Hp} : Ext H H := fun _ _ h => h
theorem Ext.trans {H1 H2 H3 : Hp} (a : Ext H1 H2) (b : Ext H2 H3) : Ext H1 H3 := fun x o h => b x o (a x o h)
theorem Ext.upd {H : Hp} {p : Addr} {o : HO} (h : H p = none) : Ext H (L2.upd H p o) := fun b x e => by
  rw [upd_ne (ne_of_none e h)]
  exact e

/-- what alone a value's standing asks -/
structure Stq (lb : Lb) (H : Hp) (lb' : Lb) (H' : Hp) : Prop where
  keep : ∀ a o, H a = some o → lb a = none → H' a = some o
  new : ∀ a, lb' a ≠ none → lb a ≠ none ∨ H a = none
  sto : ∀ a l, lb a = some l → l.isSto = true → lb' a = some l
theorem Stp.q {lb lb' : Lb} {H H' : Hp} (s : Stp lb H lb' H') : Stq lb H lb' H' := ⟨s.keep, s.new, s.sto⟩
theorem Stq.none {lb lb' : Lb} {H H' : Hp} (s : Stq lb H lb' H') {a : Addr} {o : HO} (h : H a = some o) (n : lb a = none) : lb' a = none := by
  cases q : lb' a with
  | none => rfl
  | some l =>
    rcases s.new a (by rw [q]; simp) with z | z
    · exact absurd n z
    · rw [h] at z; cases z
theorem Stq.rd {lb lb' : Lb} {H H' : Hp} (s : Stq lb H lb' H') {a : Addr} {u : HO} (n : lb a = Option.none) (h : Rd H a u) : lb' a = Option.none ∧ Rd H' a u := by
  rcases h with h | ⟨o, h⟩
  · exact ⟨s.none h n, .inl (s.keep a _ h n)⟩
  · exact ⟨s.none h n, .inr ⟨o, s.keep a _ h n⟩⟩

theorem NL.stq {lb lb' : Lb} {H H' : Hp} {a : Addr} {vs : List V} (h : NL lb H a vs) (s : Stq lb H lb' H') : NL lb' H' a vs := ⟨s.none h.2 h.1, s.keep a _ h.2 h.1⟩
theorem NT.stq {lb lb' : Lb} {H H' : Hp} {a : Addr} {vs : List V} (h : NT lb H a vs) (s : Stq lb H lb' H') : NT lb' H' a vs := ⟨s.none h.2 h.1, s.keep a _ h.2 h.1⟩
theorem NS.stq {K : PySem.W.Frag} {lb lb' : Lb} {H H' : Hp} {a : Addr} {vs : List V} (h : NS K lb H a vs) (s : Stq lb H lb' H') : NS K lb' H' a vs := by
  rcases h with ⟨n, h⟩ | h
  · exact .inl (s.rd n h)
  · exact .inr h
theorem CelR.stq {lb lb' : Lb} {H H' : Hp} {fr : List Str} {cl : List (Str × Addr)} {ws : List V} (h : CelR lb H fr cl ws) (s : Stq lb H lb' H') : CelR lb' H' fr cl ws :=
  ⟨h.len, h.sub, h.inj, fun i y e => by
    obtain ⟨c, o, u, v, h1, h2, h3, h4⟩ := h.at_ i y e
    exact ⟨c, o, u, v, h1, s.none h3 h2, s.keep c _ h3 h2, h4⟩⟩
mutual
theorem Rep.stq {cn : Cn} {lb lb' : Lb} {H H' : Hp} (s : Stq lb H lb' H') : ∀ {d : D} {v : V}, Rep cn lb H d v → Rep cn lb' H' d v
  | .none, v, h => by simpa only [Rep] using h
  | .bool b, v, h => by simpa only [Rep] using h
  | .int b, v, h => by simpa only [Rep] using h
  | .str b, v, h => by simpa only [Rep] using h
  | .tup l, v, h => by
    simp only [Rep] at h ⊢
    obtain ⟨a, vs, e, n, z, r⟩ := h
    exact ⟨a, vs, e, n.stq s, z, RepL.stq s r⟩
  | .lst l, v, h => by
    simp only [Rep] at h ⊢
    obtain ⟨a, vs, e, n, z, r⟩ := h
    exact ⟨a, vs, e, n.stq s, z, RepL.stq s r⟩
  | .dct ks ds, v, h => by
    simp only [Rep] at h ⊢
    obtain ⟨a, vs, e, n, z, r, l, nd, c⟩ := h
    rcases c with ⟨js, e1, e2⟩ | ⟨js, e1, e2⟩
    · exact ⟨a, vs, e, (s.rd n e2).1, z, RepL.stq s r, l, nd, .inl ⟨js, e1, (s.rd n e2).2⟩⟩
    · exact ⟨a, vs, e, (s.rd n e2).1, z, RepL.stq s r, l, nd, .inr ⟨js, e1, (s.rd n e2).2⟩⟩
  | .fn b, v, h => by simpa only [Rep] using h
  | .clo k l, v, h => by
    simp only [Rep] at h ⊢
    obtain ⟨f, cl, c, ws, e, ⟨f1, f2⟩, ⟨c1, c2⟩, cr, r⟩ := h
    exact ⟨f, cl, c, ws, e, ⟨s.none f2 f1, s.keep f _ f2 f1⟩, ⟨s.none c2 c1, s.keep c _ c2 c1⟩, cr.stq s, RepL.stq s r⟩
  | .town, v, h => by
    simp only [Rep] at h ⊢
    obtain ⟨a, e, n⟩ := h
    exact ⟨a, e, s.sto a _ n rfl⟩
  | .obj k, v, h => by
    simp only [Rep] at h ⊢
    obtain ⟨a, e, n⟩ := h
    exact ⟨a, e, s.sto a _ n rfl⟩
  | .scr l, v, h => by
    simp only [Rep] at h ⊢
    obtain ⟨a, e, n, z⟩ := h
    exact ⟨a, e, n.stq s, z⟩
theorem RepL.stq {cn : Cn} {lb lb' : Lb} {H H' : Hp} (s : Stq lb H lb' H') : ∀ {ds : List D} {vs : List V}, RepL cn lb H ds vs → RepL cn lb' H' ds vs
  | [], vs, h => by simpa only [RepL] using h
  | d :: ds, vs, h => by
    simp only [RepL] at h ⊢
    obtain ⟨v, r, e, h1, h2⟩ := h
    exact ⟨v, r, e, Rep.stq s h1, RepL.stq s h2⟩
end
theorem Rep.stp {cn : Cn} {lb lb' : Lb} {H H' : Hp} (s : Stp lb H lb' H') {d : D} {v : V} (h : Rep cn lb H d v) : Rep cn lb' H' d v := Rep.stq s.q h
theorem RepL.stp {cn : Cn} {lb lb' : Lb} {H H' : Hp} (s : Stp lb H lb' H') {d : List D} {v : List V} (h : RepL cn lb H d v) : RepL cn lb' H' d v := RepL.stq s.q h
theorem RepL.length {cn : Cn} {lb : Lb} {H : Hp} : ∀ {ds : List D} {vs : List V}, RepL cn lb H ds vs → ds.length = vs.length
  | [], vs, h => by simp only [RepL] at h; rw [h]; rfl
  | d :: ds, vs, h => by
    simp only [RepL] at h
    obtain ⟨v, r, e, _, h2⟩ := h
    rw [e, List.length_cons, List.length_cons, RepL.length h2]
theorem RepL.get {cn : Cn} {lb : Lb} {H : Hp} : ∀ {ds : List D} {vs : List V} {i : Nat} {d : D}, RepL cn lb H ds vs → ds[i]? = some d → ∃ v, vs[i]? = some v ∧ Rep cn lb H d v
  | [], vs, _, _, _, e => by simp at e
  | d :: ds, vs, 0, x, h, e => by
    simp only [RepL] at h
    obtain ⟨v, r, e1, h1, _⟩ := h
    simp at e
    subst e
    exact ⟨v, by rw [e1]; rfl, h1⟩
  | d :: ds, vs, i + 1, x, h, e => by
    simp only [RepL] at h
    obtain ⟨v, r, e1, _, h2⟩ := h
    obtain ⟨u, q1, q2⟩ := RepL.get (i := i) h2 (by simpa using e)
    exact ⟨u, by rw [e1]; simpa using q1, q2⟩
theorem RepL.append {cn : Cn} {lb : Lb} {H : Hp} : ∀ {ds es : List D} {vs us : List V}, RepL cn lb H ds vs → RepL cn lb H es us → RepL cn lb H (ds ++ es) (vs ++ us)
  | [], es, vs, us, h, g => by simp only [RepL] at h; rw [h]; exact g
  | d :: ds, es, vs, us, h, g => by
    simp only [RepL, List.cons_append] at h ⊢
    obtain ⟨v, r, e, h1, h2⟩ := h
    exact ⟨v, r ++ us, by rw [e]; rfl, h1, RepL.append h2 g⟩
theorem RepL.nil {cn : Cn} {lb : Lb} {H : Hp} : RepL cn lb H [] [] := by simp only [RepL]
theorem RepL.cons {cn : Cn} {lb : Lb} {H : Hp} {d : D} {ds : List D} {v : V} {vs : List V} (h : Rep cn lb H d v) (g : RepL cn lb H ds vs) : RepL cn lb H (d :: ds) (v :: vs) := by
  simp only [RepL]; exact ⟨v, vs, rfl, h, g⟩
theorem RepL.one {cn : Cn} {lb : Lb} {H : Hp} {d : D} {v : V} (h : Rep cn lb H d v) : RepL cn lb H [d] [v] := .cons h .nil
theorem RepL.take {cn : Cn} {lb : Lb} {H : Hp} : ∀ {ds : List D} {vs : List V} (n : Nat), RepL cn lb H ds vs → RepL cn lb H (ds.take n) (vs.take n)
  | _, _, 0, _ => by simp only [List.take_zero]; exact .nil
  | [], vs, n + 1, h => by simp only [RepL] at h; rw [h]; exact .nil
  | d :: ds, vs, n + 1, h => by
    simp only [RepL] at h
    obtain ⟨v, r, e, h1, h2⟩ := h
    rw [e]
    exact .cons h1 (RepL.take n h2)
theorem RepL.drop {cn : Cn} {lb : Lb} {H : Hp} : ∀ {ds : List D} {vs : List V} (n : Nat), RepL cn lb H ds vs → RepL cn lb H (ds.drop n) (vs.drop n)
  | ds, vs, 0, h => h
  | [], vs, n + 1, h => by simp only [RepL] at h; rw [h]; exact .nil
  | d :: ds, vs, n + 1, h => by
    simp only [RepL] at h
    obtain ⟨v, r, e, h1, h2⟩ := h
    rw [e]
    exact RepL.drop n h2
theorem RepL.reverse {cn : Cn} {lb : Lb} {H : Hp} : ∀ {ds : List D} {vs : List V}, RepL cn lb H ds vs → RepL cn lb H ds.reverse vs.reverse
  | [], vs, h => by simp only [RepL] at h; rw [h]; exact .nil
  | d :: ds, vs, h => by
    simp only [RepL] at h
    obtain ⟨v, r, e, h1, h2⟩ := h
    rw [e, List.reverse_cons, List.reverse_cons]
    exact (RepL.reverse h2).append (.one h1)
end Pk
/-! Br1: what a frame knows (BOk), and how it goes on. -/
namespace Pk
open PySem PySem.Spec PyProof.Rows L2

/-- what stands at an address that one alone may change -/
def OwnO (cn : Cn) (lb : Lb) (H : Hp) : D → HO → Prop
  | .lst l, o => ∃ vs, o = .lst vs ∧ l.length ≤ SZ ∧ RepL cn lb H l vs
  | .dct ks ds, o => ∃ vs, ks.length ≤ SZ ∧ RepL cn lb H ds vs ∧ ks.length = vs.length ∧ ks.Nodup ∧
      ((∃ js : List (List Int), ks = js.map .t ∧ o = .dT ((js.map fun j => j.map Sum.inl).zip vs)) ∨ (∃ js : List Int, (ks = js.map .i ∧ ks ≠ []) ∧ o = .dK ((js.map Sum.inl).zip vs)))
  | _, _ => False
theorem OwnO.stq {cn : Cn} {lb lb' : Lb} {H H' : Hp} {d : D} {o : HO} (h : OwnO cn lb H d o) (s : Stq lb H lb' H') : OwnO cn lb' H' d o := by
  cases d with
  | lst l => obtain ⟨vs, e, z, r⟩ := h; exact ⟨vs, e, z, r.stq s⟩
  | dct ks ds => obtain ⟨vs, z, r, l, nd, c⟩ := h; exact ⟨vs, z, r.stq s, l, nd, c⟩
  | _ => exact h.elim
theorem OwnO.stp {cn : Cn} {lb lb' : Lb} {H H' : Hp} {d : D} {o : HO} (h : OwnO cn lb H d o) (s : Stp lb H lb' H') : OwnO cn lb' H' d o := h.stq s.q
theorem OwnO.rep {cn : Cn} {lb : Lb} {H : Hp} {d : D} {o : HO} {a : Addr} (h : OwnO cn lb H d o) (n : lb a = none) (e : H a = some o) : Rep cn lb H d (.ref a) := by
  cases d with
  | lst l =>
    obtain ⟨vs, rfl, z, r⟩ := h
    simp only [Rep]
    exact ⟨a, vs, rfl, ⟨n, e⟩, z, r⟩
  | dct ks ds =>
    obtain ⟨vs, z, r, l, nd, c⟩ := h
    simp only [Rep]
    refine ⟨a, vs, rfl, n, z, r, l, nd, ?_⟩
    rcases c with ⟨js, e1, rfl⟩ | ⟨js, e1, rfl⟩
    · exact .inl ⟨js, e1, .inl e⟩
    · exact .inr ⟨js, e1, .inl e⟩
  | _ => exact h.elim

theorem OwnO.nt {cn : Cn} {lb : Lb} {H : Hp} {d : D} {o : HO} (h : OwnO cn lb H d o) : Nt o := by
  cases d with
  | lst l => obtain ⟨vs, rfl, _⟩ := h; trivial
  | dct ks ds =>
    obtain ⟨vs, _, _, _, _, c⟩ := h
    rcases c with ⟨js, _, rfl⟩ | ⟨js, _, rfl⟩ <;> trivial
  | _ => exact h.elim
def FOk (cn : Cn) (lb : Lb) (H : Hp) (n : Nat) (f : Str) (d : D) (v : V) : Prop := match d with
  | .lst l => ∃ p o, v = .ref p ∧ lb p = some (.fld n f) ∧ H p = some o ∧ OwnO cn lb H (.lst l) o
  | d => Rep cn lb H d v
def FldOk (cn : Cn) (lb : Lb) (H : Hp) (n : Nat) : List (Str × D) → List (Str × V) → Prop
  | [], fv => fv = []
  | (f, d) :: fs, fv => ∃ v r, fv = (f, v) :: r ∧ FOk cn lb H n f d v ∧ FldOk cn lb H n fs r
structure StoOk (cn : Cn) (lb : Lb) (s : Sto) (H : Hp) : Prop where
  town : ∀ a, lb a = some .town → ∃ n, s.t = some n ∧ H a = some (.lst (List.replicate n (.int 0))) ∧ n ≤ SZ
  objs : ∀ n fs, s.o[n]? = some fs → ∃ a dx fv, lb a = some (.inst n) ∧ lb dx = some (.idct n) ∧ H a = some (.ins cn.gr dx fv) ∧ H dx = some (.own a) ∧ FldOk cn lb H n fs fv
  uniq : ∀ a b l, lb a = some l → lb b = some l → l.isSto = true → a = b
  dom : ∀ a n f, (lb a = some (.inst n) ∨ lb a = some (.idct n) ∨ lb a = some (.fld n f)) → n < s.o.length
  tabs : ∀ (n : Nat) (p : Addr × Str), cn.tb[n]? = some p → lb p.1 = some (.tab n) ∧ TabL lb H p.1 p.2
  flds : ∀ (a : Addr) (n : Nat) (f : Str), lb a = some (.fld n f) → ∃ fs l, s.o[n]? = some fs ∧ fs.lookup f = some (.lst l)
  nods : ∀ (n : Nat) (fs : List (Str × D)), s.o[n]? = some fs → (fs.map (·.1)).Nodup
theorem TabL.stq {lb lb' : Lb} {H H' : Hp} {P : Addr} {q : Str} (h : TabL lb H P q) (s : Stq lb H lb' H') (k : H' P = H P) : TabL lb' H' P q := by
  obtain ⟨ps, h1, h2, h3⟩ := h
  refine ⟨ps, by rw [k]; exact h1, h2, fun pos cv e => ?_⟩
  obtain ⟨c, e1, e2, e3⟩ := h3 pos cv e
  exact ⟨c, e1, s.none e3 e2, s.keep c _ e3 e2⟩
theorem FOk.stp {cn : Cn} {lb lb' : Lb} {H H' : Hp} {n : Nat} {f : Str} {d : D} {v : V} (h : FOk cn lb H n f d v) (s : Stq lb H lb' H') (k : ∀ a l, lb a = some l → l.isSto = true → H' a = H a) : FOk cn lb' H' n f d v := by
  unfold FOk at h ⊢
  cases d with
  | lst l =>
    obtain ⟨p, o, e, lp, hp, w⟩ := h
    exact ⟨p, o, e, s.sto p _ lp rfl, by rw [k p _ lp rfl]; exact hp, w.stq s⟩
  | _ => exact Rep.stq s h
theorem FldOk.stp {cn : Cn} {lb lb' : Lb} {H H' : Hp} {n : Nat} (s : Stq lb H lb' H') (k : ∀ a l, lb a = some l → l.isSto = true → H' a = H a) :
    ∀ {fs : List (Str × D)} {fv : List (Str × V)}, FldOk cn lb H n fs fv → FldOk cn lb' H' n fs fv
  | [], _, h => h
  | (f, d) :: fs, fv, h => by
    obtain ⟨v, r, e, h1, h2⟩ := h
    exact ⟨v, r, e, h1.stp s k, FldOk.stp s k h2⟩
/-- the store is not touched -/
theorem StoOk.stp {cn : Cn} {lb lb' : Lb} {H H' : Hp} {t : Sto} (h : StoOk cn lb t H) (s : Stq lb H lb' H') (k : ∀ a l, lb a = some l → l.isSto = true → H' a = H a) (nw : ∀ a l, lb' a = some l → l.isSto = true → lb a = some l) : StoOk cn lb' t H' where
  town := fun a e => by
    have e1 := nw a _ e rfl
    rw [k a _ e1 rfl]
    exact h.town a e1
  objs := fun n fs e => by
    obtain ⟨a, dx, fv, l1, l2, h1, h2, w⟩ := h.objs n fs e
    exact ⟨a, dx, fv, s.sto a _ l1 rfl, s.sto dx _ l2 rfl, by rw [k a _ l1 rfl]; exact h1, by rw [k dx _ l2 rfl]; exact h2, FldOk.stp s k w⟩
  uniq := fun a b l h1 h2 i => h.uniq a b l (nw a l h1 i) (nw b l h2 i) i
  dom := fun a n f e => h.dom a n f (e.imp (nw a _ · rfl) (Or.imp (nw a _ · rfl) (nw a _ · rfl)))
  tabs := fun n p e => by
    obtain ⟨h1, h2⟩ := h.tabs n p e
    exact ⟨s.sto _ _ h1 rfl, h2.stq s (k _ _ h1 rfl)⟩
  flds := fun a n f e => h.flds a n f (nw a _ e rfl)
  nods := h.nods

/-- the rows of a matrix that slot i alone knows -/
def MtL (cn : Cn) (lb : Lb) (H : Hp) (i : Nat) : List Addr → List (List D) → Prop
  | as, [] => as = []
  | as, l :: R => ∃ r as' vs, as = r :: as' ∧ lb r = some (.loc i) ∧ H r = some (.lst vs) ∧ l.length ≤ SZ ∧ RepL cn lb H l vs ∧ MtL cn lb H i as' R
def MtO (cn : Cn) (lb : Lb) (H : Hp) (i : Nat) (a : Addr) (R : List (List D)) : Prop :=
  lb a = some (.loc i) ∧ ∃ as : List Addr, H a = some (.lst (as.map V.ref)) ∧ (a :: as).Nodup ∧ R.length ≤ SZ ∧ MtL cn lb H i as R
theorem MtL.keep {cn : Cn} {lb lb' : Lb} {H H' : Hp} {i : Nat} (s : Stq lb H lb' H') (k : ∀ x, lb x = some (.loc i) → lb' x = some (.loc i) ∧ H' x = H x) : ∀ {as : List Addr} {R : List (List D)}, MtL cn lb H i as R → MtL cn lb' H' i as R
  | as, [], h => h
  | as, l :: R, h => by
    obtain ⟨r, as', vs, e, h1, h2, h3, h4, h5⟩ := h
    exact ⟨r, as', vs, e, (k r h1).1, by rw [(k r h1).2]; exact h2, h3, h4.stq s, MtL.keep s k h5⟩
theorem MtO.keep {cn : Cn} {lb lb' : Lb} {H H' : Hp} {i : Nat} {a : Addr} {R : List (List D)} (h : MtO cn lb H i a R) (s : Stq lb H lb' H') (k : ∀ x, lb x = some (.loc i) → lb' x = some (.loc i) ∧ H' x = H x) : MtO cn lb' H' i a R := by
  obtain ⟨h1, as, h2, h3, h4, h5⟩ := h
  exact ⟨(k a h1).1, as, by rw [(k a h1).2]; exact h2, h3, h4, h5.keep s k⟩
theorem MtL.rows {cn : Cn} {lb : Lb} {H : Hp} {i : Nat} {lb' : Lb} (s : Stq lb H lb' H) (k : ∀ x, lb x = some (.loc i) → lb' x = none) : ∀ {as : List Addr} {R : List (List D)}, MtL cn lb H i as R → RepL cn lb' H (R.map .lst) (as.map V.ref)
  | as, [], h => by
    have h : as = [] := h
    subst h
    exact .nil
  | as, l :: R, h => by
    obtain ⟨r, as', vs, rfl, h1, h2, h3, h4, h5⟩ := h
    refine .cons ?_ (MtL.rows s k h5)
    simp only [Rep]
    exact ⟨r, vs, rfl, ⟨k r h1, h2⟩, h3, h4.stq s⟩
/-- what is known in a def's body: lb0, H0 at its entry -/
structure BOk (cn : Cn) (lb0 : Lb) (H0 : Hp) (lb : Lb) (ρ : Env) (s : Sto) (σ : L2.St) (H : Hp) : Prop where
  since : Stp lb0 H0 lb H
  sto : StoOk cn lb s H
  has : ∀ a l, lb a = some l → ∃ o, H a = some o ∧ Nt o
  len : ρ.length = σ.length
  sh : ∀ (i : Nat) (d : D), ρ[i]? = some (.sh d) → ∃ v, σ[i]? = some (some v) ∧ Rep cn lb H d v
  ow : ∀ (i : Nat) (d : D), ρ[i]? = some (.ow d) → ∃ a o, σ[i]? = some (some (.ref a)) ∧ lb a = some (.loc i) ∧ H a = some o ∧ OwnO cn lb H d o
  mt : ∀ (i : Nat) (R : List (List D)), ρ[i]? = some (.mt R) → ∃ a, σ[i]? = some (some (.ref a)) ∧ MtO cn lb H i a R

section
variable {cn : Cn} {lb0 lb lb' : Lb} {H0 H H' : Hp} {ρ : Env} {s : Sto} {σ : L2.St}
theorem Stp.of_ext (h : Ext H H') (has : ∀ a l, lb a = some l → ∃ o, H a = some o ∧ Nt o) : Stp lb H lb H' where
  keep := fun a o e _ => h a o e
  out := fun a e => ⟨e, by
    obtain ⟨o, q, _⟩ := has a _ e
    rw [q, h a o q]⟩
  new := fun _ h => .inl h
  sto := fun _ _ h _ => h
  dom := fun a e => by
    cases q : H a with
    | none => exact absurd q e
    | some o => rw [h a o q]; simp
theorem BOk.stp_ext (b : BOk cn lb0 H0 lb ρ s σ H) (h : Ext H H') : Stp lb H lb H' := Stp.of_ext h b.has
theorem BOk.same (b : BOk cn lb0 H0 lb ρ s σ H) (h : Ext H H') {a : Addr} {l : Lab} (e : lb a = some l) : H' a = H a := by
  obtain ⟨o, q, _⟩ := b.has a l e
  rw [q, h a o q]
theorem BOk.ext (b : BOk cn lb0 H0 lb ρ s σ H) (h : Ext H H') : BOk cn lb0 H0 lb ρ s σ H' := by
  have st := b.stp_ext h
  refine ⟨b.since.trans st, b.sto.stp st.q (fun a l e _ => b.same h e) (fun _ _ e _ => e), fun a l e => ?_, b.len, fun i d e => ?_, fun i d e => ?_, fun i R e => ?_⟩
  · obtain ⟨o, q, t⟩ := b.has a l e
    exact ⟨o, h a o q, t⟩
  · obtain ⟨v, e1, r⟩ := b.sh i d e
    exact ⟨v, e1, r.stp st⟩
  · obtain ⟨a, o, e1, l, q, w⟩ := b.ow i d e
    exact ⟨a, o, e1, l, h a o q, w.stp st⟩
  · obtain ⟨a, e1, w⟩ := b.mt i R e
    exact ⟨a, e1, w.keep st.q fun x hx => ⟨hx, b.same h hx⟩⟩
/-- the mark of slot i taken off -/
def unl (lb : Lb) (i : Nat) : Lb := fun a => if lb a = some (.loc i) then none else lb a
theorem unl_ne {lb : Lb} {i : Nat} {a : Addr} {l : Lab} (h : lb a = some l) (n : l ≠ .loc i) : unl lb i a = some l := by
  unfold unl
  rw [if_neg (by rw [h]; intro e; exact n (Option.some.inj e))]
  exact h
theorem of_unl {lb : Lb} {i : Nat} {a : Addr} {l : Lab} (h : unl lb i a = some l) : lb a = some l ∧ l ≠ .loc i := by
  unfold unl at h
  split at h
  · cases h
  · rename_i n
    refine ⟨h, fun e => n ?_⟩
    rw [h, e]
theorem unl_none {lb : Lb} {i : Nat} {a : Addr} (h : lb a = none) : unl lb i a = none := by
  unfold unl
  split
  · rfl
  · exact h
theorem Stp.unl (lb : Lb) (H : Hp) (i : Nat) : Stp lb H (unl lb i) H where
  keep := fun _ _ h _ => h
  out := fun a h => ⟨unl_ne h (by intro e; cases e), rfl⟩
  new := fun a h => .inl fun e => h (unl_none e)
  sto := fun a l h i => unl_ne h (by rintro rfl; cases i)
  dom := fun _ h => h
/-- slot i holds what may be shared -/
theorem BOk.setSh (b : BOk cn lb0 H0 lb ρ s σ H) (i : Nat) {d : D} {v : V} (r : Rep cn lb H d v) : BOk cn lb0 H0 (Pk.unl lb i) (ρ.set i (.sh d)) s (σ.set i (some v)) H := by
  have st := Stp.unl lb H i
  refine ⟨b.since.trans st, b.sto.stp st.q (fun _ _ _ _ => rfl) (fun _ _ e _ => (of_unl e).1), fun a l e => b.has a l (of_unl e).1, by simpa using b.len, fun j e h => ?_, fun j e h => ?_, fun j R h => ?_⟩
  · by_cases hj : i = j
    · subst hj
      rw [List.getElem?_set] at h
      simp only [if_true] at h
      split at h
      · rename_i hl
        cases h
        refine ⟨v, ?_, r.stp st⟩
        rw [List.getElem?_set, if_pos rfl, if_pos (by rw [← b.len]; exact hl)]
      · cases h
    · rw [List.getElem?_set_ne hj] at h
      obtain ⟨u, e1, q⟩ := b.sh j e h
      exact ⟨u, by rw [List.getElem?_set_ne hj]; exact e1, q.stp st⟩
  · by_cases hj : i = j
    · subst hj
      rw [List.getElem?_set] at h
      simp only [if_true] at h
      split at h <;> cases h
    · rw [List.getElem?_set_ne hj] at h
      obtain ⟨a, o, e1, l, q, w⟩ := b.ow j e h
      exact ⟨a, o, by rw [List.getElem?_set_ne hj]; exact e1, unl_ne l (by rintro z; cases z; exact hj rfl), q, w.stp st⟩
  · by_cases hj : i = j
    · subst hj
      rw [List.getElem?_set] at h
      simp only [if_true] at h
      split at h <;> cases h
    · rw [List.getElem?_set_ne hj] at h
      obtain ⟨a, e1, w⟩ := b.mt j R h
      exact ⟨a, by rw [List.getElem?_set_ne hj]; exact e1, w.keep st.q fun x hx => ⟨unl_ne hx (by rintro z; cases z; exact hj rfl), rfl⟩⟩
/-- what slot i alone knew may be shared from now on -/
theorem BOk.relTo (b : BOk cn lb0 H0 lb ρ s σ H) {i : Nat} {d : D} {v : V} (e0 : σ[i]? = some (some v)) (r : Rep cn (Pk.unl lb i) H d v) : BOk cn lb0 H0 (Pk.unl lb i) (ρ.set i (.sh d)) s σ H := by
  have st := Stp.unl lb H i
  refine ⟨b.since.trans st, b.sto.stp st.q (fun _ _ _ _ => rfl) (fun _ _ e _ => (of_unl e).1), fun a l e => b.has a l (of_unl e).1, by simpa using b.len, fun j e h => ?_, fun j e h => ?_, fun j R h => ?_⟩
  · by_cases hj : i = j
    · subst hj
      rw [List.getElem?_set] at h
      simp only [if_true] at h
      split at h
      · cases h; exact ⟨v, e0, r⟩
      · cases h
    · rw [List.getElem?_set_ne hj] at h
      obtain ⟨u, e1, q⟩ := b.sh j e h
      exact ⟨u, e1, q.stp st⟩
  · by_cases hj : i = j
    · subst hj
      rw [List.getElem?_set] at h
      simp only [if_true] at h
      split at h <;> cases h
    · rw [List.getElem?_set_ne hj] at h
      obtain ⟨a, o, e1, l, q, w⟩ := b.ow j e h
      exact ⟨a, o, e1, unl_ne l (by rintro z; cases z; exact hj rfl), q, w.stp st⟩
  · by_cases hj : i = j
    · subst hj
      rw [List.getElem?_set] at h
      simp only [if_true] at h
      split at h <;> cases h
    · rw [List.getElem?_set_ne hj] at h
      obtain ⟨a, e1, w⟩ := b.mt j R h
      exact ⟨a, e1, w.keep st.q fun x hx => ⟨unl_ne hx (by rintro z; cases z; exact hj rfl), rfl⟩⟩
/-- a list that only this frame knew may be shared from now on -/
theorem BOk.release (b : BOk cn lb0 H0 lb ρ s σ H) {i : Nat} {d : D} (h : ρ[i]? = some (.ow d)) : ∃ v, σ[i]? = some (some v) ∧ BOk cn lb0 H0 (Pk.unl lb i) (ρ.set i (.sh d)) s σ H ∧ Rep cn (Pk.unl lb i) H d v := by
  obtain ⟨a, o, e1, l, q, w⟩ := b.ow i d h
  have st := Stp.unl lb H i
  have na : Pk.unl lb i a = none := by unfold Pk.unl; rw [if_pos l]
  have r : Rep cn (Pk.unl lb i) H d (.ref a) := (w.stp st).rep na q
  exact ⟨.ref a, e1, b.relTo e1 r, r⟩
/-- a matrix that only this frame knew may be shared from now on -/
theorem BOk.releaseM (b : BOk cn lb0 H0 lb ρ s σ H) {i : Nat} {R : List (List D)} (h : ρ[i]? = some (.mt R)) : ∃ v, σ[i]? = some (some v) ∧ BOk cn lb0 H0 (Pk.unl lb i) (ρ.set i (.sh (.lst (R.map .lst)))) s σ H ∧ Rep cn (Pk.unl lb i) H (.lst (R.map .lst)) v := by
  obtain ⟨a, e1, l, as, q, nd, sz, w⟩ := b.mt i R h
  have st := Stp.unl lb H i
  have un : ∀ x, lb x = some (.loc i) → Pk.unl lb i x = none := fun x hx => by unfold Pk.unl; rw [if_pos hx]
  have r : Rep cn (Pk.unl lb i) H (.lst (R.map .lst)) (.ref a) := by
    simp only [Rep]
    exact ⟨a, _, rfl, ⟨un a l, q⟩, by rw [List.length_map]; exact sz, w.rows st.q un⟩
  exact ⟨.ref a, e1, b.relTo e1 r, r⟩
/-- a new mark -/
def mrk (lb : Lb) (p : Addr) (l : Lab) : Lb := fun a => if a = p then some l else lb a
theorem mrk_same {p : Addr} {l : Lab} : mrk lb p l p = some l := by unfold mrk; rw [if_pos rfl]
theorem mrk_ne {p a : Addr} {l : Lab} (h : a ≠ p) : mrk lb p l a = lb a := by unfold mrk; rw [if_neg h]
/-- slot i holds a new thing, that only it knows -/
theorem BOk.setOw (b : BOk cn lb0 H0 lb ρ s σ H) (i : Nat) {p : Addr} {d : D} {o : HO} (hi : i < ρ.length) (np : H p = none) (w : OwnO cn lb H d o) :
    BOk cn lb0 H0 (mrk (Pk.unl lb i) p (.loc i)) (ρ.set i (.ow d)) s (σ.set i (some (.ref p))) (L2.upd H p o) ∧ Stp lb H (mrk (Pk.unl lb i) p (.loc i)) (L2.upd H p o) := by
  have lp : lb p = none := by
    cases q : lb p with
    | none => rfl
    | some l => obtain ⟨o, e, _⟩ := b.has p l q; rw [np] at e; cases e
  have ne : ∀ a l, lb a = some l → a ≠ p := fun a l e z => by rw [z, lp] at e; cases e
  have st : Stp lb H (mrk (Pk.unl lb i) p (.loc i)) (L2.upd H p o) :=
    { keep := fun a o e n => Ext.upd np a o e
      out := fun a e => by
        have na := ne a _ e
        exact ⟨by rw [mrk_ne na]; exact unl_ne e (by intro z; cases z), by rw [upd_ne na]⟩
      new := fun a h => by
        by_cases ha : a = p
        · rw [ha]; exact .inr np
        · rw [mrk_ne ha] at h
          exact .inl fun z => h (unl_none z)
      sto := fun a l e z => by
        rw [mrk_ne (ne a l e)]
        exact unl_ne e (by rintro rfl; cases z)
      dom := fun a e => by
        cases q : H a with
        | none => exact absurd q e
        | some u => rw [Ext.upd np a u q]; simp }
  have back : ∀ a l, mrk (Pk.unl lb i) p (.loc i) a = some l → l ≠ .loc i → lb a = some l ∧ a ≠ p := fun a l e z => by
    by_cases ha : a = p
    · rw [ha, mrk_same] at e
      exact absurd (Option.some.inj e).symm z
    · rw [mrk_ne ha] at e
      exact ⟨(of_unl e).1, ha⟩
  refine ⟨⟨b.since.trans st, b.sto.stp st.q (fun a l e _ => by rw [upd_ne (ne a l e)]) (fun a l e z => (back a l e (by rintro rfl; cases z)).1), fun a l e => ?_, by simpa using b.len, fun j e h => ?_, fun j e h => ?_, fun j R h => ?_⟩, st⟩
  · by_cases ha : a = p
    · exact ⟨o, by rw [ha, upd_same], w.nt⟩
    · rw [mrk_ne ha] at e
      obtain ⟨u, q, t⟩ := b.has a l (of_unl e).1
      exact ⟨u, by rw [upd_ne ha]; exact q, t⟩
  · by_cases hj : i = j
    · subst hj
      rw [List.getElem?_set] at h
      simp only [if_true] at h
      split at h <;> cases h
    · rw [List.getElem?_set_ne hj] at h
      obtain ⟨u, e1, q⟩ := b.sh j e h
      exact ⟨u, by rw [List.getElem?_set_ne hj]; exact e1, q.stp st⟩
  · by_cases hj : i = j
    · subst hj
      rw [List.getElem?_set, if_pos rfl, if_pos hi] at h
      cases h
      exact ⟨p, o, by rw [List.getElem?_set, if_pos rfl, if_pos (by rw [← b.len]; exact hi)], mrk_same, upd_same, w.stp st⟩
    · rw [List.getElem?_set_ne hj] at h
      obtain ⟨a, o', e1, l, q, w⟩ := b.ow j e h
      have na := ne a _ l
      refine ⟨a, o', by rw [List.getElem?_set_ne hj]; exact e1, ?_, by rw [upd_ne na]; exact q, w.stp st⟩
      rw [mrk_ne na]
      exact unl_ne l (by rintro z; cases z; exact hj rfl)
  · by_cases hj : i = j
    · subst hj
      rw [List.getElem?_set, if_pos rfl, if_pos hi] at h
      cases h
    · rw [List.getElem?_set_ne hj] at h
      obtain ⟨a, e1, w⟩ := b.mt j R h
      exact ⟨a, by rw [List.getElem?_set_ne hj]; exact e1, w.keep st.q fun x hx => ⟨by rw [mrk_ne (ne x _ hx)]; exact unl_ne hx (by rintro z; cases z; exact hj rfl), by rw [upd_ne (ne x _ hx)]⟩⟩
/-- the thing of slot i is changed -/
theorem BOk.change (b : BOk cn lb0 H0 lb ρ s σ H) {i : Nat} {a : Addr} {d d' : D} {o o' : HO} (h : ρ[i]? = some (.ow d)) (e : σ[i]? = some (some (.ref a))) (q : H a = some o) (w : OwnO cn lb H d' o') :
    BOk cn lb0 H0 lb (ρ.set i (.ow d')) s σ (L2.upd H a o') ∧ Stp lb H lb (L2.upd H a o') := by
  obtain ⟨a', _, e1, l, _, _⟩ := b.ow i d h
  rw [e] at e1
  cases e1
  have hi : i < ρ.length := (List.getElem?_eq_some_iff.mp h).1
  have ne : ∀ x l', lb x = some l' → l' ≠ .loc i → x ≠ a := fun x l' e n z => by rw [z, l] at e; exact n (Option.some.inj e).symm
  have st : Stp lb H lb (L2.upd H a o') :=
    { keep := fun x u h n => by rw [upd_ne (by rintro rfl; rw [l] at n; cases n)]; exact h
      out := fun x h => ⟨h, by rw [upd_ne (ne x _ h (by intro z; cases z))]⟩
      new := fun _ h => .inl h
      sto := fun _ _ h _ => h
      dom := fun x h => by
        by_cases hx : x = a
        · rw [hx, upd_same]; simp
        · rw [upd_ne hx]; exact h }
  refine ⟨⟨b.since.trans st, b.sto.stp st.q (fun x l' e z => by rw [upd_ne (ne x l' e (by rintro rfl; cases z))]) (fun _ _ e _ => e), fun x l' e => ?_, by simpa using b.len, fun j u h => ?_, fun j u h => ?_, fun j R h => ?_⟩, st⟩
  · by_cases hx : x = a
    · exact ⟨o', by rw [hx, upd_same], w.nt⟩
    · obtain ⟨u, q, t⟩ := b.has x l' e
      exact ⟨u, by rw [upd_ne hx]; exact q, t⟩
  · by_cases hj : i = j
    · subst hj
      rw [List.getElem?_set, if_pos rfl, if_pos hi] at h
      cases h
    · rw [List.getElem?_set_ne hj] at h
      obtain ⟨u, e1, q⟩ := b.sh j u h
      exact ⟨u, e1, q.stp st⟩
  · by_cases hj : i = j
    · subst hj
      rw [List.getElem?_set, if_pos rfl, if_pos hi] at h
      cases h
      exact ⟨a, o', e, l, upd_same, w.stp st⟩
    · rw [List.getElem?_set_ne hj] at h
      obtain ⟨x, u, e1, l', q, w⟩ := b.ow j u h
      exact ⟨x, u, e1, l', by rw [upd_ne (ne x _ l' (by rintro z; cases z; exact hj rfl))]; exact q, w.stp st⟩
  · by_cases hj : i = j
    · subst hj
      rw [List.getElem?_set, if_pos rfl, if_pos hi] at h
      cases h
    · rw [List.getElem?_set_ne hj] at h
      obtain ⟨x, e1, w⟩ := b.mt j R h
      exact ⟨x, e1, w.keep st.q fun y hy => ⟨hy, by rw [upd_ne (ne y _ hy (by rintro z; cases z; exact hj rfl))]⟩⟩
end
end Pk
/-! Br2: the judgements over plain values, expressions. -/
namespace Pk
open PySem PySem.Spec PyProof.Rows L2

/-- a def's body at work: the entry, what is wanted of an exception -/
structure Bd where
  cn : Cn
  lb0 : Lb
  H0 : Hp
  W : WX
abbrev Ok (b : Bd) (lb : Lb) (ρ : Env) (s : Sto) (σ : L2.St) (H : Hp) : Prop := BOk b.cn b.lb0 b.H0 lb ρ s σ H
/-- an exception as it flies: its class, its own dict -/
def XRep (cn : Cn) (lb : Lb) (H : Hp) (x : Xc) (cls : Value) (dx : Option Addr) : Prop :=
  cls = .ref (cn.cls x.cls) ∧ match x.arg with
    | .none => dx = none
    | some d => ∃ p v, dx = some p ∧ lb p = none ∧ H p = some (.xd [("cell", v)]) ∧ Rep cn lb H d v
def Post {α : Type} (b : Bd) (σ : L2.St) (lb : Lb) (H : Hp) (r : R α) (k : α → Env → Sto → Lb → Hp → Prop) : Prop := match r with
  | .ok a ρ s => ∀ lb' H', Stp lb H lb' H' → Ok b lb' ρ s σ H' → k a ρ s lb' H'
  | .exc x ρ s => ∀ lb' H' cls dx, Stp lb H lb' H' → Ok b lb' ρ s σ H' → XRep b.cn lb' H' x cls dx → b.W cls dx σ H'
  | .bad => False
section
variable {α β : Type} {b : Bd} {σ : L2.St} {lb lb1 : Lb} {H H1 : Hp} {r : R α} {k k' : α → Env → Sto → Lb → Hp → Prop}
theorem Post.from (h : Post b σ lb H r k) (st : Stp lb H lb1 H1) : Post b σ lb1 H1 r k := by
  cases r with
  | ok a ρ s => exact fun lb' H' s1 o => h lb' H' (st.trans s1) o
  | exc x ρ s => exact fun lb' H' c d s1 o z => h lb' H' c d (st.trans s1) o z
  | bad => exact h
theorem Post.mono (h : Post b σ lb H r k) (f : ∀ a ρ s lb' H', Stp lb H lb' H' → Ok b lb' ρ s σ H' → k a ρ s lb' H' → k' a ρ s lb' H') : Post b σ lb H r k' := by
  cases r with
  | ok a ρ s => exact fun lb' H' s1 o => f a ρ s lb' H' s1 o (h lb' H' s1 o)
  | exc x ρ s => exact h
  | bad => exact h
theorem Post.bind {f : α → Env → Sto → R β} {k : β → Env → Sto → Lb → Hp → Prop} (h : Post b σ lb H (r.bind f) k) : Post b σ lb H r fun a ρ s lb' H' => Post b σ lb' H' (f a ρ s) k := by
  cases r with
  | ok a ρ s => exact fun lb' H' s1 o => Post.from h s1
  | exc x ρ s => exact h
  | bad => exact h
end

/-- what follows: a value that stands; a new thing that nobody else knows -/
def KV (cn : Cn) (lb : Lb) (H : Hp) (d : D) (Q : VK) : Prop := ∀ v H', Ext H H' → Rep cn lb H' d v → Q v H'
def KF (cn : Cn) (lb : Lb) (H : Hp) (d : D) (Q : VK) : Prop := ∀ p o, H p = none → OwnO cn lb H d o → Q (.ref p) (L2.upd H p o)
def Kt (fresh : Bool) (cn : Cn) (lb : Lb) (H : Hp) (d : D) (Q : VK) : Prop := if fresh then KF cn lb H d Q else KV cn lb H d Q
abbrev Has (lb : Lb) (H : Hp) : Prop := ∀ a l, lb a = some l → ∃ o, H a = some o ∧ Nt o
theorem Has.none {lb : Lb} {H : Hp} (h : Has lb H) {p : Addr} (e : H p = none) : lb p = none := by
  cases q : lb p with
  | none => rfl
  | some l => obtain ⟨o, z, _⟩ := h p l q; rw [e] at z; cases z
theorem KV.kf {cn : Cn} {lb : Lb} {H : Hp} {d : D} {Q : VK} (hs : Has lb H) (h : KV cn lb H d Q) : KF cn lb H d Q := fun p o np w =>
  h _ _ (Ext.upd np) ((w.stp (Stp.of_ext (Ext.upd np) hs)).rep (hs.none np) upd_same)
theorem Kt.kf {fresh : Bool} {cn : Cn} {lb : Lb} {H : Hp} {d : D} {Q : VK} (hs : Has lb H) (h : Kt fresh cn lb H d Q) : KF cn lb H d Q := by
  cases fresh with
  | true => exact h
  | false => exact KV.kf hs h
theorem KV.now {cn : Cn} {lb : Lb} {H : Hp} {d : D} {Q : VK} (h : KV cn lb H d Q) {v : V} (r : Rep cn lb H d v) : Q v H := h v H Ext.refl r

/-- the reading of an expression -/
def tK (fresh : Bool) (b : Bd) (m : M D) : TE := fun σ H Q => ∃ lb ρ s, Ok b lb ρ s σ H ∧ Post b σ lb H (m ρ s) fun d _ _ lb' H' => Kt fresh b.cn lb' H' d Q
abbrev DE (X : Cx) (b : Bd) (e : Expr) (m : M D) : Prop := PE X e (tK false b m)
/-- .. that makes a new list or dict -/
abbrev DF (X : Cx) (b : Bd) (e : Expr) (m : M D) : Prop := PE X e (tK true b m)
theorem PE.imp {X : Cx} {e : Expr} {t t' : TE} (h : PE X e t) (f : ∀ σ H Q, t' σ H Q → t σ H Q) : PE X e t' := ⟨fun pins s σ H Q I q => h.run pins s σ H Q I (f σ H Q q)⟩
theorem PT.imp {X : Cx} {e : Expr} {t t' : TT} (h : PT X e t) (f : ∀ σ H Q, t' σ H Q → t σ H Q) : PT X e t' := ⟨fun pins s σ H Q I q => h.run pins s σ H Q I (f σ H Q q)⟩
theorem PA.imp {X : Cx} {e : List Expr} {t t' : TA} (h : PA X e t) (f : ∀ σ H Q, t' σ H Q → t σ H Q) : PA X e t' := ⟨fun pos pins s σ H Q I q => h.run pos pins s σ H Q I (f σ H Q q)⟩
theorem PS.imp {X : Cx} {e : Stmt} {t t' : TS} (h : PS X e t) (f : ∀ D σ H, t' D σ H → t D σ H) : PS X e t' := ⟨fun pins s σ H D I q => h.run pins s σ H D I (f D σ H q)⟩
theorem PSs.imp {X : Cx} {e : List Stmt} {t t' : TS} (h : PSs X e t) (f : ∀ D σ H, t' D σ H → t D σ H) : PSs X e t' := ⟨fun pins s σ H D I q => h.run pins s σ H D I (f D σ H q)⟩

section
variable {X : Cx} {b : Bd}
theorem de_f {e : Expr} {m : M D} (h : DF X b e m) : DE X b e m := PE.imp h fun σ H Q ⟨lb, ρ, s, o, p⟩ => ⟨lb, ρ, s, o, p.mono fun d ρ s lb' H' _ o' q => Kt.kf o'.has q⟩
/-- a constant -/
theorem de_c {e : Expr} {v : V} {d : D} (h : PE X e (tC v)) (r : ∀ lb H, Rep b.cn lb H d v) : DE X b e (eC d) := PE.imp h fun σ H Q ⟨lb, ρ, s, o, p⟩ =>
  (show Kt false b.cn lb H d Q from p lb H .refl o) v H .refl (r _ _)
theorem de_int {i : Int} {j pos} : DE X b (.Constant (.int i) j pos) (eC (.int i)) := de_c pe_int fun _ _ => by simp only [Rep]
theorem de_bool {c : Bool} {j pos} : DE X b (.Constant (.bool c) j pos) (eC (.bool c)) := de_c pe_bl fun _ _ => by simp only [Rep]
/-- a name of the frame -/
theorem de_v {e : Expr} (i : Nat) (h : PE X e (tVar i)) : DE X b e (eV i) := PE.imp h fun σ H Q ⟨lb, ρ, s, o, p⟩ => by
  unfold eV at p
  cases q : ρ[i]? with
  | none => rw [q] at p; exact False.elim p
  | some z =>
    rw [q] at p
    cases z with
    | no => exact False.elim p
    | sh d =>
      obtain ⟨v, e1, r⟩ := o.sh i d q
      exact ⟨v, e1, KV.now (show KV b.cn lb H d Q from p lb H .refl o) r⟩
    | ow d =>
      obtain ⟨v, e1, o', r⟩ := o.release q
      exact ⟨v, e1, KV.now (show KV b.cn (unl lb i) H d Q from p (unl lb i) H (.unl lb H i) o') r⟩
    | mt R =>
      obtain ⟨v, e1, o', r⟩ := o.releaseM q
      exact ⟨v, e1, KV.now (show KV b.cn (unl lb i) H (.lst (R.map .lst)) Q from p (unl lb i) H (.unl lb H i) o') r⟩

/-- an operand that is looked at: its root may be the frame's own -/
def RepB (cn : Cn) (lb : Lb) (H : Hp) (d : D) (v : V) : Prop := Rep cn lb H d v ∨ ∃ a o, v = .ref a ∧ H a = some o ∧ OwnO cn lb H d o
theorem RepB.lst {cn : Cn} {lb : Lb} {H : Hp} {l : List D} {v : V} (h : RepB cn lb H (.lst l) v) : ∃ a vs, v = .ref a ∧ H a = some (.lst vs) ∧ l.length ≤ SZ ∧ RepL cn lb H l vs := by
  rcases h with h | ⟨a, o, e, q, w⟩
  · simp only [Rep] at h
    obtain ⟨a, vs, e, n, z, r⟩ := h
    exact ⟨a, vs, e, n.2, z, r⟩
  · obtain ⟨vs, rfl, z, r⟩ := w
    exact ⟨a, vs, e, q, z, r⟩
theorem RepB.tup {cn : Cn} {lb : Lb} {H : Hp} {l : List D} {v : V} (h : RepB cn lb H (.tup l) v) : ∃ a vs, v = .ref a ∧ H a = some (.tup vs) ∧ l.length ≤ SZ ∧ RepL cn lb H l vs := by
  rcases h with h | ⟨a, o, e, q, w⟩
  · simp only [Rep] at h
    obtain ⟨a, vs, e, n, z, r⟩ := h
    exact ⟨a, vs, e, n.2, z, r⟩
  · exact w.elim
theorem RepB.dct {cn : Cn} {lb : Lb} {H : Hp} {ks : List Ky} {ds : List D} {v : V} (h : RepB cn lb H (.dct ks ds) v) : ∃ a vs, v = .ref a ∧ RepL cn lb H ds vs ∧ ks.length = vs.length ∧ ks.Nodup ∧ ks.length ≤ SZ ∧
    ((∃ js : List (List Int), ks = js.map .t ∧ Rd H a (.dT ((js.map fun j => j.map Sum.inl).zip vs))) ∨ (∃ js : List Int, (ks = js.map .i ∧ ks ≠ []) ∧ Rd H a (.dK ((js.map Sum.inl).zip vs)))) := by
  rcases h with h | ⟨a, o, e, q, w⟩
  · simp only [Rep] at h
    obtain ⟨a, vs, e, n, z, r, l, nd, c⟩ := h
    exact ⟨a, vs, e, r, l, nd, z, c⟩
  · obtain ⟨vs, z, r, l, nd, c⟩ := w
    refine ⟨a, vs, e, r, l, nd, z, ?_⟩
    rcases c with ⟨js, e1, rfl⟩ | ⟨js, e1, rfl⟩
    · exact .inl ⟨js, e1, .inl q⟩
    · exact .inr ⟨js, e1, .inl q⟩
theorem RepB.scr {cn : Cn} {lb : Lb} {H : Hp} {l : List Int} {v : V} (h : RepB cn lb H (.scr l) v) : ∃ a, v = .ref a ∧ SqL cn.K H a (l.map V.int) ∧ l.length ≤ SZ := by
  rcases h with h | ⟨a, o, e, q, w⟩
  · simp only [Rep] at h
    obtain ⟨a, e, n, z⟩ := h
    exact ⟨a, e, n.sq, z⟩
  · exact w.elim
/-- the scalars -/
theorem RepB.flat {cn : Cn} {lb : Lb} {H : Hp} {d : D} {v : V} (h : RepB cn lb H d v) (n : ∀ l, d ≠ .lst l) (m : ∀ ks ds, d ≠ .dct ks ds) : Rep cn lb H d v := by
  rcases h with h | ⟨a, o, e, q, w⟩
  · exact h
  · cases d with
    | lst l => exact absurd rfl (n l)
    | dct ks ds => exact absurd rfl (m ks ds)
    | _ => exact w.elim
theorem RepB.int {cn : Cn} {lb : Lb} {H : Hp} {i : Int} {v : V} (h : RepB cn lb H (.int i) v) : v = .int i := by
  have q := h.flat (fun _ e => nomatch e) (fun _ _ e => nomatch e)
  simpa only [Rep] using q
theorem RepB.bool {cn : Cn} {lb : Lb} {H : Hp} {i : Bool} {v : V} (h : RepB cn lb H (.bool i) v) : v = .bl i := by
  have q := h.flat (fun _ e => nomatch e) (fun _ _ e => nomatch e)
  simpa only [Rep] using q
theorem RepB.none {cn : Cn} {lb : Lb} {H : Hp} {v : V} (h : RepB cn lb H .none v) : v = .non := by
  have q := h.flat (fun _ e => nomatch e) (fun _ _ e => nomatch e)
  simpa only [Rep] using q
theorem RepB.str {cn : Cn} {lb : Lb} {H : Hp} {i : Str} {v : V} (h : RepB cn lb H (.str i) v) : v = .str i := by
  have q := h.flat (fun _ e => nomatch e) (fun _ _ e => nomatch e)
  simpa only [Rep] using q

/-- an operand's judgement -/
def DO (X : Cx) (b : Bd) (e : Expr) : Opd → Prop
  | .v m => DE X b e m
  | .b i => PE X e (tVar i)
def tOpd (b : Bd) : Opd → TE
  | .v m => tK false b m
  | .b i => tVar i
theorem DO.pe {e : Expr} {a : Opd} (h : DO X b e a) : PE X e (tOpd b a) := by
  cases a with
  | v m => exact h
  | b i => exact h
/-- what an operand's value stands for -/
def Stands (cn : Cn) (lb : Lb) (σ : L2.St) (H : Hp) (x : D ⊕ Nat) (v : V) : Prop := match x with
  | .inl d => Rep cn lb H d v
  | .inr i => σ[i]? = some (some v)
theorem Stands.stp {cn : Cn} {lb lb' : Lb} {σ : L2.St} {H H' : Hp} {x : D ⊕ Nat} {v : V} (h : Stands cn lb σ H x v) (s : Stp lb H lb' H') : Stands cn lb' σ H' x v := by
  cases x with
  | inl d => exact Rep.stp s h
  | inr i => exact h
theorem Stands.look {lb : Lb} {σ : L2.St} {H : Hp} {ρ : Env} {s : Sto} {x : D ⊕ Nat} {v : V} {d : D} (h : Stands b.cn lb σ H x v) (o : Ok b lb ρ s σ H) (e : look ρ x = some d) : RepB b.cn lb H d v := by
  cases x with
  | inl d' => cases e; exact .inl h
  | inr i =>
    have h : σ[i]? = some (some v) := h
    unfold Pk.look at e
    cases q : ρ[i]? with
    | none => simp only [q] at e; cases e
    | some z =>
      simp only [q] at e
      cases z with
      | no => cases e
      | sh d' =>
        cases e
        obtain ⟨u, e1, r⟩ := o.sh i d q
        rw [h] at e1; cases e1
        exact .inl r
      | ow d' =>
        cases e
        obtain ⟨a, ob, e1, l, z, w⟩ := o.ow i d q
        rw [h] at e1; cases e1
        exact .inr ⟨a, ob, rfl, z, w⟩
      | mt R => cases e
/-- an operand is reckoned -/
theorem tOpd_run {σ : L2.St} {lb : Lb} {H : Hp} {ρ : Env} {s : Sto} {a : Opd} {k : D ⊕ Nat → Env → Sto → Lb → Hp → Prop} {Q : VK} (o : Ok b lb ρ s σ H) (h : Post b σ lb H (a.run ρ s) k)
    (f : ∀ x ρ s lb' H' v, Stp lb H lb' H' → Ok b lb' ρ s σ H' → k x ρ s lb' H' → Stands b.cn lb' σ H' x v → Q v H') : tOpd b a σ H Q := by
  cases a with
  | v m =>
    refine ⟨lb, ρ, s, o, (Post.bind h).mono fun d ρ1 s1 lb1 H1 st o1 p v H2 ex r => ?_⟩
    have q := p lb1 H2 (o1.stp_ext ex) (o1.ext ex)
    exact f (.inl d) ρ1 s1 lb1 H2 v (st.trans (o1.stp_ext ex)) (o1.ext ex) q r
  | b i =>
    simp only [Opd.run] at h
    cases q : ρ[i]? with
    | none => rw [q] at h; exact False.elim h
    | some z =>
      rw [q] at h
      cases z with
      | no => exact False.elim h
      | sh d =>
        obtain ⟨v, e, _⟩ := o.sh i d q
        exact ⟨v, e, f (.inr i) ρ s lb H v .refl o (h lb H .refl o) e⟩
      | ow d =>
        obtain ⟨a, _, e, _⟩ := o.ow i d q
        exact ⟨.ref a, e, f (.inr i) ρ s lb H (.ref a) .refl o (h lb H .refl o) e⟩
      | mt R => exact False.elim h

theorem opt_post {α : Type} {σ : L2.St} {lb : Lb} {H : Hp} {ρ : Env} {s : Sto} {v : Option α} {k : α → Env → Sto → Lb → Hp → Prop} (o : Ok b lb ρ s σ H) (h : Post b σ lb H (opt v ρ s) k) : ∃ a, v = some a ∧ k a ρ s lb H := by
  cases v with
  | none => exact False.elim h
  | some a => exact ⟨a, rfl, h lb H .refl o⟩
/-! ### operations on values -/
def P1 (fresh : Bool) (cn : Cn) (r : V → Hp → VK → Prop) (p : D → Option D) : Prop := ∀ (lb : Lb) (H : Hp) (x : V) (d e : D) (Q : VK), Has lb H → RepB cn lb H d x → p d = some e → Kt fresh cn lb H e Q → r x H Q
def P2 (fresh : Bool) (cn : Cn) (r : R2) (p : D → D → Option D) : Prop := ∀ (lb : Lb) (H : Hp) (x y : V) (d1 d2 e : D) (Q : VK), Has lb H → RepB cn lb H d1 x → RepB cn lb H d2 y → p d1 d2 = some e → Kt fresh cn lb H e Q → r x y H Q
def tOp1 (r : V → Hp → VK → Prop) (ta : TE) : TE := fun σ H Q => ta σ H fun x H1 => r x H1 Q
theorem t1_run {fresh : Bool} {a : Opd} {r : V → Hp → VK → Prop} {p : D → Option D} (hp : P1 fresh b.cn r p) {σ : L2.St} {H : Hp} {Q : VK} (h : tK fresh b (e1 p a) σ H Q) : tOp1 r (tOpd b a) σ H Q := by
  obtain ⟨lb, ρ, s, o, h⟩ := h
  refine tOpd_run o (Post.bind h) fun x ρ1 s1 lb1 H1 v st o1 q sd => ?_
  obtain ⟨e, e1, k⟩ := opt_post o1 q
  cases e2 : look ρ1 x with
  | none => rw [e2] at e1; cases e1
  | some d =>
    rw [e2] at e1
    exact hp lb1 H1 v d e Q o1.has (sd.look o1 e2) e1 k
theorem t2_run {fresh : Bool} {a c : Opd} {r : R2} {p : D → D → Option D} (hp : P2 fresh b.cn r p) {σ : L2.St} {H : Hp} {Q : VK} (h : tK fresh b (e2 p a c) σ H Q) : tOp r (tOpd b a) (tOpd b c) σ H Q := by
  obtain ⟨lb, ρ, s, o, h⟩ := h
  refine tOpd_run o (Post.bind h) fun x ρ1 s1 lb1 H1 v st o1 q sd => ?_
  refine tOpd_run o1 (Post.bind q) fun y ρ2 s2 lb2 H2 u st2 o2 q2 sd2 => ?_
  obtain ⟨e, e1, k⟩ := opt_post o2 q2
  cases e2 : look ρ2 x with
  | none => rw [e2] at e1; cases e1
  | some d =>
    rw [e2] at e1
    cases e3 : look ρ2 y with
    | none => rw [e3] at e1; cases e1
    | some d' =>
      rw [e3] at e1
      exact hp lb2 H2 v u d d' e Q o2.has ((sd.stp st2).look o2 e2) (sd2.look o2 e3) e1 k
/-- a + b and their like -/
theorem de_bin {fresh : Bool} {op : Operator} {r : R2} {p : D → D → Option D} {ea ec : Expr} {a c : Opd} {pos : Pos} (ho : OpR X (binaryOp op) r) (hp : P2 fresh b.cn r p) (ha : DO X b ea a) (hc : DO X b ec c) :
    PE X (.BinOp ea op ec pos) (tK fresh b (e2 p a c)) := PE.imp (pe_op ho ha.pe hc.pe) fun _ _ _ h => t2_run hp h
theorem de_un {op : UnaryOp} {r : V → Hp → VK → Prop} {p : D → Option D} {ea : Expr} {a : Opd} {pos : Pos} (ho : UnR X (unaryOp op) r) (hp : P1 false b.cn r p) (ha : DO X b ea a) :
    DE X b (.UnaryOp op ea pos) (e1 p a) := PE.imp (pe_un ho ha.pe) fun _ _ _ h => t1_run hp h
theorem de_cmp {op : CmpOp} {r : R2} {p : D → D → Option D} {ea ec : Expr} {a c : Opd} {pos : Pos} (ho : OpR X (compareOp op) r) (hp : P2 false b.cn r p) (ha : DO X b ea a) (hc : DO X b ec c) (hm : behindInMarks op ec = false) :
    DE X b (.Compare ea [op] [ec] pos) (e2 p a c) := PE.imp (pe_cmpR ho ha.pe hc.pe hm) fun _ _ _ h => t2_run hp h

/-! ### tests -/
def tT (b : Bd) (m : M D) : TT := fun σ H Q => ∃ lb ρ s, Ok b lb ρ s σ H ∧ Post b σ lb H (m ρ s) fun d _ _ _ H' => match d with
  | .bool c => ∀ H2, Ext H' H2 → Q c H2
  | _ => False
abbrev DT (X : Cx) (b : Bd) (e : Expr) (m : M D) : Prop := PT X e (tT b m)
theorem tT_test {m : M D} {σ : L2.St} {H : Hp} {Q : Bool → Hp → Prop} (h : tT b m σ H Q) : tTest (tK false b m) σ H Q := by
  obtain ⟨lb, ρ, s, o, h⟩ := h
  refine ⟨lb, ρ, s, o, h.mono fun d ρ1 s1 lb1 H1 st o1 q => fun v H2 ex r => ?_⟩
  cases d with
  | bool c =>
    simp only [Rep] at r
    exact ⟨c, r, q H2 ex⟩
  | _ => exact False.elim q
/-- any expression but and, or, not, comparisons -/
theorem dt_val {e : Expr} {m : M D} (h : DE X b e m) (he : ∀ whole, isTrue e X.env whole = (do let v ← whole; standAt e.pos; holding [v] (truthy v)) := by intro _; rfl) : DT X b e m :=
  PT.imp (pt_val h he) fun _ _ _ h => tT_test h
theorem dt_cmp {op : CmpOp} {r : R2} {p : D → D → Option D} {ea ec : Expr} {a c : Opd} {pos : Pos} (ho : OpR X (compareOp op) r) (hp : P2 false b.cn r p) (ha : DO X b ea a) (hc : DO X b ec c) (hm : behindInMarks op ec = false) :
    DT X b (.Compare ea [op] [ec] pos) (e2 p a c) := PT.imp (pt_cmpR ho ha.pe hc.pe hm) fun σ H Q h => t2_run (Q := fun x H' => ∃ k, x = .bl k ∧ Q k H') hp (tT_test h)
end
end Pk
/-! Br3: argument lists, displays, calls, and | or | not, statements, a def. -/
namespace Pk
open PySem PySem.Spec PyProof.Rows L2

theorem SZ_eq : SZ = sizeLine := by decide
section
variable {X : Cx} {b : Bd}
def tAL (b : Bd) (ms : List (M D)) : TA := fun σ H Q => ∃ lb ρ s, Ok b lb ρ s σ H ∧ Post b σ lb H (eL ms ρ s) fun ds _ _ lb' H' => ∀ vs H2, Ext H' H2 → RepL b.cn lb' H2 ds vs → Q vs H2
abbrev DA (X : Cx) (b : Bd) (es : List Expr) (ms : List (M D)) : Prop := PA X es (tAL b ms)
theorem da_nil : DA X b [] [] := PA.imp pa_nil fun σ H Q ⟨lb, ρ, s, o, p⟩ => p lb H .refl o [] H .refl .nil
theorem da_cons {e : Expr} {es : List Expr} {m : M D} {ms : List (M D)} (h : DE X b e m) (hs : DA X b es ms) (hx : starEach (e :: es) X.env = (false, eval e X.env) :: starEach es X.env := by rfl) : DA X b (e :: es) (m :: ms) := by
  refine PA.imp (pa_cons h hs hx) fun σ H Q ⟨lb, ρ, s, o, p⟩ => ?_
  have p : Post b σ lb H ((m ρ s).bind fun d r s => (eL ms r s).bind fun ds r s => .ok (d :: ds) r s) _ := p
  refine ⟨lb, ρ, s, o, (Post.bind p).mono fun d ρ1 s1 lb1 H1 st o1 q => fun v H2 ex r => ?_⟩
  refine ⟨lb1, ρ1, s1, o1.ext ex, ((Post.bind q).from (o1.stp_ext ex)).mono fun ds ρ2 s2 lb2 H3 st2 o2 q2 => fun vs H4 ex4 rl => ?_⟩
  exact q2 lb2 H4 (o2.stp_ext ex4) (o2.ext ex4) (v :: vs) H4 .refl (.cons (r.stp (st2.trans (o2.stp_ext ex4))) rl)
theorem eL_len : ∀ {ms : List (M D)} {ρ ρ' : Env} {s s' : Sto} {ds : List D}, eL ms ρ s = .ok ds ρ' s' → ds.length = ms.length
  | [], ρ, ρ', s, s', ds, h => by cases h; rfl
  | m :: ms, ρ, ρ', s, s', ds, h => by
    have h : (m ρ s).bind (fun d r s => (eL ms r s).bind fun ds r s => .ok (d :: ds) r s) = .ok ds ρ' s' := h
    cases e : m ρ s with
    | ok d r1 s1 =>
      rw [e, R.bind_ok] at h
      cases e2 : eL ms r1 s1 with
      | ok ds2 r2 s2 =>
        rw [e2, R.bind_ok] at h
        cases h
        rw [List.length_cons, List.length_cons, eL_len e2]
      | exc x r s => rw [e2] at h; cases h
      | bad => rw [e2] at h; cases h
    | exc x r s => rw [e] at h; cases h
    | bad => rw [e] at h; cases h
/-- the items of a written tuple or list, with their number -/
theorem tAL_len {ms : List (M D)} {σ : L2.St} {lb : Lb} {H : Hp} {ρ : Env} {s : Sto} {k k' : List D → Env → Sto → Lb → Hp → Prop} (h : Post b σ lb H (eL ms ρ s) k) (f : ∀ ds ρ s lb' H', ds.length = ms.length → Stp lb H lb' H' → Ok b lb' ρ s σ H' → k ds ρ s lb' H' → k' ds ρ s lb' H') : Post b σ lb H (eL ms ρ s) k' := by
  cases e : eL ms ρ s with
  | ok ds r1 s1 => rw [e] at h; exact fun lb' H' st o => f ds r1 s1 lb' H' (eL_len e) st o (h lb' H' st o)
  | exc x r s => rw [e] at h; exact h
  | bad => rw [e] at h; exact h
theorem de_tup {es : List Expr} {ms : List (M D)} {x1 pos} (h : DA X b es ms) (hl : ms.length ≤ SZ := by decide) : DE X b (.Tuple es x1 pos) (eTup ms) := by
  refine PE.imp (pe_tup h) fun σ H Q ⟨lb, ρ, s, o, p⟩ => ⟨lb, ρ, s, o, tAL_len (Post.bind p) fun ds ρ1 s1 lb1 H1 hn st o1 q => fun vs H2 ex r => ?_⟩
  have hv : vs.length ≤ sizeLine := by rw [← r.length, hn, ← SZ_eq]; exact hl
  refine ⟨hv, fun a na => ?_⟩
  have ex2 : Ext H1 (L2.upd H2 a (.tup vs)) := ex.trans (Ext.upd na)
  have o2 := o1.ext ex2
  have la : lb1 a = none := (o1.ext ex).has |> fun z => Has.none z na
  refine KV.now (show KV b.cn lb1 (L2.upd H2 a (.tup vs)) (.tup ds) Q from q lb1 _ (o1.stp_ext ex2) o2) ?_
  simp only [Rep]
  exact ⟨a, vs, rfl, ⟨la, upd_same⟩, by rw [hn]; exact hl, r.stp ((o1.ext ex).stp_ext (Ext.upd na))⟩
theorem df_lst {es : List Expr} {ms : List (M D)} {pos} (h : DA X b es ms) (hl : ms.length ≤ SZ := by decide) : DF X b (.List es pos) (eLst ms) := by
  refine PE.imp (pe_lst h) fun σ H Q ⟨lb, ρ, s, o, p⟩ => ⟨lb, ρ, s, o, tAL_len (Post.bind p) fun ds ρ1 s1 lb1 H1 hn st o1 q => fun vs H2 ex r => ?_⟩
  have hv : vs.length ≤ sizeLine := by rw [← r.length, hn, ← SZ_eq]; exact hl
  refine ⟨hv, fun a na => ?_⟩
  exact (show KF b.cn lb1 H2 (.lst ds) Q from q lb1 H2 (o1.stp_ext ex) (o1.ext ex)) a (.lst vs) na ⟨vs, rfl, by rw [hn]; exact hl, r⟩

/-! ### and, or, not, if as values and tests -/
theorem bool_of {cn : Cn} {lb : Lb} {H : Hp} {c : Bool} {v : V} (h : Rep cn lb H (.bool c) v) : v = .bl c := by simpa only [Rep] using h
/-- the first of two: a bool -/
theorem first_bool {m : M D} {f : Bool → M D} {g : D → Env → Sto → R D} {σ : L2.St} {lb : Lb} {H : Hp} {ρ : Env} {s : Sto} {Q : VK} {k : D → Env → Sto → Lb → Hp → Prop} (o : Ok b lb ρ s σ H) (hg : ∀ c r s, g (.bool c) r s = f c r s) (hb : ∀ (d : D) (r : Env) (s : Sto), match d with | .bool _ => True | d => g d r s = .bad)
    (h : Post b σ lb H ((m ρ s).bind g) k) (hk : ∀ c H1, (∃ lb ρ s, Ok b lb ρ s σ H1 ∧ Post b σ lb H1 (f c ρ s) k) → Q (.bl c) H1) : tK false b m σ H Q := by
  refine ⟨lb, ρ, s, o, (Post.bind h).mono fun d ρ1 s1 lb1 H1 st o1 q => fun v H2 ex r => ?_⟩
  have hz := hb d ρ1 s1
  cases d with
  | bool c =>
    rw [bool_of r]
    rw [hg] at q
    exact hk c H2 ⟨lb1, ρ1, s1, o1.ext ex, Post.from q (o1.stp_ext ex)⟩
  | _ => rw [show g _ ρ1 s1 = R.bad from hz] at q; exact False.elim q
theorem first_test {m : M D} {f : Bool → M D} {g : D → Env → Sto → R D} {σ : L2.St} {lb : Lb} {H : Hp} {ρ : Env} {s : Sto} {Q : Bool → Hp → Prop} {k : D → Env → Sto → Lb → Hp → Prop} (o : Ok b lb ρ s σ H) (hg : ∀ c r s, g (.bool c) r s = f c r s) (hb : ∀ (d : D) (r : Env) (s : Sto), match d with | .bool _ => True | d => g d r s = .bad)
    (h : Post b σ lb H ((m ρ s).bind g) k) (hk : ∀ c H1, (∃ lb ρ s, Ok b lb ρ s σ H1 ∧ Post b σ lb H1 (f c ρ s) k) → Q c H1) : tT b m σ H Q := by
  refine ⟨lb, ρ, s, o, (Post.bind h).mono fun d ρ1 s1 lb1 H1 st o1 q => ?_⟩
  have hz := hb d ρ1 s1
  cases d with
  | bool c =>
    rw [hg] at q
    exact fun H2 ex => hk c H2 ⟨lb1, ρ1, s1, o1.ext ex, Post.from q (o1.stp_ext ex)⟩
  | _ => rw [show g _ ρ1 s1 = R.bad from hz] at q; exact False.elim q
theorem done_val {d : D} {σ : L2.St} {H : Hp} {Q : VK} {v : V} (h : ∃ lb ρ s, Ok b lb ρ s σ H ∧ Post b σ lb H ((eC d) ρ s) fun d _ _ lb' H' => Kt false b.cn lb' H' d Q) (r : ∀ lb, Rep b.cn lb H d v) : Q v H := by
  obtain ⟨lb, ρ, s, o, p⟩ := h
  exact KV.now (show KV b.cn lb H d Q from p lb H .refl o) (r lb)
abbrev andK (n : M D) (c : Bool) : M D := if c = true then n else eC (.bool false)
abbrev orK (n : M D) (c : Bool) : M D := if c = true then eC (.bool true) else n
theorem de_and1 {op a m pos} (h : DE X b a m) : DE X b (.BoolOp op [a] pos) m := pe_one h
theorem de_and {a c : Expr} {rest : List Expr} {m n : M D} {pos : Pos} (ha : DE X b a m) (hc : DE X b (.BoolOp .And (c :: rest) pos) n) : DE X b (.BoolOp .And (a :: c :: rest) pos) (eAnd m n) := by
  refine PE.imp (pe_and ha hc) fun σ H Q ⟨lb, ρ, s, o, p⟩ => ?_
  refine first_bool (f := andK n) o (fun c r s => by cases c <;> rfl) (fun d r s => by cases d <;> first | rfl | trivial) p fun c H1 h => ⟨c, rfl, ?_⟩
  cases c with
  | true => exact h
  | false => exact done_val h fun lb => by simp only [Rep]
theorem de_not {a : Expr} {m : M D} {pos : Pos} (ha : DE X b a m) : DE X b (.UnaryOp .Not a pos) (eNot m) := by
  refine PE.imp (pe_not ha) fun σ H Q ⟨lb, ρ, s, o, p⟩ => ?_
  refine first_bool (f := fun c => eC (.bool !c)) o (fun c r s => rfl) (fun d r s => by cases d <;> first | rfl | trivial) p fun c H1 h => ⟨c, rfl, ?_⟩
  exact done_val h fun lb => by simp only [Rep]
theorem done_test {c : Bool} {σ : L2.St} {H : Hp} {Q : Bool → Hp → Prop} (h : ∃ lb ρ s, Ok b lb ρ s σ H ∧ Post b σ lb H ((eC (.bool c)) ρ s) fun d _ _ _ H' => match d with
  | .bool c => ∀ H2, Ext H' H2 → Q c H2
  | _ => False) : Q c H := by
  obtain ⟨lb, ρ, s, o, p⟩ := h
  exact (show ∀ H2, Ext H H2 → Q c H2 from p lb H .refl o) H .refl
/-- tests of and, or: whatever their whole -/
abbrev DW (X : Cx) (b : Bd) (e : Expr) (m : M D) : Prop := PW X e (tT b m)
theorem PW.imp {X : Cx} {e : Expr} {t t' : TT} (h : PW X e t) (f : ∀ σ H Q, t' σ H Q → t σ H Q) : PW X e t' := ⟨fun wh pins s σ H Q I q => h.run wh pins s σ H Q I (f σ H Q q)⟩
theorem dw_and1 {a m pos} (h : DT X b a m) : DW X b (.BoolOp .And [a] pos) m := pw_and1 h
theorem dw_or1 {a m pos} (h : DT X b a m) : DW X b (.BoolOp .Or [a] pos) m := pw_or1 h
theorem dw_and {a c : Expr} {rest : List Expr} {m n : M D} {pos : Pos} (ha : DT X b a m) (hc : DW X b (.BoolOp .And (c :: rest) pos) n) : DW X b (.BoolOp .And (a :: c :: rest) pos) (eAnd m n) := by
  refine PW.imp (pw_and ha hc) fun σ H Q ⟨lb, ρ, s, o, p⟩ => ?_
  refine first_test (f := andK n) o (fun c r s => by cases c <;> rfl) (fun d r s => by cases d <;> first | rfl | trivial) p fun c H1 h => ?_
  cases c with
  | true => exact h
  | false => exact done_test h
theorem dw_or {a c : Expr} {rest : List Expr} {m n : M D} {pos : Pos} (ha : DT X b a m) (hc : DW X b (.BoolOp .Or (c :: rest) pos) n) : DW X b (.BoolOp .Or (a :: c :: rest) pos) (eOr m n) := by
  refine PW.imp (pw_or ha hc) fun σ H Q ⟨lb, ρ, s, o, p⟩ => ?_
  refine first_test (f := orK n) o (fun c r s => by cases c <;> rfl) (fun d r s => by cases d <;> first | rfl | trivial) p fun c H1 h => ?_
  cases c with
  | false => exact h
  | true => exact done_test h
theorem dt_w {e : Expr} {m : M D} (h : DW X b e m) : DT X b e m := h.pt
theorem dt_not {a : Expr} {m : M D} {pos : Pos} (ha : DT X b a m) : DT X b (.UnaryOp .Not a pos) (eNot m) := by
  refine PT.imp (pt_not ha) fun σ H Q ⟨lb, ρ, s, o, p⟩ => ?_
  refine first_test (f := fun c => eC (.bool !c)) o (fun c r s => rfl) (fun d r s => by cases d <;> first | rfl | trivial) p fun c H1 h => ?_
  exact done_test h
theorem de_ite {c x y : Expr} {m n k : M D} {pos : Pos} {fresh : Bool} (hc : DT X b c m) (hx : PE X x (tK fresh b n)) (hy : PE X y (tK fresh b k)) : PE X (.IfExp c x y pos) (tK fresh b (eIte m n k)) := by
  refine PE.imp (pe_ifExp hc hx hy) fun σ H Q ⟨lb, ρ, s, o, p⟩ => ?_
  refine first_test (f := fun c => if c = true then n else k) o (fun c r s => by cases c <;> rfl) (fun d r s => by cases d <;> first | rfl | trivial) p fun c H1 h => ?_
  cases c with
  | true => exact h
  | false => exact h
/-- a < b <= c -/
theorem chain_run {p q : D → D → Option D} {r r' : R2} {m1 m2 m3 : M D} (hp : P2 false b.cn r p) (hq : P2 false b.cn r' q) {σ : L2.St} {H : Hp} {Q : VK} (h : tK false b (eChain p q m1 m2 m3) σ H Q) : tChain r r' (tK false b m1) (tK false b m2) (tK false b m3) σ H Q := by
  obtain ⟨lb, ρ, s, o, h⟩ := h
  refine ⟨lb, ρ, s, o, (Post.bind h).mono fun x ρ1 s1 lb1 H1 st o1 h1 => fun vx H2 ex r1 => ?_⟩
  refine ⟨lb1, ρ1, s1, o1.ext ex, (Post.bind (Post.from h1 (o1.stp_ext ex))).mono fun y ρ2 s2 lb2 H3 st2 o2 h2 => fun vy H4 ex2 r2 => ?_⟩
  have h2 := Post.from h2 (o2.stp_ext ex2)
  have o4 := o2.ext ex2
  have rx := r1.stp (st2.trans (o2.stp_ext ex2))
  cases e : p x y with
  | none => rw [e] at h2; exact False.elim h2
  | some d =>
    rw [e] at h2
    cases d with
    | bool c =>
      refine hp lb2 H4 vx vy x y (.bool c) _ o4.has (.inl rx) (.inl r2) e fun v H5 ex5 r5 => ⟨c, bool_of r5, ?_⟩
      cases c with
      | true =>
        refine ⟨lb2, ρ2, s2, o4.ext ex5, (Post.bind (Post.from h2 (o4.stp_ext ex5))).mono fun z ρ3 s3 lb3 H6 st6 o6 h6 => fun vz H7 ex7 r7 => ?_⟩
        obtain ⟨d, e6, k⟩ := opt_post (o6.ext ex7) (Post.from h6 (o6.stp_ext ex7))
        exact hq lb3 H7 vy vz y z d Q (o6.ext ex7).has (.inl (r2.stp ((o4.stp_ext ex5).trans (st6.trans (o6.stp_ext ex7))))) (.inl r7) e6 k
      | false => exact KV.now (show KV b.cn lb2 H5 (.bool false) Q from h2 lb2 H5 (o4.stp_ext ex5) (o4.ext ex5)) (by simp only [Rep])
    | _ => exact False.elim h2
theorem de_chain {p q : D → D → Option D} {r r' : R2} {op op' : CmpOp} {e1 e2 e3 : Expr} {m1 m2 m3 : M D} {pos : Pos} (ho : OpR X (compareOp op) r) (hp : P2 false b.cn r p) (ho' : OpR X (compareOp op') r') (hq : P2 false b.cn r' q)
    (h1 : DE X b e1 m1) (h2 : DE X b e2 m2) (h3 : DE X b e3 m3) (hm : lastMarks [op, op'] [e2, e3] = false := by with_unfolding_all rfl) : DE X b (.Compare e1 [op, op'] [e2, e3] pos) (eChain p q m1 m2 m3) :=
  PE.imp (pe_chain ho ho' h1 h2 h3 hm) fun _ _ _ h => chain_run hp hq h
theorem dt_chain {p q : D → D → Option D} {r r' : R2} {op op' : CmpOp} {e1 e2 e3 : Expr} {m1 m2 m3 : M D} {pos : Pos} (ho : OpR X (compareOp op) r) (hp : P2 false b.cn r p) (ho' : OpR X (compareOp op') r') (hq : P2 false b.cn r' q)
    (h1 : DE X b e1 m1) (h2 : DE X b e2 m2) (h3 : DE X b e3 m3) (hm : lastMarks [op, op'] [e2, e3] = false := by with_unfolding_all rfl) : DT X b (.Compare e1 [op, op'] [e2, e3] pos) (eChain p q m1 m2 m3) :=
  PT.imp (pt_chain ho ho' h1 h2 h3 hm) fun σ H Q h => chain_run (Q := fun x H' => ∃ k, x = .bl k ∧ Q k H') hp hq (tT_test h)
end
end Pk
/-! Br4: calls of defs, statements, loops, a def's promise. -/
namespace Pk
open PySem PySem.Spec PyProof.Rows L2

/-- at a def's entry and end: no frame's own marks -/
structure EOk (cn : Cn) (lb : Lb) (s : Sto) (H : Hp) : Prop where
  sto : StoOk cn lb s H
  has : Has lb H
  nl : ∀ a l, lb a = some l → l.isLoc = false
/-- a def's promise -/
def spOf (cn : Cn) (F : Fn) : Sp := fun vs H Q E => ∃ lb s ds, EOk cn lb s H ∧ RepL cn lb H ds vs ∧ match F ds s with
  | .ok d s' => ∀ lb' H' v, Stp lb H lb' H' → EOk cn lb' s' H' → Rep cn lb' H' d v → Q v H'
  | .exc x s' => ∀ lb' H' cls dx, Stp lb H lb' H' → EOk cn lb' s' H' → XRep cn lb' H' x cls dx → E cls dx H'
  | .bad => False

/-- for a callee the caller's own things are others' -/
def rel (lb : Lb) : Lb := fun a => match lb a with
  | some (.loc _) => some .out
  | x => x
theorem rel_loc {lb : Lb} {a : Addr} {i : Nat} (h : lb a = some (.loc i)) : rel lb a = some .out := by unfold rel; rw [h]
theorem rel_ne {lb : Lb} {a : Addr} (h : ∀ i, lb a ≠ some (.loc i)) : rel lb a = lb a := by
  unfold rel
  cases q : lb a with
  | none => rfl
  | some l =>
    cases l with
    | loc i => exact absurd q (h i)
    | _ => rfl
theorem rel_none {lb : Lb} {a : Addr} : rel lb a = none ↔ lb a = none := by
  unfold rel
  cases q : lb a with
  | none => simp
  | some l => cases l <;> simp
theorem rel_sto {lb : Lb} {a : Addr} {l : Lab} (h : lb a = some l) (i : l.isSto = true) : rel lb a = some l := by
  rw [rel_ne (by rintro j e; rw [h] at e; cases e; cases i)]
  exact h
theorem of_rel_sto {lb : Lb} {a : Addr} {l : Lab} (h : rel lb a = some l) (i : l.isSto = true) : lb a = some l := by
  unfold rel at h
  cases q : lb a with
  | none => rw [q] at h; cases h
  | some l' =>
    rw [q] at h
    cases l' with
    | loc j => cases h; cases i
    | _ => exact h
theorem Stq.rel {lb : Lb} {H : Hp} : Stq lb H (rel lb) H := ⟨fun _ _ h _ => h, fun a h => .inl fun e => h (rel_none.mpr e), fun _ _ h i => rel_sto h i⟩
/-- back at the caller -/
def unrel (lb lc : Lb) : Lb := fun a => match lb a with
  | some (.loc i) => some (.loc i)
  | _ => lc a
theorem unrel_loc {lb lc : Lb} {a : Addr} {i : Nat} (h : lb a = some (.loc i)) : unrel lb lc a = some (.loc i) := by unfold unrel; rw [h]
theorem unrel_ne {lb lc : Lb} {a : Addr} (h : ∀ i, lb a ≠ some (.loc i)) : unrel lb lc a = lc a := by
  unfold unrel
  cases q : lb a with
  | none => rfl
  | some l =>
    cases l with
    | loc i => exact absurd q (h i)
    | _ => rfl
section
variable {cn : Cn} {lb lc : Lb} {H H' : Hp}
theorem unrel_case (lb : Lb) (a : Addr) : (∃ i, lb a = some (.loc i)) ∨ ∀ i, lb a ≠ some (.loc i) := by
  cases q : lb a with
  | none => exact .inr fun i e => nomatch e
  | some l =>
    cases l with
    | loc i => exact .inl ⟨i, rfl⟩
    | _ => exact .inr fun i e => by cases e
theorem Stp.unrel (s : Stp (rel lb) H lc H') : Stp lb H (Pk.unrel lb lc) H' where
  keep := fun a o h n => s.keep a o h (rel_none.mpr n)
  out := fun a h => by
    have h1 : rel lb a = some .out := by rw [rel_ne (by rintro i e; rw [h] at e; cases e)]; exact h
    rw [unrel_ne (by rintro i e; rw [h] at e; cases e)]
    exact s.out a h1
  new := fun a h => by
    rcases unrel_case lb a with ⟨i, e⟩ | e
    · exact .inl (by rw [e]; simp)
    · rw [unrel_ne e] at h
      exact (s.new a h).imp (fun z q => z (rel_none.mpr q)) id
  sto := fun a l h i => by
    rw [unrel_ne (by rintro j e; rw [h] at e; cases e; cases i)]
    exact s.sto a l (rel_sto h i) i
  dom := s.dom
/-- a store mark behind the call is one for the caller -/
theorem unrel_sto (s : Stp (rel lb) H lc H') {a : Addr} {l : Lab} (h : lc a = some l) (i : l.isSto = true) : Pk.unrel lb lc a = some l := by
  rw [unrel_ne ?_]
  · exact h
  · intro j e
    have := (s.out a (rel_loc e)).1
    rw [h] at this
    cases this
    cases i
theorem unrel_none (s : Stp (rel lb) H lc H') {a : Addr} (h : lc a = none) : Pk.unrel lb lc a = none := by
  rw [unrel_ne ?_]
  · exact h
  · intro j e
    have := (s.out a (rel_loc e)).1
    rw [h] at this
    cases this
theorem Stq.back (s : Stp (Pk.rel lb) H lc H') : Stq lc H' (Pk.unrel lb lc) H' := ⟨fun _ _ h _ => h, fun a h => .inl fun e => h (unrel_none s e), fun _ _ h i => unrel_sto s h i⟩
theorem of_unrel_sto {a : Addr} {l : Lab} (h : Pk.unrel lb lc a = some l) (i : l.isSto = true) : lc a = some l := by
  rcases unrel_case lb a with ⟨j, e⟩ | e
  · rw [unrel_loc e] at h; cases h; cases i
  · rw [unrel_ne e] at h; exact h
variable {lb0 : Lb} {H0 : Hp} {ρ : Env} {s s' : Sto} {σ : L2.St}
theorem BOk.entry (o : BOk cn lb0 H0 lb ρ s σ H) : EOk cn (rel lb) s H :=
  ⟨o.sto.stp .rel (fun _ _ _ _ => rfl) (fun _ _ e i => of_rel_sto e i), fun a l e => by
    cases q : lb a with
    | none => rw [rel_none.mpr q] at e; cases e
    | some l' => exact o.has a l' q, fun a l e => by
    unfold rel at e
    cases q : lb a with
    | none => rw [q] at e; cases e
    | some l' => rw [q] at e; cases l' <;> cases e <;> rfl⟩
theorem BOk.after (o : BOk cn lb0 H0 lb ρ s σ H) (st : Stp (rel lb) H lc H') (e : EOk cn lc s' H') : BOk cn lb0 H0 (Pk.unrel lb lc) ρ s' σ H' := by
  have st' := st.unrel
  refine ⟨o.since.trans st', e.sto.stp (Stq.back st) (fun _ _ _ _ => rfl) (fun _ _ h i => of_unrel_sto h i), fun a l h => ?_, o.len, fun i d h => ?_, fun i d h => ?_, fun i R h => ?_⟩
  · rcases unrel_case lb a with ⟨i, q⟩ | q
    · obtain ⟨u, hu, t⟩ := o.has a _ q
      exact ⟨u, by rw [(st.out a (rel_loc q)).2]; exact hu, t⟩
    · rw [unrel_ne q] at h
      exact e.has a l h
  · obtain ⟨v, e1, r⟩ := o.sh i d h
    exact ⟨v, e1, r.stp st'⟩
  · obtain ⟨a, u, e1, l, q, w⟩ := o.ow i d h
    exact ⟨a, u, e1, unrel_loc l, by rw [(st.out a (rel_loc l)).2]; exact q, w.stp st'⟩
  · obtain ⟨a, e1, w⟩ := o.mt i R h
    exact ⟨a, e1, w.keep st'.q fun x hx => ⟨unrel_loc hx, (st.out x (rel_loc hx)).2⟩⟩
end
theorem XRep.stq {cn : Cn} {lb lb' : Lb} {H H' : Hp} {x : Xc} {cls : Value} {dx : Option Addr} (h : XRep cn lb H x cls dx) (s : Stq lb H lb' H') : XRep cn lb' H' x cls dx := by
  obtain ⟨e, h⟩ := h
  refine ⟨e, ?_⟩
  cases q : x.arg with
  | none => rw [q] at h; exact h
  | some d =>
    rw [q] at h
    obtain ⟨p, v, e1, l, hp, r⟩ := h
    exact ⟨p, v, e1, s.none hp l, s.keep p _ hp l, r.stq s⟩
theorem XRep.stp {cn : Cn} {lb lb' : Lb} {H H' : Hp} {x : Xc} {cls : Value} {dx : Option Addr} (h : XRep cn lb H x cls dx) (s : Stp lb H lb' H') : XRep cn lb' H' x cls dx := h.stq s.q

section
variable {X : Cx} {b : Bd}
/-- a def of the text, called -/
structure Gd (n : Nat) (X : Cx) (b : Bd) : Prop where
  kk : b.cn.K = X.K
  calm : X.calm = true
  nd : X.N.Nodup
  tk : Takes X b.W
  room : Room n X.A
  po : PassesOwn (model X.prog X.w) X.A X.env X.xe
theorem call_run {F : Fn} {σ : L2.St} {lb : Lb} {H : Hp} {ρ : Env} {s : Sto} {ds : List D} {vs : List V} {Q : VK} (o : Ok b lb ρ s σ H) (r : RepL b.cn lb H ds vs) (h : Post b σ lb H ((F ds s).at ρ) fun d _ _ lb' H' => Kt false b.cn lb' H' d Q) :
    spOf b.cn F vs H Q (WE b.W σ) := by
  refine ⟨rel lb, s, ds, o.entry, r.stq .rel, ?_⟩
  cases e : F ds s with
  | ok d s' =>
    rw [e] at h
    exact fun lc H' v st e' rv => KV.now (show KV b.cn (unrel lb lc) H' d Q from h _ _ st.unrel (o.after st e')) (rv.stq (Stq.back st))
  | exc x s' =>
    rw [e] at h
    exact fun lc H' cls dx st e' rv => h _ _ _ _ st.unrel (o.after st e') (rv.stq (Stq.back st))
  | bad => rw [e] at h; exact h
theorem de_call {n k : Nat} {f : Addr} {fd : FuncData} {ps : List Str} {F : Fn} {dvs : List V} {dv : List D} {dsv : List Value} {x : Str} {p pos : Pos} {e : Expr} {es : List Expr} {ms : List (M D)} (g : Gd n X b) (hf : FnOk X.prog X.w X.K X.mg X.base (L2.CX X.prog X.w) k f fd ps (spOf b.cn F)) (hk : k ≤ n)
    (hg : Gl X x) (hm : X.mg x = some (.ref f)) (hkp : PySem.W.keepIn X.K (.ref f) = true) (hb : Binds X.K fd ps dsv) (hd : Vals dvs dsv) (hdv : ∀ lb H, RepL b.cn lb H dv dvs) (ha : DA X b (e :: es) ms)
    (hdb : (x == ("__debug__" : Str)) = false := by decide) (he : starEach (e :: es) X.env = (false, eval e X.env) :: starEach es X.env := by rfl) (hpl : (backTo pos (starEach es X.env)).any (·.1) = false := by rfl) :
    DE X b (.Call (.Name x p) (e :: es) [] pos) (eCall F ms dv) := by
  refine PE.imp (pe_callSD (E := WE b.W) hf (g.room.mono hk) hg hm hkp hb hd (fun σ => passAt g.tk σ) ha hdb he hpl) fun σ H Q ⟨lb, ρ, s, o, p⟩ => ?_
  refine ⟨lb, ρ, s, o, (Post.bind p).mono fun ds ρ1 s1 lb1 H1 st o1 q => fun vs H2 ex r => ?_⟩
  exact call_run (o1.ext ex) (r.append (hdv _ _)) (Post.from q (o1.stp_ext ex))

/-! ### statements -/
def tS (b : Bd) (m : S) : TS := fun D σ H => ∃ lb ρ s, Ok b lb ρ s σ H ∧ match m ρ s with
  | .ok f ρ' s' => ∀ lb' σ' H', Stp lb H lb' H' → Ok b lb' ρ' s' σ' H' → (match f with
    | .nx => D.nx σ' H'
    | .bk => D.bk σ' H'
    | .ct => D.ct σ' H'
    | .rt d => ∀ v, Rep b.cn lb' H' d v → D.rt v H')
  | .exc x ρ' s' => ∀ lb' σ' H' cls dx, Stp lb H lb' H' → Ok b lb' ρ' s' σ' H' → XRep b.cn lb' H' x cls dx → b.W cls dx σ' H'
  | .bad => False
abbrev DS (X : Cx) (b : Bd) (st : Stmt) (m : S) : Prop := PS X st (tS b m)
abbrev DSs (X : Cx) (b : Bd) (sts : List Stmt) (m : S) : Prop := PSs X sts (tS b m)
/-- what is wanted behind a statement, at a point of the body -/
def SPost (b : Bd) (D : Ends) (lb : Lb) (H : Hp) (r : R Fl) : Prop := match r with
  | .ok f ρ' s' => ∀ lb' σ' H', Stp lb H lb' H' → Ok b lb' ρ' s' σ' H' → (match f with
    | .nx => D.nx σ' H'
    | .bk => D.bk σ' H'
    | .ct => D.ct σ' H'
    | .rt d => ∀ v, Rep b.cn lb' H' d v → D.rt v H')
  | .exc x ρ' s' => ∀ lb' σ' H' cls dx, Stp lb H lb' H' → Ok b lb' ρ' s' σ' H' → XRep b.cn lb' H' x cls dx → b.W cls dx σ' H'
  | .bad => False
theorem SPost.from {D : Ends} {lb lb1 : Lb} {H H1 : Hp} {r : R Fl} (h : SPost b D lb H r) (st : Stp lb H lb1 H1) : SPost b D lb1 H1 r := by
  cases r with
  | ok f ρ s => exact fun lb' σ' H' s1 o => h lb' σ' H' (st.trans s1) o
  | exc x ρ s => exact fun lb' σ' H' c d s1 o z => h lb' σ' H' c d (st.trans s1) o z
  | bad => exact h
/-- an expression, then the rest -/
theorem SPost.bind {α : Type} {D : Ends} {σ : L2.St} {lb : Lb} {H : Hp} {r : R α} {f : α → Env → Sto → R Fl} (h : SPost b D lb H (r.bind f)) : Post b σ lb H r fun a ρ s lb' H' => SPost b D lb' H' (f a ρ s) := by
  cases r with
  | ok a ρ s => exact fun lb' H' st o => SPost.from h st
  | exc x ρ s => exact fun lb' H' c d st o z => h lb' σ H' c d st o z
  | bad => exact h
theorem ds_nil : DSs X b [] sNil := PSs.imp pss_nil fun D σ H ⟨lb, ρ, s, o, h⟩ => h lb σ H .refl o
theorem seq_run {m n : S} {D : Ends} {σ : L2.St} {H : Hp} (h : tS b (sSeq m n) D σ H) : tSeq (tS b m) (tS b n) D σ H := by
  obtain ⟨lb, ρ, s, o, h⟩ := h
  have h : SPost b D lb H ((m ρ s).bind fun f r s => match f with | .nx => n r s | f => .ok f r s) := h
  refine ⟨lb, ρ, s, o, ?_⟩
  cases e : m ρ s with
  | ok f ρ1 s1 =>
    rw [e, R.bind_ok] at h
    intro lb1 σ1 H1 st o1
    cases f with
    | nx => exact ⟨lb1, ρ1, s1, o1, SPost.from h st⟩
    | bk => exact h lb1 σ1 H1 st o1
    | ct => exact h lb1 σ1 H1 st o1
    | rt d => exact h lb1 σ1 H1 st o1
  | exc x ρ1 s1 => rw [e] at h; exact h
  | bad => rw [e] at h; exact h
theorem ds_cons {st : Stmt} {rest : List Stmt} {m n : S} (h1 : DS X b st m) (h2 : DSs X b rest n) : DSs X b (st :: rest) (sSeq m n) := PSs.imp (pss_cons h1 h2) fun _ _ _ h => seq_run h
theorem ds_one {st : Stmt} {m : S} (h1 : DS X b st m) : DSs X b [st] m := pss_one h1
theorem ds_ret {e : Expr} {m : M D} {pos : Pos} (h : DE X b e m) : DS X b (.Return (some e) pos) (sRet m) := PS.imp (ps_ret h) fun D σ H ⟨lb, ρ, s, o, p⟩ => by
  refine ⟨lb, ρ, s, o, (SPost.bind (D := D) p).mono fun d ρ1 s1 lb1 H1 st o1 q => fun v H2 ex r => ?_⟩
  exact q lb1 σ H2 (o1.stp_ext ex) (o1.ext ex) v r
theorem ds_expr {e : Expr} {m : M D} {pos : Pos} (h : DE X b e m) (hs : swapsWith e none pos.line X.env = pure false := by rfl) : DS X b (.Expr e pos) (sExpr m) := PS.imp (ps_expr h hs) fun D σ H ⟨lb, ρ, s, o, p⟩ => by
  refine ⟨lb, ρ, s, o, (SPost.bind (D := D) p).mono fun d ρ1 s1 lb1 H1 st o1 q => fun v H2 ex r => ?_⟩
  exact q lb1 σ H2 (o1.stp_ext ex) (o1.ext ex)
/-- x = e -/
theorem set_run {e : M D} {i : Nat} {D : Ends} {σ : L2.St} {H : Hp} (h : tS b (sSet false i e) D σ H) : tAsg (tK false b e) (gName i) D σ H := by
  obtain ⟨lb, ρ, s, o, p⟩ := h
  refine ⟨lb, ρ, s, o, (SPost.bind (D := D) p).mono fun d ρ1 s1 lb1 H1 st o1 q => fun v H2 ex r => ?_⟩
  exact q (unl lb1 i) (σ.set i (some v)) H2 ((o1.stp_ext ex).trans (.unl _ _ _)) ((o1.ext ex).setSh i r)
theorem setF_run {e : M D} {i : Nat} {D : Ends} {σ : L2.St} {H : Hp} (hi : i < σ.length) (h : tS b (sSet true i e) D σ H) : tAsg (tK true b e) (gName i) D σ H := by
  obtain ⟨lb, ρ, s, o, p⟩ := h
  refine ⟨lb, ρ, s, o, (SPost.bind (D := D) p).mono fun d ρ1 s1 lb1 H1 st o1 q => fun a u na w => ?_⟩
  obtain ⟨o2, st2⟩ := o1.setOw i (by rw [o1.len]; exact hi) na w
  exact q _ _ _ st2 o2
theorem ds_set {i : Nat} {x : Str} {e : Expr} {m : M D} {pos pos' : Pos} {n : Nat} (g : Gd n X b) (hi : X.N[i]? = some x) (hx : Loc X.env.scope x) (h : DE X b e m) (hs : swapsWith e (some (.Name x pos')) pos.line X.env = pure false := by rfl)
    (hf : X.fn x = true ∨ X.env.scope.names.lookup x = some .local := by first | exact .inl rfl | exact .inr rfl | assumption) : DS X b (.Assign [.Name x pos'] e pos) (sSet false i m) := PS.imp (ps_set g.nd hi hx h hs hf) fun _ _ _ h => set_run h
theorem inv_len {X : Cx} {pins : List (Addr × Obj)} {σ : L2.St} {H : Hp} {s : Shared} (I : Inv X pins σ H s) : σ.length = X.N.length := I.len
theorem ds_setF {i : Nat} {x : Str} {e : Expr} {m : M D} {pos pos' : Pos} {n : Nat} (g : Gd n X b) (hi : X.N[i]? = some x) (hx : Loc X.env.scope x) (h : DF X b e m) (hs : swapsWith e (some (.Name x pos')) pos.line X.env = pure false := by rfl)
    (hf : X.fn x = true ∨ X.env.scope.names.lookup x = some .local := by first | exact .inl rfl | exact .inr rfl | assumption) : DS X b (.Assign [.Name x pos'] e pos) (sSet true i m) :=
  ⟨fun pins s σ H D I q => (ps_set g.nd hi hx h hs hf).run pins s σ H D I (setF_run (by rw [inv_len I]; exact (List.getElem?_eq_some_iff.mp hi).1) q)⟩
theorem ds_if {c : Expr} {p q : List Stmt} {m : M D} {n k : S} {pos : Pos} (hc : DT X b c m) (hp : DSs X b p n) (hq : DSs X b q k) : DS X b (.If c p q pos) (sIf m n k) := by
  refine PS.imp (ps_if hc hp hq) fun D σ H ⟨lb, ρ, s, o, p⟩ => ⟨lb, ρ, s, o, (SPost.bind (D := D) p).mono fun d ρ1 s1 lb1 H1 st o1 q => ?_⟩
  cases d with
  | bool c =>
    intro H2 ex
    cases c with
    | true => exact ⟨lb1, ρ1, s1, o1.ext ex, SPost.from q (o1.stp_ext ex)⟩
    | false => exact ⟨lb1, ρ1, s1, o1.ext ex, SPost.from q (o1.stp_ext ex)⟩
  | _ => exact False.elim q
end
end Pk
/-! Br5: what a loop walks, targets, for, comprehensions, while. -/
namespace Pk
open PySem PySem.Spec PyProof.Rows L2

/-- J yields the items ds, one behind the other, as long as what nobody may change stands -/
def ItOk (cn : Cn) (lb : Lb) (H : Hp) (ds : List D) (J : L2.It) : Prop := ∀ lb' H', Stq lb H lb' H' → J.stop ds.length H' ∧
  ∀ (i : Nat) (d : D), ds[i]? = some d → J.go i H' ∧ ∀ x H2, J.yld i H' x H2 → Ext H' H2 ∧ (Has lb' H' → Rep cn lb' H2 d x)
def tI (b : Bd) (it : It) : TI := fun σ H R => ∃ lb ρ s, Ok b lb ρ s σ H ∧ Post b σ lb H (it ρ s) fun ds _ _ lb' H' => ds.length ≤ SZ → ∀ J H2, Ext H' H2 → ItOk b.cn lb' H2 ds J → R J H2
abbrev DI (X : Cx) (b : Bd) (tg iter : Expr) (it : It) : Prop := PI X tg iter (tI b it)

theorem Stq.trans {l1 l2 l3 : Lb} {H1 H2 H3 : Hp} (a : Stq l1 H1 l2 H2) (b : Stq l2 H2 l3 H3) : Stq l1 H1 l3 H3 where
  keep := fun x o h n => b.keep x o (a.keep x o h n) (a.none h n)
  new := fun x h => by
    rcases b.new x h with z | z
    · exact a.new x z
    · cases q : H1 x with
      | none => exact .inr rfl
      | some o =>
        refine .inl fun n => ?_
        rw [a.keep x o q n] at z
        cases z
  sto := fun x l h i => b.sto x l (a.sto x l h i) i
theorem ItOk.stq {cn : Cn} {lb lb' : Lb} {H H' : Hp} {ds : List D} {J : L2.It} (h : ItOk cn lb H ds J) (s : Stq lb H lb' H') : ItOk cn lb' H' ds J := fun l2 H2 s2 => h l2 H2 (s.trans s2)
theorem Stq.of_ext {lb : Lb} {H H' : Hp} (h : Ext H H') : Stq lb H lb H' := ⟨fun a o e _ => h a o e, fun _ e => .inl e, fun _ _ e _ => e⟩

/-! ### targets -/
mutual
def Tg.slots : Tg → List Nat
  | .n i => [i]
  | .t l => Tg.slotsL l
def Tg.slotsL : List Tg → List Nat
  | [] => []
  | g :: gs => g.slots ++ Tg.slotsL gs
end
/-- outside these slots nothing is set -/
def SameOut (is : List Nat) (σ σ' : L2.St) : Prop := ∀ own : List Nat, (∀ i ∈ is, i ∈ own) → wipe σ' own = wipe σ own
theorem wipe_set {σ : L2.St} {i : Nat} {x : Option V} : ∀ {vs : List Nat}, i ∈ vs → wipe (σ.set i x) vs = wipe σ vs
  | [], h => by cases h
  | v :: vs, h => by
    unfold wipe
    by_cases e : i ∈ vs
    · rw [wipe_set e]
    · have hv : v = i := by
        rcases List.mem_cons.mp h with z | z
        · exact z.symm
        · exact absurd z e
      subst hv
      have q : ∀ (ws : List Nat), v ∉ ws → wipe (σ.set v x) ws = (wipe σ ws).set v x := by
        intro ws
        induction ws with
        | nil => intro _; rfl
        | cons w ws ih =>
          intro hw
          have h1 : w ≠ v := fun e => hw (by rw [e]; exact List.mem_cons_self)
          have h2 : v ∉ ws := fun e => hw (List.mem_cons_of_mem _ e)
          unfold wipe
          rw [ih h2, List.set_comm _ _ (Ne.symm h1)]
      rw [q vs e, List.set_set]
def tG (b : Bd) (g : Tg) : TG := fun v σ H Q => ∃ lb ρ s d ρ', Ok b lb ρ s σ H ∧ Rep b.cn lb H d v ∧ setT ρ g d = some ρ' ∧ ∀ lb' σ', Stp lb H lb' H → Ok b lb' ρ' s σ' H → SameOut g.slots σ σ' → Q σ' H
def tGs (b : Bd) (gs : List Tg) : TGs := fun vs σ H Q => ∃ lb ρ s ds ρ', Ok b lb ρ s σ H ∧ RepL b.cn lb H ds vs ∧ setTs ρ gs ds = some ρ' ∧ ∀ lb' σ', Stp lb H lb' H → Ok b lb' ρ' s σ' H → SameOut (Tg.slotsL gs) σ σ' → Q σ' H
abbrev DG (X : Cx) (b : Bd) (tg : Expr) (g : Tg) : Prop := PG X tg (tG b g)
abbrev DGs (X : Cx) (b : Bd) (tgs : List Expr) (gs : List Tg) : Prop := PGs X tgs (tGs b gs)
theorem PG.imp {X : Cx} {e : Expr} {t t' : TG} (h : PG X e t) (f : ∀ v σ H Q, t' v σ H Q → t v σ H Q) : PG X e t' := ⟨fun pins s σ H x u Q I r q => h.run pins s σ H x u Q I r (f x σ H Q q)⟩
theorem PGs.imp {X : Cx} {e : List Expr} {t t' : TGs} (h : PGs X e t) (f : ∀ v σ H Q, t' v σ H Q → t v σ H Q) : PGs X e t' := ⟨fun pins s σ H x u Q I r q => h.run pins s σ H x u Q I r (f x σ H Q q)⟩
section
variable {X : Cx} {b : Bd}
theorem dg_n {i : Nat} {x : Str} {pos : Pos} (hN : X.N.Nodup) (hi : X.N[i]? = some x) (hx : Loc X.env.scope x) (hf : X.fn x = true ∨ X.env.scope.names.lookup x = some .local := by first | exact .inl rfl | exact .inr rfl | assumption) : DG X b (.Name x pos) (.n i) :=
  PG.imp (pg_name hN hi hx hf) fun v σ H Q ⟨lb, ρ, s, d, ρ', o, r, e, k⟩ => by
    simp only [setT, Option.some.injEq] at e
    subst e
    exact k (unl lb i) (σ.set i (some v)) (.unl _ _ _) (o.setSh i r) fun own hs => wipe_set (hs i (by simp only [Tg.slots]; exact List.mem_singleton.mpr rfl))
theorem dgs_nil : DGs X b [] [] := PGs.imp pgs_nil fun v σ H Q ⟨lb, ρ, s, ds, ρ', o, r, e, k⟩ => by
  cases ds with
  | nil =>
    simp only [setTs, Option.some.injEq] at e
    subst e
    simp only [RepL] at r
    exact ⟨r, k lb σ .refl o fun _ _ => rfl⟩
  | cons d ds => simp only [setTs] at e; cases e
theorem dgs_cons {e : Expr} {es : List Expr} {g : Tg} {gs : List Tg} (h : DG X b e g) (hs : DGs X b es gs) (hx : (assignEach (e :: es) X.env).map (·.2) = assign e X.env :: (assignEach es X.env).map (·.2) := by rfl) : DGs X b (e :: es) (g :: gs) := PGs.imp (pgs_cons h hs hx) fun v σ H Q ⟨lb, ρ, s, ds, ρ', o, r, e, k⟩ => by
  cases ds with
  | nil => simp only [setTs] at e; cases e
  | cons d ds =>
    simp only [setTs] at e
    cases q : setT ρ g d with
    | none => rw [q] at e; cases e
    | some ρ1 =>
      rw [q] at e
      have e : setTs ρ1 gs ds = some ρ' := e
      simp only [RepL] at r
      obtain ⟨v1, r1, e1, h1, h2⟩ := r
      refine ⟨v1, r1, e1, lb, ρ, s, d, ρ1, o, h1, q, fun lb1 σ1 st o1 so => ?_⟩
      refine ⟨lb1, ρ1, s, ds, ρ', o1, h2.stp st, e, fun lb2 σ2 st2 o2 so2 => k lb2 σ2 (st.trans st2) o2 fun own hi => ?_⟩
      simp only [Tg.slotsL] at hi
      rw [so2 own fun i m => hi i (List.mem_append_right _ m), so own fun i m => hi i (List.mem_append_left _ m)]
theorem PG.or {X : Cx} {e : Expr} {t u : TG} (h : PG X e t) (k : PG X e u) : PG X e (fun v σ H Q => t v σ H Q ∨ u v σ H Q) := ⟨fun pins s σ H x w Q I r q => q.elim (fun q => h.run pins s σ H x w Q I r q) (fun q => k.run pins s σ H x w Q I r q)⟩
theorem setTs_len : ∀ (gs : List Tg) (ρ ρ' : Env) (ds : List D), setTs ρ gs ds = some ρ' → ds.length = gs.length := by
  intro gs
  induction gs with
  | nil => intro ρ ρ' ds e; cases ds with | nil => rfl | cons _ _ => simp only [setTs] at e; cases e
  | cons g gs ih =>
    intro ρ ρ' ds e
    cases ds with
    | nil => simp only [setTs] at e; cases e
    | cons d ds =>
      simp only [setTs] at e
      cases q : setT ρ g d with
      | none => rw [q] at e; cases e
      | some ρ1 =>
        rw [q] at e
        rw [List.length_cons, List.length_cons, ih ρ1 ρ' ds e]
theorem dg_t {es : List Expr} {k : Nat} {pos : Pos} {gs : List Tg} {n : Nat} (g : Gd n X b) (h : DGs X b es gs) (hn : (assignEach es X.env).length = gs.length := by rfl) (hst : (assignEach es X.env).findIdx? (·.1) = none := by rfl) : DG X b (.Tuple es k pos) (.t gs) :=
  PG.imp (PG.or (pg_tup g.calm h hn hst) (pg_lst g.calm h hn hst)) fun v σ H Q ⟨lb, ρ, s, d, ρ', o, r, e, kk⟩ => by
    cases d with
    | tup ds =>
      simp only [setT] at e
      simp only [Rep] at r
      obtain ⟨a, vs, rfl, nt, z, rl⟩ := r
      refine .inl ⟨a, vs, rfl, nt.sq, by rw [← rl.length]; exact setTs_len _ _ _ _ e, lb, ρ, s, ds, ρ', o, rl, e, fun lb' σ' st o' so => kk lb' σ' st o' ?_⟩
      simp only [Tg.slots]
      exact so
    | lst ds =>
      simp only [setT] at e
      simp only [Rep] at r
      obtain ⟨a, vs, rfl, nt, z, rl⟩ := r
      refine .inr ⟨a, vs, rfl, nt.sq, by rw [← rl.length]; exact setTs_len _ _ _ _ e, lb, ρ, s, ds, ρ', o, rl, e, fun lb' σ' st o' so => kk lb' σ' st o' ?_⟩
      simp only [Tg.slots]
      exact so
    | _ => simp only [setT] at e; cases e

/-! ### for -/
theorem forL_cons {g : Tg} {body : S} {d : D} {ds : List D} {ρ ρ1 : Env} {s : Sto} (e : setT ρ g d = some ρ1) : forL g body (d :: ds) ρ s = (body ρ1 s).bind fun f r s => match f with
      | .nx => forL g body ds r s
      | .ct => forL g body ds r s
      | .bk => .ok .nx r s
      | .rt d => .ok (.rt d) r s := by
  simp only [forL, e] <;> rfl
theorem for_run {it : It} {g : Tg} {body : S} {D : Ends} {σ : L2.St} {H : Hp} (h : tS b (sFor it g body) D σ H) : tFor (tI b it) (tG b g) (tS b body) D σ H := by
  obtain ⟨lb, ρ, s, o, h⟩ := h
  have h : SPost b D lb H ((it ρ s).bind fun ds r s => forL g body ds r s) := h
  refine ⟨lb, ρ, s, o, (SPost.bind (D := D) h).mono fun ds ρ1 s1 lb1 H1 st o1 q => fun _ J H2 ex io => ?_⟩
  refine ⟨fun i m σ' H' => m = ds.length - i ∧ i ≤ ds.length ∧ ∃ lb ρ s, Ok b lb ρ s σ' H' ∧ ItOk b.cn lb H' ds J ∧ SPost b D lb H' (forL g body (ds.drop i) ρ s),
    ⟨ds.length, by simp, Nat.zero_le _, lb1, ρ1, s1, o1.ext ex, io, by simpa using SPost.from q (o1.stp_ext ex)⟩, ?_⟩
  rintro i m σ' H' ⟨rfl, hi, lb2, ρ2, s2, o2, io2, q2⟩
  obtain ⟨stop, go⟩ := io2 lb2 H' ⟨fun _ _ h _ => h, fun _ h => .inl h, fun _ _ h _ => h⟩
  by_cases hlt : i < ds.length
  · have hd : ds[i]? = some ds[i] := List.getElem?_eq_getElem hlt
    obtain ⟨hgo, hy⟩ := go i _ hd
    refine .inr ⟨hgo, fun σ3 H3 => ∃ lb ρ s, Ok b lb ρ s σ3 H3 ∧ ItOk b.cn lb H3 ds J ∧ SPost b D lb H3 (forL g body (ds.drop (i + 1)) ρ s), fun σ3 H3 h3 => ⟨ds.length - (i + 1), by omega, rfl, hlt, h3⟩, fun x H3 y => ?_⟩
    obtain ⟨ex3, rx⟩ := hy x H3 y
    rw [List.drop_eq_getElem_cons hlt] at q2
    have o3 := o2.ext ex3
    have st3 := o2.stp_ext ex3
    cases e : setT ρ2 g ds[i] with
    | none =>
      simp only [forL, e] at q2
      exact False.elim q2
    | some ρ3 =>
      rw [forL_cons e] at q2
      refine ⟨lb2, ρ2, s2, ds[i], ρ3, o3, rx o2.has, e, fun lb4 σ4 st4 o4 _ => ⟨lb4, ρ3, s2, o4, ?_⟩⟩
      have q4 := SPost.from q2 (st3.trans st4)
      cases eb : body ρ3 s2 with
      | ok f ρ5 s5 =>
        rw [eb, R.bind_ok] at q4
        intro lb5 σ5 H5 st5 o5
        have io5 : ItOk b.cn lb5 H5 ds J := io2.stq ((st3.trans st4).trans st5).q
        cases f with
        | nx => exact ⟨lb5, ρ5, s5, o5, io5, SPost.from q4 st5⟩
        | ct => exact ⟨lb5, ρ5, s5, o5, io5, SPost.from q4 st5⟩
        | bk => exact q4 lb5 σ5 H5 st5 o5
        | rt d => exact q4 lb5 σ5 H5 st5 o5
      | exc x ρ5 s5 => rw [eb] at q4; exact q4
      | bad => rw [eb] at q4; exact q4
  · have e : i = ds.length := by omega
    subst e
    refine .inl ⟨stop, ?_⟩
    rw [List.drop_length] at q2
    exact q2 lb2 σ' H' .refl o2
theorem while_run {c : M D} {body : S} {D : Ends} {σ : L2.St} {H : Hp} (h : tS b (sWhile c body) D σ H) : tWhile (tT b c) (tS b body) D σ H := by
  obtain ⟨lb, ρ, s, o, h⟩ := h
  refine ⟨fun m σ' H' => ∃ lb ρ s, Ok b lb ρ s σ' H' ∧ SPost b D lb H' (whileL c body m ρ s), ⟨WN, lb, ρ, s, o, h⟩, ?_⟩
  rintro m σ1 H1 ⟨lb1, ρ1, s1, o1, q1⟩
  cases m with
  | zero => exact False.elim q1
  | succ m =>
    refine ⟨lb1, ρ1, s1, o1, (SPost.bind (D := D) q1).mono fun d ρ2 s2 lb2 H2 st2 o2 q2 => ?_⟩
    cases d with
    | bool c =>
      intro H3 ex
      have q3 := SPost.from q2 (o2.stp_ext ex)
      have o3 := o2.ext ex
      cases c with
      | false => exact q3 lb2 σ1 H3 .refl o3
      | true =>
        refine ⟨fun σ4 H4 => ∃ lb ρ s, Ok b lb ρ s σ4 H4 ∧ SPost b D lb H4 (whileL c body m ρ s), fun σ4 H4 h4 => ⟨m, Nat.lt_succ_self m, h4⟩, lb2, ρ2, s2, o3, ?_⟩
        have q4 : SPost b D lb2 H3 ((body ρ2 s2).bind _) := q3
        cases eb : body ρ2 s2 with
        | ok f ρ5 s5 =>
          rw [eb, R.bind_ok] at q4
          intro lb5 σ5 H5 st5 o5
          cases f with
          | nx => exact ⟨lb5, ρ5, s5, o5, SPost.from q4 st5⟩
          | ct => exact ⟨lb5, ρ5, s5, o5, SPost.from q4 st5⟩
          | bk => exact q4 lb5 σ5 H5 st5 o5
          | rt d => exact q4 lb5 σ5 H5 st5 o5
        | exc x ρ5 s5 => rw [eb] at q4; exact q4
        | bad => rw [eb] at q4; exact q4
    | _ => exact False.elim q2
theorem ds_for {tg iter : Expr} {body : List Stmt} {it : It} {gt : Tg} {k : S} {pos : Pos} {n : Nat} (g : Gd n X b) (hi : DI X b tg iter it) (hg : DG X b tg gt) (hb : DSs X b body k)
    (hs : ∀ x, foldedSetIterable iter X.env x = pure x := by intro _; rfl) : DS X b (.For tg iter body [] pos) (sFor it gt k) := PS.imp (ps_for g.po g.calm hi hg hb hs) fun _ _ _ h => for_run h
theorem ds_while {c : Expr} {body : List Stmt} {m : M D} {k : S} {pos : Pos} {n : Nat} (g : Gd n X b) (hc : DT X b c m) (hb : DSs X b body k) : DS X b (.While c body [] pos) (sWhile m k) := PS.imp (ps_while g.po hc hb) fun _ _ _ h => while_run h
end
end Pk
/-! Br6: comprehensions. -/
namespace Pk
open PySem PySem.Spec PyProof.Rows L2

section
variable {cn : Cn} {lb0 lb : Lb} {H0 H : Hp} {ρ : Env} {s : Sto} {σ : L2.St}
/-- slot i forgotten -/
theorem BOk.forget (b : BOk cn lb0 H0 lb ρ s σ H) (i : Nat) : BOk cn lb0 H0 (unl lb i) (ρ.set i .no) s (σ.set i none) H := by
  have st := Stp.unl lb H i
  refine ⟨b.since.trans st, b.sto.stp st.q (fun _ _ _ _ => rfl) (fun _ _ e _ => (of_unl e).1), fun a l e => b.has a l (of_unl e).1, by simpa using b.len, fun j e h => ?_, fun j e h => ?_, fun j R h => ?_⟩
  · by_cases hj : i = j
    · subst hj
      rw [List.getElem?_set] at h
      simp only [if_true] at h
      split at h <;> cases h
    · rw [List.getElem?_set_ne hj] at h
      obtain ⟨u, e1, q⟩ := b.sh j e h
      exact ⟨u, by rw [List.getElem?_set_ne hj]; exact e1, q.stp st⟩
  · by_cases hj : i = j
    · subst hj
      rw [List.getElem?_set] at h
      simp only [if_true] at h
      split at h <;> cases h
    · rw [List.getElem?_set_ne hj] at h
      obtain ⟨a, o, e1, l, q, w⟩ := b.ow j e h
      exact ⟨a, o, by rw [List.getElem?_set_ne hj]; exact e1, unl_ne l (by rintro z; cases z; exact hj rfl), q, w.stp st⟩
  · by_cases hj : i = j
    · subst hj
      rw [List.getElem?_set] at h
      simp only [if_true] at h
      split at h <;> cases h
    · rw [List.getElem?_set_ne hj] at h
      obtain ⟨a, e1, w⟩ := b.mt j R h
      exact ⟨a, by rw [List.getElem?_set_ne hj]; exact e1, w.keep st.q fun x hx => ⟨unl_ne hx (by rintro z; cases z; exact hj rfl), rfl⟩⟩
def unlL (lb : Lb) : List Nat → Lb
  | [] => lb
  | i :: is => unl (unlL lb is) i
theorem Stp.unlL (lb : Lb) (H : Hp) : ∀ is : List Nat, Stp lb H (unlL lb is) H
  | [] => .refl
  | i :: is => (Stp.unlL lb H is).trans (.unl _ _ _)
theorem BOk.forgetL (b : BOk cn lb0 H0 lb ρ s σ H) : ∀ is : List Nat, BOk cn lb0 H0 (unlL lb is) (wipeL ρ is) s (wipe σ is) H
  | [] => b
  | i :: is => (b.forgetL is).forget i
theorem unlL_out {a : Addr} (h : lb a = some .out) : ∀ is : List Nat, unlL lb is a = some .out
  | [] => h
  | i :: is => unl_ne (unlL_out h is) (by intro z; cases z)
/-- a new thing that no value knows, marked as another's -/
theorem BOk.side (b : BOk cn lb0 H0 lb ρ s σ H) {p : Addr} (o : HO) (np : H p = none) (nt : Nt o := by exact trivial) : BOk cn lb0 H0 (mrk lb p .out) ρ s σ (L2.upd H p o) ∧ Stp lb H (mrk lb p .out) (L2.upd H p o) := by
  have lp : lb p = none := Has.none b.has np
  have ne : ∀ a l, lb a = some l → a ≠ p := fun a l e z => by rw [z, lp] at e; cases e
  have st : Stp lb H (mrk lb p .out) (L2.upd H p o) :=
    { keep := fun a o e n => Ext.upd np a o e
      out := fun a e => ⟨by rw [mrk_ne (ne a _ e)]; exact e, by rw [upd_ne (ne a _ e)]⟩
      new := fun a h => by
        by_cases ha : a = p
        · rw [ha]; exact .inr np
        · rw [mrk_ne ha] at h; exact .inl h
      sto := fun a l e z => by rw [mrk_ne (ne a l e)]; exact e
      dom := fun a e => by
        cases q : H a with
        | none => exact absurd q e
        | some u => rw [Ext.upd np a u q]; simp }
  have back : ∀ a l, mrk lb p .out a = some l → l ≠ .out → lb a = some l ∧ a ≠ p := fun a l e z => by
    by_cases ha : a = p
    · rw [ha, mrk_same] at e
      exact absurd (Option.some.inj e).symm z
    · rw [mrk_ne ha] at e
      exact ⟨e, ha⟩
  refine ⟨⟨b.since.trans st, b.sto.stp st.q (fun a l e _ => by rw [upd_ne (ne a l e)]) (fun a l e z => (back a l e (by rintro rfl; cases z)).1), fun a l e => ?_, b.len, fun j e h => ?_, fun j e h => ?_, fun j R h => ?_⟩, st⟩
  · by_cases ha : a = p
    · exact ⟨o, by rw [ha, upd_same], nt⟩
    · rw [mrk_ne ha] at e
      obtain ⟨u, q, t⟩ := b.has a l e
      exact ⟨u, by rw [upd_ne ha]; exact q, t⟩
  · obtain ⟨u, e1, q⟩ := b.sh j e h
    exact ⟨u, e1, q.stp st⟩
  · obtain ⟨a, o', e1, l, q, w⟩ := b.ow j e h
    exact ⟨a, o', e1, by rw [mrk_ne (ne a _ l)]; exact l, by rw [upd_ne (ne a _ l)]; exact q, w.stp st⟩
  · obtain ⟨a, e1, w⟩ := b.mt j R h
    exact ⟨a, e1, w.keep st.q fun x hx => ⟨by rw [mrk_ne (ne x _ hx)]; exact hx, by rw [upd_ne (ne x _ hx)]⟩⟩
/-- a thing that no value knows (marked as another's, not from ahead of the entry) is changed -/
theorem BOk.chgSide (b : BOk cn lb0 H0 lb ρ s σ H) {p : Addr} (o : HO) (lp : lb p = some .out) (n0 : lb0 p ≠ some .out) (h0 : H0 p = none) (nt : Nt o := by exact trivial) : BOk cn lb0 H0 lb ρ s σ (L2.upd H p o) ∧ Stq lb H lb (L2.upd H p o) := by
  have ne : ∀ a l, lb a = some l → l ≠ .out → a ≠ p := fun a l e n z => by rw [z, lp] at e; exact n (Option.some.inj e).symm
  have st : Stq lb H lb (L2.upd H p o) :=
    { keep := fun a u h n => by rw [upd_ne (by rintro rfl; rw [lp] at n; cases n)]; exact h
      new := fun _ h => .inl h
      sto := fun _ _ h _ => h }
  have si := b.since
  refine ⟨⟨⟨fun a u h n => ?_, fun a h => ?_, si.new, si.sto, fun a h => ?_⟩, b.sto.stp st (fun a l e z => by rw [upd_ne (ne a l e (by rintro rfl; cases z))]) (fun _ _ e _ => e), fun a l e => ?_, b.len, fun j e h => ?_, fun j e h => ?_, fun j R h => ?_⟩, st⟩
  · rw [upd_ne (by rintro rfl; rw [h0] at h; cases h)]
    exact si.keep a u h n
  · have na : a ≠ p := by rintro rfl; exact n0 h
    rw [upd_ne na]
    exact si.out a h
  · by_cases ha : a = p
    · rw [ha, upd_same]; simp
    · rw [upd_ne ha]; exact si.dom a h
  · by_cases ha : a = p
    · exact ⟨o, by rw [ha, upd_same], nt⟩
    · obtain ⟨u, q, t⟩ := b.has a l e
      exact ⟨u, by rw [upd_ne ha]; exact q, t⟩
  · obtain ⟨u, e1, q⟩ := b.sh j e h
    exact ⟨u, e1, q.stq st⟩
  · obtain ⟨a, o', e1, l, q, w⟩ := b.ow j e h
    exact ⟨a, o', e1, l, by rw [upd_ne (ne a _ l (by intro z; cases z))]; exact q, w.stq st⟩
  · obtain ⟨a, e1, w⟩ := b.mt j R h
    exact ⟨a, e1, w.keep st fun x hx => ⟨hx, by rw [upd_ne (ne x _ hx (by intro z; cases z))]⟩⟩
/-- .. taken away -/
def hid (H : Hp) (p : Addr) : Hp := fun a => if a = p then none else H a
def unm (lb : Lb) (p : Addr) : Lb := fun a => if a = p then none else lb a
theorem hid_ne {p a : Addr} (h : a ≠ p) : hid H p a = H a := by unfold hid; rw [if_neg h]
theorem hid_same {p : Addr} : hid H p p = none := by unfold hid; rw [if_pos rfl]
theorem unm_ne {p a : Addr} (h : a ≠ p) : unm lb p a = lb a := by unfold unm; rw [if_neg h]
theorem unm_same {p : Addr} : unm lb p p = none := by unfold unm; rw [if_pos rfl]
theorem upd_hid {p : Addr} {o : HO} (h : H p = some o) : L2.upd (hid H p) p o = H := by
  funext a
  by_cases ha : a = p
  · rw [ha, upd_same, h]
  · rw [upd_ne ha, hid_ne ha]
theorem Stq.gone {p : Addr} (lp : lb p = some .out) : Stq lb H (unm lb p) (hid H p) where
  keep := fun a u h n => by rw [hid_ne (by rintro rfl; rw [lp] at n; cases n)]; exact h
  new := fun a h => by
    by_cases ha : a = p
    · rw [ha, unm_same] at h; exact absurd rfl h
    · rw [unm_ne ha] at h; exact .inl h
  sto := fun a l h i => by rw [unm_ne (by rintro rfl; rw [lp] at h; cases h; cases i)]; exact h
theorem BOk.gone (b : BOk cn lb0 H0 lb ρ s σ H) {p : Addr} (lp : lb p = some .out) (n0 : lb0 p ≠ some .out) (h0 : H0 p = none) : BOk cn lb0 H0 (unm lb p) ρ s σ (hid H p) := by
  have ne : ∀ a l, lb a = some l → l ≠ .out → a ≠ p := fun a l e n z => by rw [z, lp] at e; exact n (Option.some.inj e).symm
  have st : Stq lb H (unm lb p) (hid H p) := .gone lp
  have si := b.since
  have of : ∀ a l, unm lb p a = some l → lb a = some l ∧ a ≠ p := fun a l e => by
    by_cases ha : a = p
    · rw [ha, unm_same] at e; cases e
    · rw [unm_ne ha] at e; exact ⟨e, ha⟩
  refine ⟨⟨fun a u h n => ?_, fun a h => ?_, fun a h => ?_, fun a l h i => ?_, fun a h => ?_⟩, b.sto.stp st (fun a l e z => by rw [hid_ne (ne a l e (by rintro rfl; cases z))]) (fun a l e _ => (of a l e).1), fun a l e => ?_, b.len, fun j e h => ?_, fun j e h => ?_, fun j R h => ?_⟩
  · rw [hid_ne (by rintro rfl; rw [h0] at h; cases h)]
    exact si.keep a u h n
  · have na : a ≠ p := by rintro rfl; exact n0 h
    rw [hid_ne na, unm_ne na]
    exact si.out a h
  · by_cases ha : a = p
    · rw [ha, unm_same] at h; exact absurd rfl h
    · rw [unm_ne ha] at h; exact si.new a h
  · have q := si.sto a l h i
    rw [unm_ne (ne a l q (by rintro rfl; cases i))]
    exact q
  · rw [hid_ne (by rintro rfl; exact h h0)]
    exact si.dom a h
  · obtain ⟨e, ha⟩ := of a l e
    obtain ⟨u, q, t⟩ := b.has a l e
    exact ⟨u, by rw [hid_ne ha]; exact q, t⟩
  · obtain ⟨u, e1, q⟩ := b.sh j e h
    exact ⟨u, e1, q.stq st⟩
  · obtain ⟨a, o', e1, l, q, w⟩ := b.ow j e h
    have na := ne a _ l (by intro z; cases z)
    exact ⟨a, o', e1, by rw [unm_ne na]; exact l, by rw [hid_ne na]; exact q, w.stq st⟩
  · obtain ⟨a, e1, w⟩ := b.mt j R h
    exact ⟨a, e1, w.keep st fun x hx => ⟨by rw [unm_ne (ne x _ hx (by intro z; cases z))]; exact hx, by rw [hid_ne (ne x _ hx (by intro z; cases z))]⟩⟩
/-- behind the block: the slots of its own names are as ahead of it -/
theorem BOk.backL (lb1 : Lb) (H1 : Hp) {ρ1 : Env} {σ1 : L2.St} (st : Stp lb1 H1 lb H) (hl1 : ρ1.length = ρ.length) (b1 : ∀ (i : Nat) (d : D), ρ1[i]? = some (.sh d) → ∃ v, σ1[i]? = some (some v) ∧ Rep cn lb1 H1 d v) :
    ∀ (is : List Nat), notOw ρ1 is = true → BOk cn lb0 H0 lb (wipeL ρ is) s (wipe σ1 is) H → BOk cn lb0 H0 lb (Pk.backL ρ1 ρ is) s σ1 H := by
  intro is hn b
  have len : (Pk.backL ρ1 ρ is).length = σ1.length := by
    have h1 : ∀ is : List Nat, (Pk.backL ρ1 ρ is).length = ρ.length := fun is => by
      induction is with
      | nil => rfl
      | cons i is ih => unfold Pk.backL; rw [List.length_set, ih]
    have h2 : ∀ is : List Nat, (wipeL ρ is).length = ρ.length := fun is => by
      induction is with
      | nil => rfl
      | cons i is ih => unfold wipeL; rw [List.length_set, ih]
    have h3 := b.len
    rw [wipe_length, h2] at h3
    rw [h1, h3]
  have out : ∀ (is : List Nat) (j : Nat), j ∉ is → (Pk.backL ρ1 ρ is)[j]? = (wipeL ρ is)[j]? := fun is j => by
    induction is with
    | nil => intro _; rfl
    | cons i is ih =>
      intro h
      have hj : i ≠ j := fun e => h (by rw [e]; exact List.mem_cons_self)
      unfold Pk.backL wipeL
      rw [List.getElem?_set_ne hj, List.getElem?_set_ne hj, ih fun z => h (List.mem_cons_of_mem _ z)]
  have outσ : ∀ (is : List Nat) (j : Nat), j ∉ is → (wipe σ1 is)[j]? = σ1[j]? := fun is j h => wipe_out h
  have inn : ∀ (is : List Nat) (j : Nat), j ∈ is → j < ρ.length → (Pk.backL ρ1 ρ is)[j]? = some (ρ1.getD j .no) := fun is j => by
    induction is with
    | nil => intro h; cases h
    | cons i is ih =>
      intro h hl
      have hlen : ∀ is : List Nat, (Pk.backL ρ1 ρ is).length = ρ.length := fun is => by
        induction is with
        | nil => rfl
        | cons i is ih => unfold Pk.backL; rw [List.length_set, ih]
      unfold Pk.backL
      by_cases hj : i = j
      · subst hj
        rw [List.getElem?_set, if_pos rfl, if_pos (by rw [hlen]; exact hl)]
      · rw [List.getElem?_set_ne hj]
        rcases List.mem_cons.mp h with z | z
        · exact absurd z.symm hj
        · exact ih z hl
  have wno : ∀ (is : List Nat) (j : Nat), j ∈ is → j < ρ.length → (wipeL ρ is)[j]? = some .no := fun is j => by
    induction is with
    | nil => intro h; cases h
    | cons i is ih =>
      intro h hl
      have hlen : ∀ is : List Nat, (wipeL ρ is).length = ρ.length := fun is => by
        induction is with
        | nil => rfl
        | cons i is ih => unfold wipeL; rw [List.length_set, ih]
      unfold wipeL
      by_cases hj : i = j
      · subst hj
        rw [List.getElem?_set, if_pos rfl, if_pos (by rw [hlen]; exact hl)]
      · rw [List.getElem?_set_ne hj]
        rcases List.mem_cons.mp h with z | z
        · exact absurd z.symm hj
        · exact ih z hl
  have big : ∀ (j : Nat), ρ.length ≤ j → (Pk.backL ρ1 ρ is)[j]? = none := fun j h => by
    apply List.getElem?_eq_none
    have h1 : ∀ is : List Nat, (Pk.backL ρ1 ρ is).length = ρ.length := fun is => by
      induction is with
      | nil => rfl
      | cons i is ih => unfold Pk.backL; rw [List.length_set, ih]
    rw [h1]; exact h
  refine ⟨b.since, b.sto, b.has, len, fun j d h => ?_, fun j d h => ?_, fun j R h => ?_⟩
  · by_cases hj : j ∈ is
    · by_cases hlt : j < ρ.length
      · rw [inn is j hj hlt] at h
        have e : ρ1[j]? = some (.sh d) := by
          have h := Option.some.inj h
          rw [List.getD_eq_getElem?_getD] at h
          cases q : ρ1[j]? with
          | none => rw [q] at h; cases h
          | some x => rw [q] at h; exact congrArg some h
        obtain ⟨v, e1, r⟩ := b1 j d e
        exact ⟨v, e1, r.stp st⟩
      · rw [big j (by omega)] at h; cases h
    · rw [out is j hj] at h
      obtain ⟨v, e1, r⟩ := b.sh j d h
      rw [outσ is j hj] at e1
      exact ⟨v, e1, r⟩
  · by_cases hj : j ∈ is
    · by_cases hlt : j < ρ.length
      · rw [inn is j hj hlt] at h
        have hno := List.all_eq_true.mp hn j hj
        have h := Option.some.inj h
        rw [List.getD_eq_getElem?_getD] at h
        cases q : ρ1[j]? with
        | none => rw [q] at h; cases h
        | some x =>
          rw [q] at h hno
          have h : x = .ow d := h
          rw [h] at hno
          cases hno
      · rw [big j (by omega)] at h; cases h
    · rw [out is j hj] at h
      obtain ⟨a, o, e1, l, q, w⟩ := b.ow j d h
      rw [outσ is j hj] at e1
      exact ⟨a, o, e1, l, q, w⟩
  · by_cases hj : j ∈ is
    · by_cases hlt : j < ρ.length
      · rw [inn is j hj hlt] at h
        have hno := List.all_eq_true.mp hn j hj
        have h := Option.some.inj h
        rw [List.getD_eq_getElem?_getD] at h
        cases q : ρ1[j]? with
        | none => rw [q] at h; cases h
        | some x =>
          rw [q] at h hno
          have h : x = .mt R := h
          rw [h] at hno
          cases hno
      · rw [big j (by omega)] at h; cases h
    · rw [out is j hj] at h
      obtain ⟨a, e1, w⟩ := b.mt j R h
      rw [outσ is j hj] at e1
      exact ⟨a, e1, w⟩
end
end Pk
/-! Br7: comprehensions, the rule. -/
namespace Pk
open PySem PySem.Spec PyProof.Rows L2

theorem wipe_wipe (σ : L2.St) (own : List Nat) : wipe (wipe σ own) own = wipe σ own := by
  apply List.ext_getElem?
  intro j
  by_cases h : j ∈ own
  · have e : ∀ (σ : L2.St) (vs : List Nat), j ∈ vs → j < σ.length → (wipe σ vs)[j]? = some none := by
      intro σ vs
      induction vs with
      | nil => intro h; cases h
      | cons v vs ih =>
        intro h hl
        unfold wipe
        by_cases hj : v = j
        · subst hj
          rw [List.getElem?_set, if_pos rfl, if_pos (by rw [wipe_length]; exact hl)]
        · rw [List.getElem?_set_ne hj]
          rcases List.mem_cons.mp h with z | z
          · exact absurd z.symm hj
          · exact ih z hl
    by_cases hl : j < σ.length
    · rw [e _ own h (by rw [wipe_length]; exact hl), e _ own h hl]
    · rw [List.getElem?_eq_none (by rw [wipe_length, wipe_length]; omega), List.getElem?_eq_none (by rw [wipe_length]; omega)]
  · rw [wipe_out h]
section
variable {lb lb1 : Lb} {H H1 : Hp}
theorem Stp.updNew {p : Addr} {o : HO} (s : Stp lb1 H1 lb H) (np : H1 p = none) (hs : Has lb1 H1) : Stp lb1 H1 lb (L2.upd H p o) where
  keep := fun a u h n => by rw [upd_ne (by rintro rfl; rw [np] at h; cases h)]; exact s.keep a u h n
  out := fun a h => by
    have na : a ≠ p := by
      rintro rfl
      obtain ⟨u, q, _⟩ := hs _ _ h
      rw [np] at q; cases q
    rw [upd_ne na]
    exact s.out a h
  new := s.new
  sto := s.sto
  dom := fun a h => by
    by_cases ha : a = p
    · rw [ha, upd_same]; simp
    · rw [upd_ne ha]; exact s.dom a h
theorem Stp.goneNew {p : Addr} (s : Stp lb1 H1 lb H) (np : H1 p = Option.none) (hs : Has lb1 H1) (lp : lb p = some .out) : Stp lb1 H1 (unm lb p) (hid H p) where
  keep := fun a u h n => by rw [hid_ne (by rintro rfl; rw [np] at h; cases h)]; exact s.keep a u h n
  out := fun a h => by
    have na : a ≠ p := by
      rintro rfl
      obtain ⟨u, q, _⟩ := hs _ _ h
      rw [np] at q; cases q
    rw [hid_ne na, unm_ne na]
    exact s.out a h
  new := fun a h => by
    by_cases ha : a = p
    · rw [ha, unm_same] at h; exact absurd rfl h
    · rw [unm_ne ha] at h; exact s.new a h
  sto := fun a l h i => by
    have q := s.sto a l h i
    rw [unm_ne (by rintro rfl; rw [lp] at q; cases q; cases i)]
    exact q
  dom := fun a h => by
    rw [hid_ne (by rintro rfl; exact h np)]
    exact s.dom a h
end
/-- within a comprehension nothing is raised -/
abbrev Bd.in (b : Bd) : Bd := { b with W := fun _ _ _ _ => False }
section
variable {X : Cx} {b : Bd}
theorem wipeL_len (ρ : Env) : ∀ is : List Nat, (wipeL ρ is).length = ρ.length
  | [] => rfl
  | i :: is => by unfold wipeL; rw [List.length_set, wipeL_len ρ is]
theorem comp_run {it : It} {g : Tg} {own : List Nat} {c e : M D} {σ : L2.St} {H : Hp} {Q : VK} (hg : ∀ i ∈ g.slots, i ∈ own) (h : tK true b (eComp it g own c e) σ H Q) : tLc (tI b it) (tG b.in g) (tT b.in c) (tK false b.in e) own σ H Q := by
  obtain ⟨lb, ρ, s, o, h⟩ := h
  refine ⟨lb, ρ, s, o, (Post.bind h).mono fun ds ρ1 s1 lb1 H1 st o1 q => fun hz J H2 ex io D nD => ?_⟩
  have o2 := o1.ext ex
  have q2 := Post.from q (o1.stp_ext ex)
  clear q h o o1 ex st
  cases hn : notOw ρ1 own with
  | false => rw [hn] at q2; exact False.elim q2
  | true =>
    rw [hn, if_pos rfl] at q2
    have h0 : b.H0 D = none := by
      cases z : b.H0 D with
      | none => rfl
      | some u => exact absurd nD (o2.since.dom D (by rw [z]; simp))
    have n0 : b.lb0 D ≠ some .out := fun z => by
      obtain ⟨u, w, _⟩ := o2.has D _ (o2.since.out D z).1
      rw [nD] at w; cases w
    let W : Nat → Nat → Hp → Prop := fun i m H' => m = ds.length - i ∧ i ≤ ds.length ∧ ∃ lb ρ s ys acc, Ok b lb (wipeL ρ own) s (wipe σ own) H' ∧ lb D = some .out ∧ H' D = some (.lst acc) ∧ RepL b.cn lb H' ys acc ∧ ys.length ≤ i ∧ ItOk b.cn lb H' ds J ∧
      Stp lb1 H2 lb H' ∧ Post b σ lb1 H2 ((compLoop g own c e (ds.drop i) ys.reverse ρ s).bind fun ys r1 s => .ok (.lst ys) (backL ρ1 r1 own) s) fun d _ _ lb' H' => Kt true b.cn lb' H' d Q
    obtain ⟨o3, st3⟩ := o2.side (.lst []) nD
    have o4 := o3.forgetL own
    refine ⟨W, ⟨ds.length, by simp, Nat.zero_le _, unlL (mrk lb1 D .out) own, ρ1, s1, [], [], o4, unlL_out mrk_same own, upd_same, .nil, Nat.le_refl _, io.stq (st3.trans (.unlL _ _ own)).q, st3.trans (.unlL _ _ own), by simpa using q2⟩, ?_⟩
    rintro i m H3 ⟨rfl, hi, lb3, ρ3, s3, ys, acc, o5, lD, hD, ry, hy, io3, st5, q5⟩
    obtain ⟨stop, go⟩ := io3 lb3 H3 ⟨fun _ _ h _ => h, fun _ h => .inl h, fun _ _ h _ => h⟩
    by_cases hlt : i < ds.length
    · have hd : ds[i]? = some ds[i] := List.getElem?_eq_getElem hlt
      obtain ⟨hgo, hyl⟩ := go i _ hd
      refine .inr ⟨hgo, fun H' => W (i + 1) (ds.length - (i + 1)) H', fun H' h' => ⟨_, by omega, h'⟩, fun x H4 y => ?_⟩
      obtain ⟨ex4, rx⟩ := hyl x H4 y
      have rx := rx o5.has
      rw [List.drop_eq_getElem_cons hlt] at q5
      simp only [compLoop] at q5
      have o6 := o5.ext ex4
      have st6 := o5.stp_ext ex4
      cases e1 : setT (wipeL ρ3 own) g ds[i] with
      | none => rw [e1] at q5; exact False.elim q5
      | some r1 =>
        rw [e1] at q5
        simp only at q5
        refine ⟨lb3, wipeL ρ3 own, s3, ds[i], r1, o6, rx, e1, fun lb7 σ7 st7 o7 so => ?_⟩
        have so : wipe σ7 own = wipe σ own := (so own hg).trans (wipe_wipe σ own)
        refine ⟨so, lb7, r1, s3, o7, ?_⟩
        have stA : Stp lb3 H3 lb7 H4 := st6.trans st7
        cases e2 : c r1 s3 with
        | exc x r2 s2 => rw [e2] at q5; exact False.elim q5
        | bad => rw [e2] at q5; exact False.elim q5
        | ok dc r2 s2 =>
          rw [e2] at q5
          intro lb8 H8 st8 o8
          cases dc with
          | bool t =>
            intro H9 ex9
            have o9 := o8.ext ex9
            have stB : Stp lb3 H3 lb8 H9 := (stA.trans st8).trans (o8.stp_ext ex9)
            cases t with
            | true =>
              refine ⟨lb8, r2, s2, o9, ?_⟩
              simp only at q5
              cases e3 : e r2 s2 with
              | exc x r4 s4 => rw [e3] at q5; exact False.elim q5
              | bad => rw [e3] at q5; exact False.elim q5
              | ok yv r4 s4 =>
                rw [e3] at q5
                simp only at q5
                intro lb10 H10 st10 o10 v H11 ex11 rv
                have o11 := o10.ext ex11
                have stC : Stp lb3 H3 lb10 H11 := (stB.trans st10).trans (o10.stp_ext ex11)
                obtain ⟨lD11, hD11⟩ := stC.out D lD
                rw [hD] at hD11
                have hlen : acc.length < sizeLine := by
                  rw [← ry.length, ← SZ_eq]
                  omega
                refine ⟨acc, hD11, hlen, rfl, hlt, ?_⟩
                obtain ⟨o12, st12⟩ := o11.chgSide (.lst (acc ++ [v])) lD11 n0 h0
                have o13 := o12.forgetL own
                rw [so] at o13
                have stF : Stq lb3 H3 (unlL lb10 own) (L2.upd H11 D (.lst (acc ++ [v]))) := (stC.q.trans st12).trans (Stp.unlL _ _ own).q
                have stG : Stq lb10 H11 (unlL lb10 own) (L2.upd H11 D (.lst (acc ++ [v]))) := st12.trans (Stp.unlL _ _ own).q
                refine ⟨unlL lb10 own, r4, s4, ys ++ [yv], acc ++ [v], o13, unlL_out lD11 own, upd_same, (ry.stq stF).append (.one (rv.stq stG)), by rw [List.length_append]; exact Nat.add_le_add_right hy 1, io3.stq stF,
                  ((st5.trans stC).updNew nD o2.has).trans (.unlL _ _ own), ?_⟩
                simpa using q5
            | false =>
              simp only at q5
              have o13 := o9.forgetL own
              rw [so] at o13
              obtain ⟨lD11, hD11⟩ := stB.out D lD
              have stF : Stp lb3 H3 (unlL lb8 own) H9 := stB.trans (.unlL _ _ own)
              exact ⟨rfl, hlt, unlL lb8 own, r2, s2, ys, acc, o13, unlL_out lD11 own, by rw [hD11]; exact hD, ry.stp stF, Nat.le_succ_of_le hy, io3.stq stF.q, st5.trans stF, q5⟩
          | _ => exact False.elim q5
    · have e : i = ds.length := by omega
      subst e
      refine .inl ⟨stop, ?_⟩
      rw [List.drop_length] at q5
      simp only [compLoop, List.reverse_reverse] at q5
      have stN := st5.goneNew nD o2.has lD
      have o6 := o5.gone lD n0 h0
      have hl : ρ1.length = ρ3.length := by
        have h1 := o5.len
        rw [wipeL_len, wipe_length] at h1
        rw [h1]
        exact o2.len
      have o7 := BOk.backL (ρ := ρ3) lb1 H2 stN hl o2.sh own hn o6
      have k := q5 (unm lb3 D) (hid H3 D) stN o7
      have k : KF b.cn (unm lb3 D) (hid H3 D) (.lst ys) Q := k
      have z := k D (.lst acc) hid_same ⟨acc, rfl, by omega, ry.stq (.gone lD)⟩
      rw [upd_hid hD] at z
      exact z
/-- a clause's test -/
abbrev DTs (X : Cx) (b : Bd) (ifs : List Expr) (c : M D) : Prop := PTs X ifs (tT b c)
theorem PTs.imp {X : Cx} {e : List Expr} {t t' : TT} (h : PTs X e t) (f : ∀ σ H Q, t' σ H Q → t σ H Q) : PTs X e t' := ⟨fun pins s σ H Q I q => h.run pins s σ H Q I (f σ H Q q)⟩
theorem dts_nil : DTs X b [] eYes := PTs.imp pts_nil fun σ H Q ⟨lb, ρ, s, o, p⟩ => (show ∀ H2, Ext H H2 → Q true H2 from p lb H .refl o) H .refl
theorem dts_one {c : Expr} {m : M D} (h : DT X b c m) : DTs X b [c] m := pts_one h
/-- the context of a comprehension's block -/
theorem Gd.blk {n : Nat} (g : Gd n X b) (s : Shared) (H : Hp) (scope : Scope) (cenv : PySem.Env) (fp : List Addr) : Gd n (X.blk s H scope cenv fp) b.in :=
  ⟨g.kk, g.calm, g.nd, takes0, g.room, PassesOwn.never⟩
theorem df_comp {n : Nat} {elt tg iter : Expr} {ifs : List Expr} {scope : Scope} {own : List (Str × Nat)} {pos : Pos} {it : It} {gt : Tg} {c e : M D} (g : Gd n X b) (hi : DI X b tg iter it) (ok : BlkOk X.N X.env.scope scope own)
    (hg : ∀ (s : Shared) (H : Hp) (C : Addr) (cl : List (Str × Addr)) (fp : List Addr), Gd n (X.blk s H scope (compEnvC scope cl C X.env) fp) b.in → DG (X.blk s H scope (compEnvC scope cl C X.env) fp) b.in tg gt)
    (ht : ∀ (s : Shared) (H : Hp) (C : Addr) (cl : List (Str × Addr)) (fp : List Addr), Gd n (X.blk s H scope (compEnvC scope cl C X.env) fp) b.in → DTs (X.blk s H scope (compEnvC scope cl C X.env) fp) b.in ifs c)
    (he : ∀ (s : Shared) (H : Hp) (C : Addr) (cl : List (Str × Addr)) (fp : List Addr), Gd n (X.blk s H scope (compEnvC scope cl C X.env) fp) b.in → DE (X.blk s H scope (compEnvC scope cl C X.env) fp) b.in elt e)
    (hsl : ∀ i ∈ gt.slots, i ∈ own.map (·.2) := by decide) (hs : ∀ x, foldedSetIterable iter X.env x = pure x := by intro _; rfl) :
    DF X b (.ListComp elt [⟨tg, iter, ifs, 0⟩] scope pos) (eComp it gt (own.map (·.2)) c e) :=
  PE.imp (pe_lc g.calm g.nd hi ok (fun s H C cl fp => hg s H C cl fp (g.blk ..)) (fun s H C cl fp => ht s H C cl fp (g.blk ..)) (fun s H C cl fp => he s H C cl fp (g.blk ..)) hs) fun _ _ _ h => comp_run hsl h
end
end Pk
/-! Br8: the built-in operations stand. -/
namespace Pk
open PySem PySem.Spec PyProof.Rows L2

/-! ### plain data as the library's -/
mutual
def toPy : D → PyData
  | .bool b => .bool b
  | .int i => .int i
  | .str x => .str x
  | .lst l => .list (toPyL l)
  | .tup l => .tuple (toPyL l)
  | _ => .none
def toPyL : List D → List PyData
  | [] => []
  | d :: ds => toPy d :: toPyL ds
end
mutual
theorem eqv_py : ∀ (x y : D) (n m : Nat), x.dep n = true → y.dep m = true → PyData.eqv (toPy x) (toPy y) = x.eqv y
  | .none, y, n, m, hx, hy => by cases y <;> first | rfl | (cases m <;> simp [D.dep] at hy) | simp [toPy, PyData.eqv, D.eqv]
  | .bool b, y, n, m, hx, hy => by cases y <;> first | rfl | (cases m <;> simp [D.dep] at hy) | simp [toPy, PyData.eqv, D.eqv]
  | .int b, y, n, m, hx, hy => by cases y <;> first | rfl | (cases m <;> simp [D.dep] at hy) | simp [toPy, PyData.eqv, D.eqv]
  | .str b, y, n, m, hx, hy => by cases y <;> first | rfl | (cases m <;> simp [D.dep] at hy) | simp [toPy, PyData.eqv, D.eqv]
  | .lst l, y, 0, m, hx, hy => by simp [D.dep] at hx
  | .tup l, y, 0, m, hx, hy => by simp [D.dep] at hx
  | .lst l, y, n + 1, m, hx, hy => by
    cases y with
    | lst k =>
      cases m with
      | zero => simp [D.dep] at hy
      | succ m =>
        simp only [D.dep] at hx hy
        simp only [toPy, PyData.eqv, D.eqv]
        exact eqvL_py l k n m hx hy
    | _ => first | rfl | (cases m <;> simp [D.dep] at hy) | simp [toPy, PyData.eqv, D.eqv]
  | .tup l, y, n + 1, m, hx, hy => by
    cases y with
    | tup k =>
      cases m with
      | zero => simp [D.dep] at hy
      | succ m =>
        simp only [D.dep] at hx hy
        simp only [toPy, PyData.eqv, D.eqv]
        exact eqvL_py l k n m hx hy
    | _ => first | rfl | (cases m <;> simp [D.dep] at hy) | simp [toPy, PyData.eqv, D.eqv]
  | .dct _ _, y, n, m, hx, hy => by cases n <;> simp [D.dep] at hx
  | .fn _, y, n, m, hx, hy => by cases n <;> simp [D.dep] at hx
  | .clo _ _, y, n, m, hx, hy => by cases n <;> simp [D.dep] at hx
  | .town, y, n, m, hx, hy => by cases n <;> simp [D.dep] at hx
  | .obj _, y, n, m, hx, hy => by cases n <;> simp [D.dep] at hx
  | .scr _, y, n, m, hx, hy => by cases n <;> simp [D.dep] at hx
theorem eqvL_py : ∀ (l k : List D) (n m : Nat), l.all (D.dep n) = true → k.all (D.dep m) = true → PyData.eqvAll (toPyL l) (toPyL k) = eqvL l k
  | [], [], n, m, hx, hy => by simp [toPyL, PyData.eqvAll, eqvL]
  | [], _ :: _, n, m, hx, hy => by simp [toPyL, PyData.eqvAll, eqvL]
  | _ :: _, [], n, m, hx, hy => by simp [toPyL, PyData.eqvAll, eqvL]
  | x :: l, y :: k, n, m, hx, hy => by
    simp only [List.all_cons, Bool.and_eq_true] at hx hy
    simp only [toPyL, PyData.eqvAll, eqvL]
    rw [eqv_py x y n m hx.1 hy.1, eqvL_py l k n m hx.2 hy.2]
end
mutual
theorem lay_py : ∀ (x : D) (n : Nat), x.dep n = true → (toPy x).canLay0 = true ∧ (toPy x).depth ≤ n
  | .none, n, h => ⟨by simp [toPy, PyData.canLay0], by simp [toPy, PyData.depth]⟩
  | .bool _, n, h => ⟨by simp [toPy, PyData.canLay0], by simp [toPy, PyData.depth]⟩
  | .int _, n, h => ⟨by simp [toPy, PyData.canLay0], by simp [toPy, PyData.depth]⟩
  | .str x, n, h => ⟨by
      have h : x.cps.all (· < 0x110000) = true := by cases n <;> simpa [D.dep] using h
      simp only [toPy, PyData.canLay0, PyData.strOk]
      exact h, by simp [toPy, PyData.depth]⟩
  | .lst l, 0, h => by simp [D.dep] at h
  | .tup l, 0, h => by simp [D.dep] at h
  | .lst l, n + 1, h => by
    simp only [D.dep] at h
    obtain ⟨h1, h2⟩ := layL_py l n h
    exact ⟨by simp only [toPy, PyData.canLay0]; exact h1, by simp only [toPy, PyData.depth]; exact Nat.succ_le_succ h2⟩
  | .tup l, n + 1, h => by
    simp only [D.dep] at h
    obtain ⟨h1, h2⟩ := layL_py l n h
    exact ⟨by simp only [toPy, PyData.canLay0]; exact h1, by simp only [toPy, PyData.depth]; exact Nat.succ_le_succ h2⟩
  | .dct _ _, n, h => by cases n <;> simp [D.dep] at h
  | .fn _, n, h => by cases n <;> simp [D.dep] at h
  | .clo _ _, n, h => by cases n <;> simp [D.dep] at h
  | .town, n, h => by cases n <;> simp [D.dep] at h
  | .obj _, n, h => by cases n <;> simp [D.dep] at h
  | .scr _, n, h => by cases n <;> simp [D.dep] at h
theorem layL_py : ∀ (l : List D) (n : Nat), l.all (D.dep n) = true → PyData.canLayAll0 (toPyL l) = true ∧ PyData.depthAll (toPyL l) ≤ n
  | [], n, h => ⟨by simp [toPyL, PyData.canLayAll0], by simp [toPyL, PyData.depthAll]⟩
  | x :: l, n, h => by
    simp only [List.all_cons, Bool.and_eq_true] at h
    obtain ⟨h1, h2⟩ := lay_py x n h.1
    obtain ⟨h3, h4⟩ := layL_py l n h.2
    exact ⟨by simp only [toPyL, PyData.canLayAll0, h1, h3]; rfl, by simp only [toPyL, PyData.depthAll]; omega⟩
end
theorem shaped_py {x : D} (h : x.dep 64 = true) : SeqAt.shaped (toPy x) = true := by
  obtain ⟨h1, h2⟩ := lay_py x 64 h
  unfold SeqAt.shaped
  rw [h1, decide_eq_true h2]
  rfl
section
variable {cn : Cn} {lb : Lb} {H : Hp}
mutual
theorem dp_rep : ∀ {x : D} {v : V} {n : Nat}, x.dep n = true → Rep cn lb H x v → Dp cn.K H v (toPy x)
  | .none, v, n, h, r => by simp only [Rep] at r; subst r; simp only [toPy]; exact .non
  | .bool b, v, n, h, r => by simp only [Rep] at r; subst r; simp only [toPy]; exact .bl b
  | .int b, v, n, h, r => by simp only [Rep] at r; subst r; simp only [toPy]; exact .int b
  | .str b, v, n, h, r => by simp only [Rep] at r; subst r; simp only [toPy]; exact .str b
  | .lst l, v, 0, h, r => by simp [D.dep] at h
  | .tup l, v, 0, h, r => by simp [D.dep] at h
  | .lst l, v, n + 1, h, r => by
    simp only [Rep] at r
    simp only [D.dep] at h
    obtain ⟨a, vs, rfl, nl, z, rl⟩ := r
    simp only [toPy]
    exact .lst nl.sq (dpL_rep h rl)
  | .tup l, v, n + 1, h, r => by
    simp only [Rep] at r
    simp only [D.dep] at h
    obtain ⟨a, vs, rfl, nl, z, rl⟩ := r
    simp only [toPy]
    exact .tup nl.sq (dpL_rep h rl)
  | .dct _ _, v, n, h, r => by cases n <;> simp [D.dep] at h
  | .fn _, v, n, h, r => by cases n <;> simp [D.dep] at h
  | .clo _ _, v, n, h, r => by cases n <;> simp [D.dep] at h
  | .town, v, n, h, r => by cases n <;> simp [D.dep] at h
  | .obj _, v, n, h, r => by cases n <;> simp [D.dep] at h
  | .scr _, v, n, h, r => by cases n <;> simp [D.dep] at h
theorem dpL_rep : ∀ {l : List D} {vs : List V} {n : Nat}, l.all (D.dep n) = true → RepL cn lb H l vs → DpAll cn.K H vs (toPyL l)
  | [], vs, n, h, r => by simp only [RepL] at r; subst r; simp only [toPyL]; exact .nil
  | x :: l, vs, n, h, r => by
    simp only [RepL] at r
    simp only [List.all_cons, Bool.and_eq_true] at h
    obtain ⟨v, r', rfl, r1, r2⟩ := r
    simp only [toPyL]
    exact .cons (dp_rep h.1 r1) (dpL_rep h.2 r2)
end
theorem dp_repB {x : D} {v : V} {n : Nat} (h : x.dep n = true) (r : RepB cn lb H x v) : Dp cn.K H v (toPy x) := by
  cases x with
  | lst l =>
    obtain ⟨a, vs, rfl, e, z, rl⟩ := r.lst
    cases n with
    | zero => simp [D.dep] at h
    | succ n =>
      simp only [D.dep] at h
      simp only [toPy]
      exact .lst (.of e) (dpL_rep h rl)
  | dct ks ds => cases n <;> simp [D.dep] at h
  | _ => exact dp_rep h (r.flat (fun _ e => nomatch e) (fun _ _ e => nomatch e))
theorem p2_eq : P2 false cn (rEqD cn.K) pEq := by
  intro lb H x y d1 d2 e Q hs r1 r2 h k
  unfold pEq at h
  split at h
  · rename_i hh
    obtain ⟨h1, h2⟩ := Bool.and_eq_true_iff.mp hh
    cases h
    refine ⟨_, _, dp_repB h1 r1, dp_repB h2 r2, shaped_py h1, shaped_py h2, ?_⟩
    rw [eqv_py d1 d2 64 64 h1 h2]
    exact KV.now k (by simp only [Rep])
  · cases h
theorem p2_ne : P2 false cn (rNeD cn.K) pNe := by
  intro lb H x y d1 d2 e Q hs r1 r2 h k
  unfold pNe at h
  split at h
  · rename_i hh
    obtain ⟨h1, h2⟩ := Bool.and_eq_true_iff.mp hh
    cases h
    refine ⟨_, _, dp_repB h1 r1, dp_repB h2 r2, shaped_py h1, shaped_py h2, ?_⟩
    rw [eqv_py d1 d2 64 64 h1 h2]
    exact KV.now k (by simp only [Rep])
  · cases h
theorem any_py : ∀ (l : List D) (d : D) (n m : Nat), l.all (D.dep n) = true → d.dep m = true → ((toPyL l).any fun z => PyData.eqv z (toPy d)) = l.any fun z => z.eqv d
  | [], d, n, m, h, hd => by simp [toPyL]
  | x :: l, d, n, m, h, hd => by
    simp only [List.all_cons, Bool.and_eq_true] at h
    simp only [toPyL, List.any_cons]
    rw [eqv_py x d n m h.1 hd, any_py l d n m h.2 hd]
theorem p2_in : P2 false cn (rInD cn.K) pIn := by
  intro lb H x y d1 d2 e Q hs r1 r2 h k
  cases d2 with
  | lst l =>
    simp only [pIn] at h
    split at h
    · rename_i hh
      obtain ⟨h1, h2⟩ := Bool.and_eq_true_iff.mp hh
      cases h
      have sh := shaped_py h2
      have dp := dp_repB h2 r2
      simp only [toPy] at sh dp
      refine ⟨_, _, dp_repB h1 r1, dp, shaped_py h1, sh, ?_⟩
      rw [any_py l d1 63 64 (by simpa [D.dep] using h2) h1]
      exact KV.now k (by simp only [Rep])
    · cases h
  | _ => cases h
theorem p2_notIn : P2 false cn (rNotInD cn.K) pNotIn := by
  intro lb H x y d1 d2 e Q hs r1 r2 h k
  cases d2 with
  | lst l =>
    simp only [pNotIn] at h
    split at h
    · rename_i hh
      obtain ⟨h1, h2⟩ := Bool.and_eq_true_iff.mp hh
      cases h
      have sh := shaped_py h2
      have dp := dp_repB h2 r2
      simp only [toPy] at sh dp
      refine ⟨_, _, dp_repB h1 r1, dp, shaped_py h1, sh, ?_⟩
      rw [any_py l d1 63 64 (by simpa [D.dep] using h2) h1]
      exact KV.now k (by simp only [Rep])
    · cases h
  | _ => cases h
/-! ### numbers -/
theorem p2_int0 {g : Int → Int → V} {f : Int → Int → D} {c : Int → Int → Bool} (hr : ∀ lb H i j, Rep cn lb H (f i j) (g i j)) : P2 false cn (rI0 g) (pInt2 f c) := by
  intro lb H x y d1 d2 e Q hs r1 r2 h k
  cases d1 with
  | int i =>
    cases d2 with
    | int j =>
      simp only [pInt2] at h
      split at h
      · cases h
        exact ⟨i, j, r1.int, r2.int, KV.now k (hr _ _ _ _)⟩
      · cases h
    | _ => cases h
  | _ => cases h
theorem p2_intC {g : Int → Int → V} {f : Int → Int → D} {c : Int → Int → Bool} {C : Int → Int → Prop} (hr : ∀ lb H i j, Rep cn lb H (f i j) (g i j)) (hc : ∀ i j, c i j = true → C i j) : P2 false cn (rI C g) (pInt2 f c) := by
  intro lb H x y d1 d2 e Q hs r1 r2 h k
  cases d1 with
  | int i =>
    cases d2 with
    | int j =>
      simp only [pInt2] at h
      split at h
      · rename_i hh
        cases h
        exact ⟨i, j, r1.int, r2.int, hc i j hh, KV.now k (hr _ _ _ _)⟩
      · cases h
    | _ => cases h
  | _ => cases h
theorem p2_sub : P2 false cn (rI0 fun i j => .int (i - j)) pSub := p2_int0 fun _ _ _ _ => by simp only [Rep]
theorem p2_mul : P2 false cn (rI CMul fun i j => .int (i * j)) pMul := p2_intC (fun _ _ _ _ => by simp only [Rep]) fun i j h => by
  simp only [big, Bool.or_eq_true, lim_iff] at h
  exact h
theorem p2_fdiv : P2 false cn (rI CDiv fun i j => .int (i / j)) pFdiv := p2_intC (fun _ _ _ _ => by simp only [Rep]) fun i j h => of_lim h
theorem p2_mod : P2 false cn (rI (fun _ j => 0 < j) fun i j => .int (i % j)) pMod := p2_intC (fun _ _ _ _ => by simp only [Rep]) fun i j h => of_lim h
theorem p2_pow : P2 false cn (rI CPow fun i j => .int (i ^ j.toNat)) pPow := p2_intC (fun _ _ _ _ => by simp only [Rep]) fun i j h => of_lim h
theorem p2_lt : P2 false cn (rI0 fun i j => .bl (decide (i < j))) pLt := p2_int0 fun _ _ _ _ => by simp only [Rep]
theorem p2_le : P2 false cn (rI0 fun i j => .bl (decide (i ≤ j))) pLe := p2_int0 fun _ _ _ _ => by simp only [Rep]
theorem p2_ge : P2 false cn (rI0 fun i j => .bl (decide (j ≤ i))) pGe := p2_int0 fun _ _ _ _ => by simp only [Rep]
theorem p1_neg : P1 false cn (rU fun i => .int (-i)) pNeg := by
  intro lb H x d e Q hs r h k
  cases d with
  | int i => cases h; exact ⟨i, r.int, KV.now k (by simp only [Rep])⟩
  | _ => cases h
theorem p1_abs : P1 false cn (fun x H Q => ∃ i, [x] = [V.int i] ∧ Q (.int (if i < 0 then -i else i)) H) pAbs := by
  intro lb H x d e Q hs r h k
  cases d with
  | int i => cases h; exact ⟨i, by rw [r.int], KV.now k (by simp only [Rep])⟩
  | _ => cases h
theorem p2_max2 : P2 false cn (fun x y H Q => ∃ i j, [x, y] = [V.int i, V.int j] ∧ Q (.int (if j > i then j else i)) H) pMax2 := by
  intro lb H x y d1 d2 e Q hs r1 r2 h k
  cases d1 with
  | int i =>
    cases d2 with
    | int j => cases h; exact ⟨i, j, by rw [r1.int, r2.int], KV.now k (by simp only [Rep])⟩
    | _ => cases h
  | _ => cases h
theorem p2_min2 : P2 false cn (fun x y H Q => ∃ i j, [x, y] = [V.int i, V.int j] ∧ Q (.int (if j < i then j else i)) H) pMin2 := by
  intro lb H x y d1 d2 e Q hs r1 r2 h k
  cases d1 with
  | int i =>
    cases d2 with
    | int j => cases h; exact ⟨i, j, by rw [r1.int, r2.int], KV.now k (by simp only [Rep])⟩
    | _ => cases h
  | _ => cases h
end
end Pk
/-! Br9: places, kinds, sums of lists, and the rules of expressions with built-ins. -/
namespace Pk
open PySem PySem.Spec PyProof.Rows L2
section
variable {cn : Cn} {lb : Lb} {H : Hp}
theorem ixOf_eq (n : Nat) (i : Int) : ixOf n i = ixN n i := rfl
theorem getI_rep {l : List D} {vs : List V} {i : Int} {d : D} (r : RepL cn lb H l vs) (h : getI l i = some d) : ∃ v, atI vs i = some v ∧ Rep cn lb H d v := by
  unfold getI at h
  cases e : ixOf l.length i with
  | none => rw [e] at h; cases h
  | some j =>
    rw [e] at h
    obtain ⟨v, e1, r1⟩ := r.get (show l[j]? = some d from h)
    refine ⟨v, ?_, r1⟩
    unfold atI
    rw [← r.length, ← ixOf_eq, e]
    exact e1
theorem p2_ix : P2 false cn (rIx cn.K) pIx := by
  intro lb H x y d1 d2 e Q hs r1 r2 h k
  cases d2 with
  | int i =>
    cases d1 with
    | lst l =>
      obtain ⟨a, vs, rfl, e1, z, rl⟩ := r1.lst
      obtain ⟨v, e2, rv⟩ := getI_rep rl h
      exact .inl ⟨a, vs, i, v, rfl, r2.int, .of e1, e2, KV.now k rv⟩
    | tup l =>
      obtain ⟨a, vs, rfl, e1, z, rl⟩ := r1.tup
      obtain ⟨v, e2, rv⟩ := getI_rep rl h
      exact .inr (.inl ⟨a, vs, i, v, rfl, r2.int, .of e1, e2, KV.now k rv⟩)
    | scr l =>
      obtain ⟨a, rfl, e1, z⟩ := r1.scr
      simp only [pIx] at h
      cases e2 : ixOf l.length i with
      | none => rw [e2] at h; cases h
      | some j =>
        rw [e2] at h
        cases e3 : l[j]? with
        | none => simp only [Option.bind_some, e3] at h; cases h
        | some n =>
          simp only [Option.bind_some, e3, Option.map_some, Option.some.injEq] at h
          subst h
          refine .inl ⟨a, _, i, .int n, rfl, r2.int, e1, ?_, KV.now k (by simp only [Rep])⟩
          unfold atI
          rw [List.length_map, ← ixOf_eq, e2]
          simp [e3]
    | _ => cases h
  | _ => cases d1 <;> cases h
/-! ### kinds -/
def TyD (K : PySem.W.Frag) (H : Hp) (v : V) (d : D) : Prop := match d with
    | .none => TyX K H v (.type "NoneType")
    | .bool _ => TyX K H v (.type "bool")
    | .int _ => TyX K H v (.type "int")
    | .str _ => TyX K H v (.type "str")
    | .tup _ => TyX K H v (.type "tuple")
    | .lst _ => TyX K H v (.type "list")
    | _ => True
theorem tyx {d : D} {v : V} (r : RepB cn lb H d v) : TyD cn.K H v d := by
  cases d with
  | none => rw [r.none]; exact .base .non
  | bool b => rw [r.bool]; exact .base (.bl b)
  | int b => rw [r.int]; exact .base (.int b)
  | str b => rw [r.str]; exact .base (.str b)
  | tup l => obtain ⟨a, vs, rfl, e, _⟩ := r.tup; exact .base (.tup e)
  | lst l => obtain ⟨a, vs, rfl, e, _⟩ := r.lst; exact .base (.lst e)
  | _ => trivial
theorem p1_isi (T : String) (p : D → Option D) (h0 : ∀ e, p .none = some e → ∃ c, e = .bool c ∧ kitB "NoneType" T = some c) (h1 : ∀ b e, p (.bool b) = some e → ∃ c, e = .bool c ∧ kitB "bool" T = some c)
    (h2 : ∀ b e, p (.int b) = some e → ∃ c, e = .bool c ∧ kitB "int" T = some c) (h3 : ∀ b e, p (.str b) = some e → ∃ c, e = .bool c ∧ kitB "str" T = some c) (h4 : ∀ b e, p (.tup b) = some e → ∃ c, e = .bool c ∧ kitB "tuple" T = some c)
    (h5 : ∀ b e, p (.lst b) = some e → ∃ c, e = .bool c ∧ kitB "list" T = some c) (h6 : ∀ b a, p (.dct b a) = none)
    (h7 : ∀ n, p (.fn n) = none) (h8 : ∀ n l, p (.clo n l) = none) (h9 : p .town = none) (h10 : ∀ n, p (.obj n) = none) (h11 : ∀ n, p (.scr n) = none) :
    P1 false cn (fun x H Q => rIsi cn.K [x, .ty T] H Q) p := by
  intro lb H x d e Q hs r h k
  have t := tyx r
  have fin : ∀ s, (∃ c, e = .bool c ∧ kitB s T = some c) → TyX cn.K H x (.type s) → rIsi cn.K [x, .ty T] H Q := fun s ⟨c, e1, e2⟩ t => by
    subst e1
    exact ⟨x, .ty T, .type s, .type T, c, rfl, .ty T, t, kit_ty e2, KV.now k (by simp only [Rep])⟩
  cases d with
  | none => exact fin _ (h0 e h) t
  | bool b => exact fin _ (h1 b e h) t
  | int b => exact fin _ (h2 b e h) t
  | str b => exact fin _ (h3 b e h) t
  | tup b => exact fin _ (h4 b e h) t
  | lst b => exact fin _ (h5 b e h) t
  | dct b a => rw [h6] at h; cases h
  | fn n => rw [h7] at h; cases h
  | clo n l => rw [h8] at h; cases h
  | town => rw [h9] at h; cases h
  | obj n => rw [h10] at h; cases h
  | scr n => rw [h11] at h; cases h
theorem p1_isInt : P1 false cn (fun x H Q => rIsi cn.K [x, .ty "int"] H Q) pIsInt := by
  refine p1_isi "int" pIsInt ?_ ?_ ?_ ?_ ?_ ?_ (fun _ _ => rfl) (fun _ => rfl) (fun _ _ => rfl) rfl (fun _ => rfl) (fun _ => rfl) <;> (intros; rename_i h; cases h; exact ⟨_, rfl, by decide +kernel⟩)
theorem p1_isBool : P1 false cn (fun x H Q => rIsi cn.K [x, .ty "bool"] H Q) pIsBool := by
  refine p1_isi "bool" pIsBool ?_ ?_ ?_ ?_ ?_ ?_ (fun _ _ => rfl) (fun _ => rfl) (fun _ _ => rfl) rfl (fun _ => rfl) (fun _ => rfl) <;> (intros; rename_i h; cases h; exact ⟨_, rfl, by decide +kernel⟩)
theorem p1_isTup : P1 false cn (fun x H Q => rIsi cn.K [x, .ty "tuple"] H Q) pIsTup := by
  refine p1_isi "tuple" pIsTup ?_ ?_ ?_ ?_ ?_ ?_ (fun _ _ => rfl) (fun _ => rfl) (fun _ _ => rfl) rfl (fun _ => rfl) (fun _ => rfl) <;> (intros; rename_i h; cases h; exact ⟨_, rfl, by decide +kernel⟩)
/-! ### lists of numbers, of truth values -/
theorem ints_rep : ∀ {l : List D} {vs : List V} {ns : List Int}, RepL cn lb H l vs → intsOf l = some ns → vs = ns.map V.int
  | [], vs, ns, r, h => by simp only [RepL] at r; cases h; rw [r]; rfl
  | d :: l, vs, ns, r, h => by
    simp only [RepL] at r
    obtain ⟨v, r', rfl, r1, r2⟩ := r
    cases d with
    | int i =>
      simp only [intsOf] at h
      cases e : intsOf l with
      | none => rw [e] at h; cases h
      | some ms =>
        rw [e] at h
        cases h
        simp only [Rep] at r1
        rw [r1, ints_rep r2 e]
        rfl
    | _ => cases h
theorem bools_rep : ∀ {l : List D} {vs : List V} {ns : List Bool}, RepL cn lb H l vs → boolsOf l = some ns → vs = ns.map V.bl
  | [], vs, ns, r, h => by simp only [RepL] at r; cases h; rw [r]; rfl
  | d :: l, vs, ns, r, h => by
    simp only [RepL] at r
    obtain ⟨v, r', rfl, r1, r2⟩ := r
    cases d with
    | bool i =>
      simp only [boolsOf] at h
      cases e : boolsOf l with
      | none => rw [e] at h; cases h
      | some ms =>
        rw [e] at h
        cases h
        simp only [Rep] at r1
        rw [r1, bools_rep r2 e]
        rfl
    | _ => cases h
theorem p1_all : P1 false cn (fun x H Q => rAll cn.K [x] H Q) pAll := by
  intro lb H x d e Q hs r h k
  cases d with
  | lst l =>
    obtain ⟨a, vs, rfl, e1, z, rl⟩ := r.lst
    simp only [pAll] at h
    cases e2 : boolsOf l with
    | none => rw [e2] at h; cases h
    | some bs =>
      rw [e2] at h
      cases h
      rw [bools_rep rl e2] at e1
      exact ⟨a, bs, rfl, .of e1, KV.now k (by simp only [Rep])⟩
  | _ => cases h
theorem p1_sum : P1 false cn (fun x H Q => rSum cn.K [x] H Q) pSum := by
  intro lb H x d e Q hs r h k
  cases d with
  | lst l =>
    obtain ⟨a, vs, rfl, e1, z, rl⟩ := r.lst
    simp only [pSum] at h
    cases e2 : intsOf l with
    | none => rw [e2] at h; cases h
    | some bs =>
      rw [e2] at h
      cases h
      rw [ints_rep rl e2] at e1
      exact ⟨a, bs, rfl, .of e1, KV.now k (by simp only [Rep])⟩
  | _ => cases h
/-! ### x + y -/
def rAddA (K : PySem.W.Frag) : R2 := fun x y H Q => (rI0 (fun i j => .int (i + j)) x y H Q) ∨ ((∃ i j, x = .str i ∧ y = .str j ∧ i.length + j.length ≤ sizeLine ∧ Q (.str (i ++ j)) H) ∨ (rCat x y H Q ∨ rCatA K x y H Q))
theorem op_addA {X : Cx} : OpR X (binaryOp .Add) (rAddA X.K) := op_add.or (op_add_str.or (op_cat.or op_catA))
theorem KV.tup {d : List D} {Q : VK} (k : KV cn lb H (.tup d) Q) (hs : Has lb H) {vs : List V} {p : Addr} (np : H p = none) (r : RepL cn lb H d vs) (z : d.length ≤ SZ) : Q (.ref p) (L2.upd H p (.tup vs)) := by
  refine k _ _ (Ext.upd np) ?_
  simp only [Rep]
  exact ⟨p, vs, rfl, ⟨hs.none np, upd_same⟩, z, r.stq (.of_ext (Ext.upd np))⟩
theorem p2_add : P2 false cn (rAddA cn.K) pAdd := by
  intro lb H x y d1 d2 e Q hs r1 r2 h k
  cases d1 with
  | int i =>
    cases d2 with
    | int j => cases h; exact .inl ⟨i, j, r1.int, r2.int, KV.now k (by simp only [Rep])⟩
    | _ => cases h
  | str i =>
    cases d2 with
    | str j =>
      simp only [pAdd] at h
      split at h
      · rename_i hz
        cases h
        exact .inr (.inl ⟨i, j, r1.str, r2.str, by have := of_lim hz; rw [← SZ_eq]; exact this, KV.now k (by simp only [Rep]; rfl)⟩)
      · cases h
    | _ => cases h
  | lst l =>
    cases d2 with
    | lst m =>
      simp only [pAdd] at h
      split at h
      · rename_i hz
        cases h
        have hz := of_lim hz
        obtain ⟨a, vs, rfl, e1, z1, rl⟩ := r1.lst
        obtain ⟨c, us, rfl, e2, z2, rm⟩ := r2.lst
        refine .inr (.inr (.inl ⟨a, c, vs, us, rfl, rfl, e1, e2, by rw [← rl.length, ← rm.length, ← SZ_eq]; exact hz, fun p np => ?_⟩))
        exact KV.kf hs k p _ np ⟨vs ++ us, rfl, by rw [List.length_append]; exact hz, rl.append rm⟩
      · cases h
    | _ => cases h
  | tup l =>
    cases d2 with
    | tup m =>
      simp only [pAdd] at h
      split at h
      · rename_i hz
        cases h
        have hz := of_lim hz
        have r1' := r1
        have r2' := r2
        obtain ⟨a, vs, rfl, e1, z1, rl⟩ := r1.tup
        obtain ⟨c, us, rfl, e2, z2, rm⟩ := r2.tup
        have f1 := r1'.flat (fun _ e => nomatch e) (fun _ _ e => nomatch e)
        have f2 := r2'.flat (fun _ e => nomatch e) (fun _ _ e => nomatch e)
        refine .inr (.inr (.inr ⟨a, c, vs, us, rfl, rfl, .of e1, .of e2, by rw [← rl.length, ← rm.length, ← SZ_eq]; exact hz, fun h0 => ?_, fun _ h0 => ?_, fun _ _ p np => ?_⟩))
        · have hl : l = [] := by
            have := rl.length
            rw [h0] at this
            exact List.length_eq_zero_iff.mp this
          subst hl
          exact KV.now k f2
        · have hl : m = [] := by
            have := rm.length
            rw [h0] at this
            exact List.length_eq_zero_iff.mp this
          subst hl
          have k2 : Kt false cn lb H (.tup l) Q := by simpa using k
          exact KV.now k2 f1
        · exact KV.tup k hs np (rl.append rm) (by rw [List.length_append]; exact hz)
      · cases h
    | _ => cases h
  | _ => cases h
end
end Pk
/-! Br10: rules of expressions with built-ins; lists changed in place; what a loop walks; a def. -/
namespace Pk
open PySem PySem.Spec PyProof.Rows L2
section
variable {X : Cx} {b : Bd} {n : Nat}
theorem Gd.units (g : Gd n X b) : X.A.units + 65 < cLine := by have := g.room.un; omega
theorem Gd.eqD (g : Gd n X b) : OpR X (compareOp .Eq) (rEqD b.cn.K) := by rw [g.kk]; exact op_eqD (by have := g.units; omega)
theorem Gd.neD (g : Gd n X b) : OpR X (compareOp .NotEq) (rNeD b.cn.K) := by rw [g.kk]; exact op_neD (by have := g.units; omega)
theorem Gd.inD (g : Gd n X b) : OpR X (compareOp .In) (rInD b.cn.K) := by rw [g.kk]; exact op_inD g.units
theorem Gd.notInD (g : Gd n X b) : OpR X (compareOp .NotIn) (rNotInD b.cn.K) := by rw [g.kk]; exact op_notInD g.units
theorem Gd.addA (g : Gd n X b) : OpR X (binaryOp .Add) (rAddA b.cn.K) := by rw [g.kk]; exact op_addA
theorem de_ix {ea ec : Expr} {a c : Opd} {pos : Pos} (g : Gd n X b) (ha : DO X b ea a) (hc : DO X b ec c) (hs : PlainIx ec := by exact fun _ _ => rfl) : DE X b (.Subscript ea ec pos) (e2 pIx a c) :=
  PE.imp (pe_ix (by rw [g.kk]; exact ix_seq : IxR X (rIx b.cn.K)) ha.pe hc.pe hs) fun _ _ _ h => t2_run p2_ix h
/-- f(a), f(a, c) of built-in functions -/
theorem de_b1 {fresh : Bool} {x : Str} {id : String} {r : List V → Hp → VK → Prop} {p : D → Option D} {ea : Expr} {a : Opd} {q pos : Pos} (hc : CallR X (.builtin id) r) (hp : P1 fresh b.cn (fun x H Q => r [x] H Q) p) (hg : Gl X x) (hm : X.mg x = none) (hv : bootBuiltins x = some (.builtin id)) (ha : DO X b ea a)
    (hn : x ≠ "__name__" := by decide) (hdb : (x == ("__debug__" : Str)) = false := by decide) (he : starEach [ea] X.env = [(false, eval ea X.env)] := by rfl) : PE X (.Call (.Name x q) [ea] [] pos) (tK fresh b (e1 p a)) :=
  PE.imp (pe_callB hc hg hm hv (pa_cons ha.pe pa_nil he) hn hdb he rfl) fun _ _ _ h => t1_run hp h
theorem de_b2 {fresh : Bool} {x : Str} {id : String} {r : List V → Hp → VK → Prop} {p : D → D → Option D} {ea ec : Expr} {a c : Opd} {q pos : Pos} (hc : CallR X (.builtin id) r) (hp : P2 fresh b.cn (fun x y H Q => r [x, y] H Q) p) (hg : Gl X x) (hm : X.mg x = none) (hv : bootBuiltins x = some (.builtin id)) (ha : DO X b ea a) (hb : DO X b ec c)
    (hn : x ≠ "__name__" := by decide) (hdb : (x == ("__debug__" : Str)) = false := by decide) (he : starEach [ea, ec] X.env = (false, eval ea X.env) :: starEach [ec] X.env := by rfl) (he2 : starEach [ec] X.env = [(false, eval ec X.env)] := by rfl) : PE X (.Call (.Name x q) [ea, ec] [] pos) (tK fresh b (e2 p a c)) :=
  PE.imp (pe_callB hc hg hm hv (pa_cons ha.pe (pa_cons hb.pe pa_nil he2) he) hn hdb he (by rw [he2]; rfl)) fun _ _ _ h => t2_run hp h
/-- T(a) of a built-in type -/
theorem de_ty1 {fresh : Bool} {x : Str} {T : String} {r : List V → Hp → VK → Prop} {p : D → Option D} {ea : Expr} {a : Opd} {q pos : Pos} (hc : CallR X (.type T) r) (hp : P1 fresh b.cn (fun x H Q => r [x] H Q) p) (hg : Gl X x) (hm : X.mg x = none) (hv : bootBuiltins x = some (.type T)) (ha : DO X b ea a)
    (hn : x ≠ "__name__" := by decide) (hdb : (x == ("__debug__" : Str)) = false := by decide) (he : starEach [ea] X.env = [(false, eval ea X.env)] := by rfl) : PE X (.Call (.Name x q) [ea] [] pos) (tK fresh b (e1 p a)) :=
  PE.imp (pe_callTy hc hg hm hv (pa_cons ha.pe pa_nil he) hn hdb he rfl) fun _ _ _ h => t1_run hp h
/-- isinstance(a, T) -/
theorem de_isi {y : Str} {T : String} {p : D → Option D} {ea : Expr} {a : Opd} {q q2 pos : Pos} (g : Gd n X b) (hp : P1 false b.cn (fun x H Q => rIsi b.cn.K [x, .ty T] H Q) p) (hg : Gl X "isinstance") (hm : X.mg "isinstance" = none) (ha : DO X b ea a) (hgy : Gl X y) (hmy : X.mg y = none) (hvy : bootBuiltins y = some (.type T))
    (hny : y ≠ "__name__" := by decide) (hdy : (y == ("__debug__" : Str)) = false := by decide) (he : starEach [ea, .Name y q2] X.env = (false, eval ea X.env) :: starEach [.Name y q2] X.env := by rfl) : DE X b (.Call (.Name "isinstance" q) [ea, .Name y q2] [] pos) (e1 p a) :=
  PE.imp (pe_callB (by rw [g.kk]; exact call_isi : CallR X (.builtin "isinstance") (rIsi b.cn.K)) hg hm boot_isinstance (pa_cons ha.pe (pa_cons (pe_bltn hgy hmy hvy (v := .ty T) rfl hny hdy) pa_nil) he) (by decide) (by decide) he rfl) fun _ _ _ h => t1_run hp h
/-- len(a) -/
theorem de_len {ea : Expr} {a : Opd} {q pos : Pos} (g : Gd n X b) (hg : Gl X "len") (hm : X.mg "len" = none) (ha : DO X b ea a) (he : starEach [ea] X.env = [(false, eval ea X.env)] := by rfl) : DE X b (.Call (.Name "len" q) [ea] [] pos) (eLen a) := by
  refine PE.imp (pe_callB call_len_seq hg hm boot_len (pa_cons ha.pe pa_nil he) (by decide) (by decide) he rfl) fun σ H Q ⟨lb, ρ, s, o, h⟩ => ?_
  refine tOpd_run o (Post.bind h) fun x ρ1 s1 lb1 H1 v st o1 q sd => ?_
  obtain ⟨e, e1, k⟩ := opt_post o1 q
  cases e2 : look ρ1 x with
  | none => rw [e2] at e1; cases e1
  | some d =>
    rw [e2] at e1
    have rb := sd.look o1 e2
    cases d with
    | lst l =>
      cases e1
      obtain ⟨p, vs, rfl, hp, _, rl⟩ := rb.lst
      exact ⟨p, vs, rfl, .inl (.of hp), by rw [← rl.length]; exact KV.now k (by simp only [Rep])⟩
    | tup l =>
      cases e1
      obtain ⟨p, vs, rfl, hp, _, rl⟩ := rb.tup
      exact ⟨p, vs, rfl, .inr (.of hp), by rw [← rl.length]; exact KV.now k (by simp only [Rep])⟩
    | scr l =>
      cases e1
      obtain ⟨p, rfl, hp, _⟩ := rb.scr
      refine ⟨p, _, rfl, .inl (by rw [← g.kk]; exact hp), ?_⟩
      rw [List.length_map]
      exact KV.now k (by simp only [Rep])
    | town =>
      have r := rb.flat (fun _ e => nomatch e) (fun _ _ e => nomatch e)
      simp only [Rep] at r
      obtain ⟨p, rfl, lp⟩ := r
      obtain ⟨m, em, hp, _⟩ := o1.sto.town p lp
      refine ⟨p, _, rfl, .inl (.of hp), ?_⟩
      rw [List.length_replicate]
      simp only [Option.bind_some, lenOf, em, Option.map_some, Option.some.injEq] at e1
      subst e1
      exact KV.now k (by simp only [Rep])
    | _ => cases e1
/-- script == [] -/
theorem dp_ints {K : PySem.W.Frag} {H : Hp} : ∀ l : List Int, DpAll K H (l.map V.int) (l.map PyData.int)
  | [] => .nil
  | i :: l => .cons (.int i) (dp_ints l)
theorem lay_ints : ∀ l : List Int, PyData.canLayAll0 (l.map PyData.int) = true ∧ PyData.depthAll (l.map PyData.int) = 0
  | [] => ⟨by simp [PyData.canLayAll0], by simp [PyData.depthAll]⟩
  | i :: l => by
    obtain ⟨h1, h2⟩ := lay_ints l
    exact ⟨by simp [PyData.canLayAll0, PyData.canLay0, h1], by simp [PyData.depthAll, PyData.depth, h2]⟩
theorem scr0_run {a : Opd} {σ : L2.St} {H : Hp} {Q : VK} {tb : TE} (htb : ∀ σ H Q, (∀ p, H p = none → Q (.ref p) (L2.upd H p (.lst []))) → tb σ H Q) (h : tK false b (e1 pScr0 a) σ H Q) : tOp (rEqD b.cn.K) (tOpd b a) tb σ H Q := by
  obtain ⟨lb, ρ, s, o, h⟩ := h
  refine tOpd_run o (Post.bind h) fun x ρ1 s1 lb1 H1 v st o1 q sd => ?_
  obtain ⟨e, e1, k⟩ := opt_post o1 q
  cases e2 : look ρ1 x with
  | none => rw [e2] at e1; cases e1
  | some d =>
    rw [e2] at e1
    cases d with
    | scr l =>
      obtain ⟨p, rfl, hp, _⟩ := (sd.look o1 e2).scr
      simp only [Option.bind_some, pScr0, Option.some.injEq] at e1
      subst e1
      refine htb _ _ _ fun p2 np => ?_
      have hp2 : SqL b.cn.K (L2.upd H1 p2 (.lst [])) p (l.map V.int) := by
        rcases hp with hp | hp
        · rcases hp with hp | ⟨ob, hp⟩
          · exact .inl (.inl (Ext.upd np _ _ hp))
          · exact .inl (.inr ⟨ob, Ext.upd np _ _ hp⟩)
        · exact .inr hp
      obtain ⟨l1, l2⟩ := lay_ints l
      refine ⟨.list (l.map .int), .list [], .lst hp2 (dp_ints l), .lst (.of upd_same) .nil, ?_, by decide, ?_⟩
      · simp [SeqAt.shaped, PyData.canLay0, PyData.depth, l1, l2]
      · have ee : PyData.eqv (.list (l.map .int)) (.list []) = l.isEmpty := by cases l <;> simp [PyData.eqv, PyData.eqvAll]
        rw [ee]
        exact k _ _ (Ext.upd np) (by simp only [Rep])
    | _ => cases e1
theorem dt_scr0 {ea : Expr} {a : Opd} {p2 pos : Pos} (g : Gd n X b) (ha : DO X b ea a) (hm : behindInMarks .Eq (.List [] p2) = false := by rfl) : DT X b (.Compare ea [.Eq] [.List [] p2] pos) (e1 pScr0 a) :=
  PT.imp (pt_cmpR g.eqD ha.pe (pe_lst pa_nil) hm) fun σ H Q h => scr0_run (Q := fun x H' => ∃ k, x = .bl k ∧ Q k H') (fun σ H Q h => ⟨Nat.zero_le _, h⟩) (tT_test h)
/-! ### lists changed in place -/
theorem ow_lst {lb : Lb} {ρ : Env} {s : Sto} {σ : L2.St} {H : Hp} {i : Nat} {l : List D} (o : Ok b lb ρ s σ H) (h : ρ[i]? = some (.ow (.lst l))) : ∃ a vs, σ[i]? = some (some (.ref a)) ∧ lb a = some (.loc i) ∧ H a = some (.lst vs) ∧ l.length ≤ SZ ∧ RepL b.cn lb H l vs := by
  obtain ⟨a, u, e1, l1, q, w⟩ := o.ow i _ h
  obtain ⟨vs, rfl, z, r⟩ := w
  exact ⟨a, vs, e1, l1, q, z, r⟩
theorem ds_append {x : Expr} {i : Nat} {e : Expr} {m : M D} {apos cpos pos : Pos} (hx : PE X x (tVar i)) (h : DE X b e m) (hbase : attributeBase x "append" X.env (eval x X.env) = eval x X.env := by rfl)
    (hfew : ((backTo cpos (starEach [e] X.env)).all (fun x => !x.1) && (backToKw cpos (keywordEach [] X.env)).all (fun x => x.1.isSome) && decide ([e].length + ([] : List Keyword).length + (if ([] : List Keyword).isEmpty then 0 else 1) < 30)) = true := by rfl)
    (hline : (apos.endLine == cpos.line) = true := by rfl) (hs : starEach [e] X.env = (false, eval e X.env) :: starEach [] X.env := by rfl) (hsw : swapsWith (.Call (.Attribute x "append" apos) [e] [] cpos) none pos.line X.env = pure false := by rfl) :
    DS X b (.Expr (.Call (.Attribute x "append" apos) [e] [] cpos) pos) (sAppend i m) := by
  refine PS.imp (ps_expr (pe_bm PySem.F.plainAttrs_list PySem.F.slot_list_append PySem.F.type_list_append mt_append hx (pa_cons h pa_nil hs) hbase hfew hline hs rfl) hsw) fun D σ H ⟨lb, ρ, s, o, p⟩ => ?_
  have p : SPost b D lb H (sAppend i m ρ s) := p
  unfold sAppend at p
  cases q : ρ[i]? with
  | none => rw [q] at p; exact False.elim p
  | some z =>
    cases z with
    | ow d =>
      cases d with
      | lst l =>
        simp only [q] at p
        obtain ⟨a, vs, e1, l1, h1, _, _⟩ := ow_lst o q
        refine ⟨.ref a, e1, .inl ⟨rfl, vs, .of h1⟩, lb, ρ, s, o, (SPost.bind (D := D) p).mono fun dv ρ1 s1 lb1 H1 st o1 k => fun v H2 ex r => ?_⟩
        have o2 := o1.ext ex
        have k := SPost.from k (o1.stp_ext ex)
        cases q1 : ρ1[i]? with
        | none => rw [q1] at k; exact False.elim k
        | some z =>
          cases z with
          | ow d =>
            cases d with
            | lst l =>
              simp only [q1] at k
              split at k
              · rename_i hz
                have hz := of_lim hz
                obtain ⟨a', ws, e2, l2, h2, z2, rl⟩ := ow_lst o2 q1
                rw [e1] at e2
                cases e2
                refine ⟨a, ws, v, rfl, rfl, h2, by rw [← rl.length, ← SZ_eq]; exact hz, ?_⟩
                obtain ⟨o3, st3⟩ := o2.change q1 e1 h2 (d' := .lst (l ++ [dv])) (o' := .lst (ws ++ [v])) ⟨_, rfl, by rw [List.length_append]; exact hz, rl.append (.one r)⟩
                exact k lb1 σ _ st3 o3
              · exact False.elim k
            | _ => simp only [q1] at k; exact False.elim k
          | _ => simp only [q1] at k; exact False.elim k
      | _ => simp only [q] at p; exact False.elim p
    | _ => simp only [q] at p; exact False.elim p
theorem ds_extend {x : Expr} {i : Nat} {e : Expr} {m : M D} {apos cpos pos : Pos} (hx : PE X x (tVar i)) (h : DE X b e m) (hbase : attributeBase x "extend" X.env (eval x X.env) = eval x X.env := by rfl)
    (hfew : ((backTo cpos (starEach [e] X.env)).all (fun x => !x.1) && (backToKw cpos (keywordEach [] X.env)).all (fun x => x.1.isSome) && decide ([e].length + ([] : List Keyword).length + (if ([] : List Keyword).isEmpty then 0 else 1) < 30)) = true := by rfl)
    (hline : (apos.endLine == cpos.line) = true := by rfl) (hs : starEach [e] X.env = (false, eval e X.env) :: starEach [] X.env := by rfl) (hsw : swapsWith (.Call (.Attribute x "extend" apos) [e] [] cpos) none pos.line X.env = pure false := by rfl) :
    DS X b (.Expr (.Call (.Attribute x "extend" apos) [e] [] cpos) pos) (sExtend i m) := by
  refine PS.imp (ps_expr (pe_bm PySem.F.plainAttrs_list PySem.F.slot_list_extend PySem.F.type_list_extend mt_extend hx (pa_cons h pa_nil hs) hbase hfew hline hs rfl) hsw) fun D σ H ⟨lb, ρ, s, o, p⟩ => ?_
  have p : SPost b D lb H (sExtend i m ρ s) := p
  unfold sExtend at p
  cases q : ρ[i]? with
  | none => rw [q] at p; exact False.elim p
  | some z =>
    cases z with
    | ow d =>
      cases d with
      | lst l =>
        simp only [q] at p
        obtain ⟨a, vs, e1, l1, h1, _, _⟩ := ow_lst o q
        refine ⟨.ref a, e1, .inl ⟨rfl, vs, .of h1⟩, lb, ρ, s, o, (SPost.bind (D := D) p).mono fun dv ρ1 s1 lb1 H1 st o1 k => fun v H2 ex r => ?_⟩
        have o2 := o1.ext ex
        have k := SPost.from k (o1.stp_ext ex)
        cases q1 : ρ1[i]? with
        | none => rw [q1] at k; exact False.elim k
        | some z =>
          cases z with
          | ow d =>
            cases d with
            | lst l =>
              cases dv with
              | lst m =>
                simp only [q1] at k
                split at k
                · rename_i hz
                  have hz := of_lim hz
                  obtain ⟨a', ws, e2, l2, h2, z2, rl⟩ := ow_lst o2 q1
                  rw [e1] at e2
                  cases e2
                  simp only [Rep] at r
                  obtain ⟨c, us, rfl, nl, z3, rm⟩ := r
                  refine ⟨a, c, ws, us, rfl, rfl, h2, nl.2, by rw [← rl.length, ← rm.length, ← SZ_eq]; exact hz, ?_⟩
                  obtain ⟨o3, st3⟩ := o2.change q1 e1 h2 (d' := .lst (l ++ m)) (o' := .lst (ws ++ us)) ⟨_, rfl, by rw [List.length_append]; exact hz, rl.append rm⟩
                  exact k lb1 σ _ st3 o3
                · exact False.elim k
              | _ => simp only [q1] at k; exact False.elim k
            | _ => simp only [q1] at k; exact False.elim k
          | _ => simp only [q1] at k; exact False.elim k
      | _ => simp only [q] at p; exact False.elim p
    | _ => simp only [q] at p; exact False.elim p
theorem de_pop {x : Expr} {i : Nat} {apos cpos : Pos} (hx : PE X x (tVar i)) (hbase : attributeBase x "pop" X.env (eval x X.env) = eval x X.env := by rfl) (hline : (apos.endLine == cpos.line) = true := by rfl) :
    DE X b (.Call (.Attribute x "pop" apos) [] [] cpos) (ePop i) := by
  refine PE.imp (pe_bm0 PySem.F.plainAttrs_list PySem.F.slot_list_pop PySem.F.type_list_pop mt_pop hx hbase hline) fun σ H Q ⟨lb, ρ, s, o, p⟩ => ?_
  unfold ePop at p
  cases q : ρ[i]? with
  | none => rw [q] at p; exact False.elim p
  | some z =>
    cases z with
    | ow d =>
      cases d with
      | lst l =>
        simp only [q] at p
        obtain ⟨a, vs, e1, l1, h1, z1, rl⟩ := ow_lst o q
        cases ql : l.getLast? with
        | none => rw [ql] at p; exact False.elim p
        | some dl =>
          rw [ql] at p
          have hl : l[l.length - 1]? = some dl := by rw [← List.getLast?_eq_getElem?]; exact ql
          obtain ⟨v, e2, rv⟩ := rl.get hl
          refine ⟨.ref a, e1, .inl ⟨rfl, vs, .of h1⟩, a, vs, v, rfl, rfl, h1, by rw [← rl.length]; exact e2, ?_⟩
          have ed : RepL b.cn lb H l.dropLast vs.dropLast := by
            rw [List.dropLast_eq_take, List.dropLast_eq_take, ← rl.length]
            exact rl.take _
          obtain ⟨o3, st3⟩ := o.change q e1 h1 (d' := .lst l.dropLast) (o' := .lst vs.dropLast) ⟨_, rfl, by rw [List.length_dropLast]; omega, ed⟩
          exact KV.now (show KV b.cn lb (L2.upd H a (.lst vs.dropLast)) dl Q from p lb _ st3 o3) (rv.stp st3)
      | _ => simp only [q] at p; exact False.elim p
    | _ => simp only [q] at p; exact False.elim p
end
end Pk
/-! Br11: two names at once; the town; what a loop walks; a def. -/
namespace Pk
open PySem PySem.Spec PyProof.Rows L2
section
variable {X : Cx} {b : Bd} {n : Nat}
/-- slot i gets a value, or a new thing that stands at its place already -/
theorem BOk.put {cn : Cn} {lb0 lb : Lb} {H0 H : Hp} {ρ : Env} {s : Sto} {σ : L2.St} {p : Addr} {d : D} {o : HO} (i : Nat) (k : BOk cn lb0 H0 lb ρ s σ (hid H p)) (hi : i < σ.length) (hp : H p = some o) (w : OwnO cn lb (hid H p) d o) :
    ∃ lb', BOk cn lb0 H0 lb' (ρ.set i (.ow d)) s (σ.set i (some (.ref p))) H ∧ Stp lb (hid H p) lb' H := by
  obtain ⟨k2, st⟩ := k.setOw i (by rw [k.len]; exact hi) hid_same w
  rw [upd_hid hp] at k2 st
  exact ⟨_, k2, st⟩
theorem Ext.hid {H H' : Hp} {p : Addr} (h : Ext H H') (np : H p = none) : Ext H (hid H' p) := fun a o e => by
  rw [hid_ne (by rintro rfl; rw [np] at e; cases e)]
  exact h a o e
theorem Ext.hid2 {H H' : Hp} {p : Addr} (h : Ext H H') : Ext (Pk.hid H p) (Pk.hid H' p) := fun a o e => by
  by_cases ha : a = p
  · rw [ha, hid_same] at e; cases e
  · rw [hid_ne ha] at e ⊢
    exact h a o e
theorem par_run {f1 f2 : Bool} {i j : Nat} {m1 m2 : M D} {D : Ends} {σ : L2.St} {H : Hp} (hij : i ≠ j) (hi : i < σ.length) (hj : j < σ.length) (h : tS b (sPar f1 f2 i j m1 m2) D σ H) :
    tCons (tK f1 b m1) (tCons (tK f2 b m2) tNil) σ H fun vs H1 => ∃ v w, vs = [v, w] ∧ ∀ H3, Ext H1 H3 → D.nx ((σ.set i (some v)).set j (some w)) H3 := by
  obtain ⟨lb, ρ, s, o, h⟩ := h
  have h : SPost b D lb H ((m1 ρ s).bind fun d r s => (m2 r s).bind fun e r s => .ok .nx ((r.set i (if f1 then .ow d else .sh d)).set j (if f2 then .ow e else .sh e)) s) := h
  refine ⟨lb, ρ, s, o, ?_⟩
  cases e1 : m1 ρ s with
  | bad => rw [e1] at h; exact False.elim h
  | exc x r1 s1 => rw [e1] at h; exact fun lb' H' c d st o z => h lb' σ H' c d st o z
  | ok d1 ρ1 s1 =>
    rw [e1, R.bind_ok] at h
    intro lb1 H1 st1 o1
    have hj2 : ∀ v : Option V, j < (σ.set i v).length := fun v => by rw [List.length_set]; exact hj
    cases f1 with
    | false =>
      intro v1 H1' ex1 r1
      have o1' := o1.ext ex1
      have st1' := st1.trans (o1.stp_ext ex1)
      refine ⟨lb1, ρ1, s1, o1', ?_⟩
      cases e2 : m2 ρ1 s1 with
      | bad => rw [e2] at h; exact False.elim h
      | exc x r1 s1 => rw [e2] at h; exact fun lb' H' c d st o z => h lb' σ H' c d (st1'.trans st) o z
      | ok d2 ρ2 s2 =>
        rw [e2, R.bind_ok] at h
        intro lb2 H2 st2 o2
        cases f2 with
        | false =>
          intro v2 H2' ex2 r2
          refine ⟨v1, v2, rfl, fun H3 ex3 => ?_⟩
          have exs := ex2.trans ex3
          have o3 := o2.ext exs
          have st3 := o2.stp_ext exs
          have ra : Rep b.cn lb2 H3 d1 v1 := r1.stp (st2.trans st3)
          have rb : Rep b.cn lb2 H3 d2 v2 := r2.stp ((o2.ext ex2).stp_ext ex3)
          have o4 := o3.setSh i ra
          have o5 := o4.setSh j (rb.stp (.unl _ _ i))
          exact h _ _ _ ((st1'.trans (st2.trans st3)).trans ((Stp.unl _ _ i).trans (.unl _ _ j))) o5
        | true =>
          intro p2 ob2 np2 w2
          refine ⟨v1, .ref p2, rfl, fun H3 ex3 => ?_⟩
          have hp2 : H3 p2 = some ob2 := ex3 _ _ upd_same
          have exG : Ext H2 (hid H3 p2) := ((Ext.upd np2).trans ex3).hid np2
          have o3 := o2.ext exG
          have st3 := o2.stp_ext exG
          have ra : Rep b.cn lb2 (hid H3 p2) d1 v1 := r1.stp (st2.trans st3)
          have o4 := o3.setSh i ra
          obtain ⟨lb5, o5, st5⟩ := BOk.put j o4 (hj2 _) hp2 ((w2.stp st3).stp (.unl _ _ i))
          exact h _ _ _ ((st1'.trans (st2.trans st3)).trans ((Stp.unl _ _ i).trans st5)) o5
    | true =>
      intro p1 ob1 np1 w1
      obtain ⟨oS, stS⟩ := o1.side ob1 np1 w1.nt
      have st1' := st1.trans stS
      refine ⟨_, ρ1, s1, oS, ?_⟩
      have h0 : b.H0 p1 = none := by
        cases z : b.H0 p1 with
        | none => rfl
        | some u => exact absurd np1 (o1.since.dom p1 (by rw [z]; simp))
      have n0 : b.lb0 p1 ≠ some .out := fun z => by
        obtain ⟨u, w, _⟩ := o1.has p1 _ (o1.since.out p1 z).1
        rw [np1] at w; cases w
      cases e2 : m2 ρ1 s1 with
      | bad => rw [e2] at h; exact False.elim h
      | exc x r1 s1 => rw [e2] at h; exact fun lb' H' c d st o z => h lb' σ H' c d (st1'.trans st) o z
      | ok d2 ρ2 s2 =>
        rw [e2, R.bind_ok] at h
        intro lb2 H2 st2 o2
        obtain ⟨lp, hp⟩ := st2.out p1 mrk_same
        rw [upd_same] at hp
        have oG := o2.gone lp n0 h0
        have wG : OwnO b.cn (unm lb2 p1) (hid H2 p1) d1 ob1 := (w1.stp (stS.trans st2)).stq (.gone lp)
        have stG : Stp lb1 H1 (unm lb2 p1) (hid H2 p1) := (stS.trans st2).goneNew np1 o1.has lp
        cases f2 with
        | false =>
          intro v2 H2' ex2 r2
          refine ⟨.ref p1, v2, rfl, fun H3 ex3 => ?_⟩
          have exs := ex2.trans ex3
          have hp3 : H3 p1 = some ob1 := exs _ _ hp
          have exG : Ext (hid H2 p1) (hid H3 p1) := exs.hid2
          obtain ⟨lb4, o4, st4⟩ := BOk.put i (oG.ext exG) hi hp3 (wG.stp (oG.stp_ext exG))
          have rb : Rep b.cn lb2 H3 d2 v2 := r2.stp ((o2.ext ex2).stp_ext ex3)
          have rc : Rep b.cn lb4 H3 d2 v2 := rb.stq ((Stq.gone lp).trans st4.q)
          have o5 := o4.setSh j rc
          exact h _ _ _ ((st1.trans (stG.trans ((oG.stp_ext exG).trans st4))).trans (.unl _ _ j)) o5
        | true =>
          intro p2 ob2 np2 w2
          refine ⟨.ref p1, .ref p2, rfl, fun H3 ex3 => ?_⟩
          have hp2 : H3 p2 = some ob2 := ex3 _ _ upd_same
          have ex23 : Ext H2 (hid H3 p2) := ((Ext.upd np2).trans ex3).hid np2
          have hp3 : hid H3 p2 p1 = some ob1 := ex23 _ _ hp
          have exG : Ext (hid H2 p1) (hid (hid H3 p2) p1) := ex23.hid2
          obtain ⟨lb4, o4, st4⟩ := BOk.put i (oG.ext exG) hi hp3 (wG.stp (oG.stp_ext exG))
          have wc : OwnO b.cn lb4 (hid H3 p2) d2 ob2 := (w2.stq (.of_ext ex23)).stq ((Stq.gone lp).trans st4.q)
          obtain ⟨lb5, o5, st5⟩ := BOk.put j o4 (hj2 _) hp2 wc
          exact h _ _ _ ((st1.trans (stG.trans ((oG.stp_ext exG).trans st4))).trans st5) o5
theorem tK_mono {f : Bool} {m : M D} {σ : L2.St} {H : Hp} {Q Q' : VK} (h : tK f b m σ H Q) (hq : ∀ v H, Q v H → Q' v H) : tK f b m σ H Q' := by
  obtain ⟨lb, ρ, s, o, p⟩ := h
  refine ⟨lb, ρ, s, o, p.mono fun d ρ s lb' H' _ _ k => ?_⟩
  cases f with
  | true => exact fun p o np w => hq _ _ (k p o np w)
  | false => exact fun v H2 ex r => hq _ _ (k v H2 ex r)
theorem tA2_mono {f1 f2 : Bool} {m1 m2 : M D} {σ : L2.St} {H : Hp} {Q Q' : List V → Hp → Prop} (h : tCons (tK f1 b m1) (tCons (tK f2 b m2) tNil) σ H Q) (hq : ∀ v w H, Q [v, w] H → Q' [v, w] H) : tCons (tK f1 b m1) (tCons (tK f2 b m2) tNil) σ H Q' :=
  tK_mono h fun v H1 z2 => tK_mono z2 fun w H2 k => hq v w H2 k
/-- x, y = a, c: two plain local names -/
theorem ds_par {f1 f2 : Bool} {i j : Nat} {x y : Str} {ea ec : Expr} {m1 m2 : M D} {px py pt pos pt2 : Pos} {kt k2 : Nat} (g : Gd n X b) (hi : X.N[i]? = some x) (hj : X.N[j]? = some y) (hij : i ≠ j)
    (hx : X.env.scope.names.lookup x = some .local) (hy : X.env.scope.names.lookup y = some .local) (ha : PE X ea (tK f1 b m1)) (hc : PE X ec (tK f2 b m2))
    (hw : swappedStores [.Tuple [.Name x px, .Name y py] kt pt] (.Tuple [ea, ec] k2 pt2) X.env = pure (some [x, y]))
    (hs : swapsWithSole [.Tuple [.Name x px, .Name y py] kt pt] (.Tuple [ea, ec] k2 pt2) pos.line X.env = pure false := by rfl)
    (h1 : starEach [ea, ec] X.env = (false, eval ea X.env) :: starEach [ec] X.env := by rfl) (h2 : starEach [ec] X.env = (false, eval ec X.env) :: starEach [] X.env := by rfl) :
    DS X b (.Assign [.Tuple [.Name x px, .Name y py] kt pt] (.Tuple [ea, ec] k2 pt2) pos) (sPar f1 f2 i j m1 m2) := by
  refine ⟨fun pins s σ H D I q => (ps_par g.calm g.nd hi hj hij hx hy (pa_cons ha (pa_cons hc pa_nil h2) h1) hw hs).run pins s σ H D I ?_⟩
  have li : i < σ.length := by rw [I.len]; exact (List.getElem?_eq_some_iff.mp hi).1
  have lj : j < σ.length := by rw [I.len]; exact (List.getElem?_eq_some_iff.mp hj).1
  exact tA2_mono (par_run hij li lj q) fun v w H1 ⟨v', w', e, k⟩ => ⟨v', w', e, k H1 .refl⟩
end
end Pk
/-! Br12: several names at once, the town, what a loop walks, a def. -/
namespace Pk
open PySem PySem.Spec PyProof.Rows L2
section
variable {X : Cx} {b : Bd} {n : Nat}
/-- x, y = a, c by a tuple (a name that a comprehension reads) -/
theorem ds_parC {f1 f2 : Bool} {i j : Nat} {x y : Str} {ea ec : Expr} {m1 m2 : M D} {px py pt pos pt2 : Pos} {kt k2 : Nat} (g : Gd n X b) (hi : X.N[i]? = some x) (hj : X.N[j]? = some y) (hij : i ≠ j)
    (hx : Loc X.env.scope x) (hy : Loc X.env.scope y) (ha : PE X ea (tK f1 b m1)) (hc : PE X ec (tK f2 b m2))
    (hw : swappedStores [.Tuple [.Name x px, .Name y py] kt pt] (.Tuple [ea, ec] k2 pt2) X.env = pure none := by rfl)
    (hs : swapsWithSole [.Tuple [.Name x px, .Name y py] kt pt] (.Tuple [ea, ec] k2 pt2) pos.line X.env = pure false := by rfl)
    (h1 : starEach [ea, ec] X.env = (false, eval ea X.env) :: starEach [ec] X.env := by rfl) (h2 : starEach [ec] X.env = (false, eval ec X.env) :: starEach [] X.env := by rfl)
    (h3 : (assignEach [.Tuple [.Name x px, .Name y py] kt pt] X.env).map (·.2) = [assign (.Tuple [.Name x px, .Name y py] kt pt) X.env] := by rfl)
    (hn : (assignEach [.Name x px, .Name y py] X.env).length = 2 := by rfl) (hst : (assignEach [.Name x px, .Name y py] X.env).findIdx? (·.1) = none := by rfl)
    (hf : X.fn x = true ∨ X.env.scope.names.lookup x = some .local := by first | exact .inl rfl | exact .inr rfl | assumption) (hf2 : X.fn y = true ∨ X.env.scope.names.lookup y = some .local := by first | exact .inl rfl | exact .inr rfl | assumption)
    (h4 : (assignEach [.Name x px, .Name y py] X.env).map (·.2) = assign (.Name x px) X.env :: (assignEach [.Name y py] X.env).map (·.2) := by rfl) (h5 : (assignEach [.Name y py] X.env).map (·.2) = assign (.Name y py) X.env :: (assignEach [] X.env).map (·.2) := by rfl) :
    DS X b (.Assign [.Tuple [.Name x px, .Name y py] kt pt] (.Tuple [ea, ec] k2 pt2) pos) (sPar f1 f2 i j m1 m2) := by
  refine ⟨fun pins s σ H D I q => (ps_asg (pe_tup (pa_cons ha (pa_cons hc pa_nil h2) h1)) (pg_tup g.calm (pgs_cons (pg_name g.nd hi hx hf) (pgs_cons (pg_name g.nd hj hy hf2) pgs_nil h5) h4) hn hst) hs hw h3).run pins s σ H D I ?_⟩
  have li : i < σ.length := by rw [I.len]; exact (List.getElem?_eq_some_iff.mp hi).1
  have lj : j < σ.length := by rw [I.len]; exact (List.getElem?_eq_some_iff.mp hj).1
  show tCons (tK f1 b m1) (tCons (tK f2 b m2) tNil) σ H fun xs H1 => xs.length ≤ sizeLine ∧ ∀ p, H1 p = none → gTup X.K 2 (gCons (gName i) (gCons (gName j) gNil)) (.ref p) σ (L2.upd H1 p (.tup xs)) D.nx
  refine tA2_mono (par_run hij li lj q) fun v w H1 ⟨v', w', e, k⟩ => ?_
  cases e
  refine ⟨by show 2 ≤ sizeLine; decide, fun p np => ⟨p, [v, w], rfl, .of upd_same, rfl, v, [w], rfl, w, [], rfl, rfl, k _ (Ext.upd np)⟩⟩
/-- x, y = e -/
theorem ds_asg {tg e : Expr} {gt : Tg} {m : M D} {pos : Pos} (hg : DG X b tg gt) (h : DE X b e m) (hs : swapsWithSole [tg] e pos.line X.env = pure false := by rfl) (hw : swappedStores [tg] e X.env = pure none := by rfl)
    (h1 : (assignEach [tg] X.env).map (·.2) = [assign tg X.env] := by rfl) : DS X b (.Assign [tg] e pos) (sAsg gt m) := PS.imp (ps_asg h hg hs hw h1) fun D σ H ⟨lb, ρ, s, o, h⟩ => by
  have h : SPost b D lb H ((m ρ s).bind fun d r s => (opt (setT r gt d) r s).bind fun r1 r s => .ok .nx r1 s) := h
  refine ⟨lb, ρ, s, o, (SPost.bind (D := D) h).mono fun d ρ1 s1 lb1 H1 st o1 q => fun v H2 ex r => ?_⟩
  cases e : setT ρ1 gt d with
  | none => rw [e] at q; exact False.elim q
  | some ρ2 =>
    rw [e] at q
    exact ⟨lb1, ρ1, s1, d, ρ2, o1.ext ex, r, e, fun lb' σ' st' o' _ => q lb' σ' H2 ((o1.stp_ext ex).trans st') o'⟩
/-! ### the town -/
theorem BOk.town0 {cn : Cn} {lb0 lb : Lb} {H0 H : Hp} {ρ : Env} {s : Sto} {σ : L2.St} {p : Addr} (o : BOk cn lb0 H0 lb ρ s σ H) (i : Nat) (np : H p = none) (ht : s.t = none) :
    ∃ lb', Stp lb H lb' (L2.upd H p (.lst [])) ∧ BOk cn lb0 H0 lb' (ρ.set i (.sh .town)) { s with t := some 0 } (σ.set i (some (.ref p))) (L2.upd H p (.lst [])) := by
  have lp : lb p = none := Has.none o.has np
  have ne : ∀ a l, lb a = some l → a ≠ p := fun a l e z => by rw [z, lp] at e; cases e
  have st : Stp lb H (mrk lb p .town) (L2.upd H p (.lst [])) :=
    { keep := fun a o e n => Ext.upd np a o e
      out := fun a e => ⟨by rw [mrk_ne (ne a _ e)]; exact e, by rw [upd_ne (ne a _ e)]⟩
      new := fun a h => by
        by_cases ha : a = p
        · rw [ha]; exact .inr np
        · rw [mrk_ne ha] at h; exact .inl h
      sto := fun a l e z => by rw [mrk_ne (ne a l e)]; exact e
      dom := fun a e => by
        cases q : H a with
        | none => exact absurd q e
        | some u => rw [Ext.upd np a u q]; simp }
  have back : ∀ a l, mrk lb p .town a = some l → l ≠ .town → lb a = some l ∧ a ≠ p := fun a l e z => by
    by_cases ha : a = p
    · rw [ha, mrk_same] at e
      exact absurd (Option.some.inj e).symm z
    · rw [mrk_ne ha] at e
      exact ⟨e, ha⟩
  have notown : ∀ a, lb a ≠ some .town := fun a e => by
    obtain ⟨m, em, _⟩ := o.sto.town a e
    rw [ht] at em; cases em
  have only : ∀ a, mrk lb p .town a = some .town → a = p := fun a e => by
    refine Classical.byContradiction fun ha => ?_
    rw [mrk_ne ha] at e
    exact notown a e
  have sto : StoOk cn (mrk lb p .town) { s with t := some 0 } (L2.upd H p (.lst [])) :=
    { town := fun a e => by
        rw [only a e]
        exact ⟨0, rfl, upd_same, Nat.zero_le _⟩
      objs := fun m fs e => by
        obtain ⟨a, dx, fv, l1, l2, h1, h2, w⟩ := o.sto.objs m fs e
        exact ⟨a, dx, fv, st.sto a _ l1 rfl, st.sto dx _ l2 rfl, by rw [upd_ne (ne a _ l1)]; exact h1, by rw [upd_ne (ne dx _ l2)]; exact h2, FldOk.stp st.q (fun a l e _ => by rw [upd_ne (ne a l e)]) w⟩
      uniq := fun a c l h1 h2 z => by
        by_cases hl : l = .town
        · subst hl
          rw [only a h1, only c h2]
        · exact o.sto.uniq a c l (back a l h1 hl).1 (back c l h2 hl).1 z
      dom := fun a m f e => o.sto.dom a m f (e.imp (fun e => (back a _ e (by intro z; cases z)).1) (Or.imp (fun e => (back a _ e (by intro z; cases z)).1) (fun e => (back a _ e (by intro z; cases z)).1)))
      tabs := fun n q e => by
        obtain ⟨h1, h2⟩ := o.sto.tabs n q e
        exact ⟨st.sto _ _ h1 rfl, h2.stq st.q (by rw [upd_ne (ne _ _ h1)])⟩
      flds := fun a m f e => o.sto.flds a m f (back a _ e (by intro z; cases z)).1
      nods := o.sto.nods }
  have o2 : BOk cn lb0 H0 (mrk lb p .town) ρ { s with t := some 0 } σ (L2.upd H p (.lst [])) := by
    refine ⟨o.since.trans st, sto, fun a l e => ?_, o.len, fun j e h => ?_, fun j e h => ?_, fun j R h => ?_⟩
    · by_cases ha : a = p
      · exact ⟨_, by rw [ha, upd_same], by exact trivial⟩
      · rw [mrk_ne ha] at e
        obtain ⟨u, q, t⟩ := o.has a l e
        exact ⟨u, by rw [upd_ne ha]; exact q, t⟩
    · obtain ⟨u, e1, q⟩ := o.sh j e h
      exact ⟨u, e1, q.stp st⟩
    · obtain ⟨a, o', e1, l, q, w⟩ := o.ow j e h
      exact ⟨a, o', e1, by rw [mrk_ne (ne a _ l)]; exact l, by rw [upd_ne (ne a _ l)]; exact q, w.stp st⟩
    · obtain ⟨a, e1, w⟩ := o.mt j R h
      exact ⟨a, e1, w.keep st.q fun x hx => ⟨by rw [mrk_ne (ne x _ hx)]; exact hx, by rw [upd_ne (ne x _ hx)]⟩⟩
  have r : Rep cn (mrk lb p .town) (L2.upd H p (.lst [])) .town (.ref p) := by simp only [Rep]; exact ⟨p, rfl, mrk_same⟩
  exact ⟨_, st.trans (.unl _ _ i), o2.setSh i r⟩
/-- town = [] -/
theorem ds_town0 {i : Nat} {x : Str} {p2 pos pos' : Pos} (g : Gd n X b) (hi : X.N[i]? = some x) (hx : Loc X.env.scope x) (hs : swapsWith (.List [] p2) (some (.Name x pos')) pos.line X.env = pure false := by rfl)
    (hf : X.fn x = true ∨ X.env.scope.names.lookup x = some .local := by first | exact .inl rfl | exact .inr rfl | assumption) : DS X b (.Assign [.Name x pos'] (.List [] p2) pos) (sTown0 i) := PS.imp (ps_set g.nd hi hx (pe_lst pa_nil) hs hf) fun D σ H ⟨lb, ρ, s, o, h⟩ => by
  have h : SPost b D lb H (sTown0 i ρ s) := h
  unfold sTown0 at h
  cases e : s.t with
  | some m => rw [e] at h; exact False.elim h
  | none =>
    rw [e] at h
    refine ⟨Nat.zero_le _, fun p np => ?_⟩
    obtain ⟨lb', st, o'⟩ := o.town0 i np e
    exact h lb' _ _ st o'
theorem BOk.townUp {cn : Cn} {lb0 lb : Lb} {H0 H : Hp} {ρ : Env} {s : Sto} {σ : L2.St} {p : Addr} {m : Nat} (o : BOk cn lb0 H0 lb ρ s σ H) (lp : lb p = some .town) (ht : s.t = some m) (hm : m < SZ) :
    BOk cn lb0 H0 lb ρ { s with t := some (m + 1) } σ (L2.upd H p (.lst (List.replicate m (.int 0) ++ [.int 0]))) ∧ Stp lb H lb (L2.upd H p (.lst (List.replicate m (.int 0) ++ [.int 0]))) := by
  have ne : ∀ x l', lb x = some l' → l' ≠ .town → x ≠ p := fun x l' e n z => by rw [z, lp] at e; exact n (Option.some.inj e).symm
  have st : Stp lb H lb (L2.upd H p (.lst (List.replicate m (.int 0) ++ [.int 0]))) :=
    { keep := fun x u h n => by rw [upd_ne (by rintro rfl; rw [lp] at n; cases n)]; exact h
      out := fun x h => ⟨h, by rw [upd_ne (ne x _ h (by intro z; cases z))]⟩
      new := fun _ h => .inl h
      sto := fun _ _ h _ => h
      dom := fun x h => by
        by_cases hx : x = p
        · rw [hx, upd_same]; simp
        · rw [upd_ne hx]; exact h }
  have sto : StoOk cn lb { s with t := some (m + 1) } (L2.upd H p (.lst (List.replicate m (.int 0) ++ [.int 0]))) :=
    { town := fun a e => by
        rw [o.sto.uniq a p _ e lp rfl]
        exact ⟨m + 1, rfl, by rw [upd_same, List.replicate_succ'], hm⟩
      objs := fun k fs e => by
        obtain ⟨a, dx, fv, l1, l2, h1, h2, w⟩ := o.sto.objs k fs e
        refine ⟨a, dx, fv, l1, l2, by rw [upd_ne (ne a _ l1 (by intro z; cases z))]; exact h1, by rw [upd_ne (ne dx _ l2 (by intro z; cases z))]; exact h2, ?_⟩
        have fl : ∀ {fs : List (Str × Pk.D)} {fv : List (Str × V)}, FldOk cn lb H k fs fv → FldOk cn lb (L2.upd H p (.lst (List.replicate m (.int 0) ++ [.int 0]))) k fs fv := by
          intro fs
          induction fs with
          | nil => intro fv h; exact h
          | cons q fs ih =>
            intro fv h
            obtain ⟨f, d⟩ := q
            obtain ⟨v, r, e, h1, h2⟩ := h
            refine ⟨v, r, e, ?_, ih h2⟩
            unfold FOk at h1 ⊢
            cases d with
            | lst l =>
              obtain ⟨q, u, e, lq, hq, w⟩ := h1
              exact ⟨q, u, e, lq, by rw [upd_ne (ne q _ lq (by intro z; cases z))]; exact hq, w.stp st⟩
            | _ => exact Rep.stp st h1
        exact fl w
      uniq := o.sto.uniq
      dom := o.sto.dom
      tabs := fun n q e => by
        obtain ⟨h1, h2⟩ := o.sto.tabs n q e
        exact ⟨h1, h2.stq st.q (by rw [upd_ne (ne _ _ h1 (by intro z; cases z))])⟩
      flds := o.sto.flds
      nods := o.sto.nods }
  refine ⟨⟨o.since.trans st, sto, fun x l' e => ?_, o.len, fun j u h => ?_, fun j u h => ?_, fun j R h => ?_⟩, st⟩
  · by_cases hx : x = p
    · exact ⟨_, by rw [hx, upd_same], by exact trivial⟩
    · obtain ⟨u, q, t⟩ := o.has x l' e
      exact ⟨u, by rw [upd_ne hx]; exact q, t⟩
  · obtain ⟨u, e1, q⟩ := o.sh j u h
    exact ⟨u, e1, q.stp st⟩
  · obtain ⟨x, u, e1, l', q, w⟩ := o.ow j u h
    exact ⟨x, u, e1, l', by rw [upd_ne (ne x _ l' (by intro z; cases z))]; exact q, w.stp st⟩
  · obtain ⟨x, e1, w⟩ := o.mt j R h
    exact ⟨x, e1, w.keep st.q fun y hy => ⟨hy, by rw [upd_ne (ne y _ hy (by intro z; cases z))]⟩⟩
/-- town.append(0) -/
theorem ds_town {x : Expr} {i j : Nat} {p2 apos cpos pos : Pos} (hx : PE X x (tVar i)) (hbase : attributeBase x "append" X.env (eval x X.env) = eval x X.env := by rfl)
    (hfew : ((backTo cpos (starEach [.Constant (.int 0) j p2] X.env)).all (fun x => !x.1) && (backToKw cpos (keywordEach [] X.env)).all (fun x => x.1.isSome) && decide ([Expr.Constant (.int 0) j p2].length + ([] : List Keyword).length + (if ([] : List Keyword).isEmpty then 0 else 1) < 30)) = true := by rfl)
    (hline : (apos.endLine == cpos.line) = true := by rfl) (hsw : swapsWith (.Call (.Attribute x "append" apos) [.Constant (.int 0) j p2] [] cpos) none pos.line X.env = pure false := by rfl) :
    DS X b (.Expr (.Call (.Attribute x "append" apos) [.Constant (.int 0) j p2] [] cpos) pos) (sTown i) := by
  refine PS.imp (ps_expr (pe_bm PySem.F.plainAttrs_list PySem.F.slot_list_append PySem.F.type_list_append mt_append hx (pa_cons pe_int pa_nil) hbase hfew hline rfl rfl) hsw) fun D σ H ⟨lb, ρ, s, o, p⟩ => ?_
  have p : SPost b D lb H (sTown i ρ s) := p
  unfold sTown at p
  cases q : ρ[i]? with
  | none => rw [q] at p; exact False.elim p
  | some z =>
    cases z with
    | sh d =>
      cases d with
      | town =>
        simp only [q] at p
        cases e : s.t with
        | none => rw [e] at p; exact False.elim p
        | some m =>
          simp only [e] at p
          split at p
          · rename_i hz
            have hz := of_lim hz
            obtain ⟨v, e1, r⟩ := o.sh i _ q
            simp only [Rep] at r
            obtain ⟨a, rfl, la⟩ := r
            obtain ⟨m', em, ha, _⟩ := o.sto.town a la
            rw [e] at em
            cases em
            obtain ⟨o', st⟩ := o.townUp la e hz
            exact ⟨.ref a, e1, .inl ⟨rfl, _, .of ha⟩, a, _, .int 0, rfl, rfl, ha, by rw [List.length_replicate, ← SZ_eq]; exact hz, p lb σ _ st o'⟩
          · exact False.elim p
      | _ => simp only [q] at p; exact False.elim p
    | _ => simp only [q] at p; exact False.elim p
end
end Pk
/-! Br13: what a loop walks; a def. -/
namespace Pk
open PySem PySem.Spec PyProof.Rows L2
theorem PI.imp {X : Cx} {tg e : Expr} {t t' : TI} (h : PI X tg e t) (f : ∀ σ H R, t' σ H R → t σ H R) : PI X tg e t' := ⟨fun pins s σ H R I q => h.run pins s σ H R I (f σ H R q)⟩
section
variable {X : Cx} {b : Bd} {n : Nat} {tg : Expr}
/-- a list, a tuple, a text: by the value that comes -/
def iAny (K : PySem.W.Frag) (tl : TE) : TI := fun σ H R => tl σ H fun x H1 =>
  (∃ a, x = .ref a ∧ (∃ xs, SqL K H1 a xs) ∧ R (Itl K a) H1) ∨ (∃ a, x = .ref a ∧ (∃ xs, SqT K H1 a xs) ∧ R (Itt K a) H1) ∨ ∃ y, x = .str y ∧ R (Its y) H1
theorem pi_any {l : Expr} {tl : TE} (hl : PE X l tl) : PI X tg l (iAny X.K tl) := by
  refine ⟨fun pins s σ H R I h => thn (hl.run pins s σ H _ I h) fun v s1 z => ?_⟩
  obtain ⟨x, H1, I1, r1, q1⟩ := z
  have own : ∀ c : Addr, c ∈ [s1.heap.objs.size] → FpOk X pins H1 c := fun c hc => by
    rw [List.mem_singleton.mp hc]
    exact I1.fpOk (Nat.le_refl _) (I1.hok.fresh (Nat.le_refl _))
  rcases q1 with ⟨a, rfl, ⟨xs, hq⟩, q⟩ | ⟨a, rfl, ⟨xs, hq⟩, q⟩ | ⟨y, rfl, q⟩
  · cases r1
    obtain ⟨its, _, p, _⟩ := I1.list hq
    exact wpAny_pyIter_list p.isList ⟨_, _, _, _, H1, rfl, I1.kept (t' := s1.toks) fun c o e => Heap.get?_push_of_some _ e, turn_list a _, ⟨_, Heap.get?_push_size _ rfl, rfl, rfl⟩, own, q⟩
  · cases r1
    obtain ⟨its, _, p, _⟩ := I1.tuple hq
    exact wpAny_pyIter_tuple (show s1.heap.IsTuple a its.toArray from p) ⟨_, _, _, _, H1, rfl, I1.kept (t' := s1.toks) fun c o e => Heap.get?_push_of_some _ e, turn_tuple a _, ⟨_, Heap.get?_push_size _ rfl, rfl, rfl⟩, own, q⟩
  · obtain ⟨t, rfl⟩ := r1
    cases ha : y.cps.all (· < 128)
    · exact wpAny_pyIter_wide ha ⟨_, _, _, _, H1, rfl, I1.kept (t' := s1.toks) fun c o e => Heap.get?_push_of_some _ e, turn_str _ y t "str_iterator" (.inr rfl), ⟨_, Heap.get?_push_size _ rfl, rfl, rfl⟩, own, q⟩
    · exact wpAny_pyIter_ascii ha ⟨_, _, _, _, H1, rfl, I1.kept (t' := s1.toks) fun c o e => Heap.get?_push_of_some _ e, turn_str _ y t "str_ascii_iterator" (.inl rfl), ⟨_, Heap.get?_push_size _ rfl, rfl, rfl⟩, own, q⟩
theorem itOk_l {cn : Cn} {lb : Lb} {H : Hp} {K : PySem.W.Frag} {a : Addr} {l : List D} {vs : List V} (nl : NL lb H a vs) (r : RepL cn lb H l vs) : ItOk cn lb H l (Itl K a) := fun lb' H' s => by
  have nl' := nl.stq s
  have r' := r.stq s
  refine ⟨⟨vs, .of nl'.2, by rw [r.length]; exact Nat.le_refl _⟩, fun i d h => ?_⟩
  obtain ⟨v, e, rv⟩ := r'.get h
  refine ⟨⟨vs, v, .of nl'.2, e⟩, fun x H2 y => ?_⟩
  obtain ⟨rfl, y⟩ := y
  have := y vs (.of nl'.2)
  rw [e] at this
  cases this
  exact ⟨.refl, fun _ => rv⟩
theorem itOk_t {cn : Cn} {lb : Lb} {H : Hp} {K : PySem.W.Frag} {a : Addr} {l : List D} {vs : List V} (nl : NT lb H a vs) (r : RepL cn lb H l vs) : ItOk cn lb H l (Itt K a) := fun lb' H' s => by
  have nl' := nl.stq s
  have r' := r.stq s
  refine ⟨⟨vs, .of nl'.2, by rw [r.length]; exact Nat.le_refl _⟩, fun i d h => ?_⟩
  obtain ⟨v, e, rv⟩ := r'.get h
  refine ⟨⟨vs, v, .of nl'.2, e⟩, fun x H2 y => ?_⟩
  obtain ⟨rfl, y⟩ := y
  have := y vs (.of nl'.2)
  rw [e] at this
  cases this
  exact ⟨.refl, fun _ => rv⟩
theorem itOk_s {cn : Cn} {lb : Lb} {H : Hp} (x : Str) : ItOk cn lb H (x.cps.toList.map fun c => .str ⟨#[c]⟩) (Its x) := fun lb' H' s => by
  refine ⟨by show x.cps.size ≤ _; rw [List.length_map]; exact Nat.le_refl _, fun i d h => ?_⟩
  rw [List.getElem?_map] at h
  cases e : x.cps.toList[i]? with
  | none => rw [e] at h; cases h
  | some c =>
    rw [e] at h
    cases h
    have hi : i < x.cps.size := (List.getElem?_eq_some_iff.mp e).1
    refine ⟨hi, fun y H2 z => ?_⟩
    obtain ⟨rfl, c', e2, rfl⟩ := z
    have : c' = c := by
      rw [Array.getElem?_toList] at e
      rw [e] at e2
      exact (Option.some.inj e2).symm
    subst this
    exact ⟨.refl, fun _ => by simp only [Rep]⟩
theorem di_any {l : Expr} {m : M D} (g : Gd n X b) (h : DE X b l m) : DI X b tg l (iOf m) := by
  refine PI.imp (pi_any h) fun σ H R ⟨lb, ρ, s, o, h⟩ => ⟨lb, ρ, s, o, (Post.bind h).mono fun d ρ1 s1 lb1 H1 st o1 q => fun v H2 ex r => ?_⟩
  have o2 := o1.ext ex
  obtain ⟨ds, e1, k⟩ := opt_post o2 (Post.from q (o1.stp_ext ex))
  cases d with
  | lst l =>
    cases e1
    simp only [Rep] at r
    obtain ⟨a, vs, rfl, nl, z, rl⟩ := r
    exact .inl ⟨a, rfl, ⟨vs, .of nl.2⟩, k z _ H2 .refl (itOk_l nl rl)⟩
  | tup l =>
    cases e1
    simp only [Rep] at r
    obtain ⟨a, vs, rfl, nl, z, rl⟩ := r
    exact .inr (.inl ⟨a, rfl, ⟨vs, .of nl.2⟩, k z _ H2 .refl (itOk_t nl rl)⟩)
  | str y =>
    simp only [itemsOf] at e1
    split at e1
    · rename_i hz
      cases e1
      simp only [Rep] at r
      subst r
      exact .inr (.inr ⟨y, rfl, k (by simpa using of_lim hz) _ H2 .refl (itOk_s y)⟩)
    · cases e1
  | _ => cases e1
theorem itOk_r {cn : Cn} {lb : Lb} {H : Hp} (lo : Int) (m : Nat) : ItOk cn lb H (upto lo m) (Itr lo m) := fun lb' H' s => by
  unfold upto
  refine ⟨by show m ≤ _; rw [List.length_map, List.length_range]; exact Nat.le_refl _, fun i d h => ?_⟩
  rw [List.getElem?_map] at h
  cases e : (List.range m)[i]? with
  | none => rw [e] at h; cases h
  | some c =>
    rw [e] at h
    cases h
    obtain ⟨hi, e2⟩ := List.getElem?_eq_some_iff.mp e
    rw [List.length_range] at hi
    rw [List.getElem_range] at e2
    subst e2
    refine ⟨hi, fun y H2 z => ?_⟩
    obtain ⟨rfl, rfl⟩ := z
    exact ⟨.refl, fun _ => by simp only [Rep]⟩
theorem di_range1 {e : Expr} {m : M D} {p pos : Pos} (hg : Gl X "range") (hm : X.mg "range" = none) (h : DE X b e m) (hs : starEach [e] X.env = [(false, eval e X.env)] := by rfl) : DI X b tg (.Call (.Name "range" p) [e] [] pos) (iRange1 m) := by
  refine PI.imp (pi_range1 hg hm (pa_cons h pa_nil hs) hs) fun σ H R ⟨lb, ρ, s, o, h⟩ => ⟨lb, ρ, s, o, (Post.bind h).mono fun d ρ1 s1 lb1 H1 st o1 q => fun v H2 ex r => ?_⟩
  have o2 := o1.ext ex
  have q := Post.from q (o1.stp_ext ex)
  cases d with
  | int j =>
    simp only [Rep] at r
    subst r
    simp only at q
    split at q
    · rename_i hj
      simp only [small, Bool.and_eq_true, lim_iff] at hj
      refine ⟨j, rfl, hj.1.1, hj.1.2, q lb1 H2 .refl o2 ?_ _ H2 .refl (itOk_r 0 j.toNat)⟩
      simp only [upto, List.length_map, List.length_range]
      omega
    · exact False.elim q
  | _ => exact False.elim q
theorem tup2_new {cn : Cn} {lb : Lb} {H : Hp} {T : Addr} {d e : D} {x y : V} (hs : Has lb H) (nT : H T = none) (r1 : Rep cn lb H d x) (r2 : Rep cn lb H e y) : Rep cn lb (L2.upd H T (.tup [x, y])) (.tup [d, e]) (.ref T) := by
  have st : Stq lb H lb (L2.upd H T (.tup [x, y])) := .of_ext (Ext.upd nT)
  simp only [Rep]
  exact ⟨T, [x, y], rfl, ⟨hs.none nT, upd_same⟩, by show 2 ≤ SZ; decide, .cons (r1.stq st) (.one (r2.stq st))⟩
theorem itOk_e {cn : Cn} {lb : Lb} {H : Hp} {K : PySem.W.Frag} {a : Addr} {l : List D} {vs : List V} (nl : NL lb H a vs) (r : RepL cn lb H l vs) : ItOk cn lb H (numbered l) (Ite K a) := fun lb' H' s => by
  have nl' := nl.stq s
  have r' := r.stq s
  refine ⟨⟨vs, .of nl'.2, by rw [← r.length]; simp [numbered]⟩, fun i d h => ?_⟩
  simp only [numbered, List.getElem?_map] at h
  cases e : (List.range l.length)[i]? with
  | none => rw [e] at h; cases h
  | some c =>
    rw [e] at h
    obtain ⟨hi, e2⟩ := List.getElem?_eq_some_iff.mp e
    rw [List.length_range] at hi
    rw [List.getElem_range] at e2
    subst e2
    have hd : l[i]? = some l[i] := List.getElem?_eq_getElem hi
    obtain ⟨v, ev, rv⟩ := r'.get hd
    have h : D.tup [.int (i : Int), l.getD i .none] = d := Option.some.inj h
    rw [List.getD_eq_getElem?_getD, hd] at h
    subst h
    refine ⟨⟨vs, v, .of nl'.2, ev⟩, fun x H2 y => ?_⟩
    obtain ⟨T, x', rfl, nT, rfl, y⟩ := y
    have := y vs (.of nl'.2)
    rw [ev] at this
    cases this
    exact ⟨Ext.upd nT, fun hs => tup2_new hs nT (by simp only [Rep]) rv⟩
theorem di_enumL {e : Expr} {m : M D} {elts : List Expr} {kk : Nat} {p pos tpos : Pos} (hg : Gl X "enumerate") (hm : X.mg "enumerate" = none) (h : DE X b e m) (hs : starEach [e] X.env = [(false, eval e X.env)] := by rfl) :
    DI X b (.Tuple elts kk tpos) (.Call (.Name "enumerate" p) [e] [] pos) (iEnumL m) := by
  refine PI.imp (pi_enum hg hm (pa_cons h pa_nil hs) hs) fun σ H R ⟨lb, ρ, s, o, h⟩ => ⟨lb, ρ, s, o, (Post.bind h).mono fun d ρ1 s1 lb1 H1 st o1 q => fun v H2 ex r => ?_⟩
  have o2 := o1.ext ex
  have q := Post.from q (o1.stp_ext ex)
  cases d with
  | lst l =>
    simp only [Rep] at r
    obtain ⟨a, vs, rfl, nl, z, rl⟩ := r
    exact ⟨a, vs, rfl, .of nl.2, q lb1 H2 .refl o2 (by simpa [numbered] using z) _ H2 .refl (itOk_e nl rl)⟩
  | _ => exact False.elim q

/-! ### a def -/
/-- no frame's own marks at the end -/
def dl (lb : Lb) : Lb := fun a => match lb a with
  | some (.loc _) => none
  | x => x
theorem dl_loc {lb : Lb} {a : Addr} {i : Nat} (h : lb a = some (.loc i)) : dl lb a = none := by unfold dl; rw [h]
theorem dl_ne {lb : Lb} {a : Addr} (h : ∀ i, lb a ≠ some (.loc i)) : dl lb a = lb a := by
  unfold dl
  cases q : lb a with
  | none => rfl
  | some l =>
    cases l with
    | loc i => exact absurd q (h i)
    | _ => rfl
theorem of_dl {lb : Lb} {a : Addr} {l : Lab} (h : dl lb a = some l) : lb a = some l ∧ l.isLoc = false := by
  rcases unrel_case lb a with ⟨i, q⟩ | q
  · rw [dl_loc q] at h; cases h
  · rw [dl_ne q] at h
    refine ⟨h, ?_⟩
    cases l with
    | loc i => exact absurd h (q i)
    | _ => rfl
theorem Stp.dl (lb : Lb) (H : Hp) : Stp lb H (dl lb) H where
  keep := fun _ _ h _ => h
  out := fun a h => ⟨by rw [dl_ne (by rintro i e; rw [h] at e; cases e)]; exact h, rfl⟩
  new := fun a h => by
    cases q : Pk.dl lb a with
    | none => exact absurd q h
    | some l => exact .inl (by rw [(of_dl q).1]; simp)
  sto := fun a l h i => by rw [dl_ne (by rintro j e; rw [h] at e; cases e; cases i)]; exact h
  dom := fun _ h => h
theorem BOk.leave {cn : Cn} {lb0 lb : Lb} {H0 H : Hp} {ρ : Env} {s : Sto} {σ : L2.St} (o : BOk cn lb0 H0 lb ρ s σ H) : EOk cn (dl lb) s H :=
  ⟨o.sto.stp (Stp.dl lb H).q (fun _ _ _ _ => rfl) (fun _ _ e _ => (of_dl e).1), fun a l e => o.has a l (of_dl e).1, fun a l e => (of_dl e).2⟩
theorem startL_get {k : Nat} {ds : List D} {i : Nat} {z : Sl} (h : (startL k ds)[i]? = some z) : (∃ d, ds[i]? = some d ∧ z = .sh d) ∨ z = .no := by
  unfold startL at h
  by_cases hi : i < ds.length
  · rw [List.getElem?_append_left (by simpa using hi), List.getElem?_map, List.getElem?_eq_getElem hi] at h
    cases h
    exact .inl ⟨_, List.getElem?_eq_getElem hi, rfl⟩
  · rw [List.getElem?_append_right (by simpa using hi), List.getElem?_replicate] at h
    split at h
    · cases h; exact .inr rfl
    · cases h
theorem EOk.start {cn : Cn} {lb : Lb} {H : Hp} {s : Sto} {ds : List D} {vs : List V} {N : List Str} (e : EOk cn lb s H) (r : RepL cn lb H ds vs) (hl : vs.length ≤ N.length) : BOk cn lb H lb (startL N.length ds) s (L2.start N vs) H := by
  refine ⟨.refl, e.sto, e.has, ?_, fun i d h => ?_, fun i d h => ?_, fun i R h => ?_⟩
  · have := r.length
    simp only [startL, L2.start, List.length_append, List.length_map, List.length_replicate]
    omega
  · rcases startL_get h with ⟨d', e1, e2⟩ | e2
    · cases e2
      obtain ⟨v, e3, rv⟩ := r.get e1
      refine ⟨v, ?_, rv⟩
      have hi : i < vs.length := (List.getElem?_eq_some_iff.mp e3).1
      unfold L2.start
      rw [List.getElem?_append_left (by simpa using hi), List.getElem?_map, e3]
      rfl
    · cases e2
  · rcases startL_get h with ⟨d', e1, e2⟩ | e2 <;> cases e2
  · rcases startL_get h with ⟨d', e1, e2⟩ | e2 <;> cases e2
theorem fn_ok {P : Program} {w : World} {mg : Str → Option Value} {base : Heap} {x qual : Str} {params : Arguments} {body : List Stmt} {scope : Scope} {dvs : List V} {kws : List (Str × V)} {f : Addr} {fd : FuncData} {N ps : List Str} {k : Nat} {cn : Cn} {m : S}
    (F : FunD cn.K x qual params body scope dvs kws f fd) (S : FnScope N ps scope)
    (hb : ∀ (cdv : Value) (A : Around) (outer : List PySem.Env) (s : Shared) (H : Hp) (E : XK) (c : Bd), c.cn = cn → Gd k (cxOf (L2.CX P w) P w cn.K mg base N qual scope f cdv A outer s H E) c → DSs (cxOf (L2.CX P w) P w cn.K mg base N qual scope f cdv A outer s H E) c body m) :
    FnOk P w cn.K mg base (L2.CX P w) (k + 1) f fd ps (spOf cn (fnOf ps.length N.length m)) := by
  have hpl : ps.length ≤ N.length := by have := congrArg List.length S.pre; rw [List.length_take] at this; omega
  refine F.ok S (fun vs H Q E h => ?_) fun cdv A outer s H vs Q E hr h => ?_
  · obtain ⟨lb, st, ds, eo, r, h⟩ := h
    unfold fnOf at h
    by_cases hl : ds.length = ps.length
    · rw [← r.length]; exact hl
    · rw [if_neg hl] at h; exact False.elim h
  · obtain ⟨lb, st, ds, eo, r, h⟩ := h
    unfold fnOf at h
    by_cases hl : ds.length = ps.length
    · rw [if_pos hl] at h
      let c : Bd := ⟨cn, lb, H, fun cls dx _ H' => E cls dx H'⟩
      have tk : Takes (cxOf (L2.CX P w) P w cn.K mg base N qual scope f cdv A outer s H E) c.W := takes_of rfl rfl rfl rfl
      have g : Gd k (cxOf (L2.CX P w) P w cn.K mg base N qual scope f cdv A outer s H E) c := ⟨rfl, rfl, S.nd, tk, hr, passes_of rfl⟩
      refine ⟨_, hb cdv A outer s H E c rfl g, lb, startL N.length ds, st, eo.start r (by rw [← r.length, hl]; exact hpl), ?_⟩
      cases e : m (startL N.length ds) st with
      | bad => rw [e] at h; exact h
      | exc z ρ1 s1 =>
        rw [e] at h
        exact fun lb' σ' H' cls dx st' o' xr => h (dl lb') H' cls dx (st'.trans (.dl _ _)) o'.leave (xr.stp (.dl _ _))
      | ok fl ρ1 s1 =>
        rw [e] at h
        cases fl with
        | nx => exact fun lb' σ' H' st' o' => h (dl lb') H' .non (st'.trans (.dl _ _)) o'.leave (by simp only [Rep])
        | rt d => exact fun lb' σ' H' st' o' v rv => h (dl lb') H' v (st'.trans (.dl _ _)) o'.leave (rv.stp (.dl _ _))
        | bk => exact False.elim h
        | ct => exact False.elim h
    · rw [if_neg hl] at h; exact False.elim h
end
end Pk
/-! Br14: short forms for the printed derivations. -/
namespace Pk
open PySem PySem.Spec PyProof.Rows L2
/-- a def of the text that keeps its promise: dv the defaults that fill up -/
def FnG (cn : Cn) (P : Program) (w : World) (mg : Str → Option Value) (base : Heap) (k : Nat) (x : Str) (F : Fn) (dv : List D) : Prop :=
  ∃ (f : Addr) (fd : FuncData) (ps : List Str) (dsv : List Value) (dvs : List V), FnOk P w cn.K mg base (L2.CX P w) k f fd ps (spOf cn F) ∧ mg x = some (.ref f) ∧ PySem.W.keepIn cn.K (.ref f) = true ∧ Binds cn.K fd ps dsv ∧ Vals dvs dsv ∧ ∀ lb H, RepL cn lb H dv dvs
theorem fn_okF {P : Program} {w : World} {mg : Str → Option Value} {base : Heap} {x qual : Str} {params : Arguments} {body : List Stmt} {scope : Scope} {dvs : List V} {kws : List (Str × V)} {f : Addr} {fd : FuncData} {N ps : List Str} {k p q : Nat} {cn : Cn} {m : S} {Fp : Fn}
    (F : FunD cn.K x qual params body scope dvs kws f fd) (S : FnScope N ps scope) (hp : ps.length = p) (hq : N.length = q) (hF : Fp = fnOf p q m)
    (hb : ∀ (cdv : Value) (A : Around) (outer : List PySem.Env) (s : Shared) (H : Hp) (E : XK) (c : Bd), c.cn = cn → Gd k (cxOf (L2.CX P w) P w cn.K mg base N qual scope f cdv A outer s H E) c → DSs (cxOf (L2.CX P w) P w cn.K mg base N qual scope f cdv A outer s H E) c body m) :
    FnOk P w cn.K mg base (L2.CX P w) (k + 1) f fd ps (spOf cn Fp) := by
  subst hF hp hq
  exact fn_ok F S hb
section
variable {X : Cx} {b : Bd} {n : Nat}
theorem do_v {e : Expr} {m : M D} (h : DE X b e m) : DO X b e (.v m) := h
theorem do_b {e : Expr} {i : Nat} (h : PE X e (tVar i)) : DO X b e (.b i) := h
theorem tK_f {m : M D} {σ : L2.St} {H : Hp} {Q : VK} (h : tK false b m σ H Q) : tK true b m σ H Q := by
  obtain ⟨lb, ρ, s, o, p⟩ := h
  exact ⟨lb, ρ, s, o, p.mono fun d ρ s lb' H' _ o' q => Kt.kf o'.has q⟩
theorem de_callG {k : Nat} {F : Fn} {dv : List D} {x : Str} {p pos : Pos} {e : Expr} {es : List Expr} {ms : List (M D)} {P : Program} {w : World} {mg : Str → Option Value} {base : Heap} (g : Gd n X b) (G : FnG b.cn P w mg base k x F dv) (hk : k ≤ n) (hP : X.prog = P) (hw : X.w = w) (hm : X.mg = mg) (hb : X.base = base)
    (hg : Gl X x) (ha : DA X b (e :: es) ms) (hdb : (x == ("__debug__" : Str)) = false := by decide) (he : starEach (e :: es) X.env = (false, eval e X.env) :: starEach es X.env := by rfl) (hpl : (backTo pos (starEach es X.env)).any (·.1) = false := by rfl) :
    DE X b (.Call (.Name x p) (e :: es) [] pos) (eCall F ms dv) := by
  subst hP hw hm hb
  obtain ⟨f, fd, ps, dsv, dvs, F1, F2, F3, F4, F5, F6⟩ := G
  rw [g.kk] at F1 F3 F4
  exact de_call g F1 hk hg F2 F3 F4 F5 F6 ha hdb he hpl
theorem de_gi {x : Str} {i : Int} {pos : Pos} {mg : Str → Option Value} (hm : X.mg = mg) (hg : Gl X x) (h : ∃ t, mg x = some (.int i t)) (hd : (x == ("__debug__" : Str)) = false := by decide) : DE X b (.Name x pos) (eC (.int i)) := by
  subst hm
  obtain ⟨t, h⟩ := h
  exact de_c (pe_glob hg h (v := .int i) ⟨t, rfl⟩ hd) fun _ _ => by simp only [Rep]
/-- name = [..] on one line -/
theorem ds_setLc {f : Bool} {i : Nat} {y : Str} {py : Pos} {elt tg iter : Expr} {ifs : List Expr} {scope : Scope} {own : List (Str × Nat)} {pos spos : Pos} {it : It} {gt : Tg} {c e : M D} (g : Gd n X b) (hy : X.N[i]? = some y) (hyl : X.env.scope.names.lookup y = some .local)
    (hi : DI X b tg iter it) (ok : BlkOk X.N X.env.scope scope own)
    (hg : ∀ (s : Shared) (H : Hp) (C : Addr) (cl : List (Str × Addr)) (fp : List Addr), Gd n (X.blk s H scope (compEnvC scope cl C X.env) fp) b.in → DG (X.blk s H scope (compEnvC scope cl C X.env) fp) b.in tg gt)
    (ht : ∀ (s : Shared) (H : Hp) (C : Addr) (cl : List (Str × Addr)) (fp : List Addr), Gd n (X.blk s H scope (compEnvC scope cl C X.env) fp) b.in → DTs (X.blk s H scope (compEnvC scope cl C X.env) fp) b.in ifs c)
    (he : ∀ (s : Shared) (H : Hp) (C : Addr) (cl : List (Str × Addr)) (fp : List Addr), Gd n (X.blk s H scope (compEnvC scope cl C X.env) fp) b.in → DE (X.blk s H scope (compEnvC scope cl C X.env) fp) b.in elt e)
    (hsw : swapsWith (.ListComp elt [⟨tg, iter, ifs, 0⟩] scope pos) (some (.Name y py)) spos.line X.env = pure true)
    (hsl : ∀ i ∈ gt.slots, i ∈ own.map (·.2) := by decide) (hs : ∀ x, foldedSetIterable iter X.env x = pure x := by intro _; rfl) :
    DS X b (.Assign [.Name y py] (.ListComp elt [⟨tg, iter, ifs, 0⟩] scope pos) spos) (sSet f i (eComp it gt (own.map (·.2)) c e)) := by
  refine ⟨fun pins s σ H D I q => (ps_setLc g.calm g.nd hy hyl hsw hi ok (fun s H C cl fp => hg s H C cl fp (g.blk ..)) (fun s H C cl fp => ht s H C cl fp (g.blk ..)) (fun s H C cl fp => he s H C cl fp (g.blk ..)) hs).run pins s σ H D I ?_⟩
  refine comp_run hsl (Q := fun x H1 => gName i x σ H1 D.nx) ?_
  cases f with
  | true => exact setF_run (by rw [I.len]; exact (List.getElem?_eq_some_iff.mp hy).1) q
  | false => exact tK_f (set_run q)
end
end Pk
/-! Br15: more built-ins. -/
namespace Pk
open PySem PySem.Spec PyProof.Rows L2
section
variable {X : Cx} {b : Bd} {n : Nat} {cn : Cn}
theorem Gd.all (g : Gd n X b) : CallR X (.builtin "all") (rAll b.cn.K) := by rw [g.kk]; exact cr_all g.calm
theorem Gd.any (g : Gd n X b) : CallR X (.builtin "any") (rAny b.cn.K) := by rw [g.kk]; exact cr_any g.calm
theorem Gd.sum (g : Gd n X b) : CallR X (.builtin "sum") (rSum b.cn.K) := by rw [g.kk]; exact cr_sum g.calm
abbrev rTupOf (K : PySem.W.Frag) : List V → Hp → VK → Prop := fun xs H Q => ∃ p ys, xs = [.ref p] ∧ ((SqL K H p ys ∧ ∀ l, H l = none → Q (.ref l) (L2.upd H l (.tup ys))) ∨ (SqT K H p ys ∧ Q (.ref p) H))
abbrev rLstOf (K : PySem.W.Frag) : List V → Hp → VK → Prop := fun xs H Q => ∃ p ys, xs = [.ref p] ∧ (SqL K H p ys ∨ SqT K H p ys) ∧ ∀ l, H l = none → Q (.ref l) (L2.upd H l (.lst ys))
theorem Gd.tuple (g : Gd n X b) : CallR X (.type "tuple") (rTupOf b.cn.K) := by rw [g.kk]; exact call_tuple_of
theorem Gd.list (g : Gd n X b) : CallR X (.type "list") (rLstOf b.cn.K) := by rw [g.kk]; exact call_list_of
theorem p1_tuple : P1 false cn (fun x H Q => rTupOf cn.K [x] H Q) pTup := by
  intro lb H x d e Q hs r h k
  cases d with
  | lst l =>
    cases h
    obtain ⟨a, vs, rfl, e1, z, rl⟩ := r.lst
    exact ⟨a, vs, rfl, .inl ⟨.of e1, fun p np => KV.tup k hs np rl z⟩⟩
  | tup l =>
    cases h
    have r' := r.flat (fun _ e => nomatch e) (fun _ _ e => nomatch e)
    obtain ⟨a, vs, rfl, e1, z, rl⟩ := r.tup
    exact ⟨a, vs, rfl, .inr ⟨.of e1, KV.now k r'⟩⟩
  | _ => cases h
end
end Pk
/-! Br16: the law's def at its entry. -/
namespace Pk
open PySem PySem.Spec PyProof.Rows L2
/-- a def without defaults, by what the head told -/
theorem fnG_of {cn : Cn} {P : Program} {w : World} {mg : Str → Option Value} {base : Heap} {k : Nat} {x y qual : Str} {params : Arguments} {body : List Stmt} {scope : Scope} {kws : List (Str × V)} {f : Addr} {fd : FuncData} {ps : List Str} {Fp : Fn}
    (F : FunD cn.K y qual params body scope [] kws f fd) (ok : FnOk P w cn.K mg base (L2.CX P w) k f fd ps (spOf cn Fp)) (g : mg x = some (.ref f))
    (h : ∀ (kV doc pm : Value) (an : Option Addr) (cdv ct : Value) (us : List Value), us.length = ps.length → bindArgs (PySem.W.fnOf y qual params body scope .none kV doc pm an cdv ct) ⟨us, []⟩ = pure (ps.zip us)) :
    FnG cn P w mg base k x Fp [] :=
  ⟨f, fd, ps, [], [], ok, g, F.kp, F.bindsN h, .nil, fun _ _ => rfl⟩
end Pk
/-! Br17: sorted, min, max of data. -/
namespace Pk
open PySem PySem.Spec PyProof.Rows L2
mutual
theorem toks_py : ∀ x : D, PySem.W.keyToks (toPy x) = x.toks
  | .none => by simp [toPy, PySem.W.keyToks, D.toks]
  | .bool b => by simp [toPy, PySem.W.keyToks, D.toks]
  | .int b => by simp [toPy, PySem.W.keyToks, D.toks]
  | .str b => by simp [toPy, PySem.W.keyToks, D.toks]
  | .lst l => by simp only [toPy, PySem.W.keyToks, D.toks]; exact toksL_py l
  | .tup l => by simp only [toPy, PySem.W.keyToks, D.toks]; exact toksL_py l
  | .dct _ _ => by simp [toPy, PySem.W.keyToks, D.toks]
  | .fn _ => by simp [toPy, PySem.W.keyToks, D.toks]
  | .clo _ _ => by simp [toPy, PySem.W.keyToks, D.toks]
  | .town => by simp [toPy, PySem.W.keyToks, D.toks]
  | .obj _ => by simp [toPy, PySem.W.keyToks, D.toks]
  | .scr _ => by simp [toPy, PySem.W.keyToks, D.toks]
theorem toksL_py : ∀ l : List D, PySem.W.keyToksAll (toPyL l) = toksL l
  | [] => by simp [toPyL, PySem.W.keyToksAll, toksL]
  | x :: l => by simp only [toPyL, PySem.W.keyToksAll, toksL]; rw [toks_py x, toksL_py l]
end
theorem tokLt_py : ∀ x y : Tok, itemLt x y = tokLt x y
  | .inl a, .inl b => rfl
  | .inl a, .inr b => rfl
  | .inr a, .inl b => rfl
  | .inr a, .inr b => rfl
theorem toksLt_py : ∀ x y : List Tok, lexLt itemOrd x y = toksLt x y
  | [], [] => rfl
  | [], _ :: _ => rfl
  | _ :: _, [] => rfl
  | x :: r, y :: t => by
    rw [lex_cons]
    show (itemLt x y || (!itemLt y x && lexLt itemOrd r t)) = _
    rw [tokLt_py, tokLt_py, toksLt_py r t]
    rfl
theorem lt_py (x y : D) : PySem.W.dataLt (toPy x) (toPy y) = x.lt y := by
  unfold PySem.W.dataLt D.lt
  rw [toks_py, toks_py, toksLt_py]
theorem le_py : PySem.W.dataLe false toPy = leD := by
  funext x y
  show (!lexLt itemOrd (PySem.W.keyToks (toPy y)) (PySem.W.keyToks (toPy x))) = _
  rw [toks_py, toks_py, toksLt_py]
  rfl
mutual
theorem alk_py : ∀ x y : D, x.alk y = true → PySem.W.alike (toPy x) (toPy y) = true
  | .bool _, y, h => by cases y <;> first | (simp [D.alk] at h; done) | simp [toPy, PySem.W.alike]
  | .int _, y, h => by cases y <;> first | (simp [D.alk] at h; done) | simp [toPy, PySem.W.alike]
  | .str _, y, h => by cases y <;> first | (simp [D.alk] at h; done) | simp [toPy, PySem.W.alike]
  | .lst l, y, h => by
    cases y with
    | lst m => simp only [D.alk] at h; simp only [toPy, PySem.W.alike]; exact alkL_py l m h
    | _ => simp [D.alk] at h
  | .tup l, y, h => by
    cases y with
    | tup m => simp only [D.alk] at h; simp only [toPy, PySem.W.alike]; exact alkL_py l m h
    | _ => simp [D.alk] at h
  | .none, y, h => by simp [D.alk] at h
  | .dct _ _, y, h => by simp [D.alk] at h
  | .fn _, y, h => by simp [D.alk] at h
  | .clo _ _, y, h => by simp [D.alk] at h
  | .town, y, h => by simp [D.alk] at h
  | .obj _, y, h => by simp [D.alk] at h
  | .scr _, y, h => by simp [D.alk] at h
theorem alkL_py : ∀ l m : List D, alkL l m = true → PySem.W.alikeAll (toPyL l) (toPyL m) = true
  | [], m, h => by simp [toPyL, PySem.W.alikeAll]
  | x :: l, [], h => by simp [toPyL, PySem.W.alikeAll]
  | x :: l, y :: m, h => by
    simp only [alkL, Bool.and_eq_true] at h
    simp only [toPyL, PySem.W.alikeAll, alk_py x y h.1, alkL_py l m h.2, Bool.and_self]
end
theorem toPyL_map : ∀ l : List D, toPyL l = l.map toPy
  | [] => rfl
  | x :: l => by simp only [toPyL, List.map_cons, toPyL_map l]
theorem allAlk_py {l : List D} (h : allAlk l = true) : PySem.W.AllAlike (l.map toPy) := by
  intro d hd e he
  obtain ⟨x, hx, rfl⟩ := List.mem_map.mp hd
  obtain ⟨y, hy, rfl⟩ := List.mem_map.mp he
  exact alk_py x y (List.all_eq_true.mp (List.all_eq_true.mp h x hx) y hy)
theorem sortable_py {l : List D} (h : (l.all D.tupNe || l.all D.notTup) = true) : PySem.W.Sortable (l.map toPy) := by
  rcases Bool.or_eq_true_iff.mp h with h | h
  · refine .inl fun d hd => ?_
    obtain ⟨x, hx, rfl⟩ := List.mem_map.mp hd
    have := List.all_eq_true.mp h x hx
    cases x with
    | tup m =>
      cases m with
      | nil => simp [D.tupNe] at this
      | cons y m => exact ⟨toPy y, toPyL m, by simp only [toPy, toPyL]⟩
    | _ => simp [D.tupNe] at this
  · refine .inr fun d hd => ?_
    obtain ⟨x, hx, rfl⟩ := List.mem_map.mp hd
    have := List.all_eq_true.mp h x hx
    cases x <;> first | (simp [D.notTup] at this; done) | (simp only [toPy]; exact ⟨by simp, by simp⟩)
mutual
theorem toPy_inj : ∀ x y : D, x.alk y = true → toPy x = toPy y → x = y
  | .bool a, y, h, e => by
    cases y with
    | bool b => simp only [toPy] at e; cases e; rfl
    | _ => simp [D.alk] at h
  | .int a, y, h, e => by
    cases y with
    | int b => simp only [toPy] at e; cases e; rfl
    | _ => simp [D.alk] at h
  | .str a, y, h, e => by
    cases y with
    | str b => simp only [toPy] at e; cases e; rfl
    | _ => simp [D.alk] at h
  | .lst l, y, h, e => by
    cases y with
    | lst m =>
      simp only [D.alk] at h
      simp only [toPy, PyData.list.injEq] at e
      rw [toPyL_inj l m h e]
    | _ => simp [D.alk] at h
  | .tup l, y, h, e => by
    cases y with
    | tup m =>
      simp only [D.alk] at h
      simp only [toPy, PyData.tuple.injEq] at e
      rw [toPyL_inj l m h e]
    | _ => simp [D.alk] at h
  | .none, y, h, e => by simp [D.alk] at h
  | .dct _ _, y, h, e => by simp [D.alk] at h
  | .fn _, y, h, e => by simp [D.alk] at h
  | .clo _ _, y, h, e => by simp [D.alk] at h
  | .town, y, h, e => by simp [D.alk] at h
  | .obj _, y, h, e => by simp [D.alk] at h
  | .scr _, y, h, e => by simp [D.alk] at h
theorem toPyL_inj : ∀ l m : List D, alkL l m = true → toPyL l = toPyL m → l = m
  | [], [], h, e => rfl
  | [], _ :: _, h, e => by simp [toPyL] at e
  | _ :: _, [], h, e => by simp [toPyL] at e
  | x :: l, y :: m, h, e => by
    simp only [alkL, Bool.and_eq_true] at h
    simp only [toPyL, List.cons.injEq] at e
    rw [toPy_inj x y h.1 e.1, toPyL_inj l m h.2 e.2]
end
/-! ### sorted -/
def rSortedD (K : PySem.W.Frag) : List V → Hp → VK → Prop := fun vs H Q => ∃ (a : Addr) (bs : List (D × V)), vs = [.ref a] ∧ SqL K H a (bs.map (·.2)) ∧ (∀ c ∈ bs, Dp K H c.2 (toPy c.1)) ∧ sortOk (bs.map (·.1)) = true ∧
  ∀ p, H p = none → Q (.ref p) (L2.upd H p (.lst ((bs.mergeSort fun x y => leD x.1 y.1).map (·.2))))
theorem each_rel {bs : List (D × V)} {us : List Value} (r : Vals (bs.map (·.2)) us) : PySem.W.EachIs (fun (v : Value) (c : D × V) => RelV c.2 v) us bs := by
  induction bs generalizing us with
  | nil => cases r; exact .nil
  | cons c bs ih =>
    rw [List.map_cons] at r
    cases r with
    | cons r1 r2 => exact .cons r1 (ih r2)
theorem rel_each {bs : List (D × V)} {us : List Value} (r : PySem.W.EachIs (fun (v : Value) (c : D × V) => RelV c.2 v) us bs) : Vals (bs.map (·.2)) us := by
  induction r with
  | nil => exact .nil
  | cons h t ih => exact .cons h ih
theorem dep_le_py {x : D} (h : x.dep 62 = true) : (toPy x).depth ≤ 62 := (lay_py x 62 h).2
section
variable {X : Cx}
theorem cr_sortedD (hu : X.A.units + 65 < cLine) : CallR X (.builtin "sorted") (rSortedD X.K) := by
  intro pins s σ H vs us Q I r h
  obtain ⟨a, bs, rfl, hs, hd, ho, q⟩ := h
  obtain ⟨its, rv, hl, hz⟩ := I.list hs
  rw [Vals.ref1 r]
  simp only [sortOk, ordOk, Bool.and_eq_true] at ho
  obtain ⟨⟨o1, o2⟩, o3⟩ := ho
  have e1 := each_rel rv
  have er : PySem.W.EachIs (fun (v : Value) (c : D × V) => ∃ as, Reads s.heap v (toPy c.1) as) its bs := (PySem.W.each_mem e1).mono fun v c ⟨hr, hm⟩ => Dp.reads I _ _ _ (hd c hm) hr
  have em : bs.map (fun c : D × V => toPy c.1) = (bs.map (·.1)).map toPy := by rw [List.map_map]; rfl
  refine PySem.W.sorted_data (enc := fun c : D × V => toPy c.1) hl.isList e1 er (by rw [em]; exact allAlk_py o2) (by rw [em]; exact sortable_py o3) (by rw [List.length_map] at hz; exact hz) (fun c hc => ?_) fun out hlen eo => ?_
  · have := dep_le_py (List.all_eq_true.mp o1 c.1 (List.mem_map.mpr ⟨c, hc, rfl⟩))
    omega
  · obtain ⟨ep, he'⟩ := PyProof.Rows.sortedAll_at s.heap its out.toArray
    have le2 : PySem.W.dataLe false (fun c : D × V => toPy c.1) = fun x y => leD x.1 y.1 := by
      funext x y
      exact congrFun (congrFun le_py x.1) y.1
    rw [le2] at eo
    have hz2 : ((bs.mergeSort fun x y => leD x.1 y.1).map (·.2)).length ≤ sizeLine := by
      rw [List.length_map, (List.mergeSort_perm _ _).length_eq]
      rw [List.length_map] at hz
      exact hz
    exact ⟨.ref _, L2.upd H (s.heap.objs.size + 1) (.lst ((bs.mergeSort fun x y => leD x.1 y.1).map (·.2))), I.laid (t' := s.toks) (fun _ _ => PyProof.Rows.sortedAll_old) (Nat.le_succ _) ⟨hz2, out, ep, rel_each eo, he'⟩, rfl, q _ (I.hok.fresh (Nat.le_succ _))⟩
theorem Gd.sortedD {b : Bd} {n : Nat} (g : Gd n X b) : CallR X (.builtin "sorted") (rSortedD b.cn.K) := by rw [g.kk]; exact cr_sortedD g.units
end
section
variable {cn : Cn} {lb : Lb} {H : Hp}
theorem repL_zip : ∀ {l : List D} {vs : List V}, RepL cn lb H l vs → ∀ c ∈ l.zip vs, Rep cn lb H c.1 c.2
  | [], vs, r, c, hc => by simp at hc
  | d :: l, vs, r, c, hc => by
    obtain ⟨v, r', rfl, r1, r2⟩ := r
    rw [List.zip_cons_cons] at hc
    rcases List.mem_cons.mp hc with rfl | hc
    · exact r1
    · exact repL_zip r2 c hc
theorem repL_pairs : ∀ {bs : List (D × V)}, (∀ c ∈ bs, Rep cn lb H c.1 c.2) → RepL cn lb H (bs.map (·.1)) (bs.map (·.2))
  | [], _ => .nil
  | c :: bs, h => .cons (h c List.mem_cons_self) (repL_pairs fun c hc => h c (List.mem_cons_of_mem _ hc))
theorem zip_fst {l : List D} {vs : List V} (r : RepL cn lb H l vs) : (l.zip vs).map (·.1) = l := List.map_fst_zip (Nat.le_of_eq r.length)
theorem zip_snd {l : List D} {vs : List V} (r : RepL cn lb H l vs) : (l.zip vs).map (·.2) = vs := List.map_snd_zip (Nat.le_of_eq r.length.symm)
theorem p1_sorted : P1 true cn (fun x H Q => rSortedD cn.K [x] H Q) pSorted := by
  intro lb H x d e Q hs r h k
  have k : KF cn lb H e Q := k
  cases d with
  | lst l =>
    simp only [pSorted] at h
    split at h
    · rename_i ho
      cases h
      obtain ⟨a, vs, rfl, e1, z, rl⟩ := r.lst
      have ef := zip_fst rl
      have es := zip_snd rl
      have o1 : l.all (D.dep 62) = true := by
        simp only [sortOk, ordOk, Bool.and_eq_true] at ho
        exact ho.1.1
      refine ⟨a, l.zip vs, rfl, .of (by rw [es]; exact e1), fun c hc => ?_, by rw [ef]; exact ho, fun p np => k p _ np ⟨_, rfl, ?_, ?_⟩⟩
      · exact dp_rep (List.all_eq_true.mp o1 c.1 (by have : c.1 ∈ (l.zip vs).map (·.1) := List.mem_map.mpr ⟨c, hc, rfl⟩; rw [ef] at this; exact this)) (repL_zip rl c hc)
      · rw [List.length_mergeSort]; exact z
      · have m : ((l.zip vs).mergeSort (fun x y => leD x.1 y.1)).map (·.1) = l.mergeSort leD := by
          rw [List.map_mergeSort (r := fun x y => leD x.1 y.1) (s := leD) (f := fun c : D × V => c.1) (fun _ _ _ _ => rfl), ef]
        rw [← m]
        exact repL_pairs fun c hc => repL_zip rl c (List.mem_mergeSort.mp hc)
    · cases h
  | _ => cases h
/-! ### min, max -/
theorem minD_mem (x : D) : ∀ l : List D, minD x l ∈ x :: l := by
  intro l
  induction l generalizing x with
  | nil => simp [minD]
  | cons y l ih =>
    have := ih (if y.lt x then y else x)
    unfold minD at this ⊢
    rw [List.foldl_cons]
    rcases List.mem_cons.mp this with q | q
    · rw [q]; split <;> simp
    · exact List.mem_cons_of_mem _ (List.mem_cons_of_mem _ q)
theorem minD_py (x : D) (l : List D) : PySem.W.minD (toPy x) (l.map toPy) = toPy (minD x l) := by
  induction l generalizing x with
  | nil => rfl
  | cons y l ih =>
    have := ih (if y.lt x then y else x)
    unfold PySem.W.minD minD at this ⊢
    rw [List.map_cons, List.foldl_cons, List.foldl_cons, ← this, lt_py]
    split <;> rfl
end
def rBestD (f : D → List D → D) (K : PySem.W.Frag) : List V → Hp → VK → Prop := fun vs H Q => ∃ (a : Addr) (x : D × V) (bs : List (D × V)), vs = [.ref a] ∧ (SqL K H a ((x :: bs).map (·.2)) ∨ SqT K H a ((x :: bs).map (·.2))) ∧ (∀ c ∈ x :: bs, Dp K H c.2 (toPy c.1)) ∧ ordOk ((x :: bs).map (·.1)) = true ∧
  ∀ c ∈ x :: bs, c.1 = f x.1 (bs.map (·.1)) → Q c.2 H
section
variable {X : Cx}
theorem alikeAll_py {l : List D} (h : allAlk l = true) : PySem.W.AlikeAll (l.map toPy) := by
  refine ⟨fun x hx y hy => allAlk_py h x hx y hy, fun x hx => ?_⟩
  obtain ⟨d, hd, rfl⟩ := List.mem_map.mp hx
  have := List.all_eq_true.mp (List.all_eq_true.mp h d hd) d hd
  cases d <;> first | (simp [D.alk] at this; done) | simp [toPy]
theorem dpAll_pairs {K : PySem.W.Frag} {H : Hp} : ∀ {bs : List (D × V)}, (∀ c ∈ bs, Dp K H c.2 (toPy c.1)) → DpAll K H (bs.map (·.2)) ((bs.map (·.1)).map toPy)
  | [], _ => .nil
  | c :: bs, h => .cons (h c List.mem_cons_self) (dpAll_pairs fun c hc => h c (List.mem_cons_of_mem _ hc))
theorem depthAll_py {l : List D} (h : l.all (D.dep 62) = true) : PyData.depthAll (l.map toPy) ≤ 62 := by
  rw [← toPyL_map]
  exact (layL_py l 62 h).2
theorem best_run {f : D → List D → D} {pins : List (Addr × Obj)} {s : Shared} {σ : L2.St} {H : Hp} {x : D × V} {bs : List (D × V)} {its : List Value} {i : Nat} {v : Value} {h' : Heap} {tk : Nat} {as : List Addr} {Q : VK} {d : PyData} (I : Inv X pins σ H s)
    (hm : ∀ l, f x.1 l ∈ x.1 :: l) (hf : d = toPy (f x.1 (bs.map (·.1)))) (hd : ∀ c ∈ x :: bs, Dp X.K H c.2 (toPy c.1)) (o2 : allAlk ((x :: bs).map (·.1)) = true) (rv : Vals ((x :: bs).map (·.2)) its) (hi : its[i]? = some v) (hr : Reads h' v d as)
    (hk : ∀ b o, s.heap.get? b = some o → h'.get? b = some o) (q : ∀ c ∈ x :: bs, c.1 = f x.1 (bs.map (·.1)) → Q c.2 H) : ∃ (z : V) (H' : Hp), Inv X pins σ H' { s with heap := h', toks := tk } ∧ RelV z v ∧ Q z H' := by
  have hlt : i < its.length := (List.getElem?_eq_some_iff.mp hi).1
  have hl := rv.length
  rw [List.length_map] at hl
  have hb : (x :: bs)[i]? = some (x :: bs)[i] := List.getElem?_eq_getElem (by omega)
  have hv : ((x :: bs).map (·.2))[i]? = some ((x :: bs)[i]).2 := by rw [List.getElem?_map, hb]; rfl
  obtain ⟨u, hu, ru⟩ := rv.get hv
  rw [hi] at hu
  cases hu
  have hmem : (x :: bs)[i] ∈ x :: bs := List.getElem_mem _
  obtain ⟨as2, r2⟩ := Dp.reads I _ _ _ (hd _ hmem) ru
  have r3 := PyProof.Rows.Reads.keeps hk r2
  have ml : ((x :: bs)[i]).1 ∈ (x :: bs).map (·.1) := List.mem_map.mpr ⟨_, hmem, rfl⟩
  have mf : f x.1 (bs.map (·.1)) ∈ (x :: bs).map (·.1) := hm _
  have ak : (((x :: bs)[i]).1).alk (f x.1 (bs.map (·.1))) = true := List.all_eq_true.mp (List.all_eq_true.mp o2 _ ml) _ mf
  subst hf
  have e := PySem.W.alike_unique _ _ v _ _ (alk_py _ _ ak) r3 hr
  exact ⟨_, H, I.kept hk, ru, q _ hmem (toPy_inj _ _ ak e)⟩
theorem cr_minD (hc : X.calm = true) (hu : X.A.units + 65 < cLine) : CallR X (.builtin "min") (rBestD minD X.K) := by
  intro pins s σ H vs us Q I r h
  obtain ⟨a, x, bs, rfl, hs, hd, ho, q⟩ := h
  simp only [ordOk, Bool.and_eq_true] at ho
  obtain ⟨o1, o2⟩ := ho
  have dl := depthAll_py o1
  rcases hs with hs | hs
  · obtain ⟨its, rv, hl, hz⟩ := I.list hs
    rw [Vals.ref1 r]
    obtain ⟨as, ra⟩ := Dp.readsAll I _ _ its (dpAll_pairs hd) rv
    exact PySem.W.min_list_data (I.ok.hd hc) hl.isList ra (alikeAll_py o2) (Nat.lt_of_le_of_lt (Nat.add_le_add_left dl _) (by omega)) fun i v h' tk bs' hi hr hk => best_run I (minD_mem x.1) (minD_py x.1 _) hd o2 rv (by simpa using hi) hr hk q
  · obtain ⟨its, rv, hl, hz⟩ := I.tuple hs
    rw [Vals.ref1 r]
    obtain ⟨as, ra⟩ := Dp.readsAll I _ _ its (dpAll_pairs hd) rv
    exact PySem.W.min_tuple_data (I.ok.hd hc) hl ra (alikeAll_py o2) (Nat.lt_of_le_of_lt (Nat.add_le_add_left dl _) (by omega)) fun i v h' tk bs' hi hr hk => best_run I (minD_mem x.1) (minD_py x.1 _) hd o2 rv (by simpa using hi) hr hk q
theorem Gd.minD {b : Bd} {n : Nat} (g : Gd n X b) : CallR X (.builtin "min") (rBestD minD b.cn.K) := by rw [g.kk]; exact cr_minD g.calm g.units
end
section
variable {cn : Cn}
theorem best_rep {f : D → List D → D} {lb : Lb} {H : Hp} {x : D} {l : List D} {vs : List V} {a : Addr} {Q : VK} (sq : SqL cn.K H a vs ∨ SqT cn.K H a vs) (rl : RepL cn lb H (x :: l) vs) (ho : ordOk (x :: l) = true) (k : KV cn lb H (f x l) Q) : rBestD f cn.K [.ref a] H Q := by
  obtain ⟨v, ws, rfl, r1, r2⟩ := rl
  have ef := zip_fst r2
  have es := zip_snd r2
  have o1 : (x :: l).all (D.dep 62) = true := by
    simp only [ordOk, Bool.and_eq_true] at ho
    exact ho.1
  have rp : ∀ c ∈ (x, v) :: l.zip ws, Rep cn lb H c.1 c.2 := fun c hc => by
    rcases List.mem_cons.mp hc with rfl | hc
    · exact r1
    · exact repL_zip r2 c hc
  have em : ((x, v) :: l.zip ws).map (·.1) = x :: l := by rw [List.map_cons, ef]
  have es2 : ((x, v) :: l.zip ws).map (·.2) = v :: ws := by rw [List.map_cons, es]
  refine ⟨a, (x, v), l.zip ws, rfl, by rw [es2]; exact sq, fun c hc => ?_, by rw [em]; exact ho, fun c hc e => ?_⟩
  · exact dp_rep (List.all_eq_true.mp o1 c.1 (by rw [← em]; exact List.mem_map.mpr ⟨c, hc, rfl⟩)) (rp c hc)
  · rw [ef] at e
    have := rp c hc
    rw [e] at this
    exact KV.now k this
theorem p1_minD : P1 false cn (fun x H Q => rBestD minD cn.K [x] H Q) pMinD := by
  intro lb H x d e Q hs r h k
  cases d with
  | lst l =>
    cases l with
    | nil => cases h
    | cons y l =>
      simp only [pMinD] at h
      split at h
      · rename_i ho
        cases h
        obtain ⟨a, vs, rfl, e1, z, rl⟩ := r.lst
        exact best_rep (.inl (.of e1)) rl ho k
      · cases h
  | tup l =>
    cases l with
    | nil => cases h
    | cons y l =>
      simp only [pMinD] at h
      split at h
      · rename_i ho
        cases h
        obtain ⟨a, vs, rfl, e1, z, rl⟩ := r.tup
        exact best_rep (.inr (.of e1)) rl ho k
      · cases h
  | _ => cases h
end
end Pk
/-! Br18: enumerate of a list or a tuple: a walk that lays one new tuple a turn; the list by the kit's own rule. -/
namespace Pk
open PySem PySem.Spec PyProof.Rows L2
/-! ### a walk that lays a new tuple at each turn -/
section
variable {X : Cx} {pins : List (Addr × Obj)} {σ : L2.St} {H : Hp} {s : Shared} {E : Value → Shared → Prop} {e : Addr} {fp wr : List Addr} {n i : Nat} {Pt : Nat → Array Value → Prop} {Sn : Nat → Heap → Prop} {Mid : Nat → Addr → Heap → Prop}
theorem walk_lays {elts : List Expr} {kk : Nat} {tpos : Pos} {vs : List V} (W : WalksT X.prog X.w X.A e fp wr n Pt Sn Mid) (I : Inv X pins σ H s) (own : ∀ b ∈ wr, FpOk X pins H b) (lt : i < n) (now : Sn i s.heap) (few : vs.length ≤ sizeLine)
    (same : ∀ ar, Pt i ar → ∃ us, ar = us.toArray ∧ Vals vs us) :
    wpAny (model X.prog X.w) X.A (pyNext (.ref e)) (fun r s1 => ∃ u, r = some u ∧ wpAny (model X.prog X.w) X.A (letOwnedTupleGo (.Tuple elts kk tpos) (.ref e) u)
      (fun _ s2 => ∃ T, u = .ref T ∧ T ∉ wr ∧ H T = none ∧ Inv X pins σ (L2.upd H T (.tup vs)) s2 ∧ Sn (i + 1) s2.heap) E s1) E s := by
  refine W.item i s _ _ lt now fun T ar h1 tk got above there mid k1 => ⟨_, rfl, W.go elts kk tpos i T _ _ _ mid fun h2 next k2 => ?_⟩
  obtain ⟨us, rfl, rv⟩ := same ar got
  have off := W.apart i T h1 mid
  exact ⟨T, rfl, off, I.hok.fresh above, I.turnedNew (t' := tk) (fun b o nb q => k2 b o nb (k1 b o nb q)) own above ⟨few, us, rv, there.at fun o q => k2 T o off q⟩, next⟩
theorem walk_ends (W : WalksT X.prog X.w X.A e fp wr n Pt Sn Mid) (I : Inv X pins σ H s) (own : ∀ b ∈ wr, FpOk X pins H b) (now : Sn n s.heap) : wpAny (model X.prog X.w) X.A (pyNext (.ref e)) (fun r s1 => r = none ∧ Inv X pins σ H s1) E s :=
  W.done s _ _ now fun h' tk k => ⟨rfl, I.turnedL (t' := tk) k own⟩
end
/-! ### enumerate of a tuple -/
/-- the items vs of the tuple at a, each in a new pair -/
def IteT (K : PySem.W.Frag) (a : Addr) (vs : List V) : L2.It where
  go i H := SqT K H a vs ∧ i < vs.length
  yld i H v H' := ∃ T x, vs[i]? = some x ∧ v = .ref T ∧ H T = none ∧ H' = L2.upd H T (.tup [.int (i : Nat), x])
  stop i H := SqT K H a vs ∧ i = vs.length
/-- where the enumerate at e stands: its two cells -/
def AtT (a e it : Addr) (i : Nat) (h : Heap) : Prop := (∃ old, IsEnum h e it (0 + (i : Int)) old) ∧ h.IsTupleIter it a i
theorem AtT.keep {a e it : Addr} {i : Nat} {h h' : Heap} (p : AtT a e it i h) (k : ∀ b ∈ [e, it], ∀ o, h.get? b = some o → h'.get? b = some o) : AtT a e it i h' :=
  ⟨p.1.imp fun _ q => k e (by simp) _ q, p.2.at (k it (by simp))⟩
theorem AtT.obj {a e it : Addr} {i : Nat} {h : Heap} (p : AtT a e it i h) : ∀ b ∈ [e, it], ∃ o, h.get? b = some o ∧ ∀ v, o.data ≠ .cell v := by
  obtain ⟨⟨old, q⟩, o, q2, _, d⟩ := p
  intro b hb
  rcases List.mem_cons.mp hb with rfl | hb
  · exact ⟨_, q, nofun⟩
  · cases List.mem_singleton.mp hb
    exact ⟨o, q2, fun v z => by rw [d] at z; cases z⟩
section
variable {P : Program} {w : World} {K : PySem.W.Frag} {elts : List Expr} {kk : Nat} {tpos : Pos} {a e it : Addr}
/-- the kit's walk of it -/
theorem walkT {A : Around} {items : Array Value} (calm : A.handled = none) (ae : a ≠ e) (ai : a ≠ it) (ei : e ≠ it) : WalksT P w A e (e :: [it, a]) [e, it] items.size (fun i ar => ∃ t x, items[i]? = some x ∧ ar = #[.int (0 + (i : Int)) t, x])
    (fun i h => (∃ old, IsEnum h e it (0 + (i : Int)) old) ∧ h.IsTupleIter it a i ∧ h.IsTuple a items) (fun i T h => (∃ x, IsEnumOut h e it (0 + (i : Int) + 1) x T) ∧ (h.IsTupleIter it a (i + 1) ∧ h.IsTuple a items) ∧ T ≠ e ∧ T ≠ it) :=
  .enumFrom 0 (Draws.tuple (A := A.in1) calm it a ai items) e ei (by simp [ei, ae.symm]) (by simp)
theorem turn_pairs (vs : List V) (ae : a ≠ e) (ai : a ≠ it) (ei : e ≠ it) : Turn P w K (.Tuple elts kk tpos) (IteT K a vs) [e, it] e (AtT a e it) where
  mem := .head _
  obj _ _ p := p.obj
  keep _ _ _ p k := p.keep k
  self A i s Q E p h := p.1.elim fun _ q => wpAny_pyIter_enum q h
  item := by
    rintro X rfl rfl rfl calm i pins s σ H E I own p ⟨sq, lt⟩
    obtain ⟨us, rv, tp, few⟩ := I.tuple sq
    have len := rv.length
    obtain ⟨v, ev⟩ : ∃ v, vs[i]? = some v := ⟨_, List.getElem?_eq_getElem lt⟩
    obtain ⟨u, eu, ru⟩ := rv.get ev
    have lay := walk_lays (E := E) (elts := elts) (kk := kk) (tpos := tpos) (vs := [.int (i : Nat), v]) (walkT (I.ok.hd calm) ae ai ei) I own (i := i) (by simpa [← len] using lt) ⟨p.1, p.2, tp⟩ (by show 2 ≤ sizeLine; decide) ?_
    · refine thn lay fun r s1 ⟨u, er, g⟩ => ⟨u, er, thn g fun _ s2 ⟨T, eT, off, nT, J, p1, p2, _⟩ => ?_⟩
      subst eT
      refine ⟨.ref T, _, J, rfl, ⟨T, v, ev, rfl, nT, rfl⟩, ⟨p1, p2⟩, fun b hb => ?_⟩
      rw [upd_ne (show b ≠ T from fun z => off (z ▸ hb))]
      exact (own b hb).1
    · rintro ar ⟨t, x, ex, rfl⟩
      obtain rfl : u = x := by simpa [eu] using ex
      exact ⟨[.int (0 + (i : Int)) t, u], rfl, .cons ⟨t, by rw [Int.zero_add]⟩ (.cons ru .nil)⟩
  done := by
    rintro X rfl rfl rfl calm i pins s σ H E I own p ⟨sq, rfl⟩
    obtain ⟨us, rv, tp, few⟩ := I.tuple sq
    have len : us.toArray.size = vs.length := by simpa using rv.length.symm
    have W := walkT (P := X.prog) (w := X.w) (items := us.toArray) (I.ok.hd calm) ae ai ei
    rw [len] at W
    exact walk_ends W I own ⟨p.1, p.2, tp⟩
end
/-! ### the call enumerate(v): two new cells -/
/-- the heap with the iterator o and the enumerate on it -/
def enumOn (h : Heap) (o : Obj) : Heap := (h.push o).push { cls := .type "enumerate", data := .fields #[.none, .bool false, .ref h.objs.size, rawInt 0, .none, .none] }
section
variable {h : Heap} {o : Obj}
theorem enumOn_keep {b : Addr} {u : Obj} (q : h.get? b = some u) : (enumOn h o).get? b = some u := Heap.get?_push_of_some _ (Heap.get?_push_of_some _ q)
theorem enumOn_it (fr : o.isFreed = false) : (enumOn h o).get? h.objs.size = some o := Heap.get?_push_of_some _ (Heap.get?_push_size _ fr)
theorem enumOn_e : IsEnum (enumOn h o) (h.objs.size + 1) h.objs.size 0 .none := by
  have q := Heap.get?_push_size (h.push o) (o := { cls := .type "enumerate", data := .fields #[.none, .bool false, .ref h.objs.size, rawInt 0, .none, .none] }) rfl
  rwa [Heap.size_push] at q
end
theorem new_enum {v : Value} {o : Obj} {Z : Heap → Prop} (B : Begins v o Z) : Meets (Builtin.«enumerate.__new__» ⟨[.type "enumerate", v], []⟩) (fun _ R s => Z s.heap ∧ R (.ok (.ret (.ref (s.heap.push o).objs.size))) { s with heap := enumOn s.heap o }) :=
  .of_wp fun prog w A R ⟨hp, gs, dr, tk, os⟩ ⟨z, r⟩ => by
    have sub := sub_enumerate
    have begin_ : ∀ {A : Around} {E Q : Value → Shared → Prop}, Q (.ref hp.objs.size) ⟨hp.push o, gs, dr, tk, os⟩ → wpAny (model prog w) A (pyIter v) Q E ⟨hp, gs, dr, tk, os⟩ := fun q => B.iter prog w _ _ ⟨hp, gs, dr, tk, os⟩ _ z q
    wp_walk using begin_
    refine wpAny_stack_any fun _ => wpAny_pure ?_
    split
    rename_i c _ _ _ _ _
    · cases (c == Value.type "enumerate") <;> (wp_walk using begin_; exact ⟨_, rfl, r⟩)
    · wp_walk using begin_; exact ⟨_, rfl, r⟩
theorem call_enum {prog : Program} {w : World} {A : Around} {E Q : Value → Shared → Prop} {s : Shared} {v : Value} {o : Obj} {Z : Heap → Prop} (B : Begins v o Z) (z : Z s.heap) (q : Q (.ref (s.heap.objs.size + 1)) { s with heap := enumOn s.heap o }) :
    wpAny (model prog w) A (call (.type "enumerate") [v]) Q E s := by
  refine callType_new F.called_enumerate (by decide) (F.typeCall_enumerate_1 _) (F.newCall_enumerate_1 _) (fun obj => F.args_object_init_2 obj _) F.entry_enumerate_new (new_enum B) ⟨z, ?_⟩
  rw [Heap.size_push]
  exact ⟨⟨_, enumOn_e, rfl⟩, q⟩
/-! ### for i, x in enumerate(..) -/
section
variable {X : Cx} {e : Expr} {ta : TA} {p pos tpos : Pos} {elts : List Expr} {kk : Nat}
def iEnumT (K : PySem.W.Frag) (ta : TA) : TI := fun σ H R => ta σ H fun vs H1 => ∃ a xs, vs = [.ref a] ∧ SqT K H1 a xs ∧ R (IteT K a xs) H1
theorem pi_enumT (hg : Gl X "enumerate") (hm : X.mg "enumerate" = none) (ha : PA X [e] ta) (hs : starEach [e] X.env = [(false, eval e X.env)]) : PI X (.Tuple elts kk tpos) (.Call (.Name "enumerate" p) [e] [] pos) (iEnumT X.K ta) := by
  refine ⟨fun pins s σ H R I h => Call_ (ld_blt I hg hm boot_enumerate (PyProof.Rows.callWith_type1 (thn (ha.run pos pins s σ H _ I h) fun us s1 ⟨vs, H1, J, r1, a, xs, evs, sq, q⟩ => ?_) hs rfl))⟩
  subst evs
  obtain rfl := Vals.ref1 r1
  obtain ⟨us, rv, tp, few⟩ := J.tuple sq
  have below : a < s1.heap.objs.size := tp.elim fun _ z => Heap.lt_size z.1
  have two : ∀ b ∈ [s1.heap.objs.size + 1, s1.heap.objs.size], s1.heap.objs.size ≤ b := by simp
  refine call_enum (begins_tuple a us.toArray) tp (wpAny_pyIter_enum enumOn_e ?_)
  exact ⟨_, [s1.heap.objs.size + 1, s1.heap.objs.size], _, _, H1, rfl, J.kept (t' := s1.toks) fun _ _ z => enumOn_keep z, turn_pairs xs (Nat.ne_of_lt (Nat.lt_succ_of_lt below)) (Nat.ne_of_lt below) (Nat.succ_ne_self _), ⟨⟨_, enumOn_e⟩, ⟨_, enumOn_it rfl, rfl, rfl⟩⟩, fun b hb => J.fpOk (two b hb) (J.hok.fresh (two b hb)), q⟩
theorem pi_either {tg it : Expr} {t t' : TI} (h : PI X tg it t) (k : PI X tg it t') : PI X tg it fun σ H R => t σ H R ∨ t' σ H R := ⟨fun pins s σ H R I w => w.elim (h.run pins s σ H R I) (k.run pins s σ H R I)⟩
end
section
variable {X : Cx} {b : Bd}
theorem numbered_at {l : List D} {i : Nat} {d : D} (h : (numbered l)[i]? = some d) : ∃ x, l[i]? = some x ∧ d = .tup [.int (i : Int), x] := by
  obtain ⟨hi, rfl⟩ := List.getElem?_eq_some_iff.mp h
  have hi : i < l.length := by simpa [numbered] using hi
  exact ⟨l[i], List.getElem?_eq_getElem hi, by simp [numbered, List.getD_eq_getElem?_getD, hi]⟩
theorem itOk_eT {cn : Cn} {lb : Lb} {H : Hp} {K : PySem.W.Frag} {a : Addr} {l : List D} {vs : List V} (at_ : NT lb H a vs) (r : RepL cn lb H l vs) : ItOk cn lb H (numbered l) (IteT K a vs) := fun lb' H' st => by
  have sq : SqT K H' a vs := .of (at_.stq st).2
  have len : (numbered l).length = vs.length := by rw [← r.length]; simp [numbered]
  refine ⟨⟨sq, len⟩, fun i d h => ?_⟩
  obtain ⟨x, ex, rfl⟩ := numbered_at h
  obtain ⟨v, ev, rv⟩ := (r.stq st).get ex
  refine ⟨⟨sq, (List.getElem?_eq_some_iff.mp ev).1⟩, ?_⟩
  rintro _ _ ⟨T, x, ex, rfl, nT, rfl⟩
  cases ev.symm.trans ex
  exact ⟨Ext.upd nT, fun hs => tup2_new hs nT (by simp only [Rep]) rv⟩
/-- the tuple's half of enumerate -/
def iEnumU (m : M D) : It := fun r s => (m r s).bind fun d r s => match d with
  | .tup l => .ok (numbered l) r s
  | _ => .bad
/-- the value tells which half it is -/
theorem enum_which (m : M D) (ρ : Env) (s : Sto) : iEnumA m ρ s = iEnumL m ρ s ∨ iEnumA m ρ s = iEnumU m ρ s := by
  simp only [iEnumA, iEnumL, iEnumU]
  cases m ρ s with
  | ok d r1 s1 =>
    cases d with
    | tup l => exact .inr rfl
    | _ => exact .inl rfl
  | _ => exact .inl rfl
theorem di_enumU {e : Expr} {m : M D} {elts : List Expr} {kk : Nat} {p pos tpos : Pos} (hg : Gl X "enumerate") (hm : X.mg "enumerate" = none) (h : DE X b e m) (hs : starEach [e] X.env = [(false, eval e X.env)]) :
    DI X b (.Tuple elts kk tpos) (.Call (.Name "enumerate" p) [e] [] pos) (iEnumU m) := by
  refine PI.imp (pi_enumT hg hm (pa_cons h pa_nil hs) hs) fun σ H R ⟨lb, ρ, s, o, run⟩ => ⟨lb, ρ, s, o, (Post.bind run).mono fun d ρ1 s1 lb1 H1 st o1 q v H2 ex r => ?_⟩
  have q := Post.from q (o1.stp_ext ex)
  cases d with
  | tup l =>
    simp only [Rep] at r
    obtain ⟨a, vs, rfl, at_, z, rl⟩ := r
    exact ⟨a, vs, rfl, .of at_.2, q lb1 H2 .refl (o1.ext ex) (by simpa [numbered] using z) _ H2 .refl (itOk_eT at_ rl)⟩
  | _ => exact q.elim
theorem di_enumA {e : Expr} {m : M D} {elts : List Expr} {kk : Nat} {p pos tpos : Pos} (hg : Gl X "enumerate") (hm : X.mg "enumerate" = none) (h : DE X b e m) (hs : starEach [e] X.env = [(false, eval e X.env)] := by rfl) :
    DI X b (.Tuple elts kk tpos) (.Call (.Name "enumerate" p) [e] [] pos) (iEnumA m) :=
  PI.imp (pi_either (di_enumL hg hm h hs) (di_enumU hg hm h hs)) fun σ H R ⟨lb, ρ, s, o, run⟩ => (enum_which m ρ s).imp (fun z => ⟨lb, ρ, s, o, by rw [← z]; exact run⟩) fun z => ⟨lb, ρ, s, o, by rw [← z]; exact run⟩
end
end Pk
/-! Br19: any slice of a tuple with a step; x[::-1]; reversed(range(..)). -/
namespace Pk
open PySem PySem.Spec PyProof.Rows L2 HT
open Builtin.Slice in
theorem rev_cut (n : Nat) : sliceAdjust none none (-1) (n : Int) = ((n : Int) - 1, -1) ∧ slicePlaces ((n : Int) - 1) (-1) (-1) = n := by
  refine ⟨by unfold sliceAdjust; simp, ?_⟩
  unfold slicePlaces
  have down : ¬ ((-1 : Int) > 0) := by omega
  simp only [down, if_false, Int.neg_neg, Int.ediv_one]
  split <;> omega
theorem fm_some {α β : Type} {f : α → Option β} {g : α → β} {ks : List α} (h : ∀ k ∈ ks, f k = some (g k)) : ks.filterMap f = ks.map g := by
  induction ks with
  | nil => rfl
  | cons k ks ih => rw [List.filterMap_cons, h k (.head _), List.map_cons, ih fun j hj => h j (.tail _ hj)]
/-- the items by a step of -1, from the last on -/
theorem rev_items (l : List Value) : (List.range l.length).filterMap (fun (k : Nat) => l.toArray[(((l.length : Int) - 1) + (k : Int) * (-1)).toNat]?) = l.reverse := by
  have one : ∀ k ∈ List.range l.length, l.toArray[(((l.length : Int) - 1) + (k : Int) * (-1)).toNat]? = some (l.reverse.getD k .none) := fun k hk => by
    have hk := List.mem_range.mp hk
    have e : (((l.length : Int) - 1) + (k : Int) * (-1)).toNat = l.length - 1 - k := by omega
    have q : l.reverse[k]? = some (l.reverse[k]'(by simpa using hk)) := List.getElem?_eq_getElem _
    rw [e, List.getElem?_toArray, ← List.getElem?_reverse hk, List.getD_eq_getElem?_getD, q]
    rfl
  refine (fm_some one).trans (List.ext_getElem? fun i => ?_)
  by_cases hi : i < l.length
  · simp [hi, List.getD_eq_getElem?_getD]
  · rw [List.getElem?_eq_none (by simpa using hi), List.getElem?_eq_none (by simpa using hi)]
section
variable {prog : Program} {w : World} {A : Around} {s : Shared} {sl : Addr} {vl vu vs : Value} {lo hi : Option Int} {st : Int}
open Builtin.Slice in
/-- where a slice with a step begins, its step, how many it takes -/
theorem slice_any {n : Nat} {E : Value → Shared → Prop} {Q : Int × Int × Nat → Shared → Prop} (sa : s.heap.IsSliceOf sl vl vu vs) (pl : IsPart vl lo) (pu : IsPart vu hi) (ps : IsPart vs (some st)) (nz : (st == 0) = false)
    (h : Q ((sliceAdjust lo hi st n).1, st, slicePlaces (sliceAdjust lo hi st n).1 (sliceAdjust lo hi st n).2 st) s) : wpAny (model prog w) A (sliceApplied (.ref sl) (pure (n : Int))) Q E s := by
  obtain ⟨o, e, _, d⟩ := id sa
  have three : ∀ {R : Value × Value × Value → Shared → Prop}, R (vl, vu, vs) s → wpAny (model prog w) A (sliceFields (.ref sl)) R E s := fun k => by
    unfold sliceFields
    exact wpAny_bind (wpAny_field e d rfl (wpAny_bind (wpAny_field e d rfl (wpAny_bind (wpAny_field e d rfl (wpAny_pure k))))))
  unfold sliceApplied
  refine wpAny_bind (three (wpAny_bind (slicePart_ ps ?_)))
  simp only [Option.getD_some, nz, Bool.false_eq_true, if_false]
  exact wpAny_bind (slicePart_ pl (wpAny_bind (slicePart_ pu (wpAny_bind (wpAny_pure (wpAny_pure h))))))
/-- the whole tuple turned round, as a new tuple -/
theorem tuple_turned {t : Addr} {xs : List Value} {E Q : Value → Shared → Prop} (ht : IsTup s.heap t xs.toArray) (sa : s.heap.IsSliceOf sl vl vu vs) (pl : IsPart vl none) (pu : IsPart vu none) (ps : IsPart vs (some (-1))) (few : xs.length ≤ sizeLine)
    (h : Q (.ref s.heap.objs.size) { s with heap := s.heap.push { cls := .type "tuple", data := .seq xs.reverse.toArray } }) : wpAny (model prog w) A (getItem (.ref t) (.ref sl)) Q E s := by
  obtain ⟨c1, c2⟩ := rev_cut xs.length
  have fits : sizeOk (.seq xs.reverse.toArray) := by
    show xs.reverse.toArray.size ≤ sizeLine
    simpa using few
  have isl : s.TypeIs (.ref sl) "slice" := sa.imp fun _ k => ⟨k.1, k.2.1⟩
  have end_ : ∀ {B : Around} {E2 : Value → Shared → Prop} {R : Value → Shared → Prop}, R (.ref s.heap.objs.size) { s with heap := s.heap.push { cls := .type "tuple", data := .seq xs.reverse.toArray } } → wpAny (model prog w) B (Builtin.Tuple.tupleExact xs.reverse.toArray) R E2 s := fun k =>
    wpAny_newObj_type k fits
  unfold getItem
  try with_reducible refine wpAny_holding ?_
  try refine wpAny_bind (wpAny_pure ?_)
  refine wpAny_bind (wpAny_sequenceKey ht.typeIs (by decide) (wpAny_bind (wpAny_callSpecial?_slot (name := Str.ofString "__getitem__") ht.typeIs PyProof.Rows.slot_tuple_getitem (wpAny_call_entry PyProof.Rows.slot_tuple_getitem ht.typeIs PyProof.Rows.entry_tuple_getitem ?_ (PyProof.Rows.args_tuple_getitem _ _)))))
  refine wpAny_bind (m := Builtin.Tuple.tupleItemsOf (.ref t)) (tupleItemsOf_ ht (wpAny_bind (wpAny_typeOf isl ?_)))
  rw [if_pos (by decide)]
  refine wpAny_bind (slice_any sa pl pu ps (by decide) ?_)
  have whole : ¬ (((xs.length : Int) - 1) == 0 && (-1 : Int) == 1 && xs.length == xs.length) = true := by simp
  simp only [List.size_toArray, c1, c2, rev_items]
  rw [if_neg whole]
  first
    | exact wpAny_bind (end_ (wpAny_pure ⟨_, rfl, wpAny_pure h⟩))
    | exact wpAny_bind (wpAny_bind (end_ (wpAny_pure (wpAny_pure ⟨_, rfl, wpAny_pure h⟩))))
end
/-! ### x[..:..:..] -/
section
variable {X : Cx} {b : Bd} {n : Nat}
/-- what a value's part is, by the three parts of the slice -/
def PartR (X : Cx) (r : V → Option Int → Option Int → Option Int → Hp → VK → Prop) : Prop := ∀ (pins : List (Addr × Obj)) (s : Shared) (σ : L2.St) (H : Hp) (x : V) (u : Value) (lo hi st : Option Int) (sl : Addr) (vl vu vs : Value) (Q : VK),
  Inv X pins σ H s → RelV x u → s.heap.IsSliceOf sl vl vu vs → IsPart vl lo → IsPart vu hi → IsPart vs st → r x lo hi st H Q →
    ∃ T id, typeLookup (.type T) "__getitem__" = pure (some (.builtin id)) ∧ s.TypeIs u T ∧ wpAny (model X.prog X.w) X.A (getItem u (.ref sl)) (EP X pins σ Q) X.xe s
def tPart3 (r : V → Option Int → Option Int → Option Int → Hp → VK → Prop) (te : TE) (tl tu ts : TO) : TE := fun σ H Q => te σ H fun x H1 => tl σ H1 fun l H2 => tu σ H2 fun u H3 => ts σ H3 fun t H4 => r x l u t H4 Q
theorem pe_part3 {r : V → Option Int → Option Int → Option Int → Hp → VK → Prop} {e : Expr} {lo hi st : Option Expr} {te : TE} {tl tu ts : TO} {p2 pos : Pos} (hr : PartR X r) (he : PE X e te) (hl : PO X lo tl) (hu : PO X hi tu) (ht : PO X st ts)
    (hop : ∀ v z, subscripted (.Slice lo hi st p2) false v z = operate [v, z] (getItem v z) := by intro _ _; with_unfolding_all rfl) :
    PE X (.Subscript e (.Slice lo hi st p2) pos) (tPart3 r te tl tu ts) := by
  refine ⟨fun pins s σ H Q I h => Subscript_ (thn (he.run pins s σ H _ I h) fun v s1 ⟨x, H1, J1, rel, k1⟩ => wpAny_Slice (thn (hl.run pins s1 σ H1 _ J1 k1) fun vl s2 ⟨l, H2, J2, pl, k2⟩ => thn (hu.run pins s2 σ H2 _ J2 k2) fun vu s3 ⟨u, H3, J3, pu, k3⟩ =>
    thn (ht.run pins s3 σ H3 _ J3 k3) fun vs s4 ⟨t, H4, J4, ps, k4⟩ => ?_))⟩
  have J5 := J4.kept (h' := s4.heap.push { cls := .type "slice", data := .fields #[vl, vu, vs] }) (t' := s4.toks) fun _ _ q => Heap.get?_push_of_some _ q
  obtain ⟨T, id, look, ty, got⟩ := hr pins _ σ H4 x v l u t _ vl vu vs Q J5 rel (Heap.IsSliceOf.new ..) pl pu ps k4
  show wpAny (model X.prog X.w) X.A (subscriptTail e (.Slice lo hi st p2) v (.ref s4.heap.objs.size)) (EP X pins σ Q) X.xe _
  exact tail_any (ops := [v, .ref s4.heap.objs.size]) ty look got (hop _ _)
/-- t[::-1] of a tuple -/
theorem part_rev : PartR X fun x lo hi st H Q => lo = none ∧ hi = none ∧ st = some (-1) ∧ ∃ a vs, SqT X.K H a vs ∧ x = .ref a ∧ ∀ p, H p = none → Q (.ref p) (L2.upd H p (.tup vs.reverse)) := by
  rintro pins s σ H _ u _ _ _ sl vl vu vs Q I rel sa pl pu ps ⟨rfl, rfl, rfl, a, xs, sq, rfl, q⟩
  cases rel
  obtain ⟨us, ru, ht, len⟩ := I.tuple sq
  refine ⟨_, _, PyProof.Rows.slot_tuple_getitem.lookup, ht.typeIs, tuple_turned ht sa pl pu ps (by rw [← ru.length]; exact len) ⟨.ref _, _, I.laid (t' := s.toks) (o := .tup xs.reverse) (fun _ _ k => Heap.get?_push_of_some _ k) (Nat.le_refl _) ?_, rfl, q _ (I.hok.fresh (Nat.le_refl _))⟩⟩
  exact ⟨by simpa only [List.length_reverse] using len, us.reverse, ru.reverse, IsTup.new _ _⟩
theorem pe_either {e : Expr} {t t' : TE} (h : PE X e t) (k : PE X e t') : PE X e fun σ H Q => t σ H Q ∨ t' σ H Q := ⟨fun pins s σ H Q I w => w.elim (h.run pins s σ H Q I) (k.run pins s σ H Q I)⟩
theorem KV_lst {cn : Cn} {lb : Lb} {H : Hp} {d : List D} {Q : VK} (k : KV cn lb H (.lst d) Q) (hs : Has lb H) {vs : List V} {p : Addr} (np : H p = none) (r : RepL cn lb H d vs) (z : d.length ≤ SZ) : Q (.ref p) (L2.upd H p (.lst vs)) :=
  (Kt.kf (fresh := false) hs k : KF cn lb H (.lst d) Q) p _ np ⟨vs, rfl, z, r⟩
def pRevT : D → Option D
  | .tup l => some (.tup l.reverse)
  | _ => .none
/-- which of the two it is, the operand's value tells -/
theorem rev_which (a : Opd) (ρ : Env) (s : Sto) : e1 pRev a ρ s = e1 pRevL a ρ s ∨ e1 pRev a ρ s = e1 pRevT a ρ s := by
  unfold e1
  cases a.run ρ s with
  | ok x r1 s1 =>
    simp only [R.bind_ok]
    cases look r1 x with
    | none => exact .inl rfl
    | some d =>
      cases d with
      | tup l => exact .inr rfl
      | _ => exact .inl rfl
  | exc x r1 s1 => exact .inl rfl
  | bad => exact .inl rfl
/-- x[::-1]: a list by the kit's rule, a tuple by part_rev -/
theorem de_rev {ea : Expr} {a : Opd} {k : Nat} {p1 p2 p3 pos : Pos} (g : Gd n X b) (ha : DO X b ea a) : DE X b (.Subscript ea (.Slice none none (some (.UnaryOp .USub (.Constant (.int 1) k p1) p2)) p3) pos) (e1 pRev a) := by
  have st : PO X (some (.UnaryOp .USub (.Constant (.int 1) k p1) p2)) (tPart (tUn (rU fun i => .int (-i)) (tC (.int 1)))) := po_some (pe_un un_neg pe_int)
  refine PE.imp (pe_either (pe_revL ha.pe) (pe_part3 part_rev ha.pe po_none po_none st)) fun σ H Q ⟨lb, ρ, s, o, h⟩ => ?_
  rcases rev_which a ρ s with e | e
  · rw [e] at h
    refine .inl (t1_run (r := fun x H1 Q => ∃ a xs, x = .ref a ∧ SqL X.K H1 a xs ∧ ∀ p, H1 p = none → Q (.ref p) (L2.upd H1 p (.lst xs.reverse))) (fun lb H x d e Q hs r ed kk => ?_) ⟨lb, ρ, s, o, h⟩)
    cases d with
    | lst l =>
      cases ed
      obtain ⟨q, vs, rfl, at_, z, rl⟩ := r.lst
      exact ⟨q, vs, rfl, .of at_, fun p2 np => KV_lst kk hs np rl.reverse (by rw [List.length_reverse]; exact z)⟩
    | _ => cases ed
  · rw [e] at h
    refine .inr (t1_run (r := fun x H1 Q => ∃ i : Int, V.int 1 = .int i ∧ ∃ j : Int, V.int (-i) = .int j ∧ (none : Option Int) = none ∧ (none : Option Int) = none ∧ some j = some (-1) ∧ ∃ a vs, SqT X.K H1 a vs ∧ x = .ref a ∧ ∀ p, H1 p = none → Q (.ref p) (L2.upd H1 p (.tup vs.reverse))) (fun lb H x d e Q hs r ed kk => ?_) ⟨lb, ρ, s, o, h⟩)
    cases d with
    | tup l =>
      cases ed
      obtain ⟨q, vs, rfl, at_, z, rl⟩ := r.tup
      exact ⟨1, rfl, -1, rfl, rfl, rfl, rfl, q, vs, .of at_, rfl, fun p2 np => KV.tup kk hs np rl.reverse (by rw [List.length_reverse]; exact z)⟩
    | _ => cases ed
end
end Pk
/-! Br20: x[lo:hi] of lists and tuples. -/
namespace Pk
open PySem PySem.Spec PyProof.Rows L2
end Pk
/-! Br21: zip of two lists, of two tuples. -/
namespace Pk
open PySem PySem.Spec PyProof.Rows L2
end Pk
/-! Br22: raise X('..'). -/
namespace Pk
open PySem PySem.Spec PyProof.Rows L2
/-- the class number k stands in the text as x: an own error over ValueError without an own __init__ -/
structure ErrC (cn : Cn) (mg : Str → Option Value) (k : Nat) (x : Str) : Prop where
  ex : PySem.W.excIn cn.K (cn.cls k) He.veBase "ValueError.__new__" = true
  at_ : mg x = some (.ref (cn.cls k))
  kp : PySem.W.keepIn cn.K (.ref (cn.cls k)) = true
  sub : PySem.W.subIn cn.K (.ref (cn.cls k)) (.type "BaseException") = some true
  ty : PySem.W.typeIn cn.K (.ref (cn.cls k)) = some (.type "type")
section
variable {X : Cx} {b : Bd} {n : Nat}
theorem ds_raiseT {k j : Nat} {x m : Str} {mg : Str → Option Value} {p p2 pos pos' : Pos} {initId : String} (g : Gd n X b) (hm : X.mg = mg) (F : ExcBaseFacts "ValueError" "ValueError.__new__" initId He.veBase) (C : ErrC b.cn mg k x) (hg : Gl X x) (hdb : (x == ("__debug__" : Str)) = false := by decide) :
    DS X b (.Raise (some (.Call (.Name x p) [.Constant (.str m) j p2] [] pos)) none pos') (sRaise k .none) := by
  subst hm
  obtain ⟨c1, c2, c3, c4, c5⟩ := C
  have kk := g.kk
  rw [kk] at c1 c3 c4 c5
  refine PS.imp (ps_raise g.calm g.tk (pmk_own F c1 c2 c3 (raises_own c4 c5) hg hdb)) fun D σ H ⟨lb, ρ, s, o, h⟩ => ?_
  exact h lb σ H _ _ .refl o ⟨rfl, rfl⟩
end
end Pk
/-! Br23: a try whose clauses all bind one name. What is caught is held in one record (Got); one lemma for each thing that is done with it. -/
namespace Pk
open PySem PySem.Spec PyProof.Rows L2
/-- a clause: its class, and how its suite is read -/
abbrev Clause := Value × (Addr → Value → Option Addr → TS)
/-- the name in slot i goes, however the suite ends -/
def unName (i : Nat) (D : Ends) : Ends := ⟨fun σ H => D.nx (σ.set i none) H, D.rt, fun σ H => D.bk (σ.set i none) H, fun σ H => D.ct (σ.set i none) H⟩
/-- what the clauses wish: the first that takes the class has its suite read -/
def wishAs (K : PySem.W.Frag) (i : Nat) (out : WX) (D : Ends) (l : List Clause) : WX :=
  l.foldr (fun cl next cls d σ H => ∃ hit : Bool, PySem.W.exmOne K cls cl.1 = some hit ∧ match hit with
    | true => ∀ e : Addr, H e = none → i < σ.length → cl.2 e cls d (unName i D) (σ.set i (some (.ref e))) H
    | false => next cls d σ H) out
/-- a suite, whatever the exception's address and record -/
abbrev Suite (X : Cx) (sts : List Stmt) (ts : Addr → Value → Option Addr → TS) : Prop :=
  ∀ (e : Addr) (o : Obj) (cls : Value) (d : Option Addr) (pn : List (Addr × Obj)), Zc cls d o → (∃ fs, o.data = .fields fs) → PSs (X.suite e ((e, o) :: pn)) sts (ts e cls d)
inductive Clauses (X : Cx) (n : Str) : List ExceptHandler → List Clause → Prop
  | nil : Clauses X n [] []
  | cons {y : Str} {C : Value} {rd : Addr → Value → Option Addr → TS} {st : Stmt} {sts : List Stmt} {q q' : Pos} {more : List ExceptHandler} {cls : List Clause} :
      Names X y C → Suite X (st :: sts) rd → Clauses X n more cls → Clauses X n (.ExceptHandler (some (.Name y q)) (some n) (st :: sts) q' :: more) ((C, rd) :: cls)
/-- an exception that came to X's hands: sI the state as it rose, s the state now -/
structure Got (X : Cx) (pins : List (Addr × Obj)) (B : Heap) (e : Addr) (cls : Value) (d : Option Addr) (σ : L2.St) (H : Hp) (sI s : Shared) : Prop where
  rose : Inv X pins σ H sI
  low : ∀ b o, sI.heap.get? b = some o → b ∉ frs X.stack → B.get? b = some o
  late : sI.heap.UpToSlots s.heap
  free : H e = none
  oss : s.os = sI.os
  gens : AllBare s.gens
  fly : HandSPX.FlyingZ B X.stack e (Zc cls d) s.heap
section
variable {X : Cx} {pins : List (Addr × Obj)} {B : Heap} {e : Addr} {cls : Value} {d : Option Addr} {σ : L2.St} {H : Hp} {sI s : Shared}
theorem Got.inv (g : Got X pins B e cls d σ H sI s) : Inv X pins σ H s := g.rose.landed g.low g.fly.1 g.late g.oss g.gens
theorem Got.far (g : Got X pins B e cls d σ H sI s) : e ∉ frs X.stack := fun m => by
  obtain ⟨o, fs, at_, _, df⟩ := g.fly.there
  obtain ⟨_, o', at', nf⟩ := g.fly.2.2.1.mem m
  cases at_.symm.trans at'
  exact nf fs df
/-- its flight is put out once more -/
theorem Got.again (g : Got X pins B e cls d σ H sI s) {h : Heap} (f : HandSPX.FlyingZ B X.stack e (Zc cls d) h) (u : s.heap.UpToSlots h) : Got X pins B e cls d σ H sI { s with heap := h } :=
  ⟨g.rose, g.low, g.late.trans u, g.free, g.oss, g.gens, f⟩
/-- within a suite -/
theorem Got.suite (g : Got X pins B e cls d σ H sI s) (hs : X.stack = X.env :: X.outer) (hf : X.env.frame = some X.env.locals) :
    ∃ o, s.heap.get? e = some o ∧ Zc cls d o ∧ (∃ fs, o.data = .fields fs) ∧ Inv (X.suite e ((e, o) :: (X.pn ++ pins))) [] σ H s := by
  obtain ⟨o, fs, at_, z, df⟩ := g.fly.there
  have far := g.far
  rw [hs] at far
  exact ⟨o, at_, z, ⟨fs, df⟩, g.inv.suite at_ df g.free (fun h => far (List.mem_filterMap.mpr ⟨_, .head _, hf.trans (congrArg some h.symm)⟩)) fun m => by
    obtain ⟨en, m1, m2⟩ := List.mem_filterMap.mp m
    exact far (List.mem_filterMap.mpr ⟨en, .tail _ m1, m2⟩)⟩
variable {n : Str} {i : Nat} {D : Ends} {out : WX}
/-- no clause is left: it flies on, out of this frame -/
theorem Got.leave (g : Got X pins B e cls d σ H sI s) (hs : X.stack = X.env :: X.outer) (hf : X.env.frame = some X.env.locals) (tk : Takes X out) (w : out cls d σ H) :
    wpAny (model X.prog X.w) X.A (handleBy (.ref e) X.env []) (SP X pins D) X.xe s := by
  have up : wpAny (model X.prog X.w) X.A (setFlight (.ref e) X.env.frame) (fun _ t => wpAny (model X.prog X.w) X.A (throw (.ref e) : Sem Flow) (SP X pins D) X.xe t) X.xe s := by
    rw [hf]
    exact HandSPX.setFlight_upZ g.fly fun h held u => wpAny_throw (tk _ _ ⟨e, B, sI, pins, σ, H, cls, d, rfl, g.rose, g.low, g.late.trans u, .inr (.inr held), g.free, g.oss, g.gens, w⟩)
  obtain ⟨_, fs, T, _, _, at_, _, df, tb, _⟩ := id g.fly.2.2.2
  refine wpAny_handleBy_nil ?_
  unfold PySem.passOn
  refine wpAny_bind (wpAny_field at_ df tb ?_)
  have nn : ¬ (Value.ref T == Value.none) = true := by simp
  rw [if_neg nn]
  first
    | exact wpAny_bind up
    | exact wpAny_bind (wpAny_pure (wpAny_bind up))
/-- behind the suite the name goes; then the frame ends as the suite did -/
theorem un_name (ok : X.Ok) (hN : X.N.Nodup) (hi : X.N[i]? = some n) (hn : X.env.kindOf n = some .local) {p : Addr × Obj} {q : Pos} : ∀ {fl : Flow} {t : Shared}, SP (X.suite e (p :: (X.pn ++ pins))) [] (unName i D) fl t →
    wpAny (model X.prog X.w) X.A (do bindName X.env n .none; unbindBehindTheSuite X.env n q) (fun _ u => SP X pins D fl u) X.xe t
  | .next, _, ⟨_, _, J, k⟩ => gone_ok (J.unsuite ok) hN hi hn fun _ U => ⟨_, _, U, k⟩
  | .brk, _, ⟨_, _, J, k⟩ => gone_ok (J.unsuite ok) hN hi hn fun _ U => ⟨_, _, U, k⟩
  | .cont, _, ⟨_, _, J, k⟩ => gone_ok (J.unsuite ok) hN hi hn fun _ U => ⟨_, _, U, k⟩
  | .ret _, _, ⟨_, _, _, J, r, k⟩ => gone_ok (J.unsuite ok) hN hi hn fun _ U => ⟨_, _, _, U, r, k⟩
/-- the clauses, one behind the other -/
theorem Got.all (hs : X.stack = X.env :: X.outer) (hf : X.env.frame = some X.env.locals) (hN : X.N.Nodup) (hi : X.N[i]? = some n) (hn : X.env.kindOf n = some .local) (tk : Takes X out) {hds : List ExceptHandler} {l : List Clause} (c : Clauses X n hds l) :
    ∀ {s : Shared}, Got X pins B e cls d σ H sI s → wishAs X.K i out D l cls d σ H → wpAny (model X.prog X.w) X.A (handleBy (.ref e) X.env hds) (SP X pins D) X.xe s := by
  induction c with
  | nil => exact fun g w => g.leave hs hf tk w
  | @cons y C rd st sts q q' more cl nm su _ ih =>
    intro s g ⟨hit, hm, w⟩
    obtain ⟨o, at_, z, _, S⟩ := g.suite hs hf
    -- the class is asked for by its name
    have named : ∀ {Q E : Value → Shared → Prop}, Q C s → wpAny (model X.prog X.w) (X.A.mark (some (.ref e))) (eval (.Name y q) X.env) Q E s := fun h => match nm with
      | ⟨k1, k2, .inl k3⟩ => ld_glob (X := X.suite e ((e, o) :: (X.pn ++ pins))) S k1 k3 h k2
      | ⟨k1, k2, .inr ⟨k3, k4, k5⟩⟩ => ld_blt (X := X.suite e ((e, o) :: (X.pn ++ pins))) S k1 k3 k4 h k5 k2
    have asked := PySem.W.exm_one (M := model X.prog X.w) g.inv.kIn (fun _ _ _ _ k h => wpAny_typeOf_ref (k _ _ at_) (z.1 ▸ h)) hm
    refine wpAny_handleBy_cons (codeAny_handlers_test (named (asked.here ?_))) fun h => nomatch h
    cases hit with
    | false => exact ih g w
    | true =>
      refine codeAny_handlers_suite_as (HandSPX.lands_againZ g.fly fun h f u => ?_)
      obtain ⟨o2, _, z2, df2, S2⟩ := (g.again f u).suite hs hf
      refine store_ok (X := X.suite e ((e, o2) :: (X.pn ++ pins))) (v := .ref e) S2 hN hi (.inl hn) rfl (fun t T => ?_) (.inr hn)
      have room : i < σ.length := by rw [g.rose.len]; exact (List.getElem?_eq_some_iff.mp hi).1
      exact wpAny_mono ((su e o2 cls d _ z2 df2).run [] t _ H _ T (w e g.free room)) (fun _ _ k => un_name g.rose.ok hN hi hn k) fun _ _ k => k.elim
end
end Pk
/-! Br24: isinstance of the exception that is held; how many of a list's truth values are b; a def that is told of one pinned thing. -/
namespace Pk
open PySem PySem.Spec PyProof.Rows L2

/-- the exception's dict stands -/
def DOk (d : Option Addr) (H : Hp) : Prop := ∀ dx, d = some dx → ∃ fs, H dx = some (.xd fs)
theorem DOk.ext {d : Option Addr} {H H' : Hp} (h : DOk d H) (e : Ext H H') : DOk d H' := fun dx z => (h dx z).imp fun _ q => e _ _ q
/-! ### l.count(b) of truth values -/
/-! ### a def that is told of one pinned thing -/
end Pk
/-! Br25: _law_which. -/
namespace Pk
open PySem PySem.Spec PyProof.Rows L2

section
variable {X : Cx} {a : Addr} {d : Option Addr}
theorem Ext.same {H H' : Hp} {p : Addr} {o : HO} (e : Ext H H') (n : H p = none) : Ext H (L2.upd H' p o) := fun b x h => by
  rw [upd_ne (ne_of_none h n)]
  exact e b x h
end
/-- the classes of the errors -/
structure ExX (cn : Cn) : Prop where
  exc : ∀ k, k < 12 → ExcC cn.K (cn.cls k)
  kit : ∀ k j, k < 12 → j < 12 → PySem.W.kitOne cn.K (.ref (cn.cls k)) (.ref (cn.cls j)) = some (k == j)
  kve : ∀ k, k < 12 → PySem.W.kitOne cn.K (.ref (cn.cls k)) (.type "ValueError") = some true
  kle : ∀ k, k < 12 → PySem.W.kitOne cn.K (.ref (cn.cls k)) (.ref (cn.cls 12)) = some true
  exm : ∀ k, k < 12 → PySem.W.exmOne cn.K (.ref (cn.cls k)) (.ref (cn.cls 12)) = some true
  ex1 : ∀ k, k < 12 → PySem.W.exmOne cn.K (.ref (cn.cls k)) (.ref (cn.cls 1)) = some (k == 1)
  ex2 : ∀ k, k < 12 → PySem.W.exmOne cn.K (.ref (cn.cls k)) (.ref (cn.cls 2)) = some (k == 2)
/-- the names of the error classes in the text -/
structure ExN (cn : Cn) (mg : Str → Option Value) : Prop where
  n0 : mg "NoLand" = some (.ref (cn.cls 0))
  n1 : mg "NoCell" = some (.ref (cn.cls 1))
  n2 : mg "NoPeak" = some (.ref (cn.cls 2))
  n3 : mg "NoLevel" = some (.ref (cn.cls 3))
  n4 : mg "NoSlope" = some (.ref (cn.cls 4))
  n5 : mg "NoWalk" = some (.ref (cn.cls 5))
  n6 : mg "NoHeight" = some (.ref (cn.cls 6))
  n7 : mg "NoFit" = some (.ref (cn.cls 7))
  n8 : mg "NoKind" = some (.ref (cn.cls 8))
  n9 : mg "NoText" = some (.ref (cn.cls 9))
  n10 : mg "TooMany" = some (.ref (cn.cls 10))
  n11 : mg "Nothing" = some (.ref (cn.cls 11))
  n12 : mg "LandError" = some (.ref (cn.cls 12))
  is : mg "isinstance" = none
  ve : mg "ValueError" = none
end Pk
/-! Br26: the suites of the laws' try; raise NoCell(x). -/
namespace Pk
open PySem PySem.Spec PyProof.Rows L2

/-! ### suites -/
def tsWhich (cn : Cn) (i : Nat) : Addr → Value → Option Addr → TS := fun a cls d D σ H => ∃ k, k < 12 ∧ cls = .ref (cn.cls k) ∧ σ[i]? = some (some (.ref a)) ∧ DOk d H ∧ ∀ q H', Ext H H' → H q = none → H' q = some (.tup [.str "refused", .int (k : Nat)]) → D.rt (.ref q) H'
def tsCell (cn : Cn) (i : Nat) (m : Nat) (txt : Str) : Addr → Value → Option Addr → TS := fun a cls d D σ H => cls = .ref (cn.cls m) ∧ σ[i]? = some (some (.ref a)) ∧ ∃ dd v, d = some dd ∧ H dd = some (.xd [("cell", v)]) ∧ ∀ q H', Ext H H' → H q = none → H' q = some (.tup [.str txt, v]) → D.rt (.ref q) H'
def tsCell4 (cn : Cn) (i : Nat) : Addr → Value → Option Addr → TS := fun a cls d D σ H => cls = .ref (cn.cls 1) ∧ σ[i]? = some (some (.ref a)) ∧ ∃ dd v, d = some dd ∧ H dd = some (.xd [("cell", v)]) ∧ ∀ q q' H', Ext H H' → H q = none → H q' = none → H' q' = some (.tup [.str "refused", .int (1 : Nat)]) → H' q = some (.tup [.str "cell", v, .bl true, .ref q']) → D.rt (.ref q) H'
def tsPeak3 (cn : Cn) (i : Nat) : Addr → Value → Option Addr → TS := fun a cls d D σ H => cls = .ref (cn.cls 2) ∧ σ[i]? = some (some (.ref a)) ∧ ∃ dd v, d = some dd ∧ H dd = some (.xd [("cell", v)]) ∧ ∀ q q' H', Ext H H' → H q = none → H q' = none → H' q' = some (.tup [.str "refused", .int (2 : Nat)]) → H' q = some (.tup [.str "peak", v, .ref q']) → D.rt (.ref q) H'
/-! ### try -/
def Hk.cls (h : Hk) (cn : Cn) (i : Nat) : List (Value × (Addr → Value → Option Addr → TS)) := match h with
  | .no => [(.ref (cn.cls 12), tsWhich cn i)]
  | .cell => [(.ref (cn.cls 1), tsCell cn i 1 "cell"), (.ref (cn.cls 12), tsWhich cn i)]
  | .cell4 => [(.ref (cn.cls 1), tsCell4 cn i), (.ref (cn.cls 12), tsWhich cn i)]
  | .peak3 => [(.ref (cn.cls 2), tsPeak3 cn i), (.ref (cn.cls 12), tsWhich cn i)]
section
variable {X : Cx} {b : Bd} {n : Nat}
/-! ### raise NoCell(x) -/
/-- the thing o is such a class at C, its __new__ ValueError's -/
def oexO (C : Addr) : Obj → Bool
  | { cls := .type "type", data := .cls { mro := .ref B :: above, hasDict := true, hasDel := false, .. }, slots := ⟨[_, _, _, _, some (.builtin made), _]⟩, .. } => B == C && made == "ValueError.__new__" && PySem.HandSPX.refsVE above
  | _ => false
def oexB (K : PySem.W.Frag) (C : Addr) : Bool := (K.lookup C).any (oexO C)
theorem oexO_ok {C : Addr} {o : Obj} (q : oexO C o = true) : ∃ nm q N bs bm sn sub ab col dd k0 k1 k2 k3 k5, o = excClassObj nm q C N bs bm true sn sub ab col dd k0 k1 k2 k3 k5 "ValueError.__new__" ∧ PySem.HandSPX.refsVE bm = true := by
  unfold oexO at q
  split at q
  · simp only [Bool.and_eq_true, beq_iff_eq] at q
    obtain ⟨⟨rfl, rfl⟩, above⟩ := q
    exact ⟨_, _, _, _, _, _, _, _, _, _, _, _, _, _, _, rfl, above⟩
  · cases q
theorem oexB_ok {K : PySem.W.Frag} {C : Addr} (q : oexB K C = true) : ∃ nm q N bs bm sn sub ab col dd k0 k1 k2 k3 k5, K.lookup C = some (excClassObj nm q C N bs bm true sn sub ab col dd k0 k1 k2 k3 k5 "ValueError.__new__") ∧ PySem.HandSPX.refsVE bm = true := by
  obtain ⟨o, there, is⟩ := Option.any_eq_true .. |>.mp q
  obtain ⟨nm, qn, N, bs, bm, sn, sub, ab, col, dd, k0, k1, k2, k3, k5, rfl, above⟩ := oexO_ok is
  exact ⟨nm, qn, N, bs, bm, sn, sub, ab, col, dd, k0, k1, k2, k3, k5, there, above⟩
/-- __init__'s promise -/
def spI (C : Addr) : Sp := fun vs H Q _ => ∃ a v, vs = [.ref a, v] ∧ H a = some (exo a C none) ∧ ∀ dx, H dx = none → dx ≠ a → Q .non (L2.upd (L2.upd H dx (exd dx [("cell", v)])) a (exo a C (some dx)))
theorem init_ok {cn : Cn} {P : Program} {w : World} {mg : Str → Option Value} {base : Heap} {x qual : Str} {params : Arguments} {body : List Stmt} {scope : Scope} {kws : List (Str × V)} {f C : Addr} {fd : FuncData}
    (F : FunD cn.K x qual params body scope [] kws f fd) (S : FnScope ["self", "cell"] ["self", "cell"] scope) (T : OexC cn.K C) (hno : PySem.W.findIn cn.K (.ref C) "cell" = some none)
    (hb : ∀ (cdv : Value) (A : Around) (outer : List PySem.Env) (s : Shared) (H : Hp) (E : XK), PSs (cxOf (L2.CX P w) P w cn.K mg base ["self", "cell"] qual scope f cdv A outer s H E) body (tOst cn.K "cell" (tVar 0) (tVar 1))) :
    FnOk P w cn.K mg base (L2.CX P w) 1 f fd ["self", "cell"] (spI C) := by
  refine F.ok S (fun vs H Q E h => ?_) fun cdv A outer s H vs Q E hr h => ?_
  · obtain ⟨a, v, rfl, _⟩ := h
    rfl
  · obtain ⟨a, v, rfl, ha, hq⟩ := h
    exact ⟨_, hb cdv A outer s H E, v, rfl, .ref a, rfl, a, C, rfl, T, hno, .inl ⟨ha, fun dx n ne => hq dx n ne⟩⟩
/-- the class number k, with __init__(self, cell) -/
structure ErrI (cn : Cn) (P : Program) (w : World) (mg : Str → Option Value) (base : Heap) (k : Nat) (x : Str) : Prop where
  T : OexC cn.K (cn.cls k)
  at_ : mg x = some (.ref (cn.cls k))
  ini : ∃ (f : Addr) (fd : FuncData), FnOk P w cn.K mg base (L2.CX P w) 1 f fd ["self", "cell"] (spI (cn.cls k)) ∧ PySem.W.findIn cn.K (.ref (cn.cls k)) "__init__" = some (some (.ref f)) ∧ PySem.W.typeIn cn.K (.ref f) = some (.type "function") ∧ Binds cn.K fd ["self", "cell"] []
theorem ds_raiseC {k : Nat} {x : Str} {e : Expr} {m : M D} {p pos pos' : Pos} {P : Program} {w : World} {mg : Str → Option Value} {base : Heap} (g : Gd n X b) (I : ErrI b.cn P w mg base k x) (hn : 2 ≤ n) (hP : X.prog = P) (hw : X.w = w) (hm : X.mg = mg) (hb : X.base = base) (hg : Gl X x) (h : DE X b e m)
    (hdb : (x == ("__debug__" : Str)) = false := by decide) (he : starEach [e] X.env = (false, eval e X.env) :: starEach [] X.env := by rfl) :
    DS X b (.Raise (some (.Call (.Name x p) [e] [] pos)) none pos') (sRaise k (some m)) := by
  subst hP hw hm hb
  obtain ⟨T, at_, f, fd, F, iC, tI, hbd⟩ := I
  have kk := g.kk
  rw [kk] at T F iC tI hbd
  refine PS.imp (ps_raise g.calm g.tk (pmk_oex (dvs := []) T iC tI F (g.room.mono hn) hbd .nil (fun _ _ _ _ _ _ _ z => by obtain ⟨_, _, _, _, _, _, _, _, _, _, _, _, z⟩ := z; exact z.elim) hg at_ (pa_cons h pa_nil he) hdb he rfl)) fun D σ H ⟨lb, ρ, s, o, p⟩ => ?_
  have p : SPost b D lb H ((m ρ s).bind fun d r s => .exc ⟨k, some d⟩ r s) := p
  refine ⟨lb, ρ, s, o, (SPost.bind (D := D) (σ := σ) p).mono fun dv ρ1 s1 lb1 H1 st o1 q => fun v H2 ex r => ?_⟩
  have o2 := o1.ext ex
  have st2 := o1.stp_ext ex
  refine ⟨by simp, fun a na => ⟨a, v, rfl, upd_same, fun dx nd ne => ⟨rfl, dx, [("cell", v)], upd_same, by rw [upd_ne ne]; exact upd_same, ?_, ?_⟩⟩⟩
  · rw [upd_ne ne] at nd; exact nd
  · have nd2 : H2 dx = none := by rw [upd_ne ne] at nd; exact nd
    have eH : L2.upd (del (L2.upd (L2.upd (L2.upd H2 a (exo a (b.cn.cls k) none)) dx (exd dx [("cell", v)])) a (exo a (b.cn.cls k) (some dx))) a) dx (.xd [("cell", v)]) = L2.upd H2 dx (.xd [("cell", v)]) := by
      funext c
      by_cases hc : c = dx
      · rw [hc, upd_same, upd_same]
      · rw [upd_ne hc, upd_ne hc]
        by_cases ha : c = a
        · rw [ha, del_same, na]
        · rw [del_ne ha, upd_ne ha, upd_ne hc, upd_ne ha]
    rw [eH]
    have ex3 := Ext.upd (o := .xd [("cell", v)]) nd2
    exact q lb1 σ _ _ _ (st2.trans (o2.stp_ext ex3)) (o2.ext ex3) ⟨rfl, dx, v, rfl, Has.none o2.has nd2, upd_same, r.stp (o2.stp_ext ex3)⟩
end
end Pk
/-! Br27: [f, g, ..][i](a, ..). -/
namespace Pk
open PySem PySem.Spec PyProof.Rows L2
section
variable {X : Cx} {b : Bd} {n : Nat}
/-- the defs of a table -/
inductive TabOk (X : Cx) (b : Bd) (n : Nat) : List Expr → List Fn → Prop
  | nil : TabOk X b n [] []
  | cons {k : Nat} {x : Str} {F : Fn} {p : Pos} {es : List Expr} {Fs : List Fn} (G : FnG b.cn X.prog X.w X.mg X.base k x F []) (hk : k ≤ n) (hg : Gl X x) (hd : (x == ("__debug__" : Str)) = false) (r : TabOk X b n es Fs) : TabOk X b n (.Name x p :: es) (F :: Fs)
end
end Pk
/-! Br28: the head's facts, with the error classes. -/
namespace Pk
open PySem PySem.Spec PyProof.Rows L2
/-- the first def of a class -/
def clsM (s : Stmt) : Stmt := match s with
  | .ClassDef _ _ _ (m :: _) .. => m
  | s => s
def obsX (fa : List He.Fa) (fn : List He.DefD) (fx : PySem.W.Frag → Bool) (K : PySem.W.Frag) : He.AlD := (((fa.all fun f => f.ok K) && fn.all fun d => d.ok K) && fx K, fn.map fun d => He.fnW K d.at_)
def SaysX (fa : List He.Fa) (fn : List He.DefD) (fx : PySem.W.Frag → Bool) (K : PySem.W.Frag) : Prop := obsX fa fn fx K = He.valD fn
section
variable {fa : List He.Fa} {fn : List He.DefD} {fx : PySem.W.Frag → Bool} {K : PySem.W.Frag}
theorem SaysX.d (c : SaysX fa fn fx K) : He.SaysD fa fn K := by
  have h1 := (He.ba (show (((fa.all fun f => f.ok K) && fn.all fun d => d.ok K) && fx K) = true from congrArg (fun z : He.AlD => z.1) c)).1
  have h2 : fn.map (fun d => He.fnW K d.at_) = fn.map He.DefD.val := congrArg (fun z : He.AlD => z.2) c
  show He.obsD fa fn K = He.valD fn
  unfold He.obsD He.valD
  rw [h1, h2]
theorem SaysX.x (c : SaysX fa fn fx K) : fx K = true := (He.ba (show (((fa.all fun f => f.ok K) && fn.all fun d => d.ok K) && fx K) = true from congrArg (fun z : He.AlD => z.1) c)).2
end
/-! ### the error classes -/
def exNames : List Str := ["NoLand", "NoCell", "NoPeak", "NoLevel", "NoSlope", "NoWalk", "NoHeight", "NoFit", "NoKind", "NoText", "TooMany", "Nothing", "LandError"]
def exCls (K : PySem.W.Frag) (k : Nat) : Addr := He.ga K (exNames.getD k "")
/-- a class with __init__(self, cell) -/
def oexA (K : PySem.W.Frag) (C : Addr) : Bool := oexB K C && (He.eqO (PySem.W.findIn K (.ref C) "__setattr__") (some (some (.builtin "object.__setattr__"))) && (decide (PySem.W.subIn K (.ref C) (.type "BaseException") = some true) && (decide (PySem.W.typeIn K (.ref C) = some (.type "type")) && (PySem.W.keepIn K (.ref C) &&
  (He.eqO (PySem.W.findIn K (.ref C) "cell") (some none) && (He.eqO (PySem.W.findIn K (.ref C) "__init__") (some (some (.ref (He.ma K C "__init__")))) && (decide (PySem.W.typeIn K (.ref (He.ma K C "__init__")) = some (.type "function")) && xfB K C)))))))
structure OexA (K : PySem.W.Frag) (C : Addr) : Prop where
  T : OexC K C
  no : PySem.W.findIn K (.ref C) "cell" = some none
  ini : PySem.W.findIn K (.ref C) "__init__" = some (some (.ref (He.ma K C "__init__")))
  ty : PySem.W.typeIn K (.ref (He.ma K C "__init__")) = some (.type "function")
  xf : XfC K C
theorem oexA_ok {K : PySem.W.Frag} {C : Addr} (h : oexA K C = true) : OexA K C := by
  obtain ⟨h1, h⟩ := He.ba h
  obtain ⟨h2, h⟩ := He.ba h
  obtain ⟨h3, h⟩ := He.ba h
  obtain ⟨h4, h⟩ := He.ba h
  obtain ⟨h5, h⟩ := He.ba h
  obtain ⟨h6, h⟩ := He.ba h
  obtain ⟨h7, h⟩ := He.ba h
  obtain ⟨h8, h9⟩ := He.ba h
  exact ⟨⟨oexB_ok h1, He.eqO_ok h2, of_decide_eq_true h3, of_decide_eq_true h4, h5⟩, He.eqO_ok h6, He.eqO_ok h7, of_decide_eq_true h8, xfB_ok h9⟩
/-- by what the head told -/
theorem errC_of {cn : Cn} {h : Heap} {mg : Str → Option Value} {x : Str} {k : Nat} (hc : cn.cls = exCls cn.K) (hx : exNames.getD k "" = x) (X : cn.K.In h) (G : h.Ns mainGlobals mg) (c : (He.Fa.exc x).ok cn.K = true) (c2 : (He.Fa.glo x).ok cn.K = true) : ErrC cn mg k x := by
  have e : cn.cls k = He.ga cn.K x := by rw [hc]; unfold exCls; rw [hx]
  obtain ⟨c1, c3, c4, c5⟩ := He.exc_ok c
  refine ⟨?_, ?_, ?_, ?_, ?_⟩ <;> rw [e]
  · exact c1
  · exact He.glo_ok X G c2
  · exact c3
  · exact c4
  · exact c5
theorem errI_of {cn : Cn} {P : Program} {w : World} {mg : Str → Option Value} {base : Heap} {h : Heap} {x qual : Str} {params : Arguments} {body : List Stmt} {scope : Scope} {fd : FuncData} {k : Nat} (hc : cn.cls = exCls cn.K) (hx : exNames.getD k "" = x) (X : cn.K.In h) (G : h.Ns mainGlobals mg) (c2 : (He.Fa.glo x).ok cn.K = true)
    (O : OexA cn.K (cn.cls k)) (F : FunD cn.K "__init__" qual params body scope [] [] (He.fAd cn.K (x, some "__init__")) fd) (S : FnScope ["self", "cell"] ["self", "cell"] scope)
    (hb : ∀ (f : Addr) (cdv : Value) (A : Around) (outer : List PySem.Env) (s : Shared) (H : Hp) (E : XK), PSs (cxOf (L2.CX P w) P w cn.K mg base ["self", "cell"] qual scope f cdv A outer s H E) body (tOst cn.K "cell" (tVar 0) (tVar 1)))
    (h2 : ∀ (kV doc pm : Value) (an : Option Addr) (cdv ct : Value) (us : List Value), us.length = 2 → bindArgs (PySem.W.fnOf "__init__" qual params body scope .none kV doc pm an cdv ct) ⟨us, []⟩ = pure ((["self", "cell"] : List Str).zip us)) : ErrI cn P w mg base k x := by
  have e : cn.cls k = He.ga cn.K x := by rw [hc]; unfold exCls; rw [hx]
  have ef : He.fAd cn.K (x, some "__init__") = He.ma cn.K (cn.cls k) "__init__" := by rw [e]; rfl
  rw [ef] at F
  refine ⟨O.T, by rw [e]; exact He.glo_ok X G c2, _, fd, init_ok F S O.T O.no (fun cdv A outer s H E => hb _ cdv A outer s H E), O.ini, O.ty, F.bindsN h2⟩
end Pk
/-! Br29: x * y of a tuple and a number. -/
namespace Pk
open PySem PySem.Spec PyProof.Rows L2
end Pk
/-! Br30: len(set(x)) of tuples of numbers. -/
namespace Pk
open PySem PySem.Spec PyProof.Rows L2
end Pk
/-! Br31: list(it) of an iterator that hands on itself; list(reversed(x)). -/
namespace Pk
open PySem PySem.Spec PyProof.Rows L2 RT
/-- what list(it) must know of an iterator ahead of its walk -/
structure ItKnown (prog : Program) (w : World) (A : Around) (it : Addr) (s : Shared) : Prop where
  type : s.TypeIs (.ref it) "list_reverseiterator"
  unsure : ∀ (E : Value → Shared → Prop) (Q : Bool → Shared → Prop), Q false s → wpAny (model prog w) A (Builtin.List.listLengthHint (.ref it)) Q E s
end Pk
/-! Br32: dict(pairs), d[k] with keys that are tuples of numbers. -/
namespace Pk
open PySem PySem.Spec PyProof.Rows L2
section
variable {X : Cx} {b : Bd} {n : Nat} {cn : Cn}
theorem pairsT_of {pins : List (Addr × Obj)} {σ : L2.St} {H : Hp} {s : Shared} (I : Inv X pins σ H s) : ∀ {ps : List Addr} {kvs : List (List Int × Addr × V)}, Paired (fun p kv => H p = some (.tup [.ref kv.2.1, kv.2.2]) ∧ H kv.2.1 = some (.tup (kv.1.map V.int))) ps kvs →
    ∃ prs : List (List Key × Addr × Value), Paired (fun (kv : List Int × Addr × V) q => kv.1.map Sum.inl = q.1 ∧ q.2.1 = kv.2.1 ∧ RelV kv.2.2 q.2.2) kvs prs ∧ prs.length = ps.length ∧ ∀ (j : Nat) (q : List Key × Addr × Value), prs[j]? = some q → ∃ c : Addr, ps[j]? = some c ∧ IsTup s.heap c #[.ref q.2.1, q.2.2] ∧ H q.2.1 = some (.tup (q.1.map kV))
  | _, _, .nil => ⟨[], .nil, rfl, fun j q e => by simp at e⟩
  | _, _, .cons (a := p) (b := kv) h t => by
    obtain ⟨prs, r, hl, hp⟩ := pairsT_of I t
    obtain ⟨its, rv, ht, _⟩ := I.tuple (.of h.1)
    obtain ⟨u, y, ei, ru, ry⟩ := vals2 rv
    subst ei
    obtain rfl : u = Value.ref kv.2.1 := ru
    refine ⟨(kv.1.map Sum.inl, kv.2.1, y) :: prs, .cons ⟨rfl, rfl, ry⟩ r, by rw [List.length_cons, List.length_cons, hl], fun j q e => ?_⟩
    cases j with
    | zero =>
      have e' : (kv.1.map Sum.inl, kv.2.1, y) = q := Option.some.inj e
      subst e'
      refine ⟨p, rfl, ht, ?_⟩
      rw [List.map_map]
      exact h.2
    | succ j =>
      obtain ⟨c, e1, e2, e3⟩ := hp j q (by simpa using e)
      exact ⟨c, by simpa using e1, e2, e3⟩
theorem stored_nodup : ∀ (ps xs : List (List Key × Addr × Value)), ((xs ++ ps).map (·.1)).Nodup → storedAllH xs ps = xs ++ ps
  | [], xs, _ => by simp [storedAllH]
  | p :: ps, xs, h => by
    have hn : atKey xs p.1 = none := by
      unfold atKey
      have : xs.find? (fun x => decide (x.1 = p.1)) = none := List.find?_eq_none.mpr fun x hx z => by
        have z : x.1 = p.1 := of_decide_eq_true z
        rw [List.map_append, List.nodup_append] at h
        exact h.2.2 x.1 (List.mem_map.mpr ⟨x, hx, rfl⟩) p.1 (by simp) z
      rw [this]
      rfl
    have e : storedAllH xs (p :: ps) = storedAllH (storedH xs p.1 p.2.1 p.2.2) ps := rfl
    rw [e, storedH_new hn, stored_nodup ps (xs ++ [(p.1, p.2.1, p.2.2)]) (by simpa using h)]
    simp
/-- dict(x), x a list of pairs (tuple of numbers, value), no two keys alike -/
def rDictT (K : PySem.W.Frag) : List V → Hp → VK → Prop := fun xs H Q => ∃ (a : Addr) (ps : List Addr) (kvs : List (List Int × Addr × V)), xs = [.ref a] ∧ SqL K H a (ps.map V.ref) ∧ Paired (fun p kv => H p = some (.tup [.ref kv.2.1, kv.2.2]) ∧ H kv.2.1 = some (.tup (kv.1.map V.int))) ps kvs ∧ (kvs.map (·.1)).Nodup ∧
  ∀ p, H p = none → Q (.ref p) (L2.upd H p (.dT (kvs.map fun kv => (kv.1.map Sum.inl, kv.2.2))))
theorem call_dictT (hcalm : X.calm = true) (hu : X.A.units + 10 < cLine) : CallR X (.type "dict") (rDictT X.K) := by
  intro pins s σ H xs us Q I r q
  obtain ⟨a, ps, kvs, ex, hq, hp, nd, q⟩ := q
  subst ex
  obtain ⟨u, eu, rx⟩ := vals1 r
  subst eu
  cases rx
  obtain ⟨its, rv, pl, hz⟩ := I.list hq
  have ei := refs_at rv
  subst ei
  rw [List.length_map] at hz
  obtain ⟨prs, rel, hl, hpr⟩ := pairsT_of I hp
  obtain ⟨o, nn, ho, hc, hd, hdat⟩ := pl
  have ndp : (prs.map (·.1)).Nodup := by
    have key : ∀ {kvs : List (List Int × Addr × V)} {prs : List (List Key × Addr × Value)}, Paired (fun (kv : List Int × Addr × V) q => kv.1.map Sum.inl = q.1 ∧ q.2.1 = kv.2.1 ∧ RelV kv.2.2 q.2.2) kvs prs → prs.map (·.1) = (kvs.map (·.1)).map (List.map Sum.inl) := fun h => by
      induction h with
      | nil => rfl
      | cons h t ih => rw [List.map_cons, List.map_cons, List.map_cons, ih, ← h.1]
    rw [key rel]
    refine List.pairwise_map.mpr (nd.imp fun {x y} hxy e => hxy ?_)
    have := congrArg (List.map fun k : Key => match k with | .inl i => i | .inr _ => 0) e
    simpa [List.map_map, Function.comp_def] using this
  have hkeys : ∀ x ∈ prs, H x.2.1 = some (.tup (x.1.map kV)) := fun x hx => by
    obtain ⟨j, hj, e⟩ := List.getElem_of_mem hx
    obtain ⟨c, _, _, e3⟩ := hpr j x (by rw [List.getElem?_eq_getElem hj, e])
    exact e3
  let Ts : Nat → Addr := fun j => ps.getD j 0
  have PA := PairArg.list (prog := X.prog) (w := X.w) a (ps.map Value.ref).toArray Ts (prs.map fun x => (Value.ref x.2.1, x.2.2))
  have hOK : PlainSeq "list" s.heap a (ps.map Value.ref).toArray ∧ PairItems s.heap (ps.map Value.ref).toArray Ts (prs.map fun x => (Value.ref x.2.1, x.2.2)) := by
    refine ⟨⟨o, nn, ho, hc, hd, hdat⟩, by simp [hl], fun j k v e => ?_⟩
    rw [List.getElem?_map] at e
    cases ej : prs[j]? with
    | none => rw [ej] at e; cases e
    | some x =>
      rw [ej] at e
      simp only [Option.map_some, Option.some.injEq, Prod.mk.injEq] at e
      obtain ⟨rfl, rfl⟩ := e
      obtain ⟨c, e1, e2, _⟩ := hpr j x ej
      have ec : Ts j = c := by show ps.getD j 0 = c; rw [List.getD_eq_getElem?_getD, e1]; rfl
      rw [ec]
      exact ⟨by simp [e1], .inl e2⟩
  refine call_dict_pairsH (knd := tupleKind (mixKind X.prog X.w)) (ps := prs) PA (I.ok.hd hcalm) (show X.A.in1.in1.units < cLine from by show X.A.units + 1 + 1 < cLine; omega) hOK ⟨by simp, fun i key v e => ?_⟩ (fun h' hk x hx => ?_) (by simp [hl]; exact hz) fun h' tk hd' hk => ?_
  · rw [PairRel, List.getElem?_map] at e
    cases ej : prs[i]? with
    | none => rw [ej] at e; cases e
    | some x =>
      rw [ej] at e
      simp only [Option.map_some, Option.some.injEq, Prod.mk.injEq] at e
      exact ⟨x.1, x.2.1, by rw [← e.2], e.1.symm⟩
  · obtain ⟨ob, its, m, h1, h2, h3, h4⟩ := key_of I.hok (hkeys x hx)
    exact ⟨ob, its, m, hk _ _ (Nat.ne_of_lt (Heap.lt_size h1)) (by simp) h1, h2, h3, h4⟩
  · have hm : (s.heap.objs.size == sysModules) = false := beq_eq_false_iff_ne.mpr (Nat.ne_of_gt I.big)
    have hlen : (kvs.map fun kv => ((kv.1.map Sum.inl : List Key), kv.2.2)).length ≤ sizeLine := by rw [List.length_map, Paired.length rel, hl]; exact hz
    have nH : H s.heap.objs.size = none := I.hok.fresh (Nat.le_refl _)
    rw [stored_nodup prs [] (by simpa using ndp), List.nil_append] at hd'
    obtain ⟨od, es, ep, d1, d2, d3, d4, d5, d6⟩ := hd'
    refine ⟨.ref s.heap.objs.size, _, I.laid (t' := tk) (o := .dT (kvs.map fun kv => (kv.1.map Sum.inl, kv.2.2))) (fun b o e => hk b o (by simp) e) (Nat.le_refl _) ⟨hlen, hm, prs, ?_, od, es, ep, d1, d2, d3, d4, d6⟩, rfl, q _ nH⟩
    have key : ∀ (H2 : Hp) {kvs : List (List Int × Addr × V)} {prs : List (List Key × Addr × Value)}, Paired (fun (kv : List Int × Addr × V) q => kv.1.map Sum.inl = q.1 ∧ q.2.1 = kv.2.1 ∧ RelV kv.2.2 q.2.2) kvs prs → (∀ x ∈ prs, H2 x.2.1 = some (.tup (x.1.map kV))) →
        Paired (fun (p : List Key × V) (q : List Key × Addr × Value) => p.1 = q.1 ∧ H2 q.2.1 = some (.tup (p.1.map kV)) ∧ RelV p.2 q.2.2) (kvs.map fun kv => (kv.1.map Sum.inl, kv.2.2)) prs := fun H2 {kvs prs} h => by
      induction h with
      | nil => intro _; exact .nil
      | @cons x y xs ys h t ih =>
        intro hk
        rw [List.map_cons]
        refine .cons ⟨h.1, ?_, h.2.2⟩ (ih fun z hz => hk z (List.mem_cons_of_mem _ hz))
        rw [h.1]
        exact hk y List.mem_cons_self
    exact key _ rel fun x hx => by rw [upd_ne (ne_of_none (hkeys x hx) nH)]; exact hkeys x hx
/-! ### plain -/
theorem pairs_rep {lb : Lb} {H : Hp} : ∀ {l : List D} {vs : List V} {r : List (List Int) × List D}, RepL cn lb H l vs → pairsOf l = some r → ∃ (ps : List Addr) (kvs : List (List Int × Addr × V)), vs = ps.map V.ref ∧ Paired (fun p kv => H p = some (.tup [.ref kv.2.1, kv.2.2]) ∧ H kv.2.1 = some (.tup (kv.1.map V.int))) ps kvs ∧
    kvs.map (·.1) = r.1 ∧ RepL cn lb H r.2 (kvs.map (·.2.2)) ∧ r.1.length = r.2.length
  | [], vs, r, h, e => by
    simp only [RepL] at h
    cases e
    exact ⟨[], [], h, .nil, rfl, .nil, rfl⟩
  | d :: l, vs, r, h, e => by
    simp only [RepL] at h
    obtain ⟨v, r', rfl, r1, r2⟩ := h
    unfold pairsOf at e
    split at e
    · rename_i heq
      cases heq
    · rename_i k x l' heq
      cases heq
      cases e1 : intsOf k with
      | none => rw [e1] at e; cases e
      | some ks =>
        rw [e1] at e
        simp only [Option.bind_some] at e
        cases e2 : pairsOf l with
        | none => rw [e2] at e; cases e
        | some rr =>
          rw [e2] at e
          cases e
          obtain ⟨ps, kvs, p1, p2, p3, p4, p5⟩ := pairs_rep r2 e2
          simp only [Rep] at r1
          obtain ⟨a, xs, rfl, nt, _, rx⟩ := r1
          simp only [RepL] at rx
          obtain ⟨v1, q1, rfl, s1, v2, q2, rfl, s2, rfl⟩ := rx
          simp only [Rep] at s1
          obtain ⟨c, ys, rfl, nc, _, ry⟩ := s1
          rw [ints_rep ry e1] at nc
          exact ⟨a :: ps, (ks, c, v2) :: kvs, by rw [p1]; rfl, .cons ⟨nt.2, nc.2⟩ p2, by rw [List.map_cons, p3], .cons s2 p4, by rw [List.length_cons, List.length_cons, p5]⟩
    · cases e
theorem p1_dict : P1 true cn (fun x H Q => rDictT cn.K [x] H Q) pDict := by
  intro lb H x d e Q hs r h k
  have k : KF cn lb H e Q := k
  cases d with
  | lst l =>
    simp only [pDict] at h
    cases e1 : pairsOf l with
    | none => rw [e1] at h; cases h
    | some rr =>
      rw [e1] at h
      simp only [Option.bind_some] at h
      split at h
      · rename_i hz
        have hz := of_lim hz
        cases h
        obtain ⟨a, vs, rfl, ea, sz, rl⟩ := r.lst
        obtain ⟨ps, kvs, p1, p2, p3, p4, p5⟩ := pairs_rep rl e1
        rw [p1] at ea
        have hlen : rr.1.length ≤ SZ := by rw [← p3, List.length_map, ← Paired.length p2]; have := rl.length; rw [p1, List.length_map] at this; omega
        refine ⟨a, ps, kvs, rfl, .of ea, p2, by rw [p3]; exact hz, fun p np => k p _ np ⟨kvs.map (·.2.2), by rw [List.length_map]; exact hlen, p4, by rw [List.length_map, List.length_map, ← p3, List.length_map], ?_, .inl ⟨rr.1, rfl, ?_⟩⟩⟩
        · exact List.pairwise_map.mpr (hz.imp fun {x y} hxy e => hxy (Ky.t.inj e))
        · rw [← p3, List.map_map, List.zip_map']
          rfl
      · cases h
  | _ => cases h
theorem Gd.dictT (g : Gd n X b) : CallR X (.type "dict") (rDictT b.cn.K) := by rw [g.kk]; exact call_dictT g.calm (by have := g.units; omega)
theorem dget_rep {lb : Lb} {H : Hp} {j : List Int} {d : D} : ∀ {js : List (List Int)} {ds : List D} {vs : List V}, RepL cn lb H ds vs → dctGet (js.map .t) ds (.t j) = some d → ∃ v, valV ((js.map fun j => (j.map Sum.inl : List Key)).zip vs) (j.map Sum.inl : List Key) = some v ∧ Rep cn lb H d v
  | [], ds, vs, r, h => by simp [dctGet] at h
  | k :: js, [], vs, r, h => by simp [dctGet] at h
  | k :: js, e :: ds, vs, r, h => by
    simp only [RepL] at r
    obtain ⟨v, r', rfl, r1, r2⟩ := r
    by_cases hk : k = j
    · subst hk
      simp [dctGet] at h
      subst h
      exact ⟨v, by simp [valV], r1⟩
    · have hk2 : ¬ ((k.map Sum.inl : List Key) = j.map Sum.inl) := fun e => hk (by
        have := congrArg (List.map fun k : Key => match k with | .inl i => i | .inr _ => 0) e
        simpa [List.map_map, Function.comp_def] using this)
      have h' : dctGet (js.map .t) ds (.t j) = some d := by simpa [dctGet, hk] using h
      obtain ⟨u, e1, e2⟩ := dget_rep r2 h'
      refine ⟨u, ?_, e2⟩
      rw [← e1]
      simp only [valV, List.map_cons, List.zip_cons_cons, List.find?_cons, hk2, decide_false]
theorem dgetT {H : Hp} {a b : Addr} {kvs : List (List Key × V)} {k : List Key} (e : Rd H a (.dT kvs)) (eb : H b = some (.tup (k.map kV))) : DGet H a (.ref b) (valV kvs k) := .inr ⟨kvs, k, b, e, rfl, eb, rfl⟩
def rDIx : R2 := fun x y H Q => ∃ a v, x = .ref a ∧ DGet H a y (some v) ∧ Q v H
theorem p2_ixD : P2 false cn rDIx pIxD := by
  intro lb H x y d1 d2 e Q hs r1 r2 h k
  cases d1 with
  | dct ks ds =>
    simp only [pIxD] at h
    cases d2 with
    | tup l =>
      simp only [keyOf] at h
      cases e1 : intsOf l with
      | none => rw [e1] at h; cases h
      | some j =>
        rw [e1] at h
        simp only [Option.map_some, Option.bind_some] at h
        obtain ⟨a, vs, rfl, rl, hl, nd, _, c⟩ := r1.dct
        obtain ⟨p, us, rfl, ep, _, ru⟩ := r2.tup
        rw [ints_rep ru e1] at ep
        rcases c with ⟨js, rfl, ea⟩ | ⟨js, ⟨rfl, _⟩, ea⟩
        · obtain ⟨v, e2, rv⟩ := dget_rep rl h
          refine ⟨a, v, rfl, ?_, KV.now k rv⟩
          have := dgetT (k := j.map Sum.inl) ea (by rw [List.map_map]; exact ep)
          rw [e2] at this
          exact this
        · exfalso
          have : ((js.map Ky.i).zip ds).find? (fun p => decide (p.1 = Ky.t j)) = none := List.find?_eq_none.mpr fun p hp z => by
            have z : p.1 = Ky.t j := of_decide_eq_true z
            obtain ⟨i, _, e⟩ := List.mem_map.mp (List.of_mem_zip (show (p.1, p.2) ∈ _ from hp)).1
            rw [z] at e
            cases e
          simp only [dctGet, this] at h
          cases h
    | _ => cases h
  | _ => cases h
theorem de_ixD {ea ec : Expr} {a c : Opd} {pos : Pos} (g : Gd n X b) (ha : DO X b ea a) (hc : DO X b ec c) (hs : NoSl ec := by exact fun _ _ => rfl) : DE X b (.Subscript ea ec pos) (e2 pIxD a c) :=
  PE.imp (pe_dget (by have := g.units; omega) ha.pe hc.pe hs) fun _ _ _ h => t2_run (r := rDIx) p2_ixD h
end
end Pk
/-! Br33: dicts whose keys are tuples of numbers: {}, k in d, list(d), d[k] = v, d.get(k, x). -/
namespace Pk
open PySem PySem.Spec PyProof.Rows L2
abbrev zipF (js : List (List Int)) (vs : List V) : List (List Key × V) := (js.map fun j => (j.map Sum.inl : List Key)).zip vs
theorem inl_inj {a c : List Int} (e : (a.map Sum.inl : List Key) = c.map Sum.inl) : a = c := by
  have := congrArg (List.map fun k : Key => match k with | .inl i => i | .inr _ => 0) e
  simpa [List.map_map, Function.comp_def] using this
theorem kV_inl (k : List Int) : ((k.map Sum.inl : List Key).map kV) = k.map V.int := by rw [List.map_map]; rfl
theorem valV_mem (j : List Int) : ∀ {js : List (List Int)} {vs : List V}, js.length = vs.length → (valV (zipF js vs) (j.map Sum.inl)).isSome = decide (j ∈ js)
  | [], vs, _ => by simp [zipF, valV]
  | k :: js, [], h => by simp at h
  | k :: js, v :: vs, h => by
    have ih := valV_mem j (js := js) (vs := vs) (by simpa using h)
    by_cases e : k = j
    · subst e
      simp [zipF, valV]
    · have e' : ¬ ((k.map Sum.inl : List Key) = j.map Sum.inl) := fun z => e (inl_inj z)
      have z : valV (zipF (k :: js) (v :: vs)) (j.map Sum.inl) = valV (zipF js vs) (j.map Sum.inl) := valV_neg (p := (k.map Sum.inl, v)) (r := zipF js vs) e'
      rw [z, ih]
      have : decide (j ∈ k :: js) = decide (j ∈ js) := by
        have : (j ∈ k :: js) ↔ j ∈ js := by rw [List.mem_cons]; exact ⟨fun h => h.resolve_left fun q => e q.symm, .inr⟩
        exact decide_eq_decide.mpr this
      rw [this]
theorem mem_t {j : List Int} {js : List (List Int)} : (Ky.t j ∈ js.map Ky.t) ↔ j ∈ js := by
  rw [List.mem_map]
  exact ⟨fun ⟨x, h, e⟩ => by cases e; exact h, fun h => ⟨j, h, rfl⟩⟩
section
variable {X : Cx} {b : Bd} {n : Nat} {cn : Cn}
theorem allT_not {js : List Int} (h : (js.map Ky.i).all isTK = true) (n : js.map Ky.i ≠ []) : False := by
  cases js with
  | nil => exact n rfl
  | cons j js => simp [isTK] at h
theorem RepB.dctT {lb : Lb} {H : Hp} {ks : List Ky} {ds : List D} {v : V} (h : RepB cn lb H (.dct ks ds) v) (t : ks.all isTK = true) : ∃ a vs js, v = .ref a ∧ ks = js.map Ky.t ∧ Rd H a (.dT (zipF js vs)) ∧ RepL cn lb H ds vs ∧ js.length = vs.length ∧ js.Nodup ∧ js.length ≤ SZ := by
  obtain ⟨a, vs, rfl, rl, hl, nd, sz, c⟩ := h.dct
  rcases c with ⟨js, rfl, e⟩ | ⟨js, ⟨rfl, ne⟩, e⟩
  · rw [List.length_map] at hl sz
    exact ⟨a, vs, js, rfl, rfl, e, rl, hl, (List.pairwise_map.mp nd).imp fun {x y} h e => h (by rw [e]), sz⟩
  · exact (allT_not t ne).elim
theorem OwnO.dctT {lb : Lb} {H : Hp} {ks : List Ky} {ds : List D} {o : HO} (h : OwnO cn lb H (.dct ks ds) o) (t : ks.all isTK = true) : ∃ vs js, ks = js.map Ky.t ∧ o = .dT (zipF js vs) ∧ RepL cn lb H ds vs ∧ js.length = vs.length ∧ js.Nodup ∧ js.length ≤ SZ := by
  obtain ⟨vs, sz, rl, hl, nd, c⟩ := h
  rcases c with ⟨js, rfl, e⟩ | ⟨js, ⟨rfl, ne⟩, e⟩
  · rw [List.length_map] at hl sz
    exact ⟨vs, js, rfl, e, rl, hl, (List.pairwise_map.mp nd).imp fun {x y} h e => h (by rw [e]), sz⟩
  · exact (allT_not t ne).elim
theorem OwnO.ofT {lb : Lb} {H : Hp} {ds : List D} {vs : List V} {js : List (List Int)} (rl : RepL cn lb H ds vs) (hl : js.length = vs.length) (nd : js.Nodup) (sz : js.length ≤ SZ) : OwnO cn lb H (.dct (js.map Ky.t) ds) (.dT (zipF js vs)) :=
  ⟨vs, by rw [List.length_map]; exact sz, rl, by rw [List.length_map]; exact hl, List.pairwise_map.mpr (nd.imp fun {x y} h e => h (Ky.t.inj e)), .inl ⟨js, rfl, rfl⟩⟩
theorem keyOf_rep {lb : Lb} {H : Hp} {d : D} {v : V} {k : Ky} (r : RepB cn lb H d v) (h : keyOf d = some k) : ∃ p j, v = .ref p ∧ k = .t j ∧ H p = some (.tup (j.map V.int)) := by
  cases d with
  | tup l =>
    simp only [keyOf] at h
    cases e : intsOf l with
    | none => rw [e] at h; cases h
    | some j =>
      rw [e] at h
      cases h
      obtain ⟨p, us, rfl, ep, _, ru⟩ := r.tup
      rw [ints_rep ru e] at ep
      exact ⟨p, j, rfl, rfl, ep⟩
  | _ => cases h
/-! ### {} -/
theorem df_dct0 {pos : Pos} : DF X b (.Dict [] [] pos) eDct0 := PE.imp pe_dnewT fun σ H Q ⟨lb, ρ, s, o, p⟩ => fun q nq => by
  have k : KF b.cn lb H (.dct [] []) Q := p lb H .refl o
  exact k q _ nq (OwnO.ofT (js := []) .nil rfl List.nodup_nil (by decide))
/-! ### in -/
def rDIn : R2 := fun y x H Q => ∃ a o, x = .ref a ∧ DGet H a y o ∧ Q (.bl o.isSome) H
def rDNotIn : R2 := fun y x H Q => ∃ a o, x = .ref a ∧ DGet H a y o ∧ Q (.bl (!o.isSome)) H
theorem op_din (hu : X.A.units + 1 < cLine) : OpR X (compareOp .In) rDIn := by
  intro pins s σ H y x v u Q I ry rx h
  obtain ⟨a, o, rfl, g, q⟩ := h
  obtain rfl : u = Value.ref a := rx
  exact d_in hu I g ry fun s' I' => ⟨.bl o.isSome, H, I', rfl, q⟩
theorem op_dnotin (hu : X.A.units + 1 < cLine) : OpR X (compareOp .NotIn) rDNotIn := by
  intro pins s σ H y x v u Q I ry rx h
  obtain ⟨a, o, rfl, g, q⟩ := h
  obtain rfl : u = Value.ref a := rx
  exact d_notIn hu I g ry fun s' I' => ⟨.bl (!o.isSome), H, I', rfl, q⟩
theorem dget_at {lb : Lb} {H : Hp} {d1 : D} {x y : V} {ks : List Ky} {ds : List D} {k : Ky} (r1 : RepB cn lb H d1 x) (r2 : RepB cn lb H (.dct ks ds) y) (t : ks.all isTK = true) (h : keyOf d1 = some k) : ∃ a o, y = .ref a ∧ DGet H a x o ∧ o.isSome = decide (k ∈ ks) := by
  obtain ⟨p, j, rfl, rfl, ep⟩ := keyOf_rep r1 h
  obtain ⟨a, vs, js, rfl, rfl, ea, rl, hl, _⟩ := r2.dctT t
  refine ⟨a, _, rfl, dgetT (k := j.map Sum.inl) ea (by rw [kV_inl]; exact ep), ?_⟩
  rw [valV_mem j hl]
  exact decide_eq_decide.mpr mem_t.symm
theorem p2_inDct : P2 false cn rDIn pInD := by
  intro lb H x y d1 d2 e Q hs r1 r2 h k
  cases d2 with
  | dct ks ds =>
    simp only [pInD] at h
    split at h
    · rename_i t
      cases e1 : keyOf d1 with
      | none => rw [e1] at h; cases h
      | some key =>
        rw [e1] at h
        cases h
        obtain ⟨a, o, rfl, g, eo⟩ := dget_at r1 r2 t e1
        exact ⟨a, o, rfl, g, KV.now k (by rw [eo]; simp only [Rep])⟩
    · cases h
  | _ => cases h
theorem p2_notInDct : P2 false cn rDNotIn pNotInD := by
  intro lb H x y d1 d2 e Q hs r1 r2 h k
  cases d2 with
  | dct ks ds =>
    simp only [pNotInD] at h
    split at h
    · rename_i t
      cases e1 : keyOf d1 with
      | none => rw [e1] at h; cases h
      | some key =>
        rw [e1] at h
        cases h
        obtain ⟨a, o, rfl, g, eo⟩ := dget_at r1 r2 t e1
        exact ⟨a, o, rfl, g, KV.now k (by rw [eo]; simp only [Rep])⟩
    · cases h
  | _ => cases h
theorem Gd.inDct (g : Gd n X b) : OpR X (compareOp .In) rDIn := op_din (by have := g.units; omega)
theorem Gd.notInDct (g : Gd n X b) : OpR X (compareOp .NotIn) rDNotIn := op_dnotin (by have := g.units; omega)
/-! ### list(d) -/
def rListT : List V → Hp → VK → Prop := fun xs H Q => ∃ d kvs, xs = [V.ref d] ∧ Rd H d (.dT kvs) ∧ ∀ p bs, H p = none → IsKeys H kvs bs → Q (.ref p) (L2.upd H p (.lst (bs.map V.ref)))
theorem Gd.listT (g : Gd n X b) : CallR X (.type "list") rListT := call_list_dT g.calm
theorem rep_ints {lb : Lb} {H : Hp} : ∀ j : List Int, RepL cn lb H (j.map D.int) (j.map V.int)
  | [] => .nil
  | i :: j => .cons (by simp only [Rep]) (rep_ints j)
theorem keys_repL {lb : Lb} {H : Hp} (hs : Has lb H) : ∀ {js : List (List Int)} {vs : List V} {bs : List Addr}, js.length = vs.length → (∀ j ∈ js, j.length ≤ SZ) → IsKeys H (zipF js vs) bs → RepL cn lb H (js.map fun j => .tup (j.map D.int)) (bs.map V.ref)
  | [], vs, bs, _, _, h => by
    have h : Paired _ ([] : List (List Key × V)) bs := h
    cases h
    exact .nil
  | j :: js, [], bs, hl, _, _ => by simp at hl
  | j :: js, v :: vs, bs, hl, hz, h => by
    have h : Paired _ ((j.map Sum.inl, v) :: zipF js vs) bs := h
    cases h with
    | cons h1 h2 =>
      rename_i c cs
      have h1 : H c = some (.tup ((j.map Sum.inl : List Key).map kV)) := h1
      rw [kV_inl] at h1
      refine .cons ?_ (keys_repL hs (by simpa using hl) (fun x hx => hz x (List.mem_cons_of_mem _ hx)) h2)
      simp only [Rep]
      refine ⟨c, _, rfl, ⟨?_, h1⟩, by rw [List.length_map]; exact hz j List.mem_cons_self, rep_ints j⟩
      cases q : lb c with
      | none => rfl
      | some l =>
        obtain ⟨o, e, nt⟩ := hs c l q
        rw [h1] at e
        cases e
        exact nt.elim
theorem p1_lstD : P1 true cn (fun x H Q => rListT [x] H Q) pLstD := by
  intro lb H x d e Q hs r h k
  have k : KF cn lb H e Q := k
  cases d with
  | dct ks ds =>
    simp only [pLstD] at h
    split at h
    · rename_i t
      cases h
      obtain ⟨a, vs, js, rfl, rfl, ea, rl, hl, nd, sz⟩ := r.dctT t
      refine ⟨a, zipF js vs, rfl, ea, fun p bs np ik => ?_⟩
      have hz : ∀ j ∈ js, j.length ≤ SZ := fun j hj => by
        have := List.all_eq_true.mp t (.t j) (List.mem_map.mpr ⟨j, hj, rfl⟩)
        have := of_lim this
        exact Nat.le_trans this (by decide)
      have rr := keys_repL (cn := cn) hs hl hz ik
      refine k p _ np ⟨_, rfl, by rw [List.length_map, List.length_map]; exact sz, ?_⟩
      rw [List.map_map]
      exact rr
    · cases h
  | _ => cases h
/-! ### d[k] = v -/
theorem putK_zip {j : List Int} {v : V} {dv : D} {lb : Lb} {H : Hp} (rv : Rep cn lb H dv v) {js : List (List Int)} {vs : List V} {ds : List D} (hl : js.length = vs.length) (rl : RepL cn lb H ds vs) (nd : js.Nodup) :
    ∃ js' vs', putK (zipF js vs) (j.map Sum.inl) v = zipF js' vs' ∧ putKs (js.map Ky.t) (.t j) = js'.map Ky.t ∧ js'.length = vs'.length ∧ js'.Nodup ∧ js'.length ≤ js.length + 1 ∧ RepL cn lb H (putDs (js.map Ky.t) ds (.t j) dv) vs' := by
  have ha : ((zipF js vs).any fun kv => decide (kv.1 = (j.map Sum.inl : List Key))) = decide (j ∈ js) := by rw [valV_any, valV_mem j hl]
  unfold putK putKs putDs
  rw [ha]
  by_cases hj : j ∈ js
  · rw [if_pos (by simpa using hj), if_pos (mem_t.mpr hj), if_pos (mem_t.mpr hj)]
    refine ⟨js, (js.zip vs).map fun p => if p.1 = j then v else p.2, ?_, rfl, ?_, nd, by omega, ?_⟩
    · have key : ∀ (js : List (List Int)) (vs : List V), js.length = vs.length → (zipF js vs).map (fun kv => if kv.1 = (j.map Sum.inl : List Key) then (kv.1, v) else kv) = zipF js ((js.zip vs).map fun p => if p.1 = j then v else p.2) := by
        intro js
        induction js with
        | nil => intro vs _; simp [zipF]
        | cons i js ih =>
          intro vs h
          cases vs with
          | nil => simp at h
          | cons u vs =>
            have := ih vs (by simpa using h)
            simp only [zipF, List.map_cons, List.zip_cons_cons] at this ⊢
            rw [this]
            congr 1
            by_cases e : i = j
            · simp [e]
            · have e' : ¬ ((i.map Sum.inl : List Key) = j.map Sum.inl) := fun z => e (inl_inj z)
              simp [e, e']
      exact key js vs hl
    · rw [List.length_map, List.length_zip, ← hl]; simp
    · have key : ∀ (js : List (List Int)) (vs : List V) (ds : List D), js.length = vs.length → RepL cn lb H ds vs → RepL cn lb H (((js.map Ky.t).zip ds).map fun p => if p.1 = .t j then dv else p.2) ((js.zip vs).map fun p => if p.1 = j then v else p.2) := by
        intro js
        induction js with
        | nil => intro vs ds _ _; simp only [List.map_nil, List.zip_nil_left]; exact .nil
        | cons i js ih =>
          intro vs ds h r
          cases ds with
          | nil => simp only [RepL] at r; subst r; simp at h
          | cons d ds =>
            simp only [RepL] at r
            obtain ⟨u, us, rfl, r1, r2⟩ := r
            simp only [List.map_cons, List.zip_cons_cons]
            refine .cons ?_ (ih us ds (by simpa using h) r2)
            by_cases e : i = j
            · simp only [e, if_true]; exact rv
            · have e' : ¬ (Ky.t i = Ky.t j) := fun z => e (Ky.t.inj z)
              simp only [e, e', if_false]; exact r1
      exact key js vs ds hl rl
  · rw [if_neg (by simpa using hj), if_neg (fun z => hj (mem_t.mp z)), if_neg (fun z => hj (mem_t.mp z))]
    refine ⟨js ++ [j], vs ++ [v], ?_, by simp, by simp [hl], ?_, by simp, rl.append (.one rv)⟩
    · simp only [zipF, List.map_append, List.map_cons, List.map_nil]
      rw [List.zip_append (by rw [List.length_map]; exact hl)]
      rfl
    · rw [List.nodup_append]
      exact ⟨nd, by simp, fun x hx y hy e => by rw [List.mem_singleton.mp hy] at e; exact hj (e ▸ hx)⟩
theorem ow_dct {lb : Lb} {ρ : Env} {s : Sto} {σ : L2.St} {H : Hp} {i : Nat} {ks : List Ky} {ds : List D} (o : Ok b lb ρ s σ H) (h : ρ[i]? = some (.ow (.dct ks ds))) (t : ks.all isTK = true) : ∃ a vs js, σ[i]? = some (some (.ref a)) ∧ lb a = some (.loc i) ∧ ks = js.map Ky.t ∧ H a = some (.dT (zipF js vs)) ∧ RepL b.cn lb H ds vs ∧ js.length = vs.length ∧ js.Nodup ∧ js.length ≤ SZ := by
  obtain ⟨a, u, e1, l1, q, w⟩ := o.ow i _ h
  obtain ⟨vs, js, rfl, rfl, rl, hl, nd, sz⟩ := w.dctT t
  exact ⟨a, vs, js, e1, l1, rfl, q, rl, hl, nd, sz⟩
theorem ds_putD {x ek ev : Expr} {i : Nat} {mk mv : M D} {pos' pos : Pos} (g : Gd n X b) (hx : PE X x (tVar i)) (hk : DE X b ek mk) (hv : DE X b ev mv) (hs : swapsWith ev (some (.Subscript x ek pos')) pos.line X.env = pure false := by rfl) :
    DS X b (.Assign [.Subscript x ek pos'] ev pos) (sPutD i mk mv) := by
  refine PS.imp (ps_dput (by have := g.units; omega) hx hk hv hs) fun D σ H ⟨lb, ρ, s, o, p⟩ => ?_
  have p : SPost b D lb H (sPutD i mk mv ρ s) := p
  unfold sPutD at p
  refine ⟨lb, ρ, s, o, (SPost.bind (D := D) p).mono fun dv ρ1 s1 lb1 H1 st o1 k => fun v H2 ex r => ?_⟩
  have o2 := o1.ext ex
  have k := SPost.from k (o1.stp_ext ex)
  cases q : ρ1[i]? with
  | none => rw [q] at k; exact False.elim k
  | some z =>
    cases z with
    | ow d =>
      cases d with
      | dct ks0 ds0 =>
        simp only [q] at k
        obtain ⟨a, ob, e1, l1, h1, w1⟩ := o2.ow i _ q
        refine ⟨.ref a, e1, lb1, ρ1, s1, o2, (SPost.bind (D := D) k).mono fun dk ρ3 s3 lb3 H3 st3 o3 k3 => fun y H4 ex4 ry => ?_⟩
        have o4 := o3.ext ex4
        have k3 := SPost.from k3 (o3.stp_ext ex4)
        cases q3 : ρ3[i]? with
        | none => rw [q3] at k3; exact False.elim k3
        | some z =>
          cases z with
          | ow d =>
            cases d with
            | dct ks ds =>
              cases ek : keyOf dk with
              | none => simp only [q3, ek] at k3; exact False.elim k3
              | some key =>
                simp only [q3, ek] at k3
                split at k3
                · rename_i hz
                  rw [Bool.and_eq_true] at hz
                  obtain ⟨hz, t⟩ := hz
                  have hz := of_lim hz
                  obtain ⟨a', vs, js, e2, l2, rfl, ha, rl, hl, nd, sz⟩ := ow_dct o4 q3 t
                  rw [e1] at e2
                  cases e2
                  obtain ⟨p1, j, rfl, rfl, ep⟩ := keyOf_rep (.inl ry) ek
                  have rv : Rep b.cn lb3 H4 dv v := (r.stp st3).stp (o3.stp_ext ex4)
                  obtain ⟨js', vs', z1, z2, z3, z4, z5, z6⟩ := putK_zip rv (j := j) hl rl nd
                  rw [List.length_map] at hz
                  have hlen : (zipF js vs).length < sizeLine := by
                    rw [← SZ_eq]
                    simp only [zipF, List.length_zip, List.length_map]
                    omega
                  refine ⟨a, _, rfl, DPut.t (k := j.map Sum.inl) ha (by rw [kV_inl]; exact ep) hlen, ?_⟩
                  rw [z1]
                  have w' : OwnO b.cn lb3 H4 (.dct (putKs (js.map Ky.t) (.t j)) (putDs (js.map Ky.t) ds (.t j) dv)) (.dT (zipF js' vs')) := by
                    rw [z2]
                    exact OwnO.ofT z6 z3 z4 (by omega)
                  obtain ⟨o5, st5⟩ := o4.change q3 e1 ha w'
                  exact k3 lb3 σ _ st5 o5
                · exact False.elim k3
            | _ => simp only [q3] at k3; exact False.elim k3
          | _ => simp only [q3] at k3; exact False.elim k3
      | _ => simp only [q] at k; exact False.elim k
    | _ => simp only [q] at k; exact False.elim k
/-! ### a method of a dict, be it locked or not -/
/-- a call o.name(..) as it is written: what the rules ask of its text alone -/
structure PlainM (X : Cx) (o : Expr) (name : Str) (e : Expr) (es : List Expr) (ap cp : Pos) : Prop where
  own : attributeBase o name X.env (eval o X.env) = eval o X.env
  few : ((backTo cp (starEach (e :: es) X.env)).all (fun x => !x.1) && (backToKw cp (keywordEach [] X.env)).all (fun x => x.1.isSome) && decide ((e :: es).length + ([] : List Keyword).length + (if ([] : List Keyword).isEmpty then 0 else 1) < 30)) = true
  row : (ap.endLine == cp.line) = true
  first : starEach (e :: es) X.env = (false, eval e X.env) :: starEach es X.env
  rest : (backTo cp (starEach es X.env)).any (·.1) = false
/-- the dict first, then what is handed to it, then the method -/
def tBMD (r : V → List V → Hp → VK → Prop) (dict : TE) (args : TA) : TE := fun σ H Q => dict σ H fun x H1 => (∃ a, x = .ref a ∧ IsD H1 a) ∧ args σ H1 fun xs H2 => r x xs H2 Q
theorem pe_bmD {o e : Expr} {es : List Expr} {to : TE} {t : TA} {name : Str} {apos cpos : Pos} {id : String} {r : V → List V → Hp → VK → Prop} (slot : Slot "dict" name id) (hty : typeOf (.builtin id) = pure (.type "method_descriptor")) (hm : MtR X id r) (ho : PE X o to) (ha : PA X (e :: es) t) (w : PlainM X o name e es apos cpos) :
    PE X (.Call (.Attribute o name apos) (e :: es) [] cpos) (tBMD r to t) where
  run pins s σ H Q I h := by
    refine wpAny_Call_method_late w.own w.few w.row rfl (thn (ho.run pins s σ H _ I h) fun v s1 ⟨x, H1, J, rel, ⟨a, is_a, d⟩, want⟩ => ?_)
    cases is_a
    cases rel
    have ⟨there, kind, _⟩ := isD_at J d
    have args := ha.run cpos pins s1 σ H1 _ J want
    have none_starred : (false || (backTo cpos (starEach es X.env)).any (·.1)) = false := w.rest
    refine ⟨"dict", id, PySem.F.plainAttrs_dict, slot, hty, there, kind, ?_⟩
    rw [w.first] at args ⊢
    exact Calls.callWith_builtin none_starred (Calls.evalArgs_plain (thn args fun us s2 ⟨vs, H2, J2, rels, q⟩ => hm pins s2 σ H2 (.ref a) vs (.ref a) us Q J2 rfl rels q))
end
end Pk
/-! Br34: d.get(k, x), d.update(e), {k: v}. -/
namespace Pk
open PySem PySem.Spec PyProof.Rows L2
section
variable {X : Cx} {b : Bd} {n : Nat} {cn : Cn}
theorem look_slot {lb : Lb} {ρ : Env} {s : Sto} {σ : L2.St} {H : Hp} {i : Nat} {d : D} (o : Ok b lb ρ s σ H) (h : look ρ (.inr i) = some d) : ∃ v, σ[i]? = some (some v) ∧ RepB b.cn lb H d v := by
  unfold look at h
  cases q : ρ[i]? with
  | none => simp only [q] at h; cases h
  | some z =>
    simp only [q] at h
    cases z with
    | no => cases h
    | sh d' =>
      cases h
      obtain ⟨v, e1, r⟩ := o.sh i d q
      exact ⟨v, e1, .inl r⟩
    | ow d' =>
      cases h
      obtain ⟨a, ob, e1, l, z, w⟩ := o.ow i d q
      exact ⟨.ref a, e1, .inr ⟨a, ob, rfl, z, w⟩⟩
    | mt R => cases h
/-! ### d.get(k, x) -/
def rDGet2 : V → List V → Hp → VK → Prop := fun x xs H Q => ∃ a y z o, x = .ref a ∧ xs = [y, z] ∧ DGet H a y o ∧ Q (o.getD z) H
theorem mt_dget2 (hu : X.A.units + 1 < cLine) : MtR X "dict.get" rDGet2 := by
  intro pins s σ H x xs v us Q I rx rv h
  obtain ⟨a, y, z, o, rfl, rfl, g, q⟩ := h
  cases rx
  obtain ⟨u, w, rfl, ru, rw'⟩ := vals2 rv
  exact d_get2 hu I g ru rw' fun w' s' I' r' => ⟨_, H, I', r', q⟩
theorem dget_val {lb : Lb} {H : Hp} {j : List Int} {dx : D} {z : V} (rz : Rep cn lb H dx z) : ∀ {js : List (List Int)} {ds : List D} {vs : List V}, RepL cn lb H ds vs → js.length = vs.length → Rep cn lb H ((dctGet (js.map .t) ds (.t j)).getD dx) ((valV (zipF js vs) (j.map Sum.inl : List Key)).getD z)
  | js, ds, vs, rl, hl => by
    cases e : dctGet (js.map .t) ds (.t j) with
    | some d =>
      obtain ⟨v, e1, r⟩ := dget_rep rl e
      have e1 : valV (zipF js vs) (j.map Sum.inl) = some v := e1
      rw [e1]
      exact r
    | none =>
      have hn : valV (zipF js vs) (j.map Sum.inl) = none := by
        cases q : valV (zipF js vs) (j.map Sum.inl) with
        | none => rfl
        | some v =>
          have hm := valV_mem j hl
          rw [q] at hm
          have hm : j ∈ js := of_decide_eq_true hm.symm
          exfalso
          have key : ∀ (js : List (List Int)) (ds : List D) (vs : List V), RepL cn lb H ds vs → js.length = vs.length → j ∈ js → dctGet (js.map .t) ds (.t j) ≠ none := by
            intro js
            induction js with
            | nil => intro ds vs _ _ h; cases h
            | cons i js ih =>
              intro ds vs r hl h
              cases ds with
              | nil => simp only [RepL] at r; subst r; simp at hl
              | cons d ds =>
                simp only [RepL] at r
                obtain ⟨u, us, rfl, _, r2⟩ := r
                by_cases e : i = j
                · subst e; simp [dctGet]
                · have := ih ds us r2 (by simpa using hl) ((List.mem_cons.mp h).resolve_left fun q => e q.symm)
                  simpa [dctGet, e] using this
          exact key js ds vs rl hl hm e
      rw [hn]
      exact rz
theorem de_getD {x e f : Expr} {i : Nat} {mk mx : M D} {apos cpos : Pos} (g : Gd n X b) (hx : PE X x (tVar i)) (ha : DA X b [e, f] [mk, mx]) (hbase : attributeBase x "get" X.env (eval x X.env) = eval x X.env := by rfl)
    (hfew : ((backTo cpos (starEach [e, f] X.env)).all (fun x => !x.1) && (backToKw cpos (keywordEach [] X.env)).all (fun x => x.1.isSome) && decide ([e, f].length + ([] : List Keyword).length + (if ([] : List Keyword).isEmpty then 0 else 1) < 30)) = true := by rfl)
    (hline : (apos.endLine == cpos.line) = true := by rfl) (hs : starEach [e, f] X.env = (false, eval e X.env) :: starEach [f] X.env := by rfl) (hp : (backTo cpos (starEach [f] X.env)).any (·.1) = false := by rfl) :
    DE X b (.Call (.Attribute x "get" apos) [e, f] [] cpos) (eGetD i mk mx) := by
  refine PE.imp (pe_bmD PySem.F.slot_dict_get PySem.F.type_dict_get (mt_dget2 (by have := g.units; omega)) hx ha ⟨hbase, hfew, hline, hs, hp⟩) fun σ H Q ⟨lb, ρ, s, o, p⟩ => ?_
  unfold eGetD at p
  cases q : look ρ (.inr i) with
  | none => rw [q] at p; exact False.elim p
  | some d =>
    cases d with
    | dct ks0 ds0 =>
      simp only [q] at p
      split at p
      · rename_i t0
        obtain ⟨v, e1, r0⟩ := look_slot o q
        obtain ⟨a, vs0, js0, rfl, _, ea0, _⟩ := r0.dctT t0
        refine ⟨.ref a, e1, ⟨a, rfl, .inr ⟨_, ea0⟩⟩, lb, ρ, s, o, (tAL_len (Post.bind p) fun xs ρ1 s1 lb1 H1 hlen st o1 k => fun us H2 ex rl => ?_)⟩
        have o2 := o1.ext ex
        have k := Post.from k (o1.stp_ext ex)
        match xs, hlen, k, rl with
        | [dk, dx], _, k, rl =>
          simp only at k
          obtain ⟨e, ee, k⟩ := opt_post o2 k
          cases q1 : look ρ1 (.inr i) with
          | none => rw [q1] at ee; cases ee
          | some d =>
            rw [q1] at ee
            simp only [Option.bind_some] at ee
            cases d with
            | dct ks ds =>
              simp only [pGetD] at ee
              split at ee
              · rename_i t
                cases ek : keyOf dk with
                | none => rw [ek] at ee; cases ee
                | some key =>
                  rw [ek] at ee
                  cases ee
                  obtain ⟨v1, e2, r1⟩ := look_slot o2 q1
                  rw [e1] at e2
                  cases e2
                  obtain ⟨a', vs, js, ea', rfl, ea, rds, hl, _⟩ := r1.dctT t
                  cases ea'
                  simp only [RepL] at rl
                  obtain ⟨y, r', rfl, ry, z, r'', rfl, rz, rfl⟩ := rl
                  obtain ⟨p1, j, rfl, rfl, ep⟩ := keyOf_rep (.inl ry) ek
                  refine ⟨a, .ref p1, z, _, rfl, rfl, dgetT (k := j.map Sum.inl) ea (by rw [kV_inl]; exact ep), ?_⟩
                  exact KV.now (show KV b.cn lb1 H2 _ Q from k) (dget_val rz rds hl)
              · cases ee
            | _ => cases ee
      · exact False.elim p
    | _ => simp only [q] at p; exact False.elim p
/-! ### d.update(e) -/
/-- the hashes of the cells -/
def hz (i j : Int) : Int := reduceHash (Builtin.Tuple.tupleHashOf [hashInt i, hashInt j])
theorem KT.mem {H : Hp} {kvs : List (List Key × V)} {xs : List (List Key × Addr × Value)} (r : KT H kvs xs) : ∀ x ∈ xs, ∃ p ∈ kvs, p.1 = x.1 := by
  induction r with
  | nil => intro x hx; cases hx
  | @cons p q ps qs h t ih =>
    intro x hx
    rcases List.mem_cons.mp hx with rfl | hx
    · exact ⟨p, List.mem_cons_self, h.1⟩
    · obtain ⟨p', h1, h2⟩ := ih x hx
      exact ⟨p', List.mem_cons_of_mem _ h1, h2⟩
end
end Pk
/-! Br35: {k: v}. -/
namespace Pk
open PySem PySem.Spec PyProof.Rows L2
section
variable {X : Cx} {b : Bd} {n : Nat} {cn : Cn}
def tDispT1 (tk tv : TE) : TE := fun σ H Q => ∀ p, H p = none → tk σ (L2.upd H p (.dT [])) fun x H1 => tv σ H1 fun y H2 => H2 p = some (.dT []) ∧ ∃ c k, x = .ref c ∧ H2 c = some (.tup (k.map kV)) ∧ Q (.ref p) (L2.upd H2 p (.dT [(k, y)]))
theorem pe_dispT1 {ek ev : Expr} {pos : Pos} {tk tv : TE} (hu : X.A.units + 1 < cLine) (hk : PE X ek tk) (hv : PE X ev tv) : PE X (.Dict [some ek] [ev] pos) (tDispT1 tk tv) := by
  refine ⟨fun pins s σ H Q I q => ?_⟩
  have hn := I.hok.fresh (Nat.le_refl s.heap.objs.size)
  have I1 := I.laid (a := s.heap.objs.size) (o := .dT []) (h' := s.heap.push { cls := .type "dict", data := .dict #[] }) (t' := s.toks) (fun _ _ q => Heap.get?_push_of_some _ q) (Nat.le_refl _) (dt_empty s.heap I.big)
  refine wpAny_Dict_any rfl rfl (by simp) (by simp) (thn ((pps_cons hk hv pps_nil).run pins _ σ _ (fun ps H2 => match ps with
    | [(x, y)] => H2 s.heap.objs.size = some (.dT []) ∧ ∃ c k, x = .ref c ∧ H2 c = some (.tup (k.map kV)) ∧ Q (.ref s.heap.objs.size) (L2.upd H2 s.heap.objs.size (.dT [(k, y)]))
    | _ => False) I1 (q _ hn)) fun ws s2 ⟨ps, H2, I2, rel, hq⟩ => ?_)
  match ps, rel, hq with
  | [(x, y)], rel, ⟨e, c, k, ex, ec, q2⟩ =>
    subst ex
    cases rel with
    | @cons _ w _ _ h t =>
      cases t
      obtain ⟨u, v⟩ := w
      obtain ⟨r1, r2⟩ := h
      have r1 : u = Value.ref c := r1
      subst r1
      obtain ⟨z, hd, xs, rel, dd⟩ := dt_of I2.hok e
      have hx : xs = [] := by cases rel; rfl
      subst hx
      refine wpAny_storeAllH (knd := tupleKind (mixKind X.prog X.w)) (show X.A.units < cLine by omega) [(Value.ref c, v)] [(k, c, v)] [] s2 _ ⟨rfl, rfl, key_of I2.hok ec, trivial⟩ dd (by rw [sizeLine_eq]; simp) fun h' tk dd' hs => ?_
      obtain ⟨ob, es, ep, hq, h2, h3, h4, _, h5⟩ := dd'
      refine ⟨.ref s.heap.objs.size, _, d_write I2 (t' := tk) (ob := .dT [(k, y)]) (by rw [e]; exact True.intro) hs ⟨ob, hq⟩ ⟨by rw [sizeLine_eq]; simp, hd, _, KT.keeps (show KT H2 [(k, y)] (storedAllH [] [(k, c, v)]) from .cons ⟨rfl, ec, r2⟩ .nil) fun e' ys ec' => ?_, ob, es, ep, hq, h2, h3, h4, h5⟩, rfl, q2⟩
      rw [upd_ne (ne_of ec' e (fun z => nomatch z))]
      exact ec'
theorem df_dct1 {ek ev : Expr} {mk mv : M D} {pos : Pos} (g : Gd n X b) (hk : DE X b ek mk) (hv : DE X b ev mv) : DF X b (.Dict [some ek] [ev] pos) (eDct1 mk mv) := by
  refine PE.imp (pe_dispT1 (by have := g.units; omega) hk hv) fun σ H Q ⟨lb, ρ, s, o, p⟩ => fun p0 np => ?_
  unfold eDct1 at p
  obtain ⟨oS, stS⟩ := o.side (.dT []) np
  refine ⟨_, ρ, s, oS, ?_⟩
  cases e1 : mk ρ s with
  | bad => rw [e1] at p; exact False.elim p
  | exc x r1 s1 => rw [e1] at p; exact fun lb' H' c d st o z => p lb' H' c d (stS.trans st) o z
  | ok dk ρ1 s1 =>
    rw [e1] at p
    intro lb1 H1 st1 o1 x H2 ex2 rx
    have o2 := o1.ext ex2
    have st2 := st1.trans (o1.stp_ext ex2)
    refine ⟨lb1, ρ1, s1, o2, ?_⟩
    have p : Post b σ lb H ((mv ρ1 s1).bind fun v r s => match keyOf dk with
      | some k => .ok (.dct [k] [v]) r s
      | .none => .bad) fun d _ _ lb' H' => Kt true b.cn lb' H' d Q := p
    cases e2 : mv ρ1 s1 with
    | bad => rw [e2] at p; exact False.elim p
    | exc x r1 s1 => rw [e2] at p; exact fun lb' H' c d st o z => p lb' H' c d (stS.trans (st2.trans st)) o z
    | ok dv ρ2 s2 =>
      rw [e2] at p
      intro lb3 H3 st3 o3 y H4 ex4 ry
      have o4 := o3.ext ex4
      have stx := st3.trans (o3.stp_ext ex4)
      have st4 := st2.trans stx
      obtain ⟨lD, hD⟩ := st4.out p0 mrk_same
      rw [upd_same] at hD
      have p : Post b σ lb H (match keyOf dk with
        | some k => .ok (.dct [k] [dv]) ρ2 s2
        | .none => .bad) fun d _ _ lb' H' => Kt true b.cn lb' H' d Q := p
      cases ek : keyOf dk with
      | none => rw [ek] at p; exact False.elim p
      | some key =>
        rw [ek] at p
        obtain ⟨c, j, rfl, rfl, ec⟩ := keyOf_rep (.inl (rx.stp stx)) ek
        refine ⟨hD, c, j.map Sum.inl, rfl, by rw [kV_inl]; exact ec, ?_⟩
        have h0 : b.H0 p0 = none := by
          cases z : b.H0 p0 with
          | none => rfl
          | some u => exact absurd np (o.since.dom p0 (by rw [z]; simp))
        have n0 : b.lb0 p0 ≠ some .out := fun z => by
          obtain ⟨u, w, _⟩ := o.has p0 _ (o.since.out p0 z).1
          rw [np] at w; cases w
        have stN := (stS.trans st4).goneNew np o.has lD
        have o6 := o4.gone lD n0 h0
        have k : KF b.cn (unm lb3 p0) (hid H4 p0) (.dct [.t j] [dv]) Q := p (unm lb3 p0) (hid H4 p0) stN o6
        have z := k p0 (.dT [(j.map Sum.inl, y)]) hid_same (OwnO.ofT (js := [j]) (vs := [y]) (.one (ry.stq (.gone lD))) rfl (by simp) (by simp only [List.length_singleton, SZ]; omega))
        have eH : L2.upd (hid H4 p0) p0 (.dT [(j.map Sum.inl, y)]) = L2.upd H4 p0 (.dT [(j.map Sum.inl, y)]) := by
          funext a
          by_cases ha : a = p0
          · rw [ha, upd_same, upd_same]
          · rw [upd_ne ha, upd_ne ha, hid_ne ha]
        rw [eH] at z
        exact z
end
end Pk
/-! Br36: d[k], y = a, c; x < y of tuples of numbers; sorted(set(x)). -/
namespace Pk
open PySem PySem.Spec PyProof.Rows L2
section
variable {X : Cx} {b : Bd} {n : Nat} {cn : Cn}
theorem ds_put2 {x ek ea ec : Expr} {y : Str} {i j : Nat} {mk ma mc : M D} {p1 p2 pt pos pt2 : Pos} {kt k2 : Nat} (g : Gd n X b) (hj : X.N[j]? = some y) (hy : Loc X.env.scope y) (hx : PE X x (tVar i)) (hk : DE X b ek mk) (ha : DA X b [ea, ec] [ma, mc])
    (hw : swappedStores [.Tuple [.Subscript x ek p1, .Name y p2] kt pt] (.Tuple [ea, ec] k2 pt2) X.env = pure none := by rfl)
    (hs : swapsWithSole [.Tuple [.Subscript x ek p1, .Name y p2] kt pt] (.Tuple [ea, ec] k2 pt2) pos.line X.env = pure false := by rfl)
    (h3 : (assignEach [.Tuple [.Subscript x ek p1, .Name y p2] kt pt] X.env).map (·.2) = [assign (.Tuple [.Subscript x ek p1, .Name y p2] kt pt) X.env] := by rfl)
    (hn : (assignEach [.Subscript x ek p1, .Name y p2] X.env).length = 2 := by rfl) (hst : (assignEach [.Subscript x ek p1, .Name y p2] X.env).findIdx? (·.1) = none := by rfl)
    (hf2 : X.fn y = true ∨ X.env.scope.names.lookup y = some .local := by first | exact .inl rfl | exact .inr rfl | assumption)
    (h4 : (assignEach [.Subscript x ek p1, .Name y p2] X.env).map (·.2) = assign (.Subscript x ek p1) X.env :: (assignEach [.Name y p2] X.env).map (·.2) := by rfl) (h5 : (assignEach [.Name y p2] X.env).map (·.2) = assign (.Name y p2) X.env :: (assignEach [] X.env).map (·.2) := by rfl)
    (h6 : ∀ v, assign (.Subscript x ek p1) X.env v = (do
      let ov ← holding [v] (eval x X.env)
      let iv ← holding [v, ov] (eval ek X.env)
      standAt p1
      holding [v, ov, iv] (setItem ov iv v)
      release [v, ov, iv] []) := by intro _; rfl) :
    DS X b (.Assign [.Tuple [.Subscript x ek p1, .Name y p2] kt pt] (.Tuple [ea, ec] k2 pt2) pos) (sPut2 i j mk ma mc) := by
  refine PS.imp (ps_asg (pe_tup ha) (pg_tup g.calm (pgs_cons (pg_sub hx hk (set_dict (by have := g.units; omega)) h6) (pgs_cons (pg_name g.nd hj hy hf2) pgs_nil h5) h4) hn hst) hs hw h3) fun D σ H ⟨lb, ρ, s, o, p⟩ => ?_
  have p : SPost b D lb H (sPut2 i j mk ma mc ρ s) := p
  unfold sPut2 at p
  refine ⟨lb, ρ, s, o, tAL_len (SPost.bind (D := D) p) fun xs ρ1 s1 lb1 H1 hlen st o1 k => fun vs H2 ex r => ?_⟩
  have hv : vs.length ≤ sizeLine := by rw [← r.length, hlen, ← SZ_eq]; show 2 ≤ SZ; decide
  refine ⟨hv, fun a na => ⟨a, vs, rfl, .of upd_same, by rw [← r.length, hlen]; rfl, ?_⟩⟩
  have ex2 : Ext H1 (L2.upd H2 a (.tup vs)) := ex.trans (Ext.upd na)
  have o2 := o1.ext ex2
  have k := SPost.from k (o1.stp_ext ex2)
  have r : RepL b.cn lb1 (L2.upd H2 a (.tup vs)) xs vs := r.stp ((o1.ext ex).stp_ext (Ext.upd na))
  match xs, hlen, k, r with
  | [dv, dw], _, k, r =>
    simp only [RepL] at r
    obtain ⟨v, r', rfl, rv, w, r'', rfl, rw', rfl⟩ := r
    refine ⟨v, [w], rfl, ?_⟩
    simp only at k
    cases q : ρ1[i]? with
    | none => rw [q] at k; exact False.elim k
    | some z =>
      cases z with
      | ow d =>
        cases d with
        | dct ks0 ds0 =>
          simp only [q] at k
          obtain ⟨c, ob, e1, l1, h1, w1⟩ := o2.ow i _ q
          refine ⟨.ref c, e1, lb1, ρ1, s1, o2, (SPost.bind (D := D) k).mono fun dk ρ3 s3 lb3 H3 st3 o3 k3 => fun y' H4 ex4 ry => ?_⟩
          have o4 := o3.ext ex4
          have k3 := SPost.from k3 (o3.stp_ext ex4)
          cases q3 : ρ3[i]? with
          | none => rw [q3] at k3; exact False.elim k3
          | some z =>
            cases z with
            | ow d =>
              cases d with
              | dct ks ds =>
                cases ek : keyOf dk with
                | none => simp only [q3, ek] at k3; exact False.elim k3
                | some key =>
                  simp only [q3, ek] at k3
                  split at k3
                  · rename_i hz
                    rw [Bool.and_eq_true] at hz
                    obtain ⟨hz, t⟩ := hz
                    have hz := of_lim hz
                    obtain ⟨a', us, js, e2, l2, rfl, hc, rl, hl, nd, sz⟩ := ow_dct o4 q3 t
                    rw [e1] at e2
                    cases e2
                    obtain ⟨p1, j', rfl, rfl, ep⟩ := keyOf_rep (.inl ry) ek
                    have st34 := st3.trans (o3.stp_ext ex4)
                    obtain ⟨js', vs', z1, z2, z3, z4, z5, z6⟩ := putK_zip (rv.stp st34) (j := j') hl rl nd
                    rw [List.length_map] at hz
                    have hlen : (zipF js us).length < sizeLine := by
                      rw [← SZ_eq]
                      simp only [zipF, List.length_zip, List.length_map]
                      omega
                    refine ⟨c, _, rfl, DPut.t (k := j'.map Sum.inl) hc (by rw [kV_inl]; exact ep) hlen, w, [], rfl, rfl, ?_⟩
                    rw [z1]
                    have w' : OwnO b.cn lb3 H4 (.dct (putKs (js.map Ky.t) (.t j')) (putDs (js.map Ky.t) ds (.t j') dv)) (.dT (zipF js' vs')) := by
                      rw [z2]
                      exact OwnO.ofT z6 z3 z4 (by omega)
                    obtain ⟨o5, st5⟩ := o4.change q3 e1 hc w'
                    exact k3 _ _ _ (st5.trans (.unl _ _ j)) (o5.setSh j ((rw'.stp st34).stp st5))
                  · exact False.elim k3
              | _ => simp only [q3] at k3; exact False.elim k3
            | _ => simp only [q3] at k3; exact False.elim k3
        | _ => simp only [q] at k; exact False.elim k
      | _ => simp only [q] at k; exact False.elim k
/-! ### x < y -/
end
end Pk
/-! Br37: set(x) of a list of numbers, in three parts: the loop, the __init__, the call. -/
namespace Pk
open PySem PySem.Spec PyProof.Rows L2
/-- a set with nothing in it -/
abbrev nSet (w : World) : Obj := { cls := .type "set", dict := none, data := .set #[] 0 (.fresh 0 0 (!w.params.followText "set-order")) }
abbrev itOn (l : Addr) : Obj := { cls := .type "list_iterator", data := .fields #[.ref l, .int 0 0] }
/-- from h on: the set of the numbers ns lies where h ended, and what was there still is -/
def Holds (w : World) (h : Heap) (ns : List Int) (h' : Heap) : Prop := (∃ c, c ≤ ns.length ∧ SetR w h' h.objs.size (fun j => decide (j ∈ ns)) c) ∧ ∀ d o, h.get? d = some o → h'.get? d = some o
def Became (w : World) (ns : List Int) (s t : Shared) : Prop := ∃ h' tk, t = { s with heap := h', toks := tk } ∧ Holds w s.heap ns h'
/-- the items of xs, one by one -/
theorem ints_get {xs : Array Value} {ns : List Int} (hi : IntsAre xs.toList ns) (i : Nat) (v : Value) (e : xs[i]? = some v) : ∃ k t, ns[i]? = some k ∧ v = .int k t := by
  have e2 : xs.toList[i]? = some v := by simpa using e
  obtain ⟨t, rfl⟩ := PyProof.Rows.IntsAre.int_at hi i v e2
  have lt : i < ns.length := hi.length ▸ (List.getElem?_eq_some_iff.mp e2).1
  exact ⟨ns.getD i 0, t, by simp [lt], rfl⟩
section
variable {P : Program} {w : World} {A : Around} {s : Shared} {l : Addr} {xs : Array Value} {ns : List Int}
theorem loop_ints {R : Result → Shared → Prop} (calm : A.handled = none) (is : (s.heap.push (nSet w)).IsList l xs) (old : l < s.heap.objs.size) (hi : IntsAre xs.toList ns) (few : ns.length + 1 < scanBound) (fin : ∀ t, Became w ns s t → R (.ok (.ret .none)) t) :
    codeAny (model P w) A (.builtin "set.update.loop" ⟨[.ref s.heap.objs.size, .ref (s.heap.push (nSet w)).objs.size], []⟩) R { s with heap := (s.heap.push (nSet w)).push (itOn l) } := by
  have top : (s.heap.push (nSet w)).objs.size = s.heap.objs.size + 1 := Heap.size_push ..
  have len : xs.size = ns.length := by simpa using hi.length
  have apart : l ≠ (s.heap.push (nSet w)).objs.size := by rw [top]; exact Nat.ne_of_lt (Nat.lt_succ_of_lt old)
  have off : s.heap.objs.size ∉ [(s.heap.push (nSet w)).objs.size, l] := by simp [top, Nat.ne_of_gt old]
  have there : SetR w ((s.heap.push (nSet w)).push (itOn l)) s.heap.objs.size (fun j => decide (j ∈ ns.take 0)) 0 := setR_new_at (Heap.get?_push_of_some _ (Heap.get?_push_size _ rfl))
  refine set_update_ints (Walks.list (A := A.in1) (by simp [calm]) _ l apart xs).toS s.heap.objs.size off ns len few (ints_get hi) _ 0 _ rfl (Nat.zero_le _) ⟨⟨_, Heap.get?_push_size _ rfl, rfl, rfl⟩, is.push _⟩ ⟨0, Nat.le_refl 0, there⟩ fun ⟨h', g, d, tk, os⟩ c moved le set => ?_
  cases moved.gens
  cases moved.drawn
  cases moved.os
  refine fin _ ⟨h', tk, rfl, ⟨c, len ▸ le, set⟩, fun b o e => moved.heap b o (fun z => ?_) (Heap.get?_push_of_some _ (Heap.get?_push_of_some _ e))⟩
  have below : b < s.heap.objs.size := Heap.lt_size e
  simp only [top, List.mem_cons, List.not_mem_nil, or_false] at z
  rcases z with rfl | rfl
  · exact Nat.lt_irrefl _ below
  · exact Nat.lt_irrefl _ (Nat.lt_of_succ_lt below)
/-- its __init__ -/
theorem init_ints {E : Value → Shared → Prop} (calm : A.handled = none) (hl : s.heap.IsList l xs) (hi : IntsAre xs.toList ns) (few : ns.length + 1 < scanBound) :
    codeAny (model P w) A (.call (.builtin "set.__init__") ⟨[.ref s.heap.objs.size, .ref l], []⟩) (wants (fun r t => r = .none ∧ Became w ns s t) E) { s with heap := s.heap.push (nSet w) } := by
  have old : l < s.heap.objs.size := hl.elim fun _ q => Heap.lt_size q.1
  have is : (s.heap.push (nSet w)).IsList l xs := hl.push _
  refine codeAny_call_builtin F.called_set.init.plain F.entry_set_init (check_set_init_1 ⟨_, Heap.get?_push_size _ rfl, rfl⟩ ?_)
  obtain ⟨⟨_, dct, _, slots⟩, at_l, ⟨⟩, n, ⟨⟩⟩ := is
  have is2 : (s.heap.push (nSet w)).IsList l xs := hl.push _
  have s1 := F.sub_list_set
  have s2 := F.sub_list_frozenset
  have s3 : (Value.type "list" == Value.type "dict") = false := rfl
  unfold Builtin.«set.__init__» Builtin.Frozenset.updateFrom noKeywords
  generalize it : pyIter = I
  wp_walk
  subst it
  exact wpAny_pyIter_list is2 (wpAny_bind (wpAny_runValue (loop_ints (by simp [calm]) is2 old hi few fun t b => wpAny_pure (wpAny_pure ⟨rfl, b⟩))))
/-- the call -/
theorem setI_new {E Q : Value → Shared → Prop} (calm : A.handled = none) (hl : s.heap.IsList l xs) (hi : IntsAre xs.toList ns) (few : ns.length + 1 < scanBound) (q : ∀ t, Became w ns s t → Q (.ref s.heap.objs.size) t) : wpAny (model P w) A (call (.type "set") [.ref l]) Q E s := by
  have ⟨c, tl, k1⟩ := F.called_set.mro
  have k2 := F.called_set.made
  have k3 := F.called_set.sub
  have k4 := F.called_set.notType
  have k5 := F.called_set.canCreate
  have k6 := F.typeCall_set_1 (.ref l)
  have k7 := F.called_set.init.lookup
  have k8 := F.called_set.init.bind (.ref s.heap.objs.size)
  refine wpAny_call (codeAny_of_tree (show wpAny _ _ (callAny (.type "set") _) _ _ _ from wpAny_pure ⟨Code.quiet_builtin _ (by decide +kernel), codeAny_builtin F.entry_type_call ?_⟩))
  rw [Around.under_plain (weight_type_call_type "set" [.ref l] []) rfl]
  repeat any_goals first | assumption | wp_step
  refine codeAny_mono (code_set_led1 (.ref l) (E := E) (Q₁ := fun z t => z = .ref s.heap.objs.size ∧ t = { s with heap := s.heap.push (nSet w) }) ⟨rfl, rfl⟩) fun r s1 made => ?_
  match r, made with
  | .error _, made => exact made
  | .ok (.ret z), ⟨e1, e2⟩ =>
    subst e1 e2
    have ty : Shared.TypeIs { s with heap := s.heap.push (nSet w) } (.ref s.heap.objs.size) "set" := ⟨_, Heap.get?_push_size _ rfl, rfl⟩
    repeat any_goals first | assumption | wp_step
    refine codeAny_mono (init_ints (E := E) (by simp [calm]) hl hi few) fun r2 s2 done => ?_
    match r2, done with
    | .error _, done => exact done
    | .ok (.ret y), ⟨e, b⟩ =>
      subst e
      repeat any_goals first | assumption | wp_step
      exact q _ b
end
end Pk
/-! Br38: sorted(set(x)) of numbers; a call of a def that a slot holds; a def as a value. -/
namespace Pk
open PySem PySem.Spec PyProof.Rows L2
section
variable {X : Cx} {b : Bd} {n : Nat} {cn : Cn}
def rSetI (K : PySem.W.Frag) (w : World) : List V → Hp → VK → Prop := fun xs H Q => ∃ (l : Addr) (ns : List Int), xs = [V.ref l] ∧ SqL K H l (ns.map V.int) ∧ ns.length + 1 < scanBound ∧ ∀ p c, H p = none → c ≤ ns.length → Q (.ref p) (L2.upd H p (SetO w p (fun j => decide (j ∈ ns)) c))
theorem cr_setI (hc : X.calm = true) : CallR X (.type "set") (rSetI X.K X.w) := by
  intro pins s σ H xs us Q I r h
  obtain ⟨l, ns, rfl, hl, hb, q⟩ := h
  rw [Vals.ref1 r]
  obtain ⟨its, rv, pl, hz⟩ := I.list hl
  refine setI_new (ns := ns) (I.ok.hd hc) pl.isList (by simpa using rv.ints) hb fun t ⟨h', tk, et, ⟨c, le, R⟩, k⟩ => ?_
  subst et
  exact ⟨.ref s.heap.objs.size, L2.upd H s.heap.objs.size (SetO X.w s.heap.objs.size (fun j => decide (j ∈ ns)) c), I.laid (t' := tk) k (Nat.le_refl _) (setO_new R), rfl, q _ c (I.hok.fresh (Nat.le_refl _)) le⟩
theorem ints_repL {lb : Lb} {H : Hp} (ns : List Int) : RepL cn lb H (ns.map D.int) (ns.map V.int) := rep_ints ns
theorem de_sortSetI {ea : Expr} {a : Opd} {p p2 q pos : Pos} (g : Gd n X b) (hg : Gl X "sorted") (hm : X.mg "sorted" = none) (hg2 : Gl X "set") (hm2 : X.mg "set" = none) (ha : DO X b ea a)
    (na : starEach [ea] X.env = (false, eval ea X.env) :: starEach [] X.env := by rfl) (nb : starEach [.Call (.Name "set" p2) [ea] [] q] X.env = (false, eval (.Call (.Name "set" p2) [ea] [] q) X.env) :: starEach [] X.env := by rfl) :
    DE X b (.Call (.Name "sorted" p) [.Call (.Name "set" p2) [ea] [] q] [] pos) (e1 pSortSetI a) := by
  refine PE.imp (pe_callB (cr_sortedSet g.calm) hg hm boot_sorted (pa_cons (pe_callTy (cr_setI g.calm) hg2 hm2 PyProof.Rows.boot_set (pa_cons ha.pe pa_nil na) (by decide) (by decide) na rfl) pa_nil nb) (by decide) (by decide) nb rfl) fun σ H Q h => ?_
  refine t1_run (r := fun x H Q => rSetI X.K X.w [x] H fun v H2 => rSortedSet X.w [v] H2 Q) (fun lb H x d e Q hs r h k => ?_) h
  cases d with
  | lst l =>
    simp only [pSortSetI] at h
    cases e1 : intsOf l with
    | none => rw [e1] at h; cases h
    | some ns =>
      rw [e1] at h
      simp only [Option.bind_some] at h
      split at h
      · rename_i hz
        have hz := of_lim hz
        cases h
        obtain ⟨c, vs, rfl, ec, _, rl⟩ := r.lst
        have ev := ints_rep rl e1
        rw [ev] at ec
        have hlen : ns.length = l.length := by rw [rl.length, ev, List.length_map]
        refine ⟨c, ns, rfl, .of ec, ?_, fun p0 c0 np hc => ⟨p0, _, c0, rfl, upd_same, by omega, fun ms p1 pw mm ml np1 => ?_⟩⟩
        · have : (64 : Nat) < scanBound := by decide
          omega
        · have em : ms = sortI ns := sorted_ext (r := (· < ·)) (fun a => by omega) (fun a c h => by omega) pw (sortI_sorted ns) fun y => by rw [mm y, sortI_mem]; simp
          have hex : Ext H (L2.upd (L2.upd H p0 (SetO X.w p0 (fun j => decide (j ∈ ns)) c0)) p1 (.lst (ms.map V.int))) := (Ext.upd np).trans (Ext.upd np1)
          have np2 : H p1 = none := by
            cases q : H p1 with
            | none => rfl
            | some u => rw [Ext.upd np p1 u q] at np1; cases np1
          have k : KV b.cn lb H _ Q := k
          refine k (.ref p1) _ hex ?_
          simp only [Rep]
          refine ⟨p1, _, rfl, ⟨hs.none np2, upd_same⟩, ?_, ?_⟩
          · rw [List.length_map, ← em, ml]
            exact Nat.le_trans (show c0 ≤ 64 by omega) (by decide)
          · rw [em]
            exact ints_repL _
      · cases h
  | _ => cases h
/-! ### defs as values -/
/-- the defs that may come as values -/
def VTab (cn : Cn) (P : Program) (w : World) (mg : Str → Option Value) (base : Heap) (n : Nat) (Fs : List Fn) : Prop := ∀ (j : Nat) (F : Fn), Fs[j]? = some F → ∃ k x, k ≤ n ∧ FnG cn P w mg base k x F [] ∧ mg x = some (.ref (cn.fn j))
theorem VTab.nil {cn : Cn} {P : Program} {w : World} {mg : Str → Option Value} {base : Heap} {n : Nat} : VTab cn P w mg base n [] := fun j F h => by simp at h
theorem VTab.one {cn : Cn} {P : Program} {w : World} {mg : Str → Option Value} {base : Heap} {k : Nat} {x : Str} {F : Fn} (G : FnG cn P w mg base k x F []) (h : mg x = some (.ref (cn.fn 0))) : VTab cn P w mg base k [F] := fun j F' e => by
  cases j with
  | zero => cases e; exact ⟨k, x, Nat.le_refl _, G, h⟩
  | succ j => simp at e
end
end Pk
/-! Br40: a lambda is made; its promise. -/
namespace Pk
open PySem PySem.Spec PyProof.Rows L2
/-- a table whose code objects keep Z -/
def TabZ (Z : Addr → Prop) (H : Hp) (P : Addr) (q : Str) : Prop := ∃ ps : Array Value, H P = some (.tbl ps) ∧ TriplesOk ps.toList ∧ ∀ (pos : Pos) (cv : Value), codeAmong pos ps.toList = some cv → ∃ c, cv = .ref c ∧ Z c ∧ H c = some (LamX.CodeO c q)
section
variable {X : Cx} {pins : List (Addr × Obj)} {σ : L2.St} {H : Hp} {s : Shared}
theorem track_lam {f c' : Addr} {m : Lm} {cl : List (Str × Addr)} {pm ctv : Value} {t : Nat} (I : Inv X pins σ H s) (hf : f = s.heap.objs.size) :
    Inv X pins σ (L2.upd H f (LamO f m cl c')) { s with heap := s.heap.push (PySem.W.kla_obj "<lambda>" m.qual m.params m.body m.scope cl pm c' ctv), toks := t } := by
  subst hf
  refine I.laid (t' := t) (fun b u e => Heap.get?_push_of_some _ e) (Nat.le_refl _) ?_
  have e : (s.heap.push (PySem.W.kla_obj "<lambda>" m.qual m.params m.body m.scope cl pm c' ctv)).get? s.heap.objs.size = some (PySem.W.kla_obj "<lambda>" m.qual m.params m.body m.scope cl pm c' ctv) := Heap.get?_push_size _ rfl
  exact ⟨⟨pm, ctv, e⟩, ⟨_, e⟩, fun h1 h2 ⟨pm, ctv, q⟩ st => ⟨pm, ctv, st _ q⟩⟩
theorem lam_new {Z : Addr → Prop} {c P : Addr} {params : Arguments} {body : Expr} {scope : Scope} {pos : Pos} {fr : List Str} {E Q : Value → Shared → Prop} (I : Inv X pins σ H s) (B : LamX.TabB X.base X.mg c P) (hc : X.env.code = .ref c)
    (T : TabZ Z H P (X.env.qual ++ "<lambda>")) (hZ : ∀ a, H a = none → Z a) (hd : defaultsOf params X.env = ([], [])) (hf : ∀ y ∈ scope.names, y.2 = .free → ∃ a, X.env.cells.lookup y.1 = some a)
    (h : ∀ (f c' : Addr) (H1 : Hp) (s' : Shared), Inv X pins σ H1 s' → (∀ b o, H b = some o → b ≠ P → H1 b = some o) → (∀ b, H1 b = none → H b = none) → TabZ Z H1 P (X.env.qual ++ "<lambda>") → H f = none →
      H1 f = some (LamO f ⟨X.env.qual ++ "<lambda>", params, body, scope, fr⟩ (cloFrom X.env.cells scope.names []) c') → Z c' → H1 c' = some (LamX.CodeO c' (X.env.qual ++ "<lambda>")) → Q (.ref f) s') :
    wpAny (model X.prog X.w) X.A (eval (.Lambda params body scope pos) X.env) Q E s := by
  obtain ⟨ps, tP, tk, ta⟩ := T
  refine PySem.W.kla_eval hd ?_
  have bb : s.heap.BuiltinsAt X.mg P := B.bm.keeps I.bk
  have gP : s.heap.get? P = some { cls := .none, data := .fields ps } := I.hok P _ tP
  cases e : codeAmong pos ps.toList with
  | none =>
    refine PySem.W.kla_makeFunction (mg := X.mg) (ps := ps) (closure_ok hf) I.ok.glob (I.mod.glob.keeps I.bk) hc (B.code.keeps I.bk) gP tk e B.gP bb fun c' ctv h' t x1 x2 x3 x4 x5 => ?_
    obtain ⟨c2, oc, us, u, e2, y1, y2, y3⟩ := x4
    cases e2
    have nC : H c' = none := I.hok.fresh x2
    have J := LamX.inv_table (t' := t) (more := #[rawInt pos.line, rawInt pos.col, .ref c']) (h' := h') I tP (fun b o q r => x1 b o q r) x5 x2 ⟨oc, us, u, y1, y2, y3⟩
    obtain ⟨HT, eT⟩ : ∃ HT, HT = L2.upd (L2.upd H P (.tbl (ps ++ #[rawInt pos.line, rawInt pos.col, .ref c']))) c' (LamX.CodeO c' (X.env.qual ++ "<lambda>")) := ⟨_, rfl⟩
    rw [← eT] at J
    have kT : ∀ b o, H b = some o → b ≠ P → HT b = some o := fun b o q n => by
      rw [eT, upd_ne (ne_of_none q nC), upd_ne n]
      exact q
    have nT : ∀ b, HT b = none → H b = none := fun b q => by
      rw [eT] at q
      unfold L2.upd at q
      split at q
      · cases q
      · split at q
        · cases q
        · exact q
    have J2 := track_lam (f := h'.objs.size) (c' := c') (m := ⟨X.env.qual ++ "<lambda>", params, body, scope, fr⟩) (cl := cloFrom X.env.cells scope.names []) (pm := (X.mg "__name__").getD .none) (ctv := ctv) (t := t) J rfl
    have nF : HT h'.objs.size = none := J.hok.fresh (Nat.le_refl _)
    have cT : HT c' = some (LamX.CodeO c' (X.env.qual ++ "<lambda>")) := by rw [eT, upd_same]
    refine h h'.objs.size c' _ _ J2 (fun b o q n => (upd_ne (ne_of_none (kT b o q n) nF)).trans (kT b o q n)) (fun b q => ?_) ?_ (nT _ nF) upd_same (hZ _ nC) ((upd_ne (ne_of_none cT nF)).trans cT)
    · unfold L2.upd at q
      split at q
      · cases q
      · exact nT b q
    · have eL : (ps ++ #[rawInt pos.line, rawInt pos.col, .ref c']).toList = ps.toList ++ [rawInt pos.line, rawInt pos.col, .ref c'] := by simp
      have hPT : HT P = some (.tbl (ps ++ #[rawInt pos.line, rawInt pos.col, .ref c'])) := by rw [eT, upd_ne (ne_of_none tP nC), upd_same]
      refine ⟨_, (upd_ne (ne_of_none hPT nF)).trans hPT, by rw [eL]; exact PySem.TriplesOk_snoc _ _ _ _ tk, fun p' cv q => ?_⟩
      rw [eL] at q
      rcases LamX.among_app _ tk q with r | r
      · obtain ⟨c0, z1, z2, z3⟩ := ta p' cv r
        have z4 := kT c0 _ z3 (fun w => by rw [w, tP] at z3; exact LamX.codeO_ne ps (Option.some.inj z3).symm)
        exact ⟨c0, z1, z2, (upd_ne (ne_of_none z4 nF)).trans z4⟩
      · exact ⟨c', r, hZ _ nC, (upd_ne (ne_of_none cT nF)).trans cT⟩
  | some cv =>
    obtain ⟨c', e1, z2, z3⟩ := ta pos cv e
    subst e1
    refine PySem.W.kla_makeFunctionHit (mg := X.mg) (ps := ps) (closure_ok hf) I.ok.glob (I.mod.glob.keeps I.bk) hc (B.code.keeps I.bk) gP tk e bb fun ctv h' t x1 x2 => ?_
    have J : Inv X pins σ H { s with heap := h', toks := t } := I.kept x1
    have nF : H h'.objs.size = none := J.hok.fresh (Nat.le_refl _)
    have J2 := track_lam (f := h'.objs.size) (c' := c') (m := ⟨X.env.qual ++ "<lambda>", params, body, scope, fr⟩) (cl := cloFrom X.env.cells scope.names []) (pm := (X.mg "__name__").getD .none) (ctv := ctv) (t := t) J rfl
    refine h h'.objs.size c' _ _ J2 (fun b o q n => (upd_ne (ne_of_none q nF)).trans q) (fun b q => ?_) ?_ nF upd_same z2 ((upd_ne (ne_of_none z3 nF)).trans z3)
    · unfold L2.upd at q
      split at q
      · cases q
      · exact q
    · refine ⟨ps, (upd_ne (ne_of_none tP nF)).trans tP, tk, fun p' cv q => ?_⟩
      obtain ⟨c0, w1, w2, w3⟩ := ta p' cv q
      exact ⟨c0, w1, w2, (upd_ne (ne_of_none w3 nF)).trans w3⟩
end
/-! ### the frame goes on -/
theorem FldOk.stp2 {cn : Cn} {lb lb' : Lb} {H H' : Hp} {n : Nat} (s : Stq lb H lb' H') (k : ∀ a n f, lb a = some (.fld n f) → H' a = H a) :
    ∀ {fs : List (Str × D)} {fv : List (Str × V)}, FldOk cn lb H n fs fv → FldOk cn lb' H' n fs fv
  | [], _, h => h
  | (f, d) :: fs, fv, h => by
    obtain ⟨v, r, e, h1, h2⟩ := h
    refine ⟨v, r, e, ?_, FldOk.stp2 s k h2⟩
    unfold FOk at h1 ⊢
    cases d with
    | lst l =>
      obtain ⟨p, o, e, lp, hp, w⟩ := h1
      exact ⟨p, o, e, s.sto p _ lp rfl, by rw [k p _ _ lp]; exact hp, w.stq s⟩
    | _ => exact Rep.stq s h1
theorem BOk.lam {cn : Cn} {lb0 lb : Lb} {H0 H H1 : Hp} {ρ : Env} {s : Sto} {σ : L2.St} {n : Nat} {P : Addr} {q : Str} (o : BOk cn lb0 H0 lb ρ s σ H) (ht : cn.tb[n]? = some (P, q)) (k : ∀ b o, H b = some o → b ≠ P → H1 b = some o) (nn : ∀ b, H1 b = none → H b = none) (T : TabL lb H1 P q) :
    BOk cn lb0 H0 lb ρ s σ H1 ∧ Stp lb H lb H1 := by
  have hP : lb P = some (.tab n) := (o.sto.tabs n _ ht).1
  have ne : ∀ a l, lb a = some l → l ≠ .tab n → a ≠ P := fun a l e z w => by rw [w, hP] at e; exact z (Option.some.inj e).symm
  have sm : ∀ a l, lb a = some l → l ≠ .tab n → H1 a = H a := fun a l e z => by
    obtain ⟨u, q, _⟩ := o.has a l e
    rw [q, k a u q (ne a l e z)]
  have st : Stp lb H lb H1 :=
    { keep := fun a u h z => k a u h (by rintro rfl; rw [hP] at z; cases z)
      out := fun a h => ⟨h, sm a _ h (by intro z; cases z)⟩
      new := fun _ h => .inl h
      sto := fun _ _ h _ => h
      dom := fun a h z => h (nn a z) }
  refine ⟨⟨o.since.trans st, ⟨fun a e => ?_, fun m fs e => ?_, o.sto.uniq, o.sto.dom, fun m p e => ?_, o.sto.flds, o.sto.nods⟩, fun a l e => ?_, o.len, fun j d h => ?_, fun j d h => ?_, fun j R h => ?_⟩, st⟩
  · rw [sm a _ e (by intro z; cases z)]
    exact o.sto.town a e
  · obtain ⟨a, dx, fv, l1, l2, h1, h2, w⟩ := o.sto.objs m fs e
    exact ⟨a, dx, fv, l1, l2, by rw [sm a _ l1 (by intro z; cases z)]; exact h1, by rw [sm dx _ l2 (by intro z; cases z)]; exact h2, FldOk.stp2 st.q (fun a n f e => sm a _ e (by intro z; cases z)) w⟩
  · obtain ⟨h1, h2⟩ := o.sto.tabs m p e
    by_cases hm : m = n
    · subst hm
      rw [ht] at e
      cases e
      exact ⟨h1, T⟩
    · exact ⟨h1, h2.stq st.q (sm _ _ h1 (by intro z; cases z; exact hm rfl))⟩
  · by_cases ha : a = P
    · obtain ⟨ps, hp, _⟩ := T
      exact ⟨.tbl ps, by rw [ha]; exact hp, trivial⟩
    · obtain ⟨u, q, t⟩ := o.has a l e
      exact ⟨u, k a u q ha, t⟩
  · obtain ⟨v, e1, r⟩ := o.sh j d h
    exact ⟨v, e1, r.stp st⟩
  · obtain ⟨a, u, e1, l, q, w⟩ := o.ow j d h
    exact ⟨a, u, e1, l, by rw [sm a _ l (by intro z; cases z)]; exact q, w.stp st⟩
  · obtain ⟨a, e1, w⟩ := o.mt j R h
    exact ⟨a, e1, w.keep st.q fun x hx => ⟨hx, sm x _ hx (by intro z; cases z)⟩⟩
/-! ### what a lambda promises -/
def spL (cn : Cn) (L : List D → Fn) (ws vs : List V) (H : Hp) (Q : VK) (E : XK) : Prop := ∃ lb s caps ds, EOk cn lb s H ∧ RepL cn lb H caps ws ∧ RepL cn lb H ds vs ∧ match L caps ds s with
  | .ok d s' => ∀ lb' H' v, Stp lb H lb' H' → EOk cn lb' s' H' → Rep cn lb' H' d v → Q v H'
  | .exc x s' => ∀ lb' H' cls dx, Stp lb H lb' H' → EOk cn lb' s' H' → XRep cn lb' H' x cls dx → E cls dx H'
  | .bad => False
abbrev nfL (m : Lm) (cl : List (Str × Addr)) (c : Addr) : NdefX.NF := ⟨"<lambda>", m.qual, m.params, [], m.scope, cl, c⟩
def LOk (cn : Cn) (P : Program) (w : World) (mg : Str → Option Value) (base : Heap) (k j : Nat) (L : List D → Fn) : Prop :=
  ∀ (A : Around) (outer : List PySem.Env) (s : Shared) (H : Hp) (f : Addr) (cl : List (Str × Addr)) (c : Addr) (us : List Value) (vs ws : List V) (Q : VK) (E : XK), Room k A → Env0 P w cn.K mg base A outer s H →
    H f = some (LamO f (cn.lm j) cl c) → H c = some (LamX.CodeO c (cn.lm j).qual) → NdefX.CellsAt cl (cn.lm j).fr (ws.map some) s.heap H → Vals vs us → spL cn L ws vs H Q E →
    codeAny (model P w) A (.call (.ref f) ⟨us, []⟩) (CR (L2.CX P w) outer P w H s Q E) s
theorem lam_ok {cn : Cn} {P : Program} {w : World} {mg : Str → Option Value} {base : Heap} {k j p n : Nat} {N ps : List Str} {m : M D} (S : NdefX.NScope N ps (cn.lm j).fr (cn.lm j).scope) (hp : ps.length = p) (hn : N.length = n)
    (hbind : ∀ (cl : List (Str × Addr)) (pm cv ctv : Value) (us : List Value), us.length = ps.length → bindArgs (PySem.W.kla_fn "<lambda>" (cn.lm j).qual (cn.lm j).params (cn.lm j).body (cn.lm j).scope cl pm cv ctv) ⟨us, []⟩ = pure (ps.zip us))
    (hb : ∀ (A : Around) (outer : List PySem.Env) (s : Shared) (H : Hp) (E : XK) (f : Addr) (cl : List (Str × Addr)) (c : Addr) (b : Bd), b.cn = cn → Gd k (NdefX.ncx (L2.CX P w) P w cn.K mg base N (nfL (cn.lm j) cl c) f A outer s H E) b → DE (NdefX.ncx (L2.CX P w) P w cn.K mg base N (nfL (cn.lm j) cl c) f A outer s H E) b (cn.lm j).body m) :
    LOk cn P w mg base (k + 1) j (lamFn p n m) := by
  subst hp hn
  intro A outer s H f cl c us vs ws Q E hr e0 hf hc C r hsp
  obtain ⟨lb, st, caps, ds, eo, rc, rd, h⟩ := hsp
  unfold lamFn at h
  by_cases hl : ds.length = ps.length
  · rw [if_pos hl] at h
    obtain ⟨⟨pm, ctv, ho⟩, _, _⟩ := e0.hok f _ hf
    obtain ⟨⟨oc, xs, t, h1, h2, h3⟩, _, _⟩ := e0.hok c _ hc
    have lim : s.heap.NoLimit := e0.mod.nolimit.keeps fun b o e => (e0.bs b o e).1
    have hvl : vs.length = ps.length := by rw [← rd.length]; exact hl
    refine PySem.W.kla_callFunE hr.depth ho rfl S.co S.gen rfl ⟨c, oc, xs, t, rfl, h1, h2, h3⟩ ?_
    rw [hbind cl pm (.ref c) ctv us (by rw [← r.length]; exact hvl)]
    refine wpAny_pure (wpAny_newFunctionEnv S.nocell (fun ⟨y, _⟩ hy => S.par y (List.of_mem_zip hy).1) (fun h₁ hns hsb => ⟨lim.fresh _ hsb, ?_⟩) S.kind)
    show codeAny _ _ (.expr (cn.lm j).body (NdefX.envF (nfL (cn.lm j) cl c) f s.heap.objs.size)) _ _
    have kp : ∀ b o, s.heap.get? b = some o → h₁.get? b = some o := fun b o e => hsb.extBut b o (Nat.ne_of_lt (Heap.lt_size e)) (Heap.get?_push_of_some _ e)
    have I : Inv (NdefX.ncx (L2.CX P w) P w cn.K mg base N (nfL (cn.lm j) cl c) f A outer s H E) [] (NdefX.startF N vs (ws.map some)) H { s with heap := h₁, toks := s.toks + (ps.zip us).length } := NdefX.inv_startN S hr.hd e0 hvl r C hns kp
    let b : Bd := ⟨cn, lb, H, fun cls dx _ H' => E cls dx H'⟩
    have tk : Takes (NdefX.ncx (L2.CX P w) P w cn.K mg base N (nfL (cn.lm j) cl c) f A outer s H E) b.W := takes_of rfl rfl rfl rfl
    have g : Gd k (NdefX.ncx (L2.CX P w) P w cn.K mg base N (nfL (cn.lm j) cl c) f A outer s H E) b := ⟨rfl, rfl, S.nd, tk, hr.deeper _, passes_of rfl⟩
    have hpl : ps.length + (cn.lm j).fr.length ≤ N.length := by
      have q := congrArg List.length S.pre
      rw [List.length_take, List.length_append] at q
      omega
    have clen := C.len
    rw [List.length_map] at clen
    have o0 := eo.start (N := N) (rd.append rc) (by rw [List.length_append]; omega)
    have es : L2.start N (vs ++ ws) = NdefX.startF N vs (ws.map some) := by
      unfold L2.start NdefX.startF
      rw [List.map_append, List.append_assoc, List.length_append, List.length_map, Nat.sub_add_eq]
    rw [es] at o0
    refine PySem.W.kla_codeExpr (wpAny_mono ((hb A outer s H E f cl c b rfl g).run [] _ _ H Q I ⟨lb, _, st, o0, ?_⟩) (fun v s' hq => ?_) fun e s' hq => hq)
    · cases e : m (startL N.length (ds ++ caps)) st with
      | bad => rw [e] at h; exact h
      | exc z ρ1 s1 =>
        rw [e] at h
        exact fun lb' H' cls dx st' o' xr => h (dl lb') H' cls dx (st'.trans (.dl _ _)) o'.leave (xr.stp (.dl _ _))
      | ok d ρ1 s1 =>
        rw [e] at h
        intro lb' H' st' o' v H2 ex rv
        have o2 := o'.ext ex
        exact h (dl lb') H2 v ((st'.trans (o'.stp_ext ex)).trans (.dl _ _)) o2.leave (rv.stp (.dl _ _))
    · obtain ⟨w', H', J, rv, q⟩ := hq
      exact ⟨w', H', J.os, J.bare, J.base, J.hok, rv, q⟩
  · rw [if_neg hl] at h; exact False.elim h
end Pk
/-! Br41: sorted(x, key=f), f any function: it may call defs. -/
namespace Pk
open PySem PySem.Spec PyProof.Rows L2 PySem.W
end Pk
/-! Br42: sorted(x, key=lambda ..). -/
namespace Pk
open PySem PySem.Spec PyProof.Rows L2
theorem FunD.okC {CX : CXT} {P : Program} {w : World} {K : PySem.W.Frag} {mg : Str → Option Value} {base : Heap} {x qual : Str} {params : Arguments} {body : List Stmt} {scope : Scope} {dvs : List V} {kws : List (Str × V)} {f c : Addr} {fd : FuncData} {N ps : List Str} {k : Nat} {sp : Sp} (F : FunD K x qual params body scope dvs kws f fd) (hc : fd.code = .ref c) (S : FnScope N ps scope) (len : ∀ vs H Q E, sp vs H Q E → vs.length = ps.length)
    (hb : ∀ (A : Around) (outer : List PySem.Env) (s : Shared) (H : Hp) (vs : List V) (Q : VK) (E : XK), Room k (A.deeper (envOfC qual scope s.heap.objs.size f (.ref c))) → sp vs H Q E →
      ∃ t, PSs (cxOf CX P w K mg base N qual scope f (.ref c) A outer s H E) body t ∧ t { nx := fun _ H' => Q .non H', rt := Q } (L2.start N vs) H) : FnOk P w K mg base CX (k + 1) f fd ps sp := by
  obtain ⟨oc, od, dV, kV, doc, pm, an, cdv, ct, osl, rfl, lk, hcd, _, _⟩ := F.ex
  obtain rfl : cdv = .ref c := hc
  exact fn_of lk hcd S len fun A outer s H vs Q E hr hsp => hb A outer s H vs Q E hr hsp
theorem fn_okC {P : Program} {w : World} {mg : Str → Option Value} {base : Heap} {x qual : Str} {params : Arguments} {body : List Stmt} {scope : Scope} {dvs : List V} {kws : List (Str × V)} {f c : Addr} {fd : FuncData} {N ps : List Str} {k p q : Nat} {cn : Cn} {m : S} {Fp : Fn}
    (F : FunD cn.K x qual params body scope dvs kws f fd) (hc : fd.code = .ref c) (S : FnScope N ps scope) (hp : ps.length = p) (hq : N.length = q) (hF : Fp = fnOf p q m)
    (hb : ∀ (A : Around) (outer : List PySem.Env) (s : Shared) (H : Hp) (E : XK) (b : Bd), b.cn = cn → Gd k (cxOf (L2.CX P w) P w cn.K mg base N qual scope f (.ref c) A outer s H E) b → DSs (cxOf (L2.CX P w) P w cn.K mg base N qual scope f (.ref c) A outer s H E) b body m) :
    FnOk P w cn.K mg base (L2.CX P w) (k + 1) f fd ps (spOf cn Fp) := by
  subst hF hp hq
  have hpl : ps.length ≤ N.length := by have := congrArg List.length S.pre; rw [List.length_take] at this; omega
  refine FunD.okC F hc S (fun vs H Q E h => ?_) fun A outer s H vs Q E hr h => ?_
  · obtain ⟨lb, st, ds, eo, r, h⟩ := h
    unfold fnOf at h
    by_cases hl : ds.length = ps.length
    · rw [← r.length]; exact hl
    · rw [if_neg hl] at h; exact False.elim h
  · obtain ⟨lb, st, ds, eo, r, h⟩ := h
    unfold fnOf at h
    by_cases hl : ds.length = ps.length
    · rw [if_pos hl] at h
      let b : Bd := ⟨cn, lb, H, fun cls dx _ H' => E cls dx H'⟩
      have tk : Takes (cxOf (L2.CX P w) P w cn.K mg base N qual scope f (.ref c) A outer s H E) b.W := takes_of rfl rfl rfl rfl
      have g : Gd k (cxOf (L2.CX P w) P w cn.K mg base N qual scope f (.ref c) A outer s H E) b := ⟨rfl, rfl, S.nd, tk, hr, passes_of rfl⟩
      refine ⟨_, hb A outer s H E b rfl g, lb, startL N.length ds, st, eo.start r (by rw [← r.length, hl]; exact hpl), ?_⟩
      cases e : m (startL N.length ds) st with
      | bad => rw [e] at h; exact h
      | exc z ρ1 s1 =>
        rw [e] at h
        exact fun lb' σ' H' cls dx st' o' xr => h (dl lb') H' cls dx (st'.trans (.dl _ _)) o'.leave (xr.stp (.dl _ _))
      | ok fl ρ1 s1 =>
        rw [e] at h
        cases fl with
        | nx => exact fun lb' σ' H' st' o' => h (dl lb') H' .non (st'.trans (.dl _ _)) o'.leave (by simp only [Rep])
        | rt d => exact fun lb' σ' H' st' o' v rv => h (dl lb') H' v (st'.trans (.dl _ _)) o'.leave (rv.stp (.dl _ _))
        | bk => exact False.elim h
        | ct => exact False.elim h
    · rw [if_neg hl] at h; exact False.elim h
/-! ### keys -/
section
variable {X : Cx} {b : Bd} {n : Nat}
theorem capL_rep {lb : Lb} {ρ : Env} {s : Sto} {σ : L2.St} {H : Hp} (o : Ok b lb ρ s σ H) : ∀ {js : List Nat} {caps : List D}, capL ρ js = some caps → ∃ ws : List V, js.map (NdefX.slotAt σ) = ws.map some ∧ RepL b.cn lb H caps ws
  | [], caps, h => by cases h; exact ⟨[], rfl, .nil⟩
  | j :: js, caps, h => by
    unfold capL at h
    cases q : ρ[j]? with
    | none => simp only [q] at h; cases h
    | some z =>
      cases z with
      | sh d =>
        simp only [q] at h
        cases e : capL ρ js with
        | none => rw [e] at h; cases h
        | some c =>
          rw [e] at h
          cases h
          obtain ⟨ws, e1, r⟩ := capL_rep o e
          obtain ⟨v, e2, rv⟩ := o.sh j d q
          exact ⟨v :: ws, by rw [List.map_cons, List.map_cons, e1, NdefX.slotAt_of e2], .cons rv r⟩
      | _ => simp only [q] at h; cases h
/-- the frame at work while the keys are reckoned -/
structure KeyJ (b : Bd) (lb1 : Lb) (H2 : Hp) (ρ : Env) (σ : L2.St) (F : Fn) (l : List D) (KS : List D) (sF : Sto) (a : Addr) (oA : Obj) (kS : Addr) (i : Nat) (ks : List V) (H' : Hp) : Prop where
  ex : ∃ lb' st', Ok b lb' ρ st' σ H' ∧ Stp lb1 H2 lb' H' ∧ lb' a = some .out ∧ lb' kS = some .out ∧ keyGo F (l.drop i) st' = some (KS.drop i, sF) ∧ RepL b.cn lb' H' (KS.take i) ks
  ha : H' a = some (CelO a oA)
  hk : H' kS = some (.lst ks)
  len : ks.length = i
  na : H2 a = none
  nk : H2 kS = none
/-- a lambda as an expression -/
def tLamE (P : Addr) (m : Lm) (cells : List (Str × Addr)) : TE := fun σ H Q => ∃ Z : Addr → Prop, TabZ Z H P m.qual ∧ (∀ a, H a = none → Z a) ∧ ∀ (f c' : Addr) (H1 : Hp), (∀ b o, H b = some o → b ≠ P → H1 b = some o) → (∀ b, H1 b = none → H b = none) → TabZ Z H1 P m.qual → H f = none →
  H1 f = some (LamO f m (cloFrom cells m.scope.names []) c') → Z c' → H1 c' = some (LamX.CodeO c' m.qual) → Q (.ref f) H1
theorem pe_lamE {c P : Addr} {params : Arguments} {body : Expr} {scope : Scope} {pos : Pos} {fr : List Str} (B : LamX.TabB X.base X.mg c P) (hc : X.env.code = .ref c) (hd : defaultsOf params X.env = ([], []))
    (hf : ∀ y ∈ scope.names, y.2 = .free → X.env.scope.names.lookup y.1 = some .cell ∨ X.env.scope.names.lookup y.1 = some .free) :
    PE X (.Lambda params body scope pos) (tLamE P ⟨X.env.qual ++ "<lambda>", params, body, scope, fr⟩ X.env.cells) := by
  refine ⟨fun pins s σ H Q I h => ?_⟩
  obtain ⟨Z, T, hZ, h⟩ := h
  exact lam_new (fr := fr) I B hc T hZ hd (fun y hy e => (hf y hy e).elim (fun z => I.ok.has _ (.inl z)) fun z => I.ok.has _ (.inr z)) fun f c' H1 s' I1 k nn T1 nf hf hz hc' => ⟨.ref f, H1, I1, rfl, h f c' H1 k nn T1 nf hf hz hc'⟩
end
end Pk
/-! Br43: laws with lambdas: the entry, the end, the head's facts. -/
namespace Pk
open PySem PySem.Spec PyProof.Rows L2
/-! ### words of a lambda -/
def lamQ (q : Str) : Str := q ++ ".<locals>." ++ "<lambda>"
def lamArgs : Expr → Arguments
  | .Lambda p _ _ _ => p
  | _ => default
def lamBody : Expr → Expr
  | .Lambda _ b _ _ => b
  | e => e
def lamScope : Expr → Scope
  | .Lambda _ _ s _ => s
  | _ => default
def argE (n : Nat) : Expr → Expr
  | .Call _ as _ _ => as.getD n (.Constant .none 0 ⟨0, 0, 0, 0⟩)
  | e => e
def retE : Stmt → Expr
  | .Return (some e) _ => e
  | _ => .Constant .none 0 ⟨0, 0, 0, 0⟩
def lmOf (q : Str) (e : Expr) (fr : List Str) : Lm := ⟨lamQ q, lamArgs e, lamBody e, lamScope e, fr⟩
theorem lam_okM {cn : Cn} {P : Program} {w : World} {mg : Str → Option Value} {base : Heap} {k j p n : Nat} {N ps : List Str} {m : M D} {m0 : Lm} (hl : cn.lm j = m0) (S : NdefX.NScope N ps m0.fr m0.scope) (hp : ps.length = p) (hn : N.length = n)
    (hbind : ∀ (cl : List (Str × Addr)) (pm cv ctv : Value) (us : List Value), us.length = ps.length → bindArgs (PySem.W.kla_fn "<lambda>" m0.qual m0.params m0.body m0.scope cl pm cv ctv) ⟨us, []⟩ = pure (ps.zip us))
    (hb : ∀ (A : Around) (outer : List PySem.Env) (s : Shared) (H : Hp) (E : XK) (f : Addr) (cl : List (Str × Addr)) (c : Addr) (b : Bd), b.cn = cn → Gd k (NdefX.ncx (L2.CX P w) P w cn.K mg base N (nfL m0 cl c) f A outer s H E) b → DE (NdefX.ncx (L2.CX P w) P w cn.K mg base N (nfL m0 cl c) f A outer s H E) b m0.body m) :
    LOk cn P w mg base (k + 1) j (lamFn p n m) := by
  subst hl
  exact lam_ok S hp hn hbind hb
theorem lamF_by {sc scope : Scope} (h : (scope.names.all fun y => !decide (y.2 = .free) || decide (sc.names.lookup y.1 = some .cell) || decide (sc.names.lookup y.1 = some .free)) = true) : ∀ y ∈ scope.names, y.2 = .free → sc.names.lookup y.1 = some .cell ∨ sc.names.lookup y.1 = some .free := fun y hy e => by
  have := List.all_eq_true.mp h y hy
  simp only [Bool.or_eq_true, Bool.not_eq_true', decide_eq_true_eq, decide_eq_false_iff_not] at this
  rcases this with (z | z) | z
  · exact absurd e z
  · exact .inl z
  · exact .inr z
theorem lamR_by {scope : Scope} {fr : List Str} (h : (fr.all fun y => scope.names.any fun p => decide (p.1 = y) && decide (p.2 = .free)) = true) : ∀ y ∈ fr, (y, NameKind.free) ∈ scope.names := fun y hy => by
  have := List.all_eq_true.mp h y hy
  obtain ⟨p, hp, e⟩ := List.any_eq_true.mp this
  simp only [Bool.and_eq_true, decide_eq_true_eq] at e
  have : p = (y, NameKind.free) := Prod.ext e.1 e.2
  rw [← this]
  exact hp
/-! ### the entry -/
def lbT (cn : Cn) : Lb := fun a => (cn.tb.findIdx? fun p => p.1 == a).map .tab
theorem lbT_some {cn : Cn} {a : Addr} {l : Lab} (h : lbT cn a = some l) : ∃ n p, l = .tab n ∧ cn.tb[n]? = some p ∧ p.1 = a := by
  unfold lbT at h
  cases q : cn.tb.findIdx? fun p => p.1 == a with
  | none => rw [q] at h; cases h
  | some n =>
    rw [q] at h
    cases h
    obtain ⟨hlt, h1, _⟩ := List.findIdx?_eq_some_iff_getElem.mp q
    exact ⟨n, cn.tb[n], rfl, List.getElem?_eq_getElem hlt, by simpa using h1⟩
theorem lbT_at {cn : Cn} (nd : (cn.tb.map (·.1)).Nodup) {n : Nat} {p : Addr × Str} (h : cn.tb[n]? = some p) : lbT cn p.1 = some (.tab n) := by
  obtain ⟨hlt, e⟩ := List.getElem?_eq_some_iff.mp h
  unfold lbT
  have : cn.tb.findIdx? (fun q => q.1 == p.1) = some n := by
    rw [List.findIdx?_eq_some_iff_getElem]
    refine ⟨hlt, by rw [e]; simp, fun j hj => ?_⟩
    simp only [beq_iff_eq]
    intro z
    have h1 : (cn.tb.map (·.1))[j]'(by rw [List.length_map]; omega) = (cn.tb.map (·.1))[n]'(by rw [List.length_map]; exact hlt) := by
      simp [z, e]
    exact (List.pairwise_iff_getElem.mp nd) j n (by rw [List.length_map]; omega) (by rw [List.length_map]; exact hlt) hj h1
  rw [this]
  rfl
theorem eok_tabs {cn : Cn} {H : Hp} (nd : (cn.tb.map (·.1)).Nodup) (hT : ∀ p ∈ cn.tb, H p.1 = some (.tbl #[])) : EOk cn (lbT cn) ⟨none, []⟩ H where
  sto := ⟨fun a e => (by obtain ⟨_, _, z, _⟩ := lbT_some e; cases z), fun n fs e => (by simp at e), fun a b l h1 h2 _ => (by
      obtain ⟨n, p, e1, e2, e3⟩ := lbT_some h1
      obtain ⟨m, q, e4, e5, e6⟩ := lbT_some h2
      rw [e1] at e4
      cases e4
      rw [e2] at e5
      cases e5
      rw [← e3, ← e6]), fun a n f e => (by rcases e with e | e | e <;> (obtain ⟨_, _, z, _⟩ := lbT_some e; cases z)), fun n p e => ⟨lbT_at nd e, #[], hT p (List.mem_of_getElem? e), True.intro, fun pos cv z => by
        have z : codeAmong pos [] = some cv := z
        simp [codeAmong] at z⟩, fun a n f e => (by obtain ⟨_, _, z, _⟩ := lbT_some e; cases z), fun n fs e => (by simp at e)⟩
  has := fun a l e => by
    obtain ⟨n, p, _, e2, e3⟩ := lbT_some e
    exact ⟨.tbl #[], by rw [← e3]; exact hT p (List.mem_of_getElem? e2), trivial⟩
  nl := fun a l e => by
    obtain ⟨n, p, e1, _⟩ := lbT_some e
    rw [e1]; rfl
theorem sp_lawT {cn : Cn} {F : Fn} {n : Nat} (nd : (cn.tb.map (·.1)).Nodup) (hn : n ≤ SZ) (hF : ∀ ns : List Int, ns.length ≤ n → ∃ s', F [.scr ns] ⟨none, []⟩ = .ok (.bool true) s') (H : Hp) (hT : ∀ p ∈ cn.tb, H p.1 = some (.tbl #[])) (a : Addr) (ns : List Int) (hl : ns.length ≤ n) (hS : SqL cn.K H a (ns.map V.int)) :
    spOf cn F [.ref a] H (fun v _ => v = .bl true) fun _ _ _ => False := by
  obtain ⟨s', e⟩ := hF ns hl
  refine ⟨lbT cn, ⟨none, []⟩, [.scr ns], eok_tabs nd hT, ?_, ?_⟩
  · refine ⟨_, _, rfl, ?_, rfl⟩
    simp only [Rep]
    refine ⟨a, rfl, hS.elim (fun x => .inl ⟨?_, x⟩) .inr, Nat.le_trans hl hn⟩
    cases q : lbT cn a with
    | none => rfl
    | some l =>
      obtain ⟨m, p, _, e2, e3⟩ := lbT_some q
      have := hT p (List.mem_of_getElem? e2)
      rw [e3] at this
      rcases x with x | ⟨o, x⟩
      · rw [this] at x; cases x
      · rw [this] at x; cases x
  · rw [e]
    intro lb' H' v st eo r
    simpa only [Rep] using r
/-- the end of a law with lambdas -/
theorem law_endT {l : PySem.W.OpenLaw} {n k : Nat} {q : Program} {loose : List Str} {XP : (Str → Option Value) → Heap → Prop} {YP : World → Heap → Prop} {d : DefRec} {x : Str} {Fp : Fn}
    (hn : l.most = some n) (hn2 : n ≤ SZ) (hdf : d.params.defaults = []) (hr : Room k callerA)
    (F : ∀ (w : World) (mg : Str → Option Value) (fa : Addr) (h : Heap), YP w h → h.Ns mainGlobals mg → mg d.name = some (.ref fa) →
      ∃ (cn : Cn) (fd : FuncData) (cs : List (Addr × Addr)), cn.tb.map (·.1) = cs.map (·.2) ∧ (cn.tb.map (·.1)).Nodup ∧ (∀ p ∈ cs, h.get? p.2 = some { cls := .none, data := .fields #[] }) ∧ (∀ p ∈ cs, cn.K.lookup p.2 = none) ∧ (∀ p ∈ cs, PySem.W.CodeHd h p.1 p.2) ∧ cn.K.In h ∧ (∀ (s : Shared) (u : Value), BindsTo s fd ⟨[u], []⟩ [(x, u)]) ∧
        ∀ base : Heap, (∀ p ∈ cs, LamX.TabB base mg p.1 p.2) → FnOk l.prog w cn.K mg base (L2.CX l.prog w) k fa fd [x] (spOf cn Fp))
    (hF : ∀ ns : List Int, ns.length ≤ n → ∃ s', Fp [.scr ns] ⟨none, []⟩ = .ok (.bool true) s') :
    PySem.W.WalkO q loose XP YP l.row.toRowW d [] (fun f vs => PySem.call f vs) := by
  refine Att.attach_call hn hdf fun w s₀ s₁ mg mb fa o pm cd doc a vs ns G Y ho hd hcd hmg hobj hints hlen hg => ?_
  obtain ⟨cn, fd, cs, ec, nd, hT, nT, C, KX, hb, ok⟩ := F w mg fa _ Y G.T.g hmg
  refine LamX.law_callTs (k := k) (sp := spOf cn Fp) (cs := cs) KX G.T.g G.T.b G.T.builtins G.T.nolimit hg hT nT C G.T.bmain hobj hints (Nat.le_trans hlen (Nat.le_trans hn2 (by decide))) hr (fun base _ _ tb => ok base tb) hb (fun H hH hS => sp_lawT nd hn2 hF H (fun p hp => ?_) a ns hlen hS) fun H e s' hc => ?_
  · have : p.1 ∈ cs.map (·.2) := by rw [← ec]; exact List.mem_map.mpr ⟨p, hp, rfl⟩
    obtain ⟨q, hq, eq⟩ := List.mem_map.mp this
    rw [← eq]
    exact hH q hq
  · obtain ⟨_, _, _, _, _, _, _, _, _, _, _, _, z⟩ := hc
    exact z
/-! ### the head's facts, with tables -/
def tabNd (tf : List He.Defn) (K : PySem.W.Frag) : Bool := decide ((tf.map fun p => (He.cT K p).2).Nodup)
def obsY (n : Nat) (fa : List He.Fa) (fn : List He.DefD) (fx : PySem.W.Frag → Bool) (tf : List He.Defn) (g : Addr → Option Obj) : He.AlD × Bool := (obsX fa fn fx (He.frT g (He.asD g n)), He.tabsB g tf (He.frT g (He.asD g n)) && tabNd tf (He.frT g (He.asD g n)))
structure SaysY (fa : List He.Fa) (fn : List He.DefD) (fx : PySem.W.Frag → Bool) (tf : List He.Defn) (h : Heap) (K : PySem.W.Frag) : Prop where
  x : SaysX fa fn fx K
  hd : ∀ p ∈ tf, PySem.W.codeHdIn K (He.cT K p).1 (He.cT K p).2 = true
  out : ∀ p ∈ tf, K.lookup (He.cT K p).2 = none
  empty : ∀ p ∈ tf, h.get? (He.cT K p).2 = some { cls := .none, data := .fields #[] }
  nd : (tf.map fun p => (He.cT K p).2).Nodup
theorem saysY_of {n : Nat} {fa : List He.Fa} {fn : List He.DefD} {fx : PySem.W.Frag → Bool} {tf : List He.Defn} {h : Heap} (e : obsY n fa fn fx tf h.get? = (He.valD fn, true)) : SaysY fa fn fx tf h (He.frT h.get? (He.asD h.get? n)) := by
  have e1 := congrArg (fun z : He.AlD × Bool => z.1) e
  have e2 := congrArg (fun z : He.AlD × Bool => z.2) e
  simp only [obsY] at e1 e2
  obtain ⟨h1, h2⟩ := He.ba e2
  have each : ∀ p ∈ tf, PySem.W.codeHdIn (He.frT h.get? (He.asD h.get? n)) (He.cT (He.frT h.get? (He.asD h.get? n)) p).1 (He.cT (He.frT h.get? (He.asD h.get? n)) p).2 = true ∧ ∃ o, h.get? (He.cT (He.frT h.get? (He.asD h.get? n)) p).2 = some o ∧ He.emptyTab o = true := fun p hp => by
    obtain ⟨a1, a2⟩ := He.ba (List.all_eq_true.mp h1 p hp)
    refine ⟨a1, ?_⟩
    revert a2
    cases h.get? (He.cT (He.frT h.get? (He.asD h.get? n)) p).2 with
    | none => intro z; cases z
    | some o => intro z; exact ⟨o, rfl, z⟩
  refine ⟨e1, fun p hp => (each p hp).1, fun p hp => ?_, fun p hp => ?_, of_decide_eq_true h2⟩
  · obtain ⟨_, o, q, z⟩ := each p hp
    exact He.frT_none q z
  · obtain ⟨_, o, q, z⟩ := each p hp
    rw [q, He.emptyTab_eq z]
def hookY (n : Nat) (fa : List He.Fa) (fn : List He.DefD) (fx : PySem.W.Frag → Bool) (tf : List He.Defn) : PySem.W.Hook where
  α := He.AlD × Bool
  obs := fun s => obsY n fa fn fx tf s.heap.get?
  val := fun _ => (He.valD fn, true)
  says := fun _ h => ∃ K : PySem.W.Frag, K.In h ∧ SaysY fa fn fx tf h K
  of := fun _ _ e => ⟨_, He.frT_in, saysY_of e⟩
  keeps := fun _ _ _ ⟨K, hK, c⟩ k => ⟨K, PySem.W.Frag.In.keeps hK k, ⟨c.x, c.hd, c.out, fun p hp => k _ _ (c.empty p hp), c.nd⟩⟩
theorem obsY_eq {n : Nat} {fa : List He.Fa} {fn : List He.DefD} {fx : PySem.W.Frag → Bool} {tf : List He.Defn} {g : Addr → Option Obj} {s : Shared} (h : ∀ a, g a = s.heap.get? a) : obsY n fa fn fx tf g = (hookY n fa fn fx tf).obs s := by
  have e : g = s.heap.get? := funext h
  rw [e] <;> rfl
theorem code_at {K : PySem.W.Frag} {p : He.Defn} {x qual : Str} {params : Arguments} {body : List Stmt} {scope : Scope} {dvs : List V} {kws : List (Str × V)} {fd : FuncData} (F : FunD K x qual params body scope dvs kws (He.fAd K p) fd) : fd.code = .ref (He.cT K p).1 := by
  obtain ⟨oc, od, dV, kV, doc, pm, an, cdv, ct, osl, rfl, lk, hcd, _, _⟩ := F.ex
  obtain ⟨c, rfl⟩ := He.codeIn_ref hcd
  have e := He.codeOf_eq (c := c) lk rfl
  show (Value.ref c) = .ref (He.codeOf K p)
  rw [e]
end Pk
/-! Pk5: x.index(y). -/
namespace Pk
noncomputable section
end
end Pk
/-! Br44: x.index(y). -/
namespace Pk
open PySem PySem.Spec PyProof.Rows L2
end Pk
/-! Br45: defs with defaults; calls with a keyword. -/
namespace Pk
open PySem PySem.Spec PyProof.Rows L2
end Pk
/-! Pk6: a call of a lambda that a slot holds. -/
namespace Pk
noncomputable section
def eCallC (Lt : List (Nat × (List D → Fn))) (i : Nat) (ms : List (M D)) : M D := fun r s => match r[i]? with
  | some (.sh (.clo k caps)) => (match Lt.lookup k with
    | some L => (eL ms r s).bind fun ds r s => if lim (s.o = []) && ds.all (D.dep 60) && caps.all (D.dep 60) then (match L caps ds s with
      | .ok d s => .ok d r s
      | _ => .bad) else .bad
    | .none => .bad)
  | _ => .bad
/-- a call of a def whose last argument is a lambda -/
def eCallL (F : Fn) (k : Nat) (js : List Nat) (ms : List (M D)) : M D := fun r s => (eL ms r s).bind fun ds r s => match capL r js with
  | some caps => (match F (ds ++ [.clo k caps]) s with
    | .ok d s' => if d.dep 60 && lim (s'.o = []) then .ok d r s' else .bad
    | _ => .bad)
  | .none => .bad
end
end Pk
/-! Br46: a call of a lambda that a slot holds: the captured cells are hidden while it runs. -/
namespace Pk
open PySem PySem.Spec PyProof.Rows L2
section
variable {P : Program} {w : World}
open Classical in
noncomputable def cut (Z : Addr → Prop) (H : Hp) : Hp := fun a => if Z a then none else H a
open Classical in
noncomputable def put (Z : Addr → Prop) (H H' : Hp) : Hp := fun a => if Z a then H a else H' a
theorem cut_in {Z : Addr → Prop} {H : Hp} {a : Addr} (h : Z a) : cut Z H a = none := by unfold cut; rw [if_pos h]
theorem cut_out {Z : Addr → Prop} {H : Hp} {a : Addr} (h : ¬ Z a) : cut Z H a = H a := by unfold cut; rw [if_neg h]
theorem put_in {Z : Addr → Prop} {H H' : Hp} {a : Addr} (h : Z a) : put Z H H' a = H a := by unfold put; rw [if_pos h]
theorem put_out {Z : Addr → Prop} {H H' : Hp} {a : Addr} (h : ¬ Z a) : put Z H H' a = H' a := by unfold put; rw [if_neg h]
theorem cut_some {Z : Addr → Prop} {H : Hp} {a : Addr} {o : HO} (h : cut Z H a = some o) : ¬ Z a ∧ H a = some o := by
  by_cases z : Z a
  · rw [cut_in z] at h; cases h
  · rw [cut_out z] at h; exact ⟨z, h⟩
/-- the hidden things are cells -/
def CellsZ (Z : Addr → Prop) (lb : Lb) (H : Hp) (h : Heap) : Prop := ∀ a, Z a → lb a = none ∧ ∃ o, H a = some (CelO a o) ∧ h.get? a = some o ∧ ∃ u, o.data = .cell (some u)
theorem objOk_cut {Z : Addr → Prop} {lb : Lb} {H : Hp} {h : Heap} (C : CellsZ Z lb H h) {a : Addr} : ∀ {o : HO}, ObjOk P w H h a o → ObjOk P w (cut Z H) h a o
  | .lst _, x => x
  | .tup _, x => x
  | .dK _, x => x
  | .dT kvs, x => by
    obtain ⟨h1, h2, xs, pr, h3⟩ := x
    refine ⟨h1, h2, xs, ?_, h3⟩
    refine L2.Paired.mapP pr fun p q ⟨e1, e2, e3⟩ => ⟨e1, ?_, e3⟩
    rw [cut_out fun z => ?_]
    · exact e2
    · obtain ⟨_, o, e, _⟩ := C _ z
      rw [e2] at e
      unfold CelO at e
      cases e
  | .set _ _, x => x
  | .ins _ dx _, x => by
    obtain ⟨h1, h2⟩ := x
    refine ⟨?_, h2⟩
    rw [cut_out fun z => ?_]
    · exact h1
    · obtain ⟨_, o, e, _⟩ := C _ z
      rw [h1] at e
      unfold CelO at e
      cases e
  | .own _, x => x
  | .xd _, x => x
  | .rng _ _, x => x
  | .frz _ u, x => ⟨x.1, objOk_cut C x.2⟩
  | .tbl _, x => x
  | .met _ _, x => x
  | .ext _, x => x
theorem objOk_grow {H H' : Hp} {h : Heap} (E : Ext H H') {a : Addr} : ∀ {o : HO}, ObjOk P w H h a o → ObjOk P w H' h a o
  | .lst _, x => x
  | .tup _, x => x
  | .dK _, x => x
  | .dT kvs, x => by
    obtain ⟨h1, h2, xs, pr, h3⟩ := x
    exact ⟨h1, h2, xs, L2.Paired.mapP pr fun p q ⟨e1, e2, e3⟩ => ⟨e1, E _ _ e2, e3⟩, h3⟩
  | .set _ _, x => x
  | .ins _ dx _, x => ⟨E _ _ x.1, x.2⟩
  | .own _, x => x
  | .xd _, x => x
  | .rng _ _, x => x
  | .frz _ u, x => ⟨x.1, objOk_grow E x.2⟩
  | .tbl _, x => x
  | .met _ _, x => x
  | .ext _, x => x
theorem celO_ok {a : Addr} {o : Obj} {h : Heap} {H : Hp} (e : h.get? a = some o) : ObjOk P w H h a (CelO a o) := ⟨e, ⟨o, e⟩, fun h1 h2 q st => st o q⟩
/-- a call's end, the cells told again -/
theorem ce_put {Z : Addr → Prop} {lb : Lb} {outer : List PySem.Env} {H : Hp} {s s' : Shared} {Q : VK} {u : Value} (C : CellsZ Z lb H s.heap) (fr : ∀ b ∈ frs outer, H b = none)
    (h : CE outer P w (cut Z H) s (fun v H' => (∀ a, Z a → H' a = none) → Q v (put Z H H')) u s') : CE outer P w H s Q u s' := by
  obtain ⟨v, H', os, ag, un, ok, r, q⟩ := h
  have nz : ∀ a, Z a → H' a = none := fun a z => by
    obtain ⟨_, o, _, e, _⟩ := C a z
    exact un.free a o e (cut_in z) (by simp)
  have nx : ∀ {b : Addr} {o : HO}, H b = some o → (∀ φ, o ≠ .ext φ) → ¬ Z b := fun e ne z => by
    obtain ⟨_, o, e2, _⟩ := C _ z
    rw [e] at e2
    exact ne _ (Option.some.inj e2)
  refine ⟨v, put Z H H', os, ag, ⟨fun b o e n hf hx => ?_, fun b o e n hf hx => ?_, fun b o e n hx => ?_, un.there, fun b xs e => ?_, fun b o u e => ?_, fun b ps e => ?_⟩, fun a o e => ?_, r, q nz⟩
  · refine un.keep b o e ?_ hf hx
    by_cases z : Z b
    · exact cut_in z
    · rw [cut_out z]; exact n
  · refine un.slot b o e ?_ hf hx
    by_cases z : Z b
    · exact cut_in z
    · rw [cut_out z]; exact n
  · by_cases z : Z b
    · rw [put_in z]; exact n
    · rw [put_out z]
      exact un.free b o e (by rw [cut_out z]; exact n) hx
  · have z := nx e (fun _ k => nomatch k)
    rw [put_out z]
    exact un.tups b xs (by rw [cut_out z]; exact e)
  · have z := nx e (fun _ k => nomatch k)
    rw [put_out z]
    exact un.frzs b o u (by rw [cut_out z]; exact e)
  · have z := nx e (fun _ k => nomatch k)
    rw [put_out z]
    exact un.tbls b ps (by rw [cut_out z]; exact e)
  · by_cases z : Z a
    · obtain ⟨_, o2, e2, e3, _⟩ := C a z
      rw [put_in z, e2] at e
      cases e
      refine celO_ok (un.keep a o2 e3 (cut_in z) (fun hf => ?_) (by simp))
      rw [fr a hf] at e2
      cases e2
    · rw [put_out z] at e
      refine objOk_grow (H := H') (fun b o2 e2 => ?_) (ok a o e)
      by_cases zb : Z b
      · rw [nz b zb] at e2; cases e2
      · rw [put_out zb]; exact e2
theorem env0_cut {Z : Addr → Prop} {lb : Lb} {K : PySem.W.Frag} {mg : Str → Option Value} {base : Heap} {A : Around} {outer : List PySem.Env} {s : Shared} {H : Hp} (C : CellsZ Z lb H s.heap) (e : Env0 P w K mg base A outer s H) : Env0 P w K mg base A outer s (cut Z H) := by
  have none_cut : ∀ {b : Addr}, H b = none → cut Z H b = none := fun {b} n => by
    by_cases z : Z b
    · exact cut_in z
    · rw [cut_out z]; exact n
  exact ⟨e.frames, e.mod, fun b o q => ⟨(e.bs b o q).1, none_cut (e.bs b o q).2⟩, e.bsz, e.funs, fun b q => none_cut (e.frf b q), fun a o q => objOk_cut C (e.hok a o (cut_some q).2), e.bare⟩
end
section
variable {cn : Cn} {Z : Addr → Prop} {lb : Lb} {H : Hp} {h : Heap}
theorem not_cell {a : Addr} {φ : Heap → Prop} (C : CellsZ Z lb H h) (e : H a = some (.ext φ)) (ne : ∀ o u, h.get? a = some o → o.data = .cell (some u) → ¬ φ h) : ¬ Z a := fun z => by
  obtain ⟨_, o, e2, e3, u, e4⟩ := C a z
  rw [e] at e2
  unfold CelO at e2
  have e5 : φ = fun h => h.get? a = some o := by
    have := Option.some.inj e2
    injection this
  refine ne o u e3 e4 ?_
  rw [e5]
  exact e3
theorem lam_not {a c : Addr} {m : Lm} {cl : List (Str × Addr)} (C : CellsZ Z lb H h) (e : H a = some (LamO a m cl c)) : ¬ Z a := not_cell C e fun o u q d ⟨pm, ctv, q2⟩ => by
  rw [q] at q2
  cases q2
  cases d
theorem code_not {a : Addr} {q : Str} (C : CellsZ Z lb H h) (e : H a = some (LamX.CodeO a q)) : ¬ Z a := not_cell C e fun o u q d ⟨oc, vs, t, q2, q3, _⟩ => by
  rw [q] at q2
  cases q2
  rw [d] at q3
  cases q3
mutual
theorem rep_hide (C : CellsZ Z lb H h) : ∀ {x : D} {v : V} {n : Nat}, x.dep n = true → Rep cn lb H x v → Rep cn lb (cut Z H) x v
  | .none, v, n, hd, r => by simp only [Rep] at r ⊢; exact r
  | .bool b, v, n, hd, r => by simp only [Rep] at r ⊢; exact r
  | .int b, v, n, hd, r => by simp only [Rep] at r ⊢; exact r
  | .str b, v, n, hd, r => by simp only [Rep] at r ⊢; exact r
  | .lst l, v, 0, hd, r => by simp [D.dep] at hd
  | .tup l, v, 0, hd, r => by simp [D.dep] at hd
  | .lst l, v, n + 1, hd, r => by
    simp only [D.dep] at hd
    simp only [Rep] at r ⊢
    obtain ⟨a, vs, rfl, nl, z, rl⟩ := r
    refine ⟨a, vs, rfl, ⟨nl.1, ?_⟩, z, repL_hide C hd rl⟩
    rw [cut_out fun za => ?_]
    · exact nl.2
    · obtain ⟨_, o, e, _⟩ := C a za
      rw [nl.2] at e
      unfold CelO at e
      cases e
  | .tup l, v, n + 1, hd, r => by
    simp only [D.dep] at hd
    simp only [Rep] at r ⊢
    obtain ⟨a, vs, rfl, nl, z, rl⟩ := r
    refine ⟨a, vs, rfl, ⟨nl.1, ?_⟩, z, repL_hide C hd rl⟩
    rw [cut_out fun za => ?_]
    · exact nl.2
    · obtain ⟨_, o, e, _⟩ := C a za
      rw [nl.2] at e
      unfold CelO at e
      cases e
  | .dct _ _, v, n, hd, r => by cases n <;> simp [D.dep] at hd
  | .fn _, v, n, hd, r => by cases n <;> simp [D.dep] at hd
  | .clo _ _, v, n, hd, r => by cases n <;> simp [D.dep] at hd
  | .town, v, n, hd, r => by cases n <;> simp [D.dep] at hd
  | .obj _, v, n, hd, r => by cases n <;> simp [D.dep] at hd
  | .scr _, v, n, hd, r => by cases n <;> simp [D.dep] at hd
theorem repL_hide (C : CellsZ Z lb H h) : ∀ {l : List D} {vs : List V} {n : Nat}, l.all (D.dep n) = true → RepL cn lb H l vs → RepL cn lb (cut Z H) l vs
  | [], vs, n, hd, r => by simp only [RepL] at r ⊢; exact r
  | x :: l, vs, n, hd, r => by
    simp only [List.all_cons, Bool.and_eq_true] at hd
    simp only [RepL] at r ⊢
    obtain ⟨v, r', rfl, r1, r2⟩ := r
    exact ⟨v, r', rfl, rep_hide C hd.1 r1, repL_hide C hd.2 r2⟩
end
theorem eok_cut {s : Sto} (C : CellsZ Z lb H h) (e : EOk cn lb s H) (hs : s.o = []) : EOk cn lb s (cut Z H) := by
  have nz : ∀ {a : Addr} {l : Lab}, lb a = some l → ¬ Z a := fun q z => by
    have := (C _ z).1
    rw [q] at this
    cases this
  refine ⟨⟨fun a q => ?_, fun m fs q => ?_, e.sto.uniq, e.sto.dom, fun m p q => ?_, e.sto.flds, e.sto.nods⟩, fun a l q => ?_, e.nl⟩
  · rw [cut_out (nz q)]; exact e.sto.town a q
  · rw [hs] at q; simp at q
  · obtain ⟨h1, ps, h2, h3, h4⟩ := e.sto.tabs m p q
    refine ⟨h1, ps, by rw [cut_out (nz h1)]; exact h2, h3, fun pos cv k => ?_⟩
    obtain ⟨c, c1, c2, c3⟩ := h4 pos cv k
    exact ⟨c, c1, c2, by rw [cut_out (code_not C c3)]; exact c3⟩
  · rw [cut_out (nz q)]; exact e.has a l q
theorem put_ext {H' : Hp} (nz : ∀ a, Z a → H' a = none) : Ext H' (put Z H H') := fun a o e => by
  by_cases z : Z a
  · rw [nz a z] at e; cases e
  · rw [put_out z]; exact e
theorem eok_put {s : Sto} {H' : Hp} (nz : ∀ a, Z a → H' a = none) (e : EOk cn lb s H') : EOk cn lb s (put Z H H') := by
  have nb : ∀ {a : Addr} {l : Lab}, lb a = some l → ¬ Z a := fun q z => by
    obtain ⟨u, hu, _⟩ := e.has _ _ q
    rw [nz _ z] at hu
    cases hu
  refine ⟨e.sto.stp (Stp.of_ext (put_ext nz) e.has).q (fun a l q _ => put_out (nb q)) (fun _ _ q _ => q), fun a l q => ?_, e.nl⟩
  rw [put_out (nb q)]
  exact e.has a l q
theorem stp_put {lb' : Lb} {H' : Hp} {s' : Sto} (C : CellsZ Z lb H h) (nz : ∀ a, Z a → H' a = none) (e : EOk cn lb' s' H') (st : Stp lb (cut Z H) lb' H') : Stp lb H lb' (put Z H H') where
  keep := fun a o q n => by
    by_cases z : Z a
    · rw [put_in z]; exact q
    · rw [put_out z]; exact st.keep a o (by rw [cut_out z]; exact q) n
  out := fun a q => by
    have z : ¬ Z a := fun z => by
      have := (C a z).1
      rw [q] at this
      cases this
    have := st.out a q
    rw [put_out z, this.2, cut_out z]
    exact ⟨this.1, rfl⟩
  new := fun a q => by
    have z : ¬ Z a := fun z => by
      cases k : lb' a with
      | none => exact q k
      | some l =>
        obtain ⟨u, hu, _⟩ := e.has a l k
        rw [nz a z] at hu
        cases hu
    have := st.new a q
    rw [cut_out z] at this
    exact this
  sto := st.sto
  dom := fun a q => by
    by_cases z : Z a
    · rw [put_in z]; exact q
    · rw [put_out z]; exact st.dom a (by rw [cut_out z]; exact q)
end
/-- the lambdas that may come as values -/
def LTab (cn : Cn) (P : Program) (w : World) (mg : Str → Option Value) (base : Heap) (n : Nat) (Lt : List (Nat × (List D → Fn))) : Prop := ∀ (j : Nat) (L : List D → Fn), Lt.lookup j = some L → ∃ k, k ≤ n ∧ LOk cn P w mg base k j L
theorem LTab.nil {cn : Cn} {P : Program} {w : World} {mg : Str → Option Value} {base : Heap} {n : Nat} : LTab cn P w mg base n [] := fun j F h => by cases h
theorem LTab.cons {cn : Cn} {P : Program} {w : World} {mg : Str → Option Value} {base : Heap} {n k j : Nat} {L : List D → Fn} {Lt : List (Nat × (List D → Fn))} (h : LOk cn P w mg base k j L) (hk : k ≤ n) (t : LTab cn P w mg base n Lt) : LTab cn P w mg base n ((j, L) :: Lt) := fun i M e => by
  rw [List.lookup_cons] at e
  split at e
  · rename_i q
    cases e
    have : i = j := by simpa using q
    subst this
    exact ⟨k, hk, h⟩
  · exact t i M e
section
variable {X : Cx} {b : Bd} {n : Nat}
theorem de_callC {i m : Nat} {Lt : List (Nat × (List D → Fn))} {x : Str} {p pos : Pos} {e : Expr} {es : List Expr} {ms : List (M D)} {P : Program} {w : World} {mg : Str → Option Value} {base : Heap} (g : Gd n X b) (V : LTab b.cn P w mg base m Lt) (hk : m ≤ n) (hP : X.prog = P) (hw : X.w = w) (hm : X.mg = mg) (hb : X.base = base)
    (hN : X.N[i]? = some x) (hv : Vis X.env.scope x) (ha : DA X b (e :: es) ms) (hdb : (x == ("__debug__" : Str)) = false := by decide) (hcd : (x == ("__classdict__" : Str)) = false := by decide) (he : starEach (e :: es) X.env = (false, eval e X.env) :: starEach es X.env := by rfl) (hpl : (backTo pos (starEach es X.env)).any (·.1) = false := by rfl) :
    DE X b (.Call (.Name x p) (e :: es) [] pos) (eCallC Lt i ms) := by
  subst hP hw hm hb
  refine ⟨fun pins s σ H Q I h => ?_⟩
  obtain ⟨lb, ρ, t, o, h⟩ := h
  unfold eCallC at h
  cases q : ρ[i]? with
  | none => rw [q] at h; exact False.elim h
  | some z =>
    cases z with
    | sh d =>
      cases d with
      | clo j caps =>
        simp only [q] at h
        cases ql : Lt.lookup j with
        | none => simp only [ql] at h; exact False.elim h
        | some L =>
          simp only [ql] at h
          obtain ⟨k, hkm, LO⟩ := V j L ql
          obtain ⟨v, e1, r⟩ := o.sh i _ q
          simp only [Rep] at r
          obtain ⟨f, cl, c, ws, rfl, ⟨lf, hf⟩, ⟨lc, hc⟩, cr, rc⟩ := r
          have fnA : ∀ {H' : Hp} {s' : Shared}, Inv X pins σ H' s' → H' f = some (LamO f (b.cn.lm j) cl c) → PySem.W.FnAt f s'.heap := fun I' hf' => by
            obtain ⟨⟨pm, ctv, ho⟩, _⟩ := I'.hok f _ hf'
            exact ⟨_, _, _, _, ho⟩
          refine wpAny_Call_Name_kw (thn ((pe_var (pos := p) hN hv hdb hcd).run pins s σ H (fun v H1 => v = .ref f ∧ H1 = H) I ⟨.ref f, e1, rfl, rfl⟩) fun u s1 ⟨v, H1, I1, r1, q1⟩ => ?_)
          obtain ⟨rfl, rfl⟩ := q1
          obtain rfl : u = Value.ref f := r1
          refine PySem.W.callWith_F (first := []) (fnA I1 hf) (thn (ha.run pos pins s1 σ _ (fun vs H2 => ∃ lb1 ρ1 t1 ds, Ok b lb1 ρ1 t1 σ H2 ∧ Stp lb H1 lb1 H2 ∧ RepL b.cn lb1 H2 ds vs ∧ Post b σ lb1 H2 (if lim (t1.o = []) && ds.all (D.dep 60) && caps.all (D.dep 60) then (match L caps ds t1 with | .ok d s => .ok d ρ1 s | _ => .bad) else .bad) fun d _ _ lb' H' => Kt false b.cn lb' H' d Q) I1
            ⟨lb, ρ, t, o, (Post.bind h).mono fun ds ρ1 s1 lb1 H2 st o1 q1 => fun vs H3 ex r => ⟨lb1, ρ1, s1, ds, o1.ext ex, st.trans (o1.stp_ext ex), r, Post.from q1 (o1.stp_ext ex)⟩⟩) fun us s2 ⟨vs, H2, I2, r, lb1, ρ1, t1, ds, o2, st, rd, post⟩ => ⟨fnA I2 (st.keep f _ hf lf), ?_⟩) he hpl
          show wpAny _ _ (call (.ref f) us) _ _ _
          have hf2 := st.keep f _ hf lf
          have hc2 := st.keep c _ hc lc
          have cr2 := cr.stq st.q
          have rc2 := rc.stp st
          split at post
          · rename_i hcond
            simp only [Bool.and_eq_true] at hcond
            obtain ⟨⟨d1, d2⟩, d3⟩ := hcond
            have d1 := lim_iff.mp d1
            cases eL : L caps ds t1 with
            | exc x s' => simp only [eL] at post; exact False.elim post
            | bad => simp only [eL] at post; exact False.elim post
            | ok dd t2 =>
              simp only [eL] at post
              obtain ⟨Z, hZ⟩ : ∃ Z : Addr → Prop, Z = fun a => ∃ y, cl.lookup y = some a := ⟨_, rfl⟩
              have C0 : CellsZ Z lb1 H2 s2.heap := fun a za => by
                rw [hZ] at za
                obtain ⟨y, hy⟩ := za
                obtain ⟨i', hi', ei'⟩ := List.getElem_of_mem (cr2.sub y a hy)
                obtain ⟨c', o', u', v', k1, k2, k3, k4, _⟩ := cr2.at_ i' y (by rw [List.getElem?_eq_getElem hi', ei'])
                rw [hy] at k1
                cases k1
                exact ⟨k2, o', k3, (I2.hok a _ k3).1, u', k4⟩
              have C : CellsZ Z (rel lb1) H2 s2.heap := fun a za => ⟨rel_none.mpr (C0 a za).1, (C0 a za).2⟩
              have ca : NdefX.CellsAt cl (b.cn.lm j).fr (ws.map some) s2.heap (cut Z H2) := by
                refine ⟨by rw [List.length_map]; exact cr2.len, fun y a hy => ?_, cr2.inj, fun i' y hy => ?_⟩
                · have za : Z a := by rw [hZ]; exact ⟨y, hy⟩
                  obtain ⟨_, o', _, k3, u', k4⟩ := C0 a za
                  exact ⟨cut_in za, some u', o', k3, k4⟩
                · obtain ⟨c', o', u', v', k1, k2, k3, k4, k5, k6⟩ := cr2.at_ i' y hy
                  refine ⟨c', k1, fun v hv => ?_⟩
                  rw [List.getElem?_map, k5] at hv
                  cases hv
                  exact ⟨u', k6, o', (I2.hok c' _ k3).1, k4⟩
              have env := env0_cut C0 I2.env0
              rw [← g.kk] at env
              have sp : spL b.cn L ws vs (cut Z H2) (fun v H' => (∀ a, Z a → H' a = none) → Q v (put Z H2 H')) (fun _ _ _ => False) := by
                refine ⟨rel lb1, t1, caps, ds, eok_cut C o2.entry d1, repL_hide C d3 (rc2.stq .rel), repL_hide C d2 (rd.stq .rel), ?_⟩
                rw [eL]
                intro lb' H' v st' e' rv nz
                have st2 := stp_put C nz e' st'
                have e2 := eok_put (H := H2) nz e'
                have rv2 : Rep b.cn lb' (put Z H2 H') dd v := rv.stp (Stp.of_ext (put_ext nz) e'.has)
                exact KV.now (show KV b.cn (unrel lb1 lb') (put Z H2 H') dd Q from post _ _ st2.unrel (o2.after st2 e2)) (rv2.stq (Stq.back st2))
              refine wpAny_call (codeAny_mono (LO X.A X.stack s2 (cut Z H2) f cl c us vs ws _ _ (g.room.mono (Nat.le_trans hkm hk)) env (by rw [cut_out (lam_not C0 hf2)]; exact hf2) (by rw [cut_out (code_not C0 hc2)]; exact hc2) ca r sp) fun rr s' hq => ?_)
              match rr, hq with
              | .error e, hq => 
                obtain ⟨_, _, _, _, _, _, _, _, _, _, _, _, hE⟩ := hq
                exact False.elim hE
              | .ok (.ret u), hq => exact I2.after (ce_put C0 (I2.env0).frf hq)
              | .ok .next, hq => exact False.elim hq
              | .ok .brk, hq => exact False.elim hq
              | .ok .cont, hq => exact False.elim hq
          · exact False.elim post
      | _ => simp only [q] at h; exact False.elim h
    | _ => simp only [q] at h; exact False.elim h
end
end Pk
/-! Br47: a def that hands back a lambda: its cells are told when the call ends. -/
namespace Pk
open PySem PySem.Spec PyProof.Rows L2
/-- the cells are told -/
noncomputable def tellC (Z : Addr → Prop) (h : Heap) (H : Hp) : Hp := put Z (fun a => (h.get? a).map (CelO a)) H
end Pk
/-! Br48: a call of a def with a lambda as the last argument: its cells are told for the callee. -/
namespace Pk
open PySem PySem.Spec PyProof.Rows L2
/-- a call's end, the cells hidden again -/
theorem ce_hide {P : Program} {w : World} {Z : Addr → Prop} {outer : List PySem.Env} {H : Hp} {s s' : Shared} {Q : VK} {u : Value} (hz : ∀ a, Z a → H a = none ∧ ∃ o, s.heap.get? a = some o ∧ ∃ v, o.data = .cell (some v)) (hfr : ∀ a, Z a → a ∉ frs outer)
    (h : CE outer P w (tellC Z s.heap H) s (fun v H' => (∀ a, Z a → ∃ o, s.heap.get? a = some o ∧ H' a = some (CelO a o)) ∧ Q v (cut Z H')) u s') : CE outer P w H s Q u s' := by
  obtain ⟨v, H', os, ag, un, ok, r, hk, q⟩ := h
  have ex : Ext H (tellC Z s.heap H) := put_ext fun a z => (hz a z).1
  have at_ : ∀ a o, Z a → s.heap.get? a = some o → s'.heap.get? a = some o := fun a o z e => by
    obtain ⟨o2, e2, e3⟩ := hk a z
    rw [e] at e2
    cases e2
    exact (ok a _ e3).1
  have nz : ∀ {b : Addr} {o : HO}, H b = some o → ¬ Z b := fun e z => by rw [(hz _ z).1] at e; cases e
  have C : CellsZ Z (fun _ => none) H' s'.heap := fun a z => by
    obtain ⟨_, o, e, v, e2⟩ := hz a z
    obtain ⟨o2, e3, e4⟩ := hk a z
    rw [e] at e3
    cases e3
    exact ⟨rfl, o, e4, at_ a o z e, v, e2⟩
  refine ⟨v, cut Z H', os, ag, ⟨fun b o e n hf hx => ?_, fun b o e n hf hx => ?_, fun b o e n hx => ?_, un.there, fun b xs e => ?_, fun b o u e => ?_, fun b ps e => ?_⟩, fun a o e => objOk_cut C (ok a o (cut_some e).2), r, q⟩
  · by_cases z : Z b
    · exact at_ b o z e
    · exact un.keep b o e (by rw [tellC, put_out z]; exact n) hf hx
  · by_cases z : Z b
    · exact absurd hf (hfr b z)
    · exact un.slot b o e (by rw [tellC, put_out z]; exact n) hf hx
  · by_cases z : Z b
    · exact cut_in z
    · rw [cut_out z]
      exact un.free b o e (by rw [tellC, put_out z]; exact n) hx
  · rw [cut_out (nz e)]; exact un.tups b xs (ex _ _ e)
  · rw [cut_out (nz e)]; exact un.frzs b o u (ex _ _ e)
  · obtain ⟨more, h1⟩ := un.tbls b ps (ex _ _ e)
    exact ⟨more, by rw [cut_out (nz e)]; exact h1⟩
section
variable {X : Cx} {b : Bd} {n : Nat}
/-- arguments, a lambda behind them -/
def tAZ (b : Bd) (Pt : Addr) (m : Lm) (cells : List (Str × Addr)) (ms : List (M D)) : TA := fun σ H Q => ∃ lb ρ s, Ok b lb ρ s σ H ∧ Post b σ lb H (eL ms ρ s) fun ds ρ' s' lb' H' => ∀ vs H2, Ext H' H2 → RepL b.cn lb' H2 ds vs →
  ∀ (f c' : Addr) (H1 : Hp), (∀ b o, H2 b = some o → b ≠ Pt → H1 b = some o) → (∀ b, H1 b = none → H2 b = none) → TabL lb' H1 Pt m.qual → H2 f = none → H1 f = some (LamO f m (cloFrom cells m.scope.names []) c') → lb' c' = none → H1 c' = some (LamX.CodeO c' m.qual) → Q (vs ++ [.ref f]) H1
theorem dz_lam {i : Nat} {c Pt : Addr} {params : Arguments} {body : Expr} {scope : Scope} {pos : Pos} {fr : List Str} (B : LamX.TabB X.base X.mg c Pt) (hc : X.env.code = .ref c) (ht : b.cn.tb[i]? = some (Pt, X.env.qual ++ "<lambda>")) (hd : defaultsOf params X.env = ([], []))
    (hf : ∀ y ∈ scope.names, y.2 = .free → X.env.scope.names.lookup y.1 = some .cell ∨ X.env.scope.names.lookup y.1 = some .free) (hx : starEach [.Lambda params body scope pos] X.env = (false, eval (.Lambda params body scope pos) X.env) :: starEach [] X.env := by rfl) :
    PA X [.Lambda params body scope pos] (tAZ b Pt ⟨X.env.qual ++ "<lambda>", params, body, scope, fr⟩ X.env.cells []) := by
  refine PA.imp (pa_cons (pe_lamE (fr := fr) B hc hd hf) pa_nil hx) fun σ H Q ⟨lb, ρ, s, o, p⟩ => ?_
  exact ⟨fun a => lb a = none, (o.sto.tabs i _ ht).2, fun a e => Has.none o.has e, fun f c' H1 k nn T nf hfL hz hc' => p lb H .refl o [] H .refl .nil f c' H1 k nn T nf hfL hz hc'⟩
theorem dz_cons {Pt : Addr} {mm : Lm} {cells : List (Str × Addr)} {e : Expr} {es : List Expr} {m : M D} {ms : List (M D)} (h : DE X b e m) (hs : PA X es (tAZ b Pt mm cells ms)) (hx : starEach (e :: es) X.env = (false, eval e X.env) :: starEach es X.env := by rfl) : PA X (e :: es) (tAZ b Pt mm cells (m :: ms)) := by
  refine PA.imp (pa_cons h hs hx) fun σ H Q ⟨lb, ρ, s, o, p⟩ => ?_
  have p : Post b σ lb H ((m ρ s).bind fun d r s => (eL ms r s).bind fun ds r s => .ok (d :: ds) r s) _ := p
  refine ⟨lb, ρ, s, o, (Post.bind p).mono fun d ρ1 s1 lb1 H1 st o1 q => fun v H2 ex r => ?_⟩
  refine ⟨lb1, ρ1, s1, o1.ext ex, ((Post.bind q).from (o1.stp_ext ex)).mono fun ds ρ2 s2 lb2 H3 st2 o2 q2 => fun vs H4 ex4 rl f c' H5 k nn T nf hfL hz hc' => ?_⟩
  exact q2 lb2 H4 (o2.stp_ext ex4) (o2.ext ex4) (v :: vs) H4 .refl (.cons (r.stp (st2.trans (o2.stp_ext ex4))) rl) f c' H5 k nn T nf hfL hz hc'
end
end Pk
/-! Br49: a call of a def with a lambda as the last argument: the rule. -/
namespace Pk
open PySem PySem.Spec PyProof.Rows L2
theorem env0_tell {P : Program} {w : World} {Z : Addr → Prop} {K : PySem.W.Frag} {mg : Str → Option Value} {base : Heap} {A : Around} {outer : List PySem.Env} {s : Shared} {H : Hp} (hz : ∀ a, Z a → H a = none ∧ ∃ o, s.heap.get? a = some o) (hfr : ∀ a, Z a → a ∉ frs outer) (hbs : ∀ a, Z a → base.get? a = none)
    (e : Env0 P w K mg base A outer s H) : Env0 P w K mg base A outer s (tellC Z s.heap H) := by
  have ex : Ext H (tellC Z s.heap H) := put_ext fun a z => (hz a z).1
  refine ⟨e.frames, e.mod, fun b o q => ⟨(e.bs b o q).1, ?_⟩, e.bsz, e.funs, fun b q => ?_, fun a o q => ?_, e.bare⟩
  · have z : ¬ Z b := fun z => by rw [hbs b z] at q; cases q
    rw [tellC, put_out z]
    exact (e.bs b o q).2
  · have z : ¬ Z b := fun z => hfr b z q
    rw [tellC, put_out z]
    exact e.frf b q
  · by_cases z : Z a
    · obtain ⟨_, o2, e2⟩ := hz a z
      rw [tellC, put_in z, e2] at q
      cases q
      exact celO_ok e2
    · rw [tellC, put_out z] at q
      exact objOk_grow ex (e.hok a o q)
theorem stp_tell {Z : Addr → Prop} {lb lb' : Lb} {H H' : Hp} {h : Heap} (hz : ∀ a, Z a → H a = none) (st : Stp lb (tellC Z h H) lb' H') : Stp lb H lb' (cut Z H') := by
  have nz : ∀ {b : Addr}, H b ≠ none → ¬ Z b := fun e z => e (hz _ z)
  refine ⟨fun a o q n => ?_, fun a q => ?_, fun a q => ?_, st.sto, fun a q => ?_⟩
  · have z : ¬ Z a := nz (by rw [q]; simp)
    rw [cut_out z]
    exact st.keep a o (by rw [tellC, put_out z]; exact q) n
  · by_cases z : Z a
    · obtain ⟨h1, h2⟩ := st.out a q
      refine ⟨h1, ?_⟩
      rw [cut_in z, hz a z]
    · obtain ⟨h1, h2⟩ := st.out a q
      refine ⟨h1, ?_⟩
      rw [cut_out z, h2, tellC, put_out z]
  · rcases st.new a q with h1 | h1
    · exact .inl h1
    · by_cases z : Z a
      · exact .inr (hz a z)
      · rw [tellC, put_out z] at h1; exact .inr h1
  · have z : ¬ Z a := nz q
    rw [cut_out z]
    exact st.dom a (by rw [tellC, put_out z]; exact q)
theorem lamS_by {scope : Scope} {fr : List Str} (h : (scope.names.all fun p => !decide (p.2 = .free) || fr.any fun y => decide (p.1 = y)) = true) : ∀ y, (y, NameKind.free) ∈ scope.names → y ∈ fr := fun y hy => by
  have := List.all_eq_true.mp h _ hy
  simp only [Bool.or_eq_true, Bool.not_eq_true', decide_eq_false_iff_not, List.any_eq_true, decide_eq_true_eq] at this
  rcases this with z | ⟨y', h1, h2⟩
  · exact absurd trivial z
  · rw [h2]; exact h1
section
variable {X : Cx} {b : Bd} {n : Nat}
theorem de_callL {i j k : Nat} {js : List Nat} {F : Fn} {x : Str} {p pos : Pos} {e : Expr} {es : List Expr} {ms : List (M D)} {P : Program} {w : World} {mg : Str → Option Value} {base : Heap} {Pt : Addr} {params : Arguments} {body : Expr} {scope : Scope} {fr : List Str} (g : Gd n X b) (G : FnG b.cn P w mg base k x F []) (hk : k ≤ n) (hP : X.prog = P) (hw : X.w = w) (hm : X.mg = mg) (hb : X.base = base) (hg : Gl X x)
    (ht : b.cn.tb[i]? = some (Pt, X.env.qual ++ "<lambda>")) (hlm : b.cn.lm j = ⟨X.env.qual ++ "<lambda>", params, body, scope, fr⟩) (hfn : ∀ y, X.fn y = true)
    (hf : ∀ y ∈ scope.names, y.2 = .free → X.env.scope.names.lookup y.1 = some .cell ∨ X.env.scope.names.lookup y.1 = some .free) (hfr : ∀ y ∈ fr, (y, NameKind.free) ∈ scope.names) (hjs : js.map (fun j => X.N[j]?) = fr.map some) (hsb : ∀ y, (y, NameKind.free) ∈ scope.names → y ∈ fr)
    (ha : PA X (e :: es) (tAZ b Pt ⟨X.env.qual ++ "<lambda>", params, body, scope, fr⟩ X.env.cells ms))
    (hdb : (x == ("__debug__" : Str)) = false := by decide) (he : starEach (e :: es) X.env = (false, eval e X.env) :: starEach es X.env := by rfl) (hpl : (backTo pos (starEach es X.env)).any (·.1) = false := by rfl) :
    DE X b (.Call (.Name x p) (e :: es) [] pos) (eCallL F j js ms) := by
  subst hP hw hm hb
  obtain ⟨f0, fd, ps, dsv, dvs, F1, F2, F3, F4, F5, F6⟩ := G
  rw [g.kk] at F1 F3 F4
  have ed : dvs = [] := List.length_eq_zero_iff.mp (F6 (fun _ => none) (fun _ => none)).length.symm
  subst ed
  obtain rfl : dsv = [] := List.length_eq_zero_iff.mp F5.length.symm
  refine ⟨fun pins s σ H Q I h => ?_⟩
  obtain ⟨lb, ρ, t, o, h⟩ := h
  unfold eCallL at h
  refine wpAny_Call_Name_kw (ld_glob I hg F2 ?_ hdb)
  refine PySem.W.callWith_K (h₀ := X.base) I.ok.mod.kin F3 (thn (ha.run pos pins s σ H (fun vs H3 => ∃ lb1 ρ1 t1 ds vs0 f c', vs = vs0 ++ [.ref f] ∧ Ok b lb1 ρ1 t1 σ H3 ∧ RepL b.cn lb1 H3 ds vs0 ∧ lb1 f = none ∧ H3 f = some (LamO f ⟨X.env.qual ++ "<lambda>", params, body, scope, fr⟩ (cloFrom X.env.cells scope.names []) c') ∧ lb1 c' = none ∧ H3 c' = some (LamX.CodeO c' (X.env.qual ++ "<lambda>")) ∧
    Post b σ lb1 H3 (match capL ρ1 js with | some caps => (match F (ds ++ [.clo j caps]) t1 with | .ok d s' => if d.dep 60 && lim (s'.o = []) then .ok d ρ1 s' else .bad | _ => .bad) | .none => .bad) fun d _ _ lb' H' => Kt false b.cn lb' H' d Q) I
    ⟨lb, ρ, t, o, (Post.bind h).mono fun ds ρ1 s1 lb1 H1 st o1 q1 => fun vs H2 ex r f c' H3 k nn T nf hfL hz hc' => ?_⟩) fun us s2 ⟨vs, H3, I3, r, lb1, ρ1, t1, ds, vs0, f, c', ev, o3, rd, lf, hfL, lc, hc', post⟩ => ⟨I3.kIn, ?_⟩) he hpl
  · have o2 := o1.ext ex
    obtain ⟨o3, st3⟩ := o2.lam ht k nn T
    exact ⟨lb1, ρ1, s1, ds, vs, f, c', rfl, o3, r.stp st3, Has.none o2.has nf, hfL, hz, hc', Post.from q1 ((o1.stp_ext ex).trans st3)⟩
  · subst ev
    cases ec : capL ρ1 js with
    | none => rw [ec] at post; exact False.elim post
    | some caps =>
      simp only [ec] at post
      obtain ⟨ws, ew, rc⟩ := capL_rep o3 ec
      cases eF : F (ds ++ [.clo j caps]) t1 with
      | exc x s' => simp only [eF] at post; exact False.elim post
      | bad => simp only [eF] at post; exact False.elim post
      | ok dd t2 =>
        simp only [eF] at post
        split at post
        · rename_i hcond
          simp only [Bool.and_eq_true] at hcond
          obtain ⟨d1, d2⟩ := hcond
          have d2 := lim_iff.mp d2
          have cps : NdefX.Caps X (cloFrom X.env.cells scope.names []) fr js := NdefX.Caps.made I3.ok hf hfr hjs
          have CA := NdefX.cells_of I3 cps
          obtain ⟨cl, hcl⟩ : ∃ cl, cl = cloFrom X.env.cells scope.names [] := ⟨_, rfl⟩
          rw [← hcl] at CA cps hfL
          have hlen : js.length = fr.length := by have := congrArg List.length hjs; simpa using this
          have hwl : ws.length = fr.length := by rw [← hlen]; have := congrArg List.length ew; simpa using this.symm
          have hsub : ∀ y a, cl.lookup y = some a → y ∈ fr := fun y a hy => by
            rw [hcl] at hy
            rcases cloFrom_mem (PySem.mem_of_lookup hy) with hm | ⟨h1, _⟩
            · cases hm
            · exact hsb y h1
          have hval : ∀ (i' : Nat) (y : Str), fr[i']? = some y → ∃ a v u o, cl.lookup y = some a ∧ ws[i']? = some v ∧ RelV v u ∧ s2.heap.get? a = some o ∧ o.data = .cell (some u) := fun i' y hy => by
            obtain ⟨a, ha, hv⟩ := CA.has i' y hy
            have hi' : i' < ws.length := by rw [hwl]; exact (List.getElem?_eq_some_iff.mp hy).1
            have hsl : (js.map (NdefX.slotAt σ))[i']? = some (some ws[i']) := by
              rw [ew, List.getElem?_map, List.getElem?_eq_getElem hi']
              rfl
            obtain ⟨u, u1, o, u2, u3⟩ := hv _ hsl
            exact ⟨a, ws[i'], u, o, ha, List.getElem?_eq_getElem hi', u1, u2, u3⟩
          obtain ⟨Z, hZ⟩ : ∃ Z : Addr → Prop, Z = fun a => ∃ y, cl.lookup y = some a := ⟨_, rfl⟩
          have hz : ∀ a, Z a → H3 a = none ∧ ∃ o, s2.heap.get? a = some o ∧ ∃ v, o.data = .cell (some v) := fun a za => by
            rw [hZ] at za
            obtain ⟨y, hy⟩ := za
            obtain ⟨i', hi', ei'⟩ := List.getElem_of_mem (hsub y a hy)
            obtain ⟨a', v, u, o, k1, k2, k3, k4, k5⟩ := hval i' y (by rw [List.getElem?_eq_getElem hi', ei'])
            rw [hy] at k1
            cases k1
            exact ⟨(CA.all y a hy).1, o, k4, u, k5⟩
          have hab : ∀ a, Z a → X.s_0.heap.objs.size ≤ a := fun a za => by
            rw [hZ] at za
            obtain ⟨y, hy⟩ := za
            exact I3.ok.cab y a (hfn y) (cps.sub y a hy)
          have hfrs : ∀ a, Z a → a ∉ frs X.stack := fun a za hm => by
            rcases List.mem_cons.mp (I3.stkSub a hm) with e | hb
            · obtain ⟨m, ⟨o, es', ep, ho, hd, _⟩, _⟩ := I3.loc
              obtain ⟨_, o2, e2, v, e3⟩ := hz a za
              rw [e, ho] at e2
              cases e2
              rw [hd] at e3
              cases e3
            · obtain ⟨_, o, ho, _⟩ := I3.ok.funs.mem hb
              exact absurd (Heap.lt_size ho) (Nat.not_lt.mpr (hab a za))
          have hbas : ∀ a, Z a → X.base.get? a = none := fun a za => by
            cases e : X.base.get? a with
            | none => rfl
            | some o => exact absurd (Heap.lt_size e) (Nat.not_lt.mpr (Nat.le_trans I3.ok.bsz (hab a za)))
          have ex : Ext H3 (tellC Z s2.heap H3) := put_ext fun a z => (hz a z).1
          have o4 := o3.ext ex
          have at_ : ∀ a o, Z a → s2.heap.get? a = some o → tellC Z s2.heap H3 a = some (CelO a o) := fun a o za e => by
            rw [tellC, put_in za, e]; rfl
          have lz : ∀ a, Z a → lb1 a = none := fun a za => Has.none o3.has (hz a za).1
          have rep : Rep b.cn lb1 (tellC Z s2.heap H3) (.clo j caps) (.ref f) := by
            simp only [Rep]
            refine ⟨f, cl, c', ws, rfl, ⟨lf, by rw [hlm]; exact ex _ _ hfL⟩, ⟨lc, by rw [hlm]; exact ex _ _ hc'⟩, ?_, rc.stp (o3.stp_ext ex)⟩
            rw [hlm]
            refine ⟨hwl, hsub, CA.inj, fun i' y hy => ?_⟩
            obtain ⟨a, v, u, o, k1, k2, k3, k4, k5⟩ := hval i' y hy
            have za : Z a := by rw [hZ]; exact ⟨y, k1⟩
            exact ⟨a, o, u, v, k1, lz a za, at_ a o za k4, k5, k2, k3⟩
          have env := env0_tell (fun a za => ⟨(hz a za).1, (hz a za).2.choose, (hz a za).2.choose_spec.1⟩) hfrs hbas I3.env0
          have sp : spOf b.cn F (vs0 ++ [.ref f]) (tellC Z s2.heap H3) (fun v H' => (∀ a, Z a → ∃ o, s2.heap.get? a = some o ∧ H' a = some (CelO a o)) ∧ Q v (cut Z H')) (fun _ _ _ => False) := by
            refine ⟨rel lb1, t1, ds ++ [.clo j caps], o4.entry, ((rd.stp (o3.stp_ext ex)).append (.one rep)).stq .rel, ?_⟩
            rw [eF]
            intro lb' H' v st' e' rv
            have hk' : ∀ a, Z a → ∃ o, s2.heap.get? a = some o ∧ H' a = some (CelO a o) := fun a za => by
              obtain ⟨_, o, e1, _⟩ := hz a za
              exact ⟨o, e1, st'.keep a _ (at_ a o za e1) (rel_none.mpr (lz a za))⟩
            refine ⟨hk', ?_⟩
            have C : CellsZ Z lb' H' s2.heap := fun a za => by
              obtain ⟨_, o, e1, v, e2⟩ := hz a za
              obtain ⟨o2, e3, e4⟩ := hk' a za
              rw [e1] at e3
              cases e3
              exact ⟨st'.q.none (at_ a o za e1) (rel_none.mpr (lz a za)), o, e4, e1, v, e2⟩
            have st2 := stp_tell (fun a za => (hz a za).1) st'
            have e2 := eok_cut C e' d2
            have rv2 := rep_hide C d1 rv
            exact KV.now (show KV b.cn (unrel lb1 lb') (cut Z H') dd Q from post _ _ st2.unrel (o3.after st2 e2)) (rv2.stq (Stq.back st2))
          have hl : us.length = ps.length := by rw [← r.length]; exact F1.len _ _ _ _ sp
          refine wpAny_call (codeAny_mono (F1.run X.A X.stack s2 (tellC Z s2.heap H3) ⟨us, []⟩ us (vs0 ++ [.ref f]) _ _ (g.room.mono hk) env (by have := F4 s2 us I3.kIn (by rw [List.append_nil]; exact hl); rw [List.append_nil] at this; exact this) r sp) fun rr s' hq => ?_)
          match rr, hq with
          | .error e, hq =>
            obtain ⟨_, _, _, _, _, _, _, _, _, _, _, _, hE⟩ := hq
            exact False.elim hE
          | .ok (.ret u), hq => exact I3.after (ce_hide hz hfrs hq)
          | .ok .next, hq => exact False.elim hq
          | .ok .brk, hq => exact False.elim hq
          | .ok .cont, hq => exact False.elim hq
        · exact False.elim post
end
end Pk
/-! Br50: d.get(k); three names at once, the last a constant. -/
namespace Pk
open PySem PySem.Spec PyProof.Rows L2
end Pk
/-! Br51: x in (..). -/
namespace Pk
open PySem PySem.Spec PyProof.Rows L2
end Pk
/-! Pk7: dicts whose keys are numbers. -/
namespace Pk
noncomputable section
/-! texts -/
end
end Pk
/-! Br52: dicts whose keys are numbers: d[k], d[k] = v. -/
namespace Pk
open PySem PySem.Spec PyProof.Rows L2
section
variable {X : Cx} {b : Bd} {n : Nat} {cn : Cn}
/-! ### d[k] = v -/
end
end Pk
/-! Br53: sep.join(texts), a sign times a number. -/
namespace Pk
open PySem PySem.Spec PyProof.Rows L2
end Pk
/-! Pk8: what a walk over a dict draws. -/
namespace Pk
noncomputable section
end
end Pk
/-! Br54: a comprehension over a dict's keys. -/
namespace Pk
open PySem PySem.Spec PyProof.Rows L2
/-- two heaps that are the same but for the lock of one dict that nobody may change -/
structure Lk (lb : Lb) (H H' : Hp) : Prop where
  none : ∀ a, H a = none ↔ H' a = none
  lab : ∀ a l, lb a = some l → H' a = H a
  rest : ∀ a o, H a = some o → (∀ kvs, o ≠ .dT kvs) → (∀ od kvs, o ≠ .frz od (.dT kvs)) → H' a = some o
  rd : ∀ a kvs, Rd H a (.dT kvs) → Rd H' a (.dT kvs)
section
variable {cn : Cn} {lb : Lb} {H H' : Hp}
theorem Lk.rdK (k : Lk lb H H') {a : Addr} {kvs : List (Key × V)} (h : Rd H a (.dK kvs)) : Rd H' a (.dK kvs) := by
  rcases h with h | ⟨o, h⟩
  · exact .inl (k.rest a _ h (fun _ e => nomatch e) (fun _ _ e => nomatch e))
  · exact .inr ⟨o, k.rest a _ h (fun _ e => nomatch e) (fun _ _ e => by cases e)⟩
theorem Lk.rdL (k : Lk lb H H') {a : Addr} {vs : List V} (h : Rd H a (.lst vs)) : Rd H' a (.lst vs) := by
  rcases h with h | ⟨o, h⟩
  · exact .inl (k.rest a _ h (fun _ e => nomatch e) (fun _ _ e => nomatch e))
  · exact .inr ⟨o, k.rest a _ h (fun _ e => nomatch e) (fun _ _ e => by cases e)⟩
theorem Lk.ext (k : Lk lb H H') {a : Addr} {P : Heap → Prop} (h : H a = some (.ext P)) : H' a = some (.ext P) := k.rest a _ h (fun _ e => nomatch e) (fun _ _ e => nomatch e)
mutual
theorem Rep.lk (k : Lk lb H H') : ∀ {d : D} {v : V}, Rep cn lb H d v → Rep cn lb H' d v
  | .none, v, h => by simpa only [Rep] using h
  | .bool b, v, h => by simpa only [Rep] using h
  | .int b, v, h => by simpa only [Rep] using h
  | .str b, v, h => by simpa only [Rep] using h
  | .tup l, v, h => by
    simp only [Rep] at h ⊢
    obtain ⟨a, vs, e, n, z, r⟩ := h
    exact ⟨a, vs, e, ⟨n.1, k.rest a _ n.2 (fun _ e => nomatch e) (fun _ _ e => nomatch e)⟩, z, RepL.lk k r⟩
  | .lst l, v, h => by
    simp only [Rep] at h ⊢
    obtain ⟨a, vs, e, n, z, r⟩ := h
    exact ⟨a, vs, e, ⟨n.1, k.rest a _ n.2 (fun _ e => nomatch e) (fun _ _ e => nomatch e)⟩, z, RepL.lk k r⟩
  | .dct ks ds, v, h => by
    simp only [Rep] at h ⊢
    obtain ⟨a, vs, e, n, z, r, l, nd, c⟩ := h
    rcases c with ⟨js, e1, e2⟩ | ⟨js, e1, e2⟩
    · exact ⟨a, vs, e, n, z, RepL.lk k r, l, nd, .inl ⟨js, e1, k.rd a _ e2⟩⟩
    · exact ⟨a, vs, e, n, z, RepL.lk k r, l, nd, .inr ⟨js, e1, k.rdK e2⟩⟩
  | .fn b, v, h => by simpa only [Rep] using h
  | .clo j l, v, h => by
    simp only [Rep] at h ⊢
    obtain ⟨f, cl, c, ws, e, ⟨f1, f2⟩, ⟨c1, c2⟩, cr, r⟩ := h
    refine ⟨f, cl, c, ws, e, ⟨f1, k.ext f2⟩, ⟨c1, k.ext c2⟩, ⟨cr.len, cr.sub, cr.inj, fun i y e => ?_⟩, RepL.lk k r⟩
    obtain ⟨c, o, u, v, h1, h2, h3, h4⟩ := cr.at_ i y e
    exact ⟨c, o, u, v, h1, h2, k.ext h3, h4⟩
  | .town, v, h => by simpa only [Rep] using h
  | .obj j, v, h => by simpa only [Rep] using h
  | .scr l, v, h => by
    simp only [Rep] at h ⊢
    obtain ⟨a, e, n, z⟩ := h
    refine ⟨a, e, ?_, z⟩
    rcases n with ⟨n1, n2⟩ | n
    · exact .inl ⟨n1, k.rdL n2⟩
    · exact .inr n
theorem RepL.lk (k : Lk lb H H') : ∀ {ds : List D} {vs : List V}, RepL cn lb H ds vs → RepL cn lb H' ds vs
  | [], vs, h => by simpa only [RepL] using h
  | d :: ds, vs, h => by
    simp only [RepL] at h ⊢
    obtain ⟨v, r, e, h1, h2⟩ := h
    exact ⟨v, r, e, Rep.lk k h1, RepL.lk k h2⟩
end
theorem OwnO.lk {d : D} {o : HO} (h : OwnO cn lb H d o) (k : Lk lb H H') : OwnO cn lb H' d o := by
  cases d with
  | lst l => obtain ⟨vs, e, z, r⟩ := h; exact ⟨vs, e, z, r.lk k⟩
  | dct ks ds => obtain ⟨vs, z, r, l, nd, c⟩ := h; exact ⟨vs, z, r.lk k, l, nd, c⟩
  | _ => exact h.elim
theorem FldOk.lk {n : Nat} (k : Lk lb H H') : ∀ {fs : List (Str × D)} {fv : List (Str × V)}, FldOk cn lb H n fs fv → FldOk cn lb H' n fs fv
  | [], _, h => h
  | (f, d) :: fs, fv, h => by
    obtain ⟨v, r, e, h1, h2⟩ := h
    refine ⟨v, r, e, ?_, FldOk.lk k h2⟩
    unfold FOk at h1 ⊢
    cases d with
    | lst l =>
      obtain ⟨p, o, e, lp, hp, w⟩ := h1
      exact ⟨p, o, e, lp, by rw [k.lab p _ lp]; exact hp, w.lk k⟩
    | _ => exact Rep.lk k h1
theorem MtL.lk {i : Nat} (k : Lk lb H H') : ∀ {as : List Addr} {R : List (List D)}, MtL cn lb H i as R → MtL cn lb H' i as R
  | as, [], h => h
  | as, l :: R, h => by
    obtain ⟨r, as', vs, e, h1, h2, h3, h4, h5⟩ := h
    exact ⟨r, as', vs, e, h1, by rw [k.lab r _ h1]; exact h2, h3, h4.lk k, MtL.lk k h5⟩
theorem StoOk.lk {s : Sto} (h : StoOk cn lb s H) (k : Lk lb H H') : StoOk cn lb s H' where
  town := fun a e => by rw [k.lab a _ e]; exact h.town a e
  objs := fun n fs e => by
    obtain ⟨a, dx, fv, l1, l2, h1, h2, w⟩ := h.objs n fs e
    exact ⟨a, dx, fv, l1, l2, by rw [k.lab a _ l1]; exact h1, by rw [k.lab dx _ l2]; exact h2, w.lk k⟩
  uniq := h.uniq
  dom := h.dom
  flds := h.flds
  nods := h.nods
  tabs := fun n p e => by
    obtain ⟨h1, ps, h2, h3, h4⟩ := h.tabs n p e
    refine ⟨h1, ps, by rw [k.lab _ _ h1]; exact h2, h3, fun pos cv q => ?_⟩
    obtain ⟨c, e1, e2, e3⟩ := h4 pos cv q
    exact ⟨c, e1, e2, k.ext e3⟩
/-- .. and the frame stands, with another beginning -/
theorem BOk.lk {lb0 lb1 : Lb} {H0 H1 : Hp} {ρ : Env} {s : Sto} {σ : L2.St} (b : BOk cn lb0 H0 lb ρ s σ H) (k : Lk lb H H') (si : Stp lb1 H1 lb H') : BOk cn lb1 H1 lb ρ s σ H' := by
  refine ⟨si, b.sto.lk k, fun a l e => by rw [k.lab a l e]; exact b.has a l e, b.len, fun i d h => ?_, fun i d h => ?_, fun i R h => ?_⟩
  · obtain ⟨v, e1, r⟩ := b.sh i d h
    exact ⟨v, e1, r.lk k⟩
  · obtain ⟨a, o, e1, l, q, w⟩ := b.ow i d h
    exact ⟨a, o, e1, l, by rw [k.lab a _ l]; exact q, w.lk k⟩
  · obtain ⟨a, e1, l, as, q, nd, sz, w⟩ := b.mt i R h
    exact ⟨a, e1, l, as, by rw [k.lab a _ l]; exact q, nd, sz, w.lk k⟩
end
end Pk
/-! Br55: the rule of a comprehension over a dict's keys. -/
namespace Pk
open PySem PySem.Spec PyProof.Rows L2
section
variable {X : Cx} {b : Bd} {n : Nat}
/-- the same with another beginning -/
abbrev Bd.at (b : Bd) (l0 : Lb) (h0 : Hp) : Bd := { b with lb0 := l0, H0 := h0 }
theorem Gd.at (g : Gd n X b) (l0 : Lb) (h0 : Hp) : Gd n X (b.at l0 h0) := ⟨g.kk, g.calm, g.nd, g.tk, g.room, g.po⟩
end
end Pk
/-! Pk9: a list of new lists that only one slot knows. -/
namespace Pk
noncomputable section
end
end Pk
/-! Pka: objects of one class: fields, methods. -/
namespace Pk
open PySem (Str)
noncomputable section
def putFD (f : Str) (d : D) : List (Str × D) → List (Str × D)
  | [] => [(f, d)]
  | (k, x) :: r => if k = f then (k, d) :: r else (k, x) :: putFD f d r
def Sto.fs (s : Sto) (n : Nat) : List (Str × D) := s.o.getD n []
def Sto.fld (s : Sto) (n : Nat) (f : Str) : Option D := (s.o[n]?).bind fun fs => fs.lookup f
def Sto.put (s : Sto) (n : Nat) (f : Str) (d : D) : Sto := { s with o := s.o.set n (putFD f d (s.fs n)) }
def D.isL : D → Bool
  | .lst _ => true
  | _ => false
/-- the field may be set anew: there, no list, not too many -/
def Sto.free (s : Sto) (n : Nat) (f : Str) : Bool := lim (n < s.o.length ∧ (s.fs n).length < 1000) && !(((s.fld n f).getD .none).isL)
end
end Pk
/-! Pkb: objects compared, written; numbers as texts. -/
namespace Pk
open PySem (Str)
noncomputable section
end
end Pk
/-! Pkc: texts: int(x), len, in, split, slices, times. -/
namespace Pk
open PySem (Str)
noncomputable section
end
end Pk
/-! Pkd: comprehensions whose element may raise. -/
namespace Pk
open PySem (Str)
noncomputable section
end
end Pk
/-! Pke: a call of a def that is told of no object; lists that a def told, which are then changed. -/
namespace Pk
noncomputable section
end
end Pk
namespace Pk
open PySem (Str)
noncomputable section
variable (Lt : List (Nat × (List D → Fn))) (Rc : Fn)
def bo_is_whole : S :=
    (sRet (eAnd (e1 pIsInt (.v (eV 0))) (eAnd (eNot (e1 pIsBool (.v (eV 0)))) (eChain pLe pLe (eV 1) (eV 0) (eV 2)))))
def py_is_whole : Fn := fnOf 3 3 bo_is_whole
def co_is_line_0 : M D :=
    (eComp (iOf (eV 0)) (.n 2) [2] eYes (eCall py_is_whole [(eV 2), (eC (.int 0)), (eC (.int 999))] []))
def bo_is_line : S :=
    (sSeq (sIf (eOr (eNot (e1 pIsTup (.v (eV 0)))) (e2 pNe (.v (eLen (.v (eV 0)))) (.v (eV 1)))) (sRet (eC (.bool false))) sNil)
    (sRet (e1 pAll (.v co_is_line_0))))
def py_is_line : Fn := fnOf 2 3 bo_is_line
def co_is_land_0 : M D :=
    (eComp (iOf (eV 0)) (.n 1) [1] eYes (eCall py_is_line [(eV 1), (eLen (.v (e2 pIx (.v (eV 0)) (.v (eC (.int 0))))))] []))
def bo_is_land : S :=
    (sSeq (sIf (eOr (eNot (e1 pIsTup (.v (eV 0)))) (eNot (eChain pLe pLe (eC (.int 1)) (eLen (.v (eV 0))) (eC (.int 8))))) (sRet (eC (.bool false))) sNil)
    (sSeq (sIf (eOr (eNot (e1 pIsTup (.v (e2 pIx (.v (eV 0)) (.v (eC (.int 0))))))) (eNot (eChain pLe pLe (eC (.int 1)) (eLen (.v (e2 pIx (.v (eV 0)) (.v (eC (.int 0)))))) (eC (.int 8))))) (sRet (eC (.bool false))) sNil)
    (sRet (e1 pAll (.v co_is_land_0)))))
def py_is_land : Fn := fnOf 1 2 bo_is_land
def bo_need_land : S :=
    (sIf (eNot (eCall py_is_land [(eV 0)] [])) (sRaise 0 .none) sNil)
def py_need_land : Fn := fnOf 1 1 bo_need_land
def bo_is_cell : S :=
    (sSeq (sIf (eOr (eNot (e1 pIsTup (.v (eV 1)))) (e2 pNe (.v (eLen (.v (eV 1)))) (.v (eC (.int 2))))) (sRet (eC (.bool false))) sNil)
    (sRet (eAnd (eCall py_is_whole [(e2 pIx (.v (eV 1)) (.v (eC (.int 0)))), (eC (.int 0)), (e2 pSub (.v (eLen (.v (eV 0)))) (.v (eC (.int 1))))] []) (eCall py_is_whole [(e2 pIx (.v (eV 1)) (.v (eC (.int 1)))), (eC (.int 0)), (e2 pSub (.v (eLen (.v (e2 pIx (.v (eV 0)) (.v (eC (.int 0))))))) (.v (eC (.int 1))))] []))))
def py_is_cell : Fn := fnOf 2 2 bo_is_cell
def co_cells_of_0 : M D :=
    (eComp (iRange1 (eLen (.v (e2 pIx (.v (eV 0)) (.v (eC (.int 0))))))) (.n 3) [3] eYes (eTup [(eV 2), (eV 3)]))
def fo_cells_of_0 : S :=
    (sExtend 1 co_cells_of_0)
def bo_cells_of : S :=
    (sSeq (sSet true 1 (eLst []))
    (sSeq (sFor (iRange1 (eLen (.v (eV 0)))) (.n 2) fo_cells_of_0)
    (sRet (eV 1))))
def py_cells_of : Fn := fnOf 1 4 bo_cells_of
def bo_at : S :=
    (sRet (e2 pIx (.v (e2 pIx (.v (eV 0)) (.v (e2 pIx (.v (eV 1)) (.v (eC (.int 0))))))) (.v (e2 pIx (.v (eV 1)) (.v (eC (.int 1)))))))
def py_at : Fn := fnOf 2 2 bo_at
def co_beside_of_0 : M D :=
    (eComp (iOf (eV 4)) (.n 5) [5] (eCall py_is_cell [(eV 0), (eV 5)] []) (eV 5))
def bo_beside_of : S :=
    (sSeq (sAsg (.t [(.n 2), (.n 3)]) (eV 1))
    (sSeq (sSet false 4 (eLst [(eTup [(e2 pSub (.v (eV 2)) (.v (eC (.int 1)))), (eV 3)]), (eTup [(eV 2), (e2 pSub (.v (eV 3)) (.v (eC (.int 1))))]), (eTup [(eV 2), (e2 pAdd (.v (eV 3)) (.v (eC (.int 1))))]), (eTup [(e2 pAdd (.v (eV 2)) (.v (eC (.int 1)))), (eV 3)])]))
    (sRet co_beside_of_0)))
def py_beside_of : Fn := fnOf 2 6 bo_beside_of
def fo_spread_of_0 : S :=
    (sIf (eAnd (e2 pInD (.v (eV 5)) (.v (eV 2))) (e2 pNotInD (.v (eV 5)) (.b 3))) (sSeq (sPutD 3 (eV 5) (eC (.bool true)))
    (sAppend 4 (eV 5))) sNil)
def wh_spread_of_0 : S :=
    (sWhile (e2 pNe (.b 4) (.v (eLst []))) (sFor (iOf (eCall py_beside_of [(eV 0), (ePop 4)] [])) (.n 5) fo_spread_of_0))
def bo_spread_of : S :=
    (sSeq (sPar true true 3 4 (eDct1 (eV 1) (eC (.bool true))) (eLst [(eV 1)]))
    (sSeq wh_spread_of_0
    (sRet (e1 pSorted (.v (e1 pLstD (.b 3)))))))
def py_spread_of : Fn := fnOf 3 6 bo_spread_of
def fo_law_cell_at_0 : S :=
    (sSet false 2 (e2 pFdiv (.v (eV 2)) (.v (eC (.int 1000003)))))
def bo_law_cell_at : S :=
    (sSeq (sIf (e2 pLt (.v (eV 1)) (.v (eLen (.v (eV 0))))) (sRet (e2 pIx (.v (eV 0)) (.v (eV 1)))) sNil)
    (sSeq (sIf (e1 pScr0 (.v (eV 0))) (sRet (eC (.int 0))) sNil)
    (sSeq (sSet false 2 (e2 pIx (.v (eV 0)) (.v (e2 pMod (.v (eV 1)) (.v (eLen (.v (eV 0))))))))
    (sSeq (sFor (iRange1 (e2 pMin2 (.v (e2 pFdiv (.v (eV 1)) (.v (eLen (.v (eV 0)))))) (.v (eC (.int 60))))) (.n 3) fo_law_cell_at_0)
    (sRet (e2 pAdd (.v (e2 pAdd (.v (e2 pMul (.v (e2 pIx (.v (eV 0)) (.v (e2 pMod (.v (eV 1)) (.v (eLen (.v (eV 0)))))))) (.v (eC (.int 31))))) (.v (eV 1)))) (.v (e2 pMul (.v (eV 2)) (.v (eC (.int 101)))))))))))
def py_law_cell_at : Fn := fnOf 2 4 bo_law_cell_at
def bo_law_mixed : S :=
    (sSeq (sSet false 3 (e2 pMod (.v (e2 pAdd (.v (e2 pAdd (.v (e2 pMul (.v (eCall py_law_cell_at [(eV 0), (eV 1)] [])) (.v (eC (.int 1103515245))))) (.v (e2 pMul (.v (eC (.int 7919))) (.v (eV 1)))))) (.v (eC (.int 12345))))) (.v (eC (.int 2147483647)))))
    (sRet (e2 pMod (.v (e2 pMod (.v (e2 pMod (.v (e2 pPow (.v (eV 3)) (.v (eC (.int 5))))) (.v (eC (.int 2147483647))))) (.v (eC (.int 999983))))) (.v (eV 2)))))
def py_law_mixed : Fn := fnOf 3 4 bo_law_mixed
def bo_law_draw : S :=
    (sSeq (sTown 1)
    (sRet (eCall py_law_mixed [(eV 0), (eLen (.v (eV 1))), (eV 2)] [])))
def py_law_draw : Fn := fnOf 3 3 bo_law_draw
def bo_law_pick : S :=
    (sRet (e2 pIx (.v (eV 2)) (.v (eCall py_law_draw [(eV 0), (eV 1), (eLen (.v (eV 2)))] []))))
def py_law_pick : Fn := fnOf 3 3 bo_law_pick
def co_law_land_0 : M D :=
    (eComp (iRange1 (eV 4)) (.n 7) [7] eYes (eCall py_law_draw [(eV 0), (eV 1), (eV 5)] []))
def co_law_land_1 : M D :=
    (eComp (iRange1 (eV 3)) (.n 6) [6] eYes (e1 pTup (.v co_law_land_0)))
def bo_law_land : S :=
    (sSeq (sPar false false 3 4 (e2 pAdd (.v (eC (.int 1))) (.v (eCall py_law_draw [(eV 0), (eV 1), (eV 2)] []))) (e2 pAdd (.v (eC (.int 1))) (.v (eCall py_law_draw [(eV 0), (eV 1), (eV 2)] []))))
    (sSeq (sSet false 5 (eCall py_law_pick [(eV 0), (eV 1), (eLst [(eC (.int 2)), (eC (.int 3)), (eC (.int 4)), (eC (.int 6)), (eC (.int 10)), (eC (.int 1000))])] []))
    (sRet (e1 pTup (.v co_law_land_1)))))
def py_law_land : Fn := fnOf 3 8 bo_law_land
def bo_need_cell : S :=
    (sIf (eNot (eCall py_is_cell [(eV 0), (eV 1)] [])) (sRaise 1 (some (eV 1))) sNil)
def py_need_cell : Fn := fnOf 2 2 bo_need_cell
def bo_need_both : S :=
    (sSeq (sExpr (eCall py_need_land [(eV 0)] []))
    (sExpr (eCall py_need_cell [(eV 0), (eV 1)] [])))
def py_need_both : Fn := fnOf 2 2 bo_need_both
def bo_law_same_number : S :=
    (sRet (eAnd (e1 pIsInt (.v (eV 0))) (eAnd (eNot (e1 pIsBool (.v (eV 0)))) (e2 pEq (.v (eV 0)) (.v (eV 1))))))
def py_law_same_number : Fn := fnOf 2 2 bo_law_same_number
def co_law_cells_0 : M D :=
    (eComp (iRange1 (eLen (.v (e2 pIx (.v (eV 0)) (.v (eC (.int 0))))))) (.n 3) [3] eYes (eTup [(eV 2), (eV 3)]))
def fo_law_cells_0 : S :=
    (sExtend 1 co_law_cells_0)
def bo_law_cells : S :=
    (sSeq (sSet true 1 (eLst []))
    (sSeq (sFor (iRange1 (eLen (.v (eV 0)))) (.n 2) fo_law_cells_0)
    (sRet (eV 1))))
def py_law_cells : Fn := fnOf 1 4 bo_law_cells
def bo_law_high : S :=
    (sRet (e2 pIx (.v (e2 pIx (.v (eV 0)) (.v (e2 pIx (.v (eV 1)) (.v (eC (.int 0))))))) (.v (e2 pIx (.v (eV 1)) (.v (eC (.int 1)))))))
def py_law_high : Fn := fnOf 2 2 bo_law_high
def bo_law_near : S :=
    (sRet (e2 pEq (.v (e2 pAdd (.v (e1 pAbs (.v (e2 pSub (.v (e2 pIx (.v (eV 0)) (.v (eC (.int 0))))) (.v (e2 pIx (.v (eV 1)) (.v (eC (.int 0))))))))) (.v (e1 pAbs (.v (e2 pSub (.v (e2 pIx (.v (eV 0)) (.v (eC (.int 1))))) (.v (e2 pIx (.v (eV 1)) (.v (eC (.int 1))))))))))) (.v (eC (.int 1)))))
def py_law_near : Fn := fnOf 2 2 bo_law_near
def co_law_beside_0 : M D :=
    (eComp (iOf (eCall py_law_cells [(eV 0)] [])) (.n 2) [2] (eCall py_law_near [(eV 1), (eV 2)] []) (eV 2))
def bo_law_beside : S :=
    (sRet co_law_beside_0)
def py_law_beside : Fn := fnOf 2 3 bo_law_beside
def co_land_at_0 : M D :=
    (eComp (iOf (eCall py_cells_of [(eV 0)] [])) (.n 2) [2] (e2 pGe (.v (eCall py_at [(eV 0), (eV 2)] [])) (.v (eV 1))) (eTup [(eV 2), (eC (.bool true))]))
def bo_land_at : S :=
    (sRet (e1 pDict (.v co_land_at_0)))
def py_land_at : Fn := fnOf 2 3 bo_land_at
def fo_pass_of_0 : S :=
    (sIf (e2 pIn (.v (eV 2)) (.v (eCall py_spread_of [(eV 0), (eV 1), (eCall py_land_at [(eV 0), (eV 4)] [])] []))) (sRet (eV 4)) sNil)
def co_pass_of_0 : M D :=
    (eComp (iOf (eCall py_cells_of [(eV 0)] [])) (.n 5) [5] (e2 pLe (.v (eCall py_at [(eV 0), (eV 5)] [])) (.v (eCall py_at [(eV 0), (eV 1)] []))) (eCall py_at [(eV 0), (eV 5)] []))
def bo_pass_of : S :=
    (sSeq (sSet false 3 (e1 pSortSetI (.v co_pass_of_0)))
    (sSeq (sFor (iOf (e1 pRev (.v (eV 3)))) (.n 4) fo_pass_of_0)
    (sRet (eC (.int 0)))))
def py_pass_of : Fn := fnOf 3 6 bo_pass_of
def bo_pass_between : S :=
    (sSeq (sExpr (eCall py_need_both [(eV 0), (eV 1)] []))
    (sSeq (sExpr (eCall py_need_cell [(eV 0), (eV 2)] []))
    (sRet (eCall py_pass_of [(eV 0), (eV 1), (eV 2)] []))))
def py_pass_between : Fn := fnOf 3 3 bo_pass_between
def bo_need_two : S :=
    (sSeq (sExpr (eCall py_need_both [(eV 0), (eV 1)] []))
    (sExpr (eCall py_need_cell [(eV 0), (eV 2)] [])))
def py_need_two : Fn := fnOf 3 3 bo_need_two
def co_law_all_0 : M D :=
    (eComp (iOf (eCall py_law_beside [(eV 0), (e2 pIx (.v (eV 5)) (.v (e1 pNeg (.v (eC (.int 1))))))] [])) (.n 6) [6] (e2 pNotIn (.v (eV 6)) (.v (eV 5))) (e2 pAdd (.v (eV 5)) (.v (eLst [(eV 6)]))))
def wh_law_all_0 : S :=
    (sWhile (e2 pNe (.b 4) (.v (eLst []))) (sSeq (sSet false 5 (ePop 4))
    (sIf (e2 pEq (.v (e2 pIx (.v (eV 5)) (.v (e1 pNeg (.v (eC (.int 1))))))) (.v (eV 2))) (sAppend 3 (eV 5)) (sExtend 4 co_law_all_0))))
def bo_law_all : S :=
    (sSeq (sPar true true 3 4 (eLst []) (eLst [(eLst [(eV 1)])]))
    (sSeq wh_law_all_0
    (sRet (eV 3))))
def py_law_all : Fn := fnOf 3 7 bo_law_all
def fo_earth_for_0 : S :=
    (sSeq (sSet false 9 (e2 pAdd (.v (e2 pIxD (.b 4) (.v (eV 7)))) (.v (eCallC Lt 3 [(eV 8)]))))
    (sIf (eOr (e2 pNotInD (.v (eV 8)) (.b 4)) (e2 pLt (.v (eV 9)) (.v (e2 pIxD (.b 4) (.v (eV 8)))))) (sSeq (sPutD 4 (eV 8) (eV 9))
    (sPutD 6 (eV 8) (eC (.bool true)))) sNil))
def fo_earth_for_1 : S :=
    (sFor (iOf (eCall py_beside_of [(eV 0), (eV 7)] [])) (.n 8) (fo_earth_for_0 Lt))
def wh_earth_for_0 : S :=
    (sWhile (e2 pNe (.v (eV 5)) (.v (eLst []))) (sSeq (sSet true 6 eDct0)
    (sSeq (sFor (iOf (eV 5)) (.n 7) (fo_earth_for_1 Lt))
    (sSet false 5 (e1 pSorted (.v (e1 pLstD (.b 6))))))))
def bo_earth_for : S :=
    (sSeq (sPar true false 4 5 (eDct1 (eV 1) (eCallC Lt 3 [(eV 1)])) (eLst [(eV 1)]))
    (sSeq (wh_earth_for_0 Lt)
    (sRet (e2 pIxD (.b 4) (.v (eV 2))))))
def py_earth_for : Fn := fnOf 4 10 (bo_earth_for Lt)
def la_least_fill_0 : M D :=
    (e2 pMax2 (.v (eC (.int 0))) (.v (e2 pSub (.v (eV 2)) (.v (eCall py_at [(eV 1), (eV 0)] [])))))
def ly_least_fill_0 : List D → Fn :=
    lamFn 1 3 la_least_fill_0
def bo_least_fill : S :=
    (sSeq (sExpr (eCall py_need_two [(eV 0), (eV 1), (eV 2)] []))
    (sSeq (sIf (eNot (eCall py_is_whole [(eV 3), (eC (.int 0)), (eC (.int 999))] [])) (sRaise 6 .none) sNil)
    (sRet (eCallL (py_earth_for Lt) 5 [0, 3] [(eV 0), (eV 1), (eV 2)]))))
def py_least_fill : Fn := fnOf 4 4 (bo_least_fill Lt)
def co_law_round_0 : M D :=
    (eComp (iOf (eCall py_law_beside [(eV 0), (eV 5)] [])) (.n 8) [8] (e2 pInD (.v (eV 8)) (.b 3)) (e2 pAdd (.v (e2 pIxD (.b 3) (.v (eV 8)))) (.v (eV 6))))
def fo_law_round_0 : S :=
    (sSeq (sSet false 6 (e2 pMax2 (.v (eC (.int 0))) (.v (e2 pSub (.v (eV 2)) (.v (eCall py_law_high [(eV 0), (eV 5)] []))))))
    (sSeq (sSet false 7 co_law_round_0)
    (sIf (eAnd (e2 pNe (.v (eV 7)) (.v (eLst []))) (e2 pLt (.v (e1 pMinD (.v (eV 7)))) (.v (eGetD 3 (eV 5) (e2 pPow (.v (eC (.int 10))) (.v (eC (.int 9)))))))) (sPut2 3 4 (eV 5) (e1 pMinD (.v (eV 7))) (eC (.bool true))) sNil)))
def wh_law_round_0 : S :=
    (sWhile (eV 4) (sSeq (sSet false 4 (eC (.bool false)))
    (sFor (iOf (eCall py_law_cells [(eV 0)] [])) (.n 5) fo_law_round_0)))
def bo_law_round : S :=
    (sSeq (sPar true false 3 4 (eDct1 (eV 1) (e2 pMax2 (.v (eC (.int 0))) (.v (e2 pSub (.v (eV 2)) (.v (eCall py_law_high [(eV 0), (eV 1)] [])))))) (eC (.bool true)))
    (sSeq wh_law_round_0
    (sRet (eV 3))))
def py_law_round : Fn := fnOf 3 9 bo_law_round
end
end Pk
namespace Pk
open PySem (Str)
noncomputable section
def Lt : List (Nat × (List D → Fn)) := [(5, ly_least_fill_0)]
def co_law_0 : M D :=
    (eComp (iEnumA (eV 11)) (.t [(.n 17), (.n 18)]) [17, 18] eYes (eIte (e2 pIn (.v (eTup [(eV 10), (eV 17)])) (.v (eV 8))) (e2 pMax2 (.v (eV 18)) (.v (eV 5))) (eV 18)))
def fo_law_0 : S :=
    (sAppend 9 (e1 pTup (.v co_law_0)))
def co_law_1 : M D :=
    (eComp (iOf (eV 7)) (.n 16) [16] eYes (e2 pMax2 (.v (eC (.int 0))) (.v (e2 pSub (.v (eV 5)) (.v (eCall py_law_high [(eV 2), (eV 16)] []))))))
def fo_law_1 : S :=
    (sAppend 6 (eTup [(e1 pSum (.v co_law_1)), (eV 7)]))
def bo_law : S :=
    (sSeq (sTown0 1)
    (sSeq (sSet false 2 (eCall py_law_land [(eV 0), (eV 1), (eC (.int 3))] []))
    (sSeq (sPar false false 3 4 (eCall py_law_pick [(eV 0), (eV 1), (eCall py_law_cells [(eV 2)] [])] []) (eCall py_law_pick [(eV 0), (eV 1), (eCall py_law_cells [(eV 2)] [])] []))
    (sSeq (sSet false 5 (eCall py_law_pick [(eV 0), (eV 1), (eLst [(eC (.int 0)), (eC (.int 1)), (eC (.int 2)), (eC (.int 3)), (eC (.int 5)), (eC (.int 999)), (eCall py_law_draw [(eV 0), (eV 1), (eC (.int 1000))] [])])] []))
    (sSeq (sSet true 6 (eLst []))
    (sSeq (sFor (iOf (eCall py_law_all [(eV 2), (eV 3), (eV 4)] [])) (.n 7) fo_law_1)
    (sSeq (sIf (e2 pNe (.v (eCall (py_least_fill Lt) [(eV 2), (eV 3), (eV 4), (eV 5)] [])) (.v (e2 pIx (.v (e1 pMinD (.b 6))) (.v (eC (.int 0)))))) (sRet (eC (.bool false))) sNil)
    (sSeq (sSet false 8 (e2 pIx (.v (e1 pMinD (.b 6))) (.v (eC (.int 1)))))
    (sSeq (sSet true 9 (eLst []))
    (sSeq (sFor (iEnumA (eV 2)) (.t [(.n 10), (.n 11)]) fo_law_0)
    (sSeq (sIf (e2 pLt (.v (eCall py_pass_between [(e1 pTup (.b 9)), (eV 3), (eV 4)] [])) (.v (eV 5))) (sRet (eC (.bool false))) sNil)
    (sSeq (sSet false 12 (eCall py_law_land [(eV 0), (eV 1), (eC (.int 6))] []))
    (sSeq (sSet false 13 (eCall py_law_pick [(eV 0), (eV 1), (eCall py_law_cells [(eV 12)] [])] []))
    (sSeq (sSet false 14 (eCall py_law_round [(eV 12), (eV 13), (eV 5)] []))
    (sSeq (sSet false 15 (eCall py_law_pick [(eV 0), (eV 1), (eCall py_law_cells [(eV 12)] [])] []))
    (sSeq (sIf (eNot (eCall py_law_same_number [(eCall (py_least_fill Lt) [(eV 12), (eV 13), (eV 15), (eV 5)] []), (e2 pIxD (.v (eV 14)) (.v (eV 15)))] [])) (sRet (eC (.bool false))) sNil)
    (sSeq (sIf (e2 pNe (.v (eCall (py_least_fill Lt) [(eV 12), (eV 15), (eV 13), (eV 5)] [])) (.v (e2 pIxD (.v (eV 14)) (.v (eV 15))))) (sRet (eC (.bool false))) sNil)
    (sRet (e2 pEq (.v (e2 pEq (.v (e2 pIxD (.v (eV 14)) (.v (eV 15)))) (.v (eC (.int 0))))) (.v (e2 pLe (.v (eV 5)) (.v (eCall py_pass_between [(eV 12), (eV 13), (eV 15)] [])))))))))))))))))))))))
def py_law : Fn := fnOf 1 19 bo_law
end
end Pk
/-! Sp0: how the combinators compute; lands and cells as plain values. -/
namespace Pk
open PySem (Str)

@[simp] theorem and_bool {p : Prop} [Decidable p] : (if p then true else false) = decide p := by by_cases h : p <;> simp [h]

@[simp] theorem eqv_none_none   : D.eqv .none .none = true := by simp only [D.eqv]
@[simp] theorem eqv_none_bool  (c : Bool) : D.eqv .none (.bool c) = false := by simp only [D.eqv]
@[simp] theorem eqv_none_int  (c : Int) : D.eqv .none (.int c) = false := by simp only [D.eqv]
@[simp] theorem eqv_none_str  (c : Str) : D.eqv .none (.str c) = false := by simp only [D.eqv]
@[simp] theorem eqv_none_tup  (c : List D) : D.eqv .none (.tup c) = false := by simp only [D.eqv]
@[simp] theorem eqv_none_lst  (c : List D) : D.eqv .none (.lst c) = false := by simp only [D.eqv]
@[simp] theorem eqv_bool_none (a : Bool)  : D.eqv (.bool a) .none = false := by simp only [D.eqv]
@[simp] theorem eqv_bool_bool (a : Bool) (c : Bool) : D.eqv (.bool a) (.bool c) = (a == c) := by simp only [D.eqv]
@[simp] theorem eqv_bool_int (a : Bool) (c : Int) : D.eqv (.bool a) (.int c) = ((if a then 1 else 0) == c) := by simp only [D.eqv]
@[simp] theorem eqv_bool_str (a : Bool) (c : Str) : D.eqv (.bool a) (.str c) = false := by simp only [D.eqv]
@[simp] theorem eqv_bool_tup (a : Bool) (c : List D) : D.eqv (.bool a) (.tup c) = false := by simp only [D.eqv]
@[simp] theorem eqv_bool_lst (a : Bool) (c : List D) : D.eqv (.bool a) (.lst c) = false := by simp only [D.eqv]
@[simp] theorem eqv_int_none (a : Int)  : D.eqv (.int a) .none = false := by simp only [D.eqv]
@[simp] theorem eqv_int_bool (a : Int) (c : Bool) : D.eqv (.int a) (.bool c) = (a == (if c then 1 else 0)) := by simp only [D.eqv]
@[simp] theorem eqv_int_int (a : Int) (c : Int) : D.eqv (.int a) (.int c) = (a == c) := by simp only [D.eqv]
@[simp] theorem eqv_int_str (a : Int) (c : Str) : D.eqv (.int a) (.str c) = false := by simp only [D.eqv]
@[simp] theorem eqv_int_tup (a : Int) (c : List D) : D.eqv (.int a) (.tup c) = false := by simp only [D.eqv]
@[simp] theorem eqv_int_lst (a : Int) (c : List D) : D.eqv (.int a) (.lst c) = false := by simp only [D.eqv]
@[simp] theorem eqv_str_none (a : Str)  : D.eqv (.str a) .none = false := by simp only [D.eqv]
@[simp] theorem eqv_str_bool (a : Str) (c : Bool) : D.eqv (.str a) (.bool c) = false := by simp only [D.eqv]
@[simp] theorem eqv_str_int (a : Str) (c : Int) : D.eqv (.str a) (.int c) = false := by simp only [D.eqv]
@[simp] theorem eqv_str_str (a : Str) (c : Str) : D.eqv (.str a) (.str c) = (a == c) := by simp only [D.eqv]
@[simp] theorem eqv_str_tup (a : Str) (c : List D) : D.eqv (.str a) (.tup c) = false := by simp only [D.eqv]
@[simp] theorem eqv_str_lst (a : Str) (c : List D) : D.eqv (.str a) (.lst c) = false := by simp only [D.eqv]
@[simp] theorem eqv_tup_none (a : List D)  : D.eqv (.tup a) .none = false := by simp only [D.eqv]
@[simp] theorem eqv_tup_bool (a : List D) (c : Bool) : D.eqv (.tup a) (.bool c) = false := by simp only [D.eqv]
@[simp] theorem eqv_tup_int (a : List D) (c : Int) : D.eqv (.tup a) (.int c) = false := by simp only [D.eqv]
@[simp] theorem eqv_tup_str (a : List D) (c : Str) : D.eqv (.tup a) (.str c) = false := by simp only [D.eqv]
@[simp] theorem eqv_tup_tup (a : List D) (c : List D) : D.eqv (.tup a) (.tup c) = eqvL a c := by simp only [D.eqv]
@[simp] theorem eqv_tup_lst (a : List D) (c : List D) : D.eqv (.tup a) (.lst c) = false := by simp only [D.eqv]
@[simp] theorem eqv_lst_none (a : List D)  : D.eqv (.lst a) .none = false := by simp only [D.eqv]
@[simp] theorem eqv_lst_bool (a : List D) (c : Bool) : D.eqv (.lst a) (.bool c) = false := by simp only [D.eqv]
@[simp] theorem eqv_lst_int (a : List D) (c : Int) : D.eqv (.lst a) (.int c) = false := by simp only [D.eqv]
@[simp] theorem eqv_lst_str (a : List D) (c : Str) : D.eqv (.lst a) (.str c) = false := by simp only [D.eqv]
@[simp] theorem eqv_lst_tup (a : List D) (c : List D) : D.eqv (.lst a) (.tup c) = false := by simp only [D.eqv]
@[simp] theorem eqv_lst_lst (a : List D) (c : List D) : D.eqv (.lst a) (.lst c) = eqvL a c := by simp only [D.eqv]
@[simp] theorem eqvL_nn : eqvL [] [] = true := by simp only [eqvL]
@[simp] theorem eqvL_cc (x y : D) (l m : List D) : eqvL (x :: l) (y :: m) = (x.eqv y && eqvL l m) := by simp only [eqvL]
@[simp] theorem eqvL_nc (y : D) (m : List D) : eqvL [] (y :: m) = false := by simp only [eqvL]
@[simp] theorem eqvL_cn (x : D) (l : List D) : eqvL (x :: l) [] = false := by simp only [eqvL]
@[simp] theorem dep_none (n : Nat) : D.dep n .none = true := by cases n <;> rfl
@[simp] theorem dep_bool (n : Nat) (b : Bool) : D.dep n (.bool b) = true := by cases n <;> rfl
@[simp] theorem dep_int (n : Nat) (b : Int) : D.dep n (.int b) = true := by cases n <;> rfl
@[simp] theorem dep_lst (n : Nat) (l : List D) : D.dep (n + 1) (.lst l) = l.all (D.dep n) := rfl
@[simp] theorem dep_tup (n : Nat) (l : List D) : D.dep (n + 1) (.tup l) = l.all (D.dep n) := rfl

theorem setT_n (r : Env) (i : Nat) (d : D) : setT r (.n i) d = some (r.set i (.sh d)) := by simp only [setT]
theorem setT_2 (r : Env) (i j : Nat) (x y : D) : setT r (.t [.n i, .n j]) (.tup [x, y]) = some ((r.set i (.sh x)).set j (.sh y)) := by simp only [setT, setTs, Option.bind_some]
/-! ### a def's run -/
theorem fnOf_rt {p n : Nat} {b : S} {ds : List D} {s s' : Sto} {d : D} {r : Env} (hl : ds.length = p) (h : b (startL n ds) s = .ok (.rt d) r s') : fnOf p n b ds s = .ok d s' := by
  unfold fnOf; rw [if_pos hl, h]
/-! ### comprehensions -/
theorem wipeL_len' (r : Env) : ∀ is : List Nat, (wipeL r is).length = r.length
  | [] => rfl
  | i :: is => by simp only [wipeL, List.length_set, wipeL_len' r is]
theorem wipeL_get {r : Env} {j : Nat} : ∀ {is : List Nat}, j ∉ is → (wipeL r is)[j]? = r[j]?
  | [], _ => rfl
  | i :: is, h => by
    simp only [wipeL]
    rw [List.getElem?_set_ne (fun e => h (by rw [e]; exact List.mem_cons_self)), wipeL_get fun z => h (List.mem_cons_of_mem _ z)]
theorem backL_len (r0 r : Env) : ∀ is : List Nat, (backL r0 r is).length = r.length
  | [] => rfl
  | i :: is => by simp only [backL, List.length_set, backL_len r0 r is]
theorem backL_same {r0 r : Env} {own : List Nat} (h : wipeL r own = wipeL r0 own) : backL r0 r own = r0 := by
  have hl : r.length = r0.length := by rw [← wipeL_len' r own, h, wipeL_len']
  have out : ∀ (is : List Nat) (j : Nat), j ∉ is → (backL r0 r is)[j]? = r[j]? := fun is j => by
    induction is with
    | nil => intro _; rfl
    | cons i is ih =>
      intro hn
      simp only [backL]
      rw [List.getElem?_set_ne (fun e => hn (by rw [e]; exact List.mem_cons_self)), ih fun z => hn (List.mem_cons_of_mem _ z)]
  have inn : ∀ (is : List Nat) (j : Nat), j ∈ is → j < r.length → (backL r0 r is)[j]? = some (r0.getD j .no) := fun is j => by
    induction is with
    | nil => intro h; cases h
    | cons i is ih =>
      intro h1 h2
      simp only [backL]
      by_cases hj : i = j
      · subst hj
        rw [List.getElem?_set, if_pos rfl, if_pos (by rw [backL_len]; exact h2)]
      · rw [List.getElem?_set_ne hj]
        rcases List.mem_cons.mp h1 with z | z
        · exact absurd z.symm hj
        · exact ih z h2
  apply List.ext_getElem?
  intro j
  by_cases hj : j ∈ own
  · by_cases hlt : j < r.length
    · rw [inn own j hj hlt, List.getD_eq_getElem?_getD, List.getElem?_eq_getElem (by omega)]
      rfl
    · rw [List.getElem?_eq_none (by rw [backL_len]; omega), List.getElem?_eq_none (by omega)]
  · rw [out own j hj, ← wipeL_get (r := r) hj, h, wipeL_get hj]
/-- a comprehension whose parts change nothing -/
theorem compLoop_pure {α : Type} {g : Tg} {own : List Nat} {c e : M D} {W : Env} {s : Sto} (enc : α → D) (p : α → Bool) (f : α → D) : ∀ (xs : List α) (acc : List D) (r : Env), wipeL r own = W →
    (∀ x ∈ xs, ∃ r2, setT W g (enc x) = some r2 ∧ wipeL r2 own = W ∧ c r2 s = .ok (.bool (p x)) r2 s ∧ (p x = true → e r2 s = .ok (f x) r2 s)) →
    ∃ r', wipeL r' own = W ∧ compLoop g own c e (xs.map enc) acc r s = .ok (acc.reverse ++ (xs.filter p).map f) r' s
  | [], acc, r, hr, _ => ⟨r, hr, by simp [compLoop]⟩
  | x :: xs, acc, r, hr, h => by
    obtain ⟨r2, h1, h2, h3, h4⟩ := h x List.mem_cons_self
    have hx : ∀ y ∈ xs, ∃ r2, setT W g (enc y) = some r2 ∧ wipeL r2 own = W ∧ c r2 s = .ok (.bool (p y)) r2 s ∧ (p y = true → e r2 s = .ok (f y) r2 s) := fun y hy => h y (List.mem_cons_of_mem _ hy)
    simp only [List.map_cons, compLoop, hr, h1, h3]
    cases hp : p x with
    | true =>
      obtain ⟨r', e1, e2⟩ := compLoop_pure enc p f xs (f x :: acc) r2 h2 hx
      refine ⟨r', e1, ?_⟩
      simp only [h4 hp]
      rw [e2]
      simp [hp]
    | false =>
      obtain ⟨r', e1, e2⟩ := compLoop_pure enc p f xs acc r2 h2 hx
      refine ⟨r', e1, ?_⟩
      simp only
      rw [e2]
      simp [hp]
theorem eComp_pure {α : Type} {it : It} {g : Tg} {own : List Nat} {c e : M D} {r r1 : Env} {s s1 : Sto} (xs : List α) (enc : α → D) (p : α → Bool) (f : α → D) (hi : it r s = .ok (xs.map enc) r1 s1) (hn : notOw r1 own = true)
    (h : ∀ x ∈ xs, ∃ r2, setT (wipeL r1 own) g (enc x) = some r2 ∧ wipeL r2 own = wipeL r1 own ∧ c r2 s1 = .ok (.bool (p x)) r2 s1 ∧ (p x = true → e r2 s1 = .ok (f x) r2 s1)) :
    eComp it g own c e r s = .ok (.lst ((xs.filter p).map f)) r1 s1 := by
  obtain ⟨r', e1, e2⟩ := compLoop_pure (W := wipeL r1 own) (g := g) enc p f xs [] r1 rfl h
  unfold eComp
  rw [hi, R.bind_ok, if_pos hn, e2, R.bind_ok, backL_same e1]
  simp
/-- .. without a test -/
theorem eComp_map {α : Type} {it : It} {g : Tg} {own : List Nat} {e : M D} {r r1 : Env} {s s1 : Sto} (xs : List α) (enc : α → D) (f : α → D) (hi : it r s = .ok (xs.map enc) r1 s1) (hn : notOw r1 own = true)
    (h : ∀ x ∈ xs, ∃ r2, setT (wipeL r1 own) g (enc x) = some r2 ∧ wipeL r2 own = wipeL r1 own ∧ e r2 s1 = .ok (f x) r2 s1) :
    eComp it g own eYes e r s = .ok (.lst (xs.map f)) r1 s1 := by
  have q := eComp_pure (c := eYes) (e := e) (g := g) xs enc (fun _ => true) f hi hn (fun x hx => by
    obtain ⟨r2, h1, h2, h3⟩ := h x hx
    exact ⟨r2, h1, h2, rfl, fun _ => h3⟩)
  rw [q, List.filter_eq_self.mpr (fun _ _ => rfl)]
/-- a comprehension that goes on in the store -/
theorem compLoop_sto {g : Tg} {own : List Nat} {e : M D} {W : Env} (I : Nat → List D → Sto → Prop) : ∀ (ds : List D) (acc : List D) (r : Env) (s : Sto) (k : Nat), wipeL r own = W → I k acc.reverse s →
    (∀ (j : Nat) (d : D), ds[j]? = some d → ∀ acc s, I (k + j) acc s → ∃ r2 y s2, setT W g d = some r2 ∧ wipeL r2 own = W ∧ e r2 s = .ok y r2 s2 ∧ I (k + j + 1) (acc ++ [y]) s2) →
    ∃ r' ys s', wipeL r' own = W ∧ compLoop g own eYes e ds acc r s = .ok ys r' s' ∧ I (k + ds.length) ys s'
  | [], acc, r, s, k, hr, hI, _ => ⟨r, acc.reverse, s, hr, by simp [compLoop], by simpa using hI⟩
  | d :: ds, acc, r, s, k, hr, hI, h => by
    obtain ⟨r2, y, s2, h1, h2, h3, h4⟩ := h 0 d rfl acc.reverse s hI
    obtain ⟨r', ys, s', e1, e2, e3⟩ := compLoop_sto I ds (y :: acc) r2 s2 (k + 1) h2 (by simpa using h4) (fun j d hd acc s hI => by
      have := h (j + 1) d (by simpa using hd) acc s (by rw [show k + (j + 1) = k + 1 + j by omega]; exact hI)
      rw [show k + (j + 1) + 1 = k + 1 + j + 1 by omega] at this
      exact this)
    refine ⟨r', ys, s', e1, ?_, ?_⟩
    · simp only [compLoop, hr, h1, eYes, eC, h3]
      exact e2
    · rw [List.length_cons]
      rw [show k + (ds.length + 1) = k + 1 + ds.length by omega]
      exact e3
theorem eComp_sto {it : It} {g : Tg} {own : List Nat} {e : M D} {r r1 : Env} {s s1 : Sto} {ds : List D} (I : Nat → List D → Sto → Prop) (hi : it r s = .ok ds r1 s1) (hn : notOw r1 own = true) (h0 : I 0 [] s1)
    (h : ∀ (j : Nat) (d : D), ds[j]? = some d → ∀ acc s, I j acc s → ∃ r2 y s2, setT (wipeL r1 own) g d = some r2 ∧ wipeL r2 own = wipeL r1 own ∧ e r2 s = .ok y r2 s2 ∧ I (j + 1) (acc ++ [y]) s2) :
    ∃ ys s', eComp it g own eYes e r s = .ok (.lst ys) r1 s' ∧ I ds.length ys s' := by
  obtain ⟨r', ys, s', e1, e2, e3⟩ := compLoop_sto (W := wipeL r1 own) I ds [] r1 s1 0 rfl h0 (fun j d hd acc s hI => by
    have := h j d hd acc s (by simpa using hI)
    simpa using this)
  refine ⟨ys, s', ?_, by simpa using e3⟩
  unfold eComp
  rw [hi, R.bind_ok, if_pos hn, e2, R.bind_ok, backL_same e1]

/-! ### loops -/
/-- a for by its invariant, each turn ends in the next -/
theorem forL_inv {α : Type} {g : Tg} {b : S} (enc : α → D) (I : Nat → Env → Sto → Prop) : ∀ (xs : List α) (k : Nat) (r : Env) (s : Sto), I k r s →
    (∀ (j : Nat) (x : α), xs[j]? = some x → ∀ r s, I (k + j) r s → ∃ r1 r2 s2, setT r g (enc x) = some r1 ∧ b r1 s = .ok .nx r2 s2 ∧ I (k + j + 1) r2 s2) →
    ∃ r' s', forL g b (xs.map enc) r s = .ok .nx r' s' ∧ I (k + xs.length) r' s'
  | [], k, r, s, h0, _ => ⟨r, s, rfl, by simpa using h0⟩
  | x :: xs, k, r, s, h0, h => by
    obtain ⟨r1, r2, s2, h1, h2, h3⟩ := h 0 x rfl r s (by simpa using h0)
    obtain ⟨r', s', e1, e2⟩ := forL_inv enc I xs (k + 1) r2 s2 (by simpa using h3) (fun j y hj r s hI => by
      have := h (j + 1) y (by simpa using hj) r s (by rw [show k + (j + 1) = k + 1 + j by omega]; exact hI)
      rw [show k + (j + 1) + 1 = k + 1 + j + 1 by omega] at this
      exact this)
    refine ⟨r', s', ?_, ?_⟩
    · simp only [List.map_cons, forL, h1, h2, R.bind_ok]
      exact e1
    · rw [List.length_cons, show k + (xs.length + 1) = k + 1 + xs.length by omega]
      exact e2
@[simp] def flOf : Option D → Fl
  | some d => .rt d
  | .none => .nx
/-- a for whose turns return or go on, changing nothing that counts: P x: it goes on; else it hands back d x -/
theorem forL_search {α : Type} {g : Tg} {b : S} {s : Sto} (enc : α → D) (I : Env → Prop) (stop : α → Option D) : ∀ (xs : List α) (r : Env), I r →
    (∀ x ∈ xs, ∀ r, I r → ∃ r1 r2, setT r g (enc x) = some r1 ∧ I r2 ∧ b r1 s = .ok (flOf (stop x)) r2 s) →
    ∃ r', I r' ∧ forL g b (xs.map enc) r s = .ok (flOf (xs.findSome? stop)) r' s
  | [], r, hr, _ => ⟨r, hr, rfl⟩
  | x :: xs, r, hr, h => by
    obtain ⟨r1, r2, h1, h2, h3⟩ := h x List.mem_cons_self r hr
    cases hs : stop x with
    | some d =>
      rw [hs] at h3
      exact ⟨r2, h2, by simp only [List.map_cons, forL, h1, h3, R.bind_ok, List.findSome?_cons, hs, flOf]⟩
    | none =>
      rw [hs] at h3
      obtain ⟨r', e1, e2⟩ := forL_search enc I stop xs r2 h2 (fun y hy => h y (List.mem_cons_of_mem _ hy))
      refine ⟨r', e1, ?_⟩
      simp only [List.map_cons, forL, h1, h3, R.bind_ok, List.findSome?_cons, hs, flOf]
      exact e2
/-- a while by a measure -/
theorem whileL_inv {c : M D} {b : S} (I : Env → Sto → Prop) (μ : Env → Sto → Nat) (Qd : Env → Sto → Prop) : ∀ (n : Nat) (r : Env) (s : Sto), I r s → μ r s < n →
    (∀ r s, I r s → (∃ r1 s1 r2 s2, c r s = .ok (.bool true) r1 s1 ∧ b r1 s1 = .ok .nx r2 s2 ∧ I r2 s2 ∧ μ r2 s2 < μ r s) ∨ (∃ r1 s1, c r s = .ok (.bool false) r1 s1 ∧ Qd r1 s1)) →
    ∃ r' s', whileL c b n r s = .ok .nx r' s' ∧ Qd r' s'
  | 0, r, s, _, h, _ => by omega
  | n + 1, r, s, hI, hm, h => by
    rcases h r s hI with ⟨r1, s1, r2, s2, h1, h2, h3, h4⟩ | ⟨r1, s1, h1, h2⟩
    · obtain ⟨r', s', e1, e2⟩ := whileL_inv I μ Qd n r2 s2 h3 (by omega) h
      refine ⟨r', s', ?_, e2⟩
      simp only [whileL, h1, h2, R.bind_ok]
      exact e1
    · exact ⟨r1, s1, by simp only [whileL, h1, R.bind_ok], h2⟩
theorem sWhile_inv {c : M D} {b : S} {r : Env} {s : Sto} (I : Env → Sto → Prop) (μ : Env → Sto → Nat) (Qd : Env → Sto → Prop) (hI : I r s) (hm : μ r s < 1000000000)
    (h : ∀ r s, I r s → (∃ r1 s1 r2 s2, c r s = .ok (.bool true) r1 s1 ∧ b r1 s1 = .ok .nx r2 s2 ∧ I r2 s2 ∧ μ r2 s2 < μ r s) ∨ (∃ r1 s1, c r s = .ok (.bool false) r1 s1 ∧ Qd r1 s1)) :
    ∃ r' s', sWhile c b r s = .ok .nx r' s' ∧ Qd r' s' := whileL_inv I μ Qd WN r s hI hm h

/-! ### numbers as items -/
theorem intsOf_map (ns : List Int) : intsOf (ns.map .int) = some ns := by
  induction ns with
  | nil => rfl
  | cons n ns ih => simp [intsOf, ih]
theorem boolsOf_map (ns : List Bool) : boolsOf (ns.map .bool) = some ns := by
  induction ns with
  | nil => rfl
  | cons n ns ih => simp [boolsOf, ih]
theorem boolsOf_map' {α : Type} (f : α → Bool) (xs : List α) : boolsOf (xs.map fun x => .bool (f x)) = some (xs.map f) := by
  have := boolsOf_map (xs.map f)
  rw [List.map_map] at this
  exact this
theorem getI_map {α : Type} (f : α → D) (xs : List α) (i : Nat) (x : α) (h : xs[i]? = some x) : getI (xs.map f) (i : Int) = some (f x) := by
  have hi : i < xs.length := (List.getElem?_eq_some_iff.mp h).1
  unfold getI ixOf
  rw [if_pos (by omega), List.length_map, if_pos (by omega)]
  simp [h]
theorem getI_nat {xs : List D} {i : Nat} {x : D} (h : xs[i]? = some x) : getI xs (i : Int) = some x := by
  have := getI_map id xs i x h
  simpa using this
end Pk
/-! Sp1: lands, cells. -/
namespace Pk
open PySem (Str)
def encR (r : List Int) : D := .tup (r.map .int)
def encL (L : List (List Int)) : D := .tup (L.map encR)
def encC (c : Int × Int) : D := .tup [.int c.1, .int c.2]
structure Land (L : List (List Int)) (h w : Nat) : Prop where
  rows : L.length = h
  hr : 1 ≤ h ∧ h ≤ 8
  hw : 1 ≤ w ∧ w ≤ 8
  cols : ∀ r ∈ L, r.length = w
  ht : ∀ r ∈ L, ∀ x ∈ r, 0 ≤ x ∧ x ≤ 999
def InL (h w : Nat) (c : Int × Int) : Prop := 0 ≤ c.1 ∧ c.1 < h ∧ 0 ≤ c.2 ∧ c.2 < w
def rowAt (L : List (List Int)) (i : Int) : List Int := L.getD i.toNat []
def hAt (L : List (List Int)) (c : Int × Int) : Int := (rowAt L c.1).getD c.2.toNat 0

theorem is_whole_int (i lo hi : Int) (s : Sto) : py_is_whole [.int i, .int lo, .int hi] s = .ok (.bool (decide (lo ≤ i) && decide (i ≤ hi))) s := by
  by_cases h : lo ≤ i <;> simp [py_is_whole, bo_is_whole, fnOf, startL, h]
theorem co_is_line_0_ok (r : List Int) (z : Sl) (s : Sto) : co_is_line_0 [.sh (encR r), z, .no] s = .ok (.lst (r.map fun x => .bool (decide (0 ≤ x) && decide (x ≤ 999)))) [.sh (encR r), z, .no] s :=
  eComp_map r .int _ rfl rfl fun x hx => ⟨_, rfl, rfl, by simp [is_whole_int]⟩
theorem is_line_ok (r : List Int) (s : Sto) (h : ∀ x ∈ r, 0 ≤ x ∧ x ≤ 999) : py_is_line [encR r, .int r.length] s = .ok (.bool true) s := by
  have h' := co_is_line_0_ok r (.sh (.int r.length)) s
  simp [encR] at h'
  simp [py_is_line, bo_is_line, fnOf, startL, encR, h', pAll, boolsOf_map']
  exact h
theorem getI_int {l : List D} {i : Int} (h0 : 0 ≤ i) (h1 : i < l.length) : getI l i = l[i.toNat]? := by
  unfold getI ixOf
  rw [if_pos h0, if_pos h1]
  rfl
theorem Land.cons {L : List (List Int)} {h w : Nat} (hL : Land L h w) : ∃ r L', L = r :: L' ∧ r.length = w := by
  cases L with
  | nil => have := hL.rows; have := hL.hr; simp at *; omega
  | cons r L' => exact ⟨r, L', rfl, hL.cols r List.mem_cons_self⟩
theorem getI_zero (x : D) (l : List D) : getI (x :: l) 0 = some x := by simp [getI, ixOf]
theorem is_land_ok {L : List (List Int)} {h w : Nat} (hL : Land L h w) (s : Sto) : py_is_land [encL L] s = .ok (.bool true) s := by
  obtain ⟨r0, L', rfl, hw⟩ := hL.cons
  have h1 := hL.rows
  have h2 := hL.hr
  have h3 := hL.hw
  have hc : co_is_land_0 [.sh (encL (r0 :: L')), .no] s = .ok (.lst ((r0 :: L').map fun _ => .bool true)) [.sh (encL (r0 :: L')), .no] s :=
    eComp_map (r0 :: L') encR _ rfl rfl fun r hr => ⟨_, rfl, rfl, by
      have e : r.length = w := hL.cols r hr
      have q := is_line_ok r s (hL.ht r hr)
      rw [e] at q
      simp [encL, encR, getI_zero, hw] at q ⊢
      rw [q]
      rfl⟩
  simp [encL, encR] at hc
  simp only [List.length_cons] at h1
  have b1 : (1 : Int) ≤ L'.length + 1 := by omega
  have b2 : ((L'.length : Int) + 1) ≤ 8 := by omega
  have b3 : (1 : Int) ≤ r0.length := by omega
  have b4 : (r0.length : Int) ≤ 8 := by omega
  simp [py_is_land, bo_is_land, fnOf, startL, encL, encR, hc, getI_zero, pAll, boolsOf_map', boolsOf, b1, b2, b3, b4]
theorem need_land_ok {L : List (List Int)} {h w : Nat} (hL : Land L h w) (s : Sto) : py_need_land [encL L] s = .ok .none s := by
  simp [py_need_land, bo_need_land, fnOf, startL, is_land_ok hL]
theorem is_cell_int {L : List (List Int)} {h w : Nat} (hL : Land L h w) (c : Int × Int) (s : Sto) : py_is_cell [encL L, encC c] s = .ok (.bool (decide (0 ≤ c.1) && decide (c.1 < h) && decide (0 ≤ c.2) && decide (c.2 < w))) s := by
  obtain ⟨r0, L', rfl, hw⟩ := hL.cons
  have h1 := hL.rows
  simp only [List.length_cons] at h1
  subst h1 hw
  simp [py_is_cell, bo_is_cell, fnOf, startL, encL, encR, encC, getI, ixOf, is_whole_int]
  by_cases a1 : 0 ≤ c.1 <;> by_cases a2 : c.1 ≤ L'.length <;> simp [a1, a2]
  · have a3 : c.1 < L'.length + 1 := by omega
    simp [a3]
    by_cases a4 : 0 ≤ c.2 <;> simp [a4]
    omega
  · intro h1
    omega
theorem need_cell_ok {L : List (List Int)} {h w : Nat} (hL : Land L h w) {c : Int × Int} (hc : InL h w c) (s : Sto) : py_need_cell [encL L, encC c] s = .ok .none s := by
  obtain ⟨a, b, d, e⟩ := hc
  simp [py_need_cell, bo_need_cell, fnOf, startL, is_cell_int hL, a, b, d, e]
theorem need_both_ok {L : List (List Int)} {h w : Nat} (hL : Land L h w) {c : Int × Int} (hc : InL h w c) (s : Sto) : py_need_both [encL L, encC c] s = .ok .none s := by
  simp [py_need_both, bo_need_both, fnOf, startL, need_land_ok hL, need_cell_ok hL hc]
theorem row_get {L : List (List Int)} {h w : Nat} (hL : Land L h w) {i : Int} (h0 : 0 ≤ i) (h1 : i < h) : getI (L.map encR) i = some (.tup ((rowAt L i).map .int)) ∧ (rowAt L i).length = w := by
  have hl : i.toNat < L.length := by rw [hL.rows]; omega
  have e : rowAt L i = L[i.toNat] := by simp [rowAt, List.getD, hl]
  rw [getI_int h0 (by rw [List.length_map, hL.rows]; omega), e]
  exact ⟨by simp [hl, encR], hL.cols _ (List.getElem_mem hl)⟩
theorem at_get {L : List (List Int)} {h w : Nat} (hL : Land L h w) {c : Int × Int} (hc : InL h w c) : getI ((rowAt L c.1).map .int) c.2 = some (.int (hAt L c)) := by
  obtain ⟨a, b, d, e⟩ := hc
  obtain ⟨g1, g2⟩ := row_get hL a b
  rw [getI_int d (by rw [List.length_map, g2]; exact e)]
  have hl : c.2.toNat < (rowAt L c.1).length := by omega
  unfold hAt
  rw [List.getElem?_map, List.getElem?_eq_getElem hl, List.getD_eq_getElem?_getD, List.getElem?_eq_getElem hl]
  rfl
@[simp] theorem getI_c0 (x y : D) : getI [x, y] 0 = some x := getI_zero _ _
@[simp] theorem getI_c1 (x y : D) : getI [x, y] 1 = some y := by simp [getI, ixOf]
theorem at_ok {L : List (List Int)} {h w : Nat} (hL : Land L h w) {c : Int × Int} (hc : InL h w c) (s : Sto) : py_at [encL L, encC c] s = .ok (.int (hAt L c)) s := by
  have g1 := (row_get hL hc.1 hc.2.1).1
  have g3 := at_get hL hc
  simp [py_at, bo_at, fnOf, startL, encL, encC, g1, g3]
theorem law_high_ok {L : List (List Int)} {h w : Nat} (hL : Land L h w) {c : Int × Int} (hc : InL h w c) (s : Sto) : py_law_high [encL L, encC c] s = .ok (.int (hAt L c)) s := at_ok hL hc s
/-! ### all cells -/
def rowC (i w : Nat) : List (Int × Int) := (List.range w).map fun (j : Nat) => ((i : Int), (j : Int))
def cellsL (h w : Nat) : List (Int × Int) := (List.range h).flatMap fun i => rowC i w
theorem cellsL_succ (h w : Nat) : cellsL (h + 1) w = cellsL h w ++ rowC h w := by simp [cellsL, List.range_succ]
theorem cellsL_len (h w : Nat) : (cellsL h w).length = h * w := by
  induction h with
  | zero => simp [cellsL]
  | succ h ih => rw [cellsL_succ, List.length_append, ih, Nat.succ_mul]; simp [rowC]
theorem mem_cellsL {h w : Nat} {c : Int × Int} : c ∈ cellsL h w ↔ InL h w c := by
  unfold cellsL rowC InL
  simp only [List.mem_flatMap, List.mem_range, List.mem_map]
  constructor
  · rintro ⟨i, hi, j, hj, rfl⟩
    exact ⟨by simp, by simpa using hi, by simp, by simpa using hj⟩
  · rintro ⟨a, b, d, e⟩
    exact ⟨c.1.toNat, by omega, c.2.toNat, by omega, by ext <;> simp <;> omega⟩
theorem Land.row0 {L : List (List Int)} {h w : Nat} (hL : Land L h w) : getI (L.map encR) 0 = some (.tup ((rowAt L 0).map .int)) := (row_get hL (Int.le_refl 0) (by have := hL.hr; omega)).1
theorem Land.len0 {L : List (List Int)} {h w : Nat} (hL : Land L h w) : (rowAt L 0).length = w := (row_get hL (Int.le_refl 0) (by have := hL.hr; omega)).2
theorem small_nat {n : Nat} (h : n ≤ 1000000) : small (n : Int) = true := lim_of ⟨by omega, by omega⟩
theorem SZ_int {n : Nat} (h : n ≤ 1000000) : (n : Int) ≤ (SZ : Int) := Int.ofNat_le.mpr (Nat.le_trans h (by decide))
theorem co_cells_ok {L : List (List Int)} {h w : Nat} (hL : Land L h w) (s : Sto) (k : Nat) (z : Sl) (hz : notOw [.no, .no, .no, z] [3] = true) (x : Sl) : co_cells_of_0 [.sh (encL L), x, .sh (.int k), z] s =
      .ok (.lst ((List.range w).map fun (j : Nat) => encC ((k : Int), (j : Int)))) [.sh (encL L), x, .sh (.int k), z] s := by
  have h3 := hL.hw
  have h0 := hL.row0
  have l0 := hL.len0
  unfold co_cells_of_0
  refine eComp_map (List.range w) (fun (j : Nat) => .int (0 + (j : Int))) (fun (j : Nat) => encC ((k : Int), (j : Int))) ?_ hz fun j hj => ⟨[.sh (encL L), x, .sh (.int k), .sh (.int (0 + j))], rfl, rfl, by simp [encC]⟩
  simp [encL, h0, l0, small_nat (n := w) (by omega), SZ_int (n := w) (by omega), upto]
theorem cells_for {L : List (List Int)} {h w : Nat} (hL : Land L h w) (s : Sto) (k : Nat) (hk : k ≤ 8) :
    fo_cells_of_0 [.sh (encL L), .ow (.lst ((cellsL k w).map encC)), .sh (.int k), .no] s = .ok .nx [.sh (encL L), .ow (.lst ((cellsL (k + 1) w).map encC)), .sh (.int k), .no] s := by
  have h3 := hL.hw
  have hc := co_cells_ok hL s k .no rfl (.ow (.lst ((cellsL k w).map encC)))
  have hl : (cellsL k w).length + w ≤ SZ := by
    rw [cellsL_len]
    have : k * w ≤ 8 * 8 := Nat.mul_le_mul hk h3.2
    simp only [SZ]
    omega
  simp [fo_cells_of_0, hc, hl, cellsL_succ, rowC, Function.comp_def]
theorem cells_of_ok {L : List (List Int)} {h w : Nat} (hL : Land L h w) (s : Sto) : py_cells_of [encL L] s = .ok (.lst ((cellsL h w).map encC)) s := by
  have h2 := hL.hr
  obtain ⟨r', s', e1, e2⟩ := forL_inv (g := .n 2) (b := fo_cells_of_0) (fun (k : Nat) => D.int (0 + (k : Int))) (fun k r s1 => s1 = s ∧ ∃ z, r = [.sh (encL L), .ow (.lst ((cellsL k w).map encC)), z, .no]) (List.range h) 0 [.sh (encL L), .ow (.lst []), .no, .no] s
    ⟨rfl, .no, by simp [cellsL]⟩ (fun j x hj r s1 hI => by
      obtain ⟨rfl, z, rfl⟩ := hI
      obtain ⟨hj1, hj2⟩ := List.getElem?_eq_some_iff.mp hj
      rw [List.getElem_range] at hj2
      rw [List.length_range] at hj1
      subst hj2
      refine ⟨[.sh (encL L), .ow (.lst ((cellsL (0 + j) w).map encC)), .sh (.int (0 + j)), .no], _, _, rfl, ?_, rfl, ⟨.sh (.int (0 + j)), rfl⟩⟩
      have := cells_for hL s1 j (by omega)
      simpa using this)
  obtain ⟨rfl, z, rfl⟩ := e2
  simp only [List.length_range, Nat.zero_add] at e1
  have e1' : forL (.n 2) fo_cells_of_0 (upto 0 h) [.sh (encL L), .ow (.lst []), .no, .no] s' = _ := e1
  simp [py_cells_of, bo_cells_of, fnOf, startL, encL, hL.rows, small_nat (n := h) (by omega), SZ_int (n := h) (by omega)]
  simp [encL] at e1'
  rw [e1']
  simp
theorem law_cells_ok {L : List (List Int)} {h w : Nat} (hL : Land L h w) (s : Sto) : py_law_cells [encL L] s = .ok (.lst ((cellsL h w).map encC)) s := cells_of_ok hL s
end Pk
/-! Sp2: draws; the land that the script makes. -/
namespace Pk
open PySem (Str)
def St (n : Nat) : Sto := ⟨some n, []⟩
theorem scr_ix {ns : List Int} {i : Int} (h0 : 0 ≤ i) (h1 : i < ns.length) : ∃ v : Int, pIx (.scr ns) (.int i) = some (.int v) := by
  have hl : i.toNat < ns.length := by omega
  refine ⟨ns[i.toNat], ?_⟩
  simp only [pIx, ixOf, if_pos h0, if_pos h1, Option.bind_some, List.getElem?_eq_getElem hl, Option.map_some]
theorem cell_for (a b z : Sl) (s : Sto) (v : Int) : fo_law_cell_at_0 [a, b, .sh (.int v), z] s = .ok .nx [a, b, .sh (.int (v / 1000003)), z] s := by
  have h1 : lim ((0 : Int) < 1000003 ∧ (1000003 : Int) < 1073741824) = true := lim_of ⟨by decide, by decide⟩
  simp [fo_law_cell_at_0, h1]
theorem cell_at_ok (ns : List Int) (k : Nat) (s : Sto) (hn : ns.length ≤ 63) : ∃ v : Int, py_law_cell_at [.scr ns, .int k] s = .ok (.int v) s := by
  by_cases h : k < ns.length
  · obtain ⟨v, hv⟩ := scr_ix (ns := ns) (i := k) (by omega) (by omega)
    refine ⟨v, ?_⟩
    have hk : ((k : Int) < ns.length) := by omega
    simp only [pIx] at hv
    simp [py_law_cell_at, bo_law_cell_at, fnOf, startL, hk, hv, h]
  · cases hns : ns with
    | nil =>
      refine ⟨0, ?_⟩
      have hk : ¬ (k : Int) < 0 := by omega
      simp [py_law_cell_at, bo_law_cell_at, fnOf, startL, hk]
    | cons x xs =>
      rw [← hns]
      have hp : 0 < ns.length := by rw [hns]; simp
      have he : ns.isEmpty = false := by rw [hns]; rfl
      obtain ⟨v, hv⟩ := scr_ix (ns := ns) (i := (k : Int) % (ns.length : Int)) (Int.emod_nonneg _ (by omega)) (Int.emod_lt_of_pos _ (by omega))
      have hk : ¬ ((k : Int) < ns.length) := by omega
      have l1 : lim ((0 : Int) < ns.length) = true := lim_of (by omega)
      have l2 : lim ((0 : Int) < ns.length ∧ (ns.length : Int) < 1073741824) = true := lim_of (by omega)
      have l2n : (ns.length : Int) < 1073741824 := by omega
      have hq : 0 ≤ (k : Int) / (ns.length : Int) := Int.ediv_nonneg (by omega) (by omega)
      have hb : big 31 = true := lim_of ⟨by decide, by decide⟩
      have hb2 : big 101 = true := lim_of ⟨by decide, by decide⟩
      obtain ⟨q, hqe⟩ : ∃ q : Int, q = (if (60 : Int) < (k : Int) / (ns.length : Int) then (60 : Int) else (k : Int) / (ns.length : Int)) := ⟨_, rfl⟩
      have hq0 : 0 ≤ q ∧ q ≤ 60 := by rw [hqe]; split <;> omega
      have l3 : small q = true := lim_of ⟨by omega, by omega⟩
      have l4 : lim (q ≤ (SZ : Int)) = true := lim_of (by simp only [SZ]; omega)
      obtain ⟨r', s', e1, e2⟩ := forL_inv (g := .n 3) (b := fo_law_cell_at_0) (fun (k : Nat) => D.int (0 + (k : Int))) (fun _ r s1 => s1 = s ∧ ∃ (u : Int) (z : Sl), r = [.sh (.scr ns), .sh (.int k), .sh (.int u), z]) (List.range q.toNat) 0 [.sh (.scr ns), .sh (.int k), .sh (.int v), .no] s
        ⟨rfl, v, .no, rfl⟩ (fun j x hj r s1 hI => by
          obtain ⟨rfl, u, z, rfl⟩ := hI
          exact ⟨_, _, _, rfl, cell_for _ _ _ _ _, rfl, _, _, rfl⟩)
      obtain ⟨rfl, u, z, rfl⟩ := e2
      have e1' : forL (.n 3) fo_law_cell_at_0 (upto 0 q.toNat) [.sh (.scr ns), .sh (.int k), .sh (.int v), .no] s' = _ := e1
      refine ⟨v * 31 + k + u * 101, ?_⟩
      simp only [pIx] at hv
      simp [py_law_cell_at, bo_law_cell_at, fnOf, startL, hk, h, hv, he, hp, l2n, ← hqe, l3, of_lim l4, e1', hb, hb2]
theorem mixed_ok (ns : List Int) (k b : Nat) (s : Sto) (hn : ns.length ≤ 63) (hk : k ≤ 1000000) (hb : 0 < b) : ∃ v : Nat, v < b ∧ py_law_mixed [.scr ns, .int k, .int b] s = .ok (.int v) s := by
  obtain ⟨v, hv⟩ := cell_at_ok ns k s hn
  have b1 : big 1103515245 = true := lim_of ⟨by decide, by decide⟩
  have b2 : big 7919 = true := lim_of ⟨by decide, by decide⟩
  have l1 : lim ((0 : Int) < 2147483647) = true := lim_of (by decide)
  have l2 : lim ((0 : Int) < 999983) = true := lim_of (by decide)
  have l3 : lim ((0 : Int) < b) = true := lim_of (by omega)
  obtain ⟨y, hy⟩ : ∃ y : Int, y = (v * 1103515245 + 7919 * k + 12345) % 2147483647 := ⟨_, rfl⟩
  have hy0 : 0 ≤ y ∧ y < 2147483647 := by rw [hy]; exact ⟨Int.emod_nonneg _ (by decide), Int.emod_lt_of_pos _ (by decide)⟩
  have l4n : y.natAbs < 18446744073709551616 := by omega
  refine ⟨((((y ^ 5) % 2147483647) % 999983) % (b : Int)).toNat, ?_, ?_⟩
  · have := Int.emod_lt_of_pos (((y ^ 5) % 2147483647) % 999983) (b := (b : Int)) (by omega)
    have := Int.emod_nonneg (((y ^ 5) % 2147483647) % 999983) (b := (b : Int)) (by omega)
    omega
  · have := Int.emod_nonneg (((y ^ 5) % 2147483647) % 999983) (b := (b : Int)) (by omega)
    have e : (((((y ^ 5) % 2147483647) % 999983) % (b : Int)).toNat : Int) = (((y ^ 5) % 2147483647) % 999983) % (b : Int) := Int.toNat_of_nonneg this
    rw [e]
    simp [py_law_mixed, bo_law_mixed, fnOf, startL, hv, b1, b2, hb, ← hy, l4n]
theorem draw_ok (ns : List Int) (n b : Nat) (hn : ns.length ≤ 63) (hk : n < 1000000) (hb : 0 < b) : ∃ v : Nat, v < b ∧ py_law_draw [.scr ns, .town, .int b] (St n) = .ok (.int v) (St (n + 1)) := by
  obtain ⟨v, h1, h2⟩ := mixed_ok ns (n + 1) b (St (n + 1)) hn (by omega) hb
  refine ⟨v, h1, ?_⟩
  have l1 : lim (n < SZ) = true := lim_of (by simp only [SZ]; omega)
  simp only [Int.natCast_add, Int.cast_ofNat_Int] at h2
  simp [py_law_draw, bo_law_draw, fnOf, startL, St, l1] at h2 ⊢
  rw [h2]
  rfl
theorem pick_ok (ns : List Int) (n : Nat) (l : List D) (hn : ns.length ≤ 63) (hk : n < 1000000) (hl : l ≠ []) : ∃ d ∈ l, py_law_pick [.scr ns, .town, .lst l] (St n) = .ok d (St (n + 1)) := by
  have hp : 0 < l.length := List.length_pos_iff.mpr hl
  obtain ⟨v, h1, h2⟩ := draw_ok ns n l.length hn hk hp
  refine ⟨l[v], List.getElem_mem h1, ?_⟩
  have := getI_nat (xs := l) (i := v) (x := l[v]) (List.getElem?_eq_getElem h1)
  simp [py_law_pick, bo_law_pick, fnOf, startL, h2, this]
/-- the row of a land -/
theorem upto_len (n : Nat) (i : Int) : (upto i n).length = n := by simp [upto]
theorem upto_get {n j : Nat} {i : Int} {d : D} (h : (upto i n)[j]? = some d) : j < n ∧ d = .int (i + j) := by
  have hj : j < n := by have := (List.getElem?_eq_some_iff.mp h).1; rw [upto_len] at this; exact this
  refine ⟨hj, ?_⟩
  simp [upto, hj] at h
  exact h.symm
theorem range1_nat {i n : Nat} {r : Env} {s : Sto} (h : r[i]? = some (.sh (.int n))) (hn : n ≤ 1000000) : iRange1 (eV i) r s = .ok (upto 0 n) r s := by
  simp [h, small_nat hn, SZ_int hn]
theorem co_land_0_ok (ns : List Int) (hn : ns.length ≤ 63) (a h : D) (w b : Nat) (hw : w ≤ 8) (hb : 0 < b ∧ b ≤ 1000) (z6 : Sl) (n : Nat) (hk : n < 900000) :
    ∃ r : List Int, r.length = w ∧ (∀ x ∈ r, 0 ≤ x ∧ x ≤ 999) ∧ co_law_land_0 [.sh (.scr ns), .sh .town, .sh a, .sh h, .sh (.int w), .sh (.int b), z6, .no] (St n) =
      .ok (.lst (r.map .int)) [.sh (.scr ns), .sh .town, .sh a, .sh h, .sh (.int w), .sh (.int b), z6, .no] (St (n + w)) := by
  obtain ⟨ys, s', e1, e2⟩ := eComp_sto (it := iRange1 (eV 4)) (g := .n 7) (own := [7]) (e := eCall py_law_draw [eV 0, eV 1, eV 5] []) (r := [.sh (.scr ns), .sh .town, .sh a, .sh h, .sh (.int w), .sh (.int b), z6, .no]) (s := St n) (ds := upto 0 w)
    (fun k ys s1 => s1 = St (n + k) ∧ ∃ r : List Int, ys = r.map .int ∧ r.length = k ∧ ∀ x ∈ r, 0 ≤ x ∧ x ≤ 999) (range1_nat rfl (by omega)) rfl ⟨rfl, [], rfl, rfl, fun x hx => by cases hx⟩
    (fun j d hd acc s1 hI => by
      obtain ⟨rfl, r, rfl, h1, h2⟩ := hI
      obtain ⟨hj, rfl⟩ := upto_get hd
      obtain ⟨v, h3, h4⟩ := draw_ok ns (n + j) b hn (by omega) hb.1
      refine ⟨[.sh (.scr ns), .sh .town, .sh a, .sh h, .sh (.int w), .sh (.int b), z6, .sh (.int (0 + j))], .int v, St (n + j + 1), rfl, rfl, by simp [h4], rfl, r ++ [(v : Int)], by simp, by simp [h1], fun x hx => ?_⟩
      rcases List.mem_append.mp hx with z | z
      · exact h2 x z
      · rw [List.mem_singleton.mp z]; omega)
  rw [upto_len] at e2
  obtain ⟨rfl, r, rfl, h1, h2⟩ := e2
  exact ⟨r, h1, h2, e1⟩
theorem co_land_1_ok (ns : List Int) (hn : ns.length ≤ 63) (a : D) (h w b : Nat) (hh : h ≤ 8) (hw : w ≤ 8) (hb : 0 < b ∧ b ≤ 1000) (n : Nat) (hk : n < 800000) :
    ∃ L : List (List Int), L.length = h ∧ (∀ r ∈ L, r.length = w) ∧ (∀ r ∈ L, ∀ x ∈ r, 0 ≤ x ∧ x ≤ 999) ∧ co_law_land_1 [.sh (.scr ns), .sh .town, .sh a, .sh (.int h), .sh (.int w), .sh (.int b), .no, .no] (St n) =
      .ok (.lst (L.map encR)) [.sh (.scr ns), .sh .town, .sh a, .sh (.int h), .sh (.int w), .sh (.int b), .no, .no] (St (n + h * w)) := by
  obtain ⟨ys, s', e1, e2⟩ := eComp_sto (it := iRange1 (eV 3)) (g := .n 6) (own := [6]) (e := e1 pTup (.v co_law_land_0)) (r := [.sh (.scr ns), .sh .town, .sh a, .sh (.int h), .sh (.int w), .sh (.int b), .no, .no]) (s := St n) (ds := upto 0 h)
    (fun k ys s1 => s1 = St (n + k * w) ∧ ∃ L : List (List Int), ys = L.map encR ∧ L.length = k ∧ (∀ r ∈ L, r.length = w) ∧ (∀ r ∈ L, ∀ x ∈ r, 0 ≤ x ∧ x ≤ 999)) (range1_nat rfl (by omega)) rfl ⟨by simp, [], rfl, rfl, by simp, by simp⟩
    (fun j d hd acc s1 hI => by
      obtain ⟨rfl, L, rfl, h1, h2, h3⟩ := hI
      obtain ⟨hj, rfl⟩ := upto_get hd
      have : j * w ≤ 8 * 8 := Nat.mul_le_mul (by omega) hw
      obtain ⟨r, q1, q2, q3⟩ := co_land_0_ok ns hn a (.int h) w b hw hb (.sh (.int (0 + j))) (n + j * w) (by omega)
      simp only [Int.zero_add] at q3
      refine ⟨[.sh (.scr ns), .sh .town, .sh a, .sh (.int h), .sh (.int w), .sh (.int b), .sh (.int (0 + j)), .no], encR r, St (n + j * w + w), rfl, rfl, by simp [q3, encR], by rw [Nat.succ_mul, Nat.add_assoc], L ++ [r], by simp, by simp [h1], fun x hx => ?_, fun x hx => ?_⟩
      · rcases List.mem_append.mp hx with z | z
        · exact h2 x z
        · rw [List.mem_singleton.mp z]; exact q1
      · rcases List.mem_append.mp hx with z | z
        · exact h3 x z
        · rw [List.mem_singleton.mp z]; exact q2)
  rw [upto_len] at e2
  obtain ⟨rfl, L, rfl, h1, h2, h3⟩ := e2
  exact ⟨L, h1, h2, h3, e1⟩
theorem land_ok (ns : List Int) (hn : ns.length ≤ 63) (m n : Nat) (hm : 1 ≤ m ∧ m ≤ 8) (hk : n < 700000) :
    ∃ (L : List (List Int)) (h w n' : Nat), Land L h w ∧ h ≤ m ∧ w ≤ m ∧ n ≤ n' ∧ n' ≤ n + 100 ∧ py_law_land [.scr ns, .town, .int m] (St n) = .ok (encL L) (St n') := by
  obtain ⟨h, h1, h2⟩ := draw_ok ns n m hn (by omega) hm.1
  obtain ⟨w, w1, w2⟩ := draw_ok ns (n + 1) m hn (by omega) hm.1
  obtain ⟨d, d1, d2⟩ := pick_ok ns (n + 1 + 1) [.int 2, .int 3, .int 4, .int 6, .int 10, .int 1000] hn (by omega) (by simp)
  obtain ⟨b, hb, rfl⟩ : ∃ b : Nat, (0 < b ∧ b ≤ 1000) ∧ d = .int b := by
    simp only [List.mem_cons, List.not_mem_nil, or_false] at d1
    rcases d1 with rfl | rfl | rfl | rfl | rfl | rfl
    · exact ⟨2, by decide, rfl⟩
    · exact ⟨3, by decide, rfl⟩
    · exact ⟨4, by decide, rfl⟩
    · exact ⟨6, by decide, rfl⟩
    · exact ⟨10, by decide, rfl⟩
    · exact ⟨1000, by decide, rfl⟩
  obtain ⟨L, l1, l2, l3, l4⟩ := co_land_1_ok ns hn (.int m) (1 + h) (1 + w) b (by omega) (by omega) hb (n + 1 + 1 + 1) (by omega)
  have : (1 + h) * (1 + w) ≤ 8 * 8 := Nat.mul_le_mul (by omega) (by omega)
  refine ⟨L, 1 + h, 1 + w, n + 1 + 1 + 1 + (1 + h) * (1 + w), ⟨l1, by omega, by omega, l2, l3⟩, by omega, by omega, by omega, by omega, ?_⟩
  simp only [Int.natCast_add, Int.cast_ofNat_Int] at l4
  simp [py_law_land, bo_law_land, fnOf, startL, h2, w2, d2, l4, encL]
end Pk
/-! SpC: cells and small numbers, in general. -/
namespace Pk
open PySem (Str)
theorem abs_nat (i : Int) : (if i < 0 then -i else i) = (i.natAbs : Int) := by split <;> omega
theorem hAt_le {L : List (List Int)} {h w : Nat} (hL : Land L h w) {c : Int × Int} (hc : InL h w c) : 0 ≤ hAt L c ∧ hAt L c ≤ 999 := by
  obtain ⟨a, b, d, e⟩ := hc
  have hl : c.1.toNat < L.length := by rw [hL.rows]; omega
  have er : rowAt L c.1 = L[c.1.toNat] := by simp [rowAt, List.getD, hl]
  have hl2 : c.2.toNat < (L[c.1.toNat]).length := by rw [hL.cols _ (List.getElem_mem hl)]; omega
  have : hAt L c = (L[c.1.toNat])[c.2.toNat] := by
    unfold hAt
    rw [er, List.getD_eq_getElem?_getD, List.getElem?_eq_getElem hl2]
    rfl
  rw [this]
  exact hL.ht _ (List.getElem_mem hl) _ (List.getElem_mem hl2)
theorem eqvL_nil_iff (l : List D) : eqvL l [] = l.isEmpty := by cases l <;> simp
/-! ### neighbours, by the law -/
def nearB (a b : Int × Int) : Bool := decide (((a.1 - b.1).natAbs : Int) + ((a.2 - b.2).natAbs : Int) = 1)
theorem law_near_ok (a b : Int × Int) (s : Sto) : py_law_near [encC a, encC b] s = .ok (.bool (nearB a b)) s := by
  simp [py_law_near, bo_law_near, fnOf, startL, encC, abs_nat, nearB]
  rw [Bool.eq_iff_iff]
  simp
theorem law_beside_ok {L : List (List Int)} {h w : Nat} (hL : Land L h w) (a : Int × Int) (s : Sto) : py_law_beside [encL L, encC a] s = .ok (.lst (((cellsL h w).filter (nearB a)).map encC)) s := by
  have hc : co_law_beside_0 [.sh (encL L), .sh (encC a), .no] s = .ok (.lst (((cellsL h w).filter (nearB a)).map encC)) [.sh (encL L), .sh (encC a), .no] s := by
    unfold co_law_beside_0
    refine eComp_pure (cellsL h w) encC (nearB a) encC ?_ rfl fun c hc => ⟨[.sh (encL L), .sh (encC a), .sh (encC c)], rfl, rfl, ?_, fun _ => by simp⟩
    · simp [law_cells_ok hL]
    · simp [law_near_ok]
  simp [py_law_beside, bo_law_beside, fnOf, startL, hc]
/-! ### cells as data -/
@[simp] theorem dep_encC (n : Nat) (c : Int × Int) : D.dep (n + 1) (encC c) = true := by simp [encC]
theorem dep_cells (n : Nat) (l : List (Int × Int)) : D.dep (n + 2) (.lst (l.map encC)) = true := by simp
@[simp] theorem dep64_encC (c : Int × Int) : D.dep 64 (encC c) = true := dep_encC 63 c
@[simp] theorem dep64_cells (l : List (Int × Int)) : D.dep 64 (.lst (l.map encC)) = true := dep_cells 62 l
theorem eqv_encC (a b : Int × Int) : (encC a).eqv (encC b) = decide (a = b) := by
  simp [encC]
  rw [Bool.eq_iff_iff]
  simp [Prod.ext_iff]
theorem eqvL_encC : ∀ l m : List (Int × Int), eqvL (l.map encC) (m.map encC) = decide (l = m)
  | [], [] => by simp
  | [], _ :: _ => by simp
  | _ :: _, [] => by simp
  | a :: l, b :: m => by
    simp [eqv_encC, eqvL_encC l m]
theorem pick_cell (ns : List Int) (n : Nat) {h w : Nat} (hn : ns.length ≤ 63) (hk : n < 1000000) (hh : 1 ≤ h) (hw : 1 ≤ w) : ∃ c, InL h w c ∧ py_law_pick [.scr ns, .town, .lst ((cellsL h w).map encC)] (St n) = .ok (encC c) (St (n + 1)) := by
  have : (0, 0) ∈ cellsL h w := mem_cellsL.mpr ⟨by simp, by simp; omega, by simp, by simp; omega⟩
  obtain ⟨d, h1, h2⟩ := pick_ok ns n ((cellsL h w).map encC) hn hk (by intro e; rw [List.map_eq_nil_iff] at e; rw [e] at this; cases this)
  obtain ⟨c, h3, rfl⟩ := List.mem_map.mp h1
  exact ⟨c, mem_cellsL.mp h3, h2⟩
end Pk
/-! Sp5: the least and the greatest of a list of data, by an order on what they stand for. -/
namespace Pk
open PySem (Str)
theorem toks_int (i : Int) : D.toks (.int i) = [.inl i] := by simp only [D.toks]
theorem toks_tup (l : List D) : D.toks (.tup l) = toksL l := by simp only [D.toks]
theorem toksL_nil : toksL [] = [.inl 0] := by simp only [toksL]
theorem toksL_cons (x : D) (l : List D) : toksL (x :: l) = .inl 1 :: (x.toks ++ toksL l) := by simp only [toksL]
theorem toksLt_ii (a b : Int) (r t : List Tok) : toksLt (.inl a :: r) (.inl b :: t) = (decide (a < b) || (decide (a = b) && toksLt r t)) := by
  simp only [toksLt, tokLt]
  by_cases h1 : a < b
  · simp [h1]
  · by_cases h2 : a = b
    · subst h2; simp
    · have : b < a := by omega
      simp [h1, h2, this]
@[simp] theorem lt_int (a b : Int) : D.lt (.int a) (.int b) = decide (a < b) := by
  unfold D.lt
  rw [toks_int, toks_int, toksLt_ii]
  simp [toksLt]
def ltC (a b : Int × Int) : Bool := decide (a.1 < b.1) || (decide (a.1 = b.1) && decide (a.2 < b.2))
@[simp] theorem lt_encC (a b : Int × Int) : (encC a).lt (encC b) = ltC a b := by
  unfold D.lt encC ltC
  simp only [toks_tup, toksL_cons, toksL_nil, toks_int, List.cons_append, List.nil_append, toksLt_ii]
  simp [toksLt]
def encP (p : Int × (Int × Int)) : D := .tup [.int p.1, encC p.2]
def ltP (a b : Int × (Int × Int)) : Bool := decide (a.1 < b.1) || (decide (a.1 = b.1) && ltC a.2 b.2)
@[simp] theorem lt_encP (a b : Int × (Int × Int)) : (encP a).lt (encP b) = ltP a b := by
  unfold D.lt encP encC ltP ltC
  simp only [toks_tup, toksL_cons, toksL_nil, toks_int, List.cons_append, List.nil_append, toksLt_ii]
  simp [toksLt]
@[simp] theorem alk_int (a b : Int) : D.alk (.int a) (.int b) = true := by simp only [D.alk]
@[simp] theorem alk_encC (a b : Int × Int) : (encC a).alk (encC b) = true := by simp [encC, D.alk, alkL]
@[simp] theorem alk_encP (a b : Int × (Int × Int)) : (encP a).alk (encP b) = true := by simp [encP, encC, D.alk, alkL]
theorem ordOk_map {α : Type} (enc : α → D) (l : List α) (hd : ∀ x ∈ l, (enc x).dep 62 = true) (ha : ∀ x y, (enc x).alk (enc y) = true) : ordOk (l.map enc) = true := by
  simp only [ordOk, allAlk, Bool.and_eq_true, List.all_eq_true]
  refine ⟨fun d h => ?_, fun d h e he => ?_⟩
  · obtain ⟨x, hx, rfl⟩ := List.mem_map.mp h
    exact hd x hx
  · obtain ⟨x, hx, rfl⟩ := List.mem_map.mp h
    obtain ⟨y, hy, rfl⟩ := List.mem_map.mp he
    exact ha x y
def minBy {α : Type} (lt : α → α → Bool) (a : α) (l : List α) : α := l.foldl (fun x y => if lt y x then y else x) a
theorem minBy_spec {α : Type} {lt : α → α → Bool} (tr : ∀ x y z, lt x y = true → lt y z = true → lt x z = true) (nt : ∀ x y z, lt x z = true → lt x y = true ∨ lt y z = true) (ir : ∀ x, lt x x = false) : ∀ (l : List α) (a : α), minBy lt a l ∈ a :: l ∧ ∀ y ∈ a :: l, lt y (minBy lt a l) = false
  | [], a => ⟨List.mem_cons_self, fun y hy => by rw [List.mem_singleton.mp hy]; exact ir a⟩
  | b :: l, a => by
    have := minBy_spec tr nt ir l (if lt b a then b else a)
    obtain ⟨h1, h2⟩ := this
    have e : minBy lt a (b :: l) = minBy lt (if lt b a then b else a) l := rfl
    rw [e]
    refine ⟨?_, fun y hy => ?_⟩
    · rcases List.mem_cons.mp h1 with q | q
      · rw [q]; split <;> simp
      · exact List.mem_cons_of_mem _ (List.mem_cons_of_mem _ q)
    · have k := h2 _ List.mem_cons_self
      cases hb : lt b a with
      | true =>
        rw [hb, if_pos rfl] at h2 k
        rw [if_pos rfl]
        rcases List.mem_cons.mp hy with rfl | hy
        · cases q : lt y (minBy lt b l) with
          | false => rfl
          | true => rw [tr _ _ _ hb q] at k; cases k
        · exact h2 y hy
      | false =>
        rw [hb] at h2 k
        simp only [Bool.false_eq_true, if_false] at h2 k ⊢
        rcases List.mem_cons.mp hy with rfl | hy
        · exact k
        · rcases List.mem_cons.mp hy with rfl | hy
          · cases q : lt y (minBy lt a l) with
            | false => rfl
            | true =>
              rcases nt _ a _ q with r | r
              · rw [hb] at r; cases r
              · rw [k] at r; cases r
          · exact h2 y (List.mem_cons_of_mem _ hy)
structure Ord {α : Type} (lt : α → α → Bool) : Prop where
  tr : ∀ x y z, lt x y = true → lt y z = true → lt x z = true
  nt : ∀ x y z, lt x z = true → lt x y = true ∨ lt y z = true
  ir : ∀ x, lt x x = false
theorem Ord.rev {α : Type} {lt : α → α → Bool} (o : Ord lt) : Ord (fun x y => lt y x) := ⟨fun x y z h1 h2 => o.tr z y x h2 h1, fun x y z h => (o.nt z y x h).symm, o.ir⟩
theorem ord_int : Ord (fun a b : Int => decide (a < b)) := ⟨fun x y z h1 h2 => by simp at *; omega, fun x y z h => by simp at *; omega, fun x => by simp⟩
theorem ord_C : Ord ltC := ⟨fun x y z h1 h2 => by simp [ltC] at *; omega, fun x y z h => by simp [ltC] at *; omega, fun x => by simp [ltC]⟩
theorem minD_map {α : Type} (enc : α → D) (lt : α → α → Bool) (hl : ∀ x y, (enc x).lt (enc y) = lt x y) : ∀ (l : List α) (a : α), minD (enc a) (l.map enc) = enc (minBy lt a l)
  | [], a => rfl
  | b :: l, a => by
    have := minD_map enc lt hl l (if lt b a then b else a)
    unfold minD minBy at this ⊢
    rw [List.map_cons, List.foldl_cons, List.foldl_cons, ← this, hl]
    split <;> rfl
/-- the least of a list that is not empty -/
theorem pMin_map {α : Type} (enc : α → D) {lt : α → α → Bool} (o : Ord lt) (hl : ∀ x y, (enc x).lt (enc y) = lt x y) (l : List α) (hd : ∀ x ∈ l, (enc x).dep 62 = true) (ha : ∀ x y, (enc x).alk (enc y) = true) (hne : l ≠ []) :
    ∃ m ∈ l, (∀ y ∈ l, lt y m = false) ∧ pMinD (.lst (l.map enc)) = some (enc m) ∧ pMinD (.tup (l.map enc)) = some (enc m) := by
  cases l with
  | nil => exact absurd rfl hne
  | cons a l =>
    obtain ⟨h1, h2⟩ := minBy_spec o.tr o.nt o.ir l a
    have ho := ordOk_map enc (a :: l) hd ha
    refine ⟨_, h1, h2, ?_, ?_⟩
    · rw [List.map_cons] at ho ⊢
      simp only [pMinD, ho, if_true, minD_map enc lt hl]
    · rw [List.map_cons] at ho ⊢
      simp only [pMinD, ho, if_true, minD_map enc lt hl]
theorem pMin_ints (l : List Int) (hne : l ≠ []) : ∃ m ∈ l, (∀ y ∈ l, m ≤ y) ∧ pMinD (.lst (l.map .int)) = some (.int m) ∧ pMinD (.tup (l.map .int)) = some (.int m) := by
  obtain ⟨m, h1, h2, h3⟩ := pMin_map D.int ord_int lt_int l (fun x _ => dep_int _ _) alk_int hne
  exact ⟨m, h1, fun y hy => by have := h2 y hy; simp at this; exact this, h3⟩
/-! ### the cells stand in order -/
theorem cellsL_sorted (h w : Nat) : (cellsL h w).Pairwise fun a b => ltC a b = true := by
  induction h with
  | zero => simp [cellsL]
  | succ h ih =>
    rw [cellsL_succ, List.pairwise_append]
    refine ⟨ih, ?_, fun a ha b hb => ?_⟩
    · unfold rowC
      rw [List.pairwise_map]
      refine List.Pairwise.imp (fun {a b} hab => ?_) List.pairwise_lt_range
      simp [ltC]
      omega
    · have h1 := mem_cellsL.mp ha
      unfold rowC at hb
      obtain ⟨j, hj, rfl⟩ := List.mem_map.mp hb
      have := h1.2.1
      simp [ltC]
      omega
theorem cellsL_nodup (h w : Nat) : (cellsL h w).Nodup := (cellsL_sorted h w).imp fun {a b} hab e => by subst e; rw [ord_C.ir] at hab; cases hab
end Pk
/-! Sp3: sight. -/
namespace Pk
open PySem (Str)
/-! ### the cells between two -/
structure Near8 (a b : Int × Int) : Prop where
  d1 : -7 ≤ b.1 - a.1 ∧ b.1 - a.1 ≤ 7
  d2 : -7 ≤ b.2 - a.2 ∧ b.2 - a.2 ≤ 7
/-! ### .. by the law -/
/-! ### who sees whom -/
end Pk
/-! Sp4: sight, by the program and by the law. -/
namespace Pk
open PySem (Str)
end Pk
/-! Sp7: lands made cell by cell; sight over tilted, lifted, stretched lands; the best view. -/
namespace Pk
open PySem (Str)
def mkL (h w : Nat) (g : Int × Int → Int) : List (List Int) := (List.range h).map fun (i : Nat) => (List.range w).map fun (j : Nat) => g ((i : Int), (j : Int))
theorem mkL_row (h w : Nat) (g : Int × Int → Int) {i : Int} (h0 : 0 ≤ i) (h1 : i < h) : rowAt (mkL h w g) i = (List.range w).map fun (j : Nat) => g (i, (j : Int)) := by
  obtain ⟨n, rfl⟩ := Int.eq_ofNat_of_zero_le h0
  have hn : n < h := by omega
  simp [rowAt, mkL, hn]
theorem mkL_at (h w : Nat) (g : Int × Int → Int) {c : Int × Int} (hc : InL h w c) : hAt (mkL h w g) c = g c := by
  obtain ⟨a, b, d, e⟩ := hc
  unfold hAt
  rw [mkL_row h w g a b]
  obtain ⟨c1, c2⟩ := c
  simp only at d e
  obtain ⟨n, rfl⟩ := Int.eq_ofNat_of_zero_le d
  have hn : n < w := by omega
  simp [hn]
theorem mkL_land {h w : Nat} (hh : 1 ≤ h ∧ h ≤ 8) (hw : 1 ≤ w ∧ w ≤ 8) (g : Int × Int → Int) (hg : ∀ c, InL h w c → 0 ≤ g c ∧ g c ≤ 999) : Land (mkL h w g) h w := by
  refine ⟨by simp [mkL], hh, hw, fun r hr => ?_, fun r hr x hx => ?_⟩
  · obtain ⟨i, hi, rfl⟩ := List.mem_map.mp hr
    simp
  · obtain ⟨i, hi, rfl⟩ := List.mem_map.mp hr
    obtain ⟨j, hj, rfl⟩ := List.mem_map.mp hx
    have := List.mem_range.mp hi
    have := List.mem_range.mp hj
    exact hg _ ⟨by simp, by simp; omega, by simp, by simp; omega⟩
/-! ### sight does not change -/
mutual
theorem eqv_refl : ∀ (x : D) (n : Nat), x.dep n = true → x.eqv x = true
  | .none, n, h => by simp
  | .bool b, n, h => by simp
  | .int i, n, h => by simp
  | .str x, n, h => by simp
  | .lst l, 0, h => by simp [D.dep] at h
  | .tup l, 0, h => by simp [D.dep] at h
  | .lst l, n + 1, h => by rw [eqv_lst_lst]; exact eqvL_refl l n (by simpa [D.dep] using h)
  | .tup l, n + 1, h => by rw [eqv_tup_tup]; exact eqvL_refl l n (by simpa [D.dep] using h)
  | .dct _ _, n, h => by cases n <;> simp [D.dep] at h
  | .fn _, n, h => by cases n <;> simp [D.dep] at h
  | .clo _ _, n, h => by cases n <;> simp [D.dep] at h
  | .town, n, h => by cases n <;> simp [D.dep] at h
  | .obj _, n, h => by cases n <;> simp [D.dep] at h
  | .scr _, n, h => by cases n <;> simp [D.dep] at h
theorem eqvL_refl : ∀ (l : List D) (n : Nat), (∀ x ∈ l, x.dep n = true) → eqvL l l = true
  | [], n, h => by simp
  | x :: l, n, h => by
    rw [eqvL_cc, eqv_refl x n (h x List.mem_cons_self), eqvL_refl l n fun y hy => h y (List.mem_cons_of_mem _ hy)]
    rfl
end
end Pk
/-! Sp8: what are no lands, no cells; refusals. -/
namespace Pk
open PySem (Str)
def t1 (d : D) : D := .tup [d]
/-! ### what is asked -/
end Pk
namespace Pk
open PySem (Str)
end Pk
/-! Sp9: lands turned, mirrored, upside down. -/
namespace Pk
open PySem (Str)
def turnL (L : List (List Int)) (w : Nat) : List (List Int) := (List.range w).map fun k => L.map fun r => r.getD (w - 1 - k) 0
def upL (L : List (List Int)) : List (List Int) := L.map fun r => r.map fun x => 999 - x
theorem Land.turn {L : List (List Int)} {h w : Nat} (hL : Land L h w) : Land (turnL L w) w h := by
  refine ⟨by simp [turnL], hL.hw, hL.hr, fun r hr => ?_, fun r hr x hx => ?_⟩
  · simp [turnL] at hr
    obtain ⟨k, hk, rfl⟩ := hr
    simp [hL.rows]
  · simp [turnL] at hr
    obtain ⟨k, hk, rfl⟩ := hr
    simp at hx
    obtain ⟨a, ha, rfl⟩ := hx
    have h1 := hL.cols a ha
    have : w - 1 - k < a.length := by omega
    simp [this]
    exact hL.ht a ha _ (List.getElem_mem this)
theorem Land.up {L : List (List Int)} {h w : Nat} (hL : Land L h w) : Land (upL L) h w := by
  refine ⟨by simp [upL, hL.rows], hL.hr, hL.hw, fun r hr => ?_, fun r hr x hx => ?_⟩
  · simp [upL] at hr
    obtain ⟨a, ha, rfl⟩ := hr
    simp [hL.cols a ha]
  · simp [upL] at hr
    obtain ⟨a, ha, rfl⟩ := hr
    simp at hx
    obtain ⟨y, hy, rfl⟩ := hx
    have := hL.ht a ha y hy
    omega
end Pk
/-! Spa: lands beside one another, parts. -/
namespace Pk
open PySem (Str)
/-! ### parts -/
def mn (a b : Int) : Int := if b < a then b else a
def mx (a b : Int) : Int := if b > a then b else a
theorem dep_encL (n : Nat) (a : List (List Int)) : D.dep (n + 2) (encL a) = true := by simp [encL, encR]
end Pk
/-! Spb: is_land of any rows. -/
namespace Pk
open PySem (Str)
theorem sSeq_nx' {a b : S} {r r1 : Env} {s s1 : Sto} (h : a r s = .ok .nx r1 s1) : sSeq a b r s = b r1 s1 := by simp [h]
end Pk
/-! Spc2: neighbours, water that falls. -/
namespace Pk
open PySem (Str)
theorem sorted_eq {l m : List (Int × Int)} (hl : l.Pairwise fun a b => ltC a b = true) (hm : m.Pairwise fun a b => ltC a b = true) (h : ∀ x, x ∈ l ↔ x ∈ m) : l = m := by
  have ne : ∀ {k : List (Int × Int)}, k.Pairwise (fun a b => ltC a b = true) → k.Nodup := fun hk => hk.imp fun {a b} hab e => by subst e; rw [ord_C.ir] at hab; cases hab
  have p : l.Perm m := (List.perm_ext_iff_of_nodup (ne hl) (ne hm)).mpr h
  refine List.Perm.eq_of_pairwise (le := fun a b => ltC a b = true) (fun a b _ _ h1 h2 => ?_) hl hm p
  have := ord_C.tr _ _ _ h1 h2
  rw [ord_C.ir] at this
  cases this
def besideL (h w : Nat) (c : Int × Int) : List (Int × Int) := (cellsL h w).filter (nearB c)
def nb4 (c : Int × Int) : List (Int × Int) := [(c.1 - 1, c.2), (c.1, c.2 - 1), (c.1, c.2 + 1), (c.1 + 1, c.2)]
def inB (h w : Nat) (c : Int × Int) : Bool := decide (0 ≤ c.1) && decide (c.1 < h) && decide (0 ≤ c.2) && decide (c.2 < w)
theorem inB_iff {h w : Nat} {c : Int × Int} : inB h w c = true ↔ InL h w c := by simp [inB, InL, and_assoc]
theorem nb4_eq (h w : Nat) (c : Int × Int) : (nb4 c).filter (inB h w) = besideL h w c := by
  refine sorted_eq (List.Pairwise.filter _ (by simp [nb4, ltC]; omega)) (List.Pairwise.filter _ (cellsL_sorted h w)) fun x => ?_
  simp only [List.mem_filter, mem_cellsL, besideL]
  constructor
  · rintro ⟨h1, h2⟩
    refine ⟨inB_iff.mp h2, ?_⟩
    simp only [nb4, List.mem_cons, List.not_mem_nil, or_false] at h1
    simp only [nearB, decide_eq_true_eq]
    rcases h1 with rfl | rfl | rfl | rfl <;> simp <;> omega
  · rintro ⟨h1, h2⟩
    refine ⟨?_, inB_iff.mpr h1⟩
    simp only [nearB, decide_eq_true_eq] at h2
    obtain ⟨x1, x2⟩ := x
    obtain ⟨c1, c2⟩ := c
    simp only [nb4, List.mem_cons, List.not_mem_nil, or_false, Prod.mk.injEq]
    simp only at h2
    omega
theorem beside_of_ok {L : List (List Int)} {h w : Nat} (hL : Land L h w) (c : Int × Int) (s : Sto) : py_beside_of [encL L, encC c] s = .ok (.lst ((besideL h w c).map encC)) s := by
  have c0 : co_beside_of_0 [.sh (encL L), .sh (encC c), .sh (.int c.1), .sh (.int c.2), .sh (.lst ((nb4 c).map encC)), .no] s = .ok (.lst ((besideL h w c).map encC)) [.sh (encL L), .sh (encC c), .sh (.int c.1), .sh (.int c.2), .sh (.lst ((nb4 c).map encC)), .no] s := by
    rw [← nb4_eq]
    refine eComp_pure (nb4 c) encC (inB h w) encC rfl rfl fun x hx => ⟨_, rfl, rfl, ?_, fun _ => ?_⟩
    · have := is_cell_int hL x s
      simp [this, inB]
    · simp
  have en : D.lst ((nb4 c).map encC) = .lst [.tup [.int (c.1 - 1), .int c.2], .tup [.int c.1, .int (c.2 - 1)], .tup [.int c.1, .int (c.2 + 1)], .tup [.int (c.1 + 1), .int c.2]] := rfl
  rw [en] at c0
  simp only [encC] at c0
  simp [py_beside_of, bo_beside_of, fnOf, startL, encC, c0]
def lowN (L : List (List Int)) (h w : Nat) (c : Int × Int) : List (Int × Int) := (besideL h w c).filter fun o => decide (hAt L o < hAt L c)
theorem mem_lowN {L : List (List Int)} {h w : Nat} {c o : Int × Int} : o ∈ lowN L h w c ↔ InL h w o ∧ nearB c o = true ∧ hAt L o < hAt L c := by
  simp [lowN, besideL, mem_cellsL, and_assoc]
  intro _
  exact and_comm
/-- the next cell of water at c: the lowest, the first of several -/
def IsNext (L : List (List Int)) (h w : Nat) (c d : Int × Int) : Prop := d ∈ lowN L h w c ∧ ∀ y ∈ lowN L h w c, ltP (hAt L y, y) (hAt L d, d) = false
theorem next_uniq {L : List (List Int)} {h w : Nat} {c d e : Int × Int} (h1 : IsNext L h w c d) (h2 : IsNext L h w c e) : d = e := by
  have a := h1.2 e h2.1
  have b := h2.2 d h1.1
  obtain ⟨d1, d2⟩ := d
  obtain ⟨e1, e2⟩ := e
  simp only [ltP, ltC, Bool.or_eq_false_iff, Bool.and_eq_false_iff, decide_eq_false_iff_not] at a b
  simp only [Prod.mk.injEq]
  omega
/-- the way of water -/
inductive Way (L : List (List Int)) (h w : Nat) : (Int × Int) → List (Int × Int) → Prop
  | stay {c : Int × Int} (hs : lowN L h w c = []) : Way L h w c [c]
  | go {c d : Int × Int} {l : List (Int × Int)} (hn : IsNext L h w c d) (hw : Way L h w d l) : Way L h w c (c :: l)
theorem last_ix (pre : List (Int × Int)) (c : Int × Int) : pIx (.lst ((pre ++ [c]).map encC)) (.int (-1)) = some (encC c) := by
  simp only [pIx, getI, ixOf, List.map_append, List.map_cons, List.map_nil, List.length_append, List.length_map, List.length_singleton]
  have h1 : ¬ ((0 : Int) ≤ -1) := by omega
  have h2 : -(((pre.length + 1 : Nat)) : Int) ≤ -1 := by omega
  have h3 : (-1 + ((pre.length + 1 : Nat) : Int)).toNat = pre.length := by omega
  rw [if_neg h1, if_pos h2, Option.bind_some, h3]
  simp
theorem Way.head {L : List (List Int)} {h w : Nat} {c : Int × Int} {l : List (Int × Int)} (h1 : Way L h w c l) : ∃ t, l = c :: t := by
  cases h1 with
  | stay _ => exact ⟨[], rfl⟩
  | go _ _ => exact ⟨_, rfl⟩
theorem Way.uniq {L : List (List Int)} {h w : Nat} {c : Int × Int} {l m : List (Int × Int)} (h1 : Way L h w c l) : Way L h w c m → l = m := by
  induction h1 generalizing m with
  | stay hs =>
    intro h2
    cases h2 with
    | stay _ => rfl
    | go hn _ => have := hn.1; rw [hs] at this; cases this
  | go hn hw ih =>
    intro h2
    cases h2 with
    | stay hs => have := hn.1; rw [hs] at this; cases this
    | go hn2 hw2 =>
      have := next_uniq hn hn2
      subst this
      rw [ih hw2]
/-- heights go down -/
theorem Way.down {L : List (List Int)} {h w : Nat} {c : Int × Int} {l : List (Int × Int)} (h1 : Way L h w c l) : (∀ x ∈ l, hAt L x ≤ hAt L c) ∧ l.Nodup := by
  induction h1 with
  | stay hs => exact ⟨fun x hx => by rw [List.mem_singleton.mp hx]; exact Int.le_refl _, by simp⟩
  | go hn hw ih =>
    have hlt := (mem_lowN.mp hn.1).2.2
    refine ⟨fun x hx => ?_, ?_⟩
    · rcases List.mem_cons.mp hx with rfl | hx
      · exact Int.le_refl _
      · have := ih.1 x hx; omega
    · refine List.nodup_cons.mpr ⟨fun hm => ?_, ih.2⟩
      have := ih.1 _ hm
      omega
theorem Way.cells {L : List (List Int)} {h w : Nat} {c : Int × Int} {l : List (Int × Int)} (h1 : Way L h w c l) (hc : InL h w c) : ∀ x ∈ l, InL h w x := by
  induction h1 with
  | stay hs => intro x hx; rw [List.mem_singleton.mp hx]; exact hc
  | go hn hw ih =>
    intro x hx
    rcases List.mem_cons.mp hx with rfl | hx
    · exact hc
    · exact ih (mem_lowN.mp hn.1).1 x hx
end Pk
/-! Spd: walks. -/
namespace Pk
open PySem (Str)
def prs {α : Type} (l : List α) : List (α × α) := l.zip l.tail
theorem prs_rev {α : Type} (l : List α) : prs l.reverse = ((prs l).map Prod.swap).reverse := by
  unfold prs
  apply List.ext_getElem
  · simp
  · intro i h1 h2
    simp at h1 h2
    simp
    congr 1
    omega
theorem prs_append {α : Type} (a b : α) : ∀ l : List α, prs (l ++ [a] ++ [b]) = prs (l ++ [a]) ++ [(a, b)]
  | [] => rfl
  | [x] => rfl
  | x :: y :: l => by
    have := prs_append a b (y :: l)
    simp only [List.cons_append] at this ⊢
    show (x, y) :: prs (y :: (l ++ [a] ++ [b])) = (x, y) :: prs (y :: (l ++ [a])) ++ [(a, b)]
    rw [this]
    rfl
def chainB (C : List (Int × Int)) : Bool := (prs C).all fun p => nearB p.1 p.2
theorem near_symm (a b : Int × Int) : nearB a b = nearB b a := by
  unfold nearB
  congr 1
  apply propext
  constructor <;> intro h <;> omega
theorem chain_rev (C : List (Int × Int)) : chainB C.reverse = chainB C := by
  unfold chainB
  rw [prs_rev, List.all_reverse, List.all_map]
  congr 1
  funext p
  exact near_symm _ _
structure WalkOk (h w : Nat) (W : List (Int × Int)) : Prop where
  ne : W ≠ []
  cells : ∀ c ∈ W, InL h w c
  near : chainB W = true
theorem WalkOk.rev {h w : Nat} {W : List (Int × Int)} (hW : WalkOk h w W) : WalkOk h w W.reverse :=
  ⟨by simpa using hW.ne, fun c hc => hW.cells c (by simpa using hc), by rw [chain_rev]; exact hW.near⟩
theorem WalkOk.more {h w : Nat} {l : List (Int × Int)} {a b : Int × Int} (hW : WalkOk h w (l ++ [a])) (hb : InL h w b) (hn : nearB a b = true) : WalkOk h w (l ++ [a] ++ [b]) := by
  refine ⟨by simp, fun c hc => ?_, ?_⟩
  · rcases List.mem_append.mp hc with z | z
    · exact hW.cells c z
    · rw [List.mem_singleton.mp z]; exact hb
  · unfold chainB
    rw [prs_append a b l, List.all_append]
    have := hW.near
    unfold chainB at this
    rw [this]
    simp [hn]
theorem last_of {α : Type} {l : List α} (h : l ≠ []) : ∃ p a, l = p ++ [a] := ⟨l.dropLast, l.getLast h, (List.dropLast_concat_getLast h).symm⟩
end Pk
/-! Spe: which lists are walks; their numbers. -/
namespace Pk
open PySem (Str)
/-! ### numbers -/
end Pk
/-! Spf: cells in lists, sorted cells, dicts of cells. -/
namespace Pk
open PySem (Str)
theorem pIn_cells (c : Int × Int) (l : List (Int × Int)) : pIn (encC c) (.lst (l.map encC)) = some (.bool (decide (c ∈ l))) := by
  have h1 : D.dep 64 (encC c) = true := by simp [encC]
  have h2 : D.dep 64 (.lst (l.map encC)) = true := dep_cells 62 l
  have h3 : (l.map encC).any (fun z => z.eqv (encC c)) = decide (c ∈ l) := by
    rw [Bool.eq_iff_iff, List.any_eq_true, decide_eq_true_eq]
    constructor
    · rintro ⟨z, hz, e⟩
      obtain ⟨y, hy, rfl⟩ := List.mem_map.mp hz
      rw [eqv_encC] at e
      rw [← of_decide_eq_true e]
      exact hy
    · intro hc
      exact ⟨encC c, List.mem_map.mpr ⟨c, hc, rfl⟩, by rw [eqv_encC]; simp⟩
  simp only [pIn, h1, h2, Bool.and_self, if_true, h3]
theorem pNotIn_cells (c : Int × Int) (l : List (Int × Int)) : pNotIn (encC c) (.lst (l.map encC)) = some (.bool !(decide (c ∈ l))) := by
  have := pIn_cells c l
  simp only [pIn, pNotIn] at this ⊢
  split at this
  · rename_i h
    rw [if_pos h]
    simp only [Option.some.injEq, D.bool.injEq] at this
    rw [this]
  · cases this
theorem pNe_cells (l m : List (Int × Int)) : pNe (.lst (l.map encC)) (.lst (m.map encC)) = some (.bool !(decide (l = m))) := by
  have h1 : D.dep 64 (.lst (l.map encC)) = true := dep_cells 62 l
  have h2 : D.dep 64 (.lst (m.map encC)) = true := dep_cells 62 m
  simp only [pNe, h1, h2, Bool.and_self, if_true, eqv_lst_lst, eqvL_encC]
def leC (a b : Int × Int) : Bool := !ltC b a
theorem ltC_total {a b : Int × Int} (h : a ≠ b) : ltC a b = true ∨ ltC b a = true := by
  obtain ⟨a1, a2⟩ := a
  obtain ⟨b1, b2⟩ := b
  simp only [ne_eq, Prod.mk.injEq] at h
  simp only [ltC, Bool.or_eq_true, Bool.and_eq_true, decide_eq_true_eq]
  omega
theorem sortOk_cells (l : List (Int × Int)) : sortOk (l.map encC) = true := by
  have h1 := ordOk_map encC l (fun x _ => by simp [encC]) alk_encC
  have h2 : (l.map encC).all D.tupNe = true := by
    rw [List.all_eq_true]
    intro x hx
    obtain ⟨y, _, rfl⟩ := List.mem_map.mp hx
    rfl
  simp only [sortOk, h1, h2, Bool.true_or, Bool.and_self]
theorem pSorted_enc (l : List (Int × Int)) : pSorted (.lst (l.map encC)) = some (.lst ((l.mergeSort leC).map encC)) := by
  simp only [pSorted, sortOk_cells, if_true]
  rw [List.map_mergeSort (s := leD) (f := encC)]
  intro a _ b _
  simp [leC, leD]
theorem sorted_enc {l : List (Int × Int)} (hn : l.Nodup) : ∃ m : List (Int × Int), m.Pairwise (fun a b => ltC a b = true) ∧ (∀ x, x ∈ m ↔ x ∈ l) ∧ pSorted (.lst (l.map encC)) = some (.lst (m.map encC)) := by
  refine ⟨l.mergeSort leC, ?_, fun x => List.mem_mergeSort, pSorted_enc l⟩
  have hp := List.pairwise_mergeSort (le := leC) (fun a b c h1 h2 => by
      simp only [leC, Bool.not_eq_true', ltC, Bool.or_eq_false_iff, Bool.and_eq_false_iff, decide_eq_false_iff_not] at *
      omega) (fun a b => by
      simp only [leC, Bool.or_eq_true, Bool.not_eq_true', ltC, Bool.or_eq_false_iff, Bool.and_eq_false_iff, decide_eq_false_iff_not]
      omega) l
  have hd : (l.mergeSort leC).Nodup := (List.mergeSort_perm l leC).nodup_iff.mpr hn
  refine (hp.and hd).imp fun {a b} h => ?_
  obtain ⟨h1, h2⟩ := h
  rcases ltC_total h2 with h3 | h3
  · exact h3
  · simp [leC, h3] at h1
/-! dicts of cells -/
def kyC (c : Int × Int) : Ky := .t [c.1, c.2]
theorem kyC_inj {a b : Int × Int} : kyC a = kyC b ↔ a = b := by
  obtain ⟨a1, a2⟩ := a
  obtain ⟨b1, b2⟩ := b
  simp [kyC]
theorem keyOf_encC (c : Int × Int) : keyOf (encC c) = some (kyC c) := rfl
theorem pairsOf_cells (g : Int × Int → D) : ∀ l : List (Int × Int), pairsOf (l.map fun c => .tup [encC c, g c]) = some (l.map fun c => [c.1, c.2], l.map g)
  | [] => rfl
  | c :: l => by
    simp only [List.map_cons, encC, pairsOf]
    have := pairsOf_cells g l
    simp only [encC] at this
    rw [this]
    rfl
theorem pDict_cells (g : Int × Int → D) {l : List (Int × Int)} (hn : l.Nodup) : pDict (.lst (l.map fun c => .tup [encC c, g c])) = some (.dct (l.map kyC) (l.map g)) := by
  have h1 : (l.map fun c : Int × Int => [c.1, c.2]).Nodup := by
    refine List.pairwise_map.mpr (hn.imp fun {a b} hab e => hab ?_)
    obtain ⟨a1, a2⟩ := a
    obtain ⟨b1, b2⟩ := b
    simpa using e
  simp only [pDict, pairsOf_cells, Option.bind_some, lim_of h1, if_true, List.map_map]
  rfl
end Pk
/-! Spg: what is seen along one step. -/
namespace Pk
open PySem (Str)
theorem ixT0 (x y : D) : pIx (.tup [x, y]) (.int 0) = some x := by simp
theorem ixT1 (x y : D) : pIx (.tup [x, y]) (.int 1) = some y := by simp
end Pk
/-! Spr0: what hangs together, in plain words. -/
namespace Pk
open PySem (Str)
abbrev C := Int × Int
/-- one comes from a to b by steps of near, each to a cell of P -/
inductive Rch (near : C → C → Bool) (P : C → Prop) (a : C) : C → Prop
  | refl : Rch near P a a
  | step {x y : C} (h : Rch near P a x) (hn : near x y = true) (hp : P y) : Rch near P a y
section
variable {near : C → C → Bool} {P Q : C → Prop} {a b c : C}
theorem Rch.trans (h1 : Rch near P a b) (h2 : Rch near P b c) : Rch near P a c := by
  induction h2 with
  | refl => exact h1
  | step h hn hp ih => exact .step ih hn hp
theorem Rch.one (hn : near a b = true) (hp : P b) : Rch near P a b := .step .refl hn hp
theorem Rch.mono (hPQ : ∀ x, P x → Q x) (h : Rch near P a b) : Rch near Q a b := by
  induction h with
  | refl => exact .refl
  | step h hn hp ih => exact .step ih hn (hPQ _ hp)
theorem Rch.all (h : Rch near P a b) (ha : P a) : P b := by
  cases h with
  | refl => exact ha
  | step _ _ hp => exact hp
theorem Rch.symm (sy : ∀ x y, near x y = near y x) (ha : P a) (h : Rch near P a b) : Rch near P b a := by
  induction h with
  | refl => exact .refl
  | step h hn hp ih => exact Rch.trans (Rch.one (by rw [sy]; exact hn) (h.all ha)) ih
theorem Rch.congr (h : ∀ x, P x ↔ Q x) : Rch near P a b ↔ Rch near Q a b := ⟨Rch.mono fun x => (h x).mp, Rch.mono fun x => (h x).mpr⟩
/-- what is closed and holds a holds all of it -/
theorem Rch.closed {F : C → Prop} (ha : F a) (hc : ∀ x y, F x → near x y = true → P y → F y) (h : Rch near P a b) : F b := by
  induction h with
  | refl => exact ha
  | step _ hn hp ih => exact hc _ _ ih hn hp
end
theorem nearB_comm (a b : C) : nearB a b = nearB b a := by
  simp only [nearB]
  rw [decide_eq_decide]
  omega
/-! ### cells of a land that are good -/
abbrev GoodP (h w : Nat) (g : C → Bool) : C → Prop := fun y => InL h w y ∧ g y = true
abbrev RG (h w : Nat) (g : C → Bool) : C → C → Prop := Rch nearB (GoodP h w g)
theorem RG.inL {h w : Nat} {g : C → Bool} {a b : C} (r : RG h w g a b) (ha : InL h w a) : InL h w b := by
  cases r with
  | refl => exact ha
  | step _ _ hp => exact hp.1
/-- all cells to which one comes -/
noncomputable def sprd (h w : Nat) (g : C → Bool) (c : C) : List C := (cellsL h w).filter fun x => lim (RG h w g c x)
theorem mem_sprd {h w : Nat} {g : C → Bool} {c x : C} (hc : InL h w c) : x ∈ sprd h w g c ↔ RG h w g c x := by
  unfold sprd
  rw [List.mem_filter, mem_cellsL, lim_iff]
  exact ⟨fun h => h.2, fun h => ⟨h.inL hc, h⟩⟩
theorem sprd_sorted (h w : Nat) (g : C → Bool) (c : C) : (sprd h w g c).Pairwise fun a b => ltC a b = true := (cellsL_sorted h w).filter _
/-- the grid hangs together -/
theorem grid_row {h w : Nat} {g : C → Bool} (hg : ∀ x, InL h w x → g x = true) {i j : Int} : ∀ (n : Nat) {k : Int}, InL h w (i, j) → InL h w (i, k) → (j - k).natAbs = n → RG h w g (i, j) (i, k)
  | 0, k, _, _, e => by have : j = k := by omega
                        subst this; exact .refl
  | n + 1, k, h1, h2, e => by
    obtain ⟨a1, a2, a3, a4⟩ := h1
    obtain ⟨b1, b2, b3, b4⟩ := h2
    simp only at a1 a2 a3 a4 b1 b2 b3 b4
    by_cases hjk : j < k
    · have hm : InL h w (i, k - 1) := ⟨a1, a2, by simp only; omega, by simp only; omega⟩
      refine .step (grid_row hg n (k := k - 1) ⟨a1, a2, a3, a4⟩ hm (by omega)) ?_ ⟨⟨b1, b2, b3, b4⟩, hg _ ⟨b1, b2, b3, b4⟩⟩
      simp [nearB]
      omega
    · have hm : InL h w (i, k + 1) := ⟨a1, a2, by simp only; omega, by simp only; omega⟩
      refine .step (grid_row hg n (k := k + 1) ⟨a1, a2, a3, a4⟩ hm (by omega)) ?_ ⟨⟨b1, b2, b3, b4⟩, hg _ ⟨b1, b2, b3, b4⟩⟩
      simp [nearB]
      omega
theorem grid_all {h w : Nat} {g : C → Bool} (hg : ∀ x, InL h w x → g x = true) : ∀ (n : Nat) {i j k l : Int}, InL h w (i, j) → InL h w (k, l) → (i - k).natAbs = n → RG h w g (i, j) (k, l)
  | 0, i, j, k, l, h1, h2, e => by
    have : i = k := by omega
    subst this
    exact grid_row hg _ h1 h2 rfl
  | n + 1, i, j, k, l, h1, h2, e => by
    obtain ⟨a1, a2, a3, a4⟩ := h1
    obtain ⟨b1, b2, b3, b4⟩ := h2
    simp only at a1 a2 a3 a4 b1 b2 b3 b4
    by_cases hik : i < k
    · refine .step (grid_all hg n (k := k - 1) (l := l) ⟨a1, a2, a3, a4⟩ ⟨by simp only; omega, by simp only; omega, b3, b4⟩ (by omega)) ?_ ⟨⟨b1, b2, b3, b4⟩, hg _ ⟨b1, b2, b3, b4⟩⟩
      simp [nearB]
      omega
    · refine .step (grid_all hg n (k := k + 1) (l := l) ⟨a1, a2, a3, a4⟩ ⟨by simp only; omega, by simp only; omega, b3, b4⟩ (by omega)) ?_ ⟨⟨b1, b2, b3, b4⟩, hg _ ⟨b1, b2, b3, b4⟩⟩
      simp [nearB]
      omega
theorem grid_conn {h w : Nat} {g : C → Bool} (hg : ∀ x, InL h w x → g x = true) {a b : C} (ha : InL h w a) (hb : InL h w b) : RG h w g a b := grid_all hg _ ha hb rfl
/-! ### parts: by classes -/
/-- the first cells of classes, in order -/
noncomputable def firstOf (cls : C → List C) (cs : List C) : List C := cs.filter fun c => lim (∀ d ∈ cs, ltC d c = true → c ∉ cls d)
structure Classes (cls : C → List C) (cs : List C) : Prop where
  self : ∀ c ∈ cs, c ∈ cls c
  sub : ∀ c ∈ cs, ∀ x ∈ cls c, x ∈ cs
  same : ∀ c ∈ cs, ∀ x ∈ cls c, cls x = cls c
/-- going through the cells: which are new, what was seen -/
theorem parts_turn {cls : C → List C} {cs pre post : List C} {c : C} (K : Classes cls cs) (hs : cs.Pairwise fun a b => ltC a b = true) (e : cs = pre ++ c :: post) :
    (∃ d ∈ pre, c ∈ cls d) ↔ c ∉ firstOf cls cs := by
  have hc : c ∈ cs := by rw [e]; simp
  unfold firstOf
  rw [List.mem_filter, lim_iff]
  rw [e] at hs
  have hs1 : ∀ d ∈ pre, ltC d c = true := fun d hd => (List.pairwise_append.mp hs).2.2 d hd c List.mem_cons_self
  constructor
  · rintro ⟨d, hd, hcd⟩ ⟨_, h2⟩
    exact h2 d (by rw [e]; exact List.mem_append_left _ hd) (hs1 d hd) hcd
  · intro h
    apply Classical.byContradiction
    intro hn
    refine h ⟨hc, fun d hd hlt hcd => hn ⟨d, ?_, hcd⟩⟩
    rw [e] at hd
    rcases List.mem_append.mp hd with h1 | h1
    · exact h1
    · exfalso
      rcases List.mem_cons.mp h1 with rfl | h1
      · rw [ord_C.ir] at hlt; cases hlt
      · have h2 := (List.pairwise_cons.mp (List.pairwise_append.mp hs).2.1).1 d h1
        have := ord_C.tr _ _ _ hlt h2
        rw [ord_C.ir] at this; cases this
theorem mem_goodL {h w : Nat} {g : C → Bool} {c : C} : c ∈ (cellsL h w).filter g ↔ GoodP h w g c := by rw [List.mem_filter, mem_cellsL]
end Pk
/-! Spr1: dicts of cells; spread_of. -/
namespace Pk
open PySem (Str)
/-- a dict whose keys are cells -/
def dC (F : List C) (v : C → D) : D := .dct (F.map kyC) (F.map v)
def addK (F : List C) (c : C) : List C := if c ∈ F then F else F ++ [c]
def updC (v : C → D) (c : C) (d : D) : C → D := fun x => if x = c then d else v x
theorem mem_addK {F : List C} {c x : C} : x ∈ addK F c ↔ x ∈ F ∨ x = c := by
  unfold addK
  split
  · rename_i h
    exact ⟨.inl, fun q => q.elim id fun e => e ▸ h⟩
  · simp
theorem addK_nodup {F : List C} {c : C} (h : F.Nodup) : (addK F c).Nodup := by
  unfold addK
  split
  · exact h
  · rename_i n
    rw [List.nodup_append]
    exact ⟨h, by simp, fun a ha b hb e => n (by rw [List.mem_singleton.mp hb] at e; exact e ▸ ha)⟩
theorem isTK_C (F : List C) : (F.map kyC).all isTK = true := by
  rw [List.all_eq_true]
  intro k hk
  obtain ⟨c, _, rfl⟩ := List.mem_map.mp hk
  exact lim_of (by simp)
theorem ky_mem {c : C} {F : List C} : kyC c ∈ F.map kyC ↔ c ∈ F := by
  rw [List.mem_map]
  exact ⟨fun ⟨x, h, e⟩ => kyC_inj.mp e ▸ h, fun h => ⟨c, h, rfl⟩⟩
theorem pInD_C (c : C) (F : List C) (v : C → D) : pInD (encC c) (dC F v) = some (.bool (decide (c ∈ F))) := by
  unfold pInD dC
  simp only [isTK_C, if_true, keyOf_encC, Option.map_some]
  rw [decide_eq_decide.mpr ky_mem]
theorem pNotInD_C (c : C) (F : List C) (v : C → D) : pNotInD (encC c) (dC F v) = some (.bool !(decide (c ∈ F))) := by
  unfold pNotInD dC
  simp only [isTK_C, if_true, keyOf_encC, Option.map_some]
  rw [decide_eq_decide.mpr ky_mem]
theorem pLstD_C (F : List C) (v : C → D) : pLstD (dC F v) = some (.lst (F.map encC)) := by
  unfold pLstD dC
  simp only [isTK_C, if_true, List.map_map]
  rfl
theorem putKs_C (F : List C) (c : C) : putKs (F.map kyC) (kyC c) = (addK F c).map kyC := by
  unfold putKs addK
  by_cases h : c ∈ F
  · rw [if_pos (ky_mem.mpr h), if_pos h]
  · rw [if_neg (fun q => h (ky_mem.mp q)), if_neg h]; simp
theorem putDs_C (F : List C) (v : C → D) (c : C) (d : D) : putDs (F.map kyC) (F.map v) (kyC c) d = (addK F c).map (updC v c d) := by
  unfold putDs addK
  by_cases h : c ∈ F
  · rw [if_pos (ky_mem.mpr h), if_pos h]
    have : ∀ G : List C, (((G.map kyC).zip (G.map v)).map fun p => if p.1 = kyC c then d else p.2) = G.map (updC v c d) := by
      intro G
      induction G with
      | nil => rfl
      | cons x G ih =>
        simp only [List.map_cons, List.zip_cons_cons, ih]
        congr 1
        unfold updC
        by_cases e : x = c
        · simp [e]
        · have : ¬ kyC x = kyC c := fun q => e (kyC_inj.mp q)
          simp [e, this]
    exact this F
  · rw [if_neg (fun q => h (ky_mem.mp q)), if_neg h, List.map_append]
    congr 1
    · refine List.map_congr_left fun x hx => ?_
      unfold updC
      rw [if_neg (fun (e : x = c) => h (e ▸ hx))]
    · simp [updC]
theorem dctGet_C (F : List C) (v : C → D) (c : C) : dctGet (F.map kyC) (F.map v) (kyC c) = if c ∈ F then some (v c) else none := by
  induction F with
  | nil => simp [dctGet]
  | cons x F ih =>
    by_cases e : x = c
    · simp [dctGet, e]
    · have n : ¬ kyC x = kyC c := fun q => e (kyC_inj.mp q)
      have e' : ¬ c = x := fun q => e q.symm
      simp [dctGet, n, e'] at ih ⊢
      rw [ih]
theorem pIxD_C {F : List C} (v : C → D) {c : C} (h : c ∈ F) : pIxD (dC F v) (encC c) = some (v c) := by
  simp only [pIxD, dC, keyOf_encC, Option.bind_some, dctGet_C, if_pos h]
theorem pGetD_C (F : List C) (v : C → D) (c : C) (x : D) : pGetD (dC F v) (encC c) x = some (if c ∈ F then v c else x) := by
  simp only [pGetD, dC, isTK_C, if_true, keyOf_encC, Option.map_some, dctGet_C]
  by_cases h : c ∈ F <;> simp [h]
theorem dC_one (c : C) (d : D) : D.dct [kyC c] [d] = dC [c] (fun _ => d) := rfl
theorem pDict_C (v : C → D) {l : List C} (hn : l.Nodup) : pDict (.lst (l.map fun c => .tup [encC c, v c])) = some (dC l v) := pDict_cells v hn
/-- d[k] = x -/
theorem sPutD_C {i : Nat} {mk mv : M D} {r r1 r2 : Env} {s s1 s2 : Sto} {F G : List C} {u v : C → D} {c : C} {d : D} (h1 : mv r s = .ok d r1 s1) (h2 : r1[i]? = some (.ow (dC G u))) (h3 : mk r1 s1 = .ok (encC c) r2 s2) (h4 : r2[i]? = some (.ow (dC F v))) (hl : F.length ≤ 1000) :
    sPutD i mk mv r s = .ok .nx (r2.set i (.ow (dC (addK F c) (updC v c d)))) s2 := by
  unfold sPutD
  rw [h1, R.bind_ok, h2]
  simp only [dC] at h4 ⊢
  rw [h3, R.bind_ok, h4]
  have hz : lim ((F.map kyC).length < SZ) = true := lim_of (by rw [List.length_map]; simp only [SZ]; omega)
  simp only [keyOf_encC, hz, isTK_C, Bool.and_self, if_true, putKs_C, putDs_C]
/-- d[k], y = a, b -/
theorem sPut2_C {i j : Nat} {mk ma mb : M D} {r r1 r2 : Env} {s s1 s2 : Sto} {F G : List C} {u v : C → D} {c : C} {d e : D} (h1 : eL [ma, mb] r s = .ok [d, e] r1 s1) (h2 : r1[i]? = some (.ow (dC G u))) (h3 : mk r1 s1 = .ok (encC c) r2 s2) (h4 : r2[i]? = some (.ow (dC F v))) (hl : F.length ≤ 1000) :
    sPut2 i j mk ma mb r s = .ok .nx ((r2.set i (.ow (dC (addK F c) (updC v c d)))).set j (.sh e)) s2 := by
  unfold sPut2
  rw [h1, R.bind_ok]
  simp only [h2]
  simp only [dC] at h4 ⊢
  rw [h3, R.bind_ok, h4]
  have hz : lim ((F.map kyC).length < SZ) = true := lim_of (by rw [List.length_map]; simp only [SZ]; omega)
  simp only [keyOf_encC, hz, isTK_C, Bool.and_self, if_true, putKs_C, putDs_C]
theorem few {h w : Nat} (hh : h ≤ 8) (hw : w ≤ 8) {F : List C} (hn : F.Nodup) (hF : ∀ c ∈ F, InL h w c) : F.length ≤ h * w ∧ F.length ≤ 64 := by
  have p : F.Perm ((cellsL h w).filter fun x => decide (x ∈ F)) := (List.perm_ext_iff_of_nodup hn ((cellsL_nodup h w).filter _)).mpr fun x => by
    simp only [List.mem_filter, decide_eq_true_eq]
    exact ⟨fun hx => ⟨mem_cellsL.mpr (hF x hx), hx⟩, fun hx => hx.2⟩
  have := List.length_filter_le (fun x => decide (x ∈ F)) (cellsL h w)
  rw [← p.length_eq, cellsL_len] at this
  have : h * w ≤ 8 * 8 := Nat.mul_le_mul hh hw
  omega
def Tr : C → D := fun _ => .bool true
theorem Tr_upd (c : C) : updC Tr c (.bool true) = Tr := by
  funext x
  simp [updC, Tr]
/-! ### spread_of -/
abbrev Es (L : List (List Int)) (c : C) (G F S : List C) (z : Sl) : Env := [.sh (encL L), .sh (encC c), .sh (dC G Tr), .ow (dC F Tr), .ow (.lst (S.map encC)), z]
theorem spread_for {L : List (List Int)} {c : C} {G : List C} (s : Sto) : ∀ (N F S : List C) (z : Sl), N.Nodup → F.length + N.length ≤ 900 → S.length + N.length ≤ 900 →
    ∃ new z', forL (.n 5) fo_spread_of_0 (N.map encC) (Es L c G F S z) s = .ok .nx (Es L c G (F ++ new) (S ++ new) z') s ∧ (∀ y ∈ new, y ∈ N ∧ y ∈ G ∧ y ∉ F) ∧ (∀ y ∈ N, y ∈ G → y ∈ F ∨ y ∈ new) ∧ new.Nodup
  | [], F, S, z, _, _, _ => ⟨[], z, by simp [forL], by simp, by simp, by simp⟩
  | y :: N, F, S, z, hn, hF, hS => by
    obtain ⟨n1, n2⟩ := List.nodup_cons.mp hn
    simp only [List.length_cons] at hF hS
    by_cases hg : y ∈ G ∧ y ∉ F
    · obtain ⟨new, z', e, p1, p2, p3⟩ := spread_for (L := L) (c := c) (G := G) s N (F ++ [y]) (S ++ [y]) (.sh (encC y)) n2 (by simp; omega) (by simp; omega)
      refine ⟨y :: new, z', ?_, ?_, ?_, ?_⟩
      · rw [List.map_cons, forL]
        simp only [setT_n]
        have b1 : fo_spread_of_0 (Es L c G F S (.sh (encC y))) s = .ok .nx (Es L c G (F ++ [y]) (S ++ [y]) (.sh (encC y))) s := by
          have q1 := sPutD_C (i := 3) (mk := eV 5) (mv := eC (.bool true)) (r := Es L c G F S (.sh (encC y))) (r1 := Es L c G F S (.sh (encC y))) (r2 := Es L c G F S (.sh (encC y))) (s := s) (s1 := s) (s2 := s) (F := F) (G := F) (u := Tr) (v := Tr) (c := y) (d := .bool true) rfl rfl (by simp [Es]) rfl (by omega)
          have ea : addK F y = F ++ [y] := by simp [addK, hg.2]
          rw [Tr_upd, ea] at q1
          simp only [Es, List.set_cons_succ, List.set_cons_zero] at q1
          have hz : S.length < SZ := by simp only [SZ]; omega
          simp [fo_spread_of_0, Es, pInD_C, pNotInD_C, hg.1, hg.2, q1, hz]
        show ((fo_spread_of_0 (Es L c G F S (.sh (encC y))) s).bind _) = _
        rw [b1, R.bind_ok]
        rw [show F ++ y :: new = F ++ [y] ++ new by simp, show S ++ y :: new = S ++ [y] ++ new by simp]
        exact e
      · intro x hx
        rcases List.mem_cons.mp hx with rfl | hx
        · exact ⟨List.mem_cons_self, hg⟩
        · obtain ⟨a1, a2, a3⟩ := p1 x hx
          exact ⟨List.mem_cons_of_mem _ a1, a2, fun q => a3 (List.mem_append_left _ q)⟩
      · intro x hx hxG
        rcases List.mem_cons.mp hx with rfl | hx
        · exact .inr List.mem_cons_self
        · rcases p2 x hx hxG with q | q
          · rcases List.mem_append.mp q with q | q
            · exact .inl q
            · exact .inr (by rw [List.mem_singleton.mp q]; exact List.mem_cons_self)
          · exact .inr (List.mem_cons_of_mem _ q)
      · exact List.nodup_cons.mpr ⟨fun q => n1 (p1 y q).1, p3⟩
    · obtain ⟨new, z', e, p1, p2, p3⟩ := spread_for (L := L) (c := c) (G := G) s N F S (.sh (encC y)) n2 (by omega) (by omega)
      refine ⟨new, z', ?_, fun x hx => ⟨List.mem_cons_of_mem _ (p1 x hx).1, (p1 x hx).2⟩, ?_, p3⟩
      · rw [List.map_cons, forL]
        simp only [setT_n]
        have b1 : fo_spread_of_0 (Es L c G F S (.sh (encC y))) s = .ok .nx (Es L c G F S (.sh (encC y))) s := by
          by_cases h1 : y ∈ G
          · have h2 : y ∈ F := Classical.byContradiction fun q => hg ⟨h1, q⟩
            simp [fo_spread_of_0, Es, pInD_C, pNotInD_C, h1, h2]
          · simp [fo_spread_of_0, Es, pInD_C, pNotInD_C, h1]
        show ((fo_spread_of_0 (Es L c G F S (.sh (encC y))) s).bind _) = _
        rw [b1, R.bind_ok]
        exact e
      · intro x hx hxG
        rcases List.mem_cons.mp hx with rfl | hx
        · exact .inl (Classical.byContradiction fun q => hg ⟨hxG, q⟩)
        · exact p2 x hx hxG
end Pk
/-! Spr2: spread_of, flat_of, land_at. -/
namespace Pk
open PySem (Str)
structure SpI (h w : Nat) (g : C → Bool) (c : C) (F S : List C) : Prop where
  nd : F.Nodup
  hc : c ∈ F
  rc : ∀ x ∈ F, RG h w g c x
  sub : ∀ x ∈ S, x ∈ F
  cl : ∀ x ∈ F, x ∉ S → ∀ y, nearB x y = true → GoodP h w g y → y ∈ F
  sl : S.length ≤ F.length
theorem besideL_nodup (h w : Nat) (c : C) : (besideL h w c).Nodup := (cellsL_nodup h w).filter _
theorem mem_besideL {h w : Nat} {c y : C} : y ∈ besideL h w c ↔ InL h w y ∧ nearB c y = true := by
  unfold besideL
  rw [List.mem_filter, mem_cellsL]
theorem besideL_len (h w : Nat) (c : C) : (besideL h w c).length ≤ 4 := by
  rw [← nb4_eq]
  exact Nat.le_trans (List.length_filter_le _ _) (by simp [nb4])
theorem pNe_nil_cells (S : List C) : pNe (.lst (S.map encC)) (.lst []) = some (.bool (!S.isEmpty)) := by
  have := pNe_cells S []
  simp only [List.map_nil] at this
  rw [this]
  cases S <;> simp
def spMu : Env → Nat
  | [_, _, _, .ow (.dct ks _), .ow (.lst l), _] => 2 * (200 - ks.length) + l.length
  | _ => 0
theorem spread_turn {L : List (List Int)} {h w : Nat} (hL : Land L h w) {g : C → Bool} {c : C} (hc : InL h w c) (s : Sto) (F S : List C) (x : C) (z : Sl) (I : SpI h w g c F (S ++ [x])) :
    ∃ F' S' z', sFor (iOf (eCall py_beside_of [(eV 0), (ePop 4)] [])) (.n 5) fo_spread_of_0 (Es L c ((cellsL h w).filter g) F (S ++ [x]) z) s = .ok .nx (Es L c ((cellsL h w).filter g) F' S' z') s ∧ SpI h w g c F' S' ∧ 2 * (200 - F'.length) + S'.length < 2 * (200 - F.length) + (S ++ [x]).length := by
  have hF64 := few hL.hr.2 hL.hw.2 I.nd fun y hy => (I.rc y hy).inL hc
  have hbl := besideL_len h w x
  have hsl := I.sl
  simp only [List.length_append, List.length_singleton] at hsl
  obtain ⟨new, z', e, p1, p2, p3⟩ := spread_for (L := L) (c := c) (G := (cellsL h w).filter g) s (besideL h w x) F S z (besideL_nodup h w x) (by omega) (by omega)
  have hxF : x ∈ F := I.sub x (by simp)
  have nd' : (F ++ new).Nodup := by
    rw [List.nodup_append]
    exact ⟨I.nd, p3, fun a ha b hb e => (p1 b hb).2.2 (e ▸ ha)⟩
  refine ⟨F ++ new, S ++ new, z', ?_, ⟨nd', List.mem_append_left _ I.hc, fun y hy => ?_, fun y hy => ?_, fun y hy hn u hu hg => ?_, by simp; omega⟩, ?_⟩
  · rw [← e]
    have dl : ((S ++ [x]).map encC).dropLast = S.map encC := by simp
    have gl : ((S ++ [x]).map encC).getLast? = some (encC x) := by simp
    simp [Es, dl, gl, beside_of_ok hL]
  · rcases List.mem_append.mp hy with q | q
    · exact I.rc y q
    · obtain ⟨a1, a2, _⟩ := p1 y q
      exact .step (I.rc x hxF) (mem_besideL.mp a1).2 (mem_goodL.mp a2)
  · rcases List.mem_append.mp hy with q | q
    · exact List.mem_append_left _ (I.sub y (List.mem_append_left _ q))
    · exact List.mem_append_right _ q
  · by_cases hyx : y = x
    · subst hyx
      rcases p2 u (mem_besideL.mpr ⟨hg.1, hu⟩) (mem_goodL.mpr hg) with q | q
      · exact List.mem_append_left _ q
      · exact List.mem_append_right _ q
    · rcases List.mem_append.mp hy with q | q
      · refine List.mem_append_left _ (I.cl y q (fun r => ?_) u hu hg)
        rcases List.mem_append.mp r with r | r
        · exact hn (List.mem_append_left _ r)
        · exact hyx (List.mem_singleton.mp r)
      · exact absurd (List.mem_append_right _ q) hn
  · simp only [List.length_append, List.length_singleton]
    have := few hL.hr.2 hL.hw.2 nd' (h := h) (w := w) fun y hy => by
      rcases List.mem_append.mp hy with q | q
      · exact (I.rc y q).inL hc
      · exact (mem_besideL.mp (p1 y q).1).1
    simp only [List.length_append] at this
    omega
theorem spread_of_ok {L : List (List Int)} {h w : Nat} (hL : Land L h w) (g : C → Bool) {c : C} (hc : InL h w c) (s : Sto) : py_spread_of [encL L, encC c, dC ((cellsL h w).filter g) Tr] s = .ok (.lst ((sprd h w g c).map encC)) s := by
  obtain ⟨r', s', e1, rfl, F, z, rfl, I⟩ := sWhile_inv (c := e2 pNe (.b 4) (.v (eLst []))) (b := sFor (iOf (eCall py_beside_of [(eV 0), (ePop 4)] [])) (.n 5) fo_spread_of_0) (r := Es L c ((cellsL h w).filter g) [c] [c] .no) (s := s)
    (fun r s1 => s1 = s ∧ ∃ F S z, r = Es L c ((cellsL h w).filter g) F S z ∧ SpI h w g c F S) (fun r _ => spMu r) (fun r s1 => s1 = s ∧ ∃ F z, r = Es L c ((cellsL h w).filter g) F [] z ∧ SpI h w g c F [])
    ⟨rfl, [c], [c], .no, rfl, by simp, by simp, fun x hx => by rw [List.mem_singleton.mp hx]; exact .refl, fun x hx => hx, fun x hx hn => absurd hx hn, by simp⟩ (by simp [spMu, Es, dC]) (fun r s1 hI => by
      obtain ⟨rfl, F, S, z, rfl, I⟩ := hI
      rcases List.eq_nil_or_concat S with rfl | ⟨S', x, rfl⟩
      · refine .inr ⟨_, _, ?_, rfl, F, z, rfl, I⟩
        have := pNe_nil_cells []
        simp only [List.map_nil] at this
        simp [Es, -pNe, this]
      · left
        rw [List.concat_eq_append] at I ⊢
        obtain ⟨F', S'', z', e, I', hm⟩ := spread_turn (L := L) hL hc s1 F S' x z I
        refine ⟨_, _, _, _, ?_, e, ⟨rfl, F', S'', z', rfl, I'⟩, ?_⟩
        · have := pNe_nil_cells (S' ++ [x])
          simp only [Es]
          simp [-pNe, this, -List.map_append]
        · simp only [spMu, Es, dC, List.length_map]
          exact hm)
  have eq : sprd h w g c = F.mergeSort leC := by
    obtain ⟨m, m1, m2, m3⟩ := sorted_enc I.nd
    have e3 := pSorted_enc F
    rw [m3] at e3
    have hm : m = F.mergeSort leC := by
      simp only [Option.some.injEq, D.lst.injEq] at e3
      have inj : ∀ l k : List C, l.map encC = k.map encC → l = k := by
        intro l
        induction l with
        | nil => intro k h; cases k with | nil => rfl | cons _ _ => simp at h
        | cons a l ih =>
          intro k h
          cases k with
          | nil => simp at h
          | cons b k =>
            simp only [List.map_cons, List.cons.injEq] at h
            have : a = b := by
              have := h.1
              simp only [encC, D.tup.injEq, List.cons.injEq, D.int.injEq, and_true] at this
              exact Prod.ext this.1 this.2
            rw [this, ih k h.2]
      exact inj _ _ e3
    rw [← hm]
    refine sorted_eq (sprd_sorted h w g c) m1 fun x => ?_
    rw [mem_sprd hc, m2]
    exact ⟨fun r => r.closed I.hc fun a b ha hn hp => I.cl a ha (by simp) b hn hp, I.rc x⟩
  rw [eq]
  refine fnOf_rt (r := Es L c ((cellsL h w).filter g) F [] z) rfl ?_
  unfold bo_spread_of
  rw [sSeq_nx' (r1 := Es L c ((cellsL h w).filter g) [c] [c] .no) (s1 := s') (by simp [startL, eDct1, keyOf_encC, Es, dC_one]; rfl)]
  have e1' : wh_spread_of_0 (Es L c ((cellsL h w).filter g) [c] [c] .no) s' = .ok .nx (Es L c ((cellsL h w).filter g) F [] z) s' := e1
  rw [sSeq_nx' e1']
  simp [Es, pLstD_C, pSorted_enc]
theorem land_at_ok {L : List (List Int)} {h w : Nat} (hL : Land L h w) (v : Int) (s : Sto) : py_land_at [encL L, .int v] s = .ok (dC ((cellsL h w).filter fun x => decide (v ≤ hAt L x)) Tr) s := by
  have c0 : co_land_at_0 [.sh (encL L), .sh (.int v), .no] s = .ok (.lst (((cellsL h w).filter fun x => decide (v ≤ hAt L x)).map fun c => .tup [encC c, Tr c])) [.sh (encL L), .sh (.int v), .no] s :=
    eComp_pure (cellsL h w) encC (fun x => decide (v ≤ hAt L x)) (fun c => .tup [encC c, Tr c]) (by simp [cells_of_ok hL]) rfl fun x hx => ⟨[.sh (encL L), .sh (.int v), .sh (encC x)], rfl, rfl, by
      have := at_ok hL (mem_cellsL.mp hx) s
      simp [this], fun _ => by simp [Tr]⟩
  simp [py_land_at, bo_land_at, fnOf, startL, c0, pDict_C Tr ((cellsL_nodup h w).filter _)]
def sameH (L : List (List Int)) (c : C) : C → Bool := fun x => decide (hAt L x = hAt L c)
end Pk
/-! Spt0: the cheapest walks, in plain words: costs are pairs of numbers; what is least so far goes round. -/
namespace Pk
abbrev Pc := Int × Int
def ltQ (x y : Pc) : Prop := x.1 < y.1 ∨ (x.1 = y.1 ∧ x.2 < y.2)
def leQ (x y : Pc) : Prop := ¬ ltQ y x
def addP (x i : Pc) : Pc := (x.1 + i.1, x.2 + i.2)
instance (x y : Pc) : Decidable (ltQ x y) := by unfold ltQ; exact inferInstance
instance (x y : Pc) : Decidable (leQ x y) := by unfold leQ; exact inferInstance
theorem leQ.refl (x : Pc) : leQ x x := by simp only [leQ, ltQ]; omega
theorem leQ.trans {x y u : Pc} (h1 : leQ x y) (h2 : leQ y u) : leQ x u := by simp only [leQ, ltQ] at *; omega
theorem leQ.antisymm {x y : Pc} (h1 : leQ x y) (h2 : leQ y x) : x = y := by simp only [leQ, ltQ] at *; exact Prod.ext (by omega) (by omega)
theorem leQ.of_lt {x y : Pc} (h : ltQ x y) : leQ x y := by simp only [leQ, ltQ] at *; omega
theorem leQ_add {x i : Pc} (h1 : 0 ≤ i.1) (h2 : 0 ≤ i.2) : leQ x (addP x i) := by simp only [leQ, ltQ, addP]; omega
theorem leQ_mono {x y i : Pc} (h : leQ x y) : leQ (addP x i) (addP y i) := by simp only [leQ, ltQ, addP] at *; omega
/-- the steps and what each costs -/
structure Edges (E : C → C → Option Pc) (cs : List C) : Prop where
  nn : ∀ o c i, E o c = some i → 0 ≤ i.1 ∧ i.1 ≤ 999 ∧ 0 ≤ i.2 ∧ i.2 ≤ 1
  inn : ∀ o c i, E o c = some i → o ∈ cs
  ne : ∀ o c i, E o c = some i → o ≠ c
/-- a walk to g, what it costs -/
inductive Wk (E : C → C → Option Pc) (g : C) (z : Pc) : C → Pc → Prop
  | nil : Wk E g z g z
  | cons {o c : C} {x i : Pc} (he : E o c = some i) (h : Wk E g z c x) : Wk E g z o (addP x i)
/-- .. with no cell twice, and whose cells are known to cost no more -/
inductive SW (E : C → C → Option Pc) (g : C) (z : Pc) (F : List C) (v : C → Pc) : C → List C → Pc → Prop
  | nil (hg : g ∈ F) (hz : leQ (v g) z) : SW E g z F v g [g] z
  | cons {o c : C} {l : List C} {x i : Pc} (he : E o c = some i) (h : SW E g z F v c l x) (hn : o ∉ l) (hF : o ∈ F) (hv : leQ (v o) (addP x i)) : SW E g z F v o (o :: l) (addP x i)
section
variable {E : C → C → Option Pc} {g : C} {z : Pc} {F F' cs : List C} {v v' : C → Pc} {c : C} {l : List C} {x : Pc}
theorem SW.mono (hF : ∀ c ∈ F, c ∈ F') (hv : ∀ c ∈ F, leQ (v' c) (v c)) (h : SW E g z F v c l x) : SW E g z F' v' c l x := by
  induction h with
  | nil hg hz => exact .nil (hF _ hg) ((hv _ hg).trans hz)
  | cons he h hn hF1 hv1 ih => exact .cons he ih hn (hF _ hF1) ((hv _ hF1).trans hv1)
theorem SW.wk (h : SW E g z F v c l x) : Wk E g z c x := by
  induction h with
  | nil hg hz => exact .nil
  | cons he h hn hF1 hv1 ih => exact .cons he ih
theorem SW.gz (h : SW E g z F v c l x) : g ∈ F ∧ leQ (v g) z := by
  induction h with
  | nil hg hz => exact ⟨hg, hz⟩
  | cons he h hn hF1 hv1 ih => exact ih
theorem SW.le (hE : Edges E cs) (h : SW E g z F v c l x) : ∀ o ∈ l, o ∈ F ∧ leQ (v o) x := by
  induction h with
  | nil hg hz => intro o ho; rw [List.mem_singleton.mp ho]; exact ⟨hg, hz⟩
  | cons he h hn hF1 hv1 ih =>
    intro o' ho
    rcases List.mem_cons.mp ho with rfl | ho
    · exact ⟨hF1, hv1⟩
    · obtain ⟨a1, a2⟩ := ih o' ho
      obtain ⟨n1, n2, n3, n4⟩ := hE.nn _ _ _ he
      exact ⟨a1, a2.trans (leQ_add n1 n3)⟩
theorem SW.nodup (h : SW E g z F v c l x) : l.Nodup := by
  induction h with
  | nil hg hz => simp
  | cons he h hn hF1 hv1 ih => exact List.nodup_cons.mpr ⟨hn, ih⟩
theorem SW.bd (hE : Edges E cs) (h : SW E g z F v c l x) : 1 ≤ l.length ∧ z.1 ≤ x.1 ∧ z.2 ≤ x.2 ∧ x.1 ≤ z.1 + 999 * ((l.length : Int) - 1) ∧ x.2 ≤ z.2 + ((l.length : Int) - 1) := by
  induction h with
  | nil hg hz => simp
  | cons he h hn hF1 hv1 ih =>
    obtain ⟨n1, n2, n3, n4⟩ := hE.nn _ _ _ he
    simp only [List.length_cons, addP]
    omega
end
def wtP (F : List C) (v : C → Pc) (c : C) : Nat := if c ∈ F then ((v c).1 * 64 + (v c).2).toNat else 4091968
def muP (cs F : List C) (v : C → Pc) : Nat := (cs.map (wtP F v)).sum
theorem sumP_le {α : Type} {f g : α → Nat} : ∀ {cs : List α}, (∀ x ∈ cs, f x ≤ g x) → (cs.map f).sum ≤ (cs.map g).sum
  | [], _ => by simp
  | x :: cs, h => by
    have := sumP_le (cs := cs) fun y hy => h y (List.mem_cons_of_mem _ hy)
    have := h x List.mem_cons_self
    simp only [List.map_cons, List.sum_cons]
    omega
theorem sumP_lt {α : Type} {f g : α → Nat} : ∀ {cs : List α} {o : α}, (∀ x ∈ cs, f x ≤ g x) → o ∈ cs → f o < g o → (cs.map f).sum < (cs.map g).sum
  | x :: cs, o, h, ho, hl => by
    have h1 := sumP_le (cs := cs) fun y hy => h y (List.mem_cons_of_mem _ hy)
    have h2 := h x List.mem_cons_self
    simp only [List.map_cons, List.sum_cons]
    rcases List.mem_cons.mp ho with rfl | ho
    · omega
    · have := sumP_lt (cs := cs) (fun y hy => h y (List.mem_cons_of_mem _ hy)) ho hl
      omega
/-- the state of the search: pend: the cells whose steps are still to be looked at -/
structure PI (E : C → C → Option Pc) (g : C) (z : Pc) (cs F : List C) (v : C → Pc) (pend : C → Prop) : Prop where
  nd : F.Nodup
  sub : ∀ c ∈ F, c ∈ cs
  hg : g ∈ F
  sw : ∀ c ∈ F, ∃ l, SW E g z F v c l (v c)
  rel : ∀ c ∈ F, ¬ pend c → ∀ o i, E o c = some i → o ∈ F ∧ leQ (v o) (addP (v c) i)
def updP (v : C → Pc) (c : C) (d : Pc) : C → Pc := fun x => if x = c then d else v x
theorem nodup_len {l cs : List C} (hn : l.Nodup) (hs : ∀ c ∈ l, c ∈ cs) (hc : cs.Nodup) : l.length ≤ cs.length := by
  have p : l.Perm (cs.filter fun x => decide (x ∈ l)) := (List.perm_ext_iff_of_nodup hn (hc.filter _)).mpr fun x => by
    simp only [List.mem_filter, decide_eq_true_eq]
    exact ⟨fun hx => ⟨hs x hx, hx⟩, fun hx => hx.2⟩
  rw [p.length_eq]
  exact List.length_filter_le _ _
section
variable {E : C → C → Option Pc} {g : C} {z : Pc} {F cs : List C} {v : C → Pc} {pend : C → Prop} {c o : C} {i : Pc}
theorem PI.bd (I : PI E g z cs F v pend) (hE : Edges E cs) (hcs : cs.Nodup) (hl : cs.length ≤ 64) (hz : 0 ≤ z.1 ∧ z.1 ≤ 999 ∧ z.2 = 0) (hc : c ∈ F) : 0 ≤ (v c).1 ∧ (v c).1 ≤ 63936 ∧ 0 ≤ (v c).2 ∧ (v c).2 ≤ 63 := by
  obtain ⟨l, h⟩ := I.sw c hc
  obtain ⟨b1, b2, b3, b4, b5⟩ := h.bd hE
  have := nodup_len h.nodup (fun y hy => I.sub y (h.le hE y hy).1) hcs
  omega
theorem PI.pmono {pend' : C → Prop} (I : PI E g z cs F v pend) (h : ∀ x ∈ F, pend x → pend' x) : PI E g z cs F v pend' :=
  ⟨I.nd, I.sub, I.hg, I.sw, fun c hc hp => I.rel c hc fun q => hp (h c hc q)⟩
theorem PI.relax (I : PI E g z cs F v pend) (hE : Edges E cs) (hc : c ∈ F) (he : E o c = some i) (h : o ∉ F ∨ ltQ (addP (v c) i) (v o)) :
    PI E g z cs (addK F o) (updP v o (addP (v c) i)) (fun x => pend x ∨ x = o) := by
  have hoc : o ≠ c := hE.ne _ _ _ he
  have dn : ∀ x ∈ F, leQ (updP v o (addP (v c) i) x) (v x) := fun x hx => by
    unfold updP
    split
    · rename_i e
      subst e
      rcases h with h | h
      · exact absurd hx h
      · exact .of_lt h
    · exact .refl _
  have up : ∀ x ∈ F, x ∈ addK F o := fun x hx => mem_addK.mpr (.inl hx)
  have vo : updP v o (addP (v c) i) o = addP (v c) i := by simp [updP]
  refine ⟨addK_nodup I.nd, fun x hx => ?_, up _ I.hg, fun x hx => ?_, fun x hx hp o' i' he' => ?_⟩
  · rcases mem_addK.mp hx with q | q
    · exact I.sub x q
    · rw [q]; exact hE.inn _ _ _ he
  · by_cases e : x = o
    · subst e
      rw [vo]
      obtain ⟨l, hl⟩ := I.sw c hc
      refine ⟨x :: l, .cons he (hl.mono up dn) (fun q => ?_) (mem_addK.mpr (.inr rfl)) (by rw [vo]; exact .refl _)⟩
      obtain ⟨q1, q2⟩ := hl.le hE x q
      rcases h with h | h
      · exact h q1
      · obtain ⟨n1, n2, n3, n4⟩ := hE.nn _ _ _ he
        exact q2.trans (leQ_add n1 n3) h
    · rcases mem_addK.mp hx with q | q
      · obtain ⟨l, hl⟩ := I.sw x q
        have : updP v o (addP (v c) i) x = v x := by simp [updP, e]
        rw [this]
        exact ⟨l, hl.mono up dn⟩
      · exact absurd q e
  · have hxo : x ≠ o := fun e => hp (.inr e)
    have hxF : x ∈ F := (mem_addK.mp hx).resolve_right hxo
    obtain ⟨r1, r2⟩ := I.rel x hxF (fun q => hp (.inl q)) o' i' he'
    have : updP v o (addP (v c) i) x = v x := by simp [updP, hxo]
    rw [this]
    exact ⟨up _ r1, (dn _ r1).trans r2⟩
theorem PI.relax_mu (I : PI E g z cs F v pend) (hE : Edges E cs) (hcs : cs.Nodup) (hl : cs.length ≤ 64) (hz : 0 ≤ z.1 ∧ z.1 ≤ 999 ∧ z.2 = 0) (hc : c ∈ F) (he : E o c = some i) (h : o ∉ F ∨ ltQ (addP (v c) i) (v o)) :
    muP cs (addK F o) (updP v o (addP (v c) i)) < muP cs F v := by
  have I' := I.relax hE hc he h
  refine sumP_lt (o := o) (fun x hx => ?_) (hE.inn _ _ _ he) ?_
  · unfold wtP
    by_cases e : x = o
    · subst e
      have b := I'.bd hE hcs hl hz (c := x) (mem_addK.mpr (.inr rfl))
      simp only [mem_addK, or_true, if_true]
      simp only [updP, if_true] at b ⊢
      split
      · rename_i hF
        have b2 := I.bd hE hcs hl hz hF
        rcases h with h | h
        · exact absurd hF h
        · unfold ltQ at h; omega
      · omega
    · simp only [mem_addK, e, or_false, updP, if_false]
      exact Nat.le_refl _
  · unfold wtP
    have b := I'.bd hE hcs hl hz (c := o) (mem_addK.mpr (.inr rfl))
    simp only [mem_addK, or_true, if_true]
    simp only [updP, if_true] at b ⊢
    split
    · rename_i hF
      have b2 := I.bd hE hcs hl hz hF
      rcases h with h | h
      · exact absurd hF h
      · unfold ltQ at h; omega
    · omega
theorem muP_le (I : PI E g z cs F v pend) (hE : Edges E cs) (hcs : cs.Nodup) (hl : cs.length ≤ 64) (hz : 0 ≤ z.1 ∧ z.1 ≤ 999 ∧ z.2 = 0) : muP cs F v ≤ 261885952 := by
  have : (cs.map (wtP F v)).sum ≤ (cs.map fun _ => 4091968).sum := sumP_le fun x hx => by
    unfold wtP
    split
    · rename_i hF
      have := I.bd hE hcs hl hz hF
      omega
    · exact Nat.le_refl _
  have e : (cs.map fun _ => 4091968).sum = cs.length * 4091968 := by
    clear this hl I hcs hE
    induction cs with
    | nil => rfl
    | cons x cs ih => simp only [List.map_cons, List.sum_cons, List.length_cons, ih, Nat.succ_mul]; omega
  unfold muP
  rw [e] at this
  have := Nat.mul_le_mul_right 4091968 hl
  omega
end
/-- the least costs of all -/
structure Best (E : C → C → Option Pc) (g : C) (z : Pc) (cs F : List C) (v : C → Pc) : Prop where
  nd : F.Nodup
  sub : ∀ c ∈ F, c ∈ cs
  att : ∀ c ∈ F, Wk E g z c (v c)
  least : ∀ c x, Wk E g z c x → c ∈ F ∧ leQ (v c) x
section
variable {E E' : C → C → Option Pc} {g : C} {z : Pc} {F F' cs : List C} {v v' : C → Pc}
theorem PI.best (I : PI E g z cs F v fun _ => False) : Best E g z cs F v := by
  refine ⟨I.nd, I.sub, fun c hc => let ⟨_, h⟩ := I.sw c hc; h.wk, fun c x h => ?_⟩
  induction h with
  | nil =>
    obtain ⟨l, h⟩ := I.sw g I.hg
    exact h.gz
  | cons he h ih =>
    obtain ⟨r1, r2⟩ := I.rel _ ih.1 id _ _ he
    exact ⟨r1, r2.trans (leQ_mono ih.2)⟩
theorem Best.mem (B : Best E g z cs F v) (c : C) : c ∈ F ↔ ∃ x, Wk E g z c x := ⟨fun h => ⟨_, B.att c h⟩, fun ⟨x, h⟩ => (B.least c x h).1⟩
theorem Best.uniq (B : Best E g z cs F v) (B' : Best E g z cs F' v') {c : C} (h : c ∈ F) : c ∈ F' ∧ v' c = v c := by
  obtain ⟨h1, h2⟩ := B'.least c _ (B.att c h)
  exact ⟨h1, h2.antisymm (B.least c _ (B'.att c h1)).2⟩
/-- the best walk's first step -/
theorem Best.step (B : Best E g z cs F v) {c : C} (h : c ∈ F) : (c = g ∧ v c = z) ∨ ∃ o i, E c o = some i ∧ o ∈ F ∧ v c = addP (v o) i := by
  have := B.att c h
  generalize hx : v c = x at this
  cases this with
  | nil => exact .inl ⟨rfl, rfl⟩
  | cons he hw =>
    rename_i o x0 i
    obtain ⟨o1, o2⟩ := B.least o _ hw
    refine .inr ⟨o, i, he, o1, ?_⟩
    have h1 := (B.least c _ (.cons he (B.att o o1))).2
    rw [hx] at h1
    exact h1.antisymm (leQ_mono o2)
end
end Pk
/-! Spt1: prices_to. -/
namespace Pk
open PySem (Str)
theorem eCallC_ok {Lt : List (Nat × (List D → Fn))} {i j : Nat} {ms : List (M D)} {r r1 : Env} {s s1 : Sto} {caps ds : List D} {Lf : List D → Fn} {d : D} (h : r[i]? = some (.sh (.clo j caps))) (hj : Lt.lookup j = some Lf) (ha : eL ms r s = .ok ds r1 s1) (ho : s1.o = []) (hd : ds.all (D.dep 60) = true) (hc : caps.all (D.dep 60) = true) (hf : Lf caps ds s1 = .ok d s1) :
    eCallC Lt i ms r s = .ok d r1 s1 := by
  unfold eCallC
  simp only [h, hj, ha, R.bind_ok, lim_of ho, hd, hc, Bool.and_self, if_true, hf]
theorem e2_vw {p : D → D → Option D} {a c : M D} {r r1 r2 : Env} {s s1 s2 : Sto} {d e x : D} (h1 : a r s = .ok d r1 s1) (h2 : c r1 s1 = .ok e r2 s2) (h3 : p d e = some x) : e2 p (.v a) (.v c) r s = .ok x r2 s2 := by
  simp [e2, h1, h2, h3]
theorem dep_encC' (n : Nat) (c : C) : D.dep (n + 1) (encC c) = true := by simp [encC]
theorem sIf_true {c : M D} {a b : S} {r r1 : Env} {s s1 : Sto} (h : c r s = .ok (.bool true) r1 s1) : sIf c a b r s = a r1 s1 := by simp [h]
theorem sIf_false {c : M D} {a b : S} {r r1 : Env} {s s1 : Sto} (h : c r s = .ok (.bool false) r1 s1) : sIf c a b r s = b r1 s1 := by simp [h]
/-- the steps of a land by a price -/
noncomputable def eOf (h w : Nat) (P : C → C → Option Int) : C → C → Option Pc := fun o c => if lim (InL h w o ∧ InL h w c ∧ nearB c o = true) then (P o c).map fun m => (m, 1) else none
theorem eOf_some {h w : Nat} {P : C → C → Option Int} {o c : C} {i : Pc} : eOf h w P o c = some i ↔ (InL h w o ∧ InL h w c ∧ nearB c o = true) ∧ ∃ m, P o c = some m ∧ i = (m, 1) := by
  unfold eOf
  by_cases hl : InL h w o ∧ InL h w c ∧ nearB c o = true
  · rw [if_pos (lim_of hl)]
    cases P o c with
    | none => simp
    | some m => simp [hl, eq_comm]
  · rw [if_neg (fun q => hl (of_lim q))]
    simp [hl]
theorem nearB_irrefl (c : C) : nearB c c = false := by simp [nearB]
structure PrB (h w : Nat) (P : C → C → Option Int) : Prop where
  bd : ∀ o c m, InL h w o → InL h w c → P o c = some m → 0 ≤ m ∧ m ≤ 999
theorem PrB.edges {h w : Nat} {P : C → C → Option Int} (B : PrB h w P) : Edges (eOf h w P) (cellsL h w) := by
  refine ⟨fun o c i e => ?_, fun o c i e => ?_, fun o c i e q => ?_⟩
  · obtain ⟨⟨a, b, d⟩, m, hm, rfl⟩ := eOf_some.mp e
    have := B.bd o c m a b hm
    exact ⟨this.1, this.2, by simp, by simp⟩
  · exact mem_cellsL.mpr (eOf_some.mp e).1.1
  · have := (eOf_some.mp e).1.2.2
    rw [q, nearB_irrefl] at this
    cases this
theorem cells64 {h w : Nat} (hh : h ≤ 8) (hw : w ≤ 8) : (cellsL h w).length ≤ 64 := by
  rw [cellsL_len]
  have : h * w ≤ 8 * 8 := Nat.mul_le_mul hh hw
  omega
end Pk
/-! Spt2: prices_to, its loops. -/
namespace Pk
open PySem (Str)
/-- what a loop did -/
structure Gone (E : C → C → Option Pc) (cs F N : List C) (v : C → Pc) (F' N' : List C) (v' : C → Pc) : Prop where
  up : ∀ x ∈ F, x ∈ F' ∧ leQ (v' x) (v x)
  mu : muP cs F' v' ≤ muP cs F v
  lt : N' = N ∨ muP cs F' v' < muP cs F v
  nn : N.Nodup → N'.Nodup
  ns : (∀ x ∈ N, x ∈ F) → ∀ x ∈ N', x ∈ F'
theorem Gone.refl {E : C → C → Option Pc} {cs F N : List C} {v : C → Pc} : Gone E cs F N v F N v := ⟨fun x hx => ⟨hx, .refl _⟩, Nat.le_refl _, .inl rfl, id, fun h => h⟩
theorem Gone.trans {E : C → C → Option Pc} {cs F N F' N' F'' N'' : List C} {v v' v'' : C → Pc} (a : Gone E cs F N v F' N' v') (b : Gone E cs F' N' v' F'' N'' v'') : Gone E cs F N v F'' N'' v'' where
  up := fun x hx => ⟨(b.up x (a.up x hx).1).1, (b.up x (a.up x hx).1).2.trans (a.up x hx).2⟩
  mu := Nat.le_trans b.mu a.mu
  lt := by
    rcases b.lt with q | q
    · rcases a.lt with q' | q'
      · exact .inl (q.trans q')
      · exact .inr (Nat.lt_of_le_of_lt b.mu q')
    · exact .inr (Nat.lt_of_lt_of_le q a.mu)
  nn := fun h => b.nn (a.nn h)
  ns := fun h => b.ns (a.ns h)
end Pk
/-! Spt3: prices_to, its promise. -/
namespace Pk
open PySem (Str)
theorem whileL_sp {σ : Type} {c : M D} {b : S} {s : Sto} (enc : σ → Env) (I : σ → Prop) (μ : σ → Nat) (Qd : σ → Prop)
    (h : ∀ x, I x → (∃ y, c (enc x) s = .ok (.bool true) (enc x) s ∧ b (enc x) s = .ok .nx (enc y) s ∧ I y ∧ μ y < μ x) ∨ (c (enc x) s = .ok (.bool false) (enc x) s ∧ Qd x)) : ∀ (n : Nat) (x : σ), I x → μ x < n → ∃ y, whileL c b n (enc x) s = .ok .nx (enc y) s ∧ Qd y
  | 0, x, _, hm => by omega
  | n + 1, x, hI, hm => by
    rcases h x hI with ⟨y, h1, h2, h3, h4⟩ | ⟨h1, h2⟩
    · obtain ⟨u, e, q⟩ := whileL_sp enc I μ Qd h n y h3 (by omega)
      refine ⟨u, ?_, q⟩
      simp only [whileL, h1, h2, R.bind_ok]
      exact e
    · exact ⟨x, by simp only [whileL, h1, R.bind_ok], h2⟩
theorem sWhile_sp {σ : Type} {c : M D} {b : S} {s : Sto} (enc : σ → Env) (I : σ → Prop) (μ : σ → Nat) (Qd : σ → Prop) (x : σ) (hI : I x) (hm : μ x < 1000000000)
    (h : ∀ x, I x → (∃ y, c (enc x) s = .ok (.bool true) (enc x) s ∧ b (enc x) s = .ok .nx (enc y) s ∧ I y ∧ μ y < μ x) ∨ (c (enc x) s = .ok (.bool false) (enc x) s ∧ Qd x)) : ∃ y, sWhile c b (enc x) s = .ok .nx (enc y) s ∧ Qd y :=
  whileL_sp enc I μ Qd h WN x hI hm
structure PrSt where
  F : List C
  v : C → Pc
  V : List C
  z5 : Sl
  z6 : Sl
  z7 : Sl
  z8 : Sl
  z9 : Sl
end Pk
/-! Spt4: the prices; steps_by. -/
namespace Pk
open PySem (Str)
/-- the least cost, if there is a walk -/
def IsBest (E : C → C → Option Pc) (g : C) (z : Pc) (c : C) (x : Pc) : Prop := Wk E g z c x ∧ ∀ y, Wk E g z c y → leQ x y
theorem IsBest.uniq {E : C → C → Option Pc} {g : C} {z : Pc} {c : C} {x y : Pc} (h1 : IsBest E g z c x) (h2 : IsBest E g z c y) : x = y := (h1.2 y h2.1).antisymm (h2.2 x h1.1)
open Classical in
noncomputable def bestOf (E : C → C → Option Pc) (g : C) (z : Pc) (c : C) : Option Pc := if h : ∃ x, IsBest E g z c x then some h.choose else none
theorem bestOf_some {E : C → C → Option Pc} {g : C} {z : Pc} {c : C} {x : Pc} : bestOf E g z c = some x ↔ IsBest E g z c x := by
  unfold bestOf
  split
  · rename_i h
    constructor
    · intro e; cases e; exact h.choose_spec
    · intro e; rw [IsBest.uniq h.choose_spec e]
  · rename_i h
    constructor
    · intro e; cases e
    · intro e; exact absurd ⟨x, e⟩ h
section
variable {E : C → C → Option Pc} {g : C} {z : Pc} {cs F : List C} {v : C → Pc}
theorem Best.is (B : Best E g z cs F v) {c : C} (h : c ∈ F) : IsBest E g z c (v c) := ⟨B.att c h, fun y hy => (B.least c y hy).2⟩
theorem Best.of (B : Best E g z cs F v) (c : C) : bestOf E g z c = if c ∈ F then some (v c) else none := by
  by_cases h : c ∈ F
  · rw [if_pos h]; exact bestOf_some.mpr (B.is h)
  · rw [if_neg h]
    cases e : bestOf E g z c with
    | none => rfl
    | some x => exact absurd ((B.mem c).mpr ⟨x, (bestOf_some.mp e).1⟩) h
end
/-! ### prices -/
def slopeP (L : List (List Int)) (sl : Int) (o c : C) : Option Int := if (if hAt L o - hAt L c < 0 then -(hAt L o - hAt L c) else hAt L o - hAt L c) ≤ sl then some 0 else none
def climbP (L : List (List Int)) (o c : C) : Option Int := some (if hAt L c - hAt L o > 0 then hAt L c - hAt L o else 0)
def dryP (L : List (List Int)) (lv : Int) (o c : C) : Option Int := if lv ≤ (if hAt L c < hAt L o then hAt L c else hAt L o) then some 0 else none
section
variable {L : List (List Int)} {h w : Nat}
theorem hAt_bd (hL : Land L h w) {c : C} (hc : InL h w c) : 0 ≤ hAt L c ∧ hAt L c ≤ 999 := by
  obtain ⟨a, b, d, e⟩ := hc
  obtain ⟨_, g2⟩ := row_get hL a b
  have hl : c.1.toNat < L.length := by rw [hL.rows]; omega
  have e1 : rowAt L c.1 = L[c.1.toNat] := by simp [rowAt, List.getD, hl]
  have hl2 : c.2.toNat < (rowAt L c.1).length := by omega
  have : hAt L c = (rowAt L c.1)[c.2.toNat] := by
    unfold hAt
    rw [List.getD_eq_getElem?_getD, List.getElem?_eq_getElem hl2]
    rfl
  rw [this]
  refine hL.ht (rowAt L c.1) ?_ _ (List.getElem_mem hl2)
  rw [e1]
  exact List.getElem_mem hl
theorem climb_B (hL : Land L h w) : PrB h w (climbP L) := ⟨fun o c m ho hc e => by
  have := hAt_bd hL ho
  have := hAt_bd hL hc
  unfold climbP at e
  cases e
  split <;> omega⟩
end
section
variable {Lt : List (Nat × (List D → Fn))} {L : List (List Int)} {h w : Nat} {s : Sto}
theorem need_two_ok (hL : Land L h w) {one other : C} (h1 : InL h w one) (h2 : InL h w other) (s : Sto) : py_need_two [encL L, encC one, encC other] s = .ok .none s := by
  simp [py_need_two, bo_need_two, fnOf, startL, need_both_ok hL h1, need_cell_ok hL h2]
theorem Wk.ge {E : C → C → Option Pc} {g : C} {z : Pc} {cs : List C} (hE : Edges E cs) {c : C} {x : Pc} (hw : Wk E g z c x) : leQ z x := by
  induction hw with
  | nil => exact .refl _
  | cons he h ih =>
    obtain ⟨n1, n2, n3, n4⟩ := hE.nn _ _ _ he
    exact ih.trans (leQ_add n1 n3)
end
end Pk
/-! Spt7: _law_steps (by slopes), round by round. -/
namespace Pk
open PySem (Str)
theorem slopeP_some {L : List (List Int)} {sl : Int} {o c : C} {m : Int} : slopeP L sl o c = some m ↔ (if hAt L o - hAt L c < 0 then -(hAt L o - hAt L c) else hAt L o - hAt L c) ≤ sl ∧ m = 0 := by
  unfold slopeP
  by_cases h : (if hAt L o - hAt L c < 0 then -(hAt L o - hAt L c) else hAt L o - hAt L c) ≤ sl
  · rw [if_pos h]; simp [h, eq_comm]
  · rw [if_neg h]; simp [h]
theorem slopeP_comm (L : List (List Int)) (sl : Int) (o c : C) : slopeP L sl o c = slopeP L sl c o := by
  unfold slopeP
  have : (if hAt L o - hAt L c < 0 then -(hAt L o - hAt L c) else hAt L o - hAt L c) = (if hAt L c - hAt L o < 0 then -(hAt L c - hAt L o) else hAt L c - hAt L o) := by
    split <;> split <;> omega
  rw [this]
structure BI (E : C → C → Option Pc) (g : C) (cs F : List C) (v : C → Int) (n : Int) (pend : C → Prop) : Prop where
  nd : F.Nodup
  sub : ∀ c ∈ F, c ∈ cs
  hg : g ∈ F
  wk : ∀ c ∈ F, Wk E g (0, 0) c (0, v c)
  le : ∀ c ∈ F, v c ≤ n
  rel : ∀ c ∈ F, ¬ pend c → ∀ o i, E o c = some i → o ∈ F ∧ v o ≤ v c + 1
section
variable {L : List (List Int)} {h w : Nat} {g : C} {sl : Int} {s : Sto}
/-- what a loop did -/
structure GoneS (F N : List C) (v : C → Int) (n : Int) (F' N' : List C) (v' : C → Int) : Prop where
  ex : ∃ new : List C, F' = F ++ new ∧ N' = N ++ new ∧ ∀ x ∈ new, v' x = n
  same : ∀ x ∈ F, v' x = v x
theorem GoneS.refl {F N : List C} {v : C → Int} {n : Int} : GoneS F N v n F N v := ⟨⟨[], by simp, by simp, by simp⟩, fun _ _ => rfl⟩
theorem GoneS.trans {F N F' N' F'' N'' : List C} {v v' v'' : C → Int} {n : Int} (a : GoneS F N v n F' N' v') (b : GoneS F' N' v' n F'' N'' v'') : GoneS F N v n F'' N'' v'' := by
  obtain ⟨m1, e1, e2, e3⟩ := a.ex
  obtain ⟨m2, e4, e5, e6⟩ := b.ex
  refine ⟨⟨m1 ++ m2, by rw [e4, e1, List.append_assoc], by rw [e5, e2, List.append_assoc], fun x hx => ?_⟩, fun x hx => (b.same x (by rw [e1]; exact List.mem_append_left _ hx)).trans (a.same x hx)⟩
  rcases List.mem_append.mp hx with q | q
  · rw [b.same x (by rw [e1]; exact List.mem_append_right _ q)]; exact e3 x q
  · exact e6 x q
theorem GoneS.up {F N F' N' : List C} {v v' : C → Int} {n : Int} (a : GoneS F N v n F' N' v') {x : C} (hx : x ∈ F) : x ∈ F' := by
  obtain ⟨m1, e1, _⟩ := a.ex
  rw [e1]; exact List.mem_append_left _ hx
end
structure StSt where
  F : List C
  v : C → Int
  V : List C
  n : Int
  z6 : Sl
  z7 : Sl
  z8 : Sl
  z9 : Sl
theorem BI.best {E : C → C → Option Pc} {g : C} {cs F : List C} {v : C → Int} {n : Int} (I : BI E g cs F v n fun _ => False) (h1 : ∀ o c i, E o c = some i → i = (0, 1)) (hv0 : v g = 0) : Best E g (0, 0) cs F (fun c => (0, v c)) := by
  refine ⟨I.nd, I.sub, I.wk, fun c x hw => ?_⟩
  induction hw with
  | nil => exact ⟨I.hg, by rw [hv0]; exact .refl _⟩
  | cons he hw ih =>
    obtain ⟨r1, r2⟩ := I.rel _ ih.1 id _ _ he
    refine ⟨r1, ?_⟩
    have := h1 _ _ _ he
    subst this
    have i2 := ih.2
    simp only [leQ, ltQ, addP] at i2 ⊢
    omega
end Pk
/-! Spt8: least_steep. -/
namespace Pk
open PySem (Str)
section
variable {E : C → C → Option Pc} {g c o : C} {z x i : Pc}
theorem addP_comm3 (x i k : Pc) : addP (addP x i) k = addP (addP x k) i := by simp only [addP, Prod.mk.injEq]; omega
theorem Wk.snoc (hw : Wk E c z g x) (he : E c o = some i) : Wk E o z g (addP x i) := by
  induction hw with
  | nil => exact .cons he .nil
  | cons he' h ih =>
    rw [addP_comm3]
    exact .cons he' ih
theorem Wk.symm (hs : ∀ a b, E a b = E b a) (hw : Wk E g z c x) : Wk E c z g x := by
  induction hw with
  | nil => exact .nil
  | cons he h ih => exact ih.snoc (by rw [hs]; exact he)
end
section
variable {L : List (List Int)} {h w : Nat}
theorem eSlope_symm (sl : Int) (a b : C) : eOf h w (slopeP L sl) a b = eOf h w (slopeP L sl) b a := by
  unfold eOf
  rw [slopeP_comm L sl a b]
  have : (InL h w a ∧ InL h w b ∧ nearB b a = true) ↔ (InL h w b ∧ InL h w a ∧ nearB a b = true) := by
    rw [nearB_comm b a]
    exact ⟨fun ⟨p, q, r⟩ => ⟨q, p, r⟩, fun ⟨p, q, r⟩ => ⟨q, p, r⟩⟩
  rw [show lim (InL h w a ∧ InL h w b ∧ nearB b a = true) = lim (InL h w b ∧ InL h w a ∧ nearB a b = true) by rw [Bool.eq_iff_iff, lim_iff, lim_iff]; exact this]
/-- one comes there -/
def RcS (L : List (List Int)) (h w : Nat) (sl : Int) (a b : C) : Prop := ∃ x, Wk (eOf h w (slopeP L sl)) b (0, 0) a x
theorem RcS.mono {sl sl' : Int} (hs : sl ≤ sl') {a b : C} (hr : RcS L h w sl a b) : RcS L h w sl' a b := by
  obtain ⟨x, hw⟩ := hr
  induction hw with
  | nil => exact ⟨_, .nil⟩
  | cons he _ ih =>
    obtain ⟨y, hy⟩ := ih
    obtain ⟨q, m, hm, rfl⟩ := eOf_some.mp he
    obtain ⟨m1, m2⟩ := slopeP_some.mp hm
    exact ⟨_, .cons (eOf_some.mpr ⟨q, 0, slopeP_some.mpr ⟨Int.le_trans m1 hs, rfl⟩, rfl⟩) hy⟩
theorem RcS.top (hL : Land L h w) {a b : C} (ha : InL h w a) (hb : InL h w b) : RcS L h w 999 a b := by
  have r : RG h w (fun _ => true) b a := grid_conn (fun _ _ => rfl) hb ha
  induction r with
  | refl => exact ⟨_, .nil⟩
  | @step x y r hn hp ih =>
    have hx := RG.inL r hb
    obtain ⟨q, hq⟩ := ih hx
    have b1 := hAt_bd hL hx
    have b2 := hAt_bd hL hp.1
    exact ⟨_, .cons (eOf_some.mpr ⟨⟨hp.1, hx, hn⟩, 0, slopeP_some.mpr ⟨by split <;> omega, rfl⟩, rfl⟩) hq⟩
theorem RcS.symm {sl : Int} {a b : C} (h1 : RcS L h w sl a b) : RcS L h w sl b a := let ⟨x, q⟩ := h1; ⟨x, q.symm fun a b => eSlope_symm sl a b⟩
variable {Lt : List (Nat × (List D → Fn))} {s : Sto}
/-- the least slope -/
def IsSteep (L : List (List Int)) (h w : Nat) (a b : C) (v : Int) : Prop := 0 ≤ v ∧ v ≤ 999 ∧ RcS L h w v a b ∧ ∀ u, 0 ≤ u → u < v → ¬ RcS L h w u a b
theorem IsSteep.uniq {a b : C} {u v : Int} (h1 : IsSteep L h w a b u) (h2 : IsSteep L h w a b v) : u = v := by
  obtain ⟨a1, a2, a3, a4⟩ := h1
  obtain ⟨b1, b2, b3, b4⟩ := h2
  rcases Int.lt_trichotomy u v with q | q | q
  · exact absurd a3 (b4 u a1 q)
  · exact q
  · exact absurd b3 (a4 v b1 q)
theorem IsSteep.symm {a b : C} {u : Int} (h1 : IsSteep L h w a b u) : IsSteep L h w b a u := ⟨h1.1, h1.2.1, h1.2.2.1.symm, fun v hv hl q => h1.2.2.2 v hv hl q.symm⟩
theorem IsSteep.self (c : C) : IsSteep L h w c c 0 := ⟨Int.le_refl _, by omega, ⟨_, .nil⟩, fun u h1 h2 => by omega⟩
structure StpS where
  lo : Int
  hi : Int
  z5 : Sl
end
end Pk
/-! Spt9: next_cell, first_walk. -/
namespace Pk
open PySem (Str)
theorem pEq_encC (a b : C) : pEq (encC a) (encC b) = some (.bool (decide (a = b))) := by
  simp only [pEq, dep_encC, Bool.and_self, if_true, eqv_encC]
def nextB (P : C → C → Option Int) (F : List C) (v : C → Pc) (c o : C) : Bool := match P c o with
  | none => false
  | some m => decide (o ∈ F) && decide (addP (v o) (m, 1) = v c)
def nextC (h w : Nat) (P : C → C → Option Int) (F : List C) (v : C → Pc) (c : C) : C := ((besideL h w c).find? (nextB P F v c)).getD c
section
variable {Lt : List (Nat × (List D → Fn))} {L : List (List Int)} {h w : Nat} {g : C} {j : Nat} {caps : List D} {Lf : List D → Fn} {P : C → C → Option Int} {F : List C} {v : C → Pc} {s : Sto}
/-- the walk by the first neighbours that come nearer -/
inductive FW (h w : Nat) (P : C → C → Option Int) (F : List C) (v : C → Pc) : C → List C → Prop
  | stop {c : C} (hc : v c = (0, 0)) : FW h w P F v c [c]
  | go {c : C} {l : List C} (hc : v c ≠ (0, 0)) (hl : FW h w P F v (nextC h w P F v c) l) : FW h w P F v c (c :: l)
theorem next_spec (B : Best (eOf h w P) g (0, 0) (cellsL h w) F v) {c : C} (hc : c ∈ F) (hv : v c ≠ (0, 0)) : nextC h w P F v c ∈ besideL h w c ∧ nextC h w P F v c ∈ F ∧ ∃ m, P c (nextC h w P F v c) = some m ∧ v c = addP (v (nextC h w P F v c)) (m, 1) := by
  rcases B.step hc with ⟨rfl, e⟩ | ⟨o, i, he, ho, hvo⟩
  · exact absurd e hv
  · obtain ⟨⟨q1, q2, q3⟩, m, hm, rfl⟩ := eOf_some.mp he
    have hb : o ∈ besideL h w c := mem_besideL.mpr ⟨q2, by rw [nearB_comm]; exact q3⟩
    have hn : nextB P F v c o = true := by simp [nextB, hm, ho, hvo]
    unfold nextC
    cases hq : (besideL h w c).find? (nextB P F v c) with
    | none => exact absurd hn (by have := List.find?_eq_none.mp hq o hb; exact this)
    | some o' =>
      have h1 := List.mem_of_find?_eq_some hq
      have h2 := List.find?_some hq
      simp only [Option.getD_some]
      unfold nextB at h2
      cases hp : P c o' with
      | none => rw [hp] at h2; cases h2
      | some m' =>
        rw [hp] at h2
        simp only [Bool.and_eq_true, decide_eq_true_eq] at h2
        exact ⟨h1, h2.1, m', rfl, h2.2.symm⟩
theorem Best.bd2 (B : Best (eOf h w P) g (0, 0) (cellsL h w) F v) (hB : PrB h w P) {c : C} (hc : c ∈ F) : 0 ≤ (v c).1 ∧ 0 ≤ (v c).2 := by
  have := B.att c hc
  generalize v c = x at this
  clear hc
  induction this with
  | nil => simp
  | cons he _ ih =>
    obtain ⟨n1, n2, n3, n4⟩ := hB.edges.nn _ _ _ he
    simp only [addP]
    omega
theorem FW.ex (B : Best (eOf h w P) g (0, 0) (cellsL h w) F v) (hB : PrB h w P) : ∀ (n : Nat) {c : C}, c ∈ F → (v c).2.toNat = n → ∃ l, FW h w P F v c l
  | n, c, hc, hn => by
    by_cases hv : v c = (0, 0)
    · exact ⟨_, .stop hv⟩
    · obtain ⟨_, h2, m, hm, e⟩ := next_spec B hc hv
      have b1 := B.bd2 hB hc
      have b2 := B.bd2 hB h2
      have e2 : (v c).2 = (v (nextC h w P F v c)).2 + 1 := by rw [e]; rfl
      obtain ⟨l, hl⟩ := FW.ex B hB (v (nextC h w P F v c)).2.toNat h2 rfl
      exact ⟨_, .go hv hl⟩
  termination_by n => n
  decreasing_by omega
structure FwS where
  pre : List C
  c : C
end
end Pk
/-! Spta: climbs. -/
namespace Pk
open PySem (Str)
def m0 (x : Int) : Int := if x > 0 then x else 0
theorem climbP_m0 (L : List (List Int)) (o c : C) : climbP L o c = some (m0 (hAt L c - hAt L o)) := rfl
section
variable {L : List (List Int)} {h w : Nat}
theorem eClimb {o c : C} {i : Pc} : eOf h w (climbP L) o c = some i ↔ (InL h w o ∧ InL h w c ∧ nearB c o = true) ∧ i = (m0 (hAt L c - hAt L o), 1) := by
  rw [eOf_some, climbP_m0]
  exact ⟨fun ⟨a, m, e, b⟩ => ⟨a, by cases e; exact b⟩, fun ⟨a, b⟩ => ⟨a, _, rfl, b⟩⟩
/-- led back -/
theorem Wk.back {g c : C} {x : Pc} (hw : Wk (eOf h w (climbP L)) g (0, 0) c x) : Wk (eOf h w (climbP L)) c (0, 0) g (x.1 - (hAt L g - hAt L c), x.2) := by
  induction hw with
  | nil => simpa using Wk.nil
  | @cons o c x i he hw ih =>
    obtain ⟨⟨q1, q2, q3⟩, rfl⟩ := eClimb.mp he
    have := ih.snoc (eClimb.mpr ⟨⟨q2, q1, by rw [nearB_comm]; exact q3⟩, rfl⟩)
    have e : addP (x.1 - (hAt L g - hAt L c), x.2) (m0 (hAt L o - hAt L c), 1) = ((addP x (m0 (hAt L c - hAt L o), 1)).1 - (hAt L g - hAt L o), (addP x (m0 (hAt L c - hAt L o), 1)).2) := by
      simp only [addP, m0, Prod.mk.injEq, and_true]
      split <;> split <;> omega
    rw [e] at this
    exact this
/-- the least climb of all walks -/
def IsClimb (L : List (List Int)) (h w : Nat) (one other : C) (a : Int) : Prop := (∃ k, Wk (eOf h w (climbP L)) other (0, 0) one (a, k)) ∧ ∀ b k, Wk (eOf h w (climbP L)) other (0, 0) one (b, k) → a ≤ b
theorem IsClimb.uniq {one other : C} {a b : Int} (h1 : IsClimb L h w one other a) (h2 : IsClimb L h w one other b) : a = b := by
  obtain ⟨⟨k, p⟩, q⟩ := h1
  obtain ⟨⟨k', p'⟩, q'⟩ := h2
  have := q _ _ p'
  have := q' _ _ p
  omega
theorem IsClimb.back {one other : C} {a : Int} (h1 : IsClimb L h w one other a) : IsClimb L h w other one (a - (hAt L other - hAt L one)) := by
  obtain ⟨⟨k, p⟩, q⟩ := h1
  refine ⟨⟨k, p.back⟩, fun b k' hb => ?_⟩
  have := q _ _ hb.back
  simp only at this
  omega
variable {Lt : List (Nat × (List D → Fn))} {s : Sto}
theorem IsClimb.self (c : C) (hL : Land L h w) : IsClimb L h w c c 0 := by
  refine ⟨⟨0, .nil⟩, fun b k hb => ?_⟩
  have := hb.ge (climb_B hL).edges
  simp only [leQ, ltQ] at this
  omega
/-! ### the walk -/
/-- a walk by first neighbours, as a walk -/
structure FWk (h w : Nat) (P : C → C → Option Int) (g c : C) (x : Pc) (W : List C) : Prop where
  ok : WalkOk h w W
  hd : W.head? = some c
  ls : W.getLast? = some g
  ln : (W.length : Int) = x.2 + 1
theorem chain_cons {a b : C} {l : List C} : chainB (a :: b :: l) = (nearB a b && chainB (b :: l)) := by simp [chainB, prs]
theorem FW.walk {P : C → C → Option Int} {g : C} {F : List C} {v : C → Pc} (B : Best (eOf h w P) g (0, 0) (cellsL h w) F v) (hB : PrB h w P) {c : C} {W : List C} (hf : FW h w P F v c W) (hc : c ∈ F) : FWk h w P g c (v c) W := by
  induction hf with
  | @stop c hv =>
    have hcg : c = g := by
      rcases B.step hc with ⟨rfl, _⟩ | ⟨o, i, he, ho, e⟩
      · rfl
      · obtain ⟨_, m, hm, rfl⟩ := eOf_some.mp he
        have := B.bd2 hB ho
        rw [hv] at e
        have := congrArg Prod.snd e
        simp only [addP] at this
        omega
    subst hcg
    exact ⟨⟨by simp, fun x hx => by rw [List.mem_singleton.mp hx]; exact mem_cellsL.mp (B.sub _ hc), by simp [chainB, prs]⟩, rfl, rfl, by rw [hv]; simp⟩
  | @go c l hv hl ih =>
    obtain ⟨n1, n2, m, hm, e⟩ := next_spec B hc hv
    have I := ih n2
    obtain ⟨b, t, rfl⟩ : ∃ b t, l = b :: t := by
      cases l with
      | nil => exact absurd rfl I.ok.ne
      | cons b t => exact ⟨b, t, rfl⟩
    have hb : b = nextC h w P F v c := by simpa using I.hd
    refine ⟨⟨by simp, fun x hx => ?_, ?_⟩, rfl, ?_, ?_⟩
    · rcases List.mem_cons.mp hx with rfl | hx
      · exact mem_cellsL.mp (B.sub _ hc)
      · exact I.ok.cells x hx
    · rw [chain_cons, I.ok.near, hb, (mem_besideL.mp n1).2]
      rfl
    · rw [List.getLast?_cons_cons]
      exact I.ls
    · have l1 := I.ln
      have : (v c).2 = (v (nextC h w P F v c)).2 + 1 := by rw [e]; rfl
      rw [List.length_cons]
      omega
end
end Pk
/-! Spt5: earth_for. -/
namespace Pk
open PySem (Str)
/-- the steps of a land by a price of cells -/
noncomputable def eEa (h w : Nat) (p : C → Int) : C → C → Option Pc := fun o c => if lim (InL h w o ∧ InL h w c ∧ nearB c o = true) then some (p o, 0) else none
theorem eEa_some {h w : Nat} {p : C → Int} {o c : C} {i : Pc} : eEa h w p o c = some i ↔ (InL h w o ∧ InL h w c ∧ nearB c o = true) ∧ i = (p o, 0) := by
  unfold eEa
  by_cases hl : InL h w o ∧ InL h w c ∧ nearB c o = true
  · rw [if_pos (lim_of hl)]
    simp [hl, eq_comm]
  · rw [if_neg (fun q => hl (of_lim q))]
    simp [hl]
structure PeB (h w : Nat) (p : C → Int) : Prop where
  bd : ∀ c, InL h w c → 0 ≤ p c ∧ p c ≤ 999
theorem PeB.edges {h w : Nat} {p : C → Int} (B : PeB h w p) : Edges (eEa h w p) (cellsL h w) := by
  refine ⟨fun o c i e => ?_, fun o c i e => ?_, fun o c i e q => ?_⟩
  · obtain ⟨⟨a, b, d⟩, rfl⟩ := eEa_some.mp e
    have := B.bd o a
    exact ⟨this.1, this.2, by simp, by simp⟩
  · exact mem_cellsL.mpr (eEa_some.mp e).1.1
  · have := (eEa_some.mp e).1.2.2
    rw [q, nearB_irrefl] at this
    cases this
theorem Wk.snd {h w : Nat} {p : C → Int} {g : C} {z x : Pc} {c : C} (hw : Wk (eEa h w p) g z c x) : x.2 = z.2 := by
  induction hw with
  | nil => rfl
  | cons he h ih =>
    obtain ⟨_, rfl⟩ := eEa_some.mp he
    simp [addP, ih]
abbrev vE (v : C → Pc) : C → D := fun c => .int (v c).1
theorem vE_upd (v : C → Pc) (c : C) (x : Pc) : updC (vE v) c (.int x.1) = vE (updP v c x) := by
  funext y
  simp only [updC, vE, updP]
  split <;> rfl
abbrev Eea (L : List (List Int)) (g : C) (t cl : D) (F : List C) (v : C → Pc) (z5 : Sl) (N : List C) (z7 z8 z9 : Sl) : Env :=
  [.sh (encL L), .sh (encC g), .sh t, .sh cl, .ow (dC F (vE v)), z5, .ow (dC N Tr), z7, z8, z9]
section
variable {Lt : List (Nat × (List D → Fn))} {L : List (List Int)} {h w : Nat} {g : C} {t : D} {j : Nat} {caps : List D} {Lf : List D → Fn} {p : C → Int} {s : Sto}
theorem ea_step (hj : Lt.lookup j = some Lf) (hcap : caps.all (D.dep 60) = true) (hs : s.o = []) {F N : List C} {v : C → Pc} {c o : C} (hc : c ∈ F) (hP : Lf caps [encC o] s = .ok (.int (p o)) s) (h0 : (v c).2 = 0) (h1 : o ∈ F → (v o).2 = 0) (hF : F.length ≤ 100) (hN : N.length ≤ 100) (z5 z9 : Sl) :
    ∃ z9', fo_earth_for_0 Lt (Eea L g t (.clo j caps) F v z5 N (.sh (encC c)) (.sh (encC o)) z9) s =
      .ok .nx (if o ∉ F ∨ ltQ (addP (v c) (p o, 0)) (v o) then Eea L g t (.clo j caps) (addK F o) (updP v o (addP (v c) (p o, 0))) z5 (addK N o) (.sh (encC c)) (.sh (encC o)) z9'
          else Eea L g t (.clo j caps) F v z5 N (.sh (encC c)) (.sh (encC o)) z9') s := by
  have q0 : eCallC Lt 3 [(eV 8)] (Eea L g t (.clo j caps) F v z5 N (.sh (encC c)) (.sh (encC o)) z9) s = .ok (.int (p o)) (Eea L g t (.clo j caps) F v z5 N (.sh (encC c)) (.sh (encC o)) z9) s :=
    eCallC_ok (j := j) (caps := caps) rfl hj (ds := [encC o]) (by simp [Eea]) hs (by simp [dep_encC']) hcap hP
  have g1 := pIxD_C (vE v) hc
  refine ⟨.sh (.int (addP (v c) (p o, 0)).1), ?_⟩
  unfold fo_earth_for_0
  rw [sSeq_nx' (r1 := Eea L g t (.clo j caps) F v z5 N (.sh (encC c)) (.sh (encC o)) (.sh (.int (addP (v c) (p o, 0)).1))) (s1 := s) (by
    have q1 : e2 pIxD (.b 4) (.v (eV 7)) (Eea L g t (.clo j caps) F v z5 N (.sh (encC c)) (.sh (encC o)) z9) s = .ok (.int (v c).1) (Eea L g t (.clo j caps) F v z5 N (.sh (encC c)) (.sh (encC o)) z9) s := by simp [Eea, g1, vE]
    have q2 : e2 pAdd (.v (e2 pIxD (.b 4) (.v (eV 7)))) (.v (eCallC Lt 3 [(eV 8)])) (Eea L g t (.clo j caps) F v z5 N (.sh (encC c)) (.sh (encC o)) z9) s = .ok (.int ((v c).1 + p o)) (Eea L g t (.clo j caps) F v z5 N (.sh (encC c)) (.sh (encC o)) z9) s := by
      exact e2_vw q1 q0 (by simp)
    simp only [sSet, q2, R.bind_ok]
    rfl)]
  have q3 : (eOr (e2 pNotInD (.v (eV 8)) (.b 4)) (e2 pLt (.v (eV 9)) (.v (e2 pIxD (.b 4) (.v (eV 8)))))) (Eea L g t (.clo j caps) F v z5 N (.sh (encC c)) (.sh (encC o)) (.sh (.int (addP (v c) (p o, 0)).1))) s = .ok (.bool (decide (o ∉ F ∨ ltQ (addP (v c) (p o, 0)) (v o)))) (Eea L g t (.clo j caps) F v z5 N (.sh (encC c)) (.sh (encC o)) (.sh (.int (addP (v c) (p o, 0)).1))) s := by
    by_cases ho : o ∈ F
    · have g2 := pIxD_C (vE v) ho
      have : ltQ (addP (v c) (p o, 0)) (v o) ↔ (addP (v c) (p o, 0)).1 < (v o).1 := by
        have := h1 ho
        simp only [ltQ, addP]
        omega
      simp [Eea, pNotInD_C, ho, g2, vE, this]
    · simp [Eea, pNotInD_C, ho]
  by_cases hcond : o ∉ F ∨ ltQ (addP (v c) (p o, 0)) (v o)
  · rw [if_pos hcond]
    rw [decide_eq_true hcond] at q3
    rw [sIf_true q3]
    have p1 := sPutD_C (i := 4) (mk := eV 8) (mv := eV 9) (r := Eea L g t (.clo j caps) F v z5 N (.sh (encC c)) (.sh (encC o)) (.sh (.int (addP (v c) (p o, 0)).1))) (r1 := Eea L g t (.clo j caps) F v z5 N (.sh (encC c)) (.sh (encC o)) (.sh (.int (addP (v c) (p o, 0)).1))) (r2 := Eea L g t (.clo j caps) F v z5 N (.sh (encC c)) (.sh (encC o)) (.sh (.int (addP (v c) (p o, 0)).1))) (s := s) (s1 := s) (s2 := s) (F := F) (G := F) (u := vE v) (v := vE v) (c := o) (d := .int (addP (v c) (p o, 0)).1) (by simp [Eea]) rfl (by simp [Eea]) rfl (by omega)
    rw [vE_upd] at p1
    rw [sSeq_nx' (r1 := Eea L g t (.clo j caps) (addK F o) (updP v o (addP (v c) (p o, 0))) z5 N (.sh (encC c)) (.sh (encC o)) (.sh (.int (addP (v c) (p o, 0)).1))) (s1 := s) (by rw [p1]; rfl)]
    have p2 := sPutD_C (i := 6) (mk := eV 8) (mv := eC (.bool true)) (r := Eea L g t (.clo j caps) (addK F o) (updP v o (addP (v c) (p o, 0))) z5 N (.sh (encC c)) (.sh (encC o)) (.sh (.int (addP (v c) (p o, 0)).1))) (r1 := Eea L g t (.clo j caps) (addK F o) (updP v o (addP (v c) (p o, 0))) z5 N (.sh (encC c)) (.sh (encC o)) (.sh (.int (addP (v c) (p o, 0)).1))) (r2 := Eea L g t (.clo j caps) (addK F o) (updP v o (addP (v c) (p o, 0))) z5 N (.sh (encC c)) (.sh (encC o)) (.sh (.int (addP (v c) (p o, 0)).1))) (s := s) (s1 := s) (s2 := s) (F := N) (G := N) (u := Tr) (v := Tr) (c := o) (d := .bool true) rfl rfl (by simp [Eea]) rfl (by omega)
    rw [Tr_upd] at p2
    rw [p2]
    rfl
  · rw [if_neg hcond]
    rw [decide_eq_false hcond] at q3
    rw [sIf_false q3]
    rfl
theorem ea_inner (hL : Land L h w) (hj : Lt.lookup j = some Lf) (hcap : caps.all (D.dep 60) = true) (hs : s.o = []) (B : PeB h w p) (hg : InL h w g) (hP : ∀ o, InL h w o → Lf caps [encC o] s = .ok (.int (p o)) s) {c : C} (hcL : InL h w c) {pe : C → Prop} (z5 : Sl) :
    ∀ (Ns F N : List C) (v : C → Pc) (z8 z9 : Sl), (∀ o ∈ Ns, o ∈ besideL h w c) → c ∈ F → N.Nodup → (∀ x ∈ N, x ∈ F) → PI (eEa h w p) g (p g, 0) (cellsL h w) F v (fun x => pe x ∨ x ∈ N) →
    ∃ F' N' v' z8' z9', forL (.n 8) (fo_earth_for_0 Lt) (Ns.map encC) (Eea L g t (.clo j caps) F v z5 N (.sh (encC c)) z8 z9) s = .ok .nx (Eea L g t (.clo j caps) F' v' z5 N' (.sh (encC c)) z8' z9') s ∧
      PI (eEa h w p) g (p g, 0) (cellsL h w) F' v' (fun x => pe x ∨ x ∈ N') ∧ Gone (eEa h w p) (cellsL h w) F N v F' N' v' ∧ v' c = v c ∧ ∀ o ∈ Ns, ∀ i, eEa h w p o c = some i → o ∈ F' ∧ leQ (v' o) (addP (v c) i)
  | [], F, N, v, z8, z9, _, hc, hn, hsub, I => ⟨F, N, v, z8, z9, rfl, I, .refl, rfl, by simp⟩
  | o :: Ns, F, N, v, z8, z9, hb, hc, hn, hsub, I => by
    obtain ⟨ho1, ho2⟩ := mem_besideL.mp (hb o List.mem_cons_self)
    have hE := B.edges
    have c64 := cells64 hL.hr.2 hL.hw.2
    have hz0 : 0 ≤ (p g, (0 : Int)).1 ∧ (p g, (0 : Int)).1 ≤ 999 ∧ (p g, (0 : Int)).2 = 0 := ⟨(B.bd g hg).1, (B.bd g hg).2, rfl⟩
    have hF64 := few hL.hr.2 hL.hw.2 I.nd fun y hy => mem_cellsL.mp (I.sub y hy)
    have hN64 := few hL.hr.2 hL.hw.2 hn fun y hy => mem_cellsL.mp (I.sub y (hsub y hy))
    have s0 : ∀ x ∈ F, (v x).2 = 0 := fun x hx => let ⟨_, hsw⟩ := I.sw x hx; hsw.wk.snd
    obtain ⟨z9', e⟩ := ea_step (Lt := Lt) (L := L) (g := g) (t := t) (p := p) (v := v) (N := N) hj hcap hs hc (hP o ho1) (s0 c hc) (s0 o) (by omega) (by omega) z5 z9
    have hoc : o ≠ c := fun q => by rw [q, nearB_irrefl] at ho2; cases ho2
    have stp : ∃ F1 N1 v1, fo_earth_for_0 Lt (Eea L g t (.clo j caps) F v z5 N (.sh (encC c)) (.sh (encC o)) z9) s = .ok .nx (Eea L g t (.clo j caps) F1 v1 z5 N1 (.sh (encC c)) (.sh (encC o)) z9') s ∧
        PI (eEa h w p) g (p g, 0) (cellsL h w) F1 v1 (fun x => pe x ∨ x ∈ N1) ∧ Gone (eEa h w p) (cellsL h w) F N v F1 N1 v1 ∧ v1 c = v c ∧ ∀ i, eEa h w p o c = some i → o ∈ F1 ∧ leQ (v1 o) (addP (v c) i) := by
      have hi : eEa h w p o c = some (p o, 0) := eEa_some.mpr ⟨⟨ho1, hcL, ho2⟩, rfl⟩
      by_cases hcond : o ∉ F ∨ ltQ (addP (v c) (p o, 0)) (v o)
      · rw [if_pos hcond] at e
        have I1 := I.relax hE hc hi hcond
        have vo : updP v o (addP (v c) (p o, 0)) o = addP (v c) (p o, 0) := by simp [updP]
        refine ⟨_, _, _, e, I1.pmono fun x _ q => ?_, ⟨fun x hx => ⟨mem_addK.mpr (.inl hx), ?_⟩, Nat.le_of_lt (I.relax_mu hE (cellsL_nodup h w) c64 hz0 hc hi hcond), .inr (I.relax_mu hE (cellsL_nodup h w) c64 hz0 hc hi hcond), fun q => addK_nodup q, fun q x hx => ?_⟩, by simp [updP, Ne.symm hoc], fun i hi' => ?_⟩
        · rcases q with (q | q) | q
          · exact .inl q
          · exact .inr (mem_addK.mpr (.inl q))
          · exact .inr (mem_addK.mpr (.inr q))
        · unfold updP
          split
          · rename_i e2
            subst e2
            rcases hcond with q | q
            · exact absurd hx q
            · exact .of_lt q
          · exact .refl _
        · rcases mem_addK.mp hx with q' | q'
          · exact mem_addK.mpr (.inl (q x q'))
          · exact mem_addK.mpr (.inr q')
        · rw [hi] at hi'
          cases hi'
          rw [vo]
          exact ⟨mem_addK.mpr (.inr rfl), .refl _⟩
      · rw [if_neg hcond] at e
        refine ⟨F, N, v, e, I, .refl, rfl, fun i hi' => ?_⟩
        rw [hi] at hi'
        cases hi'
        exact ⟨Classical.byContradiction fun q => hcond (.inl q), fun q => hcond (.inr q)⟩
    obtain ⟨F1, N1, v1, e1, I1, G1, hv1, r1⟩ := stp
    obtain ⟨F2, N2, v2, y8, y9, e2, I2, G2, hv2, r2⟩ := ea_inner hL hj hcap hs B hg hP hcL z5 Ns F1 N1 v1 (.sh (encC o)) z9' (fun y hy => hb y (List.mem_cons_of_mem _ hy)) (G1.up c hc).1 (G1.nn hn) (G1.ns hsub) I1
    refine ⟨F2, N2, v2, y8, y9, ?_, I2, G1.trans G2, hv2.trans hv1, fun y hy i hi => ?_⟩
    · rw [List.map_cons, forL]
      simp only [setT_n]
      show ((fo_earth_for_0 Lt (Eea L g t (.clo j caps) F v z5 N (.sh (encC c)) (.sh (encC o)) z9) s).bind _) = _
      rw [e1, R.bind_ok]
      exact e2
    · rcases List.mem_cons.mp hy with rfl | hy
      · obtain ⟨q1, q2⟩ := r1 i hi
        exact ⟨(G2.up _ q1).1, (G2.up _ q1).2.trans q2⟩
      · have := r2 y hy i hi
        rw [hv1] at this
        exact this
theorem ea_round (hL : Land L h w) (hj : Lt.lookup j = some Lf) (hcap : caps.all (D.dep 60) = true) (hs : s.o = []) (B : PeB h w p) (hg : InL h w g) (hP : ∀ o, InL h w o → Lf caps [encC o] s = .ok (.int (p o)) s) (z5 : Sl) :
    ∀ (Q F N : List C) (v : C → Pc) (z7 z8 z9 : Sl), (∀ x ∈ Q, x ∈ F) → N.Nodup → (∀ x ∈ N, x ∈ F) → PI (eEa h w p) g (p g, 0) (cellsL h w) F v (fun x => x ∈ Q ∨ x ∈ N) →
    ∃ F' N' v' z7' z8' z9', forL (.n 7) (fo_earth_for_1 Lt) (Q.map encC) (Eea L g t (.clo j caps) F v z5 N z7 z8 z9) s = .ok .nx (Eea L g t (.clo j caps) F' v' z5 N' z7' z8' z9') s ∧
      PI (eEa h w p) g (p g, 0) (cellsL h w) F' v' (fun x => x ∈ N') ∧ Gone (eEa h w p) (cellsL h w) F N v F' N' v'
  | [], F, N, v, z7, z8, z9, hR, hn, hsub, I => ⟨F, N, v, z7, z8, z9, rfl, I.pmono fun x _ q => q.elim (fun q => by cases q) id, .refl⟩
  | c :: Q, F, N, v, z7, z8, z9, hR, hn, hsub, I => by
    have hc := hR c List.mem_cons_self
    have hcL := mem_cellsL.mp (I.sub c hc)
    obtain ⟨F1, N1, v1, y8, y9, e1, I1, G1, hv1, r1⟩ := ea_inner (t := t) hL hj hcap hs B hg hP hcL z5 (besideL h w c) F N v z8 z9 (fun _ q => q) hc hn hsub I
    have I1' : PI (eEa h w p) g (p g, 0) (cellsL h w) F1 v1 (fun x => x ∈ Q ∨ x ∈ N1) := ⟨I1.nd, I1.sub, I1.hg, I1.sw, fun x hx hp o i hi => by
      by_cases e : x = c
      · subst e
        obtain ⟨⟨q1, q2, q3⟩, _⟩ := eEa_some.mp hi
        have := r1 o (mem_besideL.mpr ⟨q1, q3⟩) i hi
        rw [← hv1] at this
        exact this
      · refine I1.rel x hx (fun q => hp ?_) o i hi
        rcases q with q | q
        · rcases List.mem_cons.mp q with q | q
          · exact absurd q e
          · exact .inl q
        · exact .inr q⟩
    obtain ⟨F2, N2, v2, x7, x8, x9, e2, I2, G2⟩ := ea_round hL hj hcap hs B hg hP z5 Q F1 N1 v1 (.sh (encC c)) y8 y9 (fun x hx => (G1.up x (hR x (List.mem_cons_of_mem _ hx))).1) (G1.nn hn) (G1.ns hsub) I1'
    refine ⟨F2, N2, v2, x7, x8, x9, ?_, I2, G1.trans G2⟩
    rw [List.map_cons, forL]
    simp only [setT_n]
    have b1 : fo_earth_for_1 Lt (Eea L g t (.clo j caps) F v z5 N (.sh (encC c)) z8 z9) s = .ok .nx (Eea L g t (.clo j caps) F1 v1 z5 N1 (.sh (encC c)) y8 y9) s := by
      unfold fo_earth_for_1
      rw [← e1]
      simp [Eea, beside_of_ok hL]
    show ((fo_earth_for_1 Lt (Eea L g t (.clo j caps) F v z5 N (.sh (encC c)) z8 z9) s).bind _) = _
    rw [b1, Pk.R.bind_ok]
    exact e2
end
structure EaSt where
  F : List C
  v : C → Pc
  V : List C
  z6 : Sl
  z7 : Sl
  z8 : Sl
  z9 : Sl
abbrev Ewe (L : List (List Int)) (g : C) (t cl : D) (x : EaSt) : Env := [.sh (encL L), .sh (encC g), .sh t, .sh cl, .ow (dC x.F (vE x.v)), .sh (.lst (x.V.map encC)), x.z6, x.z7, x.z8, x.z9]
section
variable {Lt : List (Nat × (List D → Fn))} {L : List (List Int)} {h w : Nat} {g t : C} {j : Nat} {caps : List D} {Lf : List D → Fn} {p : C → Int} {s : Sto}
/-- what a walk's cells cost together at least -/
noncomputable def earthN (h w : Nat) (p : C → Int) (one other : C) : Int := ((bestOf (eEa h w p) one (p one, 0) other).getD (0, 0)).1
theorem Wk.reach {h w : Nat} {p : C → Int} {z : Pc} {a c : C} (r : RG h w (fun _ => true) a c) (ha : InL h w a) : ∃ x, Wk (eEa h w p) a z c x := by
  induction r with
  | refl => exact ⟨_, .nil⟩
  | @step x y r hn hp ih =>
    obtain ⟨q, hq⟩ := ih
    exact ⟨_, .cons (eEa_some.mpr ⟨⟨hp.1, RG.inL r ha, hn⟩, rfl⟩) hq⟩
theorem earth_for_ok (hL : Land L h w) (hg : InL h w g) (ht : InL h w t) (hj : Lt.lookup j = some Lf) (hcap : caps.all (D.dep 60) = true) (hs : s.o = []) (B : PeB h w p) (hP : ∀ o, InL h w o → Lf caps [encC o] s = .ok (.int (p o)) s) :
    py_earth_for Lt [encL L, encC g, encC t, .clo j caps] s = .ok (.int (earthN h w p g t)) s ∧ ∃ k, IsBest (eEa h w p) g (p g, 0) t (earthN h w p g t, k) := by
  have hE := B.edges
  have c64 := cells64 hL.hr.2 hL.hw.2
  have hz0 : 0 ≤ (p g, (0 : Int)).1 ∧ (p g, (0 : Int)).1 ≤ 999 ∧ (p g, (0 : Int)).2 = 0 := ⟨(B.bd g hg).1, (B.bd g hg).2, rfl⟩
  obtain ⟨y, e, I⟩ := sWhile_sp (c := e2 pNe (.v (eV 5)) (.v (eLst []))) (b := sSeq (sSet true 6 eDct0) (sSeq (sFor (iOf (eV 5)) (.n 7) (fo_earth_for_1 Lt)) (sSet false 5 (e1 pSorted (.v (e1 pLstD (.b 6))))))) (s := s)
    (Ewe L g (encC t) (.clo j caps)) (fun x => PI (eEa h w p) g (p g, 0) (cellsL h w) x.F x.v (fun y => y ∈ x.V) ∧ ∀ y ∈ x.V, y ∈ x.F) (fun x => 2 * muP (cellsL h w) x.F x.v + x.V.length.min 1) (fun x => PI (eEa h w p) g (p g, 0) (cellsL h w) x.F x.v (fun _ => False))
    ⟨[g], fun _ => (p g, 0), [g], .no, .no, .no, .no⟩ (by
      refine ⟨⟨by simp, fun x hx => ?_, by simp, fun x hx => ?_, fun x hx hp => absurd hx hp⟩, fun x hx => hx⟩
      · rw [List.mem_singleton.mp hx]; exact mem_cellsL.mpr hg
      · rw [List.mem_singleton.mp hx]
        exact ⟨[g], .nil (by simp) (.refl _)⟩) (by
      have : muP (cellsL h w) [g] (fun _ => (p g, 0)) ≤ 261885952 := by
        have I0 : PI (eEa h w p) g (p g, 0) (cellsL h w) [g] (fun _ => (p g, 0)) (fun _ => True) := ⟨by simp, fun x hx => by rw [List.mem_singleton.mp hx]; exact mem_cellsL.mpr hg, by simp, fun x hx => by rw [List.mem_singleton.mp hx]; exact ⟨[g], .nil (by simp) (.refl _)⟩, fun x hx hp => absurd trivial hp⟩
        exact muP_le I0 hE (cellsL_nodup h w) c64 hz0
      simp only [List.length_singleton]
      have : Nat.min 1 1 = 1 := rfl
      omega) (fun x hI => by
      obtain ⟨I, hV⟩ := hI
      have q1 : e2 pNe (.v (eV 5)) (.v (eLst [])) (Ewe L g (encC t) (.clo j caps) x) s = .ok (.bool !x.V.isEmpty) (Ewe L g (encC t) (.clo j caps) x) s := by
        have := pNe_nil_cells x.V
        simp [Ewe, -pNe, this]
      cases hv : x.V with
      | nil =>
        rw [hv] at q1 I
        exact .inr ⟨q1, I.pmono fun y _ q => by cases q⟩
      | cons c Q =>
        left
        rw [hv] at q1
        obtain ⟨F', N', v', z7', z8', z9', e, I', G'⟩ := ea_round (g := g) (t := encC t) hL hj hcap hs B hg hP (.sh (.lst (x.V.map encC))) x.V x.F [] x.v x.z7 x.z8 x.z9 hV (by simp) (by simp) (I.pmono fun y _ q => .inl q)
        refine ⟨⟨F', v', N'.mergeSort leC, .ow (dC N' Tr), z7', z8', z9'⟩, q1, ?_, ⟨I'.pmono fun y _ q => List.mem_mergeSort.mpr q, fun y hy => G'.ns (by simp) y (List.mem_mergeSort.mp hy)⟩, ?_⟩
        · rw [sSeq_nx' (r1 := Eea L g (encC t) (.clo j caps) x.F x.v (.sh (.lst (x.V.map encC))) [] x.z7 x.z8 x.z9) (s1 := s) (by simp [eDct0, Ewe, Eea, dC])]
          rw [sSeq_nx' (r1 := Eea L g (encC t) (.clo j caps) F' v' (.sh (.lst (x.V.map encC))) N' z7' z8' z9') (s1 := s) (by rw [← e]; simp [Eea])]
          simp [Eea, Ewe, pLstD_C, pSorted_enc]
        · simp only [List.length_mergeSort]
          rcases G'.lt with q | q
          · subst q
            have := G'.mu
            simp only [List.length_nil, List.length_cons, hv]
            have a1 : Nat.min 0 1 = 0 := rfl
            have a2 : Nat.min (Q.length + 1) 1 = 1 := Nat.min_eq_right (by omega)
            omega
          · have a1 : Nat.min N'.length 1 ≤ 1 := Nat.min_le_right _ _
            omega)
  have Bs := I.best
  obtain ⟨x0, hx0⟩ := Wk.reach (h := h) (w := w) (p := p) (z := (p g, 0)) (grid_conn (fun _ _ => rfl) hg ht) hg
  have htF : t ∈ y.F := (Bs.mem t).mpr ⟨x0, hx0⟩
  have hb : bestOf (eEa h w p) g (p g, 0) t = some (y.v t) := by rw [Bs.of, if_pos htF]
  have he : earthN h w p g t = (y.v t).1 := by simp [earthN, hb]
  refine ⟨?_, (y.v t).2, by rw [he]; exact Bs.is htF⟩
  rw [he]
  refine fnOf_rt (r := Ewe L g (encC t) (.clo j caps) y) rfl ?_
  unfold bo_earth_for
  have q0 : eCallC Lt 3 [(eV 1)] (startL 10 [encL L, encC g, encC t, .clo j caps]) s = .ok (.int (p g)) (startL 10 [encL L, encC g, encC t, .clo j caps]) s :=
    eCallC_ok (j := j) (caps := caps) rfl hj (ds := [encC g]) (by simp [startL]) hs (by simp [dep_encC']) hcap (hP g hg)
  rw [sSeq_nx' (r1 := Ewe L g (encC t) (.clo j caps) ⟨[g], fun _ => (p g, 0), [g], .no, .no, .no, .no⟩) (s1 := s) (by
    have q1 : eDct1 (eV 1) (eCallC Lt 3 [(eV 1)]) (startL 10 [encL L, encC g, encC t, .clo j caps]) s = .ok (dC [g] fun _ => .int (p g)) (startL 10 [encL L, encC g, encC t, .clo j caps]) s := by
      have e1 : eV 1 (startL 10 [encL L, encC g, encC t, .clo j caps]) s = .ok (encC g) (startL 10 [encL L, encC g, encC t, .clo j caps]) s := by simp [startL]
      unfold eDct1
      rw [e1, R.bind_ok, q0, R.bind_ok, keyOf_encC]
      rfl
    simp only [sPar, q1, R.bind_ok]
    simp [startL, Ewe, vE])]
  have e' : wh_earth_for_0 Lt (Ewe L g (encC t) (.clo j caps) ⟨[g], fun _ => (p g, 0), [g], .no, .no, .no, .no⟩) s = .ok .nx (Ewe L g (encC t) (.clo j caps) y) s := e
  rw [sSeq_nx' e']
  have g2 := pIxD_C (vE y.v) htF
  simp [Ewe, g2, vE]
end
end Pk
/-! Spt6: least_fill, even_for. -/
namespace Pk
open PySem (Str)
def fillP (L : List (List Int)) (low : Int) (c : C) : Int := if low - hAt L c > 0 then low - hAt L c else 0
section
variable {L : List (List Int)} {h w : Nat}
theorem fill_lam (hL : Land L h w) {c : C} (hc : InL h w c) (low : Int) (s : Sto) : ly_least_fill_0 [encL L, .int low] [encC c] s = .ok (.int (fillP L low c)) s := by
  have a1 := at_ok hL hc s
  simp [ly_least_fill_0, lamFn, la_least_fill_0, fillP, startL, a1]
theorem fill_B (hL : Land L h w) {low : Int} (hl : 0 ≤ low ∧ low ≤ 999) : PeB h w (fillP L low) := ⟨fun c hc => by
  have := hAt_bd hL hc
  unfold fillP
  split <;> omega⟩
theorem eCallL_ok {F : Fn} {k : Nat} {js : List Nat} {ms : List (M D)} {r r1 : Env} {s s1 : Sto} {ds caps : List D} {d : D} (ha : eL ms r s = .ok ds r1 s1) (hc : capL r1 js = some caps) (hF : F (ds ++ [.clo k caps]) s1 = .ok d s1) (hd : d.dep 60 = true) (ho : s1.o = []) : eCallL F k js ms r s = .ok d r1 s1 := by
  unfold eCallL
  simp only [ha, R.bind_ok, hc, hF, hd, lim_of ho, Bool.and_self, if_true]
variable {Lt : List (Nat × (List D → Fn))} {s : Sto}
theorem least_fill_ok (hL : Land L h w) (hj : Lt.lookup 5 = some ly_least_fill_0) (hs : s.o = []) {one other : C} (h1 : InL h w one) (h2 : InL h w other) {low : Int} (hl : 0 ≤ low ∧ low ≤ 999) :
    py_least_fill Lt [encL L, encC one, encC other, .int low] s = .ok (.int (earthN h w (fillP L low) one other)) s := by
  have e := (earth_for_ok hL h1 h2 hj (caps := [encL L, .int low]) (by simp [dep_encL]) hs (fill_B hL hl) fun o ho => fill_lam hL ho low s).1
  have wh := is_whole_int low 0 999 s
  have q : eCallL (py_earth_for Lt) 5 [0, 3] [(eV 0), (eV 1), (eV 2)] [.sh (encL L), .sh (encC one), .sh (encC other), .sh (.int low)] s = .ok (.int (earthN h w (fillP L low) one other)) [.sh (encL L), .sh (encC one), .sh (encC other), .sh (.int low)] s :=
    eCallL_ok (ds := [encL L, encC one, encC other]) (caps := [encL L, .int low]) (by simp) rfl e rfl hs
  simp [py_least_fill, bo_least_fill, fnOf, startL, need_two_ok hL h1 h2, wh, hl.1, hl.2, q]
end
end Pk
/-! Sp6: the nearest higher cell. -/
namespace Pk
open PySem (Str)
theorem take_succ_filter {α : Type} (p : α → Bool) (l : List α) {k : Nat} {x : α} (h : l[k]? = some x) : (l.take (k + 1)).filter p = (l.take k).filter p ++ (if p x then [x] else []) := by
  rw [List.take_succ, h, List.filter_append]
  simp [List.filter_cons]
end Pk
/-! Spr3: parts_of, all_flats, islands. -/
namespace Pk
open PySem (Str)
def encCs (l : List C) : D := .lst (l.map encC)
/-! ### the loop, in plain words -/
structure SnI (cls : C → List C) (cs : List C) (k : Nat) (M : List (List C)) (S : List C) : Prop where
  made : M = ((cs.take k).filter fun c => decide (c ∈ firstOf cls cs)).map cls
  seen : ∀ x, x ∈ S ↔ ∃ d ∈ cs.take k, x ∈ cls d
  nd : S.Nodup
theorem SnI.zero (cls : C → List C) (cs : List C) : SnI cls cs 0 [] [] := ⟨by simp, by simp, by simp⟩
theorem SnI.yes {cls : C → List C} {cs : List C} (K : Classes cls cs) (hs : cs.Pairwise fun a b => ltC a b = true) {k : Nat} {c : C} (hk : cs[k]? = some c) {M : List (List C)} {S S' : List C} (I : SnI cls cs k M S) (hc : c ∉ S) (hS : ∀ x, x ∈ S' ↔ x ∈ S ∨ x ∈ cls c) (nd : S'.Nodup) :
    SnI cls cs (k + 1) (M ++ [cls c]) S' := by
  obtain ⟨hlt, hg⟩ := List.getElem?_eq_some_iff.mp hk
  have e : cs = cs.take k ++ c :: cs.drop (k + 1) := by rw [← hg, ← List.drop_eq_getElem_cons hlt]; simp
  have hf : c ∈ firstOf cls cs := Classical.byContradiction fun q => hc ((I.seen c).mpr ((parts_turn K hs e).mpr q))
  refine ⟨?_, fun x => ?_, nd⟩
  · rw [take_succ_filter _ _ hk, I.made]
    simp [hf]
  · rw [hS, I.seen, List.take_succ, hk]
    simp only [Option.toList, List.mem_append, List.mem_singleton]
    exact ⟨fun q => q.elim (fun ⟨d, h1, h2⟩ => ⟨d, .inl h1, h2⟩) fun q => ⟨c, .inr rfl, q⟩, fun ⟨d, h1, h2⟩ => h1.elim (fun h1 => .inl ⟨d, h1, h2⟩) fun h1 => .inr (h1 ▸ h2)⟩
theorem SnI.no {cls : C → List C} {cs : List C} (K : Classes cls cs) (hs : cs.Pairwise fun a b => ltC a b = true) {k : Nat} {c : C} (hk : cs[k]? = some c) {M : List (List C)} {S : List C} (I : SnI cls cs k M S) (hc : c ∈ S) : SnI cls cs (k + 1) M S := by
  obtain ⟨hlt, hg⟩ := List.getElem?_eq_some_iff.mp hk
  have e : cs = cs.take k ++ c :: cs.drop (k + 1) := by rw [← hg, ← List.drop_eq_getElem_cons hlt]; simp
  obtain ⟨d, hd, hcd⟩ := (I.seen c).mp hc
  have hf : c ∉ firstOf cls cs := (parts_turn K hs e).mp ⟨d, hd, hcd⟩
  have hdc : d ∈ cs := List.mem_of_mem_take hd
  refine ⟨?_, fun x => ?_, I.nd⟩
  · rw [take_succ_filter _ _ hk, I.made]
    simp [hf]
  · rw [I.seen, List.take_succ, hk]
    simp only [Option.toList, List.mem_append, List.mem_singleton]
    refine ⟨fun ⟨d, h1, h2⟩ => ⟨d, .inl h1, h2⟩, fun ⟨y, h1, h2⟩ => h1.elim (fun h1 => ⟨y, h1, h2⟩) fun h1 => ⟨d, hd, ?_⟩⟩
    subst h1
    rw [← K.same d hdc y hcd]
    exact h2
theorem SnI.len {cls : C → List C} {cs : List C} {k : Nat} {M : List (List C)} {S : List C} (I : SnI cls cs k M S) : M.length ≤ cs.length := by
  rw [I.made, List.length_map]
  exact Nat.le_trans (List.length_filter_le _ _) (by rw [List.length_take]; omega)
/-! ### parts_of -/
def dry (L : List (List Int)) (v : Int) : C → Bool := fun x => decide (v ≤ hAt L x)
end Pk
/-! Spr4: the pass between two cells. -/
namespace Pk
open PySem (Str)
/-- a walk from a to x nowhere lower than v -/
def Wide (L : List (List Int)) (h w : Nat) (a : C) (v : Int) (x : C) : Prop := v ≤ hAt L a ∧ RG h w (dry L v) a x
def IsPass (L : List (List Int)) (h w : Nat) (a b : C) (v : Int) : Prop := Wide L h w a v b ∧ ∀ u, Wide L h w a u b → u ≤ v
theorem IsPass.uniq {L : List (List Int)} {h w : Nat} {a b : C} {u v : Int} (h1 : IsPass L h w a b u) (h2 : IsPass L h w a b v) : u = v := by
  have := h1.2 v h2.1
  have := h2.2 u h1.1
  omega
theorem dry_iff {L : List (List Int)} {v : Int} {x : C} : dry L v x = true ↔ v ≤ hAt L x := by simp [dry]
theorem Wide.high {L : List (List Int)} {h w : Nat} {a x : C} {v : Int} (hw : Wide L h w a v x) (ha : InL h w a) : InL h w x ∧ v ≤ hAt L x := by
  have := hw.2.all (P := GoodP h w (dry L v)) ⟨ha, dry_iff.mpr hw.1⟩
  exact ⟨this.1, dry_iff.mp this.2⟩
theorem Wide.symm {L : List (List Int)} {h w : Nat} {a x : C} {v : Int} (hw : Wide L h w a v x) (ha : InL h w a) : Wide L h w x v a :=
  ⟨(hw.high ha).2, hw.2.symm nearB_comm ⟨ha, dry_iff.mpr hw.1⟩⟩
theorem Wide.trans {L : List (List Int)} {h w : Nat} {a b x : C} {v : Int} (h1 : Wide L h w a v b) (h2 : Wide L h w b v x) : Wide L h w a v x := ⟨h1.1, h1.2.trans h2.2⟩
theorem Wide.down {L : List (List Int)} {h w : Nat} {a x : C} {u v : Int} (hw : Wide L h w a v x) (huv : u ≤ v) : Wide L h w a u x :=
  ⟨by have := hw.1; omega, hw.2.mono fun y hy => ⟨hy.1, dry_iff.mpr (by have := dry_iff.mp hy.2; omega)⟩⟩
theorem IsPass.symm {L : List (List Int)} {h w : Nat} {a b : C} {v : Int} (h1 : IsPass L h w a b v) (ha : InL h w a) (hb : InL h w b) : IsPass L h w b a v := ⟨h1.1.symm ha, fun u hu => h1.2 u (hu.symm hb)⟩
/-- levels that do not part two heights are one -/
theorem min_in (l : List Int) (hne : l ≠ []) : ∃ m ∈ l, ∀ y ∈ l, m ≤ y := by
  obtain ⟨m, h1, h2, _⟩ := pMin_ints l hne
  exact ⟨m, h1, h2⟩
def lowHs (L : List (List Int)) (h w : Nat) (a : C) : List Int := ((cellsL h w).filter fun x => decide (hAt L x ≤ hAt L a)).map (hAt L)
theorem mem_lowHs {L : List (List Int)} {h w : Nat} {a : C} {v : Int} : v ∈ lowHs L h w a ↔ ∃ x, InL h w x ∧ hAt L x = v ∧ v ≤ hAt L a := by
  unfold lowHs
  rw [List.mem_map]
  constructor
  · rintro ⟨x, hx, rfl⟩
    have := List.mem_filter.mp hx
    exact ⟨x, mem_cellsL.mp this.1, rfl, by simpa using this.2⟩
  · rintro ⟨x, hx, rfl, hv⟩
    exact ⟨x, List.mem_filter.mpr ⟨mem_cellsL.mpr hx, by simpa using hv⟩, rfl⟩
theorem wide_level {L : List (List Int)} {h w : Nat} {a b : C} (ha : InL h w a) {u : Int} (hw : Wide L h w a u b) : ∃ x ∈ lowHs L h w a, u ≤ x ∧ Wide L h w a x b := by
  have hm : hAt L a ∈ (lowHs L h w a).filter fun v => decide (u ≤ v) := List.mem_filter.mpr ⟨mem_lowHs.mpr ⟨a, ha, rfl, Int.le_refl _⟩, by simpa using hw.1⟩
  obtain ⟨m, m1, m2⟩ := min_in _ (List.ne_nil_of_mem hm)
  obtain ⟨m3, m4⟩ := List.mem_filter.mp m1
  have m4 : u ≤ m := by simpa using m4
  refine ⟨m, m3, m4, m2 _ hm, hw.2.mono fun y hy => ⟨hy.1, dry_iff.mpr ?_⟩⟩
  have hy2 := dry_iff.mp hy.2
  have hma := m2 _ hm
  by_cases hya : hAt L y ≤ hAt L a
  · exact m2 _ (List.mem_filter.mpr ⟨mem_lowHs.mpr ⟨y, hy.1, rfl, hya⟩, by simpa using hy2⟩)
  · omega
/-- the greatest height at which the search stops -/
theorem last_some {α β : Type} (f : α → Option β) : ∀ (l : List α) (x : α), x ∈ l → f x ≠ none → ∃ y ∈ l, ∃ d, f y = some d ∧ l.reverse.findSome? f = some d ∧ ∃ p q, l = p ++ y :: q ∧ ∀ z ∈ q, f z = none
  | [], x, h, _ => by cases h
  | a :: l, x, h, hx => by
    by_cases hq : ∃ z ∈ l, f z ≠ none
    · obtain ⟨z, hz, hzn⟩ := hq
      obtain ⟨y, h1, d, h2, h3, p, q, h4, h5⟩ := last_some f l z hz hzn
      refine ⟨y, List.mem_cons_of_mem _ h1, d, h2, ?_, a :: p, q, by rw [h4]; rfl, h5⟩
      rw [List.reverse_cons, List.findSome?_append, h3]
      rfl
    · have hn : ∀ z ∈ l, f z = none := fun z hz => Classical.byContradiction fun q => hq ⟨z, hz, q⟩
      have hxa : x = a := by
        rcases List.mem_cons.mp h with e | e
        · exact e
        · exact absurd (hn x e) hx
      subst hxa
      cases hd : f x with
      | none => exact absurd hd hx
      | some d =>
        refine ⟨x, List.mem_cons_self, d, hd, ?_, [], l, rfl, hn⟩
        have : l.reverse.findSome? f = none := List.findSome?_eq_none_iff.mpr fun z hz => hn z (List.mem_reverse.mp hz)
        rw [List.reverse_cons, List.findSome?_append, this]
        simp [hd]
theorem co_pass_ok {L : List (List Int)} {h w : Nat} (hL : Land L h w) {a : C} (ha : InL h w a) (b : D) (s : Sto) : co_pass_of_0 [.sh (encL L), .sh (encC a), .sh b, .no, .no, .no] s = .ok (.lst ((lowHs L h w a).map .int)) [.sh (encL L), .sh (encC a), .sh b, .no, .no, .no] s := by
  unfold lowHs
  rw [List.map_map]
  refine eComp_pure (cellsL h w) encC (fun x => decide (hAt L x ≤ hAt L a)) _ (by simp [cells_of_ok hL]) rfl fun x hx => ⟨[.sh (encL L), .sh (encC a), .sh b, .no, .no, .sh (encC x)], rfl, rfl, ?_, fun _ => ?_⟩
  · simp [at_ok hL (mem_cellsL.mp hx), at_ok hL ha]
  · simp [at_ok hL (mem_cellsL.mp hx)]
theorem pass_of_ok {L : List (List Int)} {h w : Nat} (hL : Land L h w) (h7 : h ≤ 7) (w7 : w ≤ 7) {a b : C} (ha : InL h w a) (hb : InL h w b) (s : Sto) : ∃ v, IsPass L h w a b v ∧ (0 ≤ v ∧ v ≤ 999) ∧ py_pass_of [encL L, encC a, encC b] s = .ok (.int v) s := by
  have hlen : (lowHs L h w a).length < 63 := by
    unfold lowHs
    rw [List.length_map]
    have := List.length_filter_le (fun x => decide (hAt L x ≤ hAt L a)) (cellsL h w)
    rw [cellsL_len] at this
    have : h * w ≤ 7 * 7 := Nat.mul_le_mul h7 w7
    omega
  have hss : pSortSetI (.lst ((lowHs L h w a).map .int)) = some (.lst ((sortI (lowHs L h w a)).map .int)) := by
    have hl : lim (((lowHs L h w a).map D.int).length < 63) = true := lim_of (by rw [List.length_map]; exact hlen)
    simp only [pSortSetI, intsOf_map, Option.bind_some, hl, if_true]
  obtain ⟨stp, hstp⟩ : ∃ stp : Int → Option D, stp = fun v => if b ∈ sprd h w (dry L v) a then some (.int v) else none := ⟨_, rfl⟩
  -- the lowest level joins all
  have hne : lowHs L h w a ≠ [] := List.ne_nil_of_mem (mem_lowHs.mpr ⟨a, ha, rfl, Int.le_refl _⟩)
  obtain ⟨m, m1, m2⟩ := min_in _ hne
  have hall : b ∈ sprd h w (dry L m) a := (mem_sprd ha).mpr (grid_conn (fun x hx => dry_iff.mpr (by
    by_cases q : hAt L x ≤ hAt L a
    · exact m2 _ (mem_lowHs.mpr ⟨x, hx, rfl, q⟩)
    · have := m2 _ (mem_lowHs.mpr ⟨a, ha, rfl, Int.le_refl _⟩)
      omega)) ha hb)
  obtain ⟨y, y1, d, y2, y3, p, q, y4, y5⟩ := last_some stp (sortI (lowHs L h w a)) m ((sortI_mem _ _).mpr m1) (by rw [hstp]; simp [hall])
  have yl := (sortI_mem _ _).mp y1
  have y6 : b ∈ sprd h w (dry L y) a ∧ d = .int y := by
    rw [hstp] at y2
    simp only at y2
    split at y2
    · rename_i z; cases y2; exact ⟨z, rfl⟩
    · cases y2
  obtain ⟨y6, rfl⟩ := y6
  obtain ⟨z, z1, z2, z3⟩ := mem_lowHs.mp yl
  have yw : Wide L h w a y b := ⟨z3, (mem_sprd ha).mp y6⟩
  refine ⟨y, ⟨yw, fun u hu => ?_⟩, by rw [← z2]; exact hAt_le hL z1, ?_⟩
  · obtain ⟨x, x1, x2, x3⟩ := wide_level ha hu
    have xs : x ∈ p ++ y :: q := by rw [← y4]; exact (sortI_mem _ _).mpr x1
    have srt := sortI_sorted (lowHs L h w a)
    rw [y4] at srt
    rcases List.mem_append.mp xs with k | k
    · have := (List.pairwise_append.mp srt).2.2 x k y List.mem_cons_self
      omega
    · rcases List.mem_cons.mp k with k | k
      · omega
      · have := y5 x k
        rw [hstp] at this
        simp only [(mem_sprd ha).mpr x3.2, if_true] at this
        cases this
  · obtain ⟨r', I', e⟩ := forL_search (g := .n 4) (b := fo_pass_of_0) (s := s) D.int (fun r => ∃ z, r = [.sh (encL L), .sh (encC a), .sh (encC b), .sh (.lst ((sortI (lowHs L h w a)).map .int)), z, .no]) stp (sortI (lowHs L h w a)).reverse [.sh (encL L), .sh (encC a), .sh (encC b), .sh (.lst ((sortI (lowHs L h w a)).map .int)), .no, .no] ⟨.no, rfl⟩ (fun v hv r hr => by
      obtain ⟨z, rfl⟩ := hr
      refine ⟨_, [.sh (encL L), .sh (encC a), .sh (encC b), .sh (.lst ((sortI (lowHs L h w a)).map .int)), .sh (.int v), .no], rfl, ⟨_, rfl⟩, ?_⟩
      have sp := spread_of_ok hL (dry L v) ha s
      have la : py_land_at [encL L, .int v] s = .ok (dC ((cellsL h w).filter (dry L v)) Tr) s := land_at_ok hL v s
      rw [hstp]
      by_cases hq : b ∈ sprd h w (dry L v) a
      · simp [fo_pass_of_0, la, sp, -pIn, pIn_cells, hq]
      · simp [fo_pass_of_0, la, sp, -pIn, pIn_cells, hq])
    rw [y3] at e
    refine fnOf_rt (r := r') rfl ?_
    unfold bo_pass_of
    rw [sSeq_nx' (r1 := [.sh (encL L), .sh (encC a), .sh (encC b), .sh (.lst ((sortI (lowHs L h w a)).map .int)), .no, .no]) (s1 := s) (by simp [startL, co_pass_ok hL ha, hss])]
    rw [List.map_reverse] at e
    simp [e]
theorem pass_between_ok {L : List (List Int)} {h w : Nat} (hL : Land L h w) (h7 : h ≤ 7) (w7 : w ≤ 7) {a b : C} (ha : InL h w a) (hb : InL h w b) {v : Int} (hv : IsPass L h w a b v) (s : Sto) : py_pass_between [encL L, encC a, encC b] s = .ok (.int v) s := by
  obtain ⟨u, h1, _, h2⟩ := pass_of_ok hL h7 w7 ha hb s
  rw [h1.uniq hv] at h2
  simp [py_pass_between, bo_pass_between, fnOf, startL, need_both_ok hL ha, need_cell_ok hL hb, h2]
theorem pass_ex {L : List (List Int)} {h w : Nat} (hL : Land L h w) (h7 : h ≤ 7) (w7 : w ≤ 7) {a b : C} (ha : InL h w a) (hb : InL h w b) : ∃ v, IsPass L h w a b v ∧ (0 ≤ v ∧ v ≤ 999) := by
  obtain ⟨u, h1, h3, _⟩ := pass_of_ok hL h7 w7 ha hb (St 0)
  exact ⟨u, h1, h3⟩
end Pk
/-! Spr5: _law_passes: what is best so far goes round. -/
namespace Pk
open PySem (Str)
/-- a for, by a state that stands in the frame -/
theorem forL_st {α β : Type} {g : Tg} {b : S} {s : Sto} (enc : α → D) (E : β → Env) (I : Nat → β → Prop) : ∀ (xs : List α) (k : Nat) (x : β), I k x →
    (∀ (j : Nat) (a : α), xs[j]? = some a → ∀ x, I (k + j) x → ∃ r1 y, setT (E x) g (enc a) = some r1 ∧ b r1 s = .ok .nx (E y) s ∧ I (k + j + 1) y) →
    ∃ y, forL g b (xs.map enc) (E x) s = .ok .nx (E y) s ∧ I (k + xs.length) y
  | [], k, x, h0, _ => ⟨x, rfl, by simpa using h0⟩
  | a :: xs, k, x, h0, h => by
    obtain ⟨r1, y, h1, h2, h3⟩ := h 0 a rfl x (by simpa using h0)
    obtain ⟨z, e1, e2⟩ := forL_st enc E I xs (k + 1) y (by simpa using h3) (fun j a hj x hI => by
      have := h (j + 1) a (by simpa using hj) x (by rw [show k + (j + 1) = k + 1 + j by omega]; exact hI)
      rw [show k + (j + 1) + 1 = k + 1 + j + 1 by omega] at this
      exact this)
    refine ⟨z, ?_, ?_⟩
    · simp only [List.map_cons, forL, h1, h2, R.bind_ok]
      exact e1
    · rw [List.length_cons, show k + (xs.length + 1) = k + 1 + xs.length by omega]
      exact e2
/-! sums over cells -/
theorem sum_le {α : Type} {f g : α → Nat} : ∀ {l : List α}, (∀ x ∈ l, f x ≤ g x) → (l.map f).sum ≤ (l.map g).sum
  | [], _ => Nat.le_refl _
  | a :: l, h => by
    have h1 := h a List.mem_cons_self
    have h2 := sum_le (l := l) fun x hx => h x (List.mem_cons_of_mem _ hx)
    simp only [List.map_cons, List.sum_cons]
    omega
theorem sum_lt {α : Type} {f g : α → Nat} {c : α} : ∀ {l : List α}, (∀ x ∈ l, f x ≤ g x) → c ∈ l → f c < g c → (l.map f).sum < (l.map g).sum
  | [], _, h, _ => by cases h
  | a :: l, h, hc, hlt => by
    have h1 := h a List.mem_cons_self
    have h2 := sum_le (l := l) fun x hx => h x (List.mem_cons_of_mem _ hx)
    simp only [List.map_cons, List.sum_cons]
    rcases List.mem_cons.mp hc with e | e
    · subst e; omega
    · have := sum_lt (l := l) (fun x hx => h x (List.mem_cons_of_mem _ hx)) e hlt
      omega
theorem sum_const {α : Type} {f : α → Nat} {k : Nat} : ∀ {l : List α}, (∀ x ∈ l, f x ≤ k) → (l.map f).sum ≤ l.length * k
  | [], _ => by simp
  | a :: l, h => by
    have h1 := h a List.mem_cons_self
    have h2 := sum_const (l := l) fun x hx => h x (List.mem_cons_of_mem _ hx)
    simp only [List.map_cons, List.sum_cons, List.length_cons, Nat.succ_mul]
    omega
/-! ### a table of numbers by cells -/
abbrev nD (v : C → Int) : C → D := fun x => .int (v x)
def updN (v : C → Int) (c : C) (k : Int) : C → Int := fun x => if x = c then k else v x
def getN (F : List C) (v : C → Int) (c : C) (d : Int) : Int := if c ∈ F then v c else d
theorem pGetN (F : List C) (v : C → Int) (c : C) (d : Int) : pGetD (dC F (nD v)) (encC c) (.int d) = some (.int (getN F v c d)) := by
  rw [pGetD_C]
  unfold getN
  split <;> rfl
/-! ### _law_passes -/
theorem pNe_nil_ints (l : List Int) : pNe (.lst (l.map .int)) (.lst []) = some (.bool (!l.isEmpty)) := by
  have h1 : D.dep 64 (.lst (l.map .int)) = true := by
    show List.all _ _ = true
    rw [List.all_map, List.all_eq_true]
    exact fun x _ => rfl
  have h2 : D.dep 64 (.lst []) = true := rfl
  simp only [pNe, h1, h2, Bool.and_self, if_true]
  cases l <;> simp
/-- what is known between the turns -/
structure PaI (L : List (List Int)) (h w : Nat) (a : C) (F : List C) (v : C → Int) : Prop where
  nd : F.Nodup
  hin : ∀ x ∈ F, InL h w x
  ha : a ∈ F
  va : v a = hAt L a
  ok : ∀ x ∈ F, 0 ≤ v x ∧ Wide L h w a (v x) x
def phi (h w : Nat) (F : List C) (v : C → Int) : Nat := ((cellsL h w).map fun x => if x ∈ F then (v x).toNat + 1 else 0).sum
theorem PaI.le {L : List (List Int)} {h w : Nat} (hL : Land L h w) {a : C} (ha : InL h w a) {F : List C} {v : C → Int} (I : PaI L h w a F v) {x : C} (hx : x ∈ F) : 0 ≤ v x ∧ v x ≤ 999 := by
  have h1 := I.ok x hx
  have h2 := (hAt_le hL ha).2
  have h3 := h1.2.1
  omega
theorem PaI.step {L : List (List Int)} {h w : Nat} (hL : Land L h w) {a : C} {F : List C} {v : C → Int} (I : PaI L h w a F v) {c o : C} (hc : InL h w c) (ho : o ∈ F) (hn : nearB c o = true) (hlt : getN F v c (-1) < min (v o) (hAt L c)) :
    PaI L h w a (addK F c) (updN v c (min (v o) (hAt L c))) ∧ phi h w F v < phi h w (addK F c) (updN v c (min (v o) (hAt L c))) := by
  have hac : a ≠ c := fun e => by
    have h1 := (I.ok o ho).2.1
    have h2 := I.va
    have h3 := I.ha
    rw [e] at h1 h2 h3
    unfold getN at hlt
    rw [if_pos h3] at hlt
    omega
  refine ⟨⟨addK_nodup I.nd, fun x hx => ?_, mem_addK.mpr (.inl I.ha), ?_, fun x hx => ?_⟩, ?_⟩
  · rcases mem_addK.mp hx with q | q
    · exact I.hin x q
    · rw [q]; exact hc
  · unfold updN
    rw [if_neg hac]
    exact I.va
  · by_cases e : x = c
    · subst e
      have e1 : updN v x (min (v o) (hAt L x)) x = min (v o) (hAt L x) := by simp [updN]
      rw [e1]
      have ho2 := I.ok o ho
      have hx0 := (hAt_le hL hc).1
      refine ⟨by omega, (ho2.2.down (u := min (v o) (hAt L x)) (by omega)).1, ?_⟩
      · exact .step (ho2.2.down (u := min (v o) (hAt L x)) (by omega)).2 (by rw [nearB_comm]; exact hn) ⟨hc, dry_iff.mpr (by omega)⟩
    · have e1 : updN v c (min (v o) (hAt L c)) x = v x := by simp [updN, e]
      rw [e1]
      rcases mem_addK.mp hx with q | q
      · exact I.ok x q
      · exact absurd q e
  · unfold phi
    refine sum_lt (c := c) (fun x hx => ?_) (mem_cellsL.mpr hc) ?_
    · by_cases e : x = c
      · subst e
        unfold getN at hlt
        by_cases q : x ∈ F
        · rw [if_pos q] at hlt
          have q2 : x ∈ addK F x := mem_addK.mpr (.inr rfl)
          simp only [q, q2, if_true, updN]
          omega
        · simp [q]
      · have : x ∈ addK F c ↔ x ∈ F := by rw [mem_addK]; exact ⟨fun q => q.elim id fun q => absurd q e, .inl⟩
        simp only [this, updN, e, if_false]
        omega
    · have q2 : c ∈ addK F c := mem_addK.mpr (.inr rfl)
      have h0 := (I.ok o ho).1
      have h1 := (hAt_le hL hc).1
      simp only [q2, if_true, updN]
      unfold getN at hlt
      by_cases q : c ∈ F
      · rw [if_pos q] at hlt
        have := (I.ok c q).1
        simp only [q, if_true]
        omega
      · simp only [q, if_false]
        omega
end Pk
/-! Spr6: _law_passes, whole. -/
namespace Pk
open PySem (Str)
end Pk
/-! Sptb: _law_climbs: the least climbs, going round. -/
namespace Pk
open PySem (Str)
section
variable {L : List (List Int)} {h w : Nat} {g : C} {s : Sto}
/-- the edges from the one cell outwards: a step from c to o, as it is counted from g -/
noncomputable def eOut (L : List (List Int)) (h w : Nat) : C → C → Option Pc := fun o c => if lim (InL h w o ∧ InL h w c ∧ nearB c o = true) then some (m0 (hAt L o - hAt L c), 0) else none
theorem eOut_some {o c : C} {i : Pc} : eOut L h w o c = some i ↔ (InL h w o ∧ InL h w c ∧ nearB c o = true) ∧ i = (m0 (hAt L o - hAt L c), 0) := by
  unfold eOut
  by_cases q : InL h w o ∧ InL h w c ∧ nearB c o = true
  · rw [lim_of q, if_pos rfl]; exact ⟨fun e => ⟨q, by cases e; rfl⟩, fun e => by rw [e.2]⟩
  · have : lim (InL h w o ∧ InL h w c ∧ nearB c o = true) = false := by
      cases e : lim (InL h w o ∧ InL h w c ∧ nearB c o = true) with
      | true => exact absurd (of_lim e) q
      | false => rfl
    rw [this]; exact ⟨fun e => (by cases e), fun e => absurd e.1 q⟩
/-- a walk outwards is a walk that climbs so much -/
theorem Wk.out {c : C} {x : Pc} (hw : Wk (eOut L h w) g (0, 0) c x) : x.2 = 0 ∧ ∃ k, Wk (eOf h w (climbP L)) c (0, 0) g (x.1, k) := by
  induction hw with
  | nil => exact ⟨rfl, 0, .nil⟩
  | @cons o c x i he hw ih =>
    obtain ⟨⟨q1, q2, q3⟩, rfl⟩ := eOut_some.mp he
    obtain ⟨e0, k, ih⟩ := ih
    have := ih.snoc (eClimb.mpr ⟨⟨q2, q1, by rw [nearB_comm]; exact q3⟩, rfl⟩)
    exact ⟨by simp only [addP, e0]; rfl, _, this⟩
theorem Wk.outOf {c : C} {x : Pc} (hw : Wk (eOf h w (climbP L)) c (0, 0) g x) : Wk (eOut L h w) g (0, 0) c (x.1, 0) := by
  induction hw with
  | nil => exact .nil
  | @cons o d x i he hw ih =>
    obtain ⟨⟨q1, q2, q3⟩, rfl⟩ := eClimb.mp he
    have := ih.snoc (eOut_some.mpr ⟨⟨q2, q1, by rw [nearB_comm]; exact q3⟩, rfl⟩)
    have e : addP (x.1, 0) (m0 (hAt L d - hAt L o), 0) = ((addP x (m0 (hAt L d - hAt L o), 1)).1, 0) := by simp [addP]
    rw [e] at this
    exact this
theorem Best.out {F : List C} {v : C → Pc} (B : Best (eOut L h w) g (0, 0) (cellsL h w) F v) {c : C} (hc : c ∈ F) : IsClimb L h w g c (v c).1 := by
  obtain ⟨_, k, q⟩ := (B.att c hc).out
  refine ⟨⟨k, q⟩, fun b k hb => ?_⟩
  have := (B.least c _ hb.outOf).2
  simp only [leQ, ltQ] at this
  omega
/-! ### the loops -/
structure ClSt where
  F : List C
  v : C → Pc
  g : Bool
  z4 : Sl
  z5 : Sl
  z6 : Sl
/-- nothing is to be done at a step -/
def StillQ (E : C → C → Option Pc) (F : List C) (v : C → Pc) (o c : C) : Prop := ∀ i, E o c = some i → c ∈ F → o ∈ F ∧ leQ (v o) (addP (v c) i)
abbrev PIo (L : List (List Int)) (h w : Nat) (g : C) (F : List C) (v : C → Pc) : Prop := PI (eOut L h w) g (0, 0) (cellsL h w) F v (fun _ => True)
/-- how far a round has come -/
structure Rd (L : List (List Int)) (h w : Nat) (g : C) (F0 : List C) (v0 : C → Pc) (done : C → C → Prop) (x : ClSt) : Prop where
  pi : PIo L h w g x.F x.v
  le : muP (cellsL h w) x.F x.v ≤ muP (cellsL h w) F0 v0
  lt : x.g = true → muP (cellsL h w) x.F x.v < muP (cellsL h w) F0 v0
  st : x.g = false → x.F = F0 ∧ x.v = v0 ∧ ∀ o c, done o c → StillQ (eOut L h w) F0 v0 o c
end
end Pk
/-! Spr7: parts that hold two cells; small things for laws. -/
namespace Pk
open PySem (Str)
theorem same_number_ok (a b : Int) (s : Sto) : py_law_same_number [.int a, .int b] s = .ok (.bool (decide (a = b))) s := by
  simp [py_law_same_number, bo_law_same_number, fnOf, startL]
  rfl
theorem dep_parts (M : List (List C)) : D.dep 64 (.lst (M.map encCs)) = true := by
  show List.all _ _ = true
  rw [List.all_map, List.all_eq_true]
  exact fun x _ => dep_cells 61 x
end Pk
/-! Spr8: all flats, differences, flats, pits. -/
namespace Pk
open PySem (Str)
noncomputable abbrev flatL (L : List (List Int)) (h w : Nat) (c : C) : List C := sprd h w (sameH L c) c
noncomputable def flatsL (L : List (List Int)) (h w : Nat) : List C := firstOf (flatL L h w) (cellsL h w)
/-! ### all_flats -/
/-! ### flats, differences, pits -/
def peakP (L : List (List Int)) (h w : Nat) (f : C) : Prop := ∀ c ∈ flatL L h w f, ∀ o, InL h w o → nearB c o = true → hAt L o ≤ hAt L c
noncomputable def peaksS (L : List (List Int)) (h w : Nat) : List C := (flatsL L h w).filter fun f => lim (peakP L h w f)
end Pk
/-! Spr9: basins. -/
namespace Pk
open PySem (Str)
/-! ### basin, basins -/
end Pk
/-! Sps0: _law_parts: the least label goes round. -/
namespace Pk
open PySem (Str)
noncomputable section
end
/-- parts of a sorted list of cells, by touching -/
abbrev RS (tch : C → C → Bool) (S : List C) : C → C → Prop := Rch tch (· ∈ S)
def updL (lab : C → C) (c e : C) : C → C := fun x => if x = c then e else lab x
structure LbI (tch : C → C → Bool) (S : List C) (lab : C → C) : Prop where
  mem : ∀ x ∈ S, lab x ∈ S
  rc : ∀ x ∈ S, RS tch S x (lab x)
  le : ∀ x ∈ S, ltC x (lab x) = false
def codeC (c : C) : Nat := (c.1 * 64 + c.2).toNat
def psi (S : List C) (lab : C → C) : Nat := (S.map fun x => codeC (lab x)).sum
theorem code_lt {h w : Nat} (hh : h ≤ 8) (hw : w ≤ 8) {a b : C} (ha : InL h w a) (hb : InL h w b) (hl : ltC a b = true) : codeC a < codeC b := by
  obtain ⟨a1, a2, a3, a4⟩ := ha
  obtain ⟨b1, b2, b3, b4⟩ := hb
  simp only [ltC, Bool.or_eq_true, Bool.and_eq_true, decide_eq_true_eq] at hl
  unfold codeC
  omega
theorem LbI.step {h w : Nat} (hh : h ≤ 8) (hw : w ≤ 8) {tch : C → C → Bool} {S : List C} {lab : C → C} (hS : ∀ c ∈ S, InL h w c) (I : LbI tch S lab) {c d : C} (hc : c ∈ S) (hd : d ∈ S) (hl : ltC (lab d) (lab c) = true) (ht : tch c d = true) :
    LbI tch S (updL lab c (lab d)) ∧ psi S (updL lab c (lab d)) < psi S lab := by
  refine ⟨⟨fun x hx => ?_, fun x hx => ?_, fun x hx => ?_⟩, ?_⟩
  · unfold updL; split
    · exact I.mem d hd
    · exact I.mem x hx
  · unfold updL; split
    · rename_i e; rw [e]; exact (Rch.one ht hd).trans (I.rc d hd)
    · exact I.rc x hx
  · unfold updL; split
    · rename_i e
      rw [e]
      cases q : ltC c (lab d) with
      | false => rfl
      | true =>
        have := ord_C.tr _ _ _ q hl
        rw [I.le c hc] at this
        cases this
    · exact I.le x hx
  · unfold psi
    refine sum_lt (c := c) (fun x hx => ?_) hc ?_
    · unfold updL; split
      · rename_i e; rw [e]; exact Nat.le_of_lt (code_lt hh hw (hS _ (I.mem d hd)) (hS _ (I.mem c hc)) hl)
      · exact Nat.le_refl _
    · have : updL lab c (lab d) c = lab d := by simp [updL]
      rw [this]
      exact code_lt hh hw (hS _ (I.mem d hd)) (hS _ (I.mem c hc)) hl
/-! ### the rounds -/
section
variable {F : Fn} {tch : C → C → Bool} {S : List C} {h w : Nat}
structure RdI (tch : C → C → Bool) (S : List C) (lab0 : C → C) (x : (C → C) × Bool × Sl × Sl) (P : Prop) : Prop where
  i : LbI tch S x.1
  le : psi S x.1 ≤ psi S lab0
  yes : x.2.1 = true → psi S x.1 < psi S lab0
  no : x.2.1 = false → x.1 = lab0 ∧ P
end
end Pk
/-! Sps1: _law_flats. -/
namespace Pk
open PySem (Str)
/-! ### the order of parts -/
theorem lt_irr : ∀ t : List Tok, toksLt t t = false
  | [] => rfl
  | x :: t => by
    simp only [toksLt, lt_irr t, Bool.and_false, Bool.or_false]
    cases x with
    | inl a => simp [tokLt]
    | inr a => simp [tokLt, List.lt_irrefl]
theorem alk_cells : ∀ l m : List C, alkL (l.map encC) (m.map encC) = true
  | [], _ => by simp only [List.map_nil, alkL]
  | _ :: _, [] => by simp only [List.map_cons, List.map_nil, alkL]
  | x :: l, y :: m => by simp only [List.map_cons, alkL, alk_encC, alk_cells l m, Bool.and_self]
theorem alk_encCs (l m : List C) : (encCs l).alk (encCs m) = true := by simp only [encCs, D.alk, alk_cells]
/-! ### levels -/
end Pk
/-! Sps2: the part of a cell; how many cells all parts have. -/
namespace Pk
open PySem (Str)
end Pk
/-! Sps3: peaks in their order; _law_ends, _law_peaks. -/
namespace Pk
open PySem (Str)
def keyP (L : List (List Int)) (c : C) : Int × C := (0 - hAt L c, c)
def leP (L : List (List Int)) (a b : C) : Bool := !(ltP (keyP L b) (keyP L a))
noncomputable def peaksL (L : List (List Int)) (h w : Nat) : List C := (peaksS L h w).mergeSort (leP L)
/-! ### _law_ends -/
end Pk
/-! Sps4: upside down; the top; cells and peaks. -/
namespace Pk
open PySem (Str)
/-! ### flats' first cells -/
/-! ### the highest of all rows -/
end Pk
/-! Sps5: heads of islands. -/
namespace Pk
open PySem (Str)
end Pk
/-! Sps6: small things for laws: numbered, sets of cells, heads of parts. -/
namespace Pk
open PySem (Str)
theorem numbered_of {α : Type} (f : α → D) (l : List α) (d : α) : numbered (l.map f) = (List.range l.length).map fun (k : Nat) => .tup [.int k, f (l.getD k d)] := by
  unfold numbered
  rw [List.length_map]
  apply List.map_congr_left
  intro k hk
  have := List.mem_range.mp hk
  simp [this]
noncomputable def headC (L : List (List Int)) (h w : Nat) (v : Int) (c : C) : C := match (peaksL L h w).filter fun q => decide (q ∈ sprd h w (dry L v) c) with
  | q :: _ => q
  | [] => (0, 0)
theorem pNe_nil_parts (M : List (List C)) : pNe (.lst (M.map encCs)) (.lst []) = some (.bool !M.isEmpty) := by
  have d0 : D.dep 64 (.lst []) = true := rfl
  simp only [pNe, dep_parts, d0, Bool.and_self, if_true, eqv_lst_lst, eqvL_nil_iff]
  cases M <;> rfl
theorem pNe_int (a b : Int) : pNe (.int a) (.int b) = some (.bool !(decide (a = b))) := by
  simp only [pNe, dep_int, Bool.and_self, if_true, eqv_int_int]
  rfl
end Pk
/-! Sps7: saddles. -/
namespace Pk
open PySem (Str)
/-- the peaks above one -/
noncomputable def aboveL (L : List (List Int)) (h w : Nat) (p : C) : List C := (peaksL L h w).take ((peaksL L h w).findIdx fun q => decide (q = p))
open Classical in
noncomputable def passN (L : List (List Int)) (h w : Nat) (a b : C) : Int := if q : ∃ v, IsPass L h w a b v then q.choose else 0
def IsSad (L : List (List Int)) (h w : Nat) (p : C) (v : Int) : Prop :=
  (aboveL L h w p = [] ∧ (∃ c, InL h w c ∧ hAt L c = v) ∧ ∀ x, InL h w x → v ≤ hAt L x) ∨
  (aboveL L h w p ≠ [] ∧ (∃ q ∈ aboveL L h w p, passN L h w p q = v) ∧ ∀ q ∈ aboveL L h w p, passN L h w p q ≤ v)
theorem IsSad.uniq {L : List (List Int)} {h w : Nat} {p : C} {u v : Int} (h1 : IsSad L h w p u) (h2 : IsSad L h w p v) : u = v := by
  rcases h1 with ⟨a, ⟨c, c1, c2⟩, a3⟩ | ⟨a, ⟨c, c1, c2⟩, a3⟩ <;> rcases h2 with ⟨b, ⟨d, d1, d2⟩, b3⟩ | ⟨b, ⟨d, d1, d2⟩, b3⟩
  · have := a3 d d1
    have := b3 c c1
    omega
  · exact absurd a b
  · exact absurd b a
  · have := a3 d d1
    have := b3 c c1
    omega
open Classical in
noncomputable def sadN (L : List (List Int)) (h w : Nat) (p : C) : Int := if q : ∃ v, IsSad L h w p v then q.choose else 0
end Pk
/-! Sps8: _law_saddle, lords, lines. -/
namespace Pk
open PySem (Str)
/-! ### a peak's island at its own height is its flat -/
/-! ### lords -/
noncomputable def lordC (L : List (List Int)) (h w : Nat) (p : C) : C := headC L h w (sadN L h w p) p
/-! ### lines -/
inductive Ln (L : List (List Int)) (h w : Nat) : C → List C → Prop
  | stop {p : C} : aboveL L h w p = [] → Ln L h w p []
  | go {p : C} {l : List C} : aboveL L h w p ≠ [] → Ln L h w (lordC L h w p) l → Ln L h w p (lordC L h w p :: l)
theorem Ln.uniq {L : List (List Int)} {h w : Nat} {p : C} {l m : List C} (h1 : Ln L h w p l) (h2 : Ln L h w p m) : l = m := by
  induction h1 generalizing m with
  | stop e => cases h2 with
    | stop _ => rfl
    | go e2 _ => exact absurd e e2
  | go e _ ih => cases h2 with
    | stop e2 => exact absurd e2 e
    | go _ h3 => rw [ih h3]
end Pk
/-! Sptc: _law_steps (by good cells), round by round. -/
namespace Pk
open PySem (Str)
/-! ### colours -/
section
variable {L : List (List Int)} {h w : Nat} {g : C} {lv : Int} {s : Sto}
theorem dryP_some {o c : C} {m : Int} : dryP L lv o c = some m ↔ (lv ≤ hAt L o ∧ lv ≤ hAt L c) ∧ m = 0 := by
  unfold dryP
  by_cases q : lv ≤ (if hAt L c < hAt L o then hAt L c else hAt L o)
  · rw [if_pos q]
    have : lv ≤ hAt L o ∧ lv ≤ hAt L c := by split at q <;> omega
    simp [this, eq_comm]
  · rw [if_neg q]
    have : ¬ (lv ≤ hAt L o ∧ lv ≤ hAt L c) := by split at q <;> omega
    simp [this]
theorem eDry {o c : C} {i : Pc} : eOf h w (dryP L lv) o c = some i ↔ (InL h w o ∧ InL h w c ∧ nearB c o = true) ∧ (lv ≤ hAt L o ∧ lv ≤ hAt L c) ∧ i = (0, 1) := by
  rw [eOf_some]
  constructor
  · rintro ⟨a, m, e, b⟩
    obtain ⟨q, rfl⟩ := dryP_some.mp e
    exact ⟨a, q, b⟩
  · rintro ⟨a, q, b⟩
    exact ⟨a, 0, dryP_some.mpr ⟨q, rfl⟩, b⟩
theorem near_col {a b : C} (hn : nearB a b = true) : (a.1 + a.2 + b.1 + b.2) % 2 = 1 := by
  simp only [nearB, decide_eq_true_eq] at hn
  omega
theorem Wk.col {c : C} {x : Pc} (hw : Wk (eOf h w (dryP L lv)) g (0, 0) c x) : (c.1 + c.2 + g.1 + g.2 + x.2) % 2 = 0 := by
  induction hw with
  | nil => simp only; omega
  | @cons o c x i he hw ih =>
    obtain ⟨⟨q1, q2, q3⟩, q4, rfl⟩ := eDry.mp he
    have := near_col q3
    simp only [addP]
    omega
structure ScSt where
  F : List C
  v : C → Int
  V : List C
  n : Int
  z5 : Sl
  z6 : Sl
end
end Pk
/-! Sptd: best walks. -/
namespace Pk
open PySem (Str)
section
variable {Lt : List (Nat × (List D → Fn))} {L : List (List Int)} {h w : Nat} {s : Sto} {P : C → C → Option Int} {F : List C} {v : C → Pc} {g : C}
theorem FW.uniq {c : C} {l m : List C} (h1 : FW h w P F v c l) (h2 : FW h w P F v c m) : l = m := by
  induction h1 generalizing m with
  | stop hc => cases h2 with
    | stop => rfl
    | go hc' => exact absurd hc hc'
  | go hc hl ih => cases h2 with
    | stop hc' => exact absurd hc' hc
    | go hc' hl' => rw [ih hl']
theorem FW.hd {c : C} {l : List C} (h1 : FW h w P F v c l) : ∃ t, l = c :: t := by
  cases h1 with
  | stop => exact ⟨[], rfl⟩
  | go => exact ⟨_, rfl⟩
theorem FW.all (B : Best (eOf h w P) g (0, 0) (cellsL h w) F v) {c : C} {l : List C} (hf : FW h w P F v c l) (hc : c ∈ F) : ∀ x ∈ l, x ∈ F := by
  induction hf with
  | stop => intro x hx; rw [List.mem_singleton.mp hx]; exact hc
  | @go c l hv hl ih =>
    intro x hx
    rcases List.mem_cons.mp hx with rfl | hx
    · exact hc
    · exact ih (next_spec B hc hv).2.1 x hx
/-- a walk by cells no lower than m joins its ends -/
theorem walk_wide {m : Int} : ∀ {W : List C} {a b : C}, WalkOk h w W → W.head? = some a → W.getLast? = some b → (∀ x ∈ W, m ≤ hAt L x) → Wide L h w a m b
  | [], a, b, _, h1, _, _ => by cases h1
  | [x], a, b, hW, h1, h2, hm => by
    simp at h1 h2
    subst h1 h2
    exact ⟨hm _ (by simp), .refl⟩
  | x :: y :: W, a, b, hW, h1, h2, hm => by
    simp at h1
    subst h1
    have nr := hW.near
    rw [chain_cons, Bool.and_eq_true] at nr
    have I := walk_wide (a := y) (b := b) ⟨by simp, fun z hz => hW.cells z (List.mem_cons_of_mem _ hz), nr.2⟩ rfl (by rw [List.getLast?_cons_cons] at h2; exact h2) (fun z hz => hm z (List.mem_cons_of_mem _ hz))
    exact ⟨hm x (by simp), (Rch.one (P := GoodP h w (dry L m)) nr.1 ⟨hW.cells y (by simp), dry_iff.mpr (hm y (by simp))⟩).trans I.2⟩
end
end Pk
/-! Spte: walks as lists; _law_all: all walks without a cell twice. -/
namespace Pk
open PySem (Str)
/-- a walk to g with the list of its cells -/
inductive WkL (E : C → C → Option Pc) (g : C) (z : Pc) : C → List C → Pc → Prop
  | nil : WkL E g z g [g] z
  | cons {o c : C} {l : List C} {x i : Pc} (he : E o c = some i) (h : WkL E g z c l x) : WkL E g z o (o :: l) (addP x i)
section
variable {E : C → C → Option Pc} {g : C} {z : Pc} {cs : List C} {c o : C} {l : List C} {x : Pc}
theorem WkL.wk (h : WkL E g z c l x) : Wk E g z c x := by
  induction h with
  | nil => exact .nil
  | cons he h ih => exact .cons he ih
theorem WkL.hd (h : WkL E g z c l x) : ∃ t, l = c :: t := by
  cases h with
  | nil => exact ⟨[], rfl⟩
  | cons he h => exact ⟨_, rfl⟩
theorem WkL.suffix (hE : Edges E cs) (h : WkL E g z c l x) (ho : o ∈ l) : ∃ l' y, WkL E g z o l' y ∧ leQ y x ∧ l'.Sublist l := by
  induction h with
  | nil => rw [List.mem_singleton.mp ho]; exact ⟨_, _, .nil, .refl _, List.Sublist.refl _⟩
  | cons he h ih =>
    rcases List.mem_cons.mp ho with rfl | ho
    · exact ⟨_, _, .cons he h, .refl _, List.Sublist.refl _⟩
    · obtain ⟨l', y, h1, h2, h3⟩ := ih ho
      obtain ⟨n1, n2, n3, n4⟩ := hE.nn _ _ _ he
      exact ⟨l', y, h1, h2.trans (leQ_add n1 n3), h3.cons _⟩
/-- each walk can be made one without a cell twice -/
theorem Wk.simple (hE : Edges E cs) (h : Wk E g z c x) : ∃ l y, WkL E g z c l y ∧ l.Nodup ∧ leQ y x := by
  induction h with
  | nil => exact ⟨_, _, .nil, by simp, .refl _⟩
  | @cons o c x i he h ih =>
    obtain ⟨l, y, h1, h2, h3⟩ := ih
    obtain ⟨n1, n2, n3, n4⟩ := hE.nn _ _ _ he
    by_cases q : o ∈ l
    · obtain ⟨l', y', k1, k2, k3⟩ := h1.suffix hE q
      exact ⟨l', y', k1, k3.nodup h2, (k2.trans h3).trans (leQ_add n1 n3)⟩
    · exact ⟨o :: l, _, .cons he h1, List.nodup_cons.mpr ⟨q, h2⟩, leQ_mono h3⟩
end
/-- a walk without a cell twice -/
structure SimpW (h w : Nat) (one other : C) (W : List C) : Prop where
  ok : WalkOk h w W
  hd : W.head? = some one
  ls : W.getLast? = some other
  nd : W.Nodup
theorem SimpW.rev {h w : Nat} {one other : C} {W : List C} (S : SimpW h w one other W) : SimpW h w other one W.reverse :=
  ⟨S.ok.rev, by rw [List.head?_reverse]; exact S.ls, by rw [List.getLast?_reverse]; exact S.hd, List.pairwise_reverse.mpr (S.nd.imp fun h => h.symm)⟩
theorem WalkOk.tail {h w : Nat} {a b : C} {l : List C} (S : WalkOk h w (a :: b :: l)) : WalkOk h w (b :: l) ∧ nearB a b = true ∧ InL h w a := by
  have nr := S.near
  rw [chain_cons, Bool.and_eq_true] at nr
  exact ⟨⟨by simp, fun z hz => S.cells z (List.mem_cons_of_mem _ hz), nr.2⟩, nr.1, S.cells a (by simp)⟩
theorem WalkOk.cons {h w : Nat} {a b : C} {l : List C} (S : WalkOk h w (b :: l)) (ha : InL h w a) (hn : nearB a b = true) : WalkOk h w (a :: b :: l) :=
  ⟨by simp, fun z hz => by
    rcases List.mem_cons.mp hz with rfl | hz
    · exact ha
    · exact S.cells z hz, by rw [chain_cons, hn, S.near]; rfl⟩
/-- all simple walks, in some order -/
def AllW (h w : Nat) (one other : C) (M : List (List C)) : Prop := ∀ W, W ∈ M ↔ SimpW h w one other W
/-! ### the loop -/
def Tw : Nat → Nat
  | 0 => 1
  | n + 1 => 1 + 4 * Tw n
def wtW (N : Nat) (p : List C) : Nat := Tw (N - p.length)
def muW (N : Nat) (S : List (List C)) : Nat := (S.map (wtW N)).sum
structure PreW (h w : Nat) (one other : C) (p : List C) : Prop where
  ok : WalkOk h w p
  hd : p.head? = some one
  nd : p.Nodup
structure AlSt where
  M : List (List C)
  S : List (List C)
  z5 : Sl
abbrev Eal (L : List (List Int)) (a b : C) (x : AlSt) : Env := [.sh (encL L), .sh (encC a), .sh (encC b), .ow (.lst (x.M.map encCs)), .ow (.lst (x.S.map encCs)), x.z5, .no]
structure AlI (h w : Nat) (one other : C) (x : AlSt) : Prop where
  m : ∀ W ∈ x.M, SimpW h w one other W
  s : ∀ p ∈ x.S, PreW h w one other p
  all : ∀ W, SimpW h w one other W → W ∈ x.M ∨ ∃ p ∈ x.S, p <+: W
  sz : x.M.length + muW (h * w) x.S ≤ 349525
theorem Tw_pos (n : Nat) : 1 ≤ Tw n := by cases n <;> simp [Tw]
theorem muW_len (N : Nat) (S : List (List C)) : S.length ≤ muW N S := by
  induction S with
  | nil => simp [muW]
  | cons p S ih =>
    have := Tw_pos (N - p.length)
    have e : muW N (p :: S) = Tw (N - p.length) + muW N S := rfl
    rw [e, List.length_cons]
    omega
theorem Tw_mono : ∀ {m n : Nat}, m ≤ n → Tw m ≤ Tw n
  | 0, n, _ => Tw_pos n
  | m + 1, 0, h => by omega
  | m + 1, n + 1, h => by
    have := Tw_mono (m := m) (n := n) (by omega)
    simp only [Tw]
    omega
section
variable {L : List (List Int)} {h w : Nat} {s : Sto}
def extW (h w : Nat) (p : List C) (c : C) : List (List C) := ((besideL h w c).filter fun o => !decide (o ∈ p)).map fun o => p ++ [o]
theorem co_all_ok (hL : Land L h w) (a b : C) (M S : List (List C)) (q : List C) (c : C) (hq : q.length ≤ 100) (s : Sto) :
    co_law_all_0 (Eal L a b ⟨M, S, .sh (encCs (q ++ [c]))⟩) s = .ok (.lst ((extW h w (q ++ [c]) c).map encCs)) (Eal L a b ⟨M, S, .sh (encCs (q ++ [c]))⟩) s := by
  have bb := law_beside_ok hL c s
  have eb : (cellsL h w).filter (nearB c) = besideL h w c := rfl
  rw [eb] at bb
  unfold extW
  rw [List.map_map]
  have li := last_ix q c
  refine eComp_pure (besideL h w c) encC (fun o => !decide (o ∈ q ++ [c])) _ ?_ rfl fun o ho => ⟨[.sh (encL L), .sh (encC a), .sh (encC b), .ow (.lst (M.map encCs)), .ow (.lst (S.map encCs)), .sh (encCs (q ++ [c])), .sh (encC o)], rfl, rfl, ?_, fun hp => ?_⟩
  · simp only [iOf, eCall, eL, e2, Opd.run, eV, Eal, List.getElem?_cons_zero, List.getElem?_cons_succ, R.bind_ok, e1, eC, look, Option.bind_some, pNeg, opt_some, encCs, li, List.append_nil, bb, FR.at_ok, itemsOf]
  · have := pNotIn_cells o (q ++ [c])
    simp only [e2, Opd.run, eV, List.getElem?_cons_zero, List.getElem?_cons_succ, R.bind_ok, look, Option.bind_some, encCs, this, opt_some]
  · have hz : (q ++ [c]).length + 1 ≤ SZ := by simp only [SZ, List.length_append, List.length_singleton]; omega
    have : pAdd (encCs (q ++ [c])) (.lst [encC o]) = some (encCs (q ++ [c] ++ [o])) := by
      simp only [pAdd, encCs, List.length_map, List.length_singleton, lim_of hz, if_true]
      simp
    simp only [e2, Opd.run, eV, List.getElem?_cons_zero, List.getElem?_cons_succ, R.bind_ok, look, Option.bind_some, eLst, eL, this, opt_some]
    rfl
theorem PreW.len {a b : C} {p : List C} (P : PreW h w a b p) : p.length ≤ h * w := by
  rw [← cellsL_len]
  exact nodup_len P.nd (fun c hc => mem_cellsL.mpr (P.ok.cells c hc)) (cellsL_nodup h w)
theorem law_all_ok (hL : Land L h w) (h3 : h ≤ 3) (w3 : w ≤ 3) {a b : C} (ha : InL h w a) : ∃ M, py_law_all [encL L, encC a, encC b] s = .ok (.lst (M.map encCs)) s ∧ AllW h w a b M ∧ M.length ≤ 349525 := by
  have hw9 : h * w ≤ 9 := Nat.mul_le_mul h3 w3
  obtain ⟨y, e, I, hy⟩ := sWhile_sp (c := e2 pNe (.b 4) (.v (eLst []))) (b := sSeq (sSet false 5 (ePop 4)) (sIf (e2 pEq (.v (e2 pIx (.v (eV 5)) (.v (e1 pNeg (.v (eC (.int 1))))))) (.v (eV 2))) (sAppend 3 (eV 5)) (sExtend 4 co_law_all_0))) (s := s)
    (Eal L a b) (AlI h w a b) (fun x => muW (h * w) x.S) (fun x => AlI h w a b x ∧ x.S = [])
    ⟨[], [[a]], .no⟩ (by
      refine ⟨by simp, fun p hp => ?_, fun W hW => .inr ⟨[a], by simp, ?_⟩, ?_⟩
      · rw [List.mem_singleton.mp hp]
        exact ⟨⟨by simp, fun x hx => by rw [List.mem_singleton.mp hx]; exact ha, by simp [chainB, prs]⟩, rfl, by simp⟩
      · have := hW.hd
        cases W with
        | nil => cases this
        | cons x t => simp at this; subst this; exact ⟨t, rfl⟩
      · simp only [muW, List.map_cons, List.map_nil, List.sum_cons, List.sum_nil, wtW, List.length_singleton, List.length_nil]
        have : Tw (h * w - 1) ≤ Tw 9 := Tw_mono (by omega)
        have : Tw 9 = 349525 := by decide
        omega) (by
      simp only [muW, List.map_cons, List.map_nil, List.sum_cons, List.sum_nil, wtW, List.length_singleton]
      have : Tw (h * w - 1) ≤ Tw 9 := Tw_mono (by omega)
      have : Tw 9 = 349525 := by decide
      omega) (fun x I => by
      have q1 : e2 pNe (.b 4) (.v (eLst [])) (Eal L a b x) s = .ok (.bool !x.S.isEmpty) (Eal L a b x) s := by
        have := pNe_nil_parts x.S
        simp [Eal, -pNe, this]
      by_cases hS : x.S = []
      · rw [hS] at q1
        exact .inr ⟨q1, I, hS⟩
      · left
        obtain ⟨Q, p, hQ⟩ := last_of hS
        have hne : x.S.isEmpty = false := by cases q : x.S with | nil => exact absurd q hS | cons _ _ => rfl
        rw [hne] at q1
        have P := I.s p (by rw [hQ]; simp)
        obtain ⟨q, c, hp⟩ := last_of P.ok.ne
        have pl := P.len
        have hmu : muW (h * w) x.S = muW (h * w) Q + wtW (h * w) p := by rw [hQ]; simp [muW]
        have st1 : sSet false 5 (ePop 4) (Eal L a b x) s = .ok .nx (Eal L a b ⟨x.M, Q, .sh (encCs p)⟩) s := by
          have gl : (x.S.map encCs).getLast? = some (encCs p) := by rw [hQ]; simp
          have dl : (x.S.map encCs).dropLast = Q.map encCs := by rw [hQ]; simp
          simp [Eal, gl, dl]
        have li := last_ix q c
        have cnd : e2 pEq (.v (e2 pIx (.v (eV 5)) (.v (e1 pNeg (.v (eC (.int 1))))))) (.v (eV 2)) (Eal L a b ⟨x.M, Q, .sh (encCs p)⟩) s = .ok (.bool (decide (c = b))) (Eal L a b ⟨x.M, Q, .sh (encCs p)⟩) s := by
          have := pEq_encC c b
          simp only [Pk.e2, Opd.run, eV, Eal, List.getElem?_cons_zero, List.getElem?_cons_succ, R.bind_ok, Pk.e1, eC, look, Option.bind_some, pNeg, opt_some, encCs, hp, li, this]
        by_cases hcb : c = b
        · subst hcb
          refine ⟨⟨x.M ++ [p], Q, .sh (encCs p)⟩, q1, ?_, ⟨fun W hW => ?_, fun r hr => I.s r (by rw [hQ]; exact List.mem_append_left _ hr), fun W hW => ?_, ?_⟩, ?_⟩
          · rw [sSeq_nx' st1, sIf_true (cnd.trans (by rw [decide_eq_true rfl]))]
            have : x.M.length < SZ := by have := I.sz; simp only [SZ]; omega
            simp [Eal, this]
          · rcases List.mem_append.mp hW with hW | hW
            · exact I.m W hW
            · rw [List.mem_singleton.mp hW]
              exact ⟨P.ok, P.hd, by rw [hp]; simp, P.nd⟩
          · rcases I.all W hW with k | ⟨r, hr, k⟩
            · exact .inl (List.mem_append_left _ k)
            · rw [hQ] at hr
              rcases List.mem_append.mp hr with hr | hr
              · exact .inr ⟨r, hr, k⟩
              · left
                rw [List.mem_singleton.mp hr] at k
                obtain ⟨t, rfl⟩ := k
                have : t = [] := by
                  cases t with
                  | nil => rfl
                  | cons d t =>
                    have l1 := hW.ls
                    rw [List.getLast?_append, List.getLast?_eq_getLast (l := d :: t) (by simp)] at l1
                    have c1 : c ∈ d :: t := by
                      simp only [Option.some_or, Option.some.injEq] at l1
                      rw [← l1]
                      exact List.getLast_mem _
                    have c2 : c ∈ p := by rw [hp]; simp
                    exact absurd rfl ((List.nodup_append.mp hW.nd).2.2 c c2 c c1)
                rw [this, List.append_nil]
                simp
          · have := I.sz
            rw [hmu] at this
            have := Tw_pos (h * w - p.length)
            simp only [List.length_append, List.length_singleton]
            unfold wtW at *
            omega
          · simp only
            rw [hmu]
            have := Tw_pos (h * w - p.length)
            unfold wtW
            omega
        · have co := co_all_ok hL a b x.M Q q c (by rw [hp] at pl; simp at pl; omega) s
          rw [← hp] at co
          have l4 : (extW h w p c).length ≤ 4 := by
            unfold extW
            rw [List.length_map]
            exact Nat.le_trans (List.length_filter_le _ _) (besideL_len h w c)
          have hcI : InL h w c := P.ok.cells c (by rw [hp]; simp)
          have mE : ∀ r, r ∈ extW h w p c ↔ ∃ o, (InL h w o ∧ nearB c o = true) ∧ o ∉ p ∧ r = p ++ [o] := fun r => by
            unfold extW
            rw [List.mem_map]
            constructor
            · rintro ⟨o, ho, rfl⟩
              have := List.mem_filter.mp ho
              exact ⟨o, mem_besideL.mp this.1, by simpa using this.2, rfl⟩
            · rintro ⟨o, h1, h2, rfl⟩
              exact ⟨o, List.mem_filter.mpr ⟨mem_besideL.mpr h1, by simpa using h2⟩, rfl⟩
          have hmu2 : muW (h * w) (Q ++ extW h w p c) < muW (h * w) x.S := by
            rw [hmu]
            unfold muW
            rw [List.map_append, List.sum_append]
            by_cases hlt : p.length < h * w
            · have : ((extW h w p c).map (wtW (h * w))).sum ≤ (extW h w p c).length * Tw (h * w - (p.length + 1)) := sum_const fun r hr => by
                obtain ⟨o, _, _, rfl⟩ := (mE r).mp hr
                simp [wtW]
              have h2 : (extW h w p c).length * Tw (h * w - (p.length + 1)) ≤ 4 * Tw (h * w - (p.length + 1)) := Nat.mul_le_mul_right _ l4
              have h3 : wtW (h * w) p = 1 + 4 * Tw (h * w - (p.length + 1)) := by
                unfold wtW
                rw [show h * w - p.length = (h * w - (p.length + 1)) + 1 by omega, Tw]
              omega
            · have : extW h w p c = [] := by
                cases q : extW h w p c with
                | nil => rfl
                | cons r R =>
                  obtain ⟨o, h1, h2, rfl⟩ := (mE r).mp (by rw [q]; simp)
                  have := nodup_len (l := o :: p) (cs := cellsL h w) (List.nodup_cons.mpr ⟨h2, P.nd⟩) (fun y hy => mem_cellsL.mpr (by
                    rcases List.mem_cons.mp hy with rfl | hy
                    · exact h1.1
                    · exact P.ok.cells y hy)) (cellsL_nodup h w)
                  rw [cellsL_len, List.length_cons] at this
                  omega
              rw [this]
              have := Tw_pos (h * w - p.length)
              simp [wtW]
              omega
          refine ⟨⟨x.M, Q ++ extW h w p c, .sh (encCs p)⟩, q1, ?_, ⟨I.m, fun r hr => ?_, fun W hW => ?_, ?_⟩, hmu2⟩
          · rw [sSeq_nx' st1, sIf_false (cnd.trans (by rw [decide_eq_false hcb]))]
            have hz : Q.length + (extW h w p c).length ≤ SZ := by
              have := I.sz
              have := muW_len (h * w) Q
              simp only [SZ]
              omega
            simp only [Eal] at co
            simp [Eal, co, hz]
          · rcases List.mem_append.mp hr with hr | hr
            · exact I.s r (by rw [hQ]; exact List.mem_append_left _ hr)
            · obtain ⟨o, h1, h2, rfl⟩ := (mE r).mp hr
              refine ⟨?_, ?_, ?_⟩
              · have := P.ok
                rw [hp] at this ⊢
                exact this.more h1.1 h1.2
              · have := P.hd
                cases p with
                | nil => cases this
                | cons d t => exact this
              · rw [List.nodup_append]
                exact ⟨P.nd, by simp, fun y hy d hd e => by rw [List.mem_singleton.mp hd] at e; rw [e] at hy; exact h2 hy⟩
          · rcases I.all W hW with k | ⟨r, hr, k⟩
            · exact .inl k
            · right
              rw [hQ] at hr
              rcases List.mem_append.mp hr with hr | hr
              · exact ⟨r, List.mem_append_left _ hr, k⟩
              · rw [List.mem_singleton.mp hr] at k
                obtain ⟨t, rfl⟩ := k
                cases t with
                | nil =>
                  have := hW.ls
                  rw [List.append_nil, hp] at this
                  simp at this
                  exact absurd this hcb
                | cons o t =>
                  refine ⟨p ++ [o], List.mem_append_right _ ((mE _).mpr ⟨o, ⟨hW.ok.cells o (by simp), ?_⟩, ?_, rfl⟩), ⟨t, by simp⟩⟩
                  · have nr := hW.ok.near
                    unfold chainB at nr
                    rw [List.all_eq_true] at nr
                    refine nr (c, o) ?_
                    rw [hp]
                    have : ∀ (q : List C), (c, o) ∈ prs (q ++ [c] ++ o :: t) := fun q => by
                      induction q with
                      | nil => simp [prs]
                      | cons d q ih =>
                        cases q with
                        | nil => simp [prs]
                        | cons d2 q => exact List.mem_cons_of_mem _ ih
                    exact this q
                  · intro q
                    exact absurd rfl ((List.nodup_append.mp hW.nd).2.2 o q o (by simp))
          · have := I.sz
            simp only
            omega)
  refine ⟨y.M, fnOf_rt (r := (Eal L a b y).set 3 (.sh (.lst (y.M.map encCs)))) rfl ?_, fun W => ⟨I.m W, fun hW => ?_⟩, by have := I.sz; omega⟩
  · unfold bo_law_all
    rw [sSeq_nx' (r1 := Eal L a b ⟨[], [[a]], .no⟩) (s1 := s) (by simp [startL, Eal, encCs])]
    have e' : wh_law_all_0 (Eal L a b ⟨[], [[a]], .no⟩) s = .ok .nx (Eal L a b y) s := e
    rw [sSeq_nx' e']
    simp [Eal]
  · rcases I.all W hW with k | ⟨r, hr, _⟩
    · exact k
    · rw [hy] at hr; cases hr
end
end Pk
/-! Sptf: earth by walks; _law_round. -/
namespace Pk
open PySem (Str)
def sumW (p : C → Int) (W : List C) : Int := (W.map p).sum
theorem sumW_rev (p : C → Int) (W : List C) : sumW p W.reverse = sumW p W := by
  unfold sumW
  rw [List.map_reverse]
  induction W.map p with
  | nil => rfl
  | cons a l ih => rw [List.reverse_cons, List.sum_append, ih]; simp; omega
section
variable {L : List (List Int)} {h w : Nat} {p : C → Int} {one other : C}
theorem WkL.earth {c : C} {l : List C} {x : Pc} (h1 : InL h w one) (hw : WkL (eEa h w p) one (p one, 0) c l x) : x = (sumW p l, 0) ∧ WalkOk h w l ∧ l.getLast? = some one := by
  induction hw with
  | nil => exact ⟨by simp [sumW], ⟨by simp, fun x hx => by rw [List.mem_singleton.mp hx]; exact h1, by simp [chainB, prs]⟩, rfl⟩
  | @cons o c l x i he hw ih =>
    obtain ⟨⟨q1, q2, q3⟩, rfl⟩ := eEa_some.mp he
    obtain ⟨rfl, i2, i3⟩ := ih
    obtain ⟨t, rfl⟩ := hw.hd
    refine ⟨?_, i2.cons q1 (by rw [nearB_comm]; exact q3), by rw [List.getLast?_cons_cons]; exact i3⟩
    simp [addP, sumW]
    omega
theorem walk_earth : ∀ {W : List C} {a : C}, WalkOk h w W → W.head? = some a → W.getLast? = some one → Wk (eEa h w p) one (p one, 0) a (sumW p W, 0)
  | [], a, _, h1, _ => by cases h1
  | [x], a, hW, h1, h2 => by
    simp at h1 h2
    subst h1 h2
    have : sumW p [x] = p x := by simp [sumW]
    rw [this]
    exact .nil
  | x :: y :: W, a, hW, h1, h2 => by
    simp at h1
    subst h1
    obtain ⟨t1, t2, t3⟩ := hW.tail
    have I := walk_earth (a := y) t1 rfl (by rw [List.getLast?_cons_cons] at h2; exact h2)
    have := Wk.cons (E := eEa h w p) (eEa_some.mpr ⟨⟨t3, hW.cells y (by simp), by rw [nearB_comm]; exact t2⟩, rfl⟩) I
    have e : addP (sumW p (y :: W), 0) (p x, 0) = (sumW p (x :: y :: W), 0) := by
      simp [addP, sumW]
      omega
    rw [e] at this
    exact this
/-- the least that the cells of a walk cost together -/
structure IsEarth (h w : Nat) (p : C → Int) (one other : C) (e : Int) : Prop where
  att : ∃ W, SimpW h w one other W ∧ sumW p W = e
  least : ∀ W, WalkOk h w W → W.head? = some one → W.getLast? = some other → e ≤ sumW p W
theorem IsEarth.uniq {d e : Int} (h1 : IsEarth h w p one other d) (h2 : IsEarth h w p one other e) : d = e := by
  obtain ⟨W, S, rfl⟩ := h1.att
  obtain ⟨W', S', rfl⟩ := h2.att
  have := h1.least W' S'.ok S'.hd S'.ls
  have := h2.least W S.ok S.hd S.ls
  omega
theorem IsEarth.symm {e : Int} (h1 : IsEarth h w p one other e) : IsEarth h w p other one e := by
  obtain ⟨W, S, rfl⟩ := h1.att
  refine ⟨⟨W.reverse, S.rev, sumW_rev p W⟩, fun W' k1 k2 k3 => ?_⟩
  have := h1.least W'.reverse k1.rev (by rw [List.head?_reverse]; exact k3) (by rw [List.getLast?_reverse]; exact k2)
  rw [sumW_rev p W'] at this
  exact this
theorem IsBest.earth (B : PeB h w p) (h1 : InL h w one) {x : Pc} (hb : IsBest (eEa h w p) one (p one, 0) other x) : IsEarth h w p one other x.1 := by
  obtain ⟨l, y, k1, k2, k3⟩ := hb.1.simple B.edges
  obtain ⟨rfl, w1, w2⟩ := k1.earth h1
  have k4 := k3.antisymm (hb.2 _ k1.wk)
  rw [← k4]
  obtain ⟨t, rfl⟩ := k1.hd
  refine ⟨⟨(other :: t).reverse, SimpW.rev ⟨w1, rfl, w2, k2⟩, sumW_rev p _⟩, fun W q1 q2 q3 => ?_⟩
  have := hb.2 _ (walk_earth (p := p) q1.rev (by rw [List.head?_reverse]; exact q3) (by rw [List.getLast?_reverse]; exact q2))
  rw [← k4, sumW_rev p W] at this
  simp only [leQ, ltQ] at this ⊢
  omega
theorem fill_earth (hL : Land L h w) (h1 : InL h w one) (h2 : InL h w other) {low : Int} (hl : 0 ≤ low ∧ low ≤ 999) : IsEarth h w (fillP L low) one other (earthN h w (fillP L low) one other) := by
  obtain ⟨k, hb⟩ := (earth_for_ok (j := 5) (Lt := [(5, ly_least_fill_0)]) (s := St 0) hL h1 h2 rfl (caps := [encL L, .int low]) (by simp [dep_encL]) rfl (fill_B hL hl) fun o ho => fill_lam hL ho low _).2
  exact hb.earth (fill_B hL hl) h1
end
/-! ### _law_round -/
structure RoSt where
  F : List C
  v : C → Pc
  g : Bool
  z5 : Sl
  z6 : Sl
  z7 : Sl
abbrev Ero (L : List (List Int)) (a : C) (low : Int) (x : RoSt) : Env := [.sh (encL L), .sh (encC a), .sh (.int low), .ow (dC x.F (vE x.v)), .sh (.bool x.g), x.z5, x.z6, x.z7, .no]
section
variable {L : List (List Int)} {h w : Nat} {g : C} {low : Int} {s : Sto}
def candR (L : List (List Int)) (h w : Nat) (low : Int) (F : List C) (v : C → Pc) (o : C) : List Int := ((besideL h w o).filter fun c => decide (c ∈ F)).map fun c => (v c).1 + fillP L low o
theorem co_round_ok (hL : Land L h w) (F : List C) (v : C → Pc) (gb : Bool) (o : C) (z7 : Sl) (s : Sto) :
    co_law_round_0 (Ero L g low ⟨F, v, gb, .sh (encC o), .sh (.int (fillP L low o)), z7⟩) s = .ok (.lst ((candR L h w low F v o).map .int)) (Ero L g low ⟨F, v, gb, .sh (encC o), .sh (.int (fillP L low o)), z7⟩) s := by
  have b := law_beside_ok hL o s
  have eb : (cellsL h w).filter (nearB o) = besideL h w o := rfl
  rw [eb] at b
  unfold candR
  rw [List.map_map]
  refine eComp_pure (besideL h w o) encC (fun c => decide (c ∈ F)) _ (by simp [Ero, b]) rfl fun c hc => ⟨[.sh (encL L), .sh (encC g), .sh (.int low), .ow (dC F (vE v)), .sh (.bool gb), .sh (encC o), .sh (.int (fillP L low o)), z7, .sh (encC c)], rfl, rfl, ?_, fun hp => ?_⟩
  · simp [pInD_C]
  · have hp : c ∈ F := by simpa using hp
    simp [pIxD_C (vE v) hp]
abbrev PIr (L : List (List Int)) (h w : Nat) (low : Int) (g : C) (F : List C) (v : C → Pc) : Prop := PI (eEa h w (fillP L low)) g (fillP L low g, 0) (cellsL h w) F v (fun _ => True)
theorem ro_step (hL : Land L h w) (hl : 0 ≤ low ∧ low ≤ 999) (hg : InL h w g) {F : List C} {v : C → Pc} (I : PIr L h w low g F v) (gb : Bool) {o : C} (ho : InL h w o) (z6 z7 : Sl) :
    ∃ y : RoSt, fo_law_round_0 (Ero L g low ⟨F, v, gb, .sh (encC o), z6, z7⟩) s = .ok .nx (Ero L g low y) s ∧ PIr L h w low g y.F y.v ∧
      ((y.g = gb ∧ y.F = F ∧ y.v = v ∧ ∀ c, StillQ (eEa h w (fillP L low)) F v o c) ∨ (y.g = true ∧ muP (cellsL h w) y.F y.v < muP (cellsL h w) F v)) := by
  have hE := (fill_B hL hl).edges
  have c64 := cells64 hL.hr.2 hL.hw.2
  have hz0 : 0 ≤ (fillP L low g, (0 : Int)).1 ∧ (fillP L low g, (0 : Int)).1 ≤ 999 ∧ (fillP L low g, (0 : Int)).2 = 0 := ⟨((fill_B hL hl).bd g hg).1, ((fill_B hL hl).bd g hg).2, rfl⟩
  have a1 := law_high_ok hL ho s
  have hF := (few hL.hr.2 hL.hw.2 I.nd fun x hx => mem_cellsL.mp (I.sub x hx)).2
  have z0 : ∀ x ∈ F, (v x).2 = 0 := fun x hx => by
    obtain ⟨l, hl⟩ := I.sw x hx
    exact hl.wk.snd
  have bd : ∀ x ∈ F, (v x).1 ≤ 63936 := fun x hx => (I.bd hE (cellsL_nodup h w) c64 hz0 hx).2.1
  have co := co_round_ok (g := g) (low := low) hL F v gb o z7 s
  obtain ⟨C1, hC1⟩ : ∃ C1, C1 = candR L h w low F v o := ⟨_, rfl⟩
  rw [← hC1] at co
  have mC : ∀ m, m ∈ C1 ↔ ∃ c, c ∈ F ∧ InL h w c ∧ nearB o c = true ∧ m = (v c).1 + fillP L low o := fun m => by
    rw [hC1]
    unfold candR
    rw [List.mem_map]
    constructor
    · rintro ⟨c, hc, rfl⟩
      have := List.mem_filter.mp hc
      exact ⟨c, by simpa using this.2, (mem_besideL.mp this.1).1, (mem_besideL.mp this.1).2, rfl⟩
    · rintro ⟨c, h1, h2, h3, rfl⟩
      exact ⟨c, List.mem_filter.mpr ⟨mem_besideL.mpr ⟨h2, h3⟩, by simpa using h1⟩, rfl⟩
  have st : fo_law_round_0 (Ero L g low ⟨F, v, gb, .sh (encC o), z6, z7⟩) s = sIf (eAnd (e2 pNe (.v (eV 7)) (.v (eLst []))) (e2 pLt (.v (e1 pMinD (.v (eV 7)))) (.v (eGetD 3 (eV 5) (e2 pPow (.v (eC (.int 10))) (.v (eC (.int 9)))))))) (sPut2 3 4 (eV 5) (e1 pMinD (.v (eV 7))) (eC (.bool true))) sNil (Ero L g low ⟨F, v, gb, .sh (encC o), .sh (.int (fillP L low o)), .sh (.lst (C1.map .int))⟩) s := by
    unfold fo_law_round_0
    rw [sSeq_nx' (r1 := Ero L g low ⟨F, v, gb, .sh (encC o), .sh (.int (fillP L low o)), z7⟩) (s1 := s) (by simp [Ero, a1, fillP])]
    rw [sSeq_nx' (r1 := Ero L g low ⟨F, v, gb, .sh (encC o), .sh (.int (fillP L low o)), .sh (.lst (C1.map .int))⟩) (s1 := s) (by simp only [sSet, co, R.bind_ok]; rfl)]
  rw [st]
  have ne := pNe_nil_ints C1
  have still : (∀ m ∈ C1, ∀ c ∈ F, m = (v c).1 + fillP L low o → o ∈ F ∧ (v o).1 ≤ m) → ∀ c, StillQ (eEa h w (fillP L low)) F v o c := fun k c i hi hc => by
    obtain ⟨⟨q1, q2, q3⟩, rfl⟩ := eEa_some.mp hi
    obtain ⟨k1, k2⟩ := k _ ((mC _).mpr ⟨c, hc, q2, by rw [nearB_comm]; exact q3, rfl⟩) c hc rfl
    have := z0 o k1
    have := z0 c hc
    refine ⟨k1, ?_⟩
    simp only [leQ, ltQ, addP]
    omega
  by_cases he : C1 = []
  · refine ⟨⟨F, v, gb, .sh (encC o), .sh (.int (fillP L low o)), .sh (.lst (C1.map .int))⟩, ?_, I, .inl ⟨rfl, rfl, rfl, still fun m hm => by rw [he] at hm; cases hm⟩⟩
    rw [he] at ne ⊢
    simp only [List.map_nil, List.isEmpty_nil, Bool.not_true] at ne
    simp [Ero, -pNe, ne]
  · obtain ⟨m, m1, m2, m3, _⟩ := pMin_ints _ he
    have hne : C1.isEmpty = false := by cases q : C1 with | nil => exact absurd q he | cons _ _ => rfl
    rw [hne, Bool.not_false] at ne
    obtain ⟨r, hr⟩ : ∃ r, r = Ero L g low ⟨F, v, gb, .sh (encC o), .sh (.int (fillP L low o)), .sh (.lst (C1.map .int))⟩ := ⟨_, rfl⟩
    have gt : eGetD 3 (eV 5) (e2 pPow (.v (eC (.int 10))) (.v (eC (.int 9)))) r s = .ok (.int (getN F (fun x => (v x).1) o 1000000000)) r s := by
      have q := pGetN F (fun x => (v x).1) o 1000000000
      have tk := isTK_C F
      have pw : pPow (.int 10) (.int 9) = some (.int 1000000000) := by
        have : lim ((0 : Int) ≤ 9 ∧ (9 : Int) ≤ 1000000 ∧ (10 : Int).natAbs < 2 ^ 64) = true := lim_of (by decide)
        simp only [pPow, pInt2, this, if_true]
        rfl
      rw [hr]
      unfold eGetD
      simp only [dC] at q
      simp only [Ero, look, dC, List.getElem?_cons_succ, List.getElem?_cons_zero, tk, if_true, eL, eV, R.bind_ok, e2, Opd.run, eC, Option.bind_some, pw, opt_some, q]
    have cnd : eAnd (e2 pNe (.v (eV 7)) (.v (eLst []))) (e2 pLt (.v (e1 pMinD (.v (eV 7)))) (.v (eGetD 3 (eV 5) (e2 pPow (.v (eC (.int 10))) (.v (eC (.int 9))))))) r s = .ok (.bool (decide (m < getN F (fun x => (v x).1) o 1000000000))) r s := by
      have a1 : e2 pNe (.v (eV 7)) (.v (eLst [])) r s = .ok (.bool true) r s := by
        rw [hr]
        simp [Ero, -pNe, ne]
      have a2 : e1 pMinD (.v (eV 7)) r s = .ok (.int m) r s := by
        rw [hr]
        simp [Ero, m3]
      unfold eAnd
      simp only [a1, R.bind_ok]
      simp only [e2, Opd.run, a2, R.bind_ok, gt, look, Option.bind_some, pLt, pInt2, if_true, opt_some]
    rw [← hr]
    obtain ⟨c, c1, c2, c3, c4⟩ := (mC m).mp m1
    have hei : eEa h w (fillP L low) o c = some (fillP L low o, 0) := eEa_some.mpr ⟨⟨ho, c2, by rw [nearB_comm]; exact c3⟩, rfl⟩
    by_cases hlt : m < getN F (fun x => (v x).1) o 1000000000
    · have hrel : o ∉ F ∨ ltQ (addP (v c) (fillP L low o, 0)) (v o) := by
        unfold getN at hlt
        by_cases q : o ∈ F
        · have hlt : m < (v o).1 := by rw [if_pos q] at hlt; exact hlt
          right
          simp only [ltQ, addP]
          omega
        · exact .inl q
      refine ⟨⟨addK F o, updP v o (addP (v c) (fillP L low o, 0)), true, .sh (encC o), .sh (.int (fillP L low o)), .sh (.lst (C1.map .int))⟩, ?_, (I.relax hE c1 hei hrel).pmono fun _ _ _ => trivial, .inr ⟨rfl, I.relax_mu hE (cellsL_nodup h w) c64 hz0 c1 hei hrel⟩⟩
      simp only [sIf, cnd, R.bind_ok, hlt, decide_true]
      have pt := sPut2_C (i := 3) (j := 4) (mk := eV 5) (ma := e1 pMinD (.v (eV 7))) (mb := eC (.bool true)) (r := r) (r1 := r) (r2 := r) (s := s) (s1 := s) (s2 := s) (F := F) (G := F) (u := vE v) (v := vE v) (c := o) (d := .int m) (e := .bool true)
        (by rw [hr]; simp [Ero, m3]) (by rw [hr]; rfl) (by rw [hr]; simp [Ero]) (by rw [hr]; rfl) (by omega)
      have up := vE_upd v o (addP (v c) (fillP L low o, 0))
      have e1 : (addP (v c) (fillP L low o, 0)).1 = m := c4.symm
      rw [e1] at up
      rw [up] at pt
      rw [pt, hr]
      rfl
    · refine ⟨⟨F, v, gb, .sh (encC o), .sh (.int (fillP L low o)), .sh (.lst (C1.map .int))⟩, ?_, I, .inl ⟨rfl, rfl, rfl, still fun m' hm' c' hc' e' => ?_⟩⟩
      · rw [← hr]
        simp only [sIf, cnd, R.bind_ok, hlt, decide_false, sNil]
      · have := m2 m' hm'
        unfold getN at hlt
        by_cases q : o ∈ F
        · have hlt : ¬ m < (v o).1 := by rw [if_pos q] at hlt; exact hlt
          exact ⟨q, by omega⟩
        · rw [if_neg q] at hlt
          have := bd c c1
          have := ((fill_B hL hl).bd o ho).2
          omega
theorem ro_round (hL : Land L h w) (hl : 0 ≤ low ∧ low ≤ 999) (hg : InL h w g) (x : RoSt) (hx : x.g = false) (I : PIr L h w low g x.F x.v) :
    ∃ y, forL (.n 5) fo_law_round_0 ((cellsL h w).map encC) (Ero L g low x) s = .ok .nx (Ero L g low y) s ∧ PIr L h w low g y.F y.v ∧ (y.g = true → muP (cellsL h w) y.F y.v < muP (cellsL h w) x.F x.v) ∧ (y.g = false → ∀ o c, StillQ (eEa h w (fillP L low)) y.F y.v o c) := by
  obtain ⟨y, e, J1, J2, J3, J4⟩ := forL_st (g := .n 5) (b := fo_law_round_0) (s := s) encC (Ero L g low) (fun k y => PIr L h w low g y.F y.v ∧ muP (cellsL h w) y.F y.v ≤ muP (cellsL h w) x.F x.v ∧ (y.g = true → muP (cellsL h w) y.F y.v < muP (cellsL h w) x.F x.v) ∧ (y.g = false → y.F = x.F ∧ y.v = x.v ∧ ∀ o ∈ (cellsL h w).take k, ∀ c, StillQ (eEa h w (fillP L low)) x.F x.v o c)) (cellsL h w) 0 x
    ⟨I, Nat.le_refl _, (fun q => by rw [hx] at q; cases q), fun _ => ⟨rfl, rfl, fun a hd => by simp at hd⟩⟩ (fun j o hj y R => by
      have ho : InL h w o := mem_cellsL.mp (List.mem_of_getElem? hj)
      obtain ⟨F, v, gb, z5, z6, z7⟩ := y
      obtain ⟨R1, R2, R3, R4⟩ := R
      simp only at R1 R2 R3 R4
      obtain ⟨u, q, P, r⟩ := ro_step (s := s) hL hl hg R1 gb ho z6 z7
      refine ⟨_, u, rfl, q, P, ?_⟩
      rcases r with ⟨r1, r2, r3, r4⟩ | ⟨r1, r2⟩
      · rw [r1, r2, r3]
        refine ⟨R2, R3, fun q => ?_⟩
        obtain ⟨e1, e2, k⟩ := R4 q
        refine ⟨e1, e2, fun a ha => ?_⟩
        rw [Nat.zero_add] at ha k
        rw [List.take_succ, hj] at ha
        rcases List.mem_append.mp ha with r | r
        · exact k a r
        · simp at r
          rw [r, ← e1, ← e2]
          exact r4
      · exact ⟨by omega, fun _ => by omega, fun q => by rw [r1] at q; cases q⟩)
  refine ⟨y, e, J1, J3, fun q o c i hi hc => ?_⟩
  obtain ⟨e1, e2, k⟩ := J4 q
  rw [e1] at hc ⊢
  rw [e2]
  exact k o (by rw [Nat.zero_add, List.take_length]; exact mem_cellsL.mpr (eEa_some.mp hi).1.1) c i hi hc
theorem law_round_ok (hL : Land L h w) (hl : 0 ≤ low ∧ low ≤ 999) (hg : InL h w g) (s : Sto) : ∃ F v, py_law_round [encL L, encC g, .int low] s = .ok (dC F (vE v)) s ∧ ∀ c, InL h w c → c ∈ F ∧ IsEarth h w (fillP L low) g c (v c).1 := by
  have hE := (fill_B hL hl).edges
  have c64 := cells64 hL.hr.2 hL.hw.2
  have hz0 : 0 ≤ (fillP L low g, (0 : Int)).1 ∧ (fillP L low g, (0 : Int)).1 ≤ 999 ∧ (fillP L low g, (0 : Int)).2 = 0 := ⟨((fill_B hL hl).bd g hg).1, ((fill_B hL hl).bd g hg).2, rfl⟩
  have I0 : PIr L h w low g [g] (fun _ => (fillP L low g, 0)) := ⟨by simp, fun x hx => by rw [List.mem_singleton.mp hx]; exact mem_cellsL.mpr hg, by simp, fun x hx => by rw [List.mem_singleton.mp hx]; exact ⟨[g], .nil (by simp) (.refl _)⟩, fun x hx hp => absurd trivial hp⟩
  obtain ⟨y, e, I, st, hf⟩ := sWhile_sp (c := eV 4) (b := sSeq (sSet false 4 (eC (.bool false))) (sFor (iOf (eCall py_law_cells [(eV 0)] [])) (.n 5) fo_law_round_0)) (s := s) (Ero L g low)
    (fun x => PIr L h w low g x.F x.v ∧ (x.g = false → ∀ o c, StillQ (eEa h w (fillP L low)) x.F x.v o c)) (fun x => if x.g then 1 + muP (cellsL h w) x.F x.v else 0) (fun x => PIr L h w low g x.F x.v ∧ (∀ o c, StillQ (eEa h w (fillP L low)) x.F x.v o c) ∧ x.g = false)
    ⟨[g], fun _ => (fillP L low g, 0), true, .no, .no, .no⟩ ⟨I0, fun q => by cases q⟩ (by
      have := muP_le I0 hE (cellsL_nodup h w) c64 hz0
      simp only [if_true]
      omega) (fun x hI => by
      obtain ⟨F, v, gb, z5, z6, z7⟩ := x
      obtain ⟨I, hI⟩ := hI
      cases gb with
      | true =>
        left
        obtain ⟨y, e, I', k1, k2⟩ := ro_round (s := s) hL hl hg ⟨F, v, false, z5, z6, z7⟩ rfl I
        refine ⟨y, rfl, ?_, ⟨I', k2⟩, ?_⟩
        · rw [← e]
          simp [Ero, law_cells_ok hL]
        · simp only [if_true]
          cases q : y.g with
          | true => have := k1 q; simp only [if_true] at this ⊢; omega
          | false => simp only [Bool.false_eq_true, if_false]; omega
      | false => exact .inr ⟨rfl, I, hI rfl, rfl⟩)
  have P : PI (eEa h w (fillP L low)) g (fillP L low g, 0) (cellsL h w) y.F y.v (fun _ => False) := ⟨I.nd, I.sub, I.hg, I.sw, fun c hc _ o i he => st o c i he hc⟩
  have B := P.best
  refine ⟨y.F, y.v, fnOf_rt (r := (Ero L g low y).set 3 (.sh (dC y.F (vE y.v)))) rfl ?_, fun c hc => ?_⟩
  · unfold bo_law_round
    rw [sSeq_nx' (r1 := Ero L g low ⟨[g], fun _ => (fillP L low g, 0), true, .no, .no, .no⟩) (s1 := s) (by simp [startL, eDct1, keyOf_encC, Ero, dC_one, law_high_ok hL hg, fillP])]
    have e' : wh_law_round_0 (Ero L g low ⟨[g], fun _ => (fillP L low g, 0), true, .no, .no, .no⟩) s = .ok .nx (Ero L g low y) s := e
    rw [sSeq_nx' e']
    simp [Ero]
  · obtain ⟨x0, hx0⟩ := Wk.reach (h := h) (w := w) (p := fillP L low) (z := (fillP L low g, 0)) (grid_conn (fun _ _ => rfl) hg hc) hg
    have hF : c ∈ y.F := (B.mem c).mpr ⟨x0, hx0⟩
    exact ⟨hF, (B.is hF).earth (fill_B hL hl) hg⟩
end
end Pk
/-! Sptg: the order of data is one; min of any data. -/
namespace Pk
open PySem (Str)
theorem nat_lt_tri : ∀ a b : List Nat, a < b ∨ a = b ∨ b < a
  | [], [] => .inr (.inl rfl)
  | [], y :: b => .inl (by simp)
  | x :: a, [] => .inr (.inr (by simp))
  | x :: a, y :: b => by
    rcases Nat.lt_trichotomy x y with h | h | h
    · exact .inl (List.cons_lt_cons_iff.mpr (.inl h))
    · subst h
      rcases nat_lt_tri a b with h | h | h
      · exact .inl (List.cons_lt_cons_iff.mpr (.inr ⟨rfl, h⟩))
      · exact .inr (.inl (by rw [h]))
      · exact .inr (.inr (List.cons_lt_cons_iff.mpr (.inr ⟨rfl, h⟩)))
    · exact .inr (.inr (List.cons_lt_cons_iff.mpr (.inl h)))
theorem tok_tri (a b : Tok) : tokLt a b = true ∨ a = b ∨ tokLt b a = true := by
  cases a with
  | inl a => cases b with
    | inl b =>
      simp only [tokLt, decide_eq_true_eq]
      rcases Int.lt_trichotomy a b with h | h | h
      · exact .inl h
      · exact .inr (.inl (by rw [h]))
      · exact .inr (.inr h)
    | inr b => exact .inl rfl
  | inr a => cases b with
    | inl b => exact .inr (.inr rfl)
    | inr b =>
      simp only [tokLt, decide_eq_true_eq]
      rcases nat_lt_tri a b with h | h | h
      · exact .inl h
      · exact .inr (.inl (by rw [h]))
      · exact .inr (.inr h)
theorem tok_ir (a : Tok) : tokLt a a = false := by
  cases a with
  | inl a => simp [tokLt]
  | inr a => simp [tokLt, List.lt_irrefl]
theorem tok_tr {a b c : Tok} (h1 : tokLt a b = true) (h2 : tokLt b c = true) : tokLt a c = true := by
  cases a <;> cases b <;> cases c <;> simp only [tokLt, decide_eq_true_eq, Bool.false_eq_true] at h1 h2 ⊢
  · omega
  · exact List.lt_trans h1 h2
theorem toks_cons_iff {x y : Tok} {r t : List Tok} : toksLt (x :: r) (y :: t) = true ↔ tokLt x y = true ∨ (x = y ∧ toksLt r t = true) := by
  simp only [toksLt, Bool.or_eq_true, Bool.and_eq_true, Bool.not_eq_true']
  constructor
  · rintro (h | ⟨h1, h2⟩)
    · exact .inl h
    · rcases tok_tri x y with q | q | q
      · exact .inl q
      · exact .inr ⟨q, h2⟩
      · rw [h1] at q; cases q
  · rintro (h | ⟨rfl, h2⟩)
    · exact .inl h
    · exact .inr ⟨tok_ir x, h2⟩
theorem toks_tri : ∀ a b : List Tok, toksLt a b = true ∨ a = b ∨ toksLt b a = true
  | [], [] => .inr (.inl rfl)
  | [], y :: b => .inl rfl
  | x :: a, [] => .inr (.inr rfl)
  | x :: a, y :: b => by
    rw [toks_cons_iff, toks_cons_iff]
    rcases tok_tri x y with h | h | h
    · exact .inl (.inl h)
    · subst h
      rcases toks_tri a b with h | h | h
      · exact .inl (.inr ⟨rfl, h⟩)
      · exact .inr (.inl (by rw [h]))
      · exact .inr (.inr (.inr ⟨rfl, h⟩))
    · exact .inr (.inr (.inl h))
theorem toks_tr : ∀ {a b c : List Tok}, toksLt a b = true → toksLt b c = true → toksLt a c = true
  | [], [], _, h1, _ => by cases h1
  | [], _ :: _, [], _, h2 => by cases h2
  | [], _ :: _, _ :: _, _, _ => rfl
  | _ :: _, [], _, h1, _ => by cases h1
  | _ :: _, _ :: _, [], _, h2 => by cases h2
  | x :: a, y :: b, z :: c, h1, h2 => by
    rw [toks_cons_iff] at h1 h2 ⊢
    rcases h1 with h1 | ⟨rfl, h1⟩
    · rcases h2 with h2 | ⟨rfl, h2⟩
      · exact .inl (tok_tr h1 h2)
      · exact .inl h1
    · rcases h2 with h2 | ⟨rfl, h2⟩
      · exact .inl h2
      · exact .inr ⟨rfl, toks_tr h1 h2⟩
theorem ord_D : Ord D.lt := ⟨fun x y z h1 h2 => toks_tr h1 h2, fun x y z h => by
  unfold D.lt at *
  rcases toks_tri x.toks y.toks with q | q | q
  · exact .inl q
  · rw [q] at h; exact .inr h
  · exact .inr (toks_tr q h), fun x => lt_irr _⟩
theorem pMin_any {α : Type} (enc : α → D) (l : List α) (hd : ∀ x ∈ l, (enc x).dep 62 = true) (ha : ∀ x y, (enc x).alk (enc y) = true) (hne : l ≠ []) :
    ∃ m ∈ l, (∀ y ∈ l, (enc y).lt (enc m) = false) ∧ pMinD (.lst (l.map enc)) = some (enc m) := by
  obtain ⟨m, h1, h2, h3, _⟩ := pMin_map enc (lt := fun x y => (enc x).lt (enc y)) ⟨fun x y z => ord_D.tr _ _ _, fun x y z => ord_D.nt _ _ _, fun x => ord_D.ir _⟩ (fun _ _ => rfl) l hd ha hne
  exact ⟨m, h1, h2, h3⟩
theorem lt_fst {a b : Int} {x y : List D} (h : (D.tup (.int a :: x)).lt (.tup (.int b :: y)) = false) : b ≤ a := by
  unfold D.lt at h
  simp only [toks_tup, toksL_cons, toks_int, List.cons_append, List.nil_append, toksLt_ii] at h
  simp at h
  exact h.1
end Pk
/-! Spv0: one step at a time. -/
namespace Pk
theorem e1_v {p : D → Option D} {a : M D} {r r1 : Env} {s s1 : Sto} {d x : D} (h1 : a r s = .ok d r1 s1) (h2 : p d = some x) : e1 p (.v a) r s = .ok x r1 s1 := by simp [h1, h2]
theorem sAppend_of {i : Nat} {e : M D} {r r1 : Env} {s s1 : Sto} {l l' : List D} {d : D} (h1 : r[i]? = some (.ow (.lst l))) (h2 : e r s = .ok d r1 s1) (h3 : r1[i]? = some (.ow (.lst l'))) (h4 : l'.length < SZ) : sAppend i e r s = .ok .nx (r1.set i (.ow (.lst (l' ++ [d])))) s1 := by
  simp only [sAppend, h1, h2, R.bind_ok, h3, lim_of h4, if_true]
theorem eL_nil {r : Env} {s : Sto} : eL [] r s = .ok [] r s := rfl
theorem eL_cons {m : M D} {ms : List (M D)} {r r1 r2 : Env} {s s1 s2 : Sto} {d : D} {ds : List D} (h1 : m r s = .ok d r1 s1) (h2 : eL ms r1 s1 = .ok ds r2 s2) : eL (m :: ms) r s = .ok (d :: ds) r2 s2 := by simp only [eL, h1, R.bind_ok, h2]
theorem eTup_of {ms : List (M D)} {r r1 : Env} {s s1 : Sto} {ds : List D} (h : eL ms r s = .ok ds r1 s1) : eTup ms r s = .ok (.tup ds) r1 s1 := by simp only [eTup, h, R.bind_ok]
theorem eV_sh {i : Nat} {r : Env} {s : Sto} {d : D} (h : r[i]? = some (.sh d)) : eV i r s = .ok d r s := by simp only [eV, h]
end Pk
/-! Sx_k28: fills. -/
namespace Pk
open PySem (Str)
theorem mkL_succ (h w : Nat) (g : Int × Int → Int) : mkL (h + 1) w g = mkL h w g ++ [(List.range w).map fun (j : Nat) => g ((h : Int), (j : Int))] := by simp [mkL, List.range_succ]
/-- a walk by cells no lower -/
theorem wide_walk {L : List (List Int)} {h w : Nat} {a b : C} {lv : Int} (ha : InL h w a) (hd : lv ≤ hAt L a) (r : RG h w (dry L lv) a b) : ∃ W, WalkOk h w W ∧ W.head? = some a ∧ W.getLast? = some b ∧ ∀ x ∈ W, lv ≤ hAt L x := by
  induction r with
  | refl => exact ⟨[a], ⟨by simp, fun x hx => by rw [List.mem_singleton.mp hx]; exact ha, by simp [chainB, prs]⟩, rfl, rfl, fun x hx => by rw [List.mem_singleton.mp hx]; exact hd⟩
  | @step x y r hn hp ih =>
    obtain ⟨W, h1, h2, h3, h4⟩ := ih
    obtain ⟨q, c, rfl⟩ := last_of h1.ne
    simp at h3
    subst h3
    refine ⟨q ++ [c] ++ [y], h1.more hp.1 hn, ?_, by simp, fun z hz => ?_⟩
    · cases q with
      | nil => exact h2
      | cons d t => exact h2
    · rcases List.mem_append.mp hz with hz | hz
      · exact h4 z hz
      · rw [List.mem_singleton.mp hz]; exact dry_iff.mp hp.2
theorem fillP_nn (L : List (List Int)) (low : Int) (c : C) : 0 ≤ fillP L low c := by unfold fillP; split <;> omega
theorem fillP_zero {L : List (List Int)} {low : Int} {c : C} : fillP L low c = 0 ↔ low ≤ hAt L c := by unfold fillP; split <;> omega
theorem sumW_nn {p : C → Int} (hp : ∀ c, 0 ≤ p c) : ∀ W : List C, 0 ≤ sumW p W
  | [] => by simp [sumW]
  | c :: W => by
    have := sumW_nn hp W
    have := hp c
    simp only [sumW, List.map_cons, List.sum_cons] at *
    omega
theorem sumW_zero {p : C → Int} (hp : ∀ c, 0 ≤ p c) : ∀ {W : List C}, sumW p W = 0 → ∀ c ∈ W, p c = 0
  | [], _, c, hc => by cases hc
  | d :: W, h0, c, hc => by
    have h1 := sumW_nn hp W
    have h2 := hp d
    simp only [sumW, List.map_cons, List.sum_cons] at h0 h1
    rcases List.mem_cons.mp hc with rfl | hc
    · omega
    · exact sumW_zero hp (W := W) (by simp only [sumW]; omega) c hc
theorem sumW_all0 {p : C → Int} : ∀ {W : List C}, (∀ c ∈ W, p c = 0) → sumW p W = 0
  | [], _ => rfl
  | d :: W, h0 => by
    have := sumW_all0 (W := W) fun c hc => h0 c (List.mem_cons_of_mem _ hc)
    have := h0 d (by simp)
    simp only [sumW, List.map_cons, List.sum_cons] at *
    omega
theorem earth_zero {L : List (List Int)} {h w : Nat} {a b : C} {low e v : Int} (ha : InL h w a) (he : IsEarth h w (fillP L low) a b e) (hp : IsPass L h w a b v) : e = 0 ↔ low ≤ v := by
  obtain ⟨W, S, eW⟩ := he.att
  have nn := sumW_nn (fillP_nn L low) W
  constructor
  · intro e0
    rw [e0] at eW
    exact hp.2 _ (walk_wide S.ok S.hd S.ls fun x hx => fillP_zero.mp (sumW_zero (fillP_nn L low) eW x hx))
  · intro hl
    have d := hp.1.down hl
    obtain ⟨W', k1, k2, k3, k4⟩ := wide_walk ha d.1 d.2
    have := he.least W' k1 k2 k3
    rw [sumW_all0 fun x hx => fillP_zero.mpr (k4 x hx)] at this
    omega
section
variable (ns : List Int) (L : List (List Int)) (a b : C) (low : Int)
noncomputable abbrev E28 (x6 x7 x8 x9 x10 x11 x12 x13 x14 x15 : Sl) : Env := [.sh (.scr ns), .sh .town, .sh (encL L), .sh (encC a), .sh (encC b), .sh (.int low), x6, x7, x8, x9, x10, x11, x12, x13, x14, x15, .no, .no, .no]
def encB (p : C → Int) (W : List C) : D := .tup [.int (sumW p W), encCs W]
variable {h w : Nat} (s : Sto)
theorem co1_ok (hL : Land L h w) {W : List C} (hW : ∀ c ∈ W, InL h w c) (x6 : Sl) :
    co_law_1 (E28 ns L a b low x6 (.sh (encCs W)) .no .no .no .no .no .no .no .no) s = .ok (.lst ((W.map (fillP L low)).map .int)) (E28 ns L a b low x6 (.sh (encCs W)) .no .no .no .no .no .no .no .no) s := by
  rw [List.map_map]
  refine eComp_map W encC _ (by simp [E28, encCs]) rfl fun x hx => ⟨[.sh (.scr ns), .sh .town, .sh (encL L), .sh (encC a), .sh (encC b), .sh (.int low), x6, .sh (encCs W), .no, .no, .no, .no, .no, .no, .no, .no, .sh (encC x), .no, .no], rfl, rfl, ?_⟩
  simp [law_high_ok hL (hW x hx), fillP]
theorem loop1 (hL : Land L h w) {M : List (List C)} (hM : ∀ W ∈ M, ∀ c ∈ W, InL h w c) (hlen : M.length ≤ 400000) :
    ∃ x7, forL (.n 7) fo_law_1 (M.map encCs) (E28 ns L a b low (.ow (.lst [])) .no .no .no .no .no .no .no .no .no) s = .ok .nx (E28 ns L a b low (.ow (.lst (M.map (encB (fillP L low))))) x7 .no .no .no .no .no .no .no .no) s := by
  obtain ⟨⟨B, x7⟩, e, hB⟩ := forL_st (g := .n 7) (b := fo_law_1) (s := s) encCs (fun x : List (List C) × Sl => E28 ns L a b low (.ow (.lst (x.1.map (encB (fillP L low))))) x.2 .no .no .no .no .no .no .no .no) (fun k x => x.1 = M.take k) M 0 ([], .no) (by simp) (fun j W hj x hI => by
    obtain ⟨B, z⟩ := x
    simp only at hI
    rw [Nat.zero_add] at hI
    have hj1 := (List.getElem?_eq_some_iff.mp hj).1
    have lB : B.length < SZ := by rw [hI, List.length_take]; simp only [SZ]; omega
    have co := co1_ok ns L a b low s hL (hM W (List.mem_of_getElem? hj)) (.ow (.lst (B.map (encB (fillP L low)))))
    have su : pSum (.lst ((W.map (fillP L low)).map .int)) = some (.int (sumW (fillP L low) W)) := by
      simp only [pSum, intsOf_map, Option.map_some, sumW]
    refine ⟨_, (B ++ [W], .sh (encCs W)), rfl, ?_, ?_⟩
    · unfold fo_law_1
      exact sAppend_of (l := B.map (encB (fillP L low))) (l' := B.map (encB (fillP L low))) rfl (eTup_of (eL_cons (e1_v co su) (eL_cons (eV_sh rfl) eL_nil))) rfl (by rw [List.length_map]; exact lB) |>.trans (by rw [List.map_append]; rfl)
    · simp only
      rw [Nat.zero_add, List.take_succ, hj, hI]
      rfl)
  rw [Nat.zero_add, List.take_length] at hB
  simp only at hB
  subst hB
  exact ⟨x7, e⟩
def fillG (L : List (List Int)) (low : Int) (W : List C) (c : C) : Int := if c ∈ W then (if low > hAt L c then low else hAt L c) else hAt L c
theorem co0_ok (hL : Land L h w) (W : List C) (i : Nat) (hi : i < h) (x6 x7 x9 : Sl) :
    co_law_0 (E28 ns L a b low x6 x7 (.sh (encCs W)) x9 (.sh (.int i)) (.sh (encR (L.getD i []))) .no .no .no .no) s = .ok (.lst (((List.range w).map fun (j : Nat) => fillG L low W ((i : Int), (j : Int))).map .int)) (E28 ns L a b low x6 x7 (.sh (encCs W)) x9 (.sh (.int i)) (.sh (encR (L.getD i []))) .no .no .no .no) s := by
  have hr := (row_get hL (i := (i : Int)) (by omega) (by omega)).2
  have er : rowAt L (i : Int) = L.getD i [] := by simp [rowAt]
  rw [er] at hr
  have nb := numbered_of D.int (L.getD i []) 0
  rw [hr] at nb
  rw [List.map_map]
  refine eComp_map (List.range w) (fun (k : Nat) => .tup [.int (k : Int), .int ((L.getD i []).getD k 0)]) _ (by simp only [iEnumA, eV, E28, encR, List.getElem?_cons_zero, List.getElem?_cons_succ, R.bind_ok, nb]) rfl fun j hj => ⟨[.sh (.scr ns), .sh .town, .sh (encL L), .sh (encC a), .sh (encC b), .sh (.int low), x6, x7, .sh (encCs W), x9, .sh (.int i), .sh (encR (L.getD i [])), .no, .no, .no, .no, .no, .sh (.int j), .sh (.int ((L.getD i []).getD j 0))], setT_2 _ _ _ _ _, rfl, ?_⟩
  have eh : hAt L ((i : Int), (j : Int)) = (L.getD i []).getD j 0 := by
    unfold hAt
    rw [er]
    rfl
  have pn := pIn_cells ((i : Int), (j : Int)) W
  have ee : encC ((i : Int), (j : Int)) = .tup [.int (i : Int), .int (j : Int)] := rfl
  rw [ee] at pn
  have cd : e2 pIn (.v (eTup [(eV 10), (eV 17)])) (.v (eV 8)) [.sh (.scr ns), .sh .town, .sh (encL L), .sh (encC a), .sh (encC b), .sh (.int low), x6, x7, .sh (encCs W), x9, .sh (.int i), .sh (encR (L.getD i [])), .no, .no, .no, .no, .no, .sh (.int j), .sh (.int ((L.getD i []).getD j 0))] s = .ok (.bool (decide (((i : Int), (j : Int)) ∈ W))) [.sh (.scr ns), .sh .town, .sh (encL L), .sh (encC a), .sh (encC b), .sh (.int low), x6, x7, .sh (encCs W), x9, .sh (.int i), .sh (encR (L.getD i [])), .no, .no, .no, .no, .no, .sh (.int j), .sh (.int ((L.getD i []).getD j 0))] s := by
    simp only [e2, Opd.run, eTup, eL, eV, List.getElem?_cons_zero, List.getElem?_cons_succ, R.bind_ok, look, Option.bind_some, encCs, pn, opt_some]
  simp only [Function.comp, fillG, eh]
  unfold eIte
  simp only [cd, R.bind_ok]
  by_cases hm : ((i : Int), (j : Int)) ∈ W
  · simp [hm]
  · simp [hm]
theorem loop0 (hL : Land L h w) (W : List C) (x6 x7 : Sl) :
    ∃ x10 x11, sFor (iEnumA (eV 2)) (.t [(.n 10), (.n 11)]) fo_law_0 (E28 ns L a b low x6 x7 (.sh (encCs W)) (.ow (.lst [])) .no .no .no .no .no .no) s = .ok .nx (E28 ns L a b low x6 x7 (.sh (encCs W)) (.ow (.lst ((mkL h w (fillG L low W)).map encR))) x10 x11 .no .no .no .no) s := by
  obtain ⟨⟨K, x10, x11⟩, e, hK⟩ := forL_st (g := .t [(.n 10), (.n 11)]) (b := fo_law_0) (s := s) (fun (k : Nat) => D.tup [.int (k : Int), encR (L.getD k [])]) (fun x : List (List Int) × Sl × Sl => E28 ns L a b low x6 x7 (.sh (encCs W)) (.ow (.lst (x.1.map encR))) x.2.1 x.2.2 .no .no .no .no) (fun k x => x.1 = mkL k w (fillG L low W)) (List.range h) 0 ([], .no, .no) (by simp [mkL]) (fun j i hj x hI => by
    obtain ⟨K, z1, z2⟩ := x
    simp only at hI
    rw [Nat.zero_add] at hI
    obtain ⟨hj1, hj2⟩ := List.getElem?_eq_some_iff.mp hj
    rw [List.getElem_range] at hj2
    rw [List.length_range] at hj1
    subst hj2
    have h8 := hL.hr
    have lK : K.length < SZ := by rw [hI]; simp only [SZ, mkL, List.length_map, List.length_range]; omega
    have co := co0_ok ns L a b low s hL W j hj1 x6 x7 (.ow (.lst (K.map encR)))
    refine ⟨_, (K ++ [(List.range w).map fun (k : Nat) => fillG L low W ((j : Int), (k : Int))], .sh (.int j), .sh (encR (L.getD j []))), setT_2 _ _ _ _ _, ?_, ?_⟩
    · unfold fo_law_0
      exact sAppend_of (l := K.map encR) (l' := K.map encR) rfl (e1_v (p := pTup) co rfl) rfl (by rw [List.length_map]; exact lK) |>.trans (by rw [List.map_append]; rfl)
    · simp only
      rw [Nat.zero_add, mkL_succ, hI])
  rw [Nat.zero_add, List.length_range] at hK
  simp only at hK
  refine ⟨x10, x11, ?_⟩
  have en := numbered_of encR L []
  rw [hL.rows] at en
  rw [← hK, ← e]
  simp only [sFor, iEnumA, eV, E28, encL, List.getElem?_cons_succ, List.getElem?_cons_zero, R.bind_ok, en, List.map_nil]
end
theorem law_ok (ns : List Int) (hn : ns.length ≤ 63) : ∃ s', py_law [.scr ns] ⟨none, []⟩ = .ok (.bool true) s' := by
  obtain ⟨L, h, w, n, hL, h3, w3, _, hn1, l1⟩ := land_ok ns hn 3 0 (by omega) (by omega)
  have l1 : py_law_land [.scr ns, .town, .int 3] ⟨some 0, []⟩ = .ok (encL L) (St n) := l1
  obtain ⟨a, ha, l2⟩ := pick_cell ns n hn (by omega) hL.hr.1 hL.hw.1
  obtain ⟨b, hb, l3⟩ := pick_cell ns (n + 1) hn (by omega) hL.hr.1 hL.hw.1
  obtain ⟨k, hk, l4⟩ := draw_ok ns (n + 1 + 1) 1000 hn (by omega) (by omega)
  have l4 : py_law_draw [.scr ns, .town, .int 1000] (St (n + 1 + 1)) = .ok (.int (k : Int)) (St (n + 1 + 1 + 1)) := l4
  obtain ⟨d, hd, l5⟩ := pick_ok ns (n + 1 + 1 + 1) [.int 0, .int 1, .int 2, .int 3, .int 5, .int 999, .int k] hn (by omega) (by simp)
  obtain ⟨low, rfl, hl⟩ : ∃ sl, d = .int sl ∧ 0 ≤ sl ∧ sl ≤ 999 := by
    simp only [List.mem_cons, List.not_mem_nil, or_false] at hd
    rcases hd with rfl | rfl | rfl | rfl | rfl | rfl | rfl <;> exact ⟨_, rfl, by omega, by omega⟩
  obtain ⟨m, hm⟩ : ∃ m, m = n + 1 + 1 + 1 + 1 := ⟨_, rfl⟩
  rw [← hm] at l5
  have hj : Lt.lookup 5 = some ly_least_fill_0 := rfl
  obtain ⟨M, m1, hM, lM⟩ := law_all_ok (s := St m) (b := b) hL h3 w3 ha
  have ie := fill_earth hL ha hb hl
  have lf := least_fill_ok (Lt := Lt) (s := St m) hL hj rfl ha hb hl
  obtain ⟨W0, S0, es0⟩ := ie.att
  have hMne : M ≠ [] := fun q => by have := (hM W0).mpr S0; rw [q] at this; cases this
  obtain ⟨x7, f1⟩ := loop1 ns L a b low (St m) hL (fun W hW => ((hM W).mp hW).ok.cells) (M := M) (by omega)
  obtain ⟨W, hW, hmin, mn⟩ := pMin_any (encB (fillP L low)) M (fun W _ => by simp [encB, encCs, dep_cells 61]) (fun x y => by simp [encB, D.alk, alkL, alk_encCs]) hMne
  have S := (hM W).mp hW
  have eW : sumW (fillP L low) W = earthN h w (fillP L low) a b := by
    have h1 := ie.least W S.ok S.hd S.ls
    have h2 := lt_fst (hmin W0 ((hM W0).mpr S0))
    omega
  obtain ⟨x10, x11, f0⟩ := loop0 ns L a b low (St m) hL W (.ow (.lst (M.map (encB (fillP L low))))) x7
  have hK : Land (mkL h w (fillG L low W)) h w := mkL_land hL.hr hL.hw _ fun c hc => by
    have := hAt_bd hL hc
    unfold fillG
    split
    · split <;> omega
    · omega
  obtain ⟨v, iv, _⟩ := pass_ex hK (by omega) (by omega) ha hb
  have pb := pass_between_ok hK (by omega) (by omega) ha hb iv (St m)
  have hv : ¬ v < low := by
    have := iv.2 low (walk_wide S.ok S.hd S.ls fun x hx => by
      rw [mkL_at h w _ (S.ok.cells x hx), fillG, if_pos hx]
      split <;> omega)
    omega
  obtain ⟨L2, h2, w2, n2, hL2, h6, w6, _, hn2, l6⟩ := land_ok ns hn 6 m (by omega) (by omega)
  have l6 : py_law_land [.scr ns, .town, .int 6] (St m) = .ok (encL L2) (St n2) := l6
  obtain ⟨c, hc, l7⟩ := pick_cell ns n2 hn (by omega) hL2.hr.1 hL2.hw.1
  obtain ⟨F, u, r1, hF⟩ := law_round_ok hL2 hl hc (St (n2 + 1))
  obtain ⟨d, hd, l8⟩ := pick_cell ns (n2 + 1) hn (by omega) hL2.hr.1 hL2.hw.1
  obtain ⟨s, hs⟩ : ∃ s, s = St (n2 + 1 + 1) := ⟨_, rfl⟩
  rw [← hs] at l8
  have hs0 : s.o = [] := by rw [hs]; rfl
  have i1 := fill_earth hL2 hc hd hl
  have i2 := fill_earth hL2 hd hc hl
  have f2 := least_fill_ok (Lt := Lt) (s := s) hL2 hj hs0 hc hd hl
  have f3 := least_fill_ok (Lt := Lt) (s := s) hL2 hj hs0 hd hc hl
  rw [i1.uniq (hF d hd).2] at f2
  rw [i2.symm.uniq (hF d hd).2] at f3
  obtain ⟨v2, iv2, _⟩ := pass_ex hL2 (by omega) (by omega) hc hd
  have pb2 := pass_between_ok hL2 (by omega) (by omega) hc hd iv2 s
  have ez := earth_zero hc (hF d hd).2 iv2
  have g1 := pIxD_C (vE u) (hF d hd).1
  have sn := same_number_ok (u d).1 (u d).1 s
  rw [decide_eq_true rfl] at sn
  obtain ⟨B, hB⟩ : ∃ B, B = M.map (encB (fillP L low)) := ⟨_, rfl⟩
  rw [← hB] at f1 f0 mn
  have ixa : pIx (encB (fillP L low) W) (.int 0) = some (.int (earthN h w (fillP L low) a b)) := by rw [← eW]; exact ixT0 _ _
  have ixb : pIx (encB (fillP L low) W) (.int 1) = some (encCs W) := ixT1 _ _
  refine ⟨s, fnOf_rt (r := E28 ns L a b low (.ow (.lst B)) x7 (.sh (encCs W)) (.ow (.lst ((mkL h w (fillG L low W)).map encR))) x10 x11 (.sh (encL L2)) (.sh (encC c)) (.sh (dC F (vE u))) (.sh (encC d))) rfl ?_⟩
  unfold bo_law
  rw [sSeq_nx' (r1 := [.sh (.scr ns), .sh .town, .no, .no, .no, .no, .no, .no, .no, .no, .no, .no, .no, .no, .no, .no, .no, .no, .no]) (s1 := ⟨some 0, []⟩) (by simp [startL])]
  rw [sSeq_nx' (r1 := [.sh (.scr ns), .sh .town, .sh (encL L), .no, .no, .no, .no, .no, .no, .no, .no, .no, .no, .no, .no, .no, .no, .no, .no]) (s1 := St n) (by simp [l1])]
  rw [sSeq_nx' (r1 := [.sh (.scr ns), .sh .town, .sh (encL L), .sh (encC a), .sh (encC b), .no, .no, .no, .no, .no, .no, .no, .no, .no, .no, .no, .no, .no, .no]) (s1 := St (n + 1 + 1)) (by simp [law_cells_ok hL, l2, l3])]
  rw [sSeq_nx' (r1 := E28 ns L a b low .no .no .no .no .no .no .no .no .no .no) (s1 := St m) (by simp [l4, l5])]
  rw [sSeq_nx' (r1 := E28 ns L a b low (.ow (.lst [])) .no .no .no .no .no .no .no .no .no) (s1 := St m) (by simp [E28])]
  rw [sSeq_nx' (r1 := E28 ns L a b low (.ow (.lst B)) x7 .no .no .no .no .no .no .no .no) (s1 := St m) (by
    rw [← f1]
    simp only [Pk.sSeq, Pk.sNil, Pk.sRet, Pk.sExpr, Pk.sSet, Pk.sPar, Pk.sIf, Pk.sAppend, Pk.sExtend, Pk.sAsg, Pk.eC, Pk.eV, Pk.Opd.run, Pk.look, Pk.e1, Pk.e2, Pk.e3, Pk.eL, Pk.eTup, Pk.eLst, Pk.eCall, Pk.FR.at_ok, Pk.eAnd, Pk.eOr, Pk.eNot, Pk.eIte, Pk.iOf, Pk.itemsOf, Pk.opt_some, Pk.R.bind_ok, List.getElem?_cons_zero, List.getElem?_cons_succ, List.append_nil, List.nil_append, List.cons_append, List.set_cons_zero, List.set_cons_succ, Option.bind_some, if_true, Bool.not_true, Bool.not_false, decide_true, decide_false, Pk.pNeg, if_false, Bool.false_eq_true, sFor, E28, m1])]
  rw [sSeq_nx' (r1 := E28 ns L a b low (.ow (.lst B)) x7 .no .no .no .no .no .no .no .no) (s1 := St m) (by
    simp only [Pk.sSeq, Pk.sNil, Pk.sRet, Pk.sExpr, Pk.sSet, Pk.sPar, Pk.sIf, Pk.sAppend, Pk.sExtend, Pk.sAsg, Pk.eC, Pk.eV, Pk.Opd.run, Pk.look, Pk.e1, Pk.e2, Pk.e3, Pk.eL, Pk.eTup, Pk.eLst, Pk.eCall, Pk.FR.at_ok, Pk.eAnd, Pk.eOr, Pk.eNot, Pk.eIte, Pk.iOf, Pk.itemsOf, Pk.opt_some, Pk.R.bind_ok, List.getElem?_cons_zero, List.getElem?_cons_succ, List.append_nil, List.nil_append, List.cons_append, List.set_cons_zero, List.set_cons_succ, Option.bind_some, if_true, Bool.not_true, Bool.not_false, decide_true, decide_false, Pk.pNeg, if_false, Bool.false_eq_true, E28, lf, mn, ixa, pNe_int])]
  rw [sSeq_nx' (r1 := E28 ns L a b low (.ow (.lst B)) x7 (.sh (encCs W)) .no .no .no .no .no .no .no) (s1 := St m) (by
    simp only [Pk.sSeq, Pk.sNil, Pk.sRet, Pk.sExpr, Pk.sSet, Pk.sPar, Pk.sIf, Pk.sAppend, Pk.sExtend, Pk.sAsg, Pk.eC, Pk.eV, Pk.Opd.run, Pk.look, Pk.e1, Pk.e2, Pk.e3, Pk.eL, Pk.eTup, Pk.eLst, Pk.eCall, Pk.FR.at_ok, Pk.eAnd, Pk.eOr, Pk.eNot, Pk.eIte, Pk.iOf, Pk.itemsOf, Pk.opt_some, Pk.R.bind_ok, List.getElem?_cons_zero, List.getElem?_cons_succ, List.append_nil, List.nil_append, List.cons_append, List.set_cons_zero, List.set_cons_succ, Option.bind_some, if_true, Bool.not_true, Bool.not_false, decide_true, decide_false, Pk.pNeg, if_false, Bool.false_eq_true, E28, mn, ixb])]
  rw [sSeq_nx' (r1 := E28 ns L a b low (.ow (.lst B)) x7 (.sh (encCs W)) (.ow (.lst [])) .no .no .no .no .no .no) (s1 := St m) (by
    simp only [Pk.sSeq, Pk.sNil, Pk.sRet, Pk.sExpr, Pk.sSet, Pk.sPar, Pk.sIf, Pk.sAppend, Pk.sExtend, Pk.sAsg, Pk.eC, Pk.eV, Pk.Opd.run, Pk.look, Pk.e1, Pk.e2, Pk.e3, Pk.eL, Pk.eTup, Pk.eLst, Pk.eCall, Pk.FR.at_ok, Pk.eAnd, Pk.eOr, Pk.eNot, Pk.eIte, Pk.iOf, Pk.itemsOf, Pk.opt_some, Pk.R.bind_ok, List.getElem?_cons_zero, List.getElem?_cons_succ, List.append_nil, List.nil_append, List.cons_append, List.set_cons_zero, List.set_cons_succ, Option.bind_some, if_true, Bool.not_true, Bool.not_false, decide_true, decide_false, Pk.pNeg, if_false, Bool.false_eq_true, E28])]
  rw [sSeq_nx' f0]
  have pb' : py_pass_between [.tup ((mkL h w (fillG L low W)).map encR), encC a, encC b] (St m) = .ok (.int v) (St m) := pb
  rw [sSeq_nx' (r1 := E28 ns L a b low (.ow (.lst B)) x7 (.sh (encCs W)) (.ow (.lst ((mkL h w (fillG L low W)).map encR))) x10 x11 .no .no .no .no) (s1 := St m) (by
    simp only [Pk.sSeq, Pk.sNil, Pk.sRet, Pk.sExpr, Pk.sSet, Pk.sPar, Pk.sIf, Pk.sAppend, Pk.sExtend, Pk.sAsg, Pk.eC, Pk.eV, Pk.Opd.run, Pk.look, Pk.e1, Pk.e2, Pk.e3, Pk.eL, Pk.eTup, Pk.eLst, Pk.eCall, Pk.FR.at_ok, Pk.eAnd, Pk.eOr, Pk.eNot, Pk.eIte, Pk.iOf, Pk.itemsOf, Pk.opt_some, Pk.R.bind_ok, List.getElem?_cons_zero, List.getElem?_cons_succ, List.append_nil, List.nil_append, List.cons_append, List.set_cons_zero, List.set_cons_succ, Option.bind_some, if_true, Bool.not_true, Bool.not_false, decide_true, decide_false, Pk.pNeg, if_false, Bool.false_eq_true, E28, pTup, pb', pLt, pInt2, hv])]
  rw [sSeq_nx' (r1 := E28 ns L a b low (.ow (.lst B)) x7 (.sh (encCs W)) (.ow (.lst ((mkL h w (fillG L low W)).map encR))) x10 x11 (.sh (encL L2)) .no .no .no) (s1 := St n2) (by
    simp only [Pk.sSeq, Pk.sNil, Pk.sRet, Pk.sExpr, Pk.sSet, Pk.sPar, Pk.sIf, Pk.sAppend, Pk.sExtend, Pk.sAsg, Pk.eC, Pk.eV, Pk.Opd.run, Pk.look, Pk.e1, Pk.e2, Pk.e3, Pk.eL, Pk.eTup, Pk.eLst, Pk.eCall, Pk.FR.at_ok, Pk.eAnd, Pk.eOr, Pk.eNot, Pk.eIte, Pk.iOf, Pk.itemsOf, Pk.opt_some, Pk.R.bind_ok, List.getElem?_cons_zero, List.getElem?_cons_succ, List.append_nil, List.nil_append, List.cons_append, List.set_cons_zero, List.set_cons_succ, Option.bind_some, if_true, Bool.not_true, Bool.not_false, decide_true, decide_false, Pk.pNeg, if_false, Bool.false_eq_true, E28, l6])]
  rw [sSeq_nx' (r1 := E28 ns L a b low (.ow (.lst B)) x7 (.sh (encCs W)) (.ow (.lst ((mkL h w (fillG L low W)).map encR))) x10 x11 (.sh (encL L2)) (.sh (encC c)) .no .no) (s1 := St (n2 + 1)) (by
    simp only [Pk.sSeq, Pk.sNil, Pk.sRet, Pk.sExpr, Pk.sSet, Pk.sPar, Pk.sIf, Pk.sAppend, Pk.sExtend, Pk.sAsg, Pk.eC, Pk.eV, Pk.Opd.run, Pk.look, Pk.e1, Pk.e2, Pk.e3, Pk.eL, Pk.eTup, Pk.eLst, Pk.eCall, Pk.FR.at_ok, Pk.eAnd, Pk.eOr, Pk.eNot, Pk.eIte, Pk.iOf, Pk.itemsOf, Pk.opt_some, Pk.R.bind_ok, List.getElem?_cons_zero, List.getElem?_cons_succ, List.append_nil, List.nil_append, List.cons_append, List.set_cons_zero, List.set_cons_succ, Option.bind_some, if_true, Bool.not_true, Bool.not_false, decide_true, decide_false, Pk.pNeg, if_false, Bool.false_eq_true, E28, law_cells_ok hL2, l7])]
  rw [sSeq_nx' (r1 := E28 ns L a b low (.ow (.lst B)) x7 (.sh (encCs W)) (.ow (.lst ((mkL h w (fillG L low W)).map encR))) x10 x11 (.sh (encL L2)) (.sh (encC c)) (.sh (dC F (vE u))) .no) (s1 := St (n2 + 1)) (by
    simp only [Pk.sSeq, Pk.sNil, Pk.sRet, Pk.sExpr, Pk.sSet, Pk.sPar, Pk.sIf, Pk.sAppend, Pk.sExtend, Pk.sAsg, Pk.eC, Pk.eV, Pk.Opd.run, Pk.look, Pk.e1, Pk.e2, Pk.e3, Pk.eL, Pk.eTup, Pk.eLst, Pk.eCall, Pk.FR.at_ok, Pk.eAnd, Pk.eOr, Pk.eNot, Pk.eIte, Pk.iOf, Pk.itemsOf, Pk.opt_some, Pk.R.bind_ok, List.getElem?_cons_zero, List.getElem?_cons_succ, List.append_nil, List.nil_append, List.cons_append, List.set_cons_zero, List.set_cons_succ, Option.bind_some, if_true, Bool.not_true, Bool.not_false, decide_true, decide_false, Pk.pNeg, if_false, Bool.false_eq_true, E28, r1])]
  rw [sSeq_nx' (r1 := E28 ns L a b low (.ow (.lst B)) x7 (.sh (encCs W)) (.ow (.lst ((mkL h w (fillG L low W)).map encR))) x10 x11 (.sh (encL L2)) (.sh (encC c)) (.sh (dC F (vE u))) (.sh (encC d))) (s1 := s) (by
    simp only [Pk.sSeq, Pk.sNil, Pk.sRet, Pk.sExpr, Pk.sSet, Pk.sPar, Pk.sIf, Pk.sAppend, Pk.sExtend, Pk.sAsg, Pk.eC, Pk.eV, Pk.Opd.run, Pk.look, Pk.e1, Pk.e2, Pk.e3, Pk.eL, Pk.eTup, Pk.eLst, Pk.eCall, Pk.FR.at_ok, Pk.eAnd, Pk.eOr, Pk.eNot, Pk.eIte, Pk.iOf, Pk.itemsOf, Pk.opt_some, Pk.R.bind_ok, List.getElem?_cons_zero, List.getElem?_cons_succ, List.append_nil, List.nil_append, List.cons_append, List.set_cons_zero, List.set_cons_succ, Option.bind_some, if_true, Bool.not_true, Bool.not_false, decide_true, decide_false, Pk.pNeg, if_false, Bool.false_eq_true, E28, law_cells_ok hL2, l8])]
  rw [sSeq_nx' (r1 := E28 ns L a b low (.ow (.lst B)) x7 (.sh (encCs W)) (.ow (.lst ((mkL h w (fillG L low W)).map encR))) x10 x11 (.sh (encL L2)) (.sh (encC c)) (.sh (dC F (vE u))) (.sh (encC d))) (s1 := s) (by
    simp only [Pk.sSeq, Pk.sNil, Pk.sRet, Pk.sExpr, Pk.sSet, Pk.sPar, Pk.sIf, Pk.sAppend, Pk.sExtend, Pk.sAsg, Pk.eC, Pk.eV, Pk.Opd.run, Pk.look, Pk.e1, Pk.e2, Pk.e3, Pk.eL, Pk.eTup, Pk.eLst, Pk.eCall, Pk.FR.at_ok, Pk.eAnd, Pk.eOr, Pk.eNot, Pk.eIte, Pk.iOf, Pk.itemsOf, Pk.opt_some, Pk.R.bind_ok, List.getElem?_cons_zero, List.getElem?_cons_succ, List.append_nil, List.nil_append, List.cons_append, List.set_cons_zero, List.set_cons_succ, Option.bind_some, if_true, Bool.not_true, Bool.not_false, decide_true, decide_false, Pk.pNeg, if_false, Bool.false_eq_true, E28, f2, g1, sn])]
  rw [sSeq_nx' (r1 := E28 ns L a b low (.ow (.lst B)) x7 (.sh (encCs W)) (.ow (.lst ((mkL h w (fillG L low W)).map encR))) x10 x11 (.sh (encL L2)) (.sh (encC c)) (.sh (dC F (vE u))) (.sh (encC d))) (s1 := s) (by
    simp only [Pk.sSeq, Pk.sNil, Pk.sRet, Pk.sExpr, Pk.sSet, Pk.sPar, Pk.sIf, Pk.sAppend, Pk.sExtend, Pk.sAsg, Pk.eC, Pk.eV, Pk.Opd.run, Pk.look, Pk.e1, Pk.e2, Pk.e3, Pk.eL, Pk.eTup, Pk.eLst, Pk.eCall, Pk.FR.at_ok, Pk.eAnd, Pk.eOr, Pk.eNot, Pk.eIte, Pk.iOf, Pk.itemsOf, Pk.opt_some, Pk.R.bind_ok, List.getElem?_cons_zero, List.getElem?_cons_succ, List.append_nil, List.nil_append, List.cons_append, List.set_cons_zero, List.set_cons_succ, Option.bind_some, if_true, Bool.not_true, Bool.not_false, decide_true, decide_false, Pk.pNeg, if_false, Bool.false_eq_true, E28, f3, g1, pNe_int])]
  have eb : decide ((u d).1 = 0) = decide (low ≤ v2) := decide_eq_decide.mpr ez
  have q1 : pEq (.int (u d).1) (.int 0) = some (.bool (decide (low ≤ v2))) := by rw [← eb]; simp; rfl
  have q2 : pEq (.bool (decide (low ≤ v2))) (.bool (decide (low ≤ v2))) = some (.bool true) := by simp
  simp only [Pk.sSeq, Pk.sNil, Pk.sRet, Pk.sExpr, Pk.sSet, Pk.sPar, Pk.sIf, Pk.sAppend, Pk.sExtend, Pk.sAsg, Pk.eC, Pk.eV, Pk.Opd.run, Pk.look, Pk.e1, Pk.e2, Pk.e3, Pk.eL, Pk.eTup, Pk.eLst, Pk.eCall, Pk.FR.at_ok, Pk.eAnd, Pk.eOr, Pk.eNot, Pk.eIte, Pk.iOf, Pk.itemsOf, Pk.opt_some, Pk.R.bind_ok, List.getElem?_cons_zero, List.getElem?_cons_succ, List.append_nil, List.nil_append, List.cons_append, List.set_cons_zero, List.set_cons_succ, Option.bind_some, if_true, Bool.not_true, Bool.not_false, decide_true, decide_false, Pk.pNeg, if_false, Bool.false_eq_true, E28, g1, q1, pb2, pLe, pInt2, q2]
end Pk
/-! Br56: a list of new lists that only one slot knows: x = [e for ..], x[j][k] = v, x[j][k]. -/
namespace Pk
open PySem PySem.Spec PyProof.Rows L2
/-- rows that are kept aside -/
def RwL (cn : Cn) (lb : Lb) (H : Hp) : List Addr → List (List D) → Prop
  | as, [] => as = []
  | as, l :: R => ∃ r as' vs, as = r :: as' ∧ lb r = some .out ∧ H r = some (.lst vs) ∧ l.length ≤ SZ ∧ RepL cn lb H l vs ∧ RwL cn lb H as' R
theorem RwL.go {cn : Cn} {lb lb' : Lb} {H H' : Hp} (s : Stq lb H lb' H') : ∀ {as : List Addr} {R : List (List D)}, (∀ x ∈ as, lb x = some .out → lb' x = some .out ∧ H' x = H x) → RwL cn lb H as R → RwL cn lb' H' as R
  | as, [], _, h => h
  | as, l :: R, k, h => by
    obtain ⟨r, as', vs, rfl, h1, h2, h3, h4, h5⟩ := h
    obtain ⟨k1, k2⟩ := k r List.mem_cons_self h1
    exact ⟨r, as', vs, rfl, k1, by rw [k2]; exact h2, h3, h4.stq s, RwL.go s (fun x hx => k x (List.mem_cons_of_mem _ hx)) h5⟩
theorem RwL.stp {cn : Cn} {lb lb' : Lb} {H H' : Hp} (s : Stp lb H lb' H') {as : List Addr} {R : List (List D)} (h : RwL cn lb H as R) : RwL cn lb' H' as R := h.go s.q fun x _ e => s.out x e
theorem RwL.out {cn : Cn} {lb : Lb} {H : Hp} : ∀ {as : List Addr} {R : List (List D)}, RwL cn lb H as R → ∀ x ∈ as, lb x = some .out
  | as, [], h, x, hx => by have h : as = [] := h; subst h; cases hx
  | as, l :: R, h, x, hx => by
    obtain ⟨r, as', vs, rfl, h1, h2, h3, h4, h5⟩ := h
    rcases List.mem_cons.mp hx with e | e
    · rw [e]; exact h1
    · exact RwL.out h5 x e
theorem RwL.snoc {cn : Cn} {lb : Lb} {H : Hp} {p : Addr} {l : List D} {vs : List V} (e1 : lb p = some .out) (e2 : H p = some (.lst vs)) (e3 : l.length ≤ SZ) (e4 : RepL cn lb H l vs) :
    ∀ {as : List Addr} {R : List (List D)}, RwL cn lb H as R → RwL cn lb H (as ++ [p]) (R ++ [l])
  | as, [], h => by
    have h : as = [] := h
    subst h
    exact ⟨p, [], vs, rfl, e1, e2, e3, e4, rfl⟩
  | as, m :: R, h => by
    obtain ⟨r, as', ws, rfl, h1, h2, h3, h4, h5⟩ := h
    exact ⟨r, as' ++ [p], ws, rfl, h1, h2, h3, h4, RwL.snoc e1 e2 e3 e4 h5⟩
theorem RwL.len {cn : Cn} {lb : Lb} {H : Hp} : ∀ {as : List Addr} {R : List (List D)}, RwL cn lb H as R → as.length = R.length
  | as, [], h => by have h : as = [] := h; subst h; rfl
  | as, m :: R, h => by
    obtain ⟨r, as', ws, rfl, h1, h2, h3, h4, h5⟩ := h
    rw [List.length_cons, List.length_cons, RwL.len h5]
end Pk
/-! Br57: x[j][k] = v, x[j][k] of a matrix. -/
namespace Pk
open PySem PySem.Spec PyProof.Rows L2
theorem MtL.at {cn : Cn} {lb : Lb} {H : Hp} {i : Nat} : ∀ {as : List Addr} {R : List (List D)} {j : Nat} {l : List D}, MtL cn lb H i as R → R[j]? = some l → ∃ r vs, as[j]? = some r ∧ lb r = some (.loc i) ∧ H r = some (.lst vs) ∧ l.length ≤ SZ ∧ RepL cn lb H l vs
  | as, [], j, l, h, e => by simp at e
  | as, m :: R, 0, l, h, e => by
    obtain ⟨r, as', vs, rfl, h1, h2, h3, h4, h5⟩ := h
    simp at e
    subst e
    exact ⟨r, vs, rfl, h1, h2, h3, h4⟩
  | as, m :: R, j + 1, l, h, e => by
    obtain ⟨r, as', vs, rfl, h1, h2, h3, h4, h5⟩ := h
    obtain ⟨r', vs', q1, q2⟩ := MtL.at (j := j) h5 (by simpa using e)
    exact ⟨r', vs', by simpa using q1, q2⟩
theorem MtL.len {cn : Cn} {lb : Lb} {H : Hp} {i : Nat} : ∀ {as : List Addr} {R : List (List D)}, MtL cn lb H i as R → as.length = R.length
  | as, [], h => by have h : as = [] := h; subst h; rfl
  | as, m :: R, h => by
    obtain ⟨r, as', ws, rfl, h1, h2, h3, h4, h5⟩ := h
    rw [List.length_cons, List.length_cons, MtL.len h5]
theorem RepL.set {cn : Cn} {lb : Lb} {H : Hp} {d : D} {v : V} (r : Rep cn lb H d v) : ∀ {ds : List D} {vs : List V} {j : Nat}, RepL cn lb H ds vs → RepL cn lb H (ds.set j d) (vs.set j v)
  | [], vs, j, h => by simp only [RepL] at h; subst h; simp only [List.set_nil]; exact .nil
  | e :: ds, vs, 0, h => by
    simp only [RepL] at h
    obtain ⟨u, us, rfl, h1, h2⟩ := h
    exact .cons r h2
  | e :: ds, vs, j + 1, h => by
    simp only [RepL] at h
    obtain ⟨u, us, rfl, h1, h2⟩ := h
    exact .cons h1 (RepL.set r h2)
end Pk
/-! Br58: objects in the store. -/
namespace Pk
open PySem PySem.Spec PyProof.Rows L2
theorem StoOk.obj {cn : Cn} {lb : Lb} {s : Sto} {H : Hp} {a : Addr} {n : Nat} (h : StoOk cn lb s H) (la : lb a = some (.inst n)) :
    ∃ fs dx fv, s.o[n]? = some fs ∧ lb dx = some (.idct n) ∧ H a = some (.ins cn.gr dx fv) ∧ H dx = some (.own a) ∧ FldOk cn lb H n fs fv := by
  have hn := h.dom a n "" (.inl la)
  obtain ⟨a', dx, fv, l1, l2, h1, h2, w⟩ := h.objs n _ (List.getElem?_eq_getElem hn)
  cases h.uniq a' a _ l1 la rfl
  exact ⟨_, dx, fv, List.getElem?_eq_getElem hn, l2, h1, h2, w⟩
theorem look_ne {α : Type} {f g : Str} {x : α} {r : List (Str × α)} (h : f ≠ g) : List.lookup f ((g, x) :: r) = List.lookup f r := by
  have hb : (f == g) = false := beq_eq_false_iff_ne.mpr h
  simp only [List.lookup, hb]
theorem look_eq {α : Type} {f : Str} {x : α} {r : List (Str × α)} : List.lookup f ((f, x) :: r) = some x := by
  have hb : (f == f) = true := beq_iff_eq.mpr rfl
  simp only [List.lookup, hb]
theorem FldOk.get {cn : Cn} {lb : Lb} {H : Hp} {n : Nat} (f : Str) : ∀ {fs : List (Str × D)} {fv : List (Str × V)}, FldOk cn lb H n fs fv →
    (fs.lookup f = none ∧ fv.lookup f = none) ∨ ∃ d v, fs.lookup f = some d ∧ fv.lookup f = some v ∧ FOk cn lb H n f d v
  | [], fv, h => by
    have h : fv = [] := h
    subst h
    exact .inl ⟨rfl, rfl⟩
  | (g, d) :: fs, fv, h => by
    obtain ⟨v, r, rfl, h1, h2⟩ := h
    by_cases e : f = g
    · subst e
      exact .inr ⟨d, v, look_eq, look_eq, h1⟩
    · rw [look_ne e, look_ne e]
      exact FldOk.get f h2
theorem FldOk.mapNe {cn : Cn} {lb lb' : Lb} {H H' : Hp} {n : Nat} {f : Str} (k : ∀ g d v, g ≠ f → FOk cn lb H n g d v → FOk cn lb' H' n g d v) : ∀ {fs : List (Str × D)} {fv : List (Str × V)}, f ∉ fs.map (·.1) → FldOk cn lb H n fs fv → FldOk cn lb' H' n fs fv
  | [], fv, _, h => h
  | (g, d) :: fs, fv, nf, h => by
    obtain ⟨v, r, rfl, h1, h2⟩ := h
    rw [List.map_cons, List.mem_cons, not_or] at nf
    exact ⟨v, r, rfl, k g d v (Ne.symm nf.1) h1, FldOk.mapNe k nf.2 h2⟩
theorem FldOk.put {cn : Cn} {lb lb' : Lb} {H H' : Hp} {n : Nat} {f : Str} {d : D} {v : V} (k : ∀ g d v, g ≠ f → FOk cn lb H n g d v → FOk cn lb' H' n g d v) (hd : FOk cn lb' H' n f d v) :
    ∀ {fs : List (Str × D)} {fv : List (Str × V)}, (fs.map (·.1)).Nodup → FldOk cn lb H n fs fv → FldOk cn lb' H' n (putFD f d fs) (putF f v fv)
  | [], fv, _, h => by
    have h : fv = [] := h
    subst h
    exact ⟨v, [], rfl, hd, rfl⟩
  | (g, e) :: fs, fv, nd, h => by
    obtain ⟨u, r, rfl, h1, h2⟩ := h
    obtain ⟨n1, n2⟩ := List.nodup_cons.mp nd
    unfold putFD putF
    by_cases z : g = f
    · subst z
      rw [if_pos rfl, if_pos rfl]
      exact ⟨v, r, rfl, hd, FldOk.mapNe k n1 h2⟩
    · rw [if_neg z, if_neg z]
      exact ⟨u, _, rfl, k g e u z h1, FldOk.put k hd n2 h2⟩
theorem FOk.oth {cn : Cn} {lb lb' : Lb} {H H' : Hp} {n : Nat} {f : Str} {d : D} {v : V} (h : FOk cn lb H n f d v) (s : Stq lb H lb' H') (k : ∀ a, lb a = some (.fld n f) → H' a = H a) : FOk cn lb' H' n f d v := by
  unfold FOk at h ⊢
  cases d with
  | lst l =>
    obtain ⟨p, o, e, lp, hp, w⟩ := h
    exact ⟨p, o, e, s.sto p _ lp rfl, by rw [k p lp]; exact hp, w.stq s⟩
  | _ => exact Rep.stq s h
theorem FldOk.oth {cn : Cn} {lb lb' : Lb} {H H' : Hp} {n : Nat} (s : Stq lb H lb' H') (k : ∀ a f, lb a = some (.fld n f) → H' a = H a) : ∀ {fs : List (Str × D)} {fv : List (Str × V)}, FldOk cn lb H n fs fv → FldOk cn lb' H' n fs fv
  | [], fv, h => h
  | (g, d) :: fs, fv, h => by
    obtain ⟨v, r, rfl, h1, h2⟩ := h
    exact ⟨v, r, rfl, h1.oth s fun a e => k a g e, FldOk.oth s k h2⟩
end Pk
/-! Br59: fields of objects. -/
namespace Pk
open PySem PySem.Spec PyProof.Rows L2
/-- what the class of the objects must have -/
structure GrX (cn : Cn) : Prop where
  cls : Cls cn.K cn.gr
  rows : NoAttr cn.K cn.gr "rows"
  past : NoAttr cn.K cn.gr "past"
  notes : NoAttr cn.K cn.gr "notes"
end Pk
/-! Br5a: methods called, objects made, len of an object. -/
namespace Pk
open PySem PySem.Spec PyProof.Rows L2
/-! ### a method of an object -/
/-- the def f is the method m of the class C: what a call of it stands on -/
structure MDef (X : Cx) (k : Nat) (C f : Addr) (m : Str) (fd : FuncData) (ps : List Str) (sp : Sp) (dvs : List V) (ds : List Value) (E : L2.St → XK) : Prop where
  cls : Cls X.K C
  found : Meth X.K C m f
  keeps : FnOk X.prog X.w X.K X.mg X.base (L2.CX X.prog X.w) k f fd ps sp
  room : Room k X.A
  binds : Binds X.K fd ps ds
  filled : Vals dvs ds
  out : ∀ σ, PassesAt (L2.CX X.prog X.w) X σ (E σ)
section
variable {X : Cx} {k : Nat} {f C : Addr} {fd : FuncData} {ps : List Str} {sp : Sp} {dvs : List V} {ds : List Value} {E : L2.St → XK} {m : Str} {pos apos : Pos} {o : Expr} {ta : TE} {W : Addr → TE}
theorem MDef.call {pins : List (Addr × Obj)} {s : Shared} {σ : L2.St} {H : Hp} {a : Addr} {Q : VK} {vs : List V} {us : List Value} (M : MDef X k C f m fd ps sp dvs ds E) (I : Inv X pins σ H s) (r : Vals vs us) (h : sp (.ref a :: (vs ++ dvs)) H Q (E σ)) :
    wpAny (model X.prog X.w) X.A (PySem.call (.ref f) (.ref a :: us)) (EP X pins σ Q) X.xe s :=
  run_fnSD (E := E) (vs := .ref a :: vs) M.keeps M.room M.binds M.filled (M.out σ) I (.cons rfl r) h
end
/-! ### an object made -/
/-- a method that keeps its promise -/
def MtG (cn : Cn) (P : Program) (w : World) (mg : Str → Option Value) (base : Heap) (k : Nat) (x : Str) (F : Fn) (dv : List D) : Prop :=
  ∃ (f : Addr) (fd : FuncData) (ps : List Str) (dsv : List Value) (dvs : List V), FnOk P w cn.K mg base (L2.CX P w) k f fd ps (spOf cn F) ∧ Meth cn.K cn.gr x f ∧ Binds cn.K fd ps dsv ∧ Vals dvs dsv ∧ ∀ lb H, RepL cn lb H dv dvs
end Pk
/-! Br5b: {k: v, l: w}; len of an object. -/
namespace Pk
open PySem PySem.Spec PyProof.Rows L2
section
variable {X : Cx} {b : Bd} {n : Nat} {cn : Cn}
/-- what a display of two leaves -/
def two (k l : List Key) (y z : V) : List (List Key × V) := if k = l then [(k, z)] else [(k, y), (l, z)]
/-! ### len of an object -/
end
end Pk
/-! Br5c: isinstance of the class, == and str of objects, str of numbers. -/
namespace Pk
open PySem PySem.Spec PyProof.Rows L2
/-- what more the class of the objects must have -/
structure GrY (cn : Cn) : Prop where
  cls : Cls cn.K cn.gr
  ha : PySem.W.findIn cn.K (.ref cn.gr) "__class__" = some (some (.builtin "object.__class__"))
  hn : PySem.W.specialIn cn.K (.builtin "object.__class__") "__get__" = some (some (.builtin "getset_descriptor.__get__"))
  tk : PySem.W.takesIn cn.K (.builtin "object.__class__") = some true
  mro : PySem.W.mroIn cn.K cn.gr (.type "object") = some true
  own : PySem.W.kitOne cn.K (.ref cn.gr) (.ref cn.gr) = some true
  oth : ∀ t, t ∈ ["NoneType", "bool", "int", "str", "tuple", "list"] → PySem.W.kitOne cn.K (.type t) (.ref cn.gr) = some false
  nf : ∀ t, t ∈ ["int", "str", "tuple"] → PySem.W.notFirst cn.K cn.gr (.type t) = true
section
variable {X : Cx} {b : Bd} {n : Nat} {cn : Cn}
theorem GrY.ty {lb : Lb} {s : Sto} {H : Hp} {a : Addr} {n : Nat} (G : GrY cn) (h : StoOk cn lb s H) (la : lb a = some (.inst n)) : TyX cn.K H (.ref a) (.ref cn.gr) := by
  obtain ⟨fs, dx, fv, hs, ldx, h1, h2, w⟩ := h.obj la
  exact .base (.ins h1 G.cls G.ha G.hn G.tk G.mro)
/-! ### == by the class's own __eq__ -/
theorem MtG.nil {k : Nat} {F : Fn} {x : Str} {P : Program} {w : World} {mg : Str → Option Value} {base : Heap} (G : MtG cn P w mg base k x F []) :
    ∃ (f : Addr) (fd : FuncData) (ps : List Str), FnOk P w cn.K mg base (L2.CX P w) k f fd ps (spOf cn F) ∧ Meth cn.K cn.gr x f ∧ Binds cn.K fd ps [] := by
  obtain ⟨f, fd, ps, dsv, dvs, F1, F2, F4, F5, F6⟩ := G
  have hd : dvs = [] := by
    have := F6 (fun _ => none) (fun _ => none)
    simpa only [RepL] using this
  subst hd
  cases F5
  exact ⟨f, fd, ps, F1, F2, F4⟩
/-! ### str(x) by the class's own __str__ -/
/-! ### numbers as texts, f-strings -/
end
end Pk
/-! Br5d: methods and the class as the head tells them; calls with one keyword. -/
namespace Pk
open PySem PySem.Spec PyProof.Rows L2
end Pk
/-! Br5e: x[j][k], x[l][m] = v, w of a matrix. -/
namespace Pk
open PySem PySem.Spec PyProof.Rows L2
end Pk
/-! Br5f: x, y, z = a, b, [] -/
namespace Pk
open PySem PySem.Spec PyProof.Rows L2
end Pk
/-! Br5g: texts. -/
namespace Pk
open PySem PySem.Spec PyProof.Rows L2
end Pk
namespace Pk
open PySem PySem.Spec PyProof.Rows L2
def top (i : Nat) : Stmt := PySem.Challenge.pw_peakland_k28_whole_fills.main.body.getD i (.Pass ⟨0, 0, 0, 0⟩)
structure Tx (cn : Cn) (mg : Str → Option Value) : Prop where
  e_NoHeight : ErrC cn mg 6 "NoHeight"
  e_NoLand : ErrC cn mg 0 "NoLand"
  b_abs : mg "abs" = none
  b_all : mg "all" = none
  b_bool : mg "bool" = none
  b_dict : mg "dict" = none
  b_enumerate : mg "enumerate" = none
  b_int : mg "int" = none
  b_isinstance : mg "isinstance" = none
  b_len : mg "len" = none
  b_list : mg "list" = none
  b_max : mg "max" = none
  b_min : mg "min" = none
  b_range : mg "range" = none
  b_set : mg "set" = none
  b_sorted : mg "sorted" = none
  b_sum : mg "sum" = none
  b_tuple : mg "tuple" = none
  g_HIGH : ∃ t, mg "HIGH" = some (.int 999 t)
  g_MOST : ∃ t, mg "MOST" = some (.int 8 t)
section
variable {cn : Cn} {P : Program} {w : World} {mg : Str → Option Value} {base : Heap}
theorem sc_NoCell_init : FnScope ["self", "cell"] ["self", "cell"] (defScope (clsM (top 3))) := ⟨rfl, rfl, rfl, by decide +kernel, rfl, by decide +kernel, by decide +kernel⟩
theorem sc_is_whole : FnScope ["thing", "low", "high"] ["thing", "low", "high"] (defScope (top 8)) := ⟨rfl, rfl, rfl, by decide +kernel, rfl, by decide +kernel, by decide +kernel⟩
theorem ok_is_whole {f : Addr} {fd : FuncData} (F : FunD cn.K "is_whole" "is_whole" (defArgs (top 8)) (defBody (top 8)) (defScope (top 8)) [] [] f fd) (T : Tx cn mg) :
    FnOk P w cn.K mg base (L2.CX P w) 1 f fd ["thing", "low", "high"] (spOf cn py_is_whole) :=
  fn_okF F sc_is_whole rfl rfl (show py_is_whole = fnOf 3 3 bo_is_whole from rfl) fun cdv A outer s H E c hc g => by
    subst hc
    exact (ds_one (ds_ret (de_and (de_isi g p1_isInt rfl T.b_isinstance (do_v (de_v 0 (pv 0))) rfl T.b_int (by decide +kernel)) (de_and (de_not (de_isi g p1_isBool rfl T.b_isinstance (do_v (de_v 0 (pv 0))) rfl T.b_bool (by decide +kernel))) (de_and1 (de_chain op_le p2_le op_le p2_le (de_v 1 (pv 1)) (de_v 0 (pv 0)) (de_v 2 (pv 2))))))))
theorem sc_is_line : FnScope ["thing", "long", "one"] ["thing", "long"] (defScope (top 9)) := ⟨rfl, rfl, rfl, by decide +kernel, rfl, by decide +kernel, by decide +kernel⟩
theorem ok_is_line {f : Addr} {fd : FuncData} (F : FunD cn.K "is_line" "is_line" (defArgs (top 9)) (defBody (top 9)) (defScope (top 9)) [] [] f fd) (T : Tx cn mg) (G_is_whole : FnG cn P w mg base 1 "is_whole" py_is_whole []) :
    FnOk P w cn.K mg base (L2.CX P w) 2 f fd ["thing", "long"] (spOf cn py_is_line) :=
  fn_okF F sc_is_line rfl rfl (show py_is_line = fnOf 2 3 bo_is_line from rfl) fun cdv A outer s H E c hc g => by
    subst hc
    exact (ds_cons (ds_if (dt_w (dw_or (dt_not (dt_val (de_isi g p1_isTup rfl T.b_isinstance (do_v (de_v 0 (pv 0))) rfl T.b_tuple (by decide +kernel)))) (dw_or1 (dt_cmp g.neD p2_ne (do_v (de_len g rfl T.b_len (do_v (de_v 0 (pv 0))))) (do_v (de_v 1 (pv 1))) (nomark _))))) (ds_one (ds_ret de_bool)) ds_nil)
    (ds_one (ds_ret (de_b1 g.all p1_all rfl T.b_all boot_all (do_v (de_f (df_comp (own := [("one", 2)]) g (di_any g (de_v 0 (pv 0))) (blkOk_by (by kernel_rfl)) (fun _ _ _ _ _ g => (dg_n g.nd (i := 2) rfl (.inl rfl))) (fun _ _ _ _ _ g => dts_nil) (fun _ _ _ _ _ g => (de_callG g G_is_whole (by decide) rfl rfl rfl rfl rfl (da_cons (de_v 2 (pv 2)) (da_cons de_int (da_cons (de_gi rfl rfl T.g_HIGH) da_nil))))))))))))
theorem sc_is_land : FnScope ["thing", "line"] ["thing"] (defScope (top 10)) := ⟨rfl, rfl, rfl, by decide +kernel, rfl, by decide +kernel, by decide +kernel⟩
theorem ok_is_land {f : Addr} {fd : FuncData} (F : FunD cn.K "is_land" "is_land" (defArgs (top 10)) (defBody (top 10)) (defScope (top 10)) [] [] f fd) (T : Tx cn mg) (G_is_line : FnG cn P w mg base 2 "is_line" py_is_line []) :
    FnOk P w cn.K mg base (L2.CX P w) 3 f fd ["thing"] (spOf cn py_is_land) :=
  fn_okF F sc_is_land rfl rfl (show py_is_land = fnOf 1 2 bo_is_land from rfl) fun cdv A outer s H E c hc g => by
    subst hc
    exact (ds_cons (ds_if (dt_w (dw_or (dt_not (dt_val (de_isi g p1_isTup rfl T.b_isinstance (do_v (de_v 0 (pv 0))) rfl T.b_tuple (by decide +kernel)))) (dw_or1 (dt_not (dt_chain op_le p2_le op_le p2_le de_int (de_len g rfl T.b_len (do_v (de_v 0 (pv 0)))) (de_gi rfl rfl T.g_MOST)))))) (ds_one (ds_ret de_bool)) ds_nil)
    (ds_cons (ds_if (dt_w (dw_or (dt_not (dt_val (de_isi g p1_isTup rfl T.b_isinstance (do_v (de_ix g (do_v (de_v 0 (pv 0))) (do_v de_int))) rfl T.b_tuple (by decide +kernel)))) (dw_or1 (dt_not (dt_chain op_le p2_le op_le p2_le de_int (de_len g rfl T.b_len (do_v (de_ix g (do_v (de_v 0 (pv 0))) (do_v de_int)))) (de_gi rfl rfl T.g_MOST)))))) (ds_one (ds_ret de_bool)) ds_nil)
    (ds_one (ds_ret (de_b1 g.all p1_all rfl T.b_all boot_all (do_v (de_f (df_comp (own := [("line", 1)]) g (di_any g (de_v 0 (pv 0))) (blkOk_by (by kernel_rfl)) (fun _ _ _ _ _ g => (dg_n g.nd (i := 1) rfl (.inl rfl))) (fun _ _ _ _ _ g => dts_nil) (fun _ _ _ _ _ g => (de_callG g G_is_line (by decide) rfl rfl rfl rfl rfl (da_cons (de_v 1 (pv 1)) (da_cons (de_len g rfl T.b_len (do_v (de_ix g (do_v (de_v 0 (pv 0))) (do_v de_int)))) da_nil))))))))))))
theorem sc_need_land : FnScope ["thing"] ["thing"] (defScope (top 11)) := ⟨rfl, rfl, rfl, by decide +kernel, rfl, by decide +kernel, by decide +kernel⟩
theorem ok_need_land {f : Addr} {fd : FuncData} (F : FunD cn.K "need_land" "need_land" (defArgs (top 11)) (defBody (top 11)) (defScope (top 11)) [] [] f fd) (T : Tx cn mg) (G_is_land : FnG cn P w mg base 3 "is_land" py_is_land []) :
    FnOk P w cn.K mg base (L2.CX P w) 4 f fd ["thing"] (spOf cn py_need_land) :=
  fn_okF F sc_need_land rfl rfl (show py_need_land = fnOf 1 1 bo_need_land from rfl) fun cdv A outer s H E c hc g => by
    subst hc
    exact (ds_one (ds_if (dt_not (dt_val (de_callG g G_is_land (by decide) rfl rfl rfl rfl rfl (da_cons (de_v 0 (pv 0)) da_nil)))) (ds_one (ds_raiseT g rfl PySem.F.excBase_ValueError T.e_NoLand rfl)) ds_nil))
theorem sc_is_cell : FnScope ["land", "thing"] ["land", "thing"] (defScope (top 12)) := ⟨rfl, rfl, rfl, by decide +kernel, rfl, by decide +kernel, by decide +kernel⟩
theorem ok_is_cell {f : Addr} {fd : FuncData} (F : FunD cn.K "is_cell" "is_cell" (defArgs (top 12)) (defBody (top 12)) (defScope (top 12)) [] [] f fd) (T : Tx cn mg) (G_is_whole : FnG cn P w mg base 1 "is_whole" py_is_whole []) :
    FnOk P w cn.K mg base (L2.CX P w) 2 f fd ["land", "thing"] (spOf cn py_is_cell) :=
  fn_okF F sc_is_cell rfl rfl (show py_is_cell = fnOf 2 2 bo_is_cell from rfl) fun cdv A outer s H E c hc g => by
    subst hc
    exact (ds_cons (ds_if (dt_w (dw_or (dt_not (dt_val (de_isi g p1_isTup rfl T.b_isinstance (do_v (de_v 1 (pv 1))) rfl T.b_tuple (by decide +kernel)))) (dw_or1 (dt_cmp g.neD p2_ne (do_v (de_len g rfl T.b_len (do_v (de_v 1 (pv 1))))) (do_v de_int) (nomark _))))) (ds_one (ds_ret de_bool)) ds_nil)
    (ds_one (ds_ret (de_and (de_callG g G_is_whole (by decide) rfl rfl rfl rfl rfl (da_cons (de_ix g (do_v (de_v 1 (pv 1))) (do_v de_int)) (da_cons de_int (da_cons (de_bin op_sub p2_sub (do_v (de_len g rfl T.b_len (do_v (de_v 0 (pv 0))))) (do_v de_int)) da_nil)))) (de_and1 (de_callG g G_is_whole (by decide) rfl rfl rfl rfl rfl (da_cons (de_ix g (do_v (de_v 1 (pv 1))) (do_v de_int)) (da_cons de_int (da_cons (de_bin op_sub p2_sub (do_v (de_len g rfl T.b_len (do_v (de_ix g (do_v (de_v 0 (pv 0))) (do_v de_int))))) (do_v de_int)) da_nil)))))))))
theorem sc_need_cell : FnScope ["land", "thing"] ["land", "thing"] (defScope (top 13)) := ⟨rfl, rfl, rfl, by decide +kernel, rfl, by decide +kernel, by decide +kernel⟩
theorem ok_need_cell {f : Addr} {fd : FuncData} (F : FunD cn.K "need_cell" "need_cell" (defArgs (top 13)) (defBody (top 13)) (defScope (top 13)) [] [] f fd) (T : Tx cn mg) (G_is_cell : FnG cn P w mg base 2 "is_cell" py_is_cell []) (I_NoCell : ErrI cn P w mg base 1 "NoCell") :
    FnOk P w cn.K mg base (L2.CX P w) 3 f fd ["land", "thing"] (spOf cn py_need_cell) :=
  fn_okF F sc_need_cell rfl rfl (show py_need_cell = fnOf 2 2 bo_need_cell from rfl) fun cdv A outer s H E c hc g => by
    subst hc
    exact (ds_one (ds_if (dt_not (dt_val (de_callG g G_is_cell (by decide) rfl rfl rfl rfl rfl (da_cons (de_v 0 (pv 0)) (da_cons (de_v 1 (pv 1)) da_nil))))) (ds_one (ds_raiseC g I_NoCell (by decide) rfl rfl rfl rfl rfl (de_v 1 (pv 1)))) ds_nil))
theorem sc_need_both : FnScope ["land", "thing"] ["land", "thing"] (defScope (top 14)) := ⟨rfl, rfl, rfl, by decide +kernel, rfl, by decide +kernel, by decide +kernel⟩
theorem ok_need_both {f : Addr} {fd : FuncData} (F : FunD cn.K "need_both" "need_both" (defArgs (top 14)) (defBody (top 14)) (defScope (top 14)) [] [] f fd) (T : Tx cn mg) (G_need_cell : FnG cn P w mg base 3 "need_cell" py_need_cell []) (G_need_land : FnG cn P w mg base 4 "need_land" py_need_land []) :
    FnOk P w cn.K mg base (L2.CX P w) 5 f fd ["land", "thing"] (spOf cn py_need_both) :=
  fn_okF F sc_need_both rfl rfl (show py_need_both = fnOf 2 2 bo_need_both from rfl) fun cdv A outer s H E c hc g => by
    subst hc
    exact (ds_cons (ds_expr (de_callG g G_need_land (by decide) rfl rfl rfl rfl rfl (da_cons (de_v 0 (pv 0)) da_nil)))
    (ds_one (ds_expr (de_callG g G_need_cell (by decide) rfl rfl rfl rfl rfl (da_cons (de_v 0 (pv 0)) (da_cons (de_v 1 (pv 1)) da_nil))))))
theorem sc_cells_of : FnScope ["land", "made", "down", "across"] ["land"] (defScope (top 15)) := ⟨rfl, rfl, rfl, by decide +kernel, rfl, by decide +kernel, by decide +kernel⟩
theorem ok_cells_of {f : Addr} {fd : FuncData} (F : FunD cn.K "cells_of" "cells_of" (defArgs (top 15)) (defBody (top 15)) (defScope (top 15)) [] [] f fd) (T : Tx cn mg) :
    FnOk P w cn.K mg base (L2.CX P w) 1 f fd ["land"] (spOf cn py_cells_of) :=
  fn_okF F sc_cells_of rfl rfl (show py_cells_of = fnOf 1 4 bo_cells_of from rfl) fun cdv A outer s H E c hc g => by
    subst hc
    exact (ds_cons (ds_setF g (i := 1) rfl (.inl rfl) (df_lst da_nil))
    (ds_cons (ds_for g (di_range1 rfl T.b_range (de_len g rfl T.b_len (do_v (de_v 0 (pv 0))))) (dg_n g.nd (i := 2) rfl (.inr rfl)) (ds_one (ds_extend (pv 1) (de_f (df_comp (own := [("across", 3)]) g (di_range1 rfl T.b_range (de_len g rfl T.b_len (do_v (de_ix g (do_v (de_v 0 (pv 0))) (do_v de_int))))) (blkOk_by (by kernel_rfl)) (fun _ _ _ _ _ g => (dg_n g.nd (i := 3) rfl (.inl rfl))) (fun _ _ _ _ _ g => dts_nil) (fun _ _ _ _ _ g => (de_tup (da_cons (de_v 2 (pv 2)) (da_cons (de_v 3 (pv 3)) da_nil)))))))))
    (ds_one (ds_ret (de_v 1 (pv 1))))))
theorem sc_at : FnScope ["land", "cell"] ["land", "cell"] (defScope (top 16)) := ⟨rfl, rfl, rfl, by decide +kernel, rfl, by decide +kernel, by decide +kernel⟩
theorem ok_at {f : Addr} {fd : FuncData} (F : FunD cn.K "at" "at" (defArgs (top 16)) (defBody (top 16)) (defScope (top 16)) [] [] f fd) (T : Tx cn mg) :
    FnOk P w cn.K mg base (L2.CX P w) 1 f fd ["land", "cell"] (spOf cn py_at) :=
  fn_okF F sc_at rfl rfl (show py_at = fnOf 2 2 bo_at from rfl) fun cdv A outer s H E c hc g => by
    subst hc
    exact (ds_one (ds_ret (de_ix g (do_v (de_ix g (do_v (de_v 0 (pv 0))) (do_v (de_ix g (do_v (de_v 1 (pv 1))) (do_v de_int))))) (do_v (de_ix g (do_v (de_v 1 (pv 1))) (do_v de_int))))))
theorem sc_beside_of : FnScope ["land", "cell", "down", "across", "some", "one"] ["land", "cell"] (defScope (top 17)) := ⟨rfl, rfl, rfl, by decide +kernel, rfl, by decide +kernel, by decide +kernel⟩
theorem ok_beside_of {f : Addr} {fd : FuncData} (F : FunD cn.K "beside_of" "beside_of" (defArgs (top 17)) (defBody (top 17)) (defScope (top 17)) [] [] f fd) (T : Tx cn mg) (G_is_cell : FnG cn P w mg base 2 "is_cell" py_is_cell []) :
    FnOk P w cn.K mg base (L2.CX P w) 3 f fd ["land", "cell"] (spOf cn py_beside_of) :=
  fn_okF F sc_beside_of rfl rfl (show py_beside_of = fnOf 2 6 bo_beside_of from rfl) fun cdv A outer s H E c hc g => by
    subst hc
    exact (ds_cons (ds_asg (dg_t g (dgs_cons (dg_n g.nd (i := 2) rfl (.inl rfl)) (dgs_cons (dg_n g.nd (i := 3) rfl (.inl rfl)) dgs_nil))) (de_v 1 (pv 1)))
    (ds_cons (ds_set g (i := 4) rfl (.inl rfl) (de_f (df_lst (da_cons (de_tup (da_cons (de_bin op_sub p2_sub (do_v (de_v 2 (pv 2))) (do_v de_int)) (da_cons (de_v 3 (pv 3)) da_nil))) (da_cons (de_tup (da_cons (de_v 2 (pv 2)) (da_cons (de_bin op_sub p2_sub (do_v (de_v 3 (pv 3))) (do_v de_int)) da_nil))) (da_cons (de_tup (da_cons (de_v 2 (pv 2)) (da_cons (de_bin g.addA p2_add (do_v (de_v 3 (pv 3))) (do_v de_int)) da_nil))) (da_cons (de_tup (da_cons (de_bin g.addA p2_add (do_v (de_v 2 (pv 2))) (do_v de_int)) (da_cons (de_v 3 (pv 3)) da_nil))) da_nil)))))))
    (ds_one (ds_ret (de_f (df_comp (own := [("one", 5)]) g (di_any g (de_v 4 (pv 4))) (blkOk_by (by kernel_rfl)) (fun _ _ _ _ _ g => (dg_n g.nd (i := 5) rfl (.inl rfl))) (fun _ _ _ _ _ g => (dts_one (dt_val (de_callG g G_is_cell (by decide) rfl rfl rfl rfl rfl (da_cons (de_v 0 (pv 0)) (da_cons (de_v 5 (pv 5)) da_nil)))))) (fun _ _ _ _ _ g => (de_v 5 (pv 5)))))))))
theorem sc_spread_of : FnScope ["land", "cell", "good", "found", "left", "other"] ["land", "cell", "good"] (defScope (top 18)) := ⟨rfl, rfl, rfl, by decide +kernel, rfl, by decide +kernel, by decide +kernel⟩
theorem ok_spread_of {f : Addr} {fd : FuncData} (F : FunD cn.K "spread_of" "spread_of" (defArgs (top 18)) (defBody (top 18)) (defScope (top 18)) [] [] f fd) (T : Tx cn mg) (G_beside_of : FnG cn P w mg base 3 "beside_of" py_beside_of []) :
    FnOk P w cn.K mg base (L2.CX P w) 4 f fd ["land", "cell", "good"] (spOf cn py_spread_of) :=
  fn_okF F sc_spread_of rfl rfl (show py_spread_of = fnOf 3 6 bo_spread_of from rfl) fun cdv A outer s H E c hc g => by
    subst hc
    exact (ds_cons (ds_par g (i := 3) (j := 4) rfl rfl (by decide) rfl rfl (df_dct1 g (de_v 1 (pv 1)) de_bool) (df_lst (da_cons (de_v 1 (pv 1)) da_nil)) rfl)
    (ds_cons (ds_while g (dt_cmp g.neD p2_ne (do_b (pv 4)) (do_v (de_f (df_lst da_nil))) (nomark _)) (ds_one (ds_for g (di_any g (de_callG g G_beside_of (by decide) rfl rfl rfl rfl rfl (da_cons (de_v 0 (pv 0)) (da_cons (de_pop (pv 4)) da_nil)))) (dg_n g.nd (i := 5) rfl (.inl rfl)) (ds_one (ds_if (dt_w (dw_and (dt_cmp g.inDct p2_inDct (do_v (de_v 5 (pv 5))) (do_v (de_v 2 (pv 2))) (by with_unfolding_all rfl)) (dw_and1 (dt_cmp g.notInDct p2_notInDct (do_v (de_v 5 (pv 5))) (do_b (pv 3)) (by with_unfolding_all rfl))))) (ds_cons (ds_putD g (pv 3) (de_v 5 (pv 5)) de_bool)
    (ds_one (ds_append (pv 4) (de_v 5 (pv 5))))) ds_nil)))))
    (ds_one (ds_ret (de_f (de_b1 g.sortedD p1_sorted rfl T.b_sorted boot_sorted (do_v (de_f (de_ty1 g.listT p1_lstD rfl T.b_list PyProof.Rows.boot_list (do_b (pv 3)))))))))))
theorem sc_earth_for : FnScope ["land", "one", "other", "price", "found", "level", "later", "cell", "there", "cost"] ["land", "one", "other", "price"] (defScope (top 20)) := ⟨rfl, rfl, rfl, by decide +kernel, rfl, by decide +kernel, by decide +kernel⟩
theorem ok_earth_for {f : Addr} {fd : FuncData} (F : FunD cn.K "earth_for" "earth_for" (defArgs (top 20)) (defBody (top 20)) (defScope (top 20)) [] [] f fd) (T : Tx cn mg) (G_beside_of : FnG cn P w mg base 3 "beside_of" py_beside_of []) (LTb : LTab cn P w mg base 2 Lt) :
    FnOk P w cn.K mg base (L2.CX P w) 4 f fd ["land", "one", "other", "price"] (spOf cn (py_earth_for Lt)) :=
  fn_okF F sc_earth_for rfl rfl (show (py_earth_for Lt) = fnOf 4 10 (bo_earth_for Lt) from rfl) fun cdv A outer s H E c hc g => by
    subst hc
    exact (ds_cons (ds_par g (i := 4) (j := 5) rfl rfl (by decide) rfl rfl (df_dct1 g (de_v 1 (pv 1)) (de_callC g LTb (by decide) rfl rfl rfl rfl (i := 3) rfl (by first | exact .inl rfl | exact .inr (.inl rfl) | exact .inr (.inr rfl)) (da_cons (de_v 1 (pv 1)) da_nil))) (de_f (df_lst (da_cons (de_v 1 (pv 1)) da_nil))) rfl)
    (ds_cons (ds_while g (dt_cmp g.neD p2_ne (do_v (de_v 5 (pv 5))) (do_v (de_f (df_lst da_nil))) (nomark _)) (ds_cons (ds_setF g (i := 6) rfl (.inl rfl) df_dct0)
    (ds_cons (ds_for g (di_any g (de_v 5 (pv 5))) (dg_n g.nd (i := 7) rfl (.inl rfl)) (ds_one (ds_for g (di_any g (de_callG g G_beside_of (by decide) rfl rfl rfl rfl rfl (da_cons (de_v 0 (pv 0)) (da_cons (de_v 7 (pv 7)) da_nil)))) (dg_n g.nd (i := 8) rfl (.inl rfl)) (ds_cons (ds_set g (i := 9) rfl (.inl rfl) (de_bin g.addA p2_add (do_v (de_ixD g (do_b (pv 4)) (do_v (de_v 7 (pv 7))))) (do_v (de_callC g LTb (by decide) rfl rfl rfl rfl (i := 3) rfl (by first | exact .inl rfl | exact .inr (.inl rfl) | exact .inr (.inr rfl)) (da_cons (de_v 8 (pv 8)) da_nil)))))
    (ds_one (ds_if (dt_w (dw_or (dt_cmp g.notInDct p2_notInDct (do_v (de_v 8 (pv 8))) (do_b (pv 4)) (by with_unfolding_all rfl)) (dw_or1 (dt_cmp op_lt p2_lt (do_v (de_v 9 (pv 9))) (do_v (de_ixD g (do_b (pv 4)) (do_v (de_v 8 (pv 8))))) (nomark _))))) (ds_cons (ds_putD g (pv 4) (de_v 8 (pv 8)) (de_v 9 (pv 9)))
    (ds_one (ds_putD g (pv 6) (de_v 8 (pv 8)) de_bool))) ds_nil))))))
    (ds_one (ds_set g (i := 5) rfl (.inl rfl) (de_f (de_b1 g.sortedD p1_sorted rfl T.b_sorted boot_sorted (do_v (de_f (de_ty1 g.listT p1_lstD rfl T.b_list PyProof.Rows.boot_list (do_b (pv 6))))))))))))
    (ds_one (ds_ret (de_ixD g (do_b (pv 4)) (do_v (de_v 2 (pv 2))))))))
theorem sc_need_two : FnScope ["land", "one", "other"] ["land", "one", "other"] (defScope (top 21)) := ⟨rfl, rfl, rfl, by decide +kernel, rfl, by decide +kernel, by decide +kernel⟩
theorem ok_need_two {f : Addr} {fd : FuncData} (F : FunD cn.K "need_two" "need_two" (defArgs (top 21)) (defBody (top 21)) (defScope (top 21)) [] [] f fd) (T : Tx cn mg) (G_need_both : FnG cn P w mg base 5 "need_both" py_need_both []) (G_need_cell : FnG cn P w mg base 3 "need_cell" py_need_cell []) :
    FnOk P w cn.K mg base (L2.CX P w) 6 f fd ["land", "one", "other"] (spOf cn py_need_two) :=
  fn_okF F sc_need_two rfl rfl (show py_need_two = fnOf 3 3 bo_need_two from rfl) fun cdv A outer s H E c hc g => by
    subst hc
    exact (ds_cons (ds_expr (de_callG g G_need_both (by decide) rfl rfl rfl rfl rfl (da_cons (de_v 0 (pv 0)) (da_cons (de_v 1 (pv 1)) da_nil))))
    (ds_one (ds_expr (de_callG g G_need_cell (by decide) rfl rfl rfl rfl rfl (da_cons (de_v 0 (pv 0)) (da_cons (de_v 2 (pv 2)) da_nil))))))
theorem okL_least_fill_0 (T : Tx cn mg) (G_at : FnG cn P w mg base 1 "at" py_at []) (hlm : cn.lm 5 = lmOf "least_fill" (argE 3 (retE ((defBody (top 22)).getD 2 (.Pass ⟨0, 0, 0, 0⟩)))) ["land", "low"]) : LOk cn P w mg base 2 5 ly_least_fill_0 :=
  lam_okM (N := ["cell", "land", "low"]) (ps := ["cell"]) hlm (NdefX.nscope_by (by kernel_rfl)) rfl rfl (fun _ _ _ _ us hl => match us, hl with | [_], _ => rfl) fun A outer s H E f cl c b0 hb0 g => by
    subst hb0
    exact (de_b2 (call_max2 g.calm) p2_max2 rfl T.b_max boot_max (do_v de_int) (do_v (de_bin op_sub p2_sub (do_v (de_v 2 (pv 2))) (do_v (de_callG g G_at (by decide) rfl rfl rfl rfl rfl (da_cons (de_v 1 (pv 1)) (da_cons (de_v 0 (pv 0)) da_nil)))))))
theorem sc_least_fill : FnScope ["land", "one", "other", "low"] ["land", "one", "other", "low"] (defScope (top 22)) := ⟨rfl, rfl, rfl, by decide +kernel, rfl, by decide +kernel, by decide +kernel⟩
theorem ok_least_fill {f : Addr} {fd : FuncData} (F : FunD cn.K "least_fill" "least_fill" (defArgs (top 22)) (defBody (top 22)) (defScope (top 22)) [] [] f fd) (T : Tx cn mg) (G_earth_for : FnG cn P w mg base 4 "earth_for" (py_earth_for Lt) []) (G_is_whole : FnG cn P w mg base 1 "is_whole" py_is_whole []) (G_need_two : FnG cn P w mg base 6 "need_two" py_need_two []) (hlm0 : cn.lm 5 = lmOf "least_fill" (argE 3 (retE ((defBody (top 22)).getD 2 (.Pass ⟨0, 0, 0, 0⟩)))) ["land", "low"]) {c Pt : Addr} (hc : fd.code = .ref c) (B : LamX.TabB base mg c Pt) (ht : cn.tb[0]? = some (Pt, lamQ "least_fill")) :
    FnOk P w cn.K mg base (L2.CX P w) 7 f fd ["land", "one", "other", "low"] (spOf cn (py_least_fill Lt)) :=
  fn_okC F hc sc_least_fill rfl rfl (show (py_least_fill Lt) = fnOf 4 4 (bo_least_fill Lt) from rfl) fun A outer s H E b0 hb0 g => by
    subst hb0
    exact (ds_cons (ds_expr (de_callG g G_need_two (by decide) rfl rfl rfl rfl rfl (da_cons (de_v 0 (pv 0)) (da_cons (de_v 1 (pv 1)) (da_cons (de_v 2 (pv 2)) da_nil)))))
    (ds_cons (ds_if (dt_not (dt_val (de_callG g G_is_whole (by decide) rfl rfl rfl rfl rfl (da_cons (de_v 3 (pv 3)) (da_cons de_int (da_cons (de_gi rfl rfl T.g_HIGH) da_nil)))))) (ds_one (ds_raiseT g rfl PySem.F.excBase_ValueError T.e_NoHeight rfl)) ds_nil)
    (ds_one (ds_ret (de_callL (i := 0) (j := 5) (js := [0, 3]) (fr := ["land", "low"]) g G_earth_for (by decide) rfl rfl rfl rfl rfl ht hlm0 (fun _ => rfl) (lamF_by (by kernel_rfl)) (lamR_by (by kernel_rfl)) rfl (lamS_by (by kernel_rfl)) (dz_cons (de_v 0 (pv 0)) (dz_cons (de_v 1 (pv 1)) (dz_cons (de_v 2 (pv 2)) (dz_lam (i := 0) (fr := ["land", "low"]) B rfl ht rfl (lamF_by (by kernel_rfl)))))))))))
theorem sc_land_at : FnScope ["land", "level", "cell"] ["land", "level"] (defScope (top 24)) := ⟨rfl, rfl, rfl, by decide +kernel, rfl, by decide +kernel, by decide +kernel⟩
theorem ok_land_at {f : Addr} {fd : FuncData} (F : FunD cn.K "land_at" "land_at" (defArgs (top 24)) (defBody (top 24)) (defScope (top 24)) [] [] f fd) (T : Tx cn mg) (G_at : FnG cn P w mg base 1 "at" py_at []) (G_cells_of : FnG cn P w mg base 1 "cells_of" py_cells_of []) :
    FnOk P w cn.K mg base (L2.CX P w) 2 f fd ["land", "level"] (spOf cn py_land_at) :=
  fn_okF F sc_land_at rfl rfl (show py_land_at = fnOf 2 3 bo_land_at from rfl) fun cdv A outer s H E c hc g => by
    subst hc
    exact (ds_one (ds_ret (de_f (de_ty1 g.dictT p1_dict rfl T.b_dict PyProof.Rows.boot_dict (do_v (de_f (df_comp (own := [("cell", 2)]) g (di_any g (de_callG g G_cells_of (by decide) rfl rfl rfl rfl rfl (da_cons (de_v 0 (pv 0)) da_nil))) (blkOk_by (by kernel_rfl)) (fun _ _ _ _ _ g => (dg_n g.nd (i := 2) rfl (.inl rfl))) (fun _ _ _ _ _ g => (dts_one (dt_cmp op_ge p2_ge (do_v (de_callG g G_at (by decide) rfl rfl rfl rfl rfl (da_cons (de_v 0 (pv 0)) (da_cons (de_v 2 (pv 2)) da_nil)))) (do_v (de_v 1 (pv 1))) (nomark _)))) (fun _ _ _ _ _ g => (de_tup (da_cons (de_v 2 (pv 2)) (da_cons de_bool da_nil)))))))))))
theorem sc_pass_of : FnScope ["land", "one", "other", "levels", "level", "cell"] ["land", "one", "other"] (defScope (top 25)) := ⟨rfl, rfl, rfl, by decide +kernel, rfl, by decide +kernel, by decide +kernel⟩
theorem ok_pass_of {f : Addr} {fd : FuncData} (F : FunD cn.K "pass_of" "pass_of" (defArgs (top 25)) (defBody (top 25)) (defScope (top 25)) [] [] f fd) (T : Tx cn mg) (G_at : FnG cn P w mg base 1 "at" py_at []) (G_cells_of : FnG cn P w mg base 1 "cells_of" py_cells_of []) (G_land_at : FnG cn P w mg base 2 "land_at" py_land_at []) (G_spread_of : FnG cn P w mg base 4 "spread_of" py_spread_of []) :
    FnOk P w cn.K mg base (L2.CX P w) 5 f fd ["land", "one", "other"] (spOf cn py_pass_of) :=
  fn_okF F sc_pass_of rfl rfl (show py_pass_of = fnOf 3 6 bo_pass_of from rfl) fun cdv A outer s H E c hc g => by
    subst hc
    exact (ds_cons (ds_set g (i := 3) rfl (.inl rfl) (de_sortSetI g rfl T.b_sorted rfl T.b_set (do_v (de_f (df_comp (own := [("cell", 5)]) g (di_any g (de_callG g G_cells_of (by decide) rfl rfl rfl rfl rfl (da_cons (de_v 0 (pv 0)) da_nil))) (blkOk_by (by kernel_rfl)) (fun _ _ _ _ _ g => (dg_n g.nd (i := 5) rfl (.inl rfl))) (fun _ _ _ _ _ g => (dts_one (dt_cmp op_le p2_le (do_v (de_callG g G_at (by decide) rfl rfl rfl rfl rfl (da_cons (de_v 0 (pv 0)) (da_cons (de_v 5 (pv 5)) da_nil)))) (do_v (de_callG g G_at (by decide) rfl rfl rfl rfl rfl (da_cons (de_v 0 (pv 0)) (da_cons (de_v 1 (pv 1)) da_nil)))) (nomark _)))) (fun _ _ _ _ _ g => (de_callG g G_at (by decide) rfl rfl rfl rfl rfl (da_cons (de_v 0 (pv 0)) (da_cons (de_v 5 (pv 5)) da_nil)))))))))
    (ds_cons (ds_for g (di_any g (de_rev g (do_v (de_v 3 (pv 3))))) (dg_n g.nd (i := 4) rfl (.inl rfl)) (ds_one (ds_if (dt_cmp g.inD p2_in (do_v (de_v 2 (pv 2))) (do_v (de_callG g G_spread_of (by decide) rfl rfl rfl rfl rfl (da_cons (de_v 0 (pv 0)) (da_cons (de_v 1 (pv 1)) (da_cons (de_callG g G_land_at (by decide) rfl rfl rfl rfl rfl (da_cons (de_v 0 (pv 0)) (da_cons (de_v 4 (pv 4)) da_nil))) da_nil))))) (by with_unfolding_all rfl)) (ds_one (ds_ret (de_v 4 (pv 4)))) ds_nil)))
    (ds_one (ds_ret de_int))))
theorem sc_pass_between : FnScope ["land", "one", "other"] ["land", "one", "other"] (defScope (top 26)) := ⟨rfl, rfl, rfl, by decide +kernel, rfl, by decide +kernel, by decide +kernel⟩
theorem ok_pass_between {f : Addr} {fd : FuncData} (F : FunD cn.K "pass_between" "pass_between" (defArgs (top 26)) (defBody (top 26)) (defScope (top 26)) [] [] f fd) (T : Tx cn mg) (G_need_both : FnG cn P w mg base 5 "need_both" py_need_both []) (G_need_cell : FnG cn P w mg base 3 "need_cell" py_need_cell []) (G_pass_of : FnG cn P w mg base 5 "pass_of" py_pass_of []) :
    FnOk P w cn.K mg base (L2.CX P w) 6 f fd ["land", "one", "other"] (spOf cn py_pass_between) :=
  fn_okF F sc_pass_between rfl rfl (show py_pass_between = fnOf 3 3 bo_pass_between from rfl) fun cdv A outer s H E c hc g => by
    subst hc
    exact (ds_cons (ds_expr (de_callG g G_need_both (by decide) rfl rfl rfl rfl rfl (da_cons (de_v 0 (pv 0)) (da_cons (de_v 1 (pv 1)) da_nil))))
    (ds_cons (ds_expr (de_callG g G_need_cell (by decide) rfl rfl rfl rfl rfl (da_cons (de_v 0 (pv 0)) (da_cons (de_v 2 (pv 2)) da_nil))))
    (ds_one (ds_ret (de_callG g G_pass_of (by decide) rfl rfl rfl rfl rfl (da_cons (de_v 0 (pv 0)) (da_cons (de_v 1 (pv 1)) (da_cons (de_v 2 (pv 2)) da_nil))))))))
theorem sc_law_cell_at : FnScope ["script", "k", "rest", "turn"] ["script", "k"] (defScope (top 28)) := ⟨rfl, rfl, rfl, by decide +kernel, rfl, by decide +kernel, by decide +kernel⟩
theorem ok_law_cell_at {f : Addr} {fd : FuncData} (F : FunD cn.K "_law_cell_at" "_law_cell_at" (defArgs (top 28)) (defBody (top 28)) (defScope (top 28)) [] [] f fd) (T : Tx cn mg) :
    FnOk P w cn.K mg base (L2.CX P w) 1 f fd ["script", "k"] (spOf cn py_law_cell_at) :=
  fn_okF F sc_law_cell_at rfl rfl (show py_law_cell_at = fnOf 2 4 bo_law_cell_at from rfl) fun cdv A outer s H E c hc g => by
    subst hc
    exact (ds_cons (ds_if (dt_cmp op_lt p2_lt (do_v (de_v 1 (pv 1))) (do_v (de_len g rfl T.b_len (do_v (de_v 0 (pv 0))))) (nomark _)) (ds_one (ds_ret (de_ix g (do_v (de_v 0 (pv 0))) (do_v (de_v 1 (pv 1)))))) ds_nil)
    (ds_cons (ds_if (dt_scr0 g (do_v (de_v 0 (pv 0)))) (ds_one (ds_ret de_int)) ds_nil)
    (ds_cons (ds_set g (i := 2) rfl (.inl rfl) (de_ix g (do_v (de_v 0 (pv 0))) (do_v (de_bin op_mod p2_mod (do_v (de_v 1 (pv 1))) (do_v (de_len g rfl T.b_len (do_v (de_v 0 (pv 0)))))))))
    (ds_cons (ds_for g (di_range1 rfl T.b_range (de_b2 (call_min2 g.calm) p2_min2 rfl T.b_min boot_min (do_v (de_bin op_fdiv p2_fdiv (do_v (de_v 1 (pv 1))) (do_v (de_len g rfl T.b_len (do_v (de_v 0 (pv 0))))))) (do_v de_int))) (dg_n g.nd (i := 3) rfl (.inl rfl)) (ds_one (ds_set g (i := 2) rfl (.inl rfl) (de_bin op_fdiv p2_fdiv (do_v (de_v 2 (pv 2))) (do_v de_int)))))
    (ds_one (ds_ret (de_bin g.addA p2_add (do_v (de_bin g.addA p2_add (do_v (de_bin op_mul p2_mul (do_v (de_ix g (do_v (de_v 0 (pv 0))) (do_v (de_bin op_mod p2_mod (do_v (de_v 1 (pv 1))) (do_v (de_len g rfl T.b_len (do_v (de_v 0 (pv 0))))))))) (do_v de_int))) (do_v (de_v 1 (pv 1))))) (do_v (de_bin op_mul p2_mul (do_v (de_v 2 (pv 2))) (do_v de_int))))))))))
theorem sc_law_mixed : FnScope ["script", "k", "bound", "drawn"] ["script", "k", "bound"] (defScope (top 29)) := ⟨rfl, rfl, rfl, by decide +kernel, rfl, by decide +kernel, by decide +kernel⟩
theorem ok_law_mixed {f : Addr} {fd : FuncData} (F : FunD cn.K "_law_mixed" "_law_mixed" (defArgs (top 29)) (defBody (top 29)) (defScope (top 29)) [] [] f fd) (T : Tx cn mg) (G_law_cell_at : FnG cn P w mg base 1 "_law_cell_at" py_law_cell_at []) :
    FnOk P w cn.K mg base (L2.CX P w) 2 f fd ["script", "k", "bound"] (spOf cn py_law_mixed) :=
  fn_okF F sc_law_mixed rfl rfl (show py_law_mixed = fnOf 3 4 bo_law_mixed from rfl) fun cdv A outer s H E c hc g => by
    subst hc
    exact (ds_cons (ds_set g (i := 3) rfl (.inl rfl) (de_bin op_mod p2_mod (do_v (de_bin g.addA p2_add (do_v (de_bin g.addA p2_add (do_v (de_bin op_mul p2_mul (do_v (de_callG g G_law_cell_at (by decide) rfl rfl rfl rfl rfl (da_cons (de_v 0 (pv 0)) (da_cons (de_v 1 (pv 1)) da_nil)))) (do_v de_int))) (do_v (de_bin op_mul p2_mul (do_v de_int) (do_v (de_v 1 (pv 1))))))) (do_v de_int))) (do_v de_int)))
    (ds_one (ds_ret (de_bin op_mod p2_mod (do_v (de_bin op_mod p2_mod (do_v (de_bin op_mod p2_mod (do_v (de_bin op_pow p2_pow (do_v (de_v 3 (pv 3))) (do_v de_int))) (do_v de_int))) (do_v de_int))) (do_v (de_v 2 (pv 2)))))))
theorem sc_law_draw : FnScope ["script", "town", "bound"] ["script", "town", "bound"] (defScope (top 30)) := ⟨rfl, rfl, rfl, by decide +kernel, rfl, by decide +kernel, by decide +kernel⟩
theorem ok_law_draw {f : Addr} {fd : FuncData} (F : FunD cn.K "_law_draw" "_law_draw" (defArgs (top 30)) (defBody (top 30)) (defScope (top 30)) [] [] f fd) (T : Tx cn mg) (G_law_mixed : FnG cn P w mg base 2 "_law_mixed" py_law_mixed []) :
    FnOk P w cn.K mg base (L2.CX P w) 3 f fd ["script", "town", "bound"] (spOf cn py_law_draw) :=
  fn_okF F sc_law_draw rfl rfl (show py_law_draw = fnOf 3 3 bo_law_draw from rfl) fun cdv A outer s H E c hc g => by
    subst hc
    exact (ds_cons (ds_town (pv 1))
    (ds_one (ds_ret (de_callG g G_law_mixed (by decide) rfl rfl rfl rfl rfl (da_cons (de_v 0 (pv 0)) (da_cons (de_len g rfl T.b_len (do_v (de_v 1 (pv 1)))) (da_cons (de_v 2 (pv 2)) da_nil)))))))
theorem sc_law_pick : FnScope ["script", "town", "some"] ["script", "town", "some"] (defScope (top 31)) := ⟨rfl, rfl, rfl, by decide +kernel, rfl, by decide +kernel, by decide +kernel⟩
theorem ok_law_pick {f : Addr} {fd : FuncData} (F : FunD cn.K "_law_pick" "_law_pick" (defArgs (top 31)) (defBody (top 31)) (defScope (top 31)) [] [] f fd) (T : Tx cn mg) (G_law_draw : FnG cn P w mg base 3 "_law_draw" py_law_draw []) :
    FnOk P w cn.K mg base (L2.CX P w) 4 f fd ["script", "town", "some"] (spOf cn py_law_pick) :=
  fn_okF F sc_law_pick rfl rfl (show py_law_pick = fnOf 3 3 bo_law_pick from rfl) fun cdv A outer s H E c hc g => by
    subst hc
    exact (ds_one (ds_ret (de_ix g (do_v (de_v 2 (pv 2))) (do_v (de_callG g G_law_draw (by decide) rfl rfl rfl rfl rfl (da_cons (de_v 0 (pv 0)) (da_cons (de_v 1 (pv 1)) (da_cons (de_len g rfl T.b_len (do_v (de_v 2 (pv 2)))) da_nil))))))))
theorem sc_law_same_number : FnScope ["got", "due"] ["got", "due"] (defScope (top 32)) := ⟨rfl, rfl, rfl, by decide +kernel, rfl, by decide +kernel, by decide +kernel⟩
theorem ok_law_same_number {f : Addr} {fd : FuncData} (F : FunD cn.K "_law_same_number" "_law_same_number" (defArgs (top 32)) (defBody (top 32)) (defScope (top 32)) [] [] f fd) (T : Tx cn mg) :
    FnOk P w cn.K mg base (L2.CX P w) 1 f fd ["got", "due"] (spOf cn py_law_same_number) :=
  fn_okF F sc_law_same_number rfl rfl (show py_law_same_number = fnOf 2 2 bo_law_same_number from rfl) fun cdv A outer s H E c hc g => by
    subst hc
    exact (ds_one (ds_ret (de_and (de_isi g p1_isInt rfl T.b_isinstance (do_v (de_v 0 (pv 0))) rfl T.b_int (by decide +kernel)) (de_and (de_not (de_isi g p1_isBool rfl T.b_isinstance (do_v (de_v 0 (pv 0))) rfl T.b_bool (by decide +kernel))) (de_and1 (de_cmp g.eqD p2_eq (do_v (de_v 0 (pv 0))) (do_v (de_v 1 (pv 1))) (nomark _)))))))
theorem sc_law_land : FnScope ["script", "town", "bound", "tall", "wide", "high", "turn", "k"] ["script", "town", "bound"] (defScope (top 33)) := ⟨rfl, rfl, rfl, by decide +kernel, rfl, by decide +kernel, by decide +kernel⟩
theorem ok_law_land {f : Addr} {fd : FuncData} (F : FunD cn.K "_law_land" "_law_land" (defArgs (top 33)) (defBody (top 33)) (defScope (top 33)) [] [] f fd) (T : Tx cn mg) (G_law_draw : FnG cn P w mg base 3 "_law_draw" py_law_draw []) (G_law_pick : FnG cn P w mg base 4 "_law_pick" py_law_pick []) :
    FnOk P w cn.K mg base (L2.CX P w) 5 f fd ["script", "town", "bound"] (spOf cn py_law_land) :=
  fn_okF F sc_law_land rfl rfl (show py_law_land = fnOf 3 8 bo_law_land from rfl) fun cdv A outer s H E c hc g => by
    subst hc
    exact (ds_cons (ds_parC g (i := 3) (j := 4) rfl rfl (by decide) (.inl rfl) (.inr rfl) (de_bin g.addA p2_add (do_v de_int) (do_v (de_callG g G_law_draw (by decide) rfl rfl rfl rfl rfl (da_cons (de_v 0 (pv 0)) (da_cons (de_v 1 (pv 1)) (da_cons (de_v 2 (pv 2)) da_nil)))))) (de_bin g.addA p2_add (do_v de_int) (do_v (de_callG g G_law_draw (by decide) rfl rfl rfl rfl rfl (da_cons (de_v 0 (pv 0)) (da_cons (de_v 1 (pv 1)) (da_cons (de_v 2 (pv 2)) da_nil)))))))
    (ds_cons (ds_set g (i := 5) rfl (.inr rfl) (de_callG g G_law_pick (by decide) rfl rfl rfl rfl rfl (da_cons (de_v 0 (pv 0)) (da_cons (de_v 1 (pv 1)) (da_cons (de_f (df_lst (da_cons de_int (da_cons de_int (da_cons de_int (da_cons de_int (da_cons de_int (da_cons de_int da_nil)))))))) da_nil)))))
    (ds_one (ds_ret (de_ty1 g.tuple p1_tuple rfl T.b_tuple PyProof.Rows.boot_tuple (do_v (de_f (df_comp (own := [("turn", 6)]) g (di_range1 rfl T.b_range (de_v 3 (pv 3))) (blkOk_by (by kernel_rfl)) (fun _ _ _ _ _ g => (dg_n g.nd (i := 6) rfl (.inl rfl))) (fun _ _ _ _ _ g => dts_nil) (fun _ _ _ _ _ g => (de_ty1 g.tuple p1_tuple rfl T.b_tuple PyProof.Rows.boot_tuple (do_v (de_f (df_comp (own := [("k", 7)]) g (di_range1 rfl T.b_range (de_v 4 (pv 4))) (blkOk_by (by kernel_rfl)) (fun _ _ _ _ _ g => (dg_n g.nd (i := 7) rfl (.inl rfl))) (fun _ _ _ _ _ g => dts_nil) (fun _ _ _ _ _ g => (de_callG g G_law_draw (by decide) rfl rfl rfl rfl rfl (da_cons (de_v 0 (pv 0)) (da_cons (de_v 1 (pv 1)) (da_cons (de_v 5 (pv 5)) da_nil))))))))))))))))))
theorem sc_law_cells : FnScope ["land", "made", "down", "across"] ["land"] (defScope (top 34)) := ⟨rfl, rfl, rfl, by decide +kernel, rfl, by decide +kernel, by decide +kernel⟩
theorem ok_law_cells {f : Addr} {fd : FuncData} (F : FunD cn.K "_law_cells" "_law_cells" (defArgs (top 34)) (defBody (top 34)) (defScope (top 34)) [] [] f fd) (T : Tx cn mg) :
    FnOk P w cn.K mg base (L2.CX P w) 1 f fd ["land"] (spOf cn py_law_cells) :=
  fn_okF F sc_law_cells rfl rfl (show py_law_cells = fnOf 1 4 bo_law_cells from rfl) fun cdv A outer s H E c hc g => by
    subst hc
    exact (ds_cons (ds_setF g (i := 1) rfl (.inl rfl) (df_lst da_nil))
    (ds_cons (ds_for g (di_range1 rfl T.b_range (de_len g rfl T.b_len (do_v (de_v 0 (pv 0))))) (dg_n g.nd (i := 2) rfl (.inr rfl)) (ds_one (ds_extend (pv 1) (de_f (df_comp (own := [("across", 3)]) g (di_range1 rfl T.b_range (de_len g rfl T.b_len (do_v (de_ix g (do_v (de_v 0 (pv 0))) (do_v de_int))))) (blkOk_by (by kernel_rfl)) (fun _ _ _ _ _ g => (dg_n g.nd (i := 3) rfl (.inl rfl))) (fun _ _ _ _ _ g => dts_nil) (fun _ _ _ _ _ g => (de_tup (da_cons (de_v 2 (pv 2)) (da_cons (de_v 3 (pv 3)) da_nil)))))))))
    (ds_one (ds_ret (de_v 1 (pv 1))))))
theorem sc_law_high : FnScope ["land", "spot"] ["land", "spot"] (defScope (top 35)) := ⟨rfl, rfl, rfl, by decide +kernel, rfl, by decide +kernel, by decide +kernel⟩
theorem ok_law_high {f : Addr} {fd : FuncData} (F : FunD cn.K "_law_high" "_law_high" (defArgs (top 35)) (defBody (top 35)) (defScope (top 35)) [] [] f fd) (T : Tx cn mg) :
    FnOk P w cn.K mg base (L2.CX P w) 1 f fd ["land", "spot"] (spOf cn py_law_high) :=
  fn_okF F sc_law_high rfl rfl (show py_law_high = fnOf 2 2 bo_law_high from rfl) fun cdv A outer s H E c hc g => by
    subst hc
    exact (ds_one (ds_ret (de_ix g (do_v (de_ix g (do_v (de_v 0 (pv 0))) (do_v (de_ix g (do_v (de_v 1 (pv 1))) (do_v de_int))))) (do_v (de_ix g (do_v (de_v 1 (pv 1))) (do_v de_int))))))
theorem sc_law_near : FnScope ["one", "other"] ["one", "other"] (defScope (top 36)) := ⟨rfl, rfl, rfl, by decide +kernel, rfl, by decide +kernel, by decide +kernel⟩
theorem ok_law_near {f : Addr} {fd : FuncData} (F : FunD cn.K "_law_near" "_law_near" (defArgs (top 36)) (defBody (top 36)) (defScope (top 36)) [] [] f fd) (T : Tx cn mg) :
    FnOk P w cn.K mg base (L2.CX P w) 1 f fd ["one", "other"] (spOf cn py_law_near) :=
  fn_okF F sc_law_near rfl rfl (show py_law_near = fnOf 2 2 bo_law_near from rfl) fun cdv A outer s H E c hc g => by
    subst hc
    exact (ds_one (ds_ret (de_cmp g.eqD p2_eq (do_v (de_bin g.addA p2_add (do_v (de_b1 call_abs p1_abs rfl T.b_abs boot_abs (do_v (de_bin op_sub p2_sub (do_v (de_ix g (do_v (de_v 0 (pv 0))) (do_v de_int))) (do_v (de_ix g (do_v (de_v 1 (pv 1))) (do_v de_int))))))) (do_v (de_b1 call_abs p1_abs rfl T.b_abs boot_abs (do_v (de_bin op_sub p2_sub (do_v (de_ix g (do_v (de_v 0 (pv 0))) (do_v de_int))) (do_v (de_ix g (do_v (de_v 1 (pv 1))) (do_v de_int))))))))) (do_v de_int) (nomark _))))
theorem sc_law_beside : FnScope ["land", "spot", "other"] ["land", "spot"] (defScope (top 37)) := ⟨rfl, rfl, rfl, by decide +kernel, rfl, by decide +kernel, by decide +kernel⟩
theorem ok_law_beside {f : Addr} {fd : FuncData} (F : FunD cn.K "_law_beside" "_law_beside" (defArgs (top 37)) (defBody (top 37)) (defScope (top 37)) [] [] f fd) (T : Tx cn mg) (G_law_cells : FnG cn P w mg base 1 "_law_cells" py_law_cells []) (G_law_near : FnG cn P w mg base 1 "_law_near" py_law_near []) :
    FnOk P w cn.K mg base (L2.CX P w) 2 f fd ["land", "spot"] (spOf cn py_law_beside) :=
  fn_okF F sc_law_beside rfl rfl (show py_law_beside = fnOf 2 3 bo_law_beside from rfl) fun cdv A outer s H E c hc g => by
    subst hc
    exact (ds_one (ds_ret (de_f (df_comp (own := [("other", 2)]) g (di_any g (de_callG g G_law_cells (by decide) rfl rfl rfl rfl rfl (da_cons (de_v 0 (pv 0)) da_nil))) (blkOk_by (by kernel_rfl)) (fun _ _ _ _ _ g => (dg_n g.nd (i := 2) rfl (.inl rfl))) (fun _ _ _ _ _ g => (dts_one (dt_val (de_callG g G_law_near (by decide) rfl rfl rfl rfl rfl (da_cons (de_v 1 (pv 1)) (da_cons (de_v 2 (pv 2)) da_nil)))))) (fun _ _ _ _ _ g => (de_v 2 (pv 2)))))))
theorem sc_law_all : FnScope ["land", "one", "other", "made", "left", "walk", "spot"] ["land", "one", "other"] (defScope (top 38)) := ⟨rfl, rfl, rfl, by decide +kernel, rfl, by decide +kernel, by decide +kernel⟩
theorem ok_law_all {f : Addr} {fd : FuncData} (F : FunD cn.K "_law_all" "_law_all" (defArgs (top 38)) (defBody (top 38)) (defScope (top 38)) [] [] f fd) (T : Tx cn mg) (G_law_beside : FnG cn P w mg base 2 "_law_beside" py_law_beside []) :
    FnOk P w cn.K mg base (L2.CX P w) 3 f fd ["land", "one", "other"] (spOf cn py_law_all) :=
  fn_okF F sc_law_all rfl rfl (show py_law_all = fnOf 3 7 bo_law_all from rfl) fun cdv A outer s H E c hc g => by
    subst hc
    exact (ds_cons (ds_par g (i := 3) (j := 4) rfl rfl (by decide) rfl rfl (df_lst da_nil) (df_lst (da_cons (de_f (df_lst (da_cons (de_v 1 (pv 1)) da_nil))) da_nil)) rfl)
    (ds_cons (ds_while g (dt_cmp g.neD p2_ne (do_b (pv 4)) (do_v (de_f (df_lst da_nil))) (nomark _)) (ds_cons (ds_set g (i := 5) rfl (.inr rfl) (de_pop (pv 4)))
    (ds_one (ds_if (dt_cmp g.eqD p2_eq (do_v (de_ix g (do_v (de_v 5 (pv 5))) (do_v (de_un un_neg p1_neg (do_v de_int))))) (do_v (de_v 2 (pv 2))) (nomark _)) (ds_one (ds_append (pv 3) (de_v 5 (pv 5)))) (ds_one (ds_extend (pv 4) (de_f (df_comp (own := [("spot", 6)]) g (di_any g (de_callG g G_law_beside (by decide) rfl rfl rfl rfl rfl (da_cons (de_v 0 (pv 0)) (da_cons (de_ix g (do_v (de_v 5 (pv 5))) (do_v (de_un un_neg p1_neg (do_v de_int)))) da_nil)))) (blkOk_by (by kernel_rfl)) (fun _ _ _ _ _ g => (dg_n g.nd (i := 6) rfl (.inl rfl))) (fun _ _ _ _ _ g => (dts_one (dt_cmp g.notInD p2_notIn (do_v (de_v 6 (pv 6))) (do_v (de_v 5 (pv 5))) (by with_unfolding_all rfl)))) (fun _ _ _ _ _ g => (de_bin g.addA p2_add (do_v (de_v 5 (pv 5))) (do_v (de_f (df_lst (da_cons (de_v 6 (pv 6)) da_nil))))))))))))))
    (ds_one (ds_ret (de_v 3 (pv 3))))))
theorem sc_law_round : FnScope ["land", "one", "low", "least", "going", "spot", "more", "some", "other"] ["land", "one", "low"] (defScope (top 39)) := ⟨rfl, rfl, rfl, by decide +kernel, rfl, by decide +kernel, by decide +kernel⟩
theorem ok_law_round {f : Addr} {fd : FuncData} (F : FunD cn.K "_law_round" "_law_round" (defArgs (top 39)) (defBody (top 39)) (defScope (top 39)) [] [] f fd) (T : Tx cn mg) (G_law_beside : FnG cn P w mg base 2 "_law_beside" py_law_beside []) (G_law_cells : FnG cn P w mg base 1 "_law_cells" py_law_cells []) (G_law_high : FnG cn P w mg base 1 "_law_high" py_law_high []) :
    FnOk P w cn.K mg base (L2.CX P w) 3 f fd ["land", "one", "low"] (spOf cn py_law_round) :=
  fn_okF F sc_law_round rfl rfl (show py_law_round = fnOf 3 9 bo_law_round from rfl) fun cdv A outer s H E c hc g => by
    subst hc
    exact (ds_cons (ds_parC g (i := 3) (j := 4) rfl rfl (by decide) (.inr rfl) (.inl rfl) (df_dct1 g (de_v 1 (pv 1)) (de_b2 (call_max2 g.calm) p2_max2 rfl T.b_max boot_max (do_v de_int) (do_v (de_bin op_sub p2_sub (do_v (de_v 2 (pv 2))) (do_v (de_callG g G_law_high (by decide) rfl rfl rfl rfl rfl (da_cons (de_v 0 (pv 0)) (da_cons (de_v 1 (pv 1)) da_nil)))))))) de_bool)
    (ds_cons (ds_while g (dt_val (de_v 4 (pv 4))) (ds_cons (ds_set g (i := 4) rfl (.inl rfl) de_bool)
    (ds_one (ds_for g (di_any g (de_callG g G_law_cells (by decide) rfl rfl rfl rfl rfl (da_cons (de_v 0 (pv 0)) da_nil))) (dg_n g.nd (i := 5) rfl (.inl rfl)) (ds_cons (ds_set g (i := 6) rfl (.inr rfl) (de_b2 (call_max2 g.calm) p2_max2 rfl T.b_max boot_max (do_v de_int) (do_v (de_bin op_sub p2_sub (do_v (de_v 2 (pv 2))) (do_v (de_callG g G_law_high (by decide) rfl rfl rfl rfl rfl (da_cons (de_v 0 (pv 0)) (da_cons (de_v 5 (pv 5)) da_nil))))))))
    (ds_cons (ds_setLc (i := 7) (own := [("other", 8)]) g rfl rfl (di_any g (de_callG g G_law_beside (by decide) rfl rfl rfl rfl rfl (da_cons (de_v 0 (pv 0)) (da_cons (de_v 5 (pv 5)) da_nil)))) (blkOk_by (by kernel_rfl)) (fun _ _ _ _ _ g => (dg_n g.nd (i := 8) rfl (.inl rfl))) (fun _ _ _ _ _ g => (dts_one (dt_cmp g.inDct p2_inDct (do_v (de_v 8 (pv 8))) (do_b (pv 3)) (by with_unfolding_all rfl)))) (fun _ _ _ _ _ g => (de_bin g.addA p2_add (do_v (de_ixD g (do_b (pv 3)) (do_v (de_v 8 (pv 8))))) (do_v (de_v 6 (pv 6))))) (sw_true rfl rfl rfl (by decide +kernel)))
    (ds_one (ds_if (dt_w (dw_and (dt_cmp g.neD p2_ne (do_v (de_v 7 (pv 7))) (do_v (de_f (df_lst da_nil))) (nomark _)) (dw_and1 (dt_cmp op_lt p2_lt (do_v (de_b1 g.minD p1_minD rfl T.b_min boot_min (do_v (de_v 7 (pv 7))))) (do_v (de_getD g (pv 3) (da_cons (de_v 5 (pv 5)) (da_cons (de_bin op_pow p2_pow (do_v de_int) (do_v de_int)) da_nil)))) (nomark _))))) (ds_one (ds_put2 g (i := 3) (j := 4) rfl (.inl rfl) (pv 3) (de_v 5 (pv 5)) (da_cons (de_b1 g.minD p1_minD rfl T.b_min boot_min (do_v (de_v 7 (pv 7)))) (da_cons de_bool da_nil)))) ds_nil))))))))
    (ds_one (ds_ret (de_v 3 (pv 3))))))
theorem sc_law : FnScope ["script", "town", "land", "one", "other", "low", "best", "walk", "laid", "filled", "down", "belt", "wide", "here", "due", "there", "spot", "k", "more"] ["script"] (defScope (top 40)) := ⟨rfl, rfl, rfl, by decide +kernel, rfl, by decide +kernel, by decide +kernel⟩
theorem ok_law {f : Addr} {fd : FuncData} (F : FunD cn.K "law" "law" (defArgs (top 40)) (defBody (top 40)) (defScope (top 40)) [] [] f fd) (T : Tx cn mg) (G_law_all : FnG cn P w mg base 3 "_law_all" py_law_all []) (G_law_cells : FnG cn P w mg base 1 "_law_cells" py_law_cells []) (G_law_draw : FnG cn P w mg base 3 "_law_draw" py_law_draw []) (G_law_high : FnG cn P w mg base 1 "_law_high" py_law_high []) (G_law_land : FnG cn P w mg base 5 "_law_land" py_law_land []) (G_law_pick : FnG cn P w mg base 4 "_law_pick" py_law_pick []) (G_law_round : FnG cn P w mg base 3 "_law_round" py_law_round []) (G_law_same_number : FnG cn P w mg base 1 "_law_same_number" py_law_same_number []) (G_least_fill : FnG cn P w mg base 7 "least_fill" (py_least_fill Lt) []) (G_pass_between : FnG cn P w mg base 6 "pass_between" py_pass_between []) :
    FnOk P w cn.K mg base (L2.CX P w) 8 f fd ["script"] (spOf cn py_law) :=
  fn_okF F sc_law rfl rfl (show py_law = fnOf 1 19 bo_law from rfl) fun cdv A outer s H E c hc g => by
    subst hc
    exact (ds_cons (ds_town0 g (i := 1) rfl (.inl rfl))
    (ds_cons (ds_set g (i := 2) rfl (.inr rfl) (de_callG g G_law_land (by decide) rfl rfl rfl rfl rfl (da_cons (de_v 0 (pv 0)) (da_cons (de_v 1 (pv 1)) (da_cons de_int da_nil)))))
    (ds_cons (ds_par g (i := 3) (j := 4) rfl rfl (by decide) rfl rfl (de_callG g G_law_pick (by decide) rfl rfl rfl rfl rfl (da_cons (de_v 0 (pv 0)) (da_cons (de_v 1 (pv 1)) (da_cons (de_callG g G_law_cells (by decide) rfl rfl rfl rfl rfl (da_cons (de_v 2 (pv 2)) da_nil)) da_nil)))) (de_callG g G_law_pick (by decide) rfl rfl rfl rfl rfl (da_cons (de_v 0 (pv 0)) (da_cons (de_v 1 (pv 1)) (da_cons (de_callG g G_law_cells (by decide) rfl rfl rfl rfl rfl (da_cons (de_v 2 (pv 2)) da_nil)) da_nil)))) rfl)
    (ds_cons (ds_set g (i := 5) rfl (.inr rfl) (de_callG g G_law_pick (by decide) rfl rfl rfl rfl rfl (da_cons (de_v 0 (pv 0)) (da_cons (de_v 1 (pv 1)) (da_cons (de_f (df_lst (da_cons de_int (da_cons de_int (da_cons de_int (da_cons de_int (da_cons de_int (da_cons de_int (da_cons (de_callG g G_law_draw (by decide) rfl rfl rfl rfl rfl (da_cons (de_v 0 (pv 0)) (da_cons (de_v 1 (pv 1)) (da_cons de_int da_nil)))) da_nil))))))))) da_nil)))))
    (ds_cons (ds_setF g (i := 6) rfl (.inl rfl) (df_lst da_nil))
    (ds_cons (ds_for g (di_any g (de_callG g G_law_all (by decide) rfl rfl rfl rfl rfl (da_cons (de_v 2 (pv 2)) (da_cons (de_v 3 (pv 3)) (da_cons (de_v 4 (pv 4)) da_nil))))) (dg_n g.nd (i := 7) rfl (.inl rfl)) (ds_one (ds_append (pv 6) (de_tup (da_cons (de_b1 g.sum p1_sum rfl T.b_sum boot_sum (do_v (de_f (df_comp (own := [("spot", 16)]) g (di_any g (de_v 7 (pv 7))) (blkOk_by (by kernel_rfl)) (fun _ _ _ _ _ g => (dg_n g.nd (i := 16) rfl (.inl rfl))) (fun _ _ _ _ _ g => dts_nil) (fun _ _ _ _ _ g => (de_b2 (call_max2 g.calm) p2_max2 rfl T.b_max boot_max (do_v de_int) (do_v (de_bin op_sub p2_sub (do_v (de_v 5 (pv 5))) (do_v (de_callG g G_law_high (by decide) rfl rfl rfl rfl rfl (da_cons (de_v 2 (pv 2)) (da_cons (de_v 16 (pv 16)) da_nil)))))))))))) (da_cons (de_v 7 (pv 7)) da_nil))))))
    (ds_cons (ds_if (dt_cmp g.neD p2_ne (do_v (de_callG g G_least_fill (by decide) rfl rfl rfl rfl rfl (da_cons (de_v 2 (pv 2)) (da_cons (de_v 3 (pv 3)) (da_cons (de_v 4 (pv 4)) (da_cons (de_v 5 (pv 5)) da_nil)))))) (do_v (de_ix g (do_v (de_b1 g.minD p1_minD rfl T.b_min boot_min (do_b (pv 6)))) (do_v de_int))) (nomark _)) (ds_one (ds_ret de_bool)) ds_nil)
    (ds_cons (ds_set g (i := 8) rfl (.inr rfl) (de_ix g (do_v (de_b1 g.minD p1_minD rfl T.b_min boot_min (do_b (pv 6)))) (do_v de_int)))
    (ds_cons (ds_setF g (i := 9) rfl (.inl rfl) (df_lst da_nil))
    (ds_cons (ds_for g (di_enumA rfl T.b_enumerate (de_v 2 (pv 2))) (dg_t g (dgs_cons (dg_n g.nd (i := 10) rfl (.inr rfl)) (dgs_cons (dg_n g.nd (i := 11) rfl (.inl rfl)) dgs_nil))) (ds_one (ds_append (pv 9) (de_ty1 g.tuple p1_tuple rfl T.b_tuple PyProof.Rows.boot_tuple (do_v (de_f (df_comp (own := [("k", 17), ("more", 18)]) g (di_enumA rfl T.b_enumerate (de_v 11 (pv 11))) (blkOk_by (by kernel_rfl)) (fun _ _ _ _ _ g => (dg_t g (dgs_cons (dg_n g.nd (i := 17) rfl (.inl rfl)) (dgs_cons (dg_n g.nd (i := 18) rfl (.inl rfl)) dgs_nil)))) (fun _ _ _ _ _ g => dts_nil) (fun _ _ _ _ _ g => (de_ite (dt_cmp g.inD p2_in (do_v (de_tup (da_cons (de_v 10 (pv 10)) (da_cons (de_v 17 (pv 17)) da_nil)))) (do_v (de_v 8 (pv 8))) (by with_unfolding_all rfl)) (de_b2 (call_max2 g.calm) p2_max2 rfl T.b_max boot_max (do_v (de_v 18 (pv 18))) (do_v (de_v 5 (pv 5)))) (de_v 18 (pv 18)))))))))))
    (ds_cons (ds_if (dt_cmp op_lt p2_lt (do_v (de_callG g G_pass_between (by decide) rfl rfl rfl rfl rfl (da_cons (de_ty1 g.tuple p1_tuple rfl T.b_tuple PyProof.Rows.boot_tuple (do_b (pv 9))) (da_cons (de_v 3 (pv 3)) (da_cons (de_v 4 (pv 4)) da_nil))))) (do_v (de_v 5 (pv 5))) (nomark _)) (ds_one (ds_ret de_bool)) ds_nil)
    (ds_cons (ds_set g (i := 12) rfl (.inl rfl) (de_callG g G_law_land (by decide) rfl rfl rfl rfl rfl (da_cons (de_v 0 (pv 0)) (da_cons (de_v 1 (pv 1)) (da_cons de_int da_nil)))))
    (ds_cons (ds_set g (i := 13) rfl (.inl rfl) (de_callG g G_law_pick (by decide) rfl rfl rfl rfl rfl (da_cons (de_v 0 (pv 0)) (da_cons (de_v 1 (pv 1)) (da_cons (de_callG g G_law_cells (by decide) rfl rfl rfl rfl rfl (da_cons (de_v 12 (pv 12)) da_nil)) da_nil)))))
    (ds_cons (ds_set g (i := 14) rfl (.inl rfl) (de_callG g G_law_round (by decide) rfl rfl rfl rfl rfl (da_cons (de_v 12 (pv 12)) (da_cons (de_v 13 (pv 13)) (da_cons (de_v 5 (pv 5)) da_nil)))))
    (ds_cons (ds_set g (i := 15) rfl (.inl rfl) (de_callG g G_law_pick (by decide) rfl rfl rfl rfl rfl (da_cons (de_v 0 (pv 0)) (da_cons (de_v 1 (pv 1)) (da_cons (de_callG g G_law_cells (by decide) rfl rfl rfl rfl rfl (da_cons (de_v 12 (pv 12)) da_nil)) da_nil)))))
    (ds_cons (ds_if (dt_not (dt_val (de_callG g G_law_same_number (by decide) rfl rfl rfl rfl rfl (da_cons (de_callG g G_least_fill (by decide) rfl rfl rfl rfl rfl (da_cons (de_v 12 (pv 12)) (da_cons (de_v 13 (pv 13)) (da_cons (de_v 15 (pv 15)) (da_cons (de_v 5 (pv 5)) da_nil))))) (da_cons (de_ixD g (do_v (de_v 14 (pv 14))) (do_v (de_v 15 (pv 15)))) da_nil))))) (ds_one (ds_ret de_bool)) ds_nil)
    (ds_cons (ds_if (dt_cmp g.neD p2_ne (do_v (de_callG g G_least_fill (by decide) rfl rfl rfl rfl rfl (da_cons (de_v 12 (pv 12)) (da_cons (de_v 15 (pv 15)) (da_cons (de_v 13 (pv 13)) (da_cons (de_v 5 (pv 5)) da_nil)))))) (do_v (de_ixD g (do_v (de_v 14 (pv 14))) (do_v (de_v 15 (pv 15))))) (nomark _)) (ds_one (ds_ret de_bool)) ds_nil)
    (ds_one (ds_ret (de_cmp g.eqD p2_eq (do_v (de_cmp g.eqD p2_eq (do_v (de_ixD g (do_v (de_v 14 (pv 14))) (do_v (de_v 15 (pv 15))))) (do_v de_int) (nomark _))) (do_v (de_cmp op_le p2_le (do_v (de_v 5 (pv 5))) (do_v (de_callG g G_pass_between (by decide) rfl rfl rfl rfl rfl (da_cons (de_v 12 (pv 12)) (da_cons (de_v 13 (pv 13)) (da_cons (de_v 15 (pv 15)) da_nil))))) (nomark _))) (nomark _)))))))))))))))))))))
end
end Pk
namespace Pk
open PySem PySem.Spec PyProof.Rows L2
def hd_is_whole : He.DefD := ⟨("is_whole", none), "is_whole", "is_whole", defArgs (top 8), defBody (top 8), defScope (top 8), [], []⟩
def hd_is_line : He.DefD := ⟨("is_line", none), "is_line", "is_line", defArgs (top 9), defBody (top 9), defScope (top 9), [], []⟩
def hd_is_land : He.DefD := ⟨("is_land", none), "is_land", "is_land", defArgs (top 10), defBody (top 10), defScope (top 10), [], []⟩
def hd_need_land : He.DefD := ⟨("need_land", none), "need_land", "need_land", defArgs (top 11), defBody (top 11), defScope (top 11), [], []⟩
def hd_is_cell : He.DefD := ⟨("is_cell", none), "is_cell", "is_cell", defArgs (top 12), defBody (top 12), defScope (top 12), [], []⟩
def hd_need_cell : He.DefD := ⟨("need_cell", none), "need_cell", "need_cell", defArgs (top 13), defBody (top 13), defScope (top 13), [], []⟩
def hd_need_both : He.DefD := ⟨("need_both", none), "need_both", "need_both", defArgs (top 14), defBody (top 14), defScope (top 14), [], []⟩
def hd_cells_of : He.DefD := ⟨("cells_of", none), "cells_of", "cells_of", defArgs (top 15), defBody (top 15), defScope (top 15), [], []⟩
def hd_at : He.DefD := ⟨("at", none), "at", "at", defArgs (top 16), defBody (top 16), defScope (top 16), [], []⟩
def hd_beside_of : He.DefD := ⟨("beside_of", none), "beside_of", "beside_of", defArgs (top 17), defBody (top 17), defScope (top 17), [], []⟩
def hd_spread_of : He.DefD := ⟨("spread_of", none), "spread_of", "spread_of", defArgs (top 18), defBody (top 18), defScope (top 18), [], []⟩
def hd_earth_for : He.DefD := ⟨("earth_for", none), "earth_for", "earth_for", defArgs (top 20), defBody (top 20), defScope (top 20), [], []⟩
def hd_need_two : He.DefD := ⟨("need_two", none), "need_two", "need_two", defArgs (top 21), defBody (top 21), defScope (top 21), [], []⟩
def hd_least_fill : He.DefD := ⟨("least_fill", none), "least_fill", "least_fill", defArgs (top 22), defBody (top 22), defScope (top 22), [], []⟩
def hd_land_at : He.DefD := ⟨("land_at", none), "land_at", "land_at", defArgs (top 24), defBody (top 24), defScope (top 24), [], []⟩
def hd_pass_of : He.DefD := ⟨("pass_of", none), "pass_of", "pass_of", defArgs (top 25), defBody (top 25), defScope (top 25), [], []⟩
def hd_pass_between : He.DefD := ⟨("pass_between", none), "pass_between", "pass_between", defArgs (top 26), defBody (top 26), defScope (top 26), [], []⟩
def hd_law_cell_at : He.DefD := ⟨("_law_cell_at", none), "_law_cell_at", "_law_cell_at", defArgs (top 28), defBody (top 28), defScope (top 28), [], []⟩
def hd_law_mixed : He.DefD := ⟨("_law_mixed", none), "_law_mixed", "_law_mixed", defArgs (top 29), defBody (top 29), defScope (top 29), [], []⟩
def hd_law_draw : He.DefD := ⟨("_law_draw", none), "_law_draw", "_law_draw", defArgs (top 30), defBody (top 30), defScope (top 30), [], []⟩
def hd_law_pick : He.DefD := ⟨("_law_pick", none), "_law_pick", "_law_pick", defArgs (top 31), defBody (top 31), defScope (top 31), [], []⟩
def hd_law_same_number : He.DefD := ⟨("_law_same_number", none), "_law_same_number", "_law_same_number", defArgs (top 32), defBody (top 32), defScope (top 32), [], []⟩
def hd_law_land : He.DefD := ⟨("_law_land", none), "_law_land", "_law_land", defArgs (top 33), defBody (top 33), defScope (top 33), [], []⟩
def hd_law_cells : He.DefD := ⟨("_law_cells", none), "_law_cells", "_law_cells", defArgs (top 34), defBody (top 34), defScope (top 34), [], []⟩
def hd_law_high : He.DefD := ⟨("_law_high", none), "_law_high", "_law_high", defArgs (top 35), defBody (top 35), defScope (top 35), [], []⟩
def hd_law_near : He.DefD := ⟨("_law_near", none), "_law_near", "_law_near", defArgs (top 36), defBody (top 36), defScope (top 36), [], []⟩
def hd_law_beside : He.DefD := ⟨("_law_beside", none), "_law_beside", "_law_beside", defArgs (top 37), defBody (top 37), defScope (top 37), [], []⟩
def hd_law_all : He.DefD := ⟨("_law_all", none), "_law_all", "_law_all", defArgs (top 38), defBody (top 38), defScope (top 38), [], []⟩
def hd_law_round : He.DefD := ⟨("_law_round", none), "_law_round", "_law_round", defArgs (top 39), defBody (top 39), defScope (top 39), [], []⟩
def hd_law : He.DefD := ⟨("law", none), "law", "law", defArgs (top 40), defBody (top 40), defScope (top 40), [], []⟩
def hd_NoCell_init : He.DefD := ⟨("NoCell", some "__init__"), "__init__", "NoCell.__init__", defArgs (clsM (top 3)), defBody (clsM (top 3)), defScope (clsM (top 3)), [], []⟩
def hfn0 : List He.DefD := [
  hd_is_whole,
  hd_is_line,
  hd_is_land,
  hd_need_land,
  hd_is_cell,
  hd_need_cell,
  hd_need_both,
  hd_cells_of,
  hd_at,
  hd_beside_of,
  hd_spread_of,
  hd_earth_for]
def hfn1 : List He.DefD := [
  hd_need_two,
  hd_least_fill,
  hd_land_at,
  hd_pass_of,
  hd_pass_between,
  hd_law_cell_at,
  hd_law_mixed,
  hd_law_draw,
  hd_law_pick,
  hd_law_same_number,
  hd_law_land,
  hd_law_cells]
def hfn2 : List He.DefD := [
  hd_law_high,
  hd_law_near,
  hd_law_beside,
  hd_law_all,
  hd_law_round,
  hd_law,
  hd_NoCell_init]
def hfn : List He.DefD := hfn0 ++ hfn1 ++ hfn2
def hfa : List He.Fa := ([.glo "is_whole", .glo "is_line", .glo "is_land", .glo "need_land", .glo "is_cell", .glo "need_cell", .glo "need_both", .glo "cells_of", .glo "at", .glo "beside_of", .glo "spread_of", .glo "earth_for"] : List He.Fa) ++ ([.glo "need_two", .glo "least_fill", .glo "land_at", .glo "pass_of", .glo "pass_between", .glo "_law_cell_at", .glo "_law_mixed", .glo "_law_draw", .glo "_law_pick", .glo "_law_same_number", .glo "_law_land", .glo "_law_cells"] : List He.Fa) ++ ([.glo "_law_high", .glo "_law_near", .glo "_law_beside", .glo "_law_all", .glo "_law_round", .glo "law", .glo "NoLand", .glo "NoCell", .glo "NoHeight", .glo "LandError", .exc "NoHeight", .exc "NoLand"] : List He.Fa) ++ ([.int "HIGH" 999, .int "MOST" 8, .free "abs", .free "all", .free "bool", .free "dict", .free "enumerate", .free "int", .free "isinstance", .free "len", .free "list", .free "max"] : List He.Fa) ++ ([.free "min", .free "range", .free "set", .free "sorted", .free "sum", .free "tuple"] : List He.Fa)
def hnames : List PySem.Str := (["LandError", "NoLand", "NoCell", "NoHeight", "MOST", "HIGH", "is_whole", "is_line", "is_land", "need_land", "is_cell", "need_cell"] : List PySem.Str) ++ (["need_both", "cells_of", "at", "beside_of", "spread_of", "earth_for", "need_two", "least_fill", "land_at", "pass_of", "pass_between", "_law_cell_at"] : List PySem.Str) ++ (["_law_mixed", "_law_draw", "_law_pick", "_law_same_number", "_law_land", "_law_cells", "_law_high", "_law_near", "_law_beside", "_law_all", "_law_round"] : List PySem.Str)
abbrev hrow : PySem.W.OpenRow := PySem.W.OpenLaw.row PySem.Challenge.rw_peakland_k28_whole_fills
def hfx (K : PySem.W.Frag) : Bool := true && oexA K (exCls K 1)
def htf : List He.Defn := [("least_fill", none)]
abbrev hhk : PySem.W.Hook := hookY 5 hfa hfn hfx htf
def hob (s : PySem.W.SharedT) : He.AlD × Bool := obsY 5 hfa hfn hfx htf (HandSHeadRun.getT s)
theorem hob_eq (s : PySem.W.SharedT) : hob s = hhk.obs s.abs := obsY_eq (HandSHeadRun.getT_eq s)
def hlm : Nat → Lm := fun j => match j with
  | 5 => lmOf "least_fill" (argE 3 (retE ((defBody (top 22)).getD 2 (.Pass ⟨0, 0, 0, 0⟩)))) ["land", "low"]
  | _ => ⟨"", default, default, default, []⟩
abbrev htb (K : PySem.W.Frag) : List (Addr × Str) := [((He.cT K ("least_fill", none)).2, lamQ "least_fill")]
set_option maxHeartbeats 0 in
theorem hrun (w : World) : HandSHeadRun.RunEq hrow (PySem.W.view hrow.prog [40]) hhk hob 9000 hnames w := by
  intro os
  kernel_rfl
theorem facts {P : Program} {w : World} {cn : Cn} {h : Heap} {mg : Str → Option Value} {f : Addr} (X : cn.K.In h) (G : h.Ns mainGlobals mg) (hlw : mg ("law" : Str) = some (.ref f)) (cX : SaysX hfa hfn hfx cn.K) (hc : cn.cls = exCls cn.K) (hv : cn.fn = fun _ => He.ga cn.K "_law_near") (htb : cn.tb = htb cn.K) (hlm : cn.lm = hlm) :
    ∃ fd : FuncData, (∀ (s : Shared) (v : Value), BindsTo s fd ⟨[v], []⟩ [("script", v)]) ∧ ∀ base : Heap, (∀ p ∈ htf.map (He.cT cn.K), LamX.TabB base mg p.1 p.2) → FnOk P w cn.K mg base (L2.CX P w) 8 f fd ["script"] (spOf cn py_law) := by
  have c := cX.d
  have O1 : OexA cn.K (cn.cls 1) := by rw [hc]; exact oexA_ok (He.ba cX.x).2
  have T : Tx cn mg := ⟨errC_of hc (k := 6) rfl X G (c.fact 34 (f := .exc "NoHeight") rfl) (c.fact 32 (f := .glo "NoHeight") rfl),
    errC_of hc (k := 0) rfl X G (c.fact 35 (f := .exc "NoLand") rfl) (c.fact 30 (f := .glo "NoLand") rfl),
    He.free_ok X G (c.fact 38 (f := .free "abs") rfl),
    He.free_ok X G (c.fact 39 (f := .free "all") rfl),
    He.free_ok X G (c.fact 40 (f := .free "bool") rfl),
    He.free_ok X G (c.fact 41 (f := .free "dict") rfl),
    He.free_ok X G (c.fact 42 (f := .free "enumerate") rfl),
    He.free_ok X G (c.fact 43 (f := .free "int") rfl),
    He.free_ok X G (c.fact 44 (f := .free "isinstance") rfl),
    He.free_ok X G (c.fact 45 (f := .free "len") rfl),
    He.free_ok X G (c.fact 46 (f := .free "list") rfl),
    He.free_ok X G (c.fact 47 (f := .free "max") rfl),
    He.free_ok X G (c.fact 48 (f := .free "min") rfl),
    He.free_ok X G (c.fact 49 (f := .free "range") rfl),
    He.free_ok X G (c.fact 50 (f := .free "set") rfl),
    He.free_ok X G (c.fact 51 (f := .free "sorted") rfl),
    He.free_ok X G (c.fact 52 (f := .free "sum") rfl),
    He.free_ok X G (c.fact 53 (f := .free "tuple") rfl),
    He.int_ok X G (c.fact 36 (f := .int "HIGH" 999) rfl),
    He.int_ok X G (c.fact 37 (f := .int "MOST" 8) rfl)⟩
  obtain ⟨fd_is_whole, F_is_whole⟩ := c.def_ 0 (d := hd_is_whole) rfl
  obtain ⟨fd_is_line, F_is_line⟩ := c.def_ 1 (d := hd_is_line) rfl
  obtain ⟨fd_is_land, F_is_land⟩ := c.def_ 2 (d := hd_is_land) rfl
  obtain ⟨fd_need_land, F_need_land⟩ := c.def_ 3 (d := hd_need_land) rfl
  obtain ⟨fd_is_cell, F_is_cell⟩ := c.def_ 4 (d := hd_is_cell) rfl
  obtain ⟨fd_need_cell, F_need_cell⟩ := c.def_ 5 (d := hd_need_cell) rfl
  obtain ⟨fd_need_both, F_need_both⟩ := c.def_ 6 (d := hd_need_both) rfl
  obtain ⟨fd_cells_of, F_cells_of⟩ := c.def_ 7 (d := hd_cells_of) rfl
  obtain ⟨fd_at, F_at⟩ := c.def_ 8 (d := hd_at) rfl
  obtain ⟨fd_beside_of, F_beside_of⟩ := c.def_ 9 (d := hd_beside_of) rfl
  obtain ⟨fd_spread_of, F_spread_of⟩ := c.def_ 10 (d := hd_spread_of) rfl
  obtain ⟨fd_earth_for, F_earth_for⟩ := c.def_ 11 (d := hd_earth_for) rfl
  obtain ⟨fd_need_two, F_need_two⟩ := c.def_ 12 (d := hd_need_two) rfl
  obtain ⟨fd_least_fill, F_least_fill⟩ := c.def_ 13 (d := hd_least_fill) rfl
  obtain ⟨fd_land_at, F_land_at⟩ := c.def_ 14 (d := hd_land_at) rfl
  obtain ⟨fd_pass_of, F_pass_of⟩ := c.def_ 15 (d := hd_pass_of) rfl
  obtain ⟨fd_pass_between, F_pass_between⟩ := c.def_ 16 (d := hd_pass_between) rfl
  obtain ⟨fd_law_cell_at, F_law_cell_at⟩ := c.def_ 17 (d := hd_law_cell_at) rfl
  obtain ⟨fd_law_mixed, F_law_mixed⟩ := c.def_ 18 (d := hd_law_mixed) rfl
  obtain ⟨fd_law_draw, F_law_draw⟩ := c.def_ 19 (d := hd_law_draw) rfl
  obtain ⟨fd_law_pick, F_law_pick⟩ := c.def_ 20 (d := hd_law_pick) rfl
  obtain ⟨fd_law_same_number, F_law_same_number⟩ := c.def_ 21 (d := hd_law_same_number) rfl
  obtain ⟨fd_law_land, F_law_land⟩ := c.def_ 22 (d := hd_law_land) rfl
  obtain ⟨fd_law_cells, F_law_cells⟩ := c.def_ 23 (d := hd_law_cells) rfl
  obtain ⟨fd_law_high, F_law_high⟩ := c.def_ 24 (d := hd_law_high) rfl
  obtain ⟨fd_law_near, F_law_near⟩ := c.def_ 25 (d := hd_law_near) rfl
  obtain ⟨fd_law_beside, F_law_beside⟩ := c.def_ 26 (d := hd_law_beside) rfl
  obtain ⟨fd_law_all, F_law_all⟩ := c.def_ 27 (d := hd_law_all) rfl
  obtain ⟨fd_law_round, F_law_round⟩ := c.def_ 28 (d := hd_law_round) rfl
  obtain ⟨fd_law, F_law⟩ := c.def_ 29 (d := hd_law) rfl
  obtain ⟨fd_NoCell_init, F_NoCell_init⟩ := c.def_ 30 (d := hd_NoCell_init) rfl
  have el := hlw.symm.trans (He.glo_ok X G (c.fact 29 (f := .glo "law") rfl))
  cases el
  have bl := FunD.bindsA (ps := ["script"]) F_law fun _ _ _ _ _ _ us hl => match us, hl with | [_], _ => rfl
  refine ⟨fd_law, fun s v => bl s [v] rfl, fun base tbs => ?_⟩
  have I_NoCell : ErrI cn P w mg base 1 "NoCell" := errI_of hc rfl X G (c.fact 31 (f := .glo "NoCell") rfl) O1 F_NoCell_init sc_NoCell_init (fun f cdv A outer s H E => pss_one (ps_ost (pv 0) (pv 1))) fun _ _ _ _ _ _ us hl => match us, hl with | [_, _], _ => rfl
  have G_is_whole : FnG cn P w mg base 1 "is_whole" py_is_whole [] := fnG_of F_is_whole (ok_is_whole F_is_whole T) (He.glo_ok X G (c.fact 0 (f := .glo "is_whole") rfl)) fun _ _ _ _ _ _ us hl => match us, hl with | [_, _, _], _ => rfl
  have G_is_line : FnG cn P w mg base 2 "is_line" py_is_line [] := fnG_of F_is_line (ok_is_line F_is_line T G_is_whole) (He.glo_ok X G (c.fact 1 (f := .glo "is_line") rfl)) fun _ _ _ _ _ _ us hl => match us, hl with | [_, _], _ => rfl
  have G_is_land : FnG cn P w mg base 3 "is_land" py_is_land [] := fnG_of F_is_land (ok_is_land F_is_land T G_is_line) (He.glo_ok X G (c.fact 2 (f := .glo "is_land") rfl)) fun _ _ _ _ _ _ us hl => match us, hl with | [_], _ => rfl
  have G_need_land : FnG cn P w mg base 4 "need_land" py_need_land [] := fnG_of F_need_land (ok_need_land F_need_land T G_is_land) (He.glo_ok X G (c.fact 3 (f := .glo "need_land") rfl)) fun _ _ _ _ _ _ us hl => match us, hl with | [_], _ => rfl
  have G_is_cell : FnG cn P w mg base 2 "is_cell" py_is_cell [] := fnG_of F_is_cell (ok_is_cell F_is_cell T G_is_whole) (He.glo_ok X G (c.fact 4 (f := .glo "is_cell") rfl)) fun _ _ _ _ _ _ us hl => match us, hl with | [_, _], _ => rfl
  have G_need_cell : FnG cn P w mg base 3 "need_cell" py_need_cell [] := fnG_of F_need_cell (ok_need_cell F_need_cell T G_is_cell I_NoCell) (He.glo_ok X G (c.fact 5 (f := .glo "need_cell") rfl)) fun _ _ _ _ _ _ us hl => match us, hl with | [_, _], _ => rfl
  have G_need_both : FnG cn P w mg base 5 "need_both" py_need_both [] := fnG_of F_need_both (ok_need_both F_need_both T G_need_cell G_need_land) (He.glo_ok X G (c.fact 6 (f := .glo "need_both") rfl)) fun _ _ _ _ _ _ us hl => match us, hl with | [_, _], _ => rfl
  have G_cells_of : FnG cn P w mg base 1 "cells_of" py_cells_of [] := fnG_of F_cells_of (ok_cells_of F_cells_of T) (He.glo_ok X G (c.fact 7 (f := .glo "cells_of") rfl)) fun _ _ _ _ _ _ us hl => match us, hl with | [_], _ => rfl
  have G_at : FnG cn P w mg base 1 "at" py_at [] := fnG_of F_at (ok_at F_at T) (He.glo_ok X G (c.fact 8 (f := .glo "at") rfl)) fun _ _ _ _ _ _ us hl => match us, hl with | [_, _], _ => rfl
  have G_beside_of : FnG cn P w mg base 3 "beside_of" py_beside_of [] := fnG_of F_beside_of (ok_beside_of F_beside_of T G_is_cell) (He.glo_ok X G (c.fact 9 (f := .glo "beside_of") rfl)) fun _ _ _ _ _ _ us hl => match us, hl with | [_, _], _ => rfl
  have G_spread_of : FnG cn P w mg base 4 "spread_of" py_spread_of [] := fnG_of F_spread_of (ok_spread_of F_spread_of T G_beside_of) (He.glo_ok X G (c.fact 10 (f := .glo "spread_of") rfl)) fun _ _ _ _ _ _ us hl => match us, hl with | [_, _, _], _ => rfl
  have LK_least_fill_0 : LOk cn P w mg base 2 5 ly_least_fill_0 := okL_least_fill_0 T G_at (by rw [hlm]; rfl)
  have LTb : LTab cn P w mg base 2 Lt := (.cons LK_least_fill_0 (by decide) .nil)
  have G_earth_for : FnG cn P w mg base 4 "earth_for" (py_earth_for Lt) [] := fnG_of F_earth_for (ok_earth_for F_earth_for T G_beside_of LTb) (He.glo_ok X G (c.fact 11 (f := .glo "earth_for") rfl)) fun _ _ _ _ _ _ us hl => match us, hl with | [_, _, _, _], _ => rfl
  have G_need_two : FnG cn P w mg base 6 "need_two" py_need_two [] := fnG_of F_need_two (ok_need_two F_need_two T G_need_both G_need_cell) (He.glo_ok X G (c.fact 12 (f := .glo "need_two") rfl)) fun _ _ _ _ _ _ us hl => match us, hl with | [_, _, _], _ => rfl
  have G_least_fill : FnG cn P w mg base 7 "least_fill" (py_least_fill Lt) [] := fnG_of F_least_fill (ok_least_fill F_least_fill T G_earth_for G_is_whole G_need_two (by rw [hlm]; rfl) (code_at (p := ("least_fill", none)) F_least_fill) (tbs (He.cT cn.K ("least_fill", none)) (List.mem_map.mpr ⟨("least_fill", none), by decide, rfl⟩)) (by rw [htb]; rfl)) (He.glo_ok X G (c.fact 13 (f := .glo "least_fill") rfl)) fun _ _ _ _ _ _ us hl => match us, hl with | [_, _, _, _], _ => rfl
  have G_land_at : FnG cn P w mg base 2 "land_at" py_land_at [] := fnG_of F_land_at (ok_land_at F_land_at T G_at G_cells_of) (He.glo_ok X G (c.fact 14 (f := .glo "land_at") rfl)) fun _ _ _ _ _ _ us hl => match us, hl with | [_, _], _ => rfl
  have G_pass_of : FnG cn P w mg base 5 "pass_of" py_pass_of [] := fnG_of F_pass_of (ok_pass_of F_pass_of T G_at G_cells_of G_land_at G_spread_of) (He.glo_ok X G (c.fact 15 (f := .glo "pass_of") rfl)) fun _ _ _ _ _ _ us hl => match us, hl with | [_, _, _], _ => rfl
  have G_pass_between : FnG cn P w mg base 6 "pass_between" py_pass_between [] := fnG_of F_pass_between (ok_pass_between F_pass_between T G_need_both G_need_cell G_pass_of) (He.glo_ok X G (c.fact 16 (f := .glo "pass_between") rfl)) fun _ _ _ _ _ _ us hl => match us, hl with | [_, _, _], _ => rfl
  have G_law_cell_at : FnG cn P w mg base 1 "_law_cell_at" py_law_cell_at [] := fnG_of F_law_cell_at (ok_law_cell_at F_law_cell_at T) (He.glo_ok X G (c.fact 17 (f := .glo "_law_cell_at") rfl)) fun _ _ _ _ _ _ us hl => match us, hl with | [_, _], _ => rfl
  have G_law_mixed : FnG cn P w mg base 2 "_law_mixed" py_law_mixed [] := fnG_of F_law_mixed (ok_law_mixed F_law_mixed T G_law_cell_at) (He.glo_ok X G (c.fact 18 (f := .glo "_law_mixed") rfl)) fun _ _ _ _ _ _ us hl => match us, hl with | [_, _, _], _ => rfl
  have G_law_draw : FnG cn P w mg base 3 "_law_draw" py_law_draw [] := fnG_of F_law_draw (ok_law_draw F_law_draw T G_law_mixed) (He.glo_ok X G (c.fact 19 (f := .glo "_law_draw") rfl)) fun _ _ _ _ _ _ us hl => match us, hl with | [_, _, _], _ => rfl
  have G_law_pick : FnG cn P w mg base 4 "_law_pick" py_law_pick [] := fnG_of F_law_pick (ok_law_pick F_law_pick T G_law_draw) (He.glo_ok X G (c.fact 20 (f := .glo "_law_pick") rfl)) fun _ _ _ _ _ _ us hl => match us, hl with | [_, _, _], _ => rfl
  have G_law_same_number : FnG cn P w mg base 1 "_law_same_number" py_law_same_number [] := fnG_of F_law_same_number (ok_law_same_number F_law_same_number T) (He.glo_ok X G (c.fact 21 (f := .glo "_law_same_number") rfl)) fun _ _ _ _ _ _ us hl => match us, hl with | [_, _], _ => rfl
  have G_law_land : FnG cn P w mg base 5 "_law_land" py_law_land [] := fnG_of F_law_land (ok_law_land F_law_land T G_law_draw G_law_pick) (He.glo_ok X G (c.fact 22 (f := .glo "_law_land") rfl)) fun _ _ _ _ _ _ us hl => match us, hl with | [_, _, _], _ => rfl
  have G_law_cells : FnG cn P w mg base 1 "_law_cells" py_law_cells [] := fnG_of F_law_cells (ok_law_cells F_law_cells T) (He.glo_ok X G (c.fact 23 (f := .glo "_law_cells") rfl)) fun _ _ _ _ _ _ us hl => match us, hl with | [_], _ => rfl
  have G_law_high : FnG cn P w mg base 1 "_law_high" py_law_high [] := fnG_of F_law_high (ok_law_high F_law_high T) (He.glo_ok X G (c.fact 24 (f := .glo "_law_high") rfl)) fun _ _ _ _ _ _ us hl => match us, hl with | [_, _], _ => rfl
  have G_law_near : FnG cn P w mg base 1 "_law_near" py_law_near [] := fnG_of F_law_near (ok_law_near F_law_near T) (He.glo_ok X G (c.fact 25 (f := .glo "_law_near") rfl)) fun _ _ _ _ _ _ us hl => match us, hl with | [_, _], _ => rfl
  have G_law_beside : FnG cn P w mg base 2 "_law_beside" py_law_beside [] := fnG_of F_law_beside (ok_law_beside F_law_beside T G_law_cells G_law_near) (He.glo_ok X G (c.fact 26 (f := .glo "_law_beside") rfl)) fun _ _ _ _ _ _ us hl => match us, hl with | [_, _], _ => rfl
  have G_law_all : FnG cn P w mg base 3 "_law_all" py_law_all [] := fnG_of F_law_all (ok_law_all F_law_all T G_law_beside) (He.glo_ok X G (c.fact 27 (f := .glo "_law_all") rfl)) fun _ _ _ _ _ _ us hl => match us, hl with | [_, _, _], _ => rfl
  have G_law_round : FnG cn P w mg base 3 "_law_round" py_law_round [] := fnG_of F_law_round (ok_law_round F_law_round T G_law_beside G_law_cells G_law_high) (He.glo_ok X G (c.fact 28 (f := .glo "_law_round") rfl)) fun _ _ _ _ _ _ us hl => match us, hl with | [_, _, _], _ => rfl
  exact ok_law F_law T G_law_all G_law_cells G_law_draw G_law_high G_law_land G_law_pick G_law_round G_law_same_number G_least_fill G_pass_between
end Pk
open PySem PySem.W PySem.Calls PyProof.Rows
set_option maxHeartbeats 0 in
theorem PySem.Challenge.cw_peakland_k28_whole_fills_holds : PySem.Challenge.rw_peakland_k28_whole_fills.Holds := by
  w_on; o_law
  refine HandSHeadRun.head_any (r := OpenLaw.row PySem.Challenge.rw_peakland_k28_whole_fills) (q := view (OpenLaw.row PySem.Challenge.rw_peakland_k28_whole_fills).prog [40]) (H := Pk.hhk) (ob := Pk.hob) (M := 9000) (loose := Pk.hnames) (d := HandSHeadRun.topDef (OpenLaw.row PySem.Challenge.rw_peakland_k28_whole_fills).prog 40) (kwd := []) Pk.hob_eq
    (by kernel_rfl) (fun s => by kernel_rfl) Pk.hrun (by kernel_rfl) (by kernel_rfl) (by kernel_rfl) (by rfl) (by first | assumption | decide +kernel) (by decide +kernel) ⟨rfl, rfl, rfl, rfl, rfl, by decide +kernel⟩ ?hw ?hc
  case hw => w_witness2
  case hc =>
    refine Pk.law_endT (l := PySem.Challenge.rw_peakland_k28_whole_fills) (n := 63) (k := 8) (x := "script") (Fp := Pk.py_law) rfl (by decide) (by kernel_rfl) ⟨rfl, by decide, by decide⟩ ?F Pk.law_ok
    intro w mg fa h Y G hmg0
    obtain ⟨K, KX, c⟩ := Y
    have hmg : mg ("law" : PySem.Str) = some (.ref fa) := by
      have e : (HandSHeadRun.topDef (OpenLaw.row PySem.Challenge.rw_peakland_k28_whole_fills).prog 40).name = ("law" : PySem.Str) := by kernel_rfl
      rw [← e]
      exact hmg0
    obtain ⟨fd, hb, hF⟩ := Pk.facts (P := (PySem.Challenge.rw_peakland_k28_whole_fills).prog) (w := w) (cn := ⟨K, fun _ => He.ga K "_law_near", Pk.exCls K, 0, Pk.htb K, Pk.hlm⟩) KX G hmg c.x rfl rfl rfl rfl
    exact ⟨⟨K, fun _ => He.ga K "_law_near", Pk.exCls K, 0, Pk.htb K, Pk.hlm⟩, fd, Pk.htf.map (He.cT K), rfl, c.nd, fun p hp => by obtain ⟨q, hq, rfl⟩ := List.mem_map.mp hp; exact c.empty q hq, fun p hp => by obtain ⟨q, hq, rfl⟩ := List.mem_map.mp hp; exact c.out q hq,
      fun p hp => by obtain ⟨q, hq, rfl⟩ := List.mem_map.mp hp; exact PySem.W.codeHd_of_K KX (c.hd q hq), KX, hb, hF⟩
