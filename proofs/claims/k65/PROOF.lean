import PyProof.Rows.All
import Wide.All
import OpenK.AllK
import Wide.FinOn
import HandS.Base
import HandS.Call
import HandS.List
import HandS.Exc
import HandS.Slots
import HandS.SlotsOwn
import HandS.Words
import HandS.Comp
import HandS.More
import HandS.ExcOwn
import HandS.WordsExc
import HandS.Defaults
import HandS.RaiseMore
import HandS.TryMany
import HandS.ClsMeth
import HandS.TupAny
import HandS.TupMul
import HandS.Wide
import HandS.WideBits
import HandS.IsInst
import HandS.FStr
import HandS.Small
import HandS.Text
import HandS.SetFor
import HandS.Zip
import HandS.Flow
import HandS.WordsDict
import HandS.HeadHook2
import HandS.HeadNt
import HandS.Head0
import HandS.Head1
import HandS.Head2
import HandS.Ends
import HandS.EndBits
import PySem.Challenge.RW_pursewebs_k65_whole_no_table_for_the_ban
import HandS.HeadWalk
import KE.KStateDown
import Lean
set_option Elab.async false
set_option linter.all false
set_option maxRecDepth 100000
/-! Ev0: an evaluator's values, heap, results and combinators; no model in sight. -/
namespace Ev
open PySem (Str)

/-- a value: tuples, frozen lists, frozen instances and the script are data; what may change stands at a number -/
inductive D where
  | non | bl (b : Bool) | int (i : Int) | str (x : Str)
  | ref (n : Nat) | tup (xs : List D) | fl (xs : List D) | fi (c : Nat) (fs : List D) | sc (xs : List D)
  | unset | ty (n : String) | cls (c : Nat)

abbrev Key := Sum Int Str
inductive O where
  | lst (xs : List D) | dic (kvs : List (Key × D)) | ins (c : Nat) (fs : List D)

structure Hv where
  os : List O
  lim : Nat

inductive Res (α : Type) where
  | ok (a : α) (h : Hv) | exc (c : Nat) (h : Hv) | stuck

def Res.bind {α β : Type} (r : Res α) (f : α → Hv → Res β) : Res β :=
  match r with
  | .ok a h => f a h
  | .exc c h => .exc c h
  | .stuck => .stuck

inductive Flow where
  | nx (l : List D) | rt (d : D) | bk (l : List D) | ct (l : List D) | ex (c : Nat) (l : List D)
inductive SR where
  | mk (f : Flow) (h : Hv) | stuck

abbrev Loc := List D
abbrev E := Loc → Hv → Res D
abbrev EA := Loc → Hv → Res (List D)
abbrev TT := Loc → Hv → Res Bool
abbrev S := Loc → Hv → SR
abbrev Fn := List D → Hv → Res D

/-! ### refs -/
mutual
/-- every number in it is below b -/
def D.bel (b : Nat) : D → Bool
  | .ref n => Nat.blt n b
  | .tup xs => D.bels b xs
  | .fl xs => D.bels b xs
  | .fi _ fs => D.bels b fs
  | .sc xs => D.bels b xs
  | _ => true
def D.bels (b : Nat) : List D → Bool
  | [] => true
  | d :: ds => D.bel b d && D.bels b ds
end
def D.free (d : D) : Bool := D.bel 0 d
def O.bel (b : Nat) : O → Bool
  | .lst xs => D.bels b xs
  | .dic kvs => D.bels b (kvs.map Prod.snd)
  | .ins _ fs => D.bels b fs
mutual
/-- the numbers replaced -/
def D.sub (g : Nat → Option D) : D → Option D
  | .ref n => g n
  | .tup xs => (D.subs g xs).map .tup
  | .fl xs => (D.subs g xs).map .fl
  | .fi c fs => (D.subs g fs).map (.fi c)
  | .sc xs => (D.subs g xs).map .sc
  | .non => some .non
  | .bl b => some (.bl b)
  | .int i => some (.int i)
  | .str x => some (.str x)
  | .unset => some .unset
  | .ty n => some (.ty n)
  | .cls c => some (.cls c)
def D.subs (g : Nat → Option D) : List D → Option (List D)
  | [] => some []
  | d :: ds => match D.sub g d with
    | some e => (D.subs g ds).map (e :: ·)
    | none => none
end
/-- what stands at a number from n0 on, frozen, k deep -/
def anySet : List D → Bool
  | [] => false
  | .unset :: ds => anySet ds
  | _ :: _ => true
def frzAt (os : List O) (n0 : Nat) : Nat → Nat → Option D
  | 0, n => if Nat.blt n n0 then some (.ref n) else none
  | k + 1, n => if Nat.blt n n0 then some (.ref n) else
    match os[n]? with
    | some (.lst xs) => (D.subs (frzAt os n0 k) xs).map .fl
    | some (.ins c fs) => if anySet fs = true then (D.subs (frzAt os n0 k) fs).map (.fi c) else none
    | _ => none
def frz (os : List O) (n0 : Nat) (d : D) : Option D := D.sub (frzAt os n0 9) d

/-! ### what is made plain before it is handed on (for the kernel's evaluation alone) -/
def forceN {α : Type} (n : Nat) (k : Nat → α) : α := match n with
  | 0 => k 0
  | m + 1 => k (m + 1)
def forceI {α : Type} (i : Int) (k : Int → α) : α := match i with
  | .ofNat n => forceN n fun n => k (.ofNat n)
  | .negSucc n => forceN n fun n => k (.negSucc n)
mutual
def forceD {α : Type} : D → (D → α) → α
  | .non, k => k .non
  | .bl b, k => (match b with
    | true => k (.bl true)
    | false => k (.bl false))
  | .int i, k => forceI i fun i => k (.int i)
  | .str x, k => k (.str x)
  | .ref n, k => forceN n fun n => k (.ref n)
  | .tup xs, k => forceDs xs fun xs => k (.tup xs)
  | .fl xs, k => forceDs xs fun xs => k (.fl xs)
  | .fi c fs, k => forceDs fs fun fs => k (.fi c fs)
  | .sc xs, k => k (.sc xs)
  | .unset, k => k .unset
  | .ty n, k => k (.ty n)
  | .cls c, k => k (.cls c)
def forceDs {α : Type} : List D → (List D → α) → α
  | [], k => k []
  | d :: ds, k => forceD d fun d => forceDs ds fun ds => k (d :: ds)
end
theorem forceN_eq {α : Type} (n : Nat) (k : Nat → α) : forceN n k = k n := by cases n <;> rfl
theorem forceI_eq {α : Type} (i : Int) (k : Int → α) : forceI i k = k i := by
  cases i with
  | ofNat n => exact forceN_eq n fun n => k (.ofNat n)
  | negSucc n => exact forceN_eq n fun n => k (.negSucc n)
mutual
theorem forceD_eq {α : Type} : ∀ (d : D) (k : D → α), forceD d k = k d
  | .non, k => rfl
  | .bl b, k => by cases b <;> rfl
  | .int i, k => forceI_eq i fun i => k (.int i)
  | .str x, k => rfl
  | .ref n, k => forceN_eq n fun n => k (.ref n)
  | .tup xs, k => forceDs_eq xs fun xs => k (.tup xs)
  | .fl xs, k => forceDs_eq xs fun xs => k (.fl xs)
  | .fi c fs, k => forceDs_eq fs fun fs => k (.fi c fs)
  | .sc xs, k => rfl
  | .unset, k => rfl
  | .ty n, k => rfl
  | .cls c, k => rfl
theorem forceDs_eq {α : Type} : ∀ (ds : List D) (k : List D → α), forceDs ds k = k ds
  | [], k => rfl
  | d :: ds, k => (forceD_eq d fun d => forceDs ds fun ds => k (d :: ds)).trans (forceDs_eq ds fun ds => k (d :: ds))
end
/-- a call whose own objects are dropped behind it, its answer frozen -/
def fz0 (m : Fn) : Fn := fun ds h =>
  match m ds ⟨h.os, h.os.length⟩ with
  | .ok d h' => (match frz h'.os h.os.length d with
    | some e => .ok e ⟨h'.os.take h.os.length, h.lim⟩
    | none => .stuck)
  | .exc c h' => .exc c ⟨h'.os.take h.os.length, h.lim⟩
  | .stuck => .stuck
def forceR (r : Res D) : Res D := match r with
  | .ok d h => forceD d fun d => .ok d h
  | .exc c h => .exc c h
  | .stuck => .stuck
def fz (m : Fn) : Fn := fun ds h => forceDs ds fun ds => forceR (fz0 m ds h)
theorem forceR_eq (r : Res D) : forceR r = r := by
  cases r with
  | ok d h => exact forceD_eq d fun d => Res.ok d h
  | _ => rfl
theorem fz_eq (m : Fn) : fz m = fz0 m := by
  funext ds h
  exact (forceDs_eq ds fun ds => forceR (fz0 m ds h)).trans (forceR_eq _)

/-- a new instance of the class z: ns slots, none stored; then __init__ -/
def Hv.new (h : Hv) (o : O) : Hv := ⟨h.os ++ [o], h.lim⟩
def mkNew (z ns : Nat) (m : Fn) : Fn := fun ds h =>
  match m (.ref h.os.length :: ds) (h.new (.ins z (List.replicate ns .unset))) with
  | .ok .non h' => .ok (.ref h.os.length) h'
  | .ok _ _ => .stuck
  | .exc c h' => .exc c h'
  | .stuck => .stuck

/-! ### expressions -/
def eC (d : D) : E := fun _ h => .ok d h
def eVar (i : Nat) : E := fun l h => match l[i]? with
  | some .unset => .stuck
  | some d => .ok d h
  | none => .stuck
def e1 (op : Hv → D → Res D) (a : E) : E := fun l h => (a l h).bind fun x h => op h x
def e2 (op : Hv → D → D → Res D) (a b : E) : E := fun l h => (a l h).bind fun x h => (b l h).bind fun y h => op h x y
def aNil : EA := fun _ h => .ok [] h
def aCons (a : E) (r : EA) : EA := fun l h => (a l h).bind fun x h => (r l h).bind fun xs h => .ok (x :: xs) h
def eA (op : Hv → List D → Res D) (a : EA) : E := fun l h => (a l h).bind fun xs h => op h xs
def eCall (m : Fn) (a : EA) : E := fun l h => (a l h).bind fun xs h => m xs h
/-- a call with defaults -/
def dfl (m : Fn) (dv : List D) : Fn := fun ds h => m (ds ++ dv) h
def eIf (t : TT) (a b : E) : E := fun l h => (t l h).bind fun c h => if c = true then a l h else b l h

/-! ### tests -/
def tE (op : Hv → D → Res Bool) (a : E) : TT := fun l h => (a l h).bind fun x h => op h x
/-- a test whose answer is a bool -/
def tB (a : E) : TT := fun l h => (a l h).bind fun x h => match x with
  | .bl b => .ok b h
  | _ => .stuck
def tNot (t : TT) : TT := fun l h => (t l h).bind fun b h => .ok (!b) h
def tAnd (t u : TT) : TT := fun l h => (t l h).bind fun b h => if b = true then u l h else .ok false h
def tOr (t u : TT) : TT := fun l h => (t l h).bind fun b h => if b = true then .ok true h else u l h
/-- a chain of two comparisons, as a value -/
def eChain (op op' : Hv → D → D → Res D) (a b c : E) : E := fun l h => (a l h).bind fun x h => (b l h).bind fun y h => (op h x y).bind fun z h =>
  match z with
  | .bl true => (c l h).bind fun w h => op' h y w
  | .bl false => .ok (.bl false) h
  | _ => .stuck
/-- a and b, a or b as values, the first a bool -/
def eAnd (a b : E) : E := fun l h => (a l h).bind fun x h => match x with
  | .bl true => b l h
  | .bl false => .ok (.bl false) h
  | _ => .stuck
def eOr (a b : E) : E := fun l h => (a l h).bind fun x h => match x with
  | .bl true => .ok (.bl true) h
  | .bl false => b l h
  | _ => .stuck
def eNot (a : E) : E := fun l h => (a l h).bind fun x h => match x with
  | .bl b => .ok (.bl (!b)) h
  | _ => .stuck

/-! ### what is walked -/
abbrev II := Loc → Hv → Res (List D)
/-- the items of a list or a tuple (no list that may change) -/
def itemsOf : D → Option (List D)
  | .fl xs => some xs
  | .tup xs => some xs
  | _ => none
def iE (a : E) : II := fun l h => (a l h).bind fun x h => match itemsOf x with
  | some xs => .ok xs h
  | none => .stuck
/-- lo, lo + 1, .. -/
def upFrom (lo : Int) : Nat → List D
  | 0 => []
  | n + 1 => .int lo :: upFrom (lo + 1) n
def rngOk (i : Int) : Bool := decide (-4611686018427387904 ≤ i) && decide (i < 4611686018427387904)
def iR1 (a : E) : II := fun l h => (a l h).bind fun x h => match x with
  | .int j => if rngOk j then .ok (upFrom 0 j.toNat) h else .stuck
  | _ => .stuck
def rng2 : D → D → Hv → Res (List D)
  | .int i, .int j, h => if rngOk i && rngOk j then .ok (upFrom i (j - i).toNat) h else .stuck
  | _, _, _ => .stuck
def iR2 (a b : E) : II := fun l h => (a l h).bind fun x h => (b l h).bind fun y h => rng2 x y h

/-! ### targets -/
abbrev G := D → Loc → Option Loc
def gN (i : Nat) : G := fun d l => some (l.set i d)
def gTup (is : List Nat) : G := fun d l => match d with
  | .tup xs => if Nat.beq xs.length is.length then some ((is.zip xs).foldl (fun l p => l.set p.1 p.2) l) else none
  | _ => none

/-! ### comprehensions -/
def wipeL (l : Loc) : List Nat → Loc
  | [] => l
  | v :: vs => (wipeL l vs).set v .unset
def compGo (g : G) (t : TT) (e : E) (l : Loc) : List D → List D → Hv → Res D
  | [], acc, h => .ok (.fl acc.reverse) h
  | x :: xs, acc, h => match g x l with
    | none => .stuck
    | some l1 => (match t l1 h with
      | .ok true h1 => (match e l1 h1 with
        | .ok y h2 => compGo g t e l xs (y :: acc) h2
        | _ => .stuck)
      | .ok false h1 => compGo g t e l xs acc h1
      | _ => .stuck)
def tYes : TT := fun _ h => .ok true h
def szOk (n : Nat) : Bool := Nat.ble n 100000
def eComp (vs : List Nat) (it : II) (g : G) (t : TT) (e : E) : E := fun l h => (it l h).bind fun xs h => if szOk xs.length = true then compGo g t e (wipeL l vs) xs [] h else .stuck

/-! ### statements -/
def SR.bind (r : SR) (f : Loc → Hv → SR) : SR := match r with
  | .mk (.nx l) h => f l h
  | r => r
def Res.toS {α : Type} (r : Res α) (l : Loc) (f : α → Hv → SR) : SR := match r with
  | .ok a h => f a h
  | .exc c h => .mk (.ex c l) h
  | .stuck => .stuck
def sNil : S := fun l h => .mk (.nx l) h
def sSeq (a b : S) : S := fun l h => (a l h).bind b
def sExpr (e : E) : S := fun l h => (e l h).toS l fun _ h => .mk (.nx l) h
def sRet (e : E) : S := fun l h => (e l h).toS l fun d h => .mk (.rt d) h
def sRetN : S := fun _ h => .mk (.rt .non) h
def sIf (t : TT) (a b : S) : S := fun l h => (t l h).toS l fun c h => if c = true then a l h else b l h
def sBrk : S := fun l h => .mk (.bk l) h
def sCont : S := fun l h => .mk (.ct l) h
def sSet (g : G) (e : E) : S := fun l h => (e l h).toS l fun d h => match g d l with
  | some l' => .mk (.nx l') h
  | none => .stuck
/-- a list just made goes to a name that may be changed: it gets a number -/
def sNew (i : Nat) (e : E) : S := fun l h => (e l h).toS l fun d h => match d with
  | .fl xs => .mk (.nx (l.set i (.ref h.os.length))) (h.new (.lst xs))
  | _ => .stuck
def sRaise (c : Nat) (e : E) : S := fun l h => (e l h).toS l fun _ h => .mk (.ex c l) h
def forGo (g : G) (b : S) : List D → S
  | [], l, h => .mk (.nx l) h
  | x :: xs, l, h => match g x l with
    | none => .stuck
    | some l1 => (match b l1 h with
      | .mk (.nx l2) h2 => forGo g b xs l2 h2
      | .mk (.ct l2) h2 => forGo g b xs l2 h2
      | .mk (.bk l2) h2 => .mk (.nx l2) h2
      | r => r)
def sFor (it : II) (g : G) (b : S) : S := fun l h => (it l h).toS l fun xs h => forGo g b xs l h
def whileGo (t : TT) (b : S) : Nat → S
  | 0, _, _ => .stuck
  | n + 1, l, h => (t l h).toS l fun c h => if c = true then (match b l h with
      | .mk (.nx l2) h2 => whileGo t b n l2 h2
      | .mk (.ct l2) h2 => whileGo t b n l2 h2
      | .mk (.bk l2) h2 => .mk (.nx l2) h2
      | r => r) else .mk (.nx l) h
def sWhile (t : TT) (b : S) : S := whileGo t b 1000000
/-- x op= e -/
def sAug (i : Nat) (op : Hv → D → D → Res D) (e : E) : S := fun l h => match l[i]? with
  | some .unset => .stuck
  | some d => (e l h).toS l fun y h => (op h d y).toS l fun z h => .mk (.nx (l.set i z)) h
  | none => .stuck
/-- a store: old objects take no numbers -/
def Hv.put (h : Hv) (n : Nat) (o : O) (d : D) : Option Hv := if Nat.ble h.lim n || d.free then some ⟨h.os.set n o, h.lim⟩ else none
/-- o[i] = e: the value first -/
abbrev SetOp := Hv → D → D → D → Option Hv
def sSub (op : SetOp) (e o i : E) : S := fun l h => (e l h).toS l fun v h => (o l h).toS l fun x h => (i l h).toS l fun y h => match op h x y v with
  | some h' => .mk (.nx l) h'
  | none => .stuck
/-- o[i] op= e -/
def sAugSub (get op : Hv → D → D → Res D) (st : SetOp) (o i e : E) : S := fun l h => (o l h).toS l fun x h => (i l h).toS l fun y h => (get h x y).toS l fun z h =>
  (e l h).toS l fun v h => (op h z v).toS l fun w h => match st h x y w with
  | some h' => .mk (.nx l) h'
  | none => .stuck
/-- o.f = e -/
def sFld (st : Hv → D → D → Option Hv) (e o : E) : S := fun l h => (e l h).toS l fun v h => (o l h).toS l fun x h => match st h x v with
  | some h' => .mk (.nx l) h'
  | none => .stuck
/-- try: b except C1: s1 ..; cs: which class each clause takes -/
def sTry (b : S) (hs : List (List Nat × S)) : S := fun l h => match b l h with
  | .mk (.ex c l1) h1 => (match hs.find? fun p => p.1.contains c with
    | some p => p.2 l1 h1
    | none => .mk (.ex c l1) h1)
  | r => r

/-! ### a def -/
def fnOf (n : Nat) (b : S) : Fn := fun ds h => match b (ds ++ List.replicate (n - ds.length) .unset) h with
  | .mk (.nx _) h => .ok .non h
  | .mk (.rt d) h => .ok d h
  | .mk (.ex c _) h => .exc c h
  | _ => .stuck

/-! ### data -/
mutual
def D.pd (os : List O) : D → Option PySem.PyData
  | .non => some .none
  | .bl b => some (.bool b)
  | .int i => some (.int i)
  | .str x => some (.str x)
  | .tup xs => (D.pds os xs).map .tuple
  | .fl xs => (D.pds os xs).map .list
  | .ref n => match os[n]? with
    | some (.lst xs) => (pdFlats xs).map .list
    | _ => none
  | _ => none
def D.pds (os : List O) : List D → Option (List PySem.PyData)
  | [] => some []
  | d :: ds => match D.pd os d with
    | some e => (D.pds os ds).map (e :: ·)
    | none => none
/-- the items of a list that may change: no numbers in them -/
def pdFlats : List D → Option (List PySem.PyData)
  | [] => some []
  | d :: ds => match pdFlat d with
    | some e => (pdFlats ds).map (e :: ·)
    | none => none
def pdFlat : D → Option PySem.PyData
  | .non => some .none
  | .bl b => some (.bool b)
  | .int i => some (.int i)
  | .str x => some (.str x)
  | .tup xs => (pdFlats xs).map .tuple
  | .fl xs => (pdFlats xs).map .list
  | _ => none
end
end Ev

set_option Elab.async false
set_option linter.all false
set_option maxRecDepth 100000
set_option maxHeartbeats 2000000
/-! Ev1: how the evaluator's values and heap stand to the layer's. -/
namespace Ev
open PySem PySem.Spec PyProof.Rows L2

/-- the addresses of the numbers; an instance's dict -/
structure Mp where
  ρ : Nat → Addr
  δ : Nat → Addr
  /-- lists in the making (a comprehension's) -/
  Z : Addr → Prop
/-- tracked: an object of a number below n, or its dict, or a list in the making -/
def Mp.Tk (m : Mp) (n : Nat) (a : Addr) : Prop := (∃ i, i < n ∧ (a = m.ρ i ∨ a = m.δ i)) ∨ m.Z a
theorem Mp.Tk.mono {m : Mp} {n n' : Nat} {a : Addr} (h : m.Tk n a) (l : n ≤ n') : m.Tk n' a := by
  rcases h with ⟨i, h1, h2⟩ | h
  · exact .inl ⟨i, Nat.lt_of_lt_of_le h1 l, h2⟩
  · exact .inr h

def FL (m : Mp) (n : Nat) (H : Hp) (a : Addr) (xs : List V) : Prop := H a = some (.lst xs) ∧ ¬ m.Tk n a
/-- the script -/
def FSk (K : PySem.W.Frag) (a : Addr) (xs : List V) : Prop := ∃ (o : Obj) (its : Array Value) (n : Nat), K.lookup a = some o ∧ o.cls = .type "list" ∧ o.dict = none ∧ o.data = .seq its n ∧ its.size ≤ sizeLine ∧ Vals xs its.toList
def FS (K : PySem.W.Frag) (m : Mp) (n : Nat) (H : Hp) (a : Addr) (xs : List V) : Prop := ((∃ o, H a = some (.frz o (.lst xs))) ∧ ¬ m.Tk n a) ∨ FSk K a xs
def FT (m : Mp) (n : Nat) (H : Hp) (a : Addr) (xs : List V) : Prop := H a = some (.tup xs) ∧ ¬ m.Tk n a
theorem FL.sq {K : PySem.W.Frag} {m n H a xs} (h : FL m n H a xs) : SqL K H a xs := .inl (.inl h.1)
theorem FS.sq {K : PySem.W.Frag} {m n H a xs} (h : FS K m n H a xs) : SqL K H a xs := h.elim (fun z => .inl (.inr z.1)) .inr
theorem FT.sq {K : PySem.W.Frag} {m n H a xs} (h : FT m n H a xs) : SqT K H a xs := .inl (.inl h.1)
def FI (m : Mp) (n : Nat) (H : Hp) (a C dx : Addr) (vs : List (Option V)) : Prop := H a = some (SlX.SlO a C dx vs) ∧ H dx = some (.xd []) ∧ ¬ m.Tk n a ∧ ¬ m.Tk n dx

section
variable (K : PySem.W.Frag) (cad : Nat → Addr) (m : Mp) (n : Nat) (H : Hp)
mutual
def RelD : D → V → Prop
  | .non, v => v = .non
  | .bl b, v => v = .bl b
  | .int i, v => v = .int i
  | .str x, v => v = .str x
  | .ref k, v => v = .ref (m.ρ k)
  | .tup xs, v => ∃ a vs, v = .ref a ∧ FT m n H a vs ∧ RelDs xs vs
  | .fl xs, v => ∃ a vs, v = .ref a ∧ FL m n H a vs ∧ RelDs xs vs
  | .sc xs, v => ∃ a vs, v = .ref a ∧ FS K m n H a vs ∧ RelDs xs vs
  | .fi c fs, v => ∃ a dx vs, v = .ref a ∧ FI m n H a (cad c) dx vs ∧ RelS fs vs
  | .unset, _ => K ≠ K
  | .ty s, v => v = .ty s
  | .cls c, v => v = .ref (cad c)
def RelDs : List D → List V → Prop
  | [], vs => vs = []
  | d :: ds, vs => ∃ v r, vs = v :: r ∧ RelD d v ∧ RelDs ds r
/-- slots -/
def RelS : List D → List (Option V) → Prop
  | [], _ => True
  | d :: ds, vs => (d = .unset ∨ ∃ v, vs.head? = some (some v) ∧ RelD d v) ∧ RelS ds vs.tail
end
/-- an object of the heap at its number -/
def RelO (i : Nat) : O → Prop
  | .lst xs => ∃ vs, H (m.ρ i) = some (.lst vs) ∧ RelDs K cad m n H xs vs ∧ m.δ i = m.ρ i
  | .dic kvs => ∃ ws, H (m.ρ i) = some (.dK ws) ∧ ws.map Prod.fst = kvs.map Prod.fst ∧ RelDs K cad m n H (kvs.map Prod.snd) (ws.map Prod.snd) ∧ m.δ i = m.ρ i
  | .ins c fs => ∃ vs, SlX.Slt H (m.ρ i) (cad c) (m.δ i) vs ∧ (H (m.δ i)).isSome = true ∧ RelS K cad m n H fs vs ∧ m.δ i ≠ m.ρ i
end
abbrev Hv.n (h : Hv) : Nat := h.os.length
structure HR (K : PySem.W.Frag) (cad : Nat → Addr) (m : Mp) (h : Hv) (H : Hp) : Prop where
  obj : ∀ (i : Nat) (o : O), h.os[i]? = some o → RelO K cad m h.n H i o
  sep : ∀ i j, i < h.n → j < h.n → i ≠ j → m.ρ i ≠ m.ρ j ∧ m.ρ i ≠ m.δ j ∧ m.δ i ≠ m.δ j
  bel : ∀ (i : Nat) (o : O), h.os[i]? = some o → O.bel h.n o = true
  lim : h.lim ≤ h.n
  zs : ∀ a, m.Z a → (H a).isSome = true
  zd : ∀ i, i < h.n → ¬ m.Z (m.ρ i) ∧ ¬ m.Z (m.δ i)
structure LR (K : PySem.W.Frag) (cad : Nat → Addr) (m : Mp) (n : Nat) (H : Hp) (l : Loc) (σ : L2.St) : Prop where
  len : l.length = σ.length
  at_ : ∀ (i : Nat) (d : D), l[i]? = some d → d ≠ .unset → ∃ v, σ[i]? = some (some v) ∧ RelD K cad m n H d v
  bel : ∀ (i : Nat) (d : D), l[i]? = some d → d.bel n = true
/-- the heap and the slots -/
structure R (K : PySem.W.Frag) (cad : Nat → Addr) (m : Mp) (h : Hv) (l : Loc) (σ : L2.St) (H : Hp) : Prop where
  hr : HR K cad m h H
  lr : LR K cad m h.n H l σ

/-- what a run may do: new numbers at new addresses; old objects take no numbers; what is not tracked stays -/
structure Ext (m : Mp) (h : Hv) (H : Hp) (m' : Mp) (h' : Hv) (H' : Hp) : Prop where
  n : h.n ≤ h'.n
  lim : h'.lim = h.lim
  ag : ∀ i, i < h.n → m'.ρ i = m.ρ i ∧ m'.δ i = m.δ i
  kp : ∀ a u, H a = some u → ¬ m.Tk h.n a → H' a = some u
  nw : ∀ a, m'.Tk h'.n a → m.Tk h.n a ∨ H a = none
  old : ∀ i, i < h.lim → ∀ (b : Nat) (o o' : O), h.os[i]? = some o → h'.os[i]? = some o' → O.bel b o = true → O.bel b o' = true
  z : m'.Z = m.Z
  zk : ∀ a, m.Z a → H' a = H a

theorem Ext.refl (m : Mp) (h : Hv) (H : Hp) : Ext m h H m h H :=
  ⟨Nat.le_refl _, rfl, fun _ _ => ⟨rfl, rfl⟩, fun _ _ e _ => e, fun _ t => .inl t, fun i _ b o o' e e' q => by rw [e] at e'; cases e'; exact q, rfl, fun _ _ => rfl⟩
theorem Ext.trans {m h H m1 h1 H1 m2 h2 H2} (hl : h.lim ≤ h.n) (a : Ext m h H m1 h1 H1) (b : Ext m1 h1 H1 m2 h2 H2) : Ext m h H m2 h2 H2 := by
  refine ⟨Nat.le_trans a.n b.n, b.lim.trans a.lim, fun i hi => ?_, fun c u e t => ?_, fun c t => ?_, fun i hi q o o2 e e2 hb => ?_, b.z.trans a.z, fun c hc => (b.zk c (by rw [a.z]; exact hc)).trans (a.zk c hc)⟩
  · obtain ⟨p1, p2⟩ := a.ag i hi
    obtain ⟨q1, q2⟩ := b.ag i (Nat.lt_of_lt_of_le hi a.n)
    exact ⟨q1.trans p1, q2.trans p2⟩
  · refine b.kp c u (a.kp c u e t) fun t1 => ?_
    rcases a.nw c t1 with z | z
    · exact t z
    · rw [e] at z; cases z
  · rcases b.nw c t with z | z
    · exact a.nw c z
    · by_cases t0 : m.Tk h.n c
      · exact .inl t0
      · right
        cases e : H c with
        | none => rfl
        | some u => rw [a.kp c u e t0] at z; cases z
  · have hi1 : i < h1.os.length := Nat.lt_of_lt_of_le (Nat.lt_of_lt_of_le hi hl) a.n
    exact b.old i (by rw [a.lim]; exact hi) q h1.os[i] o2 (List.getElem?_eq_getElem hi1) e2 (a.old i hi q o _ e (List.getElem?_eq_getElem hi1) hb)

section
variable {K : PySem.W.Frag} {cad : Nat → Addr} {m m' : Mp} {n n' : Nat} {H H' : Hp}
/-- what keeps the data: the numbers below n at their addresses, what is not tracked, new ones at new addresses -/
structure Stay (m : Mp) (n : Nat) (H : Hp) (m' : Mp) (n' : Nat) (H' : Hp) : Prop where
  ag : ∀ i, i < n → m'.ρ i = m.ρ i
  kp : ∀ a u, H a = some u → ¬ m.Tk n a → H' a = some u
  nw : ∀ a, m'.Tk n' a → m.Tk n a ∨ H a = none
theorem Ext.stay {h h' : Hv} (x : Ext m h H m' h' H') : Stay m h.n H m' h'.n H' := ⟨fun i hi => (x.ag i hi).1, x.kp, x.nw⟩
theorem Stay.rd (x : Stay m n H m' n' H') {a : Addr} {u : HO} (h : Rd H a u) (t : ¬ m.Tk n a) : Rd H' a u ∧ ¬ m'.Tk n' a := by
  have no : ∀ w, H a = some w → ¬ m'.Tk n' a := fun w e t' => by
    rcases x.nw a t' with z | z
    · exact t z
    · rw [e] at z; cases z
  rcases h with h | ⟨o, h⟩
  · exact ⟨.inl (x.kp a _ h t), no _ h⟩
  · exact ⟨.inr ⟨o, x.kp a _ h t⟩, no _ h⟩
theorem Stay.fl (x : Stay m n H m' n' H') {a : Addr} {xs : List V} (h : FL m n H a xs) : FL m' n' H' a xs := ⟨x.kp _ _ h.1 h.2, (x.rd (.inl h.1) h.2).2⟩
theorem Stay.fs (x : Stay m n H m' n' H') {a : Addr} {xs : List V} (h : FS K m n H a xs) : FS K m' n' H' a xs := by
  rcases h with ⟨⟨o, h⟩, t⟩ | h
  · exact .inl ⟨⟨o, x.kp _ _ h t⟩, (x.rd (.inl h) t).2⟩
  · exact .inr h
theorem Stay.ft (x : Stay m n H m' n' H') {a : Addr} {xs : List V} (h : FT m n H a xs) : FT m' n' H' a xs := ⟨x.kp _ _ h.1 h.2, (x.rd (.inl h.1) h.2).2⟩
theorem Stay.fi (x : Stay m n H m' n' H') {a C dx : Addr} {vs : List (Option V)} (h : FI m n H a C dx vs) : FI m' n' H' a C dx vs := by
  obtain ⟨h1, h2, t1, t2⟩ := h
  refine ⟨x.kp _ _ h1 t1, x.kp _ _ h2 t2, fun t => ?_, fun t => ?_⟩
  · rcases x.nw _ t with z | z
    · exact t1 z
    · rw [h1] at z; cases z
  · rcases x.nw _ t with z | z
    · exact t2 z
    · rw [h2] at z; cases z
theorem blt_of {a b : Nat} (h : Nat.blt a b = true) : a < b := Nat.le_of_ble_eq_true h
mutual
theorem RelD.stay (x : Stay m n H m' n' H') : ∀ {d : D} {v : V}, RelD K cad m n H d v → d.bel n = true → RelD K cad m' n' H' d v
  | .non, _, h, _ => h
  | .bl _, _, h, _ => h
  | .int _, _, h, _ => h
  | .str _, _, h, _ => h
  | .ref k, _, h, b => by
    have hk : k < n := blt_of b
    unfold RelD at h ⊢
    rw [x.ag k hk]; exact h
  | .tup xs, _, h, b => by
    unfold RelD at h ⊢
    obtain ⟨a, vs, e, h1, h2⟩ := h
    exact ⟨a, vs, e, x.ft h1, RelDs.stay x h2 b⟩
  | .fl xs, _, h, b => by
    unfold RelD at h ⊢
    obtain ⟨a, vs, e, h1, h2⟩ := h
    exact ⟨a, vs, e, x.fl h1, RelDs.stay x h2 b⟩
  | .sc xs, _, h, b => by
    unfold RelD at h ⊢
    obtain ⟨a, vs, e, h1, h2⟩ := h
    exact ⟨a, vs, e, x.fs h1, RelDs.stay x h2 b⟩
  | .fi c fs, _, h, b => by
    unfold RelD at h ⊢
    obtain ⟨a, dx, vs, e, h1, h2⟩ := h
    exact ⟨a, dx, vs, e, x.fi h1, RelS.stay x h2 b⟩
  | .unset, _, h, _ => h
  | .ty _, _, h, _ => h
  | .cls _, _, h, _ => h
theorem RelDs.stay (x : Stay m n H m' n' H') : ∀ {ds : List D} {vs : List V}, RelDs K cad m n H ds vs → D.bels n ds = true → RelDs K cad m' n' H' ds vs
  | [], _, h, _ => h
  | d :: ds, _, h, b => by
    unfold RelDs at h ⊢
    obtain ⟨v, r, e, h1, h2⟩ := h
    have b' := Bool.and_eq_true_iff.mp b
    exact ⟨v, r, e, RelD.stay x h1 b'.1, RelDs.stay x h2 b'.2⟩
theorem RelS.stay (x : Stay m n H m' n' H') : ∀ {ds : List D} {vs : List (Option V)}, RelS K cad m n H ds vs → D.bels n ds = true → RelS K cad m' n' H' ds vs
  | [], _, h, _ => trivial
  | d :: ds, _, h, b => by
    unfold RelS at h ⊢
    have b' := Bool.and_eq_true_iff.mp b
    refine ⟨?_, RelS.stay x h.2 b'.2⟩
    rcases h.1 with z | ⟨v, e, q⟩
    · exact .inl z
    · exact .inr ⟨v, e, RelD.stay x q b'.1⟩
end
mutual
theorem D.bel_mono {b c : Nat} (l : b ≤ c) : ∀ {d : D}, d.bel b = true → d.bel c = true
  | .ref k, h => by
    have hk : k < b := blt_of h
    exact Nat.ble_eq_true_of_le (Nat.lt_of_lt_of_le hk l)
  | .tup xs, h => D.bels_mono l (ds := xs) h
  | .fl xs, h => D.bels_mono l (ds := xs) h
  | .fi c fs, h => D.bels_mono l (ds := fs) h
  | .sc xs, h => D.bels_mono l (ds := xs) h
  | .non, h => rfl
  | .bl _, h => rfl
  | .int _, h => rfl
  | .str _, h => rfl
  | .unset, h => rfl
  | .ty _, h => rfl
  | .cls _, h => rfl
theorem D.bels_mono {b c : Nat} (l : b ≤ c) : ∀ {ds : List D}, D.bels b ds = true → D.bels c ds = true
  | [], h => rfl
  | d :: ds, h => by
    have h' := Bool.and_eq_true_iff.mp h
    exact Bool.and_eq_true_iff.mpr ⟨D.bel_mono l h'.1, D.bels_mono l h'.2⟩
end
theorem O.bel_mono {b c : Nat} (l : b ≤ c) : ∀ {o : O}, o.bel b = true → o.bel c = true
  | .lst xs, h => D.bels_mono l (ds := xs) h
  | .dic kvs, h => D.bels_mono l (ds := kvs.map Prod.snd) h
  | .ins c fs, h => D.bels_mono l (ds := fs) h
theorem LR.stay {l : Loc} {σ : L2.St} (x : Stay m n H m' n' H') (hn : n ≤ n') (r : LR K cad m n H l σ) : LR K cad m' n' H' l σ :=
  ⟨r.len, fun i d e ne => let ⟨v, e1, h⟩ := r.at_ i d e ne; ⟨v, e1, h.stay x (r.bel i d e)⟩, fun i d e => D.bel_mono hn (r.bel i d e)⟩
/-- the slots behind a run -/
theorem R.after {h h' : Hv} {l : Loc} {σ : L2.St} (r : R K cad m h l σ H) (x : Ext m h H m' h' H') (q : HR K cad m' h' H') : R K cad m' h' l σ H' := ⟨q, r.lr.stay x.stay x.n⟩
end
end Ev

set_option Elab.async false
set_option linter.all false
set_option maxRecDepth 100000
set_option maxHeartbeats 2000000
/-! Ev2: what a run of the evaluator promises, as a reading of the layer; expressions. -/
namespace Ev
open PySem PySem.Spec PyProof.Rows L2

/-- the fragment, the classes' addresses, what is wished of an exception -/
structure Cn where
  K : PySem.W.Frag
  cad : Nat → Addr
  W : WX

section
variable (c : Cn)
abbrev RD (m : Mp) (n : Nat) (H : Hp) (d : D) (v : V) : Prop := RelD c.K c.cad m n H d v ∧ d.bel n = true
abbrev RDs (m : Mp) (n : Nat) (H : Hp) (ds : List D) (vs : List V) : Prop := RelDs c.K c.cad m n H ds vs ∧ D.bels n ds = true
abbrev RB (m : Mp) (n : Nat) (H : Hp) (b : Bool) (k : Bool) : Prop := b = k
/-- from (m, h, H): the result r is what Q wants -/
def Post {α β : Type} (Rl : Mp → Nat → Hp → α → β → Prop) (σ : L2.St) (m : Mp) (h : Hv) (H : Hp) (r : Res α) (Q : β → Hp → Prop) : Prop :=
  match r with
  | .ok a h' => ∀ m' H' b, Ext m h H m' h' H' → HR c.K c.cad m' h' H' → Rl m' h'.n H' a b → Q b H'
  | .exc x h' => ∀ m' H', Ext m h H m' h' H' → HR c.K c.cad m' h' H' → c.W (.ref (c.cad x)) none σ H'
  | .stuck => False
def tOf (e : E) : TE := fun σ H Q => ∃ m h l, R c.K c.cad m h l σ H ∧ Post c (RD c) σ m h H (e l h) Q
def tOfT (t : TT) : L2.TT := fun σ H Q => ∃ m h l, R c.K c.cad m h l σ H ∧ Post c (RB) σ m h H (t l h) Q
def tOfA (a : EA) : TA := fun σ H Q => ∃ m h l, R c.K c.cad m h l σ H ∧ Post c (RDs c) σ m h H (a l h) Q
end

/-- .. where a list just made stands at an address that nothing knows yet -/
def PostN (c : Cn) (σ : L2.St) (m : Mp) (h : Hv) (H : Hp) (r : Res D) (Q : VK) : Prop :=
  match r with
  | .ok (.fl xs) h' => ∀ m' H' a vs, Ext m h H m' h' H' → HR c.K c.cad m' h' H' → RDs c m' h'.n H' xs vs → H' a = none → Q (.ref a) (upd H' a (.lst vs))
  | r => Post c (RD c) σ m h H r Q
def tNew (c : Cn) (e : E) : TE := fun σ H Q => ∃ m h l, R c.K c.cad m h l σ H ∧ PostN c σ m h H (e l h) Q
section
variable {c : Cn} {α β γ ε : Type} {Rl : Mp → Nat → Hp → α → β → Prop} {Rl' : Mp → Nat → Hp → γ → ε → Prop} {σ : L2.St} {m m1 : Mp} {h h1 : Hv} {H H1 : Hp}
theorem Post.ext {r : Res α} {Q : β → Hp → Prop} (q : HR c.K c.cad m h H) (x : Ext m h H m1 h1 H1) (p : Post c Rl σ m h H r Q) : Post c Rl σ m1 h1 H1 r Q := by
  cases r with
  | ok a h2 => exact fun m' H' b y z w => p m' H' b (Ext.trans q.lim x y) z w
  | exc k h2 => exact fun m' H' y z => p m' H' (Ext.trans q.lim x y) z
  | stuck => exact p
/-- behind a first part -/
def Aft (c : Cn) (Rl : Mp → Nat → Hp → α → β → Prop) (m : Mp) (h : Hv) (H : Hp) (K : Mp → Hv → Hp → α → Prop) (b : β) (H1 : Hp) : Prop :=
  ∃ m1 h1 a, Ext m h H m1 h1 H1 ∧ HR c.K c.cad m1 h1 H1 ∧ Rl m1 h1.n H1 a b ∧ K m1 h1 H1 a
theorem Post.bind {r : Res α} {f : α → Hv → Res γ} {Q : ε → Hp → Prop} (q : HR c.K c.cad m h H) (p : Post c Rl' σ m h H (r.bind f) Q) :
    Post c Rl σ m h H r fun b H1 => Aft c Rl m h H (fun m1 h1 H1 a => Post c Rl' σ m1 h1 H1 (f a h1) Q) b H1 := by
  cases r with
  | ok a h2 => exact fun m' H' b y z w => ⟨m', h2, a, y, z, w, Post.ext q y p⟩
  | exc k h2 => exact p
  | stuck => exact p
theorem Post.mono {r : Res α} {Q Q' : β → Hp → Prop} (p : Post c Rl σ m h H r Q) (w : ∀ b H', Q b H' → Q' b H') : Post c Rl σ m h H r Q' := by
  cases r with
  | ok a h2 => exact fun m' H' b y z v => w b H' (p m' H' b y z v)
  | exc k h2 => exact p
  | stuck => exact p
theorem Post.cond {b : Bool} {r : Res α} {Q : β → Hp → Prop} (p : Post c Rl σ m h H (if b = true then r else .stuck) Q) : b = true ∧ Post c Rl σ m h H r Q := by
  cases b with
  | true => exact ⟨rfl, p⟩
  | false => exact p.elim
theorem Post.here {a : α} {b : β} {Q : β → Hp → Prop} (q : HR c.K c.cad m h H) (p : Post c Rl σ m h H (.ok a h) Q) (r : Rl m h.n H a b) : Q b H := p m H b (Ext.refl m h H) q r
end

/-! ### consequence -/
theorem PE.mono {X : Cx} {e : Expr} {t t' : TE} (p : PE X e t) (w : ∀ σ H Q, t' σ H Q → t σ H Q) : PE X e t' := ⟨fun pins s σ H Q I h => p.run pins s σ H Q I (w σ H Q h)⟩
theorem PT.mono {X : Cx} {e : Expr} {t t' : L2.TT} (p : PT X e t) (w : ∀ σ H Q, t' σ H Q → t σ H Q) : PT X e t' := ⟨fun pins s σ H Q I h => p.run pins s σ H Q I (w σ H Q h)⟩
theorem PW.mono {X : Cx} {e : Expr} {t t' : L2.TT} (p : PW X e t) (w : ∀ σ H Q, t' σ H Q → t σ H Q) : PW X e t' := ⟨fun wh pins s σ H Q I h => p.run wh pins s σ H Q I (w σ H Q h)⟩
theorem PA.mono {X : Cx} {es : List Expr} {t t' : TA} (p : PA X es t) (w : ∀ σ H Q, t' σ H Q → t σ H Q) : PA X es t' := ⟨fun pos pins s σ H Q I h => p.run pos pins s σ H Q I (w σ H Q h)⟩
theorem PS.mono {X : Cx} {st : Stmt} {t t' : TS} (p : PS X st t) (w : ∀ D σ H, t' D σ H → t D σ H) : PS X st t' := ⟨fun pins s σ H D I h => p.run pins s σ H D I (w D σ H h)⟩
theorem PSs.mono {X : Cx} {st : List Stmt} {t t' : TS} (p : PSs X st t) (w : ∀ D σ H, t' D σ H → t D σ H) : PSs X st t' := ⟨fun pins s σ H D I h => p.run pins s σ H D I (w D σ H h)⟩

/-! ### the heap gets something new that has no number -/
section
variable {K : PySem.W.Frag} {cad : Nat → Addr} {m : Mp} {h : Hv} {H : Hp} {p : Addr} {o : HO}
theorem HR.some (q : HR K cad m h H) {a : Addr} (t : m.Tk h.n a) : (H a).isSome = true := by
  rcases t with ⟨i, hi, e⟩ | t
  rotate_left
  · exact q.zs a t
  have r := q.obj i h.os[i] (List.getElem?_eq_getElem hi)
  cases ho : h.os[i] with
  | lst xs =>
    rw [ho] at r
    obtain ⟨vs, e1, _, e2⟩ := r
    rcases e with e | e
    · rw [e, e1]; rfl
    · rw [e, e2, e1]; rfl
  | dic xs =>
    rw [ho] at r
    obtain ⟨vs, e1, _, _, e2⟩ := r
    rcases e with e | e
    · rw [e, e1]; rfl
    · rw [e, e2, e1]; rfl
  | ins k fs =>
    rw [ho] at r
    obtain ⟨vs, s, e1, _, _⟩ := r
    rcases e with e | e
    · rw [e]
      rcases s with ⟨z, _⟩ | ⟨z, _⟩ <;> (rw [z]; rfl)
    · rw [e]; exact e1
theorem HR.ntk (q : HR K cad m h H) {a : Addr} (e : H a = none) : ¬ m.Tk h.n a := fun t => by
  have := q.some t
  rw [e] at this; cases this
theorem RelO.stay {m' : Mp} {n n' : Nat} {H' : Hp} {i : Nat} {o : O} (x : Stay m n H m' n' H') (hρ : m'.ρ i = m.ρ i) (hδ : m'.δ i = m.δ i) (k1 : H' (m.ρ i) = H (m.ρ i)) (k2 : H' (m.δ i) = H (m.δ i))
    (r : RelO K cad m n H i o) (b : O.bel n o = true) : RelO K cad m' n' H' i o := by
  cases o with
  | lst xs =>
    obtain ⟨vs, e1, e2, e3⟩ := r
    exact ⟨vs, by rw [hρ, k1]; exact e1, e2.stay x b, by rw [hρ, hδ]; exact e3⟩
  | dic xs =>
    obtain ⟨vs, e1, e2, e3, e4⟩ := r
    exact ⟨vs, by rw [hρ, k1]; exact e1, e2, e3.stay x b, by rw [hρ, hδ]; exact e4⟩
  | ins k fs =>
    obtain ⟨vs, s, e1, e2, e3⟩ := r
    refine ⟨vs, ?_, by rw [hδ, k2]; exact e1, e2.stay x b, by rw [hρ, hδ]; exact e3⟩
    rw [hρ, hδ]
    rcases s with ⟨z, z2⟩ | ⟨z, z2⟩
    · exact .inl ⟨by rw [k1]; exact z, z2⟩
    · exact .inr ⟨by rw [k1]; exact z, by rw [k2]; exact z2⟩
theorem Ext.new (q : HR K cad m h H) (hp : H p = none) : Ext m h H m h (upd H p o) :=
  ⟨Nat.le_refl _, rfl, fun _ _ => ⟨rfl, rfl⟩, fun a u e _ => by rw [upd_ne (ne_of_none e hp)]; exact e, fun _ t => .inl t, fun i _ b o o' e e' z => by rw [e] at e'; cases e'; exact z, rfl, fun a ha => upd_ne fun z => by have := q.zs a ha; rw [z, hp] at this; cases this⟩
theorem HR.new (q : HR K cad m h H) (hp : H p = none) : HR K cad m h (upd H p o) := by
  have ne : ∀ a, m.Tk h.n a → a ≠ p := fun a t z => by
    have := q.some t
    rw [z, hp] at this; cases this
  refine ⟨fun i u e => ?_, q.sep, q.bel, q.lim, fun a ha => by rw [upd_ne (ne a (.inr ha))]; exact q.zs a ha, q.zd⟩
  have hi : i < h.n := (List.getElem?_eq_some_iff.mp e).1
  exact RelO.stay (Ext.new q hp).stay rfl rfl (upd_ne (ne _ (.inl ⟨i, hi, .inl rfl⟩))) (upd_ne (ne _ (.inl ⟨i, hi, .inr rfl⟩))) (q.obj i u e) (q.bel i u e)
theorem FL.new (q : HR K cad m h H) (hp : H p = none) {xs : List V} : FL m h.n (upd H p (.lst xs)) p xs := ⟨upd_same, q.ntk hp⟩
theorem FT.new (q : HR K cad m h H) (hp : H p = none) {xs : List V} : FT m h.n (upd H p (.tup xs)) p xs := ⟨upd_same, q.ntk hp⟩
end
section
variable {c : Cn} {σ : L2.St} {m : Mp} {h : Hv} {H : Hp} {Q : VK} {xs : List D} {vs : List V} {p : Addr}
/-- the answer is a new list, a new tuple -/
theorem Post.newL (q : HR c.K c.cad m h H) (w : Post c (RD c) σ m h H (.ok (.fl xs) h) Q) (r : RDs c m h.n H xs vs) (hp : H p = none) : Q (.ref p) (upd H p (.lst vs)) := by
  refine w m _ _ (Ext.new q hp) (q.new hp) ⟨?_, r.2⟩
  unfold RelD
  exact ⟨p, vs, rfl, FL.new q hp, r.1.stay (Ext.new q hp).stay r.2⟩
theorem Post.newT (q : HR c.K c.cad m h H) (w : Post c (RD c) σ m h H (.ok (.tup xs) h) Q) (r : RDs c m h.n H xs vs) (hp : H p = none) : Q (.ref p) (upd H p (.tup vs)) := by
  refine w m _ _ (Ext.new q hp) (q.new hp) ⟨?_, r.2⟩
  unfold RelD
  exact ⟨p, vs, rfl, FT.new q hp, r.1.stay (Ext.new q hp).stay r.2⟩
end

theorem Post.toN {c : Cn} {σ : L2.St} {m : Mp} {h : Hv} {H : Hp} {Q : VK} {r : Res D} (q : HR c.K c.cad m h H) (p : Post c (RD c) σ m h H r Q) : PostN c σ m h H r Q := by
  cases r with
  | stuck => exact p
  | exc z h1 => exact p
  | ok d h1 =>
    cases d with
    | fl xs => exact fun m' H' a vs x q' r ha => Post.newL q' (Post.ext q x (show Post c (RD c) σ m h H (.ok (.fl xs) h1) Q from p)) r ha
    | _ => exact p
theorem PE.ofNew {X : Cx} {c : Cn} {e : Expr} {ma : E} (h : PE X e (tNew c ma)) : PE X e (tOf c ma) := PE.mono h fun σ H Q ⟨m, h, l, q, p⟩ => ⟨m, h, l, q, Post.toN q.hr p⟩
theorem PostN.ext {c : Cn} {σ : L2.St} {m m1 : Mp} {h h1 : Hv} {H H1 : Hp} {Q : VK} {r : Res D} (q : HR c.K c.cad m h H) (x : Ext m h H m1 h1 H1) (p : PostN c σ m h H r Q) : PostN c σ m1 h1 H1 r Q := by
  cases r with
  | stuck => exact p
  | exc z h2 => exact Post.ext q x (show Post c (RD c) σ m h H (.exc z h2) Q from p)
  | ok d h2 =>
    cases d with
    | fl xs => exact fun m' H' a vs y q' r ha => p m' H' a vs (Ext.trans q.lim x y) q' r ha
    | _ => exact Post.ext q x (show Post c (RD c) σ m h H (.ok _ h2) Q from p)
/-- a first part -/
theorem PostN.bind {c : Cn} {α β : Type} {Rl : Mp → Nat → Hp → α → β → Prop} {σ : L2.St} {m : Mp} {h : Hv} {H : Hp} {r : Res α} {f : α → Hv → Res D} {Q : VK} (q : HR c.K c.cad m h H) (p : PostN c σ m h H (r.bind f) Q) :
    Post c Rl σ m h H r fun b H1 => Aft c Rl m h H (fun m1 h1 H1 a => PostN c σ m1 h1 H1 (f a h1) Q) b H1 := by
  cases r with
  | ok a h2 => exact fun m' H' b y z w => ⟨m', h2, a, y, z, w, PostN.ext q y p⟩
  | exc k h2 => exact p
  | stuck => exact p
theorem PostN.cond {c : Cn} {σ : L2.St} {m : Mp} {h : Hv} {H : Hp} {Q : VK} {b : Bool} {r : Res D} (p : PostN c σ m h H (if b = true then r else .stuck) Q) : b = true ∧ PostN c σ m h H r Q := by
  cases b with
  | true => exact ⟨rfl, p⟩
  | false => exact p.elim
theorem PostN.here {c : Cn} {σ : L2.St} {m : Mp} {h : Hv} {H : Hp} {Q : VK} {d : D} {v : V} (q : HR c.K c.cad m h H) (p : PostN c σ m h H (.ok d h) Q) (r : RD c m h.n H d v) (hd : ∀ xs, d ≠ .fl xs) : Q v H := by
  have p' : Post c (RD c) σ m h H (.ok d h) Q := by
    cases d <;> first | exact p | exact absurd rfl (hd _)
  exact p' m H v (Ext.refl m h H) q r
/-- the new list -/
theorem PostN.put {c : Cn} {σ : L2.St} {m : Mp} {h : Hv} {H : Hp} {Q : VK} {xs : List D} {vs : List V} {a : Addr} (q : HR c.K c.cad m h H) (p : PostN c σ m h H (.ok (.fl xs) h) Q) (r : RDs c m h.n H xs vs) (ha : H a = none) : Q (.ref a) (upd H a (.lst vs)) :=
  p m H a vs (Ext.refl m h H) q r ha

/-! ### lists of data -/
section
variable {K : PySem.W.Frag} {cad : Nat → Addr} {m : Mp} {n : Nat} {H : Hp}
theorem RelDs.length : ∀ {ds : List D} {vs : List V}, RelDs K cad m n H ds vs → vs.length = ds.length
  | [], _, h => by unfold RelDs at h; subst h; rfl
  | d :: ds, _, h => by
    unfold RelDs at h
    obtain ⟨v, r, e, _, h2⟩ := h
    subst e
    simp [RelDs.length h2]
theorem RelDs.get : ∀ {ds : List D} {vs : List V} {i : Nat} {d : D}, RelDs K cad m n H ds vs → ds[i]? = some d → ∃ v, vs[i]? = some v ∧ RelD K cad m n H d v
  | [], _, _, _, _, e => by simp at e
  | d :: ds, _, 0, _, h, e => by
    unfold RelDs at h
    obtain ⟨v, r, e1, h1, _⟩ := h
    subst e1
    simp at e
    subst e
    exact ⟨v, rfl, h1⟩
  | d :: ds, _, i + 1, x, h, e => by
    unfold RelDs at h
    obtain ⟨v, r, e1, _, h2⟩ := h
    subst e1
    obtain ⟨y, q1, q2⟩ := RelDs.get (i := i) (d := x) h2 (by simpa using e)
    exact ⟨y, by simpa using q1, q2⟩
theorem RelDs.append : ∀ {ds es : List D} {vs ws : List V}, RelDs K cad m n H ds vs → RelDs K cad m n H es ws → RelDs K cad m n H (ds ++ es) (vs ++ ws)
  | [], _, _, _, h, g => by unfold RelDs at h; subst h; exact g
  | d :: ds, _, _, _, h, g => by
    unfold RelDs at h
    obtain ⟨v, r, e1, h1, h2⟩ := h
    subst e1
    show RelDs K cad m n H (d :: (ds ++ _)) (v :: (r ++ _))
    unfold RelDs
    exact ⟨v, _, rfl, h1, RelDs.append h2 g⟩
theorem RelDs.set {d : D} {v : V} (r : RelD K cad m n H d v) : ∀ {ds : List D} {vs : List V} (i : Nat), RelDs K cad m n H ds vs → RelDs K cad m n H (ds.set i d) (vs.set i v)
  | [], _, _, h => by unfold RelDs at h; subst h; unfold RelDs; rfl
  | x :: ds, _, 0, h => by
    unfold RelDs at h
    obtain ⟨y, q, e1, h1, h2⟩ := h
    subst e1
    show RelDs K cad m n H (d :: ds) (v :: q)
    unfold RelDs
    exact ⟨v, q, rfl, r, h2⟩
  | x :: ds, _, i + 1, h => by
    unfold RelDs at h
    obtain ⟨y, q, e1, h1, h2⟩ := h
    subst e1
    show RelDs K cad m n H (x :: ds.set i d) (y :: q.set i v)
    unfold RelDs
    exact ⟨y, _, rfl, h1, RelDs.set r i h2⟩
theorem RelDs.take : ∀ {ds : List D} {vs : List V} (i : Nat), RelDs K cad m n H ds vs → RelDs K cad m n H (ds.take i) (vs.take i)
  | [], _, i, h => by unfold RelDs at h; subst h; simp [RelDs]
  | x :: ds, _, 0, h => by simp [RelDs]
  | x :: ds, _, i + 1, h => by
    unfold RelDs at h
    obtain ⟨y, q, e1, h1, h2⟩ := h
    subst e1
    show RelDs K cad m n H (x :: ds.take i) (y :: q.take i)
    unfold RelDs
    exact ⟨y, _, rfl, h1, RelDs.take i h2⟩
theorem RelDs.drop : ∀ {ds : List D} {vs : List V} (i : Nat), RelDs K cad m n H ds vs → RelDs K cad m n H (ds.drop i) (vs.drop i)
  | [], _, i, h => by unfold RelDs at h; subst h; simp [RelDs]
  | x :: ds, _, 0, h => h
  | x :: ds, _, i + 1, h => by
    unfold RelDs at h
    obtain ⟨y, q, e1, h1, h2⟩ := h
    subst e1
    exact RelDs.drop i h2
theorem RelDs.reverse : ∀ {ds : List D} {vs : List V}, RelDs K cad m n H ds vs → RelDs K cad m n H ds.reverse vs.reverse
  | [], _, h => by unfold RelDs at h; subst h; simp [RelDs]
  | x :: ds, _, h => by
    unfold RelDs at h
    obtain ⟨y, q, e1, h1, h2⟩ := h
    subst e1
    rw [List.reverse_cons, List.reverse_cons]
    exact RelDs.append (RelDs.reverse h2) (by unfold RelDs; exact ⟨y, [], rfl, h1, by unfold RelDs; rfl⟩)
theorem RelDs.nil : RelDs K cad m n H [] [] := by unfold RelDs; rfl
theorem RelDs.cons {d : D} {v : V} {ds : List D} {vs : List V} (h : RelD K cad m n H d v) (r : RelDs K cad m n H ds vs) : RelDs K cad m n H (d :: ds) (v :: vs) := by unfold RelDs; exact ⟨v, vs, rfl, h, r⟩
end
theorem bels_mem {n : Nat} : ∀ {ds : List D}, D.bels n ds = true ↔ ∀ d ∈ ds, d.bel n = true
  | [] => by simp [D.bels]
  | d :: ds => by
    simp only [D.bels, Bool.and_eq_true, List.mem_cons, forall_eq_or_imp]
    rw [bels_mem (ds := ds)]
theorem bels_append {n : Nat} {ds es : List D} (h : D.bels n ds = true) (g : D.bels n es = true) : D.bels n (ds ++ es) = true := bels_mem.mpr fun d hd => (List.mem_append.mp hd).elim (bels_mem.mp h d) (bels_mem.mp g d)
theorem bels_set {n : Nat} {ds : List D} {d : D} (i : Nat) (h : D.bels n ds = true) (g : d.bel n = true) : D.bels n (ds.set i d) = true := bels_mem.mpr fun x hx => (List.mem_or_eq_of_mem_set hx).elim (bels_mem.mp h x) fun e => by rw [e]; exact g
theorem bels_get {n : Nat} {ds : List D} {d : D} {i : Nat} (h : D.bels n ds = true) (e : ds[i]? = some d) : d.bel n = true := bels_mem.mp h d (List.mem_of_getElem? e)
theorem bels_sub {n : Nat} {ds es : List D} (h : D.bels n ds = true) (g : ∀ d ∈ es, d ∈ ds) : D.bels n es = true := bels_mem.mpr fun d hd => bels_mem.mp h d (g d hd)

/-! ### expressions -/
section
variable {X : Cx} {c : Cn} {x : Str} {pos : Pos}
theorem pv_C {e : Expr} {d : D} {v : V} (h : PE X e (tC v)) (hd : ∀ m n H, RD c m n H d v) : PE X e (tOf c (eC d)) :=
  PE.mono h fun σ H Q ⟨m, hv, l, r, p⟩ => Post.here r.hr p (hd m _ H)
theorem pv_var {i : Nat} (hN : X.N[i]? = some x) (hv : Vis X.env.scope x) (hd : (x == ("__debug__" : Str)) = false) (hcd : (x == ("__classdict__" : Str)) = false) : PE X (.Name x pos) (tOf c (eVar i)) :=
  PE.mono (pe_var hN hv hd hcd) fun σ H Q ⟨m, h, l, r, p⟩ => by
    unfold eVar at p
    cases e : l[i]? with
    | none => rw [e] at p; exact p.elim
    | some d =>
      rw [e] at p
      by_cases hu : d = .unset
      · subst hu; exact p.elim
      · have p' : Post c (RD c) σ m h H (.ok d h) Q := by
          cases d <;> first | exact p | exact absurd rfl hu
        obtain ⟨v, e1, q⟩ := r.lr.at_ i d e hu
        exact ⟨v, e1, Post.here r.hr p' ⟨q, r.lr.bel i d e⟩⟩
end

/-- an operation's part by values -/
def Op2 (c : Cn) (op : Hv → D → D → Res D) (r : R2) : Prop := ∀ σ m h H x y u v Q, HR c.K c.cad m h H → RD c m h.n H x u → RD c m h.n H y v → Post c (RD c) σ m h H (op h x y) Q → r u v H Q
def Op1 (c : Cn) (op : Hv → D → Res D) (r : V → Hp → VK → Prop) : Prop := ∀ σ m h H x u Q, HR c.K c.cad m h H → RD c m h.n H x u → Post c (RD c) σ m h H (op h x) Q → r u H Q
def OpN (c : Cn) (op : Hv → List D → Res D) (r : List V → Hp → VK → Prop) : Prop := ∀ σ m h H xs us Q, HR c.K c.cad m h H → RDs c m h.n H xs us → Post c (RD c) σ m h H (op h xs) Q → r us H Q
def OpT (c : Cn) (op : Hv → D → Res Bool) (r : V → Hp → (Bool → Hp → Prop) → Prop) : Prop := ∀ σ m h H x u Q, HR c.K c.cad m h H → RD c m h.n H x u → Post c RB σ m h H (op h x) Q → r u H Q

section
variable {c : Cn} {ma mb mc : E} {op op' : Hv → D → D → Res D} {r r' : R2} {σ : L2.St} {H : Hp} {Q : VK}
theorem rd_ext {m m1 : Mp} {h h1 : Hv} {H H1 : Hp} {x : D} {u : V} (y : Ext m h H m1 h1 H1) (r : RD c m h.n H x u) : RD c m1 h1.n H1 x u := ⟨r.1.stay y.stay r.2, D.bel_mono y.n r.2⟩
theorem rds_ext {m m1 : Mp} {h h1 : Hv} {H H1 : Hp} {x : List D} {u : List V} (y : Ext m h H m1 h1 H1) (r : RDs c m h.n H x u) : RDs c m1 h1.n H1 x u := ⟨r.1.stay y.stay r.2, D.bels_mono y.n r.2⟩
theorem tof_e2 (ho : Op2 c op r) (q : tOf c (e2 op ma mb) σ H Q) : tOp r (tOf c ma) (tOf c mb) σ H Q := by
  obtain ⟨m, h, l, R0, p⟩ := q
  refine ⟨m, h, l, R0, Post.mono (Post.bind (Rl := RD c) R0.hr p) fun x H1 ⟨m1, h1, d, y1, q1, r1, p1⟩ => ?_⟩
  refine ⟨m1, h1, l, R0.after y1 q1, Post.mono (Post.bind (Rl := RD c) q1 p1) fun y H2 ⟨m2, h2, e, y2, q2, r2, p2⟩ => ?_⟩
  exact ho σ m2 h2 H2 d e x y Q q2 (rd_ext y2 r1) r2 p2
theorem tof_e1 {op : Hv → D → Res D} {r : V → Hp → VK → Prop} (ho : Op1 c op r) (q : tOf c (e1 op ma) σ H Q) : tUn r (tOf c ma) σ H Q := by
  obtain ⟨m, h, l, R0, p⟩ := q
  refine ⟨m, h, l, R0, Post.mono (Post.bind (Rl := RD c) R0.hr p) fun x H1 ⟨m1, h1, d, y1, q1, r1, p1⟩ => ?_⟩
  exact ho σ m1 h1 H1 d x Q q1 r1 p1
end
section
variable {X : Cx} {c : Cn} {a b e : Expr} {es : List Expr} {pos : Pos} {ma mb mc : E} {me : EA} {op op' : Hv → D → D → Res D} {r r' : R2}
theorem pv_bin {o : Operator} (hr : OpR X (binaryOp o) r) (ho : Op2 c op r) (ha : PE X a (tOf c ma)) (hb : PE X b (tOf c mb)) : PE X (.BinOp a o b pos) (tOf c (e2 op ma mb)) :=
  PE.mono (pe_op hr ha hb) fun σ H Q q => tof_e2 ho q
theorem pv_un {o : UnaryOp} {op : Hv → D → Res D} {r : V → Hp → VK → Prop} (hr : UnR X (unaryOp o) r) (ho : Op1 c op r) (ha : PE X a (tOf c ma)) : PE X (.UnaryOp o a pos) (tOf c (e1 op ma)) :=
  PE.mono (pe_un hr ha) fun σ H Q q => tof_e1 ho q
theorem pv_cmp {o : CmpOp} (hr : OpR X (compareOp o) r) (ho : Op2 c op r) (ha : PE X a (tOf c ma)) (hb : PE X b (tOf c mb)) (hm : behindInMarks o b = false) : PE X (.Compare a [o] [b] pos) (tOf c (e2 op ma mb)) :=
  PE.mono (pe_cmpR hr ha hb hm) fun σ H Q q => tof_e2 ho q
theorem tof_tB {t : TE} {σ : L2.St} {H : Hp} {Q : Bool → Hp → Prop} (w : ∀ Q', tOf c ma σ H Q' → t σ H Q') (q : tOfT c (tB ma) σ H Q) : tTest t σ H Q := by
  obtain ⟨m, h, l, R0, p⟩ := q
  refine w _ ⟨m, h, l, R0, Post.mono (Post.bind (Rl := RD c) R0.hr p) fun x H1 ⟨m1, h1, d, y1, q1, r1, p1⟩ => ?_⟩
  cases d with
  | bl k =>
    have hx : x = .bl k := r1.1
    exact ⟨k, hx, Post.here q1 p1 rfl⟩
  | _ => exact p1.elim
theorem pt_cmpv {o : CmpOp} (hr : OpR X (compareOp o) r) (ho : Op2 c op r) (ha : PE X a (tOf c ma)) (hb : PE X b (tOf c mb)) (hm : behindInMarks o b = false) : PT X (.Compare a [o] [b] pos) (tOfT c (tB (e2 op ma mb))) :=
  PT.mono (pt_cmpR hr ha hb hm) fun σ H Q q => tof_tB (fun Q' z => tof_e2 ho z) q
/-- a value that is a bool, as a test -/
theorem pt_valv (h : PE X e (tOf c ma)) (he : ∀ whole, isTrue e X.env whole = (do let v ← whole; standAt e.pos; holding [v] (truthy v))) : PT X e (tOfT c (tB ma)) :=
  PT.mono (pt_val h he) fun σ H Q q => tof_tB (fun Q' z => z) q
/-- a value's truth -/
theorem pt_truv {op : Hv → D → Res Bool} (ho : OpT c op fun x H Q => ∃ k, TruV X.K x H k ∧ Q k H) (h : PE X e (tOf c ma)) (he : ∀ whole, isTrue e X.env whole = (do let v ← whole; standAt e.pos; holding [v] (truthy v))) : PT X e (tOfT c (tE op ma)) :=
  PT.mono (pt_truth h he) fun σ H Q q => by
    obtain ⟨m, h, l, R0, p⟩ := q
    refine ⟨m, h, l, R0, Post.mono (Post.bind (Rl := RD c) R0.hr p) fun x H1 ⟨m1, h1, d, y1, q1, r1, p1⟩ => ?_⟩
    exact ho σ m1 h1 H1 d x Q q1 r1 p1
variable {ta tb : TT}
theorem pt_notv (h : PT X e (tOfT c ta)) : PT X (.UnaryOp .Not e pos) (tOfT c (tNot ta)) :=
  PT.mono (pt_not h) fun σ H Q q => by
    obtain ⟨m, h, l, R0, p⟩ := q
    refine ⟨m, h, l, R0, Post.mono (Post.bind (Rl := RB) R0.hr p) fun x H1 ⟨m1, h1, d, y1, q1, r1, p1⟩ => ?_⟩
    have r1' : d = x := r1
    subst r1'
    exact Post.here q1 p1 rfl
theorem pw_andv {rest : List Expr} (ha : PT X a (tOfT c ta)) (hb : PW X (.BoolOp .And (b :: rest) pos) (tOfT c tb)) : PW X (.BoolOp .And (a :: b :: rest) pos) (tOfT c (Ev.tAnd ta tb)) :=
  PW.mono (pw_and ha hb) fun σ H Q q => by
    obtain ⟨m, h, l, R0, p⟩ := q
    refine ⟨m, h, l, R0, Post.mono (Post.bind (Rl := RB) R0.hr p) fun x H1 ⟨m1, h1, d, y1, q1, r1, p1⟩ => ?_⟩
    have r1' : d = x := r1
    subst r1'
    cases d with
    | true => exact iteT ⟨m1, h1, l, R0.after y1 q1, p1⟩
    | false => exact iteF (Post.here q1 p1 rfl)
theorem pw_orv {rest : List Expr} (ha : PT X a (tOfT c ta)) (hb : PW X (.BoolOp .Or (b :: rest) pos) (tOfT c tb)) : PW X (.BoolOp .Or (a :: b :: rest) pos) (tOfT c (Ev.tOr ta tb)) :=
  PW.mono (pw_or ha hb) fun σ H Q q => by
    obtain ⟨m, h, l, R0, p⟩ := q
    refine ⟨m, h, l, R0, Post.mono (Post.bind (Rl := RB) R0.hr p) fun x H1 ⟨m1, h1, d, y1, q1, r1, p1⟩ => ?_⟩
    have r1' : d = x := r1
    subst r1'
    cases d with
    | true => exact iteT (Post.here q1 p1 rfl)
    | false => exact iteF ⟨m1, h1, l, R0.after y1 q1, p1⟩
theorem pv_if {t : Expr} (ht : PT X t (tOfT c ta)) (ha : PE X a (tOf c ma)) (hb : PE X b (tOf c mb)) : PE X (.IfExp t a b pos) (tOf c (eIf ta ma mb)) :=
  PE.mono (pe_ifExp ht ha hb) fun σ H Q q => by
    obtain ⟨m, h, l, R0, p⟩ := q
    refine ⟨m, h, l, R0, Post.mono (Post.bind (Rl := RB) R0.hr p) fun x H1 ⟨m1, h1, d, y1, q1, r1, p1⟩ => ?_⟩
    have r1' : d = x := r1
    subst r1'
    cases d with
    | true => exact iteT ⟨m1, h1, l, R0.after y1 q1, p1⟩
    | false => exact iteF ⟨m1, h1, l, R0.after y1 q1, p1⟩
/-! ### arguments -/
theorem av_nil : PA X [] (tOfA c aNil) := PA.mono pa_nil fun σ H Q ⟨m, h, l, R0, p⟩ => Post.here R0.hr p ⟨RelDs.nil, rfl⟩
theorem av_cons (ha : PE X e (tOf c ma)) (hr : PA X es (tOfA c me)) (hs : starEach (e :: es) X.env = (false, eval e X.env) :: starEach es X.env) : PA X (e :: es) (tOfA c (aCons ma me)) :=
  PA.mono (pa_cons ha hr hs) fun σ H Q q => by
    obtain ⟨m, h, l, R0, p⟩ := q
    refine ⟨m, h, l, R0, Post.mono (Post.bind (Rl := RD c) R0.hr p) fun x H1 ⟨m1, h1, d, y1, q1, r1, p1⟩ => ?_⟩
    refine ⟨m1, h1, l, R0.after y1 q1, Post.mono (Post.bind (Rl := RDs c) q1 p1) fun xs H2 ⟨m2, h2, ds, y2, q2, r2, p2⟩ => ?_⟩
    have r3 := rd_ext y2 r1
    exact Post.here q2 p2 ⟨RelDs.cons r3.1 r2.1, Bool.and_eq_true_iff.mpr ⟨r3.2, r2.2⟩⟩
/-- displays -/
def oTup (h : Hv) (xs : List D) : Res D := if szOk xs.length = true then .ok (.tup xs) h else .stuck
def oLst (h : Hv) (xs : List D) : Res D := if szOk xs.length = true then .ok (.fl xs) h else .stuck
theorem szOk_le {n : Nat} (h : szOk n = true) : n ≤ sizeLine := by
  have h1 : n ≤ 100000 := Nat.le_of_ble_eq_true h
  rw [sizeLine_eq]; omega
theorem pv_tup {k : Nat} (h : PA X es (tOfA c me)) : PE X (.Tuple es k pos) (tOf c (eA oTup me)) :=
  PE.mono (pe_tup h) fun σ H Q q => by
    obtain ⟨m, h, l, R0, p⟩ := q
    refine ⟨m, h, l, R0, Post.mono (Post.bind (Rl := RDs c) R0.hr p) fun xs H1 ⟨m1, h1, ds, y1, q1, r1, p1⟩ => ?_⟩
    obtain ⟨hz, p2⟩ := Post.cond p1
    exact ⟨by rw [r1.1.length]; exact szOk_le hz, fun a ha => Post.newT q1 p2 r1 ha⟩
theorem pn_lst (h : PA X es (tOfA c me)) : PE X (.List es pos) (tNew c (eA oLst me)) :=
  PE.mono (pe_lst h) fun σ H Q q => by
    obtain ⟨m, h, l, R0, p⟩ := q
    refine ⟨m, h, l, R0, Post.mono (PostN.bind (Rl := RDs c) R0.hr p) fun xs H1 ⟨m1, h1, ds, y1, q1, r1, p1⟩ => ?_⟩
    obtain ⟨hz, p2⟩ := PostN.cond p1
    exact ⟨by rw [r1.1.length]; exact szOk_le hz, fun a ha => PostN.put q1 p2 r1 ha⟩
/-- a built-in called by name -/
theorem tof_eA {op : Hv → List D → Res D} {r : List V → Hp → VK → Prop} (ho : OpN c op r) {σ : L2.St} {H : Hp} {Q : VK} (q : tOf c (eA op me) σ H Q) : tCB r (tOfA c me) σ H Q := by
  obtain ⟨m, h, l, R0, p⟩ := q
  refine ⟨m, h, l, R0, Post.mono (Post.bind (Rl := RDs c) R0.hr p) fun xs H1 ⟨m1, h1, ds, y1, q1, r1, p1⟩ => ?_⟩
  exact ho σ m1 h1 H1 ds xs Q q1 r1 p1
end
end Ev

set_option Elab.async false
set_option linter.all false
set_option maxRecDepth 100000
set_option maxHeartbeats 2000000
/-! Ev3: statements, what is walked, loops. -/
namespace Ev
open PySem PySem.Spec PyProof.Rows L2

section
variable (c : Cn)
def PostF (D : Ends) (m : Mp) (h : Hv) (H : Hp) : Flow → Prop
  | .nx l => ∀ σ, R c.K c.cad m h l σ H → D.nx σ H
  | .rt d => ∀ v, HR c.K c.cad m h H → RD c m h.n H d v → D.rt v H
  | .bk l => ∀ σ, R c.K c.cad m h l σ H → D.bk σ H
  | .ct l => ∀ σ, R c.K c.cad m h l σ H → D.ct σ H
  | .ex x l => ∀ σ, R c.K c.cad m h l σ H → c.W (.ref (c.cad x)) none σ H
def PostS (D : Ends) (m : Mp) (h : Hv) (H : Hp) (r : SR) : Prop :=
  match r with
  | .mk f h' => ∀ m' H', Ext m h H m' h' H' → PostF c D m' h' H' f
  | .stuck => False
def tOfS (s : S) : TS := fun D σ H => ∃ m h l, R c.K c.cad m h l σ H ∧ PostS c D m h H (s l h)
end
section
variable {c : Cn} {α β : Type} {Rl : Mp → Nat → Hp → α → β → Prop} {σ : L2.St} {m m1 : Mp} {h h1 : Hv} {H H1 : Hp} {D D' : Ends} {l : Loc}
theorem PostS.ext {r : SR} (q : HR c.K c.cad m h H) (x : Ext m h H m1 h1 H1) (p : PostS c D m h H r) : PostS c D m1 h1 H1 r := by
  cases r with
  | mk f h2 => exact fun m' H' y => p m' H' (Ext.trans q.lim x y)
  | stuck => exact p
theorem PostS.here {f : Flow} (p : PostS c D m h H (.mk f h)) : PostF c D m h H f := p m H (Ext.refl m h H)
/-- an expression first -/
theorem PostS.toS {r : Res α} {f : α → Hv → SR} (q : R c.K c.cad m h l σ H) (p : PostS c D m h H (r.toS l f)) :
    Post c Rl σ m h H r fun b H1 => Aft c Rl m h H (fun m1 h1 H1 a => PostS c D m1 h1 H1 (f a h1)) b H1 := by
  cases r with
  | ok a h2 => exact fun m' H' b y z w => ⟨m', h2, a, y, z, w, PostS.ext q.hr y p⟩
  | exc k h2 => exact fun m' H' y z => p m' H' y σ (q.after y z)
  | stuck => exact p
theorem PostS.imp {r : SR} (p : PostS c D m h H r) (nx : ∀ m h l σ H, R c.K c.cad m h l σ H → D.nx σ H → D'.nx σ H) (rt : ∀ v H, D.rt v H → D'.rt v H) (bk : ∀ σ H, D.bk σ H → D'.bk σ H) (ct : ∀ σ H, D.ct σ H → D'.ct σ H) : PostS c D' m h H r := by
  cases r with
  | stuck => exact p
  | mk f h2 =>
    intro m' H' y
    have p' := p m' H' y
    cases f with
    | nx l => exact fun σ q => nx _ _ _ _ _ q (p' σ q)
    | rt d => exact fun v q z => rt _ _ (p' v q z)
    | bk l => exact fun σ q => bk _ _ (p' σ q)
    | ct l => exact fun σ q => ct _ _ (p' σ q)
    | ex x l => exact p'
end

section
variable {X : Cx} {c : Cn} {a b e : Expr} {st : Stmt} {rest : List Stmt} {pos : Pos} {ma mb : E} {ta : TT} {sa sb : S}
theorem sv_nil : PSs X [] (tOfS c sNil) := PSs.mono pss_nil fun D σ H ⟨m, h, l, q, p⟩ => PostS.here p σ q
theorem sv_cons (h1 : PS X st (tOfS c sa)) (h2 : PSs X rest (tOfS c sb)) : PSs X (st :: rest) (tOfS c (sSeq sa sb)) :=
  PSs.mono (pss_cons h1 h2) fun D σ H ⟨m, h, l, q, p⟩ => by
    refine ⟨m, h, l, q, ?_⟩
    unfold sSeq at p
    cases e : sa l h with
    | stuck => rw [e] at p; exact p
    | mk f h1 =>
      rw [e] at p
      cases f with
      | nx l1 => exact fun m' H' y σ' q' => ⟨m', h1, l1, q', PostS.ext q.hr y p⟩
      | rt d => exact p
      | bk l1 => exact p
      | ct l1 => exact p
      | ex x l1 => exact p
theorem sv_pass : PS X (.Pass pos) (tOfS c sNil) := PS.mono ps_pass fun D σ H ⟨m, h, l, q, p⟩ => PostS.here p σ q
theorem sv_break : PS X (.Break pos) (tOfS c sBrk) := PS.mono ps_break fun D σ H ⟨m, h, l, q, p⟩ => PostS.here p σ q
theorem sv_continue : PS X (.Continue pos) (tOfS c sCont) := PS.mono ps_continue fun D σ H ⟨m, h, l, q, p⟩ => PostS.here p σ q
theorem sv_expr (he : PE X e (tOf c ma)) (hs : swapsWith e none pos.line X.env = pure false) : PS X (.Expr e pos) (tOfS c (sExpr ma)) :=
  PS.mono (ps_expr he hs) fun D σ H ⟨m, h, l, q, p⟩ =>
    ⟨m, h, l, q, Post.mono (PostS.toS (Rl := RD c) q p) fun v H1 ⟨m1, h1, d, y1, q1, r1, p1⟩ => PostS.here p1 σ (q.after y1 q1)⟩
theorem sv_ret (he : PE X e (tOf c ma)) : PS X (.Return (some e) pos) (tOfS c (sRet ma)) :=
  PS.mono (ps_ret he) fun D σ H ⟨m, h, l, q, p⟩ =>
    ⟨m, h, l, q, Post.mono (PostS.toS (Rl := RD c) q p) fun v H1 ⟨m1, h1, d, y1, q1, r1, p1⟩ => PostS.here p1 v q1 r1⟩
theorem sv_retN : PS X (.Return none pos) (tOfS c sRetN) := PS.mono ps_retN fun D σ H ⟨m, h, l, q, p⟩ => PostS.here p .non q.hr ⟨rfl, rfl⟩
theorem sv_if {xs ys : List Stmt} (ht : PT X e (tOfT c ta)) (ha : PSs X xs (tOfS c sa)) (hb : PSs X ys (tOfS c sb)) : PS X (.If e xs ys pos) (tOfS c (sIf ta sa sb)) :=
  PS.mono (ps_if ht ha hb) fun D σ H ⟨m, h, l, q, p⟩ =>
    ⟨m, h, l, q, Post.mono (PostS.toS (Rl := RB) q p) fun b H1 ⟨m1, h1, d, y1, q1, r1, p1⟩ => by
      have r1' : d = b := r1
      subst r1'
      cases d with
      | true => exact iteT ⟨m1, h1, l, q.after y1 q1, p1⟩
      | false => exact iteF ⟨m1, h1, l, q.after y1 q1, p1⟩⟩
end

/-! ### targets -/
def TgOk (c : Cn) (gv : G) (g : TG) : Prop := ∀ m h H l σ d v l' (Q : L2.St → Hp → Prop), R c.K c.cad m h l σ H → RD c m h.n H d v → gv d l = some l' → (∀ σ', R c.K c.cad m h l' σ' H → Q σ' H) → g v σ H Q
section
variable {c : Cn} {m : Mp} {h : Hv} {H : Hp} {l : Loc} {σ : L2.St}
theorem LR.set {n : Nat} {d : D} {v : V} (i : Nat) (q : LR c.K c.cad m n H l σ) (r : RD c m n H d v) : LR c.K c.cad m n H (l.set i d) (σ.set i (some v)) := by
  refine ⟨by rw [List.length_set, List.length_set]; exact q.len, fun j x e ne => ?_, fun j x e => ?_⟩
  · by_cases hj : i = j
    · subst hj
      by_cases hi : i < l.length
      · rw [List.getElem?_set_self hi] at e
        cases e
        exact ⟨v, List.getElem?_set_self (by rw [← q.len]; exact hi), r.1⟩
      · rw [List.getElem?_eq_none (by simpa using hi)] at e; cases e
    · rw [List.getElem?_set_ne hj] at e ⊢
      exact q.at_ j x e ne
  · by_cases hj : i = j
    · subst hj
      by_cases hi : i < l.length
      · rw [List.getElem?_set_self hi] at e
        cases e
        exact r.2
      · rw [List.getElem?_eq_none (by simpa using hi)] at e; cases e
    · rw [List.getElem?_set_ne hj] at e
      exact q.bel j x e
theorem LR.unset {n : Nat} (i : Nat) (q : LR c.K c.cad m n H l σ) : LR c.K c.cad m n H (l.set i .unset) (σ.set i none) := by
  refine ⟨by rw [List.length_set, List.length_set]; exact q.len, fun j x e ne => ?_, fun j x e => ?_⟩
  · by_cases hj : i = j
    · subst hj
      by_cases hi : i < l.length
      · rw [List.getElem?_set_self hi] at e
        cases e
        exact absurd rfl ne
      · rw [List.getElem?_eq_none (by simpa using hi)] at e; cases e
    · rw [List.getElem?_set_ne hj] at e ⊢
      exact q.at_ j x e ne
  · by_cases hj : i = j
    · subst hj
      by_cases hi : i < l.length
      · rw [List.getElem?_set_self hi] at e
        cases e
        rfl
      · rw [List.getElem?_eq_none (by simpa using hi)] at e; cases e
    · rw [List.getElem?_set_ne hj] at e
      exact q.bel j x e
theorem R.set {d : D} {v : V} (i : Nat) (q : R c.K c.cad m h l σ H) (r : RD c m h.n H d v) : R c.K c.cad m h (l.set i d) (σ.set i (some v)) H := ⟨q.hr, q.lr.set i r⟩
theorem LR.wipe {n : Nat} (q : LR c.K c.cad m n H l σ) : ∀ vs, LR c.K c.cad m n H (wipeL l vs) (wipe σ vs)
  | [] => q
  | v :: vs => (LR.wipe q vs).unset v
theorem tg_name {i : Nat} : TgOk c (gN i) (gName i) := fun m h H l σ d v l' Q q r e w => by
  cases e
  exact w _ (q.set i r)
end
/-- stores into slots, one after another -/
def gSets : List Nat → TGs
  | [] => gNil
  | i :: is => gCons (gName i) (gSets is)
def setAll : List Nat → List D → Loc → Loc
  | i :: is, d :: ds, l => setAll is ds (l.set i d)
  | _, _, l => l
theorem foldl_setAll : ∀ (is : List Nat) (ds : List D) (l : Loc), (is.zip ds).foldl (fun l p => l.set p.1 p.2) l = setAll is ds l
  | [], _, _ => by simp [setAll]
  | _ :: _, [], _ => by simp [setAll]
  | i :: is, d :: ds, l => by
    show (is.zip ds).foldl _ (l.set i d) = setAll is ds (l.set i d)
    exact foldl_setAll is ds _
theorem sets_ok {c : Cn} {m : Mp} {h : Hv} {H : Hp} {Q : L2.St → Hp → Prop} : ∀ (is : List Nat) (ds : List D) (vs : List V) (l : Loc) (σ : L2.St), R c.K c.cad m h l σ H → RDs c m h.n H ds vs → ds.length = is.length →
    (∀ σ', R c.K c.cad m h (setAll is ds l) σ' H → Q σ' H) → gSets is vs σ H Q
  | [], [], _, l, σ, q, r, _, w => by
    have r1 := r.1
    unfold RelDs at r1
    exact ⟨r1, w σ q⟩
  | [], _ :: _, _, _, _, _, _, e, _ => by cases e
  | _ :: _, [], _, _, _, _, _, e, _ => by cases e
  | i :: is, d :: ds, _, l, σ, q, r, e, w => by
    obtain ⟨r1, r2⟩ := r
    unfold RelDs at r1
    obtain ⟨v, vs, e1, h1, h2⟩ := r1
    have b := Bool.and_eq_true_iff.mp r2
    exact ⟨v, vs, e1, sets_ok is ds vs (l.set i d) _ (q.set i ⟨h1, b.1⟩) ⟨h2, b.2⟩ (by simpa using e) w⟩
theorem tg_tup {c : Cn} {is : List Nat} {n : Nat} (hn : n = is.length) : TgOk c (Ev.gTup is) (L2.gTup c.K n (gSets is)) := fun m h H l σ d v l' Q q r e w => by
  subst hn
  cases d with
  | tup xs =>
    have e : (if Nat.beq xs.length is.length = true then some ((is.zip xs).foldl (fun l p => l.set p.1 p.2) l) else none) = some l' := e
    by_cases hz : Nat.beq xs.length is.length = true
    · rw [if_pos hz] at e
      obtain ⟨r1, r2⟩ := r
      unfold RelD at r1
      obtain ⟨a, vs, e1, hf, hs⟩ := r1
      have hl : xs.length = is.length := Nat.eq_of_beq_eq_true hz
      refine ⟨a, vs, e1, hf.sq, by rw [hs.length]; exact hl, sets_ok is xs vs l σ q ⟨hs, r2⟩ hl fun σ' q' => w σ' ?_⟩
      rw [foldl_setAll] at e
      cases e
      exact q'
    · rw [if_neg hz] at e
      cases e
  | _ => cases e
section
variable {X : Cx} {c : Cn} {e tg : Expr} {pos : Pos} {ma : E} {gv : G} {g : TG}
theorem sv_asg (he : PE X e (tOf c ma)) (hg : PG X tg g) (ok : TgOk c gv g) (hs : swapsWithSole [tg] e pos.line X.env = pure false) (hw : swappedStores [tg] e X.env = pure none)
    (h1 : (assignEach [tg] X.env).map (·.2) = [assign tg X.env]) : PS X (.Assign [tg] e pos) (tOfS c (sSet gv ma)) :=
  PS.mono (ps_asg he hg hs hw h1) fun D σ H ⟨m, h, l, q, p⟩ =>
    ⟨m, h, l, q, Post.mono (PostS.toS (Rl := RD c) q p) fun v H1 ⟨m1, h1, d, y1, q1, r1, p1⟩ => by
      dsimp only at p1
      cases e : gv d l with
      | none => rw [e] at p1; exact p1.elim
      | some l' =>
        rw [e] at p1
        exact ok m1 h1 H1 l σ d v l' D.nx (q.after y1 q1) r1 e fun σ' q' => PostS.here p1 σ' q'⟩
end

/-! ### what is walked -/
/-- J walks the items ds, from (m, n, H) on, as long as what is known stays -/
def RW (c : Cn) (m : Mp) (n : Nat) (H : Hp) (ds : List D) (J : It) : Prop :=
  D.bels n ds = true ∧ ∀ i m' h' H', Stay m n H m' h'.n H' → n ≤ h'.n → HR c.K c.cad m' h' H' →
    (∀ d, ds[i]? = some d → J.go i H' ∧ ∀ x H2, J.yld i H' x H2 → Ext m' h' H' m' h' H2 ∧ HR c.K c.cad m' h' H2 ∧ RD c m' h'.n H2 d x) ∧ (ds[i]? = none → J.stop i H')
def tOfI (c : Cn) (it : II) : TI := fun σ H Rq => ∃ m h l, R c.K c.cad m h l σ H ∧ Post c (RW c) σ m h H (it l h) Rq
theorem PI.mono {X : Cx} {tg e : Expr} {t t' : TI} (p : PI X tg e t) (w : ∀ σ H Q, t' σ H Q → t σ H Q) : PI X tg e t' := ⟨fun pins s σ H Q I h => p.run pins s σ H Q I (w σ H Q h)⟩
/-- a list or a tuple -/
def iSeq (K : PySem.W.Frag) (tl : TE) : TI := fun σ H R => tl σ H fun x H1 => ∃ a, x = .ref a ∧ (((∃ xs, SqL K H1 a xs) ∧ R (Itl K a) H1) ∨ ((∃ xs, SqT K H1 a xs) ∧ R (Itt K a) H1))
theorem pi_seq {X : Cx} {tg l : Expr} {tl : TE} (hl : PE X l tl) : PI X tg l (iSeq X.K tl) := by
  refine ⟨fun pins s σ H R I h => ?_⟩
  refine thn (hl.run pins s σ H _ I h) fun v s1 ⟨x, H1, I1, r1, q1⟩ => ?_
  obtain ⟨a, e, q1⟩ := q1
  subst e
  cases r1
  have fin : ∀ b ∈ [s1.heap.objs.size], ∀ {h' : Heap}, FpOk X pins H1 b := fun b hb {_} => by
    have e : b = s1.heap.objs.size := by simpa using hb
    subst e
    exact I1.fpOk (Nat.le_refl _) (I1.hok.fresh (Nat.le_refl _))
  rcases q1 with ⟨⟨xs, hq⟩, q⟩ | ⟨⟨xs, hq⟩, q⟩
  · obtain ⟨its, rv, p, hz⟩ := I1.list hq
    refine wpAny_pyIter_list p.isList ?_
    exact ⟨s1.heap.objs.size, [s1.heap.objs.size], _, _, H1, rfl, I1.kept (t' := s1.toks) fun b o e => Heap.get?_push_of_some _ e, turn_list a _, ⟨_, Heap.get?_push_size _ rfl, rfl, rfl⟩, fun b hb => fin b hb (h' := s1.heap), q⟩
  · obtain ⟨its, rv, p, hz⟩ := I1.tuple hq
    refine wpAny_pyIter_tuple (show s1.heap.IsTuple a its.toArray from p) ?_
    exact ⟨s1.heap.objs.size, [s1.heap.objs.size], _, _, H1, rfl, I1.kept (t' := s1.toks) fun b o e => Heap.get?_push_of_some _ e, turn_tuple a _, ⟨_, Heap.get?_push_size _ rfl, rfl, rfl⟩, fun b hb => fin b hb (h' := s1.heap), q⟩
section
variable {c : Cn} {m : Mp} {n : Nat} {H : Hp} {a : Addr} {ds : List D} {vs : List V}
theorem none_of {i : Nat} (r : RelDs c.K c.cad m n H ds vs) (e : ds[i]? = none) : vs.length ≤ i := by
  rw [r.length]
  exact List.getElem?_eq_none_iff.mp e
theorem rw_list (f : FL m n H a vs) (r : RDs c m n H ds vs) : RW c m n H ds (Itl c.K a) := by
  refine ⟨r.2, fun i m' h' H' x hn q => ⟨fun d e => ?_, fun e => ⟨vs, (x.fl f).sq, none_of r.1 e⟩⟩⟩
  obtain ⟨v, e1, r1⟩ := r.1.get e
  refine ⟨⟨vs, v, (x.fl f).sq, e1⟩, fun y H2 ⟨e2, hy⟩ => ?_⟩
  subst e2
  have ey := hy vs (x.fl f).sq
  rw [e1] at ey
  cases ey
  exact ⟨Ext.refl _ _ _, q, r1.stay x (bels_get r.2 e), D.bel_mono hn (bels_get r.2 e)⟩
theorem rw_tup (f : FT m n H a vs) (r : RDs c m n H ds vs) : RW c m n H ds (Itt c.K a) := by
  refine ⟨r.2, fun i m' h' H' x hn q => ⟨fun d e => ?_, fun e => ⟨vs, (x.ft f).sq, none_of r.1 e⟩⟩⟩
  obtain ⟨v, e1, r1⟩ := r.1.get e
  refine ⟨⟨vs, v, (x.ft f).sq, e1⟩, fun y H2 ⟨e2, hy⟩ => ?_⟩
  subst e2
  have ey := hy vs (x.ft f).sq
  rw [e1] at ey
  cases ey
  exact ⟨Ext.refl _ _ _, q, r1.stay x (bels_get r.2 e), D.bel_mono hn (bels_get r.2 e)⟩
theorem upFrom_get : ∀ (k : Nat) (lo : Int) (i : Nat), (upFrom lo k)[i]? = if i < k then some (.int (lo + i)) else none
  | 0, lo, i => by simp [upFrom]
  | k + 1, lo, 0 => by simp [upFrom]
  | k + 1, lo, i + 1 => by
    show (upFrom (lo + 1) k)[i]? = _
    rw [upFrom_get k (lo + 1) i]
    by_cases h : i < k
    · rw [if_pos h, if_pos (by omega)]
      congr 2
      push_cast
      omega
    · rw [if_neg h, if_neg (by omega)]
theorem upFrom_bels {n : Nat} : ∀ (k : Nat) (lo : Int), D.bels n (upFrom lo k) = true
  | 0, _ => rfl
  | k + 1, lo => by
    show (true && D.bels n (upFrom (lo + 1) k)) = true
    rw [upFrom_bels k]; rfl
theorem rw_rng {lo : Int} {k : Nat} : RW c m n H (upFrom lo k) (Itr lo k) := by
  refine ⟨upFrom_bels k lo, fun i m' h' H' x hn q => ⟨fun d e => ?_, fun e => ?_⟩⟩
  · rw [upFrom_get] at e
    split at e
    · rename_i hi
      cases e
      refine ⟨hi, fun y H2 ⟨e2, hy⟩ => ?_⟩
      subst e2
      exact ⟨Ext.refl _ _ _, q, hy, rfl⟩
    · cases e
  · rw [upFrom_get] at e
    split at e
    · cases e
    · rename_i hi
      exact Nat.le_of_not_lt hi
end
section
variable {X : Cx} {c : Cn} {e e2 tg : Expr} {ma mb : E} {p pos : Pos}
theorem iv_seq (hK : X.K = c.K) (h : PE X e (tOf c ma)) : PI X tg e (tOfI c (iE ma)) :=
  PI.mono (pi_seq h) fun σ H Q ⟨m, h, l, q, p⟩ =>
    ⟨m, h, l, q, Post.mono (Post.bind (Rl := RD c) q.hr p) fun v H1 ⟨m1, h1, d, y1, q1, r1, p1⟩ => by
      rw [hK]
      obtain ⟨r1, b1⟩ := r1
      cases d with
      | fl xs =>
        unfold RelD at r1
        obtain ⟨a, vs, e, f, rs⟩ := r1
        exact ⟨a, e, .inl ⟨⟨vs, f.sq⟩, Post.here (Rl := RW c) q1 p1 (rw_list f ⟨rs, b1⟩)⟩⟩
      | tup xs =>
        unfold RelD at r1
        obtain ⟨a, vs, e, f, rs⟩ := r1
        exact ⟨a, e, .inr ⟨⟨vs, f.sq⟩, Post.here (Rl := RW c) q1 p1 (rw_tup f ⟨rs, b1⟩)⟩⟩
      | _ => exact p1.elim⟩
theorem rngOk_of {i : Int} (h : rngOk i = true) : -(2 ^ 62) ≤ i ∧ i < 2 ^ 62 := by
  unfold rngOk at h
  have := Bool.and_eq_true_iff.mp h
  exact ⟨by simpa using this.1, by simpa using this.2⟩
theorem iv_r1 (hg : Gl X "range") (hm : X.mg "range" = none) (he : PE X e (tOf c ma)) (hs : starEach [e] X.env = [(false, eval e X.env)]) : PI X tg (.Call (.Name "range" p) [e] [] pos) (tOfI c (iR1 ma)) :=
  PI.mono (pi_range1 (ta := tOfA c (aCons ma aNil)) hg hm (av_cons he av_nil (by rw [hs]; rfl)) hs) fun σ H Q ⟨m, h, l, q, p⟩ => by
    refine ⟨m, h, l, q, ?_⟩
    unfold iR1 at p
    unfold aCons
    have p2 := Post.bind (Rl := RD c) q.hr p
    cases e0 : ma l h with
    | stuck => rw [e0] at p2; exact p2.elim
    | exc k h1 => rw [e0] at p2; exact p2
    | ok d h1 =>
      rw [e0] at p
      cases d with
      | int j =>
        intro m' H' vs y z w
        have p3 : Post c (RW c) σ m h H (if rngOk j = true then .ok (upFrom 0 j.toNat) h1 else .stuck) Q := p
        obtain ⟨hj, p4⟩ := Post.cond p3
        obtain ⟨b1, b2⟩ := rngOk_of hj
        have w1 := w.1
        unfold RelDs at w1
        obtain ⟨v, r, e1, h1', h2'⟩ := w1
        unfold RelDs at h2'
        subst h2'
        have hv : v = .int j := h1'
        subst hv
        exact ⟨j, e1, b1, b2, p4 m' H' _ y z rw_rng⟩
      | _ => exact p.elim
theorem iv_r2 (hg : Gl X "range") (hm : X.mg "range" = none) (he : PE X e (tOf c ma)) (he2 : PE X e2 (tOf c mb)) (hs : starEach [e, e2] X.env = [(false, eval e X.env), (false, eval e2 X.env)]) (hs2 : starEach [e2] X.env = [(false, eval e2 X.env)]) :
    PI X tg (.Call (.Name "range" p) [e, e2] [] pos) (tOfI c (iR2 ma mb)) :=
  PI.mono (pi_range2 (ta := tOfA c (aCons ma (aCons mb aNil))) hg hm (av_cons he (av_cons he2 av_nil (by rw [hs2]; rfl)) (by rw [hs, hs2])) hs hs2) fun σ H Q ⟨m, h, l, q, p⟩ => by
    refine ⟨m, h, l, q, ?_⟩
    unfold iR2 at p
    unfold aCons
    cases e0 : ma l h with
    | stuck => rw [e0] at p; exact p
    | exc k h1 => rw [e0] at p; exact p
    | ok d h1 =>
      rw [e0] at p
      show Post c (RDs c) σ m h H (((mb l h1).bind fun x h => (aNil l h).bind fun xs h => .ok (x :: xs) h).bind fun xs h => .ok (d :: xs) h) _
      have p : Post c (RW c) σ m h H ((mb l h1).bind fun y h => rng2 d y h) Q := p
      cases e3 : mb l h1 with
      | stuck => rw [e3] at p; exact p
      | exc k h2 => rw [e3] at p; exact p
      | ok d2 h2 =>
        rw [e3] at p
        cases d with
        | int i =>
          cases d2 with
          | int j =>
            intro m' H' vs y z w
            have p3 : Post c (RW c) σ m h H (if (rngOk i && rngOk j) = true then .ok (upFrom i (j - i).toNat) h2 else .stuck) Q := p
            obtain ⟨hj, p4⟩ := Post.cond p3
            have hij := Bool.and_eq_true_iff.mp hj
            obtain ⟨b1, b2⟩ := rngOk_of hij.1
            obtain ⟨b3, b4⟩ := rngOk_of hij.2
            have w1 := w.1
            unfold RelDs at w1
            obtain ⟨v, r, e1, h1', h2'⟩ := w1
            unfold RelDs at h2'
            obtain ⟨v2, r2, e2', h3', h4'⟩ := h2'
            unfold RelDs at h4'
            subst h4' e2'
            have hv : v = .int i := h1'
            have hv2 : v2 = .int j := h3'
            subst hv hv2
            exact ⟨i, j, e1, ⟨b1, b2, b3, b4⟩, p4 m' H' _ y z rw_rng⟩
          | _ => exact p.elim
        | _ => cases d2 <;> exact p.elim
end

/-! ### for -/
section
variable {X : Cx} {c : Cn} {iter tg : Expr} {body : List Stmt} {it : II} {gv : G} {g : TG} {sb : S} {pos : Pos}
theorem sv_for (hp : PassesOwn (model X.prog X.w) X.A X.env X.xe) (hc : X.calm = true) (hi : PI X tg iter (tOfI c it)) (hg : PG X tg g) (ok : TgOk c gv g) (hb : PSs X body (tOfS c sb)) (hs : ∀ x, foldedSetIterable iter X.env x = pure x) :
    PS X (.For tg iter body [] pos) (tOfS c (sFor it gv sb)) :=
  PS.mono (ps_for hp hc hi hg hb hs) fun D σ H ⟨m, h, l, q, p⟩ => by
    refine ⟨m, h, l, q, Post.mono (PostS.toS (Rl := RW c) q p) fun J H1 ⟨m1, h1, ds, y1, q1, r1, p1⟩ => ?_⟩
    refine ⟨fun i k σ H => ∃ m h l, Ext m1 h1 H1 m h H ∧ R c.K c.cad m h l σ H ∧ PostS c D m h H (forGo gv sb (ds.drop i) l h) ∧ k = ds.length - i, ⟨_, m1, h1, l, Ext.refl _ _ _, q.after y1 q1, p1, rfl⟩, ?_⟩
    rintro i k σ H ⟨m, h, l, x, q, p, rfl⟩
    have walk := r1.2 i m h H x.stay x.n q.hr
    cases e : ds[i]? with
    | none =>
      have e2 : ds.drop i = [] := List.drop_eq_nil_of_le (List.getElem?_eq_none_iff.mp e)
      rw [e2] at p
      exact .inl ⟨walk.2 e, PostS.here p σ q⟩
    | some d =>
      obtain ⟨go, yl⟩ := walk.1 d e
      have hi : i < ds.length := (List.getElem?_eq_some_iff.mp e).1
      have e2 : ds.drop i = d :: ds.drop (i + 1) := by
        rw [List.drop_eq_getElem_cons hi]
        congr 1
        exact (List.getElem?_eq_some_iff.mp e).2
      rw [e2] at p
      refine .inr ⟨go, fun σ' H' => ∃ m h l, Ext m1 h1 H1 m h H' ∧ R c.K c.cad m h l σ' H' ∧ PostS c D m h H' (forGo gv sb (ds.drop (i + 1)) l h), fun σ' H' ⟨m', h', l', a, b, d⟩ => ⟨ds.length - (i + 1), by omega, m', h', l', a, b, d, rfl⟩, fun v H2 hy => ?_⟩
      obtain ⟨x2, q2, r2⟩ := yl v H2 hy
      unfold forGo at p
      cases eg : gv d l with
      | none => rw [eg] at p; exact p.elim
      | some l' =>
        rw [eg] at p
        dsimp only at p
        refine ok m h H2 l σ d v l' _ (q.after x2 q2) r2 eg fun σ' q3 => ⟨m, h, l', q3, ?_⟩
        have p := PostS.ext q.hr x2 p
        have xx := Ext.trans q1.lim x x2
        cases eb : sb l' h with
        | stuck => rw [eb] at p; exact p
        | mk f h4 =>
          rw [eb] at p
          cases f with
          | nx l4 => exact fun m' H' y σ4 q4 => ⟨m', h4, l4, Ext.trans q1.lim xx y, q4, PostS.ext q2 y p⟩
          | ct l4 => exact fun m' H' y σ4 q4 => ⟨m', h4, l4, Ext.trans q1.lim xx y, q4, PostS.ext q2 y p⟩
          | bk l4 => exact p
          | rt d4 => exact p
          | ex z l4 => exact p
theorem sv_while {e : Expr} {t : TT} (hp : PassesOwn (model X.prog X.w) X.A X.env X.xe) (ht : PT X e (tOfT c t)) (hb : PSs X body (tOfS c sb)) : PS X (.While e body [] pos) (tOfS c (sWhile t sb)) :=
  PS.mono (ps_while hp ht hb) fun D σ H ⟨m0, h0, l0, q0, p0⟩ => by
    refine ⟨fun k σ H => ∃ m h l, R c.K c.cad m h l σ H ∧ PostS c D m h H (whileGo t sb k l h), ⟨1000000, m0, h0, l0, q0, p0⟩, ?_⟩
    rintro k σ H ⟨m, h, l, q, p⟩
    cases k with
    | zero => exact p.elim
    | succ k =>
      refine ⟨m, h, l, q, Post.mono (PostS.toS (Rl := RB) q (show PostS c D m h H ((t l h).toS l _) from p)) fun b H1 ⟨m1, h1, d, y1, q1, r1, p1⟩ => ?_⟩
      have r1' : d = b := r1
      subst r1'
      cases d with
      | false => exact iteF (PostS.here p1 σ (q.after y1 q1))
      | true =>
        refine iteT ⟨fun σ' H' => ∃ m h l, R c.K c.cad m h l σ' H' ∧ PostS c D m h H' (whileGo t sb k l h), fun σ' H' ⟨m', h', l', b, d⟩ => ⟨k, Nat.lt_succ_self k, m', h', l', b, d⟩, ⟨m1, h1, l, q.after y1 q1, ?_⟩⟩
        have p1 : PostS c D m1 h1 H1 (match sb l h1 with
          | .mk (.nx l2) h2 => whileGo t sb k l2 h2
          | .mk (.ct l2) h2 => whileGo t sb k l2 h2
          | .mk (.bk l2) h2 => .mk (.nx l2) h2
          | r => r) := p1
        cases eb : sb l h1 with
        | stuck => rw [eb] at p1; exact p1
        | mk f h4 =>
          rw [eb] at p1
          cases f with
          | nx l4 => exact fun m' H' y σ4 q4 => ⟨m', h4, l4, q4, PostS.ext q1 y p1⟩
          | ct l4 => exact fun m' H' y σ4 q4 => ⟨m', h4, l4, q4, PostS.ext q1 y p1⟩
          | bk l4 => exact p1
          | rt d4 => exact p1
          | ex z l4 => exact p1
end
end Ev

set_option Elab.async false
set_option linter.all false
set_option maxRecDepth 100000
set_option maxHeartbeats 2000000
/-! Ev4: list comprehensions. -/
namespace Ev
open PySem PySem.Spec PyProof.Rows L2

theorem wipe_at {σ : L2.St} {j : Nat} : ∀ vs : List Nat, (wipe σ vs)[j]? = if j ∈ vs then (if j < σ.length then some none else none) else σ[j]?
  | [] => by simp [wipe]
  | v :: vs => by
    show ((wipe σ vs).set v none)[j]? = _
    by_cases hj : v = j
    · subst hj
      rw [if_pos List.mem_cons_self]
      by_cases hl : v < σ.length
      · rw [List.getElem?_set_self (by rw [wipe_length]; exact hl), if_pos hl]
      · rw [List.getElem?_eq_none (by rw [List.length_set, wipe_length]; omega), if_neg hl]
    · rw [List.getElem?_set_ne hj, wipe_at vs]
      by_cases hm : j ∈ vs
      · rw [if_pos hm, if_pos (List.mem_cons_of_mem _ hm)]
      · rw [if_neg hm, if_neg (by simp only [List.mem_cons, not_or]; exact ⟨fun e => hj e.symm, hm⟩)]
theorem wipe_set {σ : L2.St} {i : Nat} {o : Option V} {vs : List Nat} (hi : i ∈ vs) : wipe (σ.set i o) vs = wipe σ vs := by
  apply List.ext_getElem?
  intro j
  rw [wipe_at, wipe_at, List.length_set]
  by_cases hj : j ∈ vs
  · rw [if_pos hj, if_pos hj]
  · rw [if_neg hj, if_neg hj, List.getElem?_set_ne (fun e : i = j => hj (e ▸ hi))]
theorem wipe_idem {σ : L2.St} {vs : List Nat} : wipe (wipe σ vs) vs = wipe σ vs := by
  apply List.ext_getElem?
  intro j
  rw [wipe_at, wipe_at, wipe_length]
  by_cases hj : j ∈ vs
  · rw [if_pos hj, if_pos hj]
  · rw [if_neg hj, if_neg hj]
def TgOkW (c : Cn) (gv : G) (g : TG) (vs : List Nat) : Prop := ∀ m h H l σ d v l' (Q : L2.St → Hp → Prop), R c.K c.cad m h l σ H → RD c m h.n H d v → gv d l = some l' → (∀ σ', R c.K c.cad m h l' σ' H → wipe σ' vs = wipe σ vs → Q σ' H) → g v σ H Q
theorem tgw_name {c : Cn} {i : Nat} {vs : List Nat} (hi : i ∈ vs) : TgOkW c (gN i) (gName i) vs := fun m h H l σ d v l' Q q r e w => by
  cases e
  exact w _ (q.set i r) (wipe_set hi)
theorem sets_okW {c : Cn} {m : Mp} {h : Hv} {H : Hp} {Q : L2.St → Hp → Prop} {ws : List Nat} : ∀ (is : List Nat) (ds : List D) (vs : List V) (l : Loc) (σ : L2.St), (∀ i ∈ is, i ∈ ws) → R c.K c.cad m h l σ H → RDs c m h.n H ds vs → ds.length = is.length →
    (∀ σ', R c.K c.cad m h (setAll is ds l) σ' H → wipe σ' ws = wipe σ ws → Q σ' H) → gSets is vs σ H Q
  | [], [], _, l, σ, _, q, r, _, w => by
    have r1 := r.1
    unfold RelDs at r1
    exact ⟨r1, w σ q rfl⟩
  | [], _ :: _, _, _, _, _, _, _, e, _ => by cases e
  | _ :: _, [], _, _, _, _, _, _, e, _ => by cases e
  | i :: is, d :: ds, _, l, σ, hw, q, r, e, w => by
    obtain ⟨r1, r2⟩ := r
    unfold RelDs at r1
    obtain ⟨v, vs, e1, h1, h2⟩ := r1
    have b := Bool.and_eq_true_iff.mp r2
    exact ⟨v, vs, e1, sets_okW is ds vs (l.set i d) _ (fun j hj => hw j (List.mem_cons_of_mem _ hj)) (q.set i ⟨h1, b.1⟩) ⟨h2, b.2⟩ (by simpa using e) fun σ' a b => w σ' a (b.trans (wipe_set (hw i List.mem_cons_self)))⟩
theorem tgw_tup {c : Cn} {is ws : List Nat} {n : Nat} (hn : n = is.length) (hw : ∀ i ∈ is, i ∈ ws) : TgOkW c (Ev.gTup is) (L2.gTup c.K n (gSets is)) ws := fun m h H l σ d v l' Q q r e w => by
  subst hn
  cases d with
  | tup xs =>
    have e : (if Nat.beq xs.length is.length = true then some ((is.zip xs).foldl (fun l p => l.set p.1 p.2) l) else none) = some l' := e
    by_cases hz : Nat.beq xs.length is.length = true
    · rw [if_pos hz] at e
      obtain ⟨r1, r2⟩ := r
      unfold RelD at r1
      obtain ⟨a, vs, e1, hf, hs⟩ := r1
      have hl : xs.length = is.length := Nat.eq_of_beq_eq_true hz
      refine ⟨a, vs, e1, hf.sq, by rw [hs.length]; exact hl, sets_okW is xs vs l σ hw q ⟨hs, r2⟩ hl fun σ' q' => w σ' ?_⟩
      rw [foldl_setAll] at e
      cases e
      exact q'
    · rw [if_neg hz] at e
      cases e
  | _ => cases e
/-- nothing may be raised -/
def Cn.nox (c : Cn) : Cn := ⟨c.K, c.cad, fun _ _ _ _ => False⟩
def Mp.wz (m : Mp) (Z : Addr → Prop) : Mp := ⟨m.ρ, m.δ, Z⟩

section
variable {c : Cn} {m1 mm mm' : Mp} {h1 h h' : Hv} {H1 H H' : Hp} {Dd : Addr}
/-- the list in the making grows, at the layer's heap alone -/
theorem Stay.at_z {n : Nat} {o : HO} (hz : mm.Z Dd) : Stay mm n H mm n (upd H Dd o) :=
  ⟨fun _ _ => rfl, fun a u e t => by rw [upd_ne (fun z : a = Dd => t (.inr (z ▸ hz)))]; exact e, fun a t => .inl t⟩
theorem HR.at_z {o : HO} (hz : mm.Z Dd) (q : HR c.K c.cad mm h H) : HR c.K c.cad mm h (upd H Dd o) := by
  refine ⟨fun i u e => ?_, q.sep, q.bel, q.lim, fun a ha => ?_, q.zd⟩
  · have hi : i < h.n := (List.getElem?_eq_some_iff.mp e).1
    obtain ⟨z1, z2⟩ := q.zd i hi
    exact RelO.stay (Stay.at_z hz) rfl rfl (upd_ne fun z => z1 (z ▸ hz)) (upd_ne fun z => z2 (z ▸ hz)) (q.obj i u e) (q.bel i u e)
  · by_cases z : a = Dd
    · rw [z, upd_same]; rfl
    · rw [upd_ne z]; exact q.zs a ha
theorem Ext.with_z (q1 : HR c.K c.cad m1 h1 H1) (hD : H1 Dd = none) (hz : ∀ a, mm.Z a ↔ m1.Z a ∨ a = Dd) (x : Ext m1 h1 H1 (mm.wz m1.Z) h H) (y : Ext mm h H mm' h' H') {H2 : Hp} (he : ∀ a, a ≠ Dd → H2 a = H' a) :
    Ext m1 h1 H1 (mm'.wz m1.Z) h' H2 := by
  have tk : ∀ a, mm.Tk h.n a → m1.Tk h1.n a ∨ H1 a = none := fun a t => by
    rcases t with t | t
    · exact x.nw a (.inl t)
    · rcases (hz a).mp t with z | z
      · exact .inl (.inr z)
      · exact .inr (z ▸ hD)
  have neD : ∀ a u, H1 a = some u → a ≠ Dd := fun a u e z => by rw [z, hD] at e; cases e
  refine ⟨Nat.le_trans x.n y.n, y.lim.trans x.lim, fun i hi => ?_, fun a u e t => ?_, fun a t => ?_, fun i hi b o o2 e e2 hb => ?_, rfl, fun a ha => ?_⟩
  · obtain ⟨p1, p2⟩ := x.ag i hi
    obtain ⟨r1, r2⟩ := y.ag i (Nat.lt_of_lt_of_le hi x.n)
    exact ⟨r1.trans p1, r2.trans p2⟩
  · rw [he a (neD a u e)]
    refine y.kp a u (x.kp a u e t) fun t' => ?_
    rcases tk a t' with z | z
    · exact t z
    · rw [e] at z; cases z
  · rcases t with t | t
    · rcases y.nw a (.inl t) with z | z
      · exact tk a z
      · by_cases t0 : m1.Tk h1.n a
        · exact .inl t0
        · right
          cases e : H1 a with
          | none => rfl
          | some u => rw [x.kp a u e t0] at z; cases z
    · exact .inl (.inr t)
  · have hi1 : i < h.os.length := Nat.lt_of_lt_of_le (Nat.lt_of_lt_of_le hi q1.lim) x.n
    exact y.old i (by rw [x.lim]; exact hi) b h.os[i] o2 (List.getElem?_eq_getElem hi1) e2 (x.old i hi b o _ e (List.getElem?_eq_getElem hi1) hb)
  · have ne : a ≠ Dd := fun z => by
      have := q1.zs a ha
      rw [z, hD] at this; cases this
    rw [he a ne, y.zk a ((hz a).mpr (.inl ha))]
    exact x.zk a ha
theorem Stay.un_z (hz : ∀ a, mm.Z a ↔ m1.Z a ∨ a = Dd) {n : Nat} : Stay mm n H (mm.wz m1.Z) n H :=
  ⟨fun _ _ => rfl, fun _ _ e _ => e, fun a t => by
    rcases t with t | t
    · exact .inl (.inl t)
    · exact .inl (.inr ((hz a).mpr (.inl t)))⟩
theorem HR.un_z (hz : ∀ a, mm.Z a ↔ m1.Z a ∨ a = Dd) (q : HR c.K c.cad mm h H) : HR c.K c.cad (mm.wz m1.Z) h H :=
  ⟨fun i u e => RelO.stay (Stay.un_z hz) rfl rfl rfl rfl (q.obj i u e) (q.bel i u e), q.sep, q.bel, q.lim, fun a ha => q.zs a ((hz a).mpr (.inl ha)), fun i hi =>
    let ⟨z1, z2⟩ := q.zd i hi
    ⟨fun z => z1 ((hz _).mpr (.inl z)), fun z => z2 ((hz _).mpr (.inl z))⟩⟩
end

section
variable {X : Cx} {c : Cn} {elt tg iter : Expr} {ifs : List Expr} {scope : Scope} {own : List (Str × Nat)} {pos : Pos} {it : II} {gv : G} {g : TG} {t : TT} {e : E}
theorem tof_comp {vs : List Nat} (ok : TgOkW c gv g vs) {σ : L2.St} {H : Hp} {Q : VK} (q : tNew c (eComp vs it gv t e) σ H Q) : tLc (tOfI c it) g (tOfT c.nox t) (tOf c.nox e) vs σ H Q := by
  obtain ⟨m, h, l, q, p⟩ := q
  refine ⟨m, h, l, q, Post.mono (PostN.bind (Rl := RW c) q.hr p) fun J H1 ⟨m1, h1, ds, y1, q1, r1, p1⟩ Dd hD => ?_⟩
  obtain ⟨hsz, p1⟩ := PostN.cond p1
  have hsz : ds.length ≤ 100000 := Nat.le_of_ble_eq_true hsz
  have q0 := q.after y1 q1
  have nz : ∀ i, i < h1.n → m1.ρ i ≠ Dd ∧ m1.δ i ≠ Dd := fun i hi => ⟨fun z => q1.ntk hD (z ▸ .inl ⟨i, hi, .inl rfl⟩), fun z => q1.ntk hD (z ▸ .inl ⟨i, hi, .inr rfl⟩)⟩
  let mz : Mp := m1.wz fun a => m1.Z a ∨ a = Dd
  have st0 : Stay m1 h1.n H1 mz h1.n (upd H1 Dd (.lst [])) := ⟨fun _ _ => rfl, fun a u e _ => by rw [upd_ne (ne_of_none e hD)]; exact e, fun a t => by
    rcases t with t | t | t
    · exact .inl (.inl t)
    · exact .inl (.inr t)
    · exact .inr (t ▸ hD)⟩
  have hr0 : HR c.K c.cad mz h1 (upd H1 Dd (.lst [])) := by
    refine ⟨fun i u e => ?_, q1.sep, q1.bel, q1.lim, fun a ha => ?_, fun i hi => ?_⟩
    · have hi : i < h1.n := (List.getElem?_eq_some_iff.mp e).1
      exact RelO.stay st0 rfl rfl (upd_ne (nz i hi).1) (upd_ne (nz i hi).2) (q1.obj i u e) (q1.bel i u e)
    · by_cases z : a = Dd
      · rw [z, upd_same]; rfl
      · rw [upd_ne z]
        rcases ha with ha | ha
        · exact q1.zs a ha
        · exact absurd ha z
    · obtain ⟨z1, z2⟩ := q1.zd i hi
      exact ⟨fun z => z.elim z1 (nz i hi).1, fun z => z.elim z2 (nz i hi).2⟩
  refine ⟨fun i k H => ∃ (mm : Mp) (h : Hv) (acc : List Ev.D) (accV : List V), (∀ a, mm.Z a ↔ m1.Z a ∨ a = Dd) ∧ Ext m1 h1 H1 (mm.wz m1.Z) h H ∧ HR c.K c.cad mm h H ∧ LR c.K c.cad mm h.n H (wipeL l vs) (wipe σ vs) ∧
      H Dd = some (.lst accV) ∧ RDs c mm h.n H acc.reverse accV ∧ acc.length ≤ i ∧ i ≤ ds.length ∧ PostN c σ m1 h1 H1 (compGo gv t e (wipeL l vs) (ds.drop i) acc h) Q ∧ k = ds.length - i,
    ⟨_, mz, h1, [], [], fun a => Iff.rfl, ?_, hr0, (q0.lr.wipe vs).stay st0 (Nat.le_refl _), upd_same, ⟨RelDs.nil, rfl⟩, Nat.le_refl _, Nat.zero_le _, p1, rfl⟩, ?_⟩
  · have := Ext.new (o := HO.lst []) q1 hD
    exact this
  rintro i k H ⟨mm, h, acc, accV, hz, x, hq, hl, hacc, racc, hai, hil, p, rfl⟩
  have zD : mm.Z Dd := (hz Dd).mpr (.inr rfl)
  have walk := r1.2 i mm h H ⟨fun j hj => (x.ag j hj).1, x.kp, fun a t => by
    rcases t with t | t
    · exact x.nw a (.inl t)
    · rcases (hz a).mp t with z | z
      · exact .inl (.inr z)
      · exact .inr (z ▸ hD)⟩ x.n hq
  cases ed : ds[i]? with
  | none =>
    have e2 : ds.drop i = [] := List.drop_eq_nil_of_le (List.getElem?_eq_none_iff.mp ed)
    rw [e2] at p
    let H0 : Hp := fun b => if b = Dd then none else H b
    have e0 : ∀ b, b ≠ Dd → H0 b = H b := fun b hb => if_neg hb
    have eH : upd H0 Dd (.lst accV) = H := by
      funext b
      by_cases hb : b = Dd
      · rw [hb, upd_same, hacc]
      · rw [upd_ne hb, e0 b hb]
    have st0 : Stay mm h.n H (mm.wz m1.Z) h.n H0 := ⟨fun _ _ => rfl, fun a u e t => by rw [e0 a (fun z : a = Dd => t (.inr (z ▸ zD)))]; exact e, fun a t => by
      rcases t with t | t
      · exact .inl (.inl t)
      · exact .inl (.inr ((hz a).mpr (.inl t)))⟩
    have nD : ∀ i, i < h.n → mm.ρ i ≠ Dd ∧ mm.δ i ≠ Dd := fun i hi => by
      obtain ⟨z1, z2⟩ := hq.zd i hi
      exact ⟨fun z => z1 (z ▸ zD), fun z => z2 (z ▸ zD)⟩
    have zne : ∀ a, m1.Z a → a ≠ Dd := fun a ha z => by
      have := q1.zs a ha
      rw [z, hD] at this; cases this
    have q2 : HR c.K c.cad (mm.wz m1.Z) h H0 := by
      refine ⟨fun i u e => ?_, hq.sep, hq.bel, hq.lim, fun a ha => by rw [e0 a (zne a ha)]; exact hq.zs a ((hz a).mpr (.inl ha)), fun i hi => ?_⟩
      · have hi : i < h.n := (List.getElem?_eq_some_iff.mp e).1
        exact RelO.stay st0 rfl rfl (e0 _ (nD i hi).1) (e0 _ (nD i hi).2) (hq.obj i u e) (hq.bel i u e)
      · obtain ⟨z1, z2⟩ := hq.zd i hi
        exact ⟨fun z => z1 ((hz _).mpr (.inl z)), fun z => z2 ((hz _).mpr (.inl z))⟩
    have x2 : Ext m1 h1 H1 (mm.wz m1.Z) h H0 := Ext.with_z q1 hD hz x (Ext.refl mm h H) e0
    have fin := p (mm.wz m1.Z) H0 Dd accV x2 q2 ⟨racc.1.stay st0 racc.2, racc.2⟩ (if_pos rfl)
    rw [eH] at fin
    exact .inl ⟨walk.2 ed, fin⟩
  | some d =>
    obtain ⟨go, yl⟩ := walk.1 d ed
    have hi : i < ds.length := (List.getElem?_eq_some_iff.mp ed).1
    have e2 : ds.drop i = d :: ds.drop (i + 1) := by
      rw [List.drop_eq_getElem_cons hi]
      congr 1
      exact (List.getElem?_eq_some_iff.mp ed).2
    rw [e2] at p
    refine .inr ⟨go, fun H' => ∃ (mm : Mp) (h : Hv) (acc : List Ev.D) (accV : List V), (∀ a, mm.Z a ↔ m1.Z a ∨ a = Dd) ∧ Ext m1 h1 H1 (mm.wz m1.Z) h H' ∧ HR c.K c.cad mm h H' ∧ LR c.K c.cad mm h.n H' (wipeL l vs) (wipe σ vs) ∧
      H' Dd = some (.lst accV) ∧ RDs c mm h.n H' acc.reverse accV ∧ acc.length ≤ i + 1 ∧ PostN c σ m1 h1 H1 (compGo gv t e (wipeL l vs) (ds.drop (i + 1)) acc h) Q,
      fun H' ⟨a1, a2, a3, a4, a5, a6, a7, a8, a9, a10, a11, a12⟩ => ⟨ds.length - (i + 1), by omega, a1, a2, a3, a4, a5, a6, a7, a8, a9, a10, a11, hi, a12, rfl⟩, fun v H2 hy => ?_⟩
    obtain ⟨x2, q2, r2⟩ := yl v H2 hy
    have xa : Ext m1 h1 H1 (mm.wz m1.Z) h H2 := Ext.with_z q1 hD hz x x2 fun _ _ => rfl
    have l2 : LR c.K c.cad mm h.n H2 (wipeL l vs) (wipe σ vs) := hl.stay x2.stay x2.n
    have acc2 : H2 Dd = some (.lst accV) := (x2.zk Dd zD).trans hacc
    have racc2 := rds_ext x2 racc
    unfold compGo at p
    cases eg : gv d (wipeL l vs) with
    | none => rw [eg] at p; exact p.elim
    | some l' =>
      rw [eg] at p
      dsimp only at p
      refine ok mm h H2 _ _ d v l' _ ⟨q2, l2⟩ r2 eg fun σ' q3 hw => ⟨by rw [hw, wipe_idem], mm, h, l', q3, ?_⟩
      cases et : t l' h with
      | stuck => rw [et] at p; exact p
      | exc z h3 => rw [et] at p; exact p.elim
      | ok b h3 =>
        rw [et] at p
        intro m3 H3 b3 y3 q4 rb
        have rb' : b = b3 := rb
        subst rb'
        have hz3 : ∀ a, m3.Z a ↔ m1.Z a ∨ a = Dd := fun a => by rw [y3.z]; exact hz a
        have zD3 : m3.Z Dd := (hz3 Dd).mpr (.inr rfl)
        have xb : Ext m1 h1 H1 (m3.wz m1.Z) h3 H3 := Ext.with_z q1 hD hz xa y3 fun _ _ => rfl
        have l3 := l2.stay y3.stay y3.n
        have acc3 : H3 Dd = some (.lst accV) := (y3.zk Dd zD).trans acc2
        have racc3 := rds_ext y3 racc2
        cases b with
        | false => exact iteF ⟨m3, h3, acc, accV, hz3, xb, q4, l3, acc3, racc3, by omega, p⟩
        | true =>
          dsimp only at p
          refine iteT ⟨m3, h3, l', ⟨q4, q3.lr.stay y3.stay y3.n⟩, ?_⟩
          cases ee : e l' h3 with
          | stuck => rw [ee] at p; exact p
          | exc z h4 => rw [ee] at p; exact p.elim
          | ok yd h4 =>
            rw [ee] at p
            intro m4 H4 yv y4 q5 ry
            have hz4 : ∀ a, m4.Z a ↔ m1.Z a ∨ a = Dd := fun a => by rw [y4.z]; exact hz3 a
            have zD4 : m4.Z Dd := (hz4 Dd).mpr (.inr rfl)
            have acc4 : H4 Dd = some (.lst accV) := (y4.zk Dd zD3).trans acc3
            have racc4 := rds_ext y4 racc3
            have stz : Stay m4 h4.n H4 m4 h4.n (upd H4 Dd (.lst (accV ++ [yv]))) := Stay.at_z zD4
            have hlen : accV.length ≤ i := by rw [racc4.1.length, List.length_reverse]; exact hai
            refine ⟨accV, acc4, by rw [sizeLine_eq]; omega, m4, h4, yd :: acc, accV ++ [yv], hz4, Ext.with_z q1 hD hz3 xb y4 fun a ne => upd_ne ne, q5.at_z zD4, (l3.stay y4.stay y4.n).stay stz (Nat.le_refl _), upd_same, ⟨?_, ?_⟩, by simpa using hai, p⟩
            · rw [List.reverse_cons]
              exact RelDs.append (racc4.1.stay stz racc4.2) (RelDs.cons (ry.1.stay stz ry.2) RelDs.nil)
            · rw [List.reverse_cons]
              exact bels_append racc4.2 (Bool.and_eq_true_iff.mpr ⟨ry.2, rfl⟩)
theorem pn_comp (hc : X.calm = true) (hN : X.N.Nodup) (hi : PI X tg iter (tOfI c it)) (bok : BlkOk X.N X.env.scope scope own) (ok : TgOkW c gv g (own.map (·.2)))
    (hg : ∀ (s : Shared) (H : Hp) (C : Addr) (cl : List (Str × Addr)) (fp : List Addr), PG (X.blk s H scope (compEnvC scope cl C X.env) fp) tg g) (ht : ∀ (s : Shared) (H : Hp) (C : Addr) (cl : List (Str × Addr)) (fp : List Addr), PTs (X.blk s H scope (compEnvC scope cl C X.env) fp) ifs (tOfT c.nox t))
    (he : ∀ (s : Shared) (H : Hp) (C : Addr) (cl : List (Str × Addr)) (fp : List Addr), PE (X.blk s H scope (compEnvC scope cl C X.env) fp) elt (tOf c.nox e)) (hs : ∀ x, foldedSetIterable iter X.env x = pure x) :
    PE X (.ListComp elt [⟨tg, iter, ifs, 0⟩] scope pos) (tNew c (eComp (own.map (·.2)) it gv t e)) :=
  PE.mono (pe_lc hc hN hi bok hg ht he hs) fun σ H Q q => tof_comp ok q
/-- a name given a comprehension -/
theorem sv_comp {i : Nat} {y : Str} {py spos : Pos} (hc : X.calm = true) (hN : X.N.Nodup) (hy : X.N[i]? = some y) (hyl : X.env.scope.names.lookup y = some .local)
    (hsw : swapsWith (.ListComp elt [⟨tg, iter, ifs, 0⟩] scope pos) (some (.Name y py)) spos.line X.env = pure true) (hi : PI X tg iter (tOfI c it)) (bok : BlkOk X.N X.env.scope scope own) (ok : TgOkW c gv g (own.map (·.2)))
    (hg : ∀ (s : Shared) (H : Hp) (C : Addr) (cl : List (Str × Addr)) (fp : List Addr), PG (X.blk s H scope (compEnvC scope cl C X.env) fp) tg g) (ht : ∀ (s : Shared) (H : Hp) (C : Addr) (cl : List (Str × Addr)) (fp : List Addr), PTs (X.blk s H scope (compEnvC scope cl C X.env) fp) ifs (tOfT c.nox t))
    (he : ∀ (s : Shared) (H : Hp) (C : Addr) (cl : List (Str × Addr)) (fp : List Addr), PE (X.blk s H scope (compEnvC scope cl C X.env) fp) elt (tOf c.nox e)) (hs : ∀ x, foldedSetIterable iter X.env x = pure x) :
    PS X (.Assign [.Name y py] (.ListComp elt [⟨tg, iter, ifs, 0⟩] scope pos) spos) (tAsg (tNew c (eComp (own.map (·.2)) it gv t e)) (gName i)) :=
  PS.mono (ps_setLc hc hN hy hyl hsw hi bok hg ht he hs) fun D σ H q => tof_comp ok q
end
end Ev

set_option Elab.async false
set_option linter.all false
set_option maxRecDepth 100000
set_option maxHeartbeats 2000000
/-! Ev5: defs and their calls. -/
namespace Ev
open PySem PySem.Spec PyProof.Rows L2

abbrev Cn.of (K : PySem.W.Frag) (cad : Nat → Addr) (E : XK) : Cn := ⟨K, cad, fun cls d _ H => E cls d H⟩
/-- a def does what mf says -/
def spOf (K : PySem.W.Frag) (cad : Nat → Addr) (np : Nat) (mf : Fn) : Sp := fun vs H Q E =>
  vs.length = np ∧ ∃ m h ds, HR K cad m h H ∧ RDs (Cn.of K cad E) m h.n H ds vs ∧ Post (Cn.of K cad E) (RD (Cn.of K cad E)) [] m h H (mf ds h) Q

theorem lr_start {K : PySem.W.Frag} {cad : Nat → Addr} {m : Mp} {n : Nat} {H : Hp} {N : List Str} {ds : List Ev.D} {vs : List V} (r : RelDs K cad m n H ds vs) (b : D.bels n ds = true) :
    LR K cad m n H (ds ++ List.replicate (N.length - ds.length) .unset) (L2.start N vs) := by
  have hl := r.length
  refine ⟨?_, fun i d e ne => ?_, fun i d e => ?_⟩
  · unfold L2.start
    simp [hl]
  · by_cases hi : i < ds.length
    · rw [List.getElem?_append_left hi] at e
      obtain ⟨v, e1, r1⟩ := r.get e
      refine ⟨v, ?_, r1⟩
      unfold L2.start
      rw [List.getElem?_append_left (by rw [List.length_map, hl]; exact hi), List.getElem?_map, e1]
      rfl
    · rw [List.getElem?_append_right (Nat.le_of_not_lt hi), List.getElem?_replicate] at e
      split at e
      · cases e; exact absurd rfl ne
      · cases e
  · by_cases hi : i < ds.length
    · rw [List.getElem?_append_left hi] at e
      exact bels_get b e
    · rw [List.getElem?_append_right (Nat.le_of_not_lt hi), List.getElem?_replicate] at e
      split at e
      · cases e; rfl
      · cases e
section
variable {P : Program} {w : World} {K : PySem.W.Frag} {mg : Str → Option Value} {base : Heap} {cad : Nat → Addr}
/-- THE RULE for a def: its body does what sb says -/
theorem fn_ok {x qual : Str} {params : Arguments} {body : List Stmt} {scope : Scope} {dvs : List V} {kws : List (Str × V)} {f : Addr} {fd : FuncData} {N ps : List Str} {k : Nat} {sb : S}
    (F : FunD K x qual params body scope dvs kws f fd) (Sc : FnScope N ps scope)
    (hb : ∀ X : Cx, X.prog = P → X.w = w → X.K = K → X.mg = mg → X.base = base → X.N = N → X.env.scope = scope → X.calm = true → X.stack = X.env :: X.outer → X.env.frame = some X.env.locals → X.fn = (fun _ => true) → Room k X.A → ∀ W : WX, Takes X W → PassesOwn (model X.prog X.w) X.A X.env X.xe → PSs X body (tOfS ⟨K, cad, W⟩ sb)) :
    FnOk P w K mg base (L2.CX P w) (k + 1) f fd ps (spOf K cad ps.length (fnOf N.length sb)) := by
  refine F.ok Sc (fun vs H Q E h => h.1) fun cdv A outer s H vs Q E hr h => ?_
  refine ⟨_, hb _ rfl rfl rfl rfl rfl rfl rfl rfl rfl rfl rfl hr (fun cls d _ H => E cls d H) (takes_of rfl rfl rfl rfl) (passes_of (K := fun e s'' => L2.CX P w outer H s E e s'') (E₁ := fun e' s'' => L2.CX P w outer H s E e' s'') rfl), ?_⟩
  obtain ⟨hl, m, h, ds, q, ⟨r, b⟩, p⟩ := h
  refine ⟨m, h, _, ⟨q, lr_start r b⟩, ?_⟩
  unfold fnOf at p
  cases e : sb (ds ++ List.replicate (N.length - ds.length) .unset) h with
  | stuck => rw [e] at p; exact p
  | mk fl h1 =>
    rw [e] at p
    cases fl with
    | nx l1 => exact fun m' H' y σ' q' => p m' H' .non y q'.hr ⟨rfl, rfl⟩
    | rt d => exact fun m' H' y v q' r' => p m' H' v y q' r'
    | bk l1 => exact p.elim
    | ct l1 => exact p.elim
    | ex z l1 => exact fun m' H' y σ' q' => p m' H' y q'.hr
/-! ### what is dropped behind a call -/
section
variable {m' : Mp} {n n0 : Nat} {H' : Hp} {g : Nat → Option Ev.D}
mutual
theorem sub_ok (hg : ∀ k e, k < n → g k = some e → RelD K cad m' n0 H' e (.ref (m'.ρ k)) ∧ e.bel n0 = true) (st : Stay m' n H' m' n0 H') : ∀ {d e : Ev.D} {v : V}, D.sub g d = some e → RelD K cad m' n H' d v → d.bel n = true → RelD K cad m' n0 H' e v ∧ e.bel n0 = true
  | .ref k, e, v, s, r, b => by
    unfold RelD at r
    subst r
    exact hg k e (blt_of b) s
  | .tup xs, e, v, s, r, b => by
    unfold D.sub at s
    cases es : D.subs g xs with
    | none => rw [es] at s; cases s
    | some ys =>
      rw [es] at s; cases s
      unfold RelD at r
      obtain ⟨a, vs, ev, f, rs⟩ := r
      obtain ⟨r2, b2⟩ := subs_ok hg st es rs b
      refine ⟨?_, b2⟩
      unfold RelD
      exact ⟨a, vs, ev, st.ft f, r2⟩
  | .fl xs, e, v, s, r, b => by
    unfold D.sub at s
    cases es : D.subs g xs with
    | none => rw [es] at s; cases s
    | some ys =>
      rw [es] at s; cases s
      unfold RelD at r
      obtain ⟨a, vs, ev, f, rs⟩ := r
      obtain ⟨r2, b2⟩ := subs_ok hg st es rs b
      refine ⟨?_, b2⟩
      unfold RelD
      exact ⟨a, vs, ev, st.fl f, r2⟩
  | .sc xs, e, v, s, r, b => by
    unfold D.sub at s
    cases es : D.subs g xs with
    | none => rw [es] at s; cases s
    | some ys =>
      rw [es] at s; cases s
      unfold RelD at r
      obtain ⟨a, vs, ev, f, rs⟩ := r
      obtain ⟨r2, b2⟩ := subs_ok hg st es rs b
      refine ⟨?_, b2⟩
      unfold RelD
      exact ⟨a, vs, ev, st.fs f, r2⟩
  | .fi k xs, e, v, s, r, b => by
    unfold D.sub at s
    cases es : D.subs g xs with
    | none => rw [es] at s; cases s
    | some ys =>
      rw [es] at s; cases s
      unfold RelD at r
      obtain ⟨a, dx, vs, ev, f, rs⟩ := r
      obtain ⟨r2, b2⟩ := subS_ok hg st es rs b
      refine ⟨?_, b2⟩
      unfold RelD
      exact ⟨a, dx, vs, ev, st.fi f, r2⟩
  | .non, e, v, s, r, b => by cases s; exact ⟨r, rfl⟩
  | .bl _, e, v, s, r, b => by cases s; exact ⟨r, rfl⟩
  | .int _, e, v, s, r, b => by cases s; exact ⟨r, rfl⟩
  | .str _, e, v, s, r, b => by cases s; exact ⟨r, rfl⟩
  | .unset, e, v, s, r, b => by cases s; exact ⟨r, rfl⟩
  | .ty _, e, v, s, r, b => by cases s; exact ⟨r, rfl⟩
  | .cls _, e, v, s, r, b => by cases s; exact ⟨r, rfl⟩
theorem subs_ok (hg : ∀ k e, k < n → g k = some e → RelD K cad m' n0 H' e (.ref (m'.ρ k)) ∧ e.bel n0 = true) (st : Stay m' n H' m' n0 H') : ∀ {ds es : List Ev.D} {vs : List V}, D.subs g ds = some es → RelDs K cad m' n H' ds vs → D.bels n ds = true → RelDs K cad m' n0 H' es vs ∧ D.bels n0 es = true
  | [], es, vs, s, r, b => by
    cases s
    unfold RelDs at r
    subst r
    exact ⟨RelDs.nil, rfl⟩
  | d :: ds, es, vs, s, r, b => by
    unfold D.subs at s
    cases e1 : D.sub g d with
    | none => rw [e1] at s; cases s
    | some e =>
      rw [e1] at s
      dsimp only at s
      cases e2 : D.subs g ds with
      | none => rw [e2] at s; cases s
      | some es' =>
        rw [e2] at s; cases s
        unfold RelDs at r
        obtain ⟨v, r', e3, h1, h2⟩ := r
        subst e3
        have b' := Bool.and_eq_true_iff.mp b
        obtain ⟨p1, p2⟩ := sub_ok hg st e1 h1 b'.1
        obtain ⟨p3, p4⟩ := subs_ok hg st e2 h2 b'.2
        exact ⟨RelDs.cons p1 p3, Bool.and_eq_true_iff.mpr ⟨p2, p4⟩⟩
theorem subS_ok (hg : ∀ k e, k < n → g k = some e → RelD K cad m' n0 H' e (.ref (m'.ρ k)) ∧ e.bel n0 = true) (st : Stay m' n H' m' n0 H') : ∀ {ds es : List Ev.D} {vs : List (Option V)}, D.subs g ds = some es → RelS K cad m' n H' ds vs → D.bels n ds = true → RelS K cad m' n0 H' es vs ∧ D.bels n0 es = true
  | [], es, vs, s, r, b => by
    cases s
    exact ⟨by unfold RelS; trivial, rfl⟩
  | d :: ds, es, vs, s, r, b => by
    unfold D.subs at s
    cases e1 : D.sub g d with
    | none => rw [e1] at s; cases s
    | some e =>
      rw [e1] at s
      dsimp only at s
      cases e2 : D.subs g ds with
      | none => rw [e2] at s; cases s
      | some es' =>
        rw [e2] at s; cases s
        unfold RelS at r
        obtain ⟨h1, h2⟩ := r
        have b' := Bool.and_eq_true_iff.mp b
        obtain ⟨p3, p4⟩ := subS_ok hg st e2 h2 b'.2
        rcases h1 with z | ⟨v, e3, h1⟩
        · subst z
          cases e1
          exact ⟨by unfold RelS; exact ⟨.inl rfl, p3⟩, Bool.and_eq_true_iff.mpr ⟨rfl, p4⟩⟩
        · obtain ⟨p1, p2⟩ := sub_ok hg st e1 h1 b'.1
          exact ⟨by unfold RelS; exact ⟨.inr ⟨v, e3, p1⟩, p3⟩, Bool.and_eq_true_iff.mpr ⟨p2, p4⟩⟩
end
end
theorem anySet_of {m : Mp} {n : Nat} {H : Hp} : ∀ {fs : List Ev.D}, anySet fs = true → RelS K cad m n H fs [] → False
  | [], h, _ => by cases h
  | d :: ds, h, r => by
    unfold RelS at r
    rcases r.1 with z | ⟨v, e, _⟩
    · subst z
      exact anySet_of (fs := ds) h r.2
    · cases e
/-- the first n0 objects alone -/
theorem Stay.cut {m : Mp} {h : Hv} {H : Hp} {n0 : Nat} (hn : n0 ≤ h.n) : Stay m h.n H m n0 H := ⟨fun _ _ => rfl, fun _ _ e _ => e, fun a t => .inl (t.mono hn)⟩
theorem frzAt_ok {m' : Mp} {h' : Hv} {H' : Hp} {n0 : Nat} (hn : n0 ≤ h'.n) (q : HR K cad m' h' H') : ∀ (j k : Nat) (e : Ev.D), k < h'.n → frzAt h'.os n0 j k = some e → RelD K cad m' n0 H' e (.ref (m'.ρ k)) ∧ e.bel n0 = true := by
  intro j
  induction j with
  | zero =>
    intro k e hk s
    unfold frzAt at s
    by_cases hb : Nat.blt k n0 = true
    · rw [if_pos hb] at s; cases s
      exact ⟨by unfold RelD; rfl, hb⟩
    · rw [if_neg hb] at s; cases s
  | succ j ih =>
    intro k e hk s
    unfold frzAt at s
    by_cases hb : Nat.blt k n0 = true
    · rw [if_pos hb] at s; cases s
      exact ⟨by unfold RelD; rfl, hb⟩
    · rw [if_neg hb] at s
      have hk0 : n0 ≤ k := Nat.le_of_not_lt fun z => hb (Nat.ble_eq_true_of_le z)
      have ntk : ∀ a, (a = m'.ρ k ∨ a = m'.δ k) → ¬ m'.Tk n0 a := fun a ha t => by
        rcases t with ⟨i, hi, t⟩ | t
        · obtain ⟨s1, s2, s3⟩ := q.sep i k (Nat.lt_of_lt_of_le hi hn) hk (by omega)
          obtain ⟨t1, t2, t3⟩ := q.sep k i hk (Nat.lt_of_lt_of_le hi hn) (by omega)
          rcases ha with ha | ha <;> rcases t with t | t
          · exact s1 (t.symm.trans ha)
          · exact t2 (ha.symm.trans t)
          · exact s2 (t.symm.trans ha)
          · exact s3 (t.symm.trans ha)
        · obtain ⟨z1, z2⟩ := q.zd k hk
          rcases ha with ha | ha
          · exact z1 (ha ▸ t)
          · exact z2 (ha ▸ t)
      cases ho : h'.os[k]? with
      | none => rw [ho] at s; cases s
      | some o =>
        rw [ho] at s
        have ro := q.obj k o ho
        have bo := q.bel k o ho
        cases o with
        | dic kvs => cases s
        | lst xs =>
          dsimp only at s
          cases es : D.subs (frzAt h'.os n0 j) xs with
          | none => rw [es] at s; cases s
          | some ys =>
            rw [es] at s; cases s
            obtain ⟨vs, e1, r1, _⟩ := ro
            obtain ⟨r2, b2⟩ := subs_ok ih (Stay.cut hn) es r1 bo
            refine ⟨?_, b2⟩
            unfold RelD
            exact ⟨_, vs, rfl, ⟨e1, ntk _ (.inl rfl)⟩, r2⟩
        | ins c fs =>
          dsimp only at s
          by_cases ha : anySet fs = true
          · rw [if_pos ha] at s
            cases es : D.subs (frzAt h'.os n0 j) fs with
            | none => rw [es] at s; cases s
            | some ys =>
              rw [es] at s; cases s
              obtain ⟨vs, sl, _, r1, _⟩ := ro
              obtain ⟨r2, b2⟩ := subS_ok ih (Stay.cut hn) es r1 bo
              refine ⟨?_, b2⟩
              unfold RelD
              rcases sl with ⟨_, z⟩ | ⟨z1, z2⟩
              · subst z; exact (anySet_of ha r1).elim
              · exact ⟨_, _, vs, rfl, ⟨z1, z2, ntk _ (.inl rfl), ntk _ (.inr rfl)⟩, r2⟩
          · rw [if_neg ha] at s; cases s
theorem cut_ok {m m' : Mp} {h h' : Hv} {H H' : Hp} (q : HR K cad m h H) (x : Ext m ⟨h.os, h.os.length⟩ H m' h' H') (q' : HR K cad m' h' H') :
    Ext m h H m' ⟨h'.os.take h.os.length, h.lim⟩ H' ∧ HR K cad m' ⟨h'.os.take h.os.length, h.lim⟩ H' := by
  have hn : h.os.length ≤ h'.os.length := x.n
  have hl : (h'.os.take h.os.length).length = h.os.length := by rw [List.length_take]; omega
  have get : ∀ i o, (h'.os.take h.os.length)[i]? = some o → i < h.os.length ∧ h'.os[i]? = some o := fun i o e => by
    have hi : i < h.os.length := by
      have := (List.getElem?_eq_some_iff.mp e).1
      omega
    exact ⟨hi, by rw [List.getElem?_take_of_lt hi] at e; exact e⟩
  refine ⟨⟨by show h.os.length ≤ (h'.os.take h.os.length).length; rw [hl]; exact Nat.le_refl _, rfl, x.ag, x.kp, fun a t => ?_, fun i hi b o o' e e' hb => ?_, x.z, x.zk⟩, ⟨fun i o e => ?_, fun i j hi hj => ?_, fun i o e => ?_, ?_, q'.zs, fun i hi => ?_⟩⟩
  · refine x.nw a (t.mono ?_)
    show (h'.os.take h.os.length).length ≤ _
    rw [hl]; exact hn
  · exact x.old i (Nat.lt_of_lt_of_le hi q.lim) b o o' e (get i o' e').2 hb
  · obtain ⟨hi, e'⟩ := get i o e
    have r := RelO.stay (m' := m') (H' := H') (n' := (h'.os.take h.os.length).length) (Stay.cut (by rw [hl]; exact hn)) rfl rfl rfl rfl (q'.obj i o e') (q'.bel i o e')
    exact r
  · have hi' : i < h.os.length := by have : i < (h'.os.take h.os.length).length := hi; omega
    have hj' : j < h.os.length := by have : j < (h'.os.take h.os.length).length := hj; omega
    exact q'.sep i j (Nat.lt_of_lt_of_le hi' hn) (Nat.lt_of_lt_of_le hj' hn)
  · obtain ⟨hi, e'⟩ := get i o e
    show O.bel (h'.os.take h.os.length).length o = true
    rw [hl]
    exact x.old i hi h.os.length h.os[i] o (List.getElem?_eq_getElem hi) e' (q.bel i _ (List.getElem?_eq_getElem hi))
  · show h.lim ≤ (h'.os.take h.os.length).length
    rw [hl]; exact q.lim
  · have hi' : i < h.os.length := by have : i < (h'.os.take h.os.length).length := hi; omega
    exact q'.zd i (Nat.lt_of_lt_of_le hi' hn)
theorem fz_sp {np : Nat} {mf : Fn} {vs : List V} {H : Hp} {Q : VK} {E : XK} (h : spOf K cad np (fz mf) vs H Q E) : spOf K cad np mf vs H Q E := by
  obtain ⟨hl, m, h, ds, q, r, p⟩ := h
  refine ⟨hl, m, ⟨h.os, h.os.length⟩, ds, ⟨q.obj, q.sep, q.bel, Nat.le_refl _, q.zs, q.zd⟩, r, ?_⟩
  rw [fz_eq] at p
  unfold fz0 at p
  cases e : mf ds ⟨h.os, h.os.length⟩ with
  | stuck => rw [e] at p; exact p
  | exc z h1 =>
    rw [e] at p
    intro m' H' x q'
    obtain ⟨y, q2⟩ := cut_ok q x q'
    exact p m' H' y q2
  | ok d h1 =>
    rw [e] at p
    dsimp only at p
    cases ef : frz h1.os h.os.length d with
    | none => rw [ef] at p; exact p.elim
    | some d' =>
      rw [ef] at p
      intro m' H' v x q' ⟨r1, b1⟩
      obtain ⟨y, q2⟩ := cut_ok q x q'
      refine p m' H' v y q2 ?_
      have hn : h.os.length ≤ h1.os.length := x.n
      have hl' : (h1.os.take h.os.length).length = h.os.length := by rw [List.length_take]; omega
      have s := sub_ok (frzAt_ok hn q' 9) (Stay.cut hn) ef r1 b1
      show RelD K cad m' (h1.os.take h.os.length).length H' d' v ∧ d'.bel (h1.os.take h.os.length).length = true
      rw [hl']
      exact s
/-- with defaults -/
theorem dfl_sp {np : Nat} {mf : Fn} {dv : List Ev.D} {dvs : List V} (hd : ∀ m n H, RelDs K cad m n H dv dvs ∧ D.bels n dv = true) {vs : List V} {H : Hp} {Q : VK} {E : XK} (h : spOf K cad np (dfl mf dv) vs H Q E) : spOf K cad (np + dvs.length) mf (vs ++ dvs) H Q E := by
  obtain ⟨hl, m, h, ds, q, r, p⟩ := h
  obtain ⟨r2, b2⟩ := hd m h.n H
  exact ⟨by rw [List.length_append, hl], m, h, ds ++ dv, q, ⟨RelDs.append r.1 r2, bels_append r.2 b2⟩, p⟩
end

/-! ### calls -/
abbrev FR (X : Cx) (k : Nat) (f : Addr) (sp : Sp) : Prop := FnR X.prog X.w X.K X.mg X.base (L2.CX X.prog X.w) k f sp
/-- the object at f, called with np values, does what mf says -/
def CallP (X : Cx) (c : Cn) (f : Addr) (np : Nat) (mf : Fn) : Prop := ∀ (pins : List (Addr × Obj)) (σ : L2.St) (H : Hp) (s : Shared) (Q : VK) (us : List Value) (vs : List V) (m : Mp) (h : Hv) (ds : List Ev.D),
  Inv X pins σ H s → Vals vs us → vs.length = np → HR c.K c.cad m h H → RDs c m h.n H ds vs → Post c (RD c) σ m h H (mf ds h) Q → wpAny (model X.prog X.w) X.A (call (.ref f) us) (EP X pins σ Q) X.xe s
section
variable {X : Cx} {c : Cn} {k np : Nat} {f : Addr} {mf : Fn} {me : EA} {x : Str} {p pos : Pos} {e : Expr} {es : List Expr}
/-- .. as a code's run -/
def CallQ (X : Cx) (c : Cn) (f : Addr) (np : Nat) (mf : Fn) : Prop := ∀ (pins : List (Addr × Obj)) (σ : L2.St) (H : Hp) (s : Shared) (Q : VK) (us : List Value) (vs : List V) (m : Mp) (h : Hv) (ds : List Ev.D),
  Inv X pins σ H s → Vals vs us → vs.length = np → HR c.K c.cad m h H → RDs c m h.n H ds vs → Post c (RD c) σ m h H (mf ds h) Q →
    codeAny (model X.prog X.w) X.A (.call (.ref f) ⟨us, []⟩) (fun r s' => match r with | .ok (.ret v) => EP X pins σ Q v s' | .ok _ => False | .error e => X.xe e s') s
theorem CallQ.toP (F : CallQ X c f np mf) : CallP X c f np mf := fun pins σ H s Q us vs m h ds I r hn q rd p => wpAny_call (F pins σ H s Q us vs m h ds I r hn q rd p)
theorem callQ_fn (F : FR X k f (spOf c.K c.cad np mf)) (hr : Room k X.A) (tk : Takes X c.W) : CallQ X c f np mf := by
  intro pins σ H s Q us vs m h ds I r hn q rd p
  refine codeAny_mono (F X.A X.stack s H us vs Q (WE c.W σ) hr I.env0 r ⟨hn, m, h, ds, q, rd, ?_⟩) fun r s' hq => ?_
  · cases e : mf ds h with
    | ok d h1 => rw [e] at p; exact p
    | exc z h1 => rw [e] at p; exact p
    | stuck => rw [e] at p; exact p
  · cases r with
    | error e => exact passAt tk σ pins H s e s' I hq
    | ok fl =>
      cases fl with
      | ret u => exact I.after hq
      | next => exact False.elim hq
      | brk => exact False.elim hq
      | cont => exact False.elim hq
/-- what a call drops -/
theorem Post.fz {σ : L2.St} {m : Mp} {h : Hv} {H : Hp} {ds : List Ev.D} {Q : VK} (q : HR c.K c.cad m h H) (p : Post c (RD c) σ m h H (fz mf ds h) Q) : HR c.K c.cad m ⟨h.os, h.os.length⟩ H ∧ Post c (RD c) σ m ⟨h.os, h.os.length⟩ H (mf ds ⟨h.os, h.os.length⟩) Q := by
  refine ⟨⟨q.obj, q.sep, q.bel, Nat.le_refl _, q.zs, q.zd⟩, ?_⟩
  rw [fz_eq] at p
  unfold Ev.fz0 at p
  cases e : mf ds ⟨h.os, h.os.length⟩ with
  | stuck => rw [e] at p; exact p
  | exc z h1 =>
    rw [e] at p
    intro m' H' x q'
    obtain ⟨y, q2⟩ := cut_ok q x q'
    exact p m' H' y q2
  | ok d h1 =>
    rw [e] at p
    dsimp only at p
    cases ef : frz h1.os h.os.length d with
    | none => rw [ef] at p; exact p.elim
    | some d' =>
      rw [ef] at p
      intro m' H' v x q' ⟨r1, b1⟩
      obtain ⟨y, q2⟩ := cut_ok q x q'
      refine p m' H' v y q2 ?_
      have hn : h.os.length ≤ h1.os.length := x.n
      have hl' : (h1.os.take h.os.length).length = h.os.length := by rw [List.length_take]; omega
      have s := sub_ok (frzAt_ok hn q' 9) (Stay.cut hn) ef r1 b1
      show RelD c.K c.cad m' (h1.os.take h.os.length).length H' d' v ∧ d'.bel (h1.os.take h.os.length).length = true
      rw [hl']
      exact s
theorem callP_fz (F : CallP X c f np mf) : CallP X c f np (fz mf) := by
  intro pins σ H s Q us vs m h ds I r hn q rd p
  obtain ⟨q2, p2⟩ := Post.fz q p
  exact F pins σ H s Q us vs m _ ds I r hn q2 rd p2
theorem callQ_fz (F : CallQ X c f np mf) : CallQ X c f np (fz mf) := by
  intro pins σ H s Q us vs m h ds I r hn q rd p
  obtain ⟨q2, p2⟩ := Post.fz q p
  exact F pins σ H s Q us vs m _ ds I r hn q2 rd p2
/-- a new number -/
def Mp.push (m : Mp) (n : Nat) (a d : Addr) : Mp := ⟨fun i => if i = n then a else m.ρ i, fun i => if i = n then d else m.δ i, m.Z⟩
theorem push_ok {m : Mp} {h : Hv} {H H2 : Hp} {a d : Addr} {o : O} (q : HR c.K c.cad m h H) (ha : H a = none) (hd : H d = none) (s1 : (H2 a).isSome = true) (s2 : (H2 d).isSome = true) (he : ∀ b, b ≠ a → b ≠ d → H2 b = H b)
    (ro : RelO c.K c.cad (m.push h.n a d) (h.n + 1) H2 h.n o) (bo : o.bel (h.n + 1) = true) : HR c.K c.cad (m.push h.n a d) (h.new o) H2 ∧ Ext m h H (m.push h.n a d) (h.new o) H2 := by
  have hl : (h.new o).n = h.n + 1 := by show (h.os ++ [o]).length = _; simp
  have old : ∀ i, i < h.n → (m.push h.n a d).ρ i = m.ρ i ∧ (m.push h.n a d).δ i = m.δ i := fun i hi => by
    have : i ≠ h.n := Nat.ne_of_lt hi
    exact ⟨if_neg this, if_neg this⟩
  have nwρ : (m.push h.n a d).ρ h.n = a := if_pos rfl
  have nwδ : (m.push h.n a d).δ h.n = d := if_pos rfl
  have nt : ∀ b, m.Tk h.n b → b ≠ a ∧ b ≠ d := fun b t => ⟨fun z => q.ntk ha (z ▸ t), fun z => q.ntk hd (z ▸ t)⟩
  have st : Stay m h.n H (m.push h.n a d) (h.n + 1) H2 := by
    refine ⟨fun i hi => (old i hi).1, fun b u e _ => ?_, fun b t => ?_⟩
    · rw [he b (ne_of_none e ha) (ne_of_none e hd)]; exact e
    · rcases t with ⟨i, hi, t⟩ | t
      · by_cases hin : i = h.n
        · subst hin
          rw [nwρ, nwδ] at t
          rcases t with t | t
          · exact .inr (t ▸ ha)
          · exact .inr (t ▸ hd)
        · have hi' : i < h.n := by omega
          rw [(old i hi').1, (old i hi').2] at t
          exact .inl (.inl ⟨i, hi', t⟩)
      · exact .inl (.inr t)
  have get : ∀ i u, (h.new o).os[i]? = some u → (i < h.n ∧ h.os[i]? = some u) ∨ (i = h.n ∧ u = o) := fun i u e => by
    have e : (h.os ++ [o])[i]? = some u := e
    by_cases hi : i < h.os.length
    · rw [List.getElem?_append_left hi] at e
      exact .inl ⟨hi, e⟩
    · rw [List.getElem?_append_right (Nat.le_of_not_lt hi)] at e
      have hz : i - h.os.length = 0 := by
        have := (List.getElem?_eq_some_iff.mp e).1
        simp at this
        omega
      rw [hz] at e
      cases e
      exact .inr ⟨by show i = h.os.length; omega, rfl⟩
  refine ⟨⟨fun i u e => ?_, fun i j hi hj ne => ?_, fun i u e => ?_, ?_, fun b hb => ?_, fun i hi => ?_⟩, ⟨by rw [hl]; exact Nat.le_succ _, rfl, old, st.kp, fun b t => st.nw b (by rw [hl] at t; exact t), fun i hi b u u' e e' hb => ?_, rfl, fun b hb => ?_⟩⟩
  · rw [hl]
    rcases get i u e with ⟨hi, e'⟩ | ⟨hi, e'⟩
    · have t1 := nt (m.ρ i) (.inl ⟨i, hi, .inl rfl⟩)
      have t2 := nt (m.δ i) (.inl ⟨i, hi, .inr rfl⟩)
      exact RelO.stay st (old i hi).1 (old i hi).2 (he _ t1.1 t1.2) (he _ t2.1 t2.2) (q.obj i u e') (q.bel i u e')
    · subst hi e'; exact ro
  · rw [hl] at hi hj
    by_cases h1 : i = h.n
    · have h2 : j < h.n := by omega
      subst h1
      rw [nwρ, nwδ, (old j h2).1, (old j h2).2]
      have t1 := nt (m.ρ j) (.inl ⟨j, h2, .inl rfl⟩)
      have t2 := nt (m.δ j) (.inl ⟨j, h2, .inr rfl⟩)
      exact ⟨Ne.symm t1.1, Ne.symm t2.1, Ne.symm t2.2⟩
    · have h1' : i < h.n := by omega
      have t1 := nt (m.ρ i) (.inl ⟨i, h1', .inl rfl⟩)
      have t2 := nt (m.δ i) (.inl ⟨i, h1', .inr rfl⟩)
      by_cases h2 : j = h.n
      · subst h2
        rw [nwρ, nwδ, (old i h1').1, (old i h1').2]
        exact ⟨t1.1, t1.2, t2.2⟩
      · have h2' : j < h.n := by omega
        rw [(old i h1').1, (old i h1').2, (old j h2').1, (old j h2').2]
        exact q.sep i j h1' h2' ne
  · rw [hl]
    rcases get i u e with ⟨hi, e'⟩ | ⟨hi, e'⟩
    · exact O.bel_mono (Nat.le_succ _) (q.bel i u e')
    · subst e'; exact bo
  · rw [hl]; exact Nat.le_succ_of_le q.lim
  · by_cases z1 : b = a
    · rw [z1]; exact s1
    · by_cases z2 : b = d
      · rw [z2]; exact s2
      · rw [he b z1 z2]; exact q.zs b hb
  · rw [hl] at hi
    by_cases h1 : i = h.n
    · subst h1
      rw [nwρ, nwδ]
      exact ⟨fun z => q.ntk ha (.inr z), fun z => q.ntk hd (.inr z)⟩
    · have h1' : i < h.n := by omega
      rw [(old i h1').1, (old i h1').2]
      exact q.zd i h1'
  · have hi' : i < h.n := Nat.lt_of_lt_of_le hi q.lim
    have e2 : (h.os ++ [o])[i]? = some u' := e'
    rw [List.getElem?_append_left hi', e] at e2
    cases e2
    exact hb
  · have t := nt b (.inr hb)
    exact he b t.1 t.2
/-- a new instance: its number, its __init__ -/
theorem callP_make {C g : Addr} {fd : FuncData} {ps : List Str} {dvs : List V} {dv : List Ev.D} {ds0 : List Value} {z ns : Nat} (M : Mk X.K C g) (F : FnOk X.prog X.w X.K X.mg X.base (L2.CX X.prog X.w) k g fd ps (spOf c.K c.cad ps.length mf)) (hr : Room (k + 1) X.A) (tk : Takes X c.W)
    (hb : Binds X.K fd ps ds0) (hdd : Vals dvs ds0) (hdv : ∀ m n H, RelDs c.K c.cad m n H dv dvs ∧ D.bels n dv = true) (hC : c.cad z = C) (hps : ps.length = 1 + np + dvs.length) : CallP X c C np (mkNew z ns (dfl mf dv)) := by
  intro pins σ H s Q us vs m h ds I r hn q rd p
  have h : ∀ x dx, H x = none → H dx = none → dx ≠ x → spOf c.K c.cad ps.length mf (.ref x :: (vs ++ dvs)) (upd (upd H dx (.own x)) x (.ins C dx [])) (fun v H2 => v = .non ∧ Q (.ref x) H2) (WE c.W σ) := by
    intro x dx nx ndx ne
    have e1 : (upd (upd H dx (.own x)) x (.ins C dx [])) x = some (.ins C dx []) := upd_same
    have e2 : (upd (upd H dx (.own x)) x (.ins C dx [])) dx = some (.own x) := by rw [upd_ne ne, upd_same]
    have nwρ : (m.push h.n x dx).ρ h.n = x := if_pos rfl
    have nwδ : (m.push h.n x dx).δ h.n = dx := if_pos rfl
    have reps : ∀ j, RelS c.K c.cad (m.push h.n x dx) (h.n + 1) (upd (upd H dx (.own x)) x (.ins C dx [])) (List.replicate j .unset) [] := by
      intro j
      induction j with
      | zero => unfold RelS; trivial
      | succ j ih => rw [List.replicate_succ]; unfold RelS; exact ⟨.inl rfl, ih⟩
    have bels : ∀ j b, D.bels b (List.replicate j .unset) = true := by
      intro j b
      induction j with
      | zero => rfl
      | succ j ih => rw [List.replicate_succ]; exact Bool.and_eq_true_iff.mpr ⟨rfl, ih⟩
    obtain ⟨q2, x2⟩ := push_ok (H2 := upd (upd H dx (.own x)) x (.ins C dx [])) (o := .ins z (List.replicate ns .unset)) q nx ndx (by rw [e1]; rfl) (by rw [e2]; rfl) (fun b h1 h2 => by rw [upd_ne h1, upd_ne h2])
      ⟨[], .inl ⟨by rw [nwρ, nwδ, hC]; exact e1, rfl⟩, by rw [nwδ, e2]; rfl, reps ns, by rw [nwρ, nwδ]; exact ne⟩ (bels ns _)
    have hl : (h.new (.ins z (List.replicate ns .unset))).n = h.n + 1 := by show (h.os ++ [_]).length = _; simp
    have rd2 := rds_ext x2 rd
    obtain ⟨dv1, dv2⟩ := hdv (m.push h.n x dx) (h.new (.ins z (List.replicate ns .unset))).n (upd (upd H dx (.own x)) x (.ins C dx []))
    refine ⟨by rw [List.length_cons, List.length_append, hn, hps]; omega, _, _, .ref h.n :: (ds ++ dv), q2, ⟨RelDs.cons ?_ (RelDs.append rd2.1 dv1), Bool.and_eq_true_iff.mpr ⟨?_, bels_append rd2.2 dv2⟩⟩, ?_⟩
    · unfold RelD; rw [nwρ]
    · show Nat.blt h.n _ = true
      rw [hl]; exact Nat.ble_eq_true_of_le (Nat.le_refl _)
    · unfold mkNew dfl at p
      have p : Post c (RD c) σ m h H (match mf (.ref h.os.length :: (ds ++ dv)) (h.new (.ins z (List.replicate ns .unset))) with
        | .ok .non h' => .ok (.ref h.os.length) h'
        | .ok _ _ => .stuck
        | .exc c h' => .exc c h'
        | .stuck => .stuck) Q := p
      have en : h.n = h.os.length := rfl
      rw [en]
      cases em : mf (.ref h.os.length :: (ds ++ dv)) (h.new (.ins z (List.replicate ns .unset))) with
      | stuck => rw [em] at p; exact p
      | exc y h1 => rw [em] at p; exact fun m' H' a b => p m' H' (Ext.trans q.lim x2 a) b
      | ok d h1 =>
        rw [em] at p
        intro m' H' v a b rv
        cases d with
        | non =>
          have rv1 : v = .non := rv.1
          refine ⟨rv1, p m' H' _ (Ext.trans q.lim x2 a) b ⟨?_, ?_⟩⟩
          · unfold RelD
            have := (a.ag h.n (by rw [hl]; exact Nat.lt_succ_self _)).1
            rw [← en, this, nwρ]
          · show Nat.blt h.n h1.n = true
            have := a.n
            rw [hl] at this
            exact Nat.ble_eq_true_of_le this
        | _ => exact p.elim
  have hq := h (s.heap.objs.size + 1) s.heap.objs.size (I.hok.fresh (Nat.le_succ _)) (I.hok.fresh (Nat.le_refl _)) (Nat.ne_of_lt (Nat.lt_succ_self _))
  have I2 := Inv.made (C := C) I
  have r2 : Vals (V.ref (s.heap.objs.size + 1) :: (vs ++ dvs)) (Value.ref (s.heap.objs.size + 1) :: (us ++ ds0)) := .cons rfl (r.append hdd)
  have hl : (Value.ref (s.heap.objs.size + 1) :: us ++ ds0).length = ps.length := by
    have e := r2.length
    rw [F.len _ _ _ _ hq] at e
    exact e.symm
  refine wpAny_call (make_map (f := g) I.kIn M.makes M.init (beq_iff_eq.mp M.fn) (codeAny_mono (F.run _ X.stack _ _ ⟨Value.ref (s.heap.objs.size + 1) :: us, []⟩ (Value.ref (s.heap.objs.size + 1) :: (us ++ ds0)) _ _ (WE c.W σ) (hr.make C us [])
    (I2.env0.make C us []) (hb _ (Value.ref (s.heap.objs.size + 1) :: us) I2.kIn hl) r2 hq) fun r s' hq' => ?_))
  cases r with
  | error e => exact passAt tk σ pins _ _ e s' I2 hq'
  | ok fl =>
    cases fl with
    | ret u =>
      obtain ⟨v, H', I3, rv, ev, q3⟩ := I2.after hq'
      subst ev
      exact ⟨rv, ⟨V.ref (s.heap.objs.size + 1), H', I3, rfl, q3⟩⟩
    | next => exact False.elim hq'
    | brk => exact False.elim hq'
    | cont => exact False.elim hq'
/-! ### calls as expressions -/
theorem alen {σ : L2.St} {m : Mp} {h : Hv} {H : Hp} {l : Loc} {Q : VK} {n : Nat} (q : R c.K c.cad m h l σ H) (hlen : ∀ l h xs h', me l h = .ok xs h' → xs.length = n) (w : Post c (RD c) σ m h H ((me l h).bind fun xs h => mf xs h) Q) :
    Post c (RDs c) σ m h H (me l h) fun vs H1 => vs.length = n ∧ Aft c (RDs c) m h H (fun m1 h1 H1 a => Post c (RD c) σ m1 h1 H1 (mf a h1) Q) vs H1 := by
  have w2 := Post.bind (Rl := RDs c) q.hr w
  cases e0 : me l h with
  | ok xs h1 =>
    rw [e0] at w2
    intro m' H' b y z r
    exact ⟨by rw [r.1.length, hlen l h xs h1 e0], w2 m' H' b y z r⟩
  | exc z h1 => rw [e0] at w2; exact w2
  | stuck => rw [e0] at w2; exact w2
theorem pv_call (F : CallP X c f np mf) (hg : Gl X x) (hm : X.mg x = some (.ref f)) (hk : PySem.W.keepIn X.K (.ref f) = true) (ha : PA X (e :: es) (tOfA c me))
    (hlen : ∀ l h xs h', me l h = .ok xs h' → xs.length = np) (hdb : (x == ("__debug__" : Str)) = false) (he : starEach (e :: es) X.env = (false, eval e X.env) :: starEach es X.env) (hpl : (backTo pos (starEach es X.env)).any (·.1) = false) :
    PE X (.Call (.Name x p) (e :: es) [] pos) (tOf c (eCall mf me)) := by
  refine ⟨fun pins s σ H Q I ⟨m, h, l, q, w⟩ => ?_⟩
  refine wpAny_Call_Name_kw (ld_glob I hg hm ?_ hdb)
  refine PySem.W.callWith_K (h₀ := X.base) I.ok.mod.kin hk (thn (ha.run pos pins s σ H _ I ⟨m, h, l, q, alen q hlen w⟩) fun us s1 ⟨vs, H1, I1, r, hvs, m1, h1, ds, y1, q1, r1, p1⟩ => ⟨I1.kIn, ?_⟩) he hpl
  exact F pins σ H1 s1 Q us vs m1 h1 ds I1 r hvs q1 r1 p1
theorem pv_call0 (F : CallP X c f 0 mf) (hg : Gl X x) (hm : X.mg x = some (.ref f)) (hk : PySem.W.keepIn X.K (.ref f) = true) (hdb : (x == ("__debug__" : Str)) = false) :
    PE X (.Call (.Name x p) [] [] pos) (tOf c (eCall mf aNil)) := by
  refine ⟨fun pins s σ H Q I ⟨m, h, l, q, w⟩ => ?_⟩
  refine wpAny_Call_Name_kw (ld_glob I hg hm ?_ hdb)
  exact PySem.W.callWith_K0 I.kIn hk (F pins σ H s Q [] [] m h [] I .nil rfl q.hr ⟨RelDs.nil, rfl⟩ w)
/-- a class held by a name, called -/
def eCallV (i : Nat) (disp : List (Nat × Fn)) (me : EA) : E := fun l h => match l[i]? with
  | some (.cls z) => (match disp.lookup z with
    | some mf => (me l h).bind fun xs h => mf xs h
    | none => .stuck)
  | _ => .stuck
theorem pv_callV {i : Nat} {disp : List (Nat × Fn)} (hN : X.N[i]? = some x) (hv : Vis X.env.scope x) (hcd : (x == ("__classdict__" : Str)) = false) (F : ∀ z mf, disp.lookup z = some mf → CallP X c (c.cad z) np mf ∧ PySem.W.keepIn X.K (.ref (c.cad z)) = true) (ha : PA X (e :: es) (tOfA c me))
    (hlen : ∀ l h xs h', me l h = .ok xs h' → xs.length = np) (hdb : (x == ("__debug__" : Str)) = false) (he : starEach (e :: es) X.env = (false, eval e X.env) :: starEach es X.env) (hpl : (backTo pos (starEach es X.env)).any (·.1) = false) :
    PE X (.Call (.Name x p) (e :: es) [] pos) (tOf c (eCallV i disp me)) := by
  refine ⟨fun pins s σ H Q I ⟨m, h, l, q, w⟩ => ?_⟩
  unfold eCallV at w
  cases ev : l[i]? with
  | none => rw [ev] at w; exact w.elim
  | some d =>
    rw [ev] at w
    cases d with
    | cls z =>
      dsimp only at w
      cases ed : disp.lookup z with
      | none => rw [ed] at w; exact w.elim
      | some mf =>
        rw [ed] at w
        dsimp only at w
        obtain ⟨Fz, kz⟩ := F z mf ed
        obtain ⟨v, e1, rv⟩ := q.lr.at_ i _ ev (by intro z; cases z)
        have rv : v = .ref (c.cad z) := rv
        refine wpAny_Call_Name_kw (thn ((pe_var hN hv hdb hcd).run pins s σ H (fun y H1 => y = v ∧ H1 = H) I ⟨v, e1, rfl, rfl⟩) fun u s0 ⟨y, H0, I0, ru, ey, eH⟩ => ?_)
        subst ey eH rv
        obtain rfl : u = Value.ref (c.cad z) := ru
        refine PySem.W.callWith_K (h₀ := X.base) I.ok.mod.kin kz (thn (ha.run pos pins s0 σ H0 _ I0 ⟨m, h, l, q, alen q hlen w⟩) fun us s1 ⟨vs, H1, I1, r, hvs, m1, h1, ds, y1, q1, r1, p1⟩ => ⟨I1.kIn, ?_⟩) he hpl
        exact Fz pins σ H1 s1 Q us vs m1 h1 ds I1 r hvs q1 r1 p1
    | _ => exact w.elim
end
end Ev

set_option Elab.async false
set_option linter.all false
set_option maxRecDepth 100000
set_option maxHeartbeats 2000000
/-! Ev6: instances, methods, stores, raise, try. -/
namespace Ev
open PySem PySem.Spec PyProof.Rows L2

section
variable {K : PySem.W.Frag} {cad : Nat → Addr} {m : Mp} {n : Nat} {H : Hp}
theorem relS_iff : ∀ {fs : List Ev.D} {vs : List (Option V)}, RelS K cad m n H fs vs ↔ ∀ (j : Nat) (d : Ev.D), fs[j]? = some d → d = .unset ∨ ∃ v, vs[j]? = some (some v) ∧ RelD K cad m n H d v
  | [], vs => by unfold RelS; simp
  | d :: ds, vs => by
    unfold RelS
    rw [relS_iff (fs := ds)]
    constructor
    · rintro ⟨h1, h2⟩ j x e
      cases j with
      | zero =>
        simp at e
        subst e
        rcases h1 with z | ⟨v, e1, r⟩
        · exact .inl z
        · exact .inr ⟨v, by rw [← List.head?_eq_getElem?]; exact e1, r⟩
      | succ j =>
        rcases h2 j x (by simpa using e) with z | ⟨v, e1, r⟩
        · exact .inl z
        · exact .inr ⟨v, by rw [← e1]; cases vs <;> simp, r⟩
    · intro h
      refine ⟨?_, fun j x e => ?_⟩
      · rcases h 0 d rfl with z | ⟨v, e1, r⟩
        · exact .inl z
        · exact .inr ⟨v, by rw [List.head?_eq_getElem?]; exact e1, r⟩
      · rcases h (j + 1) x (by simpa using e) with z | ⟨v, e1, r⟩
        · exact .inl z
        · exact .inr ⟨v, by rw [← e1]; cases vs <;> simp, r⟩
theorem RelS.put {fs : List Ev.D} {vs : List (Option V)} {d : Ev.D} {v : V} (i : Nat) (h : RelS K cad m n H fs vs) (r : RelD K cad m n H d v) : RelS K cad m n H (fs.set i d) (SlX.putS i v vs) := by
  rw [relS_iff] at h ⊢
  intro j x e
  by_cases hj : i = j
  · subst hj
    by_cases hi : i < fs.length
    · rw [List.getElem?_set_self hi] at e
      cases e
      exact .inr ⟨v, SlX.putS_get i v vs, r⟩
    · rw [List.getElem?_eq_none (by simpa using hi)] at e; cases e
  · rw [List.getElem?_set_ne hj] at e
    rcases h j x e with z | ⟨w, e1, q⟩
    · exact .inl z
    · exact .inr ⟨w, (SlX.putS_ne (fun z => hj z.symm)).mpr e1, q⟩
end

/-! ### instances -/
/-- the class and the slots of an instance -/
def fldsOf (h : Hv) : Ev.D → Option (Nat × List Ev.D)
  | .fi z fs => some (z, fs)
  | .ref n => match h.os[n]? with
    | some (.ins z fs) => some (z, fs)
    | _ => none
  | _ => none
theorem flds_ok {c : Cn} {m : Mp} {h : Hv} {H : Hp} {d : Ev.D} {v : V} {z : Nat} {fs : List Ev.D} (q : HR c.K c.cad m h H) (r : RD c m h.n H d v) (e : fldsOf h d = some (z, fs)) :
    ∃ a dx vs, v = .ref a ∧ SlX.Slt H a (c.cad z) dx vs ∧ RelS c.K c.cad m h.n H fs vs ∧ D.bels h.n fs = true := by
  cases d with
  | fi z' fs' =>
    cases e
    obtain ⟨r1, r2⟩ := r
    unfold RelD at r1
    obtain ⟨a, dx, vs, ev, f, rs⟩ := r1
    exact ⟨a, dx, vs, ev, .inr ⟨f.1, f.2.1⟩, rs, r2⟩
  | ref n =>
    unfold fldsOf at e
    have e : (match h.os[n]? with
      | some (.ins z fs) => some (z, fs)
      | _ => none) = some (z, fs) := e
    cases ho : h.os[n]? with
    | none => rw [ho] at e; cases e
    | some o =>
      rw [ho] at e
      cases o with
      | ins z' fs' =>
        cases e
        obtain ⟨vs, sl, _, rs, _⟩ := q.obj n _ ho
        have r1 : v = .ref (m.ρ n) := r.1
        exact ⟨_, _, vs, r1, sl, rs, q.bel n _ ho⟩
      | lst _ => cases e
      | dic _ => cases e
  | _ => cases e
/-- an attribute: a slot, a property -/
inductive AK where
  | slot (i : Nat) | prop (m : Fn)
def oAttr (disp : List (Nat × AK)) (h : Hv) (d : Ev.D) : Res Ev.D := match fldsOf h d with
  | none => .stuck
  | some p => match disp.lookup p.1 with
    | some (.slot i) => (match p.2[i]? with
      | some .unset => .stuck
      | some x => .ok x h
      | none => .stuck)
    | some (.prop m) => (match m [d] h with
      | .ok x h' => .ok x h'
      | _ => .stuck)
    | none => .stuck
/-- a property's def: it raises nothing -/
structure PropP (X : Cx) (c : Cn) (C : Addr) (f : Str) (mf : Fn) : Prop where
  cl : SlX.SCls X.K C
  ex : ∃ p g k rest, PySem.W.findIn X.K (.ref C) f = some (some (.ref p)) ∧ PySem.W.specialIn X.K (.ref p) "__get__" = some (some (.builtin "property.__get__")) ∧ PySem.W.takesIn X.K (.ref p) = some true ∧
    PySem.W.recIn X.K p "property" = some (.ref g :: rest) ∧ FR X k g (spOf c.K c.cad 1 mf) ∧ Room (k + 1) X.A
def AkP (X : Cx) (c : Cn) (f : Str) (z : Nat) : AK → Prop
  | .slot i => SlX.SCls X.K (c.cad z) ∧ ∃ p, SlX.Slot1 X.K (c.cad z) f p i
  | .prop mf => PropP X c (c.cad z) f mf
theorem cx_none {P : Program} {w : World} {l : List Env} {H : Hp} {s : Shared} {e : Value} {s' : Shared} (h : L2.CX P w l H s (fun _ _ _ => False) e s') : False := by
  unfold L2.CX at h
  obtain ⟨_, _, _, _, _, _, _, _, _, _, _, _, w⟩ := h
  exact w
section
variable {X : Cx} {c : Cn} {e o : Expr} {f : Str} {pos : Pos} {ma : E} {disp : List (Nat × AK)}
theorem pv_attr (hA : ∀ z ak, disp.lookup z = some ak → AkP X c f z ak) (he : PE X e (tOf c ma)) (hb : attributeBase e f X.env (eval e X.env) = eval e X.env) : PE X (.Attribute e f pos) (tOf c (e1 (oAttr disp) ma)) := by
  refine ⟨fun pins s σ H Q I ⟨m, h, l, q, p⟩ => ?_⟩
  refine attr_of hb (thn (he.run pins s σ H _ I ⟨m, h, l, q, Post.bind (Rl := RD c) q.hr p⟩) fun u s1 ⟨x, H1, I1, rx, m1, h1, d, y1, q1, r1, p1⟩ => ?_)
  unfold oAttr at p1
  dsimp only at p1
  cases ef : fldsOf h1 d with
  | none => rw [ef] at p1; exact p1.elim
  | some zf =>
    rw [ef] at p1
    dsimp only at p1
    obtain ⟨z, fs⟩ := zf
    obtain ⟨a, dx, vs, ex, sl, rs, bs⟩ := flds_ok q1 r1 ef
    subst ex
    obtain rfl : u = Value.ref a := rx
    cases ed : disp.lookup z with
    | none => rw [ed] at p1; exact p1.elim
    | some ak =>
      rw [ed] at p1
      have hak := hA z ak ed
      cases ak with
      | slot i =>
        dsimp only at p1
        obtain ⟨cl, sp, st⟩ := hak
        cases ei : fs[i]? with
        | none => rw [ei] at p1; exact p1.elim
        | some y =>
          rw [ei] at p1
          by_cases hu : y = .unset
          · subst hu; exact p1.elim
          · have p2 : Post c (RD c) σ m1 h1 H1 (.ok y h1) Q := by
              cases y <;> first | exact p1 | exact absurd rfl hu
            rcases relS_iff.mp rs i y ei with z' | ⟨v, e1, rv⟩
            · exact absurd z' hu
            · exact SlX.getslot_ok I1 sl cl st e1 fun w s2 I2 rw' => ⟨v, H1, I2, rw', Post.here q1 p2 ⟨rv, bels_get bs ei⟩⟩
      | prop mf =>
        dsimp only at p1
        obtain ⟨cl, p, g, k, rest, h1', h2', h3', h4', F, hr⟩ := hak
        refine SlX.getprop_sl (E := fun _ _ _ => False) I1 sl cl h1' h2' h3' ⟨rest, h4'⟩ F hr (fun H s e s' z => cx_none z) ⟨rfl, m1, h1, [d], q1, ⟨RelDs.cons r1.1 RelDs.nil, Bool.and_eq_true_iff.mpr ⟨r1.2, rfl⟩⟩, ?_⟩
        cases em : mf [d] h1 with
        | ok x h2 => rw [em] at p1; exact p1
        | exc y h2 => rw [em] at p1; exact p1.elim
        | stuck => rw [em] at p1; exact p1.elim
end

/-! ### a store to a number -/
theorem put_ok {c : Cn} {m : Mp} {h h' : Hv} {H H' : Hp} {n : Nat} {o o' : O} {d : Ev.D} (q : HR c.K c.cad m h H) (ho : h.os[n]? = some o) (hp : h.put n o' d = some h') (s1 : (H' (m.ρ n)).isSome = true) (s2 : (H' (m.δ n)).isSome = true)
    (he : ∀ b, b ≠ m.ρ n → b ≠ m.δ n → H' b = H b) (ro : RelO c.K c.cad m h.n H' n o') (bo : o'.bel h.n = true) (bd : d.free = true → ∀ b, o.bel b = true → o'.bel b = true) : HR c.K c.cad m h' H' ∧ Ext m h H m h' H' := by
  have hn : n < h.os.length := (List.getElem?_eq_some_iff.mp ho).1
  unfold Hv.put at hp
  by_cases hc : (Nat.ble h.lim n || d.free) = true
  rotate_left
  · rw [if_neg hc] at hp; cases hp
  rw [if_pos hc] at hp
  cases hp
  have hl : (h.os.set n o').length = h.os.length := List.length_set ..
  have tn : m.Tk h.n (m.ρ n) := .inl ⟨n, hn, .inl rfl⟩
  have td : m.Tk h.n (m.δ n) := .inl ⟨n, hn, .inr rfl⟩
  have st : Stay m h.n H m h.n H' := ⟨fun _ _ => rfl, fun a u e t => by rw [he a (fun z => t (z ▸ tn)) (fun z => t (z ▸ td))]; exact e, fun a t => .inl t⟩
  have get : ∀ i u, (h.os.set n o')[i]? = some u → (i = n ∧ u = o') ∨ (i ≠ n ∧ h.os[i]? = some u) := fun i u e => by
    by_cases hi : n = i
    · subst hi
      rw [List.getElem?_set_self hn] at e
      cases e
      exact .inl ⟨rfl, rfl⟩
    · rw [List.getElem?_set_ne hi] at e
      exact .inr ⟨fun z => hi z.symm, e⟩
  refine ⟨⟨fun i u e => ?_, fun i j hi hj => q.sep i j (Nat.lt_of_lt_of_eq hi hl) (Nat.lt_of_lt_of_eq hj hl), fun i u e => ?_, by show h.lim ≤ (h.os.set n o').length; rw [hl]; exact q.lim, fun b hb => ?_, fun i hi => q.zd i (Nat.lt_of_lt_of_eq hi hl)⟩,
    ⟨by show h.os.length ≤ (h.os.set n o').length; rw [hl]; exact Nat.le_refl _, rfl, fun _ _ => ⟨rfl, rfl⟩, st.kp, fun a t => .inl (by have t : m.Tk (h.os.set n o').length a := t; rw [hl] at t; exact t), fun i hi b u u' e e' hb => ?_, rfl, fun a ha => ?_⟩⟩
  · show RelO c.K c.cad m (h.os.set n o').length H' i u
    rw [hl]
    rcases get i u e with ⟨z1, z2⟩ | ⟨z1, z2⟩
    · subst z1 z2; exact ro
    · have hi : i < h.n := (List.getElem?_eq_some_iff.mp z2).1
      obtain ⟨a1, a2, a3⟩ := q.sep i n hi hn z1
      obtain ⟨b1, b2, b3⟩ := q.sep n i hn hi (Ne.symm z1)
      exact RelO.stay st rfl rfl (he _ a1 a2) (he _ (Ne.symm b2) a3) (q.obj i u z2) (q.bel i u z2)
  · show O.bel (h.os.set n o').length u = true
    rw [hl]
    rcases get i u e with ⟨z1, z2⟩ | ⟨z1, z2⟩
    · subst z2; exact bo
    · exact q.bel i u z2
  · by_cases z1 : b = m.ρ n
    · rw [z1]; exact s1
    · by_cases z2 : b = m.δ n
      · rw [z2]; exact s2
      · rw [he b z1 z2]; exact q.zs b hb
  · rcases get i u' e' with ⟨z1, z2⟩ | ⟨z1, z2⟩
    · subst z1 z2
      rw [ho] at e
      cases e
      refine bd ?_ b hb
      cases hf : d.free with
      | true => rfl
      | false =>
        rw [hf, Bool.or_false] at hc
        exact absurd hi (Nat.not_lt.mpr (Nat.le_of_ble_eq_true hc))
    · rw [z2] at e; cases e; exact hb
  · obtain ⟨z1, z2⟩ := q.zd n hn
    exact he a (fun z => z1 (z ▸ ha)) (fun z => z2 (z ▸ ha))
theorem free_bel {d : Ev.D} (h : d.free = true) (b : Nat) : d.bel b = true := D.bel_mono (Nat.zero_le b) h
/-- a slot's store -/
def stSlot (disp : List (Nat × Nat)) (h : Hv) (x v : Ev.D) : Option Hv := match x with
  | .ref n => match h.os[n]? with
    | some (.ins z fs) => (match disp.lookup z with
      | some i => if Nat.blt i fs.length = true then h.put n (.ins z (fs.set i v)) v else none
      | none => none)
    | _ => none
  | _ => none
section
variable {X : Cx} {c : Cn} {e o value : Expr} {f : Str} {pos pos' : Pos} {ma mo : E} {disp : List (Nat × Nat)}
theorem sv_slot (hA : ∀ z i, disp.lookup z = some i → SlX.SCls X.K (c.cad z) ∧ ∃ p, SlX.Slot1 X.K (c.cad z) f p i) (ho : PE X o (tOf c mo)) (hv : PE X value (tOf c ma)) (hs : swapsWith value (some (.Attribute o f pos')) pos.line X.env = pure false) :
    PS X (.Assign [.Attribute o f pos'] value pos) (tOfS c (sFld (stSlot disp) ma mo)) :=
  PS.mono (SlX.ps_sl ho hv hs) fun D σ H ⟨m, h, l, q, p⟩ => by
    refine ⟨m, h, l, q, Post.mono (PostS.toS (Rl := RD c) q p) fun y H1 ⟨m1, h1, d, y1, q1, r1, p1⟩ => ?_⟩
    have qq := q.after y1 q1
    refine ⟨m1, h1, l, qq, Post.mono (PostS.toS (Rl := RD c) qq p1) fun x H2 ⟨m2, h2, d2, y2, q2, r2, p2⟩ => ?_⟩
    dsimp only at p2
    have r1' := rd_ext y2 r1
    cases est : stSlot disp h2 d2 d with
    | none => rw [est] at p2; exact p2.elim
    | some h3 =>
      rw [est] at p2
      unfold stSlot at est
      cases d2 with
      | ref n =>
        dsimp only at est
        cases eo : h2.os[n]? with
        | none => rw [eo] at est; cases est
        | some ob =>
          rw [eo] at est
          cases ob with
          | lst _ => cases est
          | dic _ => cases est
          | ins z fs =>
            dsimp only at est
            cases ed : disp.lookup z with
            | none => rw [ed] at est; cases est
            | some i =>
              rw [ed] at est
              dsimp only at est
              by_cases hi : Nat.blt i fs.length = true
              · rw [if_pos hi] at est
                obtain ⟨cl, sp, st⟩ := hA z i ed
                obtain ⟨vs, sl, sd, rs, ne⟩ := q2.obj n _ eo
                have hx : x = .ref (m2.ρ n) := r2.1
                refine ⟨m2.ρ n, c.cad z, m2.δ n, sp, vs, i, hx, sl, cl, st, ?_⟩
                have e1 : SlX.slH H2 (m2.ρ n) (c.cad z) (m2.δ n) (SlX.putS i y vs) (m2.ρ n) = some (SlX.SlO (m2.ρ n) (c.cad z) (m2.δ n) (SlX.putS i y vs)) := by unfold SlX.slH; rw [upd_same]
                have e2 : SlX.slH H2 (m2.ρ n) (c.cad z) (m2.δ n) (SlX.putS i y vs) (m2.δ n) = some (.xd []) := by unfold SlX.slH; rw [upd_ne ne, upd_same]
                have hn : n < h2.n := (List.getElem?_eq_some_iff.mp eo).1
                have st2 : Stay m2 h2.n H2 m2 h2.n (SlX.slH H2 (m2.ρ n) (c.cad z) (m2.δ n) (SlX.putS i y vs)) :=
                  ⟨fun _ _ => rfl, fun a u e t => by rw [SlX.slH_ne (fun z : a = m2.ρ n => t (.inl ⟨n, hn, .inl z⟩)) (fun z : a = m2.δ n => t (.inl ⟨n, hn, .inr z⟩))]; exact e, fun a t => .inl t⟩
                have bfs : Ev.D.bels h2.n fs = true := q2.bel n _ eo
                obtain ⟨q3, x3⟩ := put_ok (H' := SlX.slH H2 (m2.ρ n) (c.cad z) (m2.δ n) (SlX.putS i y vs)) q2 eo est (by rw [e1]; rfl) (by rw [e2]; rfl) (fun b h1 h2 => SlX.slH_ne h1 h2)
                  ⟨_, SlX.slH_slt ne, by rw [e2]; rfl, RelS.put i (rs.stay st2 bfs) (r1'.1.stay st2 r1'.2), ne⟩ (bels_set i bfs r1'.2) (fun hf b hb => bels_set i hb (free_bel hf b))
                have p3 := PostS.ext q2 x3 p2
                exact PostS.here p3 σ ((qq.after y2 q2).after x3 q3)
              · rw [if_neg hi] at est; cases est
      | _ => cases est
end
/-- a list just made goes to a name that may change: it gets a number -/
theorem tofs_new {c : Cn} {ma : E} {i : Nat} {D : Ends} {σ : L2.St} {H : Hp} (q : tOfS c (sNew i ma) D σ H) : tAsg (tNew c ma) (gName i) D σ H := by
  obtain ⟨m, h, l, q, p⟩ := q
  refine ⟨m, h, l, q, ?_⟩
  unfold sNew at p
  cases e : ma l h with
  | stuck => rw [e] at p; exact p
  | exc z h1 => rw [e] at p; exact fun m' H' y z => p m' H' y σ (q.after y z)
  | ok d h1 =>
    rw [e] at p
    cases d with
    | fl xs =>
      intro m1 H1 a vs x q1 r ha
      have nwρ : (m1.push h1.n a a).ρ h1.n = a := if_pos rfl
      have nwδ : (m1.push h1.n a a).δ h1.n = a := if_pos rfl
      have e1 : (upd H1 a (.lst vs)) a = some (.lst vs) := upd_same
      have st : Stay m1 h1.n H1 (m1.push h1.n a a) (h1.n + 1) (upd H1 a (.lst vs)) := by
        refine ⟨fun i hi => if_neg (Nat.ne_of_lt hi), fun b u e _ => by rw [upd_ne (ne_of_none e ha)]; exact e, fun b t => ?_⟩
        rcases t with ⟨i, hi, t⟩ | t
        · by_cases hin : i = h1.n
          · subst hin
            rw [nwρ, nwδ] at t
            rcases t with t | t <;> exact .inr (t ▸ ha)
          · have hi' : i < h1.n := by omega
            have z1 : (m1.push h1.n a a).ρ i = m1.ρ i := if_neg hin
            have z2 : (m1.push h1.n a a).δ i = m1.δ i := if_neg hin
            rw [z1, z2] at t
            exact .inl (.inl ⟨i, hi', t⟩)
        · exact .inl (.inr t)
      obtain ⟨q2, x2⟩ := push_ok (H2 := upd H1 a (.lst vs)) (o := .lst xs) q1 ha ha (by rw [e1]; rfl) (by rw [e1]; rfl) (fun b h _ => upd_ne h)
        ⟨vs, by rw [nwρ]; exact e1, r.1.stay st r.2, by rw [nwρ, nwδ]⟩ (Ev.D.bels_mono (Nat.le_succ _) r.2)
      have hl : (h1.new (.lst xs)).n = h1.n + 1 := by show (h1.os ++ [_]).length = _; simp
      have xx := Ext.trans q.hr.lim x x2
      refine p _ _ xx _ ⟨q2, (q.lr.stay xx.stay xx.n).set i ⟨?_, ?_⟩⟩
      · unfold RelD
        have := nwρ
        rw [show h1.os.length = h1.n from rfl, nwρ]
      · show Nat.blt h1.os.length _ = true
        rw [hl]; exact Nat.ble_eq_true_of_le (Nat.le_refl _)
    | _ =>
      intro m' H' v x q' r
      exact (p.elim : False).elim

/-! ### methods -/
def eMeth (disp : List (Nat × Fn)) (mo : E) (me : EA) : E := fun l h => (mo l h).bind fun x h => (me l h).bind fun xs h => match fldsOf h x with
  | none => .stuck
  | some p => match disp.lookup p.1 with
    | some mf => mf (x :: xs) h
    | none => .stuck
def eCM (z : Nat) (mf : Fn) (me : EA) : E := fun l h => (me l h).bind fun xs h => mf (.cls z :: xs) h
section
variable {X : Cx} {c : Cn} {e o : Expr} {es : List Expr} {m' : Str} {pos apos np' : Pos} {ma mo : E} {me : EA} {np : Nat} {mf : Fn} {pl : Sem Bool}
/-- C.m(e, ..), C a class by its name -/
theorem pv_cm {C p g : Addr} {mc : Value} {x : Str} {z : Nat} (hC : c.cad z = C) (hg : Gl X x) (hm : X.mg x = some (.ref C)) (hdb : (x == ("__debug__" : Str)) = false) (r : ClX.CRead X.K C mc) (cm : ClX.CMet X.K C mc m' p g) (F : CallQ X c g (np + 1) mf) (ha : PA X (e :: es) (tOfA c me))
    (hlen : ∀ l h xs h', me l h = .ok xs h' → xs.length = np)
    (hst : starEach (e :: es) X.env = (false, eval e X.env) :: starEach es X.env) (hpl : (backTo pos (starEach es X.env)).any (·.1) = false)
    (ht : eval (.Call (.Attribute (.Name x np') m' apos) (e :: es) [] pos) X.env = (do
      let ov ← eval (.Name x np') X.env
      standAt apos.atName
      let (f, first) ← holding [ov] (getMethod ov m' pl)
      callWith pos f first (backTo pos (starEach (e :: es) X.env)) (backToKw pos (keywordEach [] X.env)))) :
    PE X (.Call (.Attribute (.Name x np') m' apos) (e :: es) [] pos) (tOf c (eCM z mf me)) := by
  refine ⟨fun pins s σ H Q I ⟨m, h, l, q, w⟩ => ?_⟩
  refine PySem.W.methodCall_KW (pl := pl) (ld_glob I hg hm ?_ hdb) ht
  refine ClX.getmethcm_ok I r cm fun s2 I2 => ?_
  have w2 := alen (mf := fun xs h => mf (.cls z :: xs) h) (n := np) q hlen w
  refine ClX.callwith_cm I2 (ClX.base_none I (Nat.le_refl _)) cm.fi (thn (ha.run pos _ s2 σ H _ I2 ⟨m, h, l, q, w2⟩) fun us s3 ⟨vs, H2, I3, rv, hvs, m1, h1, ds, y1, q1, r1, p1⟩ => ⟨⟨ClX.pin_at I3, I3.kIn⟩, ?_⟩) hst hpl
  have zz := F _ σ H2 s3 Q (.ref C :: us) (.ref C :: vs) m1 h1 (.cls z :: ds) I3 (.cons rfl rv) (by rw [List.length_cons, hvs]) q1 ⟨RelDs.cons (by unfold RelD; rw [hC]) r1.1, Bool.and_eq_true_iff.mpr ⟨rfl, r1.2⟩⟩ p1
  exact thn (wpAny_call (PySem.W.method_call (ClX.pin_at I3) zz)) fun _ _ y => ClX.unpinE y
/-- o.m(e, ..), o an instance -/
theorem pv_meth {disp : List (Nat × Fn)} (hA : ∀ z mf, disp.lookup z = some mf → SlX.SCls X.K (c.cad z) ∧ ∃ g, Meth X.K (c.cad z) m' g ∧ CallP X c g (np + 1) mf) (ho : PE X o (tOf c mo)) (ha : PA X (e :: es) (tOfA c me))
    (hlen : ∀ l h xs h', me l h = .ok xs h' → xs.length = np)
    (hst : starEach (e :: es) X.env = (false, eval e X.env) :: starEach es X.env) (hpl : (backTo pos (starEach es X.env)).any (·.1) = false)
    (ht : eval (.Call (.Attribute o m' apos) (e :: es) [] pos) X.env = (do
      let ov ← eval o X.env
      standAt apos.atName
      let (f, first) ← holding [ov] (getMethod ov m' pl)
      callWith pos f first (backTo pos (starEach (e :: es) X.env)) (backToKw pos (keywordEach [] X.env)))) : True := trivial
end

/-! ### raise, try -/
section
variable {X : Cx} {c : Cn} {e : Expr} {x : Str} {p pos pos' : Pos} {ma : E}
structure ExcP (X : Cx) (C : Addr) (x : Str) : Prop where
  q : PySem.W.excIn X.K C [.type "Exception", .type "BaseException", .type "object"] "Exception.__new__" = true
  g : X.mg x = some (.ref C)
  k : PySem.W.keepIn X.K (.ref C) = true
  s : PySem.W.subIn X.K (.ref C) (.type "BaseException") = some true
  t : PySem.W.typeIn X.K (.ref C) = some (.type "type")
theorem sv_raise {z : Nat} (hc : X.calm = true) (tk : Takes X c.W) (P : ExcP X (c.cad z) x) (hg : Gl X x) (he : PE X e (tOf c ma)) (hs : starEach [e] X.env = (false, eval e X.env) :: starEach [] X.env) (hdb : (x == ("__debug__" : Str)) = false) :
    PS X (.Raise (some (.Call (.Name x p) [e] [] pos')) none pos) (tOfS c (sRaise z ma)) :=
  PS.mono (ps_raise hc tk (SkE.pmk_own1 PySem.F.excBase_Exception P.q P.g P.k (raises_own P.s P.t) hg he hs hdb)) fun D σ H ⟨m, h, l, q, w⟩ =>
    ⟨m, h, l, q, Post.mono (PostS.toS (Rl := RD c) q w) fun v H1 ⟨m1, h1, d, y1, q1, r1, p1⟩ => PostS.here p1 σ (q.after y1 q1)⟩
/-- the clauses of a try: the class's name, which exceptions it takes, the suite -/
inductive HdV (X : Cx) (c : Cn) (ne : Nat) : List ExceptHandler → List (List Nat × S) → List (Value × (Addr → Value → Option Addr → TS)) → Prop
  | nil : HdV X c ne [] [] []
  | cons {x : Str} {C : Addr} {zs : List Nat} {s : S} {b₀ : Stmt} {suite : List Stmt} {np pos' : Pos} {hds : List ExceptHandler} {hs : List (List Nat × S)} {l : List (Value × (Addr → Value → Option Addr → TS))} (hc : Names X x (.ref C))
      (hz : ∀ z, z < ne → PySem.W.exmOne X.K (.ref (c.cad z)) (.ref C) = some (zs.contains z))
      (hsu : ∀ (a : Addr) (oe : Obj) (pn : List (Addr × Obj)), PSs (X.suite a ((a, oe) :: pn)) (b₀ :: suite) (tOfS c s)) (r : HdV X c ne hds hs l) :
      HdV X c ne (.ExceptHandler (some (.Name x np)) none (b₀ :: suite) pos' :: hds) ((zs, s) :: hs) ((.ref C, fun _ _ _ => tOfS c s) :: l)
theorem HdV.ok {ne : Nat} : ∀ {hds : List ExceptHandler} {hs : List (List Nat × S)} {l}, HdV X c ne hds hs l → HdsOk X hds l
  | _, _, _, .nil => .nil
  | _, _, _, .cons hc hz hsu r => .cons hc (fun a oe _ _ pn _ _ => hsu a oe pn) r.ok
def sTryN (ne : Nat) (b : S) (hs : List (List Nat × S)) : S := fun l h => match b l h with
  | .mk (.ex z l1) h1 => if Nat.blt z ne = true then (match hs.find? fun p => p.1.contains z with
    | some p => p.2 l1 h1
    | none => .mk (.ex z l1) h1) else .stuck
  | r => r
theorem wMany_of {ne : Nat} {D : Ends} {m : Mp} {h : Hv} {H : Hp} {l1 : Loc} {σ : L2.St} {z : Nat} (hK : X.K = c.K) (q : R c.K c.cad m h l1 σ H) (hz : z < ne) : ∀ {hds : List ExceptHandler} {hs : List (List Nat × S)} {l}, HdV X c ne hds hs l →
    PostS c D m h H (match hs.find? fun p => p.1.contains z with
      | some p => p.2 l1 h
      | none => .mk (.ex z l1) h) → wMany X.K c.W D l (.ref (c.cad z)) none σ H
  | _, _, _, .nil, p => PostS.here p σ q
  | _, _, _, .cons (zs := zs) (s := s) hc hzz hsu r, p => by
    refine ⟨zs.contains z, hzz z hz, fun hb a _ => ?_, fun hb => wMany_of hK q hz r ?_⟩
    · rw [List.find?_cons_of_pos (by exact hb)] at p
      exact ⟨m, h, l1, q, p⟩
    · rw [List.find?_cons_of_neg (by simp only [hb]; exact Bool.false_ne_true)] at p
      exact p
theorem sv_try {ne : Nat} {body : List Stmt} {hd : ExceptHandler} {hds : List ExceptHandler} {hs : List (List Nat × S)} {l} {sb : S} (hK : X.K = c.K) (hs' : X.stack = X.env :: X.outer) (hf : X.env.frame = some X.env.locals) (tk : Takes X c.W)
    (hb : ∀ (W : WX) (pn : List (Addr × Obj)) (xe : Value → Shared → Prop), Takes (X.tr pn xe) W → PassesOwn (model X.prog X.w) X.A X.env xe → PSs (X.tr pn xe) body (tOfS ⟨c.K, c.cad, W⟩ sb)) (hh : HdV X c ne (hd :: hds) hs l) :
    PS X (.Try body (hd :: hds) [] [] pos) (tOfS c (sTryN ne sb hs)) :=
  PS.mono (ps_try_many (tb := fun W => tOfS ⟨c.K, c.cad, W⟩ sb) hs' hf tk hb hh.ok) fun D σ H ⟨m, h, l0, q, p⟩ => by
    refine ⟨m, h, l0, q, ?_⟩
    unfold sTryN at p
    cases e : sb l0 h with
    | stuck => rw [e] at p; exact p
    | mk f h1 =>
      rw [e] at p
      cases f with
      | nx l1 => exact p
      | rt d => exact p
      | bk l1 => exact p
      | ct l1 => exact p
      | ex z l1 =>
        dsimp only at p
        intro m' H' y σ' q'
        by_cases hz : Nat.blt z ne = true
        · rw [if_pos hz] at p
          exact wMany_of hK q' (blt_of hz) hh (PostS.ext q.hr y p)
        · rw [if_neg hz] at p; exact p.elim
end
end Ev

set_option Elab.async false
set_option linter.all false
set_option maxRecDepth 100000
set_option maxHeartbeats 2000000
/-! Ev7: operations on values. -/
namespace Ev
open PySem PySem.Spec PyProof.Rows L2

/-! ### what is read as a list, as a tuple -/
def seqH (h : Hv) : D → Option (List D)
  | .fl xs => some xs
  | .ref n => match h.os[n]? with
    | some (.lst xs) => some xs
    | _ => none
  | _ => none
def seqL (h : Hv) : D → Option (List D)
  | .sc xs => some xs
  | d => seqH h d
def seqT : D → Option (List D)
  | .tup xs => some xs
  | _ => none
section
variable {c : Cn} {σ : L2.St} {m : Mp} {h : Hv} {H : Hp} {d x y : D} {v u w : V} {xs ys : List D} {Q : VK}
theorem seqH_ok (q : HR c.K c.cad m h H) (r : RD c m h.n H d v) (e : seqH h d = some xs) : ∃ a vs, v = .ref a ∧ H a = some (.lst vs) ∧ RDs c m h.n H xs vs := by
  obtain ⟨r1, r2⟩ := r
  cases d with
  | fl zs =>
    cases e
    unfold RelD at r1
    obtain ⟨a, vs, ev, f, rs⟩ := r1
    exact ⟨a, vs, ev, f.1, rs, r2⟩
  | ref n =>
    have e : (match h.os[n]? with
      | some (.lst xs) => some xs
      | _ => none) = some xs := e
    cases ho : h.os[n]? with
    | none => rw [ho] at e; cases e
    | some o =>
      rw [ho] at e
      cases o with
      | lst zs =>
        cases e
        obtain ⟨vs, e1, rs, _⟩ := q.obj n _ ho
        exact ⟨_, vs, r1, e1, rs, q.bel n _ ho⟩
      | dic _ => cases e
      | ins _ _ => cases e
  | _ => cases e
theorem seqL_ok (q : HR c.K c.cad m h H) (r : RD c m h.n H d v) (e : seqL h d = some xs) : ∃ a vs, v = .ref a ∧ SqL c.K H a vs ∧ RDs c m h.n H xs vs := by
  cases d with
  | sc zs =>
    cases e
    obtain ⟨r1, r2⟩ := r
    unfold RelD at r1
    obtain ⟨a, vs, ev, f, rs⟩ := r1
    exact ⟨a, vs, ev, f.sq, rs, r2⟩
  | _ =>
    obtain ⟨a, vs, ev, e1, rs⟩ := seqH_ok q r e
    exact ⟨a, vs, ev, SqL.of e1, rs⟩
theorem seqT_ok (r : RD c m h.n H d v) (e : seqT d = some xs) : ∃ a vs, v = .ref a ∧ FT m h.n H a vs ∧ RDs c m h.n H xs vs := by
  cases d with
  | tup zs =>
    cases e
    obtain ⟨r1, r2⟩ := r
    unfold RelD at r1
    obtain ⟨a, vs, ev, f, rs⟩ := r1
    exact ⟨a, vs, ev, f, rs, r2⟩
  | _ => cases e
end

/-! ### arithmetic -/
def Op2N (c : Cn) (op : Hv → D → D → Res D) (r : R2) : Prop := ∀ σ m h H x y u v Q, HR c.K c.cad m h H → RD c m h.n H x u → RD c m h.n H y v → PostN c σ m h H (op h x y) Q → r u v H Q
def OpNN (c : Cn) (op : Hv → List D → Res D) (r : List V → Hp → VK → Prop) : Prop := ∀ σ m h H xs us Q, HR c.K c.cad m h H → RDs c m h.n H xs us → PostN c σ m h H (op h xs) Q → r us H Q
section
variable {X : Cx} {c : Cn} {a b e : Expr} {es : List Expr} {pos : Pos} {ma mb : E} {me : EA} {op : Hv → D → D → Res D} {r : R2}
theorem tnew_e2 (ho : Op2N c op r) {σ : L2.St} {H : Hp} {Q : VK} (q : tNew c (e2 op ma mb) σ H Q) : tOp r (tOf c ma) (tOf c mb) σ H Q := by
  obtain ⟨m, h, l, R0, p⟩ := q
  refine ⟨m, h, l, R0, Post.mono (PostN.bind (Rl := RD c) R0.hr p) fun x H1 ⟨m1, h1, d, y1, q1, r1, p1⟩ => ?_⟩
  refine ⟨m1, h1, l, R0.after y1 q1, Post.mono (PostN.bind (Rl := RD c) q1 p1) fun y H2 ⟨m2, h2, e, y2, q2, r2, p2⟩ => ?_⟩
  exact ho σ m2 h2 H2 d e x y Q q2 (rd_ext y2 r1) r2 p2
theorem pn_bin {o : Operator} (hr : OpR X (binaryOp o) r) (ho : Op2N c op r) (ha : PE X a (tOf c ma)) (hb : PE X b (tOf c mb)) : PE X (.BinOp a o b pos) (tNew c (e2 op ma mb)) :=
  PE.mono (pe_op hr ha hb) fun σ H Q q => tnew_e2 ho q
theorem tnew_eA {op : Hv → List D → Res D} {r : List V → Hp → VK → Prop} (ho : OpNN c op r) {σ : L2.St} {H : Hp} {Q : VK} (q : tNew c (eA op me) σ H Q) : tCB r (tOfA c me) σ H Q := by
  obtain ⟨m, h, l, R0, p⟩ := q
  refine ⟨m, h, l, R0, Post.mono (PostN.bind (Rl := RDs c) R0.hr p) fun xs H1 ⟨m1, h1, ds, y1, q1, r1, p1⟩ => ?_⟩
  exact ho σ m1 h1 H1 ds xs Q q1 r1 p1
end
def oAdd (h : Hv) : D → D → Res D
  | .int i, .int j => .ok (.int (i + j)) h
  | .str x, .str y => if szOk (x.length + y.length) = true then .ok (.str (x ++ y)) h else .stuck
  | .tup xs, .tup ys => if szOk (xs.length + ys.length) = true then .ok (.tup (xs ++ ys)) h else .stuck
  | x, y => match seqH h x, seqH h y with
    | some xs, some ys => if szOk (xs.length + ys.length) = true then .ok (.fl (xs ++ ys)) h else .stuck
    | _, _ => .stuck
/-- + of ints, texts, tuples, lists -/
def rAdd4 (K : PySem.W.Frag) : R2 := fun x y H Q => ((rI0 (fun i j => .int (i + j)) x y H Q ∨ ∃ i j, x = .str i ∧ y = .str j ∧ i.length + j.length ≤ sizeLine ∧ Q (.str (i ++ j)) H) ∨ rCat x y H Q) ∨ rCatA K x y H Q
theorem or_add {X : Cx} : OpR X (binaryOp .Add) (rAdd4 X.K) := (((op_add (X := X)).or op_add_str).or op_cat).or op_catA
theorem add_lists {c : Cn} {σ : L2.St} {m : Mp} {h : Hv} {H : Hp} {x y : D} {u v : V} {Q : VK} (q : HR c.K c.cad m h H) (rx : RD c m h.n H x u) (ry : RD c m h.n H y v) (p : PostN c σ m h H (match seqH h x, seqH h y with
    | some xs, some ys => if szOk (xs.length + ys.length) = true then .ok (.fl (xs ++ ys)) h else .stuck
    | _, _ => .stuck) Q) : rCat u v H Q := by
  cases e1 : seqH h x with
  | none => rw [e1] at p; exact p.elim
  | some xs =>
    cases e2 : seqH h y with
    | none => rw [e1, e2] at p; exact p.elim
    | some ys =>
      rw [e1, e2] at p
      obtain ⟨hz, p⟩ := PostN.cond p
      obtain ⟨a, vs, ea, ha, ra⟩ := seqH_ok q rx e1
      obtain ⟨b, ws, eb, hb, rb⟩ := seqH_ok q ry e2
      exact ⟨a, b, vs, ws, ea, eb, ha, hb, by rw [ra.1.length, rb.1.length]; exact szOk_le hz, fun z nz => PostN.put q p ⟨RelDs.append ra.1 rb.1, bels_append ra.2 rb.2⟩ nz⟩
theorem on_add {X : Cx} {c : Cn} (hK : X.K = c.K) : Op2N c oAdd (rAdd4 X.K) := by
  intro σ m h H x y u v Q q rx ry p
  rw [hK]
  cases x with
  | int i =>
    cases y with
    | int j => exact .inl (.inl (.inl ⟨i, j, rx.1, ry.1, PostN.here q p ⟨rfl, rfl⟩ (by intro _ z; cases z)⟩))
    | _ => exact p.elim
  | str i =>
    cases y with
    | str j =>
      obtain ⟨hz, p⟩ := PostN.cond p
      exact .inl (.inl (.inr ⟨i, j, rx.1, ry.1, szOk_le hz, PostN.here q p ⟨rfl, rfl⟩ (by intro _ z; cases z)⟩))
    | _ => exact p.elim
  | tup xs =>
    cases y with
    | tup ys =>
      obtain ⟨hz, p⟩ := PostN.cond p
      obtain ⟨a, vs, ea, fa, ra⟩ := seqT_ok rx rfl
      obtain ⟨b, ws, eb, fb, rb⟩ := seqT_ok ry rfl
      have la := ra.1.length
      have lb := rb.1.length
      refine .inr ⟨a, b, vs, ws, ea, eb, fa.sq, fb.sq, by rw [la, lb]; exact szOk_le hz, fun z => ?_, fun _ z => ?_, fun _ _ z nz => ?_⟩
      · subst z
        have : xs = [] := List.eq_nil_of_length_eq_zero la.symm
        subst this
        rw [← eb]
        exact PostN.here q p ry (by intro _ z; cases z)
      · subst z
        have : ys = [] := List.eq_nil_of_length_eq_zero lb.symm
        subst this
        rw [← ea]
        rw [List.append_nil] at p
        exact PostN.here q p rx (by intro _ z; cases z)
      · exact Post.newT q (show Post c (RD c) σ m h H (.ok (.tup _) h) Q from p) ⟨RelDs.append ra.1 rb.1, bels_append ra.2 rb.2⟩ nz
    | _ => exact p.elim
  | fl xs => exact .inl (.inr (add_lists q rx ry (by cases y <;> exact p)))
  | ref n => exact .inl (.inr (add_lists q rx ry (by cases y <;> exact p)))
  | _ => cases y <;> exact p.elim
/-- an operation of two ints -/
def oI (f : Int → Int → D) (g : Int → Int → Bool) (h : Hv) : D → D → Res D
  | .int i, .int j => if g i j = true then .ok (f i j) h else .stuck
  | _, _ => .stuck
abbrev yes2 : Int → Int → Bool := fun _ _ => true
theorem on_I {c : Cn} {f : Int → Int → D} {f' : Int → Int → V} {g : Int → Int → Bool} {C : Int → Int → Prop} (hf : ∀ m n H i j, RD c m n H (f i j) (f' i j)) (hC : ∀ i j, g i j = true → C i j) : Op2 c (oI f g) (rI C f') := by
  intro σ m h H x y u v Q q rx ry p
  cases x with
  | int i =>
    cases y with
    | int j =>
      obtain ⟨hz, p⟩ := Post.cond p
      exact ⟨i, j, rx.1, ry.1, hC i j hz, Post.here q p (hf _ _ _ i j)⟩
    | _ => exact p.elim
  | _ => cases y <;> exact p.elim
theorem on_I0 {c : Cn} {f : Int → Int → D} {f' : Int → Int → V} (hf : ∀ m n H i j, RD c m n H (f i j) (f' i j)) : Op2 c (oI f yes2) (rI0 f') := by
  intro σ m h H x y u v Q q rx ry p
  cases x with
  | int i =>
    cases y with
    | int j =>
      have p : Post c (RD c) σ m h H (.ok (f i j) h) Q := p
      exact ⟨i, j, rx.1, ry.1, Post.here q p (hf _ _ _ i j)⟩
    | _ => exact p.elim
  | _ => cases y <;> exact p.elim
abbrev oSub := oI (fun i j => .int (i - j)) yes2
abbrev oLt := oI (fun i j => .bl (decide (i < j))) yes2
abbrev oLe := oI (fun i j => .bl (decide (i ≤ j))) yes2
abbrev oGt := oI (fun i j => .bl (decide (j < i))) yes2
abbrev oGe := oI (fun i j => .bl (decide (j ≤ i))) yes2
theorem on_sub {c : Cn} : Op2 c oSub (rI0 fun i j => .int (i - j)) := on_I0 fun _ _ _ _ _ => ⟨rfl, rfl⟩
theorem on_lt {c : Cn} : Op2 c oLt (rI0 fun i j => .bl (decide (i < j))) := on_I0 fun _ _ _ _ _ => ⟨rfl, rfl⟩
theorem on_le {c : Cn} : Op2 c oLe (rI0 fun i j => .bl (decide (i ≤ j))) := on_I0 fun _ _ _ _ _ => ⟨rfl, rfl⟩
theorem on_gt {c : Cn} : Op2 c oGt (rI0 fun i j => .bl (decide (j < i))) := on_I0 fun _ _ _ _ _ => ⟨rfl, rfl⟩
theorem on_ge {c : Cn} : Op2 c oGe (rI0 fun i j => .bl (decide (j ≤ i))) := on_I0 fun _ _ _ _ _ => ⟨rfl, rfl⟩
def posOk (_ j : Int) : Bool := decide (0 < j)
def divOk (_ j : Int) : Bool := decide (0 < j) && decide (j.natAbs.log2 < 9000)
def powOk (i j : Int) : Bool := decide (0 ≤ j) && (decide (j ≤ 1000000) && decide (i.natAbs < 18446744073709551616))
abbrev oMod := oI (fun i j => .int (i % j)) posOk
abbrev oDiv := oI (fun i j => .int (i / j)) divOk
abbrev oPow := oI (fun i j => .int (i ^ j.toNat)) powOk
abbrev oShl := oI (fun i j => .int (i * 2 ^ j.toNat)) powOk
theorem on_mod {c : Cn} : Op2 c oMod (rI (fun _ j => 0 < j) fun i j => .int (i % j)) := on_I (fun _ _ _ _ _ => ⟨rfl, rfl⟩) fun i j h => of_decide_eq_true h
theorem on_div {c : Cn} : Op2 c oDiv (rI CDivW fun i j => .int (i / j)) := on_I (fun _ _ _ _ _ => ⟨rfl, rfl⟩) fun i j h => let z := Bool.and_eq_true_iff.mp h; ⟨of_decide_eq_true z.1, of_decide_eq_true z.2⟩
theorem powOk_of {i j : Int} (h : powOk i j = true) : CPow i j := by
  have z := Bool.and_eq_true_iff.mp h
  have w := Bool.and_eq_true_iff.mp z.2
  exact ⟨of_decide_eq_true z.1, of_decide_eq_true w.1, of_decide_eq_true w.2⟩
theorem on_pow {c : Cn} : Op2 c oPow (rI CPow fun i j => .int (i ^ j.toNat)) := on_I (fun _ _ _ _ _ => ⟨rfl, rfl⟩) fun i j h => powOk_of h
theorem on_shl {c : Cn} : Op2 c oShl (rI CPow fun i j => .int (i * 2 ^ j.toNat)) := on_I (fun _ _ _ _ _ => ⟨rfl, rfl⟩) fun i j h => powOk_of h
/-- * of ints, of a list and an int, of a tuple and an int -/
def rep (xs : List D) (k : Nat) : List D := (List.replicate k xs).flatten
def repOk (n : Nat) (k : Int) : Bool := decide (-1000 ≤ k) && (decide (k ≤ 1000) && Nat.ble n 100)
def oMul (h : Hv) : D → D → Res D
  | .int i, .int j => if decide (i.natAbs.log2 + j.natAbs.log2 < 1000000) = true then .ok (.int (i * j)) h else .stuck
  | .tup xs, .int k => if (repOk xs.length k && (decide (2 ≤ k) && !xs.isEmpty)) = true then .ok (.tup (rep xs k.toNat)) h else .stuck
  | x, .int k => match seqH h x with
    | some xs => if repOk xs.length k = true then .ok (.fl (rep xs k.toNat)) h else .stuck
    | none => .stuck
  | _, _ => .stuck
def rMul3 (K : PySem.W.Frag) : R2 := fun x y H Q => (rI CMulW (fun i j => .int (i * j)) x y H Q ∨ rRep x y H Q) ∨ rRepT K x y H Q
theorem or_mul {X : Cx} : OpR X (binaryOp .Mult) (rMul3 X.K) := ((op_mulW (X := X)).or op_rep).or op_repT
theorem repOk_of {n : Nat} {k : Int} (h : repOk n k = true) : -1000 ≤ k ∧ k ≤ 1000 ∧ n ≤ 100 := by
  have z := Bool.and_eq_true_iff.mp h
  have w := Bool.and_eq_true_iff.mp z.2
  exact ⟨of_decide_eq_true z.1, of_decide_eq_true w.1, Nat.le_of_ble_eq_true w.2⟩
theorem RelDs.rep {K : PySem.W.Frag} {cad : Nat → Addr} {m : Mp} {n : Nat} {H : Hp} {xs : List D} {vs : List V} (r : RelDs K cad m n H xs vs) : ∀ k, RelDs K cad m n H (rep xs k) (List.replicate k vs).flatten
  | 0 => RelDs.nil
  | k + 1 => by
    show RelDs K cad m n H (List.replicate (k + 1) xs).flatten _
    rw [List.replicate_succ, List.replicate_succ, List.flatten_cons, List.flatten_cons]
    exact RelDs.append r (RelDs.rep r k)
theorem bels_rep {n : Nat} {xs : List D} (h : D.bels n xs = true) : ∀ k, D.bels n (rep xs k) = true
  | 0 => rfl
  | k + 1 => by
    show D.bels n (List.replicate (k + 1) xs).flatten = true
    rw [List.replicate_succ, List.flatten_cons]
    exact bels_append h (bels_rep h k)
theorem mul_list {c : Cn} {σ : L2.St} {m : Mp} {h : Hv} {H : Hp} {x : D} {k : Int} {u v : V} {Q : VK} (q : HR c.K c.cad m h H) (rx : RD c m h.n H x u) (ry : v = .int k) (p : PostN c σ m h H (match seqH h x with
    | some xs => if repOk xs.length k = true then .ok (.fl (rep xs k.toNat)) h else .stuck
    | none => .stuck) Q) : rRep u v H Q := by
  cases e1 : seqH h x with
  | none => rw [e1] at p; exact p.elim
  | some xs =>
    rw [e1] at p
    obtain ⟨hz, p⟩ := PostN.cond p
    obtain ⟨z1, z2, z3⟩ := repOk_of hz
    obtain ⟨a, vs, ea, ha, ra⟩ := seqH_ok q rx e1
    refine ⟨a, k, vs, ea, ry, ha, by omega, by omega, ?_, fun z nz => PostN.put q p ⟨ra.1.rep _, bels_rep ra.2 _⟩ nz⟩
    rw [ra.1.length, sizeLine_eq]
    have : xs.length * k.toNat ≤ 100 * 1000 := Nat.mul_le_mul z3 (by omega)
    omega
theorem on_mul {X : Cx} {c : Cn} (hK : X.K = c.K) : Op2N c oMul (rMul3 X.K) := by
  intro σ m h H x y u v Q q rx ry p
  rw [hK]
  cases y with
  | int j =>
    cases x with
    | int i =>
      obtain ⟨hz, p⟩ := PostN.cond p
      exact .inl (.inl ⟨i, j, rx.1, ry.1, by unfold CMulW; exact of_decide_eq_true hz, PostN.here q p ⟨rfl, rfl⟩ (by intro _ z; cases z)⟩)
    | tup xs =>
      obtain ⟨hz, p⟩ := PostN.cond p
      have z := Bool.and_eq_true_iff.mp hz
      obtain ⟨z1, z2, z3⟩ := repOk_of z.1
      have w := Bool.and_eq_true_iff.mp z.2
      obtain ⟨a, vs, ea, fa, ra⟩ := seqT_ok rx rfl
      have la := ra.1.length
      refine .inr ⟨a, j, vs, ea, ry.1, fa.sq, fun e => ?_, of_decide_eq_true w.1, z2, by omega, fun z nz => Post.newT q (show Post c (RD c) σ m h H (.ok (.tup _) h) Q from p) ⟨ra.1.rep _, bels_rep ra.2 _⟩ nz⟩
      subst e
      have : xs = [] := List.eq_nil_of_length_eq_zero la.symm
      subst this
      simp at w
    | fl xs => exact .inl (.inr (mul_list q rx ry.1 p))
    | ref n => exact .inl (.inr (mul_list q rx ry.1 p))
    | _ => exact p.elim
  | _ => cases x <;> exact p.elim
def oNeg (h : Hv) : D → Res D
  | .int i => .ok (.int (-i)) h
  | _ => .stuck
theorem on_neg {c : Cn} : Op1 c oNeg (rU fun i => .int (-i)) := by
  intro σ m h H x u Q q rx p
  cases x with
  | int i => exact ⟨i, rx.1, Post.here q p ⟨rfl, rfl⟩⟩
  | _ => exact p.elim

/-! ### is, in, == -/
def isNone : D → Bool
  | .non => true
  | _ => false
theorem relD_non {c : Cn} {m : Mp} {n : Nat} {H : Hp} {x : D} {u : V} (r : RelD c.K c.cad m n H x u) : decide (u = .non) = isNone x := by
  cases x with
  | non => rw [show u = .non from r]; rfl
  | bl b => rw [show u = .bl b from r]; rfl
  | int b => rw [show u = .int b from r]; rfl
  | str b => rw [show u = .str b from r]; rfl
  | ref b => rw [show u = .ref (m.ρ b) from r]; rfl
  | tup b => unfold RelD at r; obtain ⟨a, vs, e, _⟩ := r; rw [e]; rfl
  | fl b => unfold RelD at r; obtain ⟨a, vs, e, _⟩ := r; rw [e]; rfl
  | sc b => unfold RelD at r; obtain ⟨a, vs, e, _⟩ := r; rw [e]; rfl
  | fi z b => unfold RelD at r; obtain ⟨a, dx, vs, e, _⟩ := r; rw [e]; rfl
  | unset => exact ((show c.K ≠ c.K from r) rfl).elim
  | ty b => rw [show u = .ty b from r]; rfl
  | cls b => rw [show u = .ref (c.cad b) from r]; rfl
def oIs (h : Hv) : D → D → Res D
  | x, .non => .ok (.bl (isNone x)) h
  | _, _ => .stuck
def oIsNot (h : Hv) : D → D → Res D
  | x, .non => .ok (.bl (!isNone x)) h
  | _, _ => .stuck
theorem on_is {c : Cn} : Op2 c oIs (fun x y H Q => y = .non ∧ Q (.bl (decide (x = .non))) H) := by
  intro σ m h H x y u v Q q rx ry p
  cases y with
  | non =>
    have p' : Post c (RD c) σ m h H (.ok (.bl (isNone x)) h) Q := by cases x <;> exact p
    exact ⟨ry.1, by rw [relD_non rx.1]; exact Post.here q p' ⟨rfl, rfl⟩⟩
  | _ => cases x <;> exact p.elim
theorem on_isnot {c : Cn} : Op2 c oIsNot (fun x y H Q => y = .non ∧ Q (.bl (!decide (x = .non))) H) := by
  intro σ m h H x y u v Q q rx ry p
  cases y with
  | non =>
    have p' : Post c (RD c) σ m h H (.ok (.bl (!isNone x)) h) Q := by cases x <;> exact p
    exact ⟨ry.1, by rw [relD_non rx.1]; exact Post.here q p' ⟨rfl, rfl⟩⟩
  | _ => cases x <;> exact p.elim
/-- flat values as the layer has them -/
def flat : D → Option V
  | .non => some .non
  | .bl b => some (.bl b)
  | .int i => some (.int i)
  | .str x => some (.str x)
  | _ => none
def flats : List D → Option (List V)
  | [] => some []
  | d :: ds => match flat d with
    | some v => (flats ds).map (v :: ·)
    | none => none
theorem flat_ok {c : Cn} {m : Mp} {n : Nat} {H : Hp} {x : D} {u v : V} (r : RelD c.K c.cad m n H x u) (e : flat x = some v) : u = v ∧ flatV v = true := by
  cases x <;> cases e <;> exact ⟨r, rfl⟩
theorem flats_ok {c : Cn} {m : Mp} {n : Nat} {H : Hp} : ∀ {xs : List D} {us vs : List V}, RelDs c.K c.cad m n H xs us → flats xs = some vs → us = vs ∧ vs.all flatV = true
  | [], _, _, r, e => by
    unfold RelDs at r
    cases e
    exact ⟨r, rfl⟩
  | x :: xs, _, _, r, e => by
    unfold RelDs at r
    obtain ⟨v, w, e1, h1, h2⟩ := r
    unfold flats at e
    cases ef : flat x with
    | none => rw [ef] at e; cases e
    | some y =>
      rw [ef] at e
      cases eg : flats xs with
      | none => rw [eg] at e; cases e
      | some ys =>
        rw [eg] at e
        cases e
        obtain ⟨p1, p2⟩ := flat_ok h1 ef
        obtain ⟨p3, p4⟩ := flats_ok h2 eg
        subst p1 p3
        exact ⟨e1, by simp [p2, p4]⟩
def seqLT (h : Hv) (d : D) : Option (List D) := match seqT d with
  | some xs => some xs
  | none => seqL h d
theorem seqLT_ok {c : Cn} {m : Mp} {h : Hv} {H : Hp} {d : D} {v : V} {xs : List D} (q : HR c.K c.cad m h H) (r : RD c m h.n H d v) (e : seqLT h d = some xs) : ∃ a vs, v = .ref a ∧ (SqL c.K H a vs ∨ SqT c.K H a vs) ∧ RDs c m h.n H xs vs := by
  unfold seqLT at e
  cases et : seqT d with
  | some ys =>
    rw [et] at e
    cases e
    obtain ⟨a, vs, ev, f, rs⟩ := seqT_ok r et
    exact ⟨a, vs, ev, .inr f.sq, rs⟩
  | none =>
    rw [et] at e
    obtain ⟨a, vs, ev, f, rs⟩ := seqL_ok q r e
    exact ⟨a, vs, ev, .inl f, rs⟩
def inOf (h : Hv) (x y : D) : Option Bool := match flat x, seqLT h y with
  | some v, some ys => (flats ys).map fun vs => inV v vs
  | _, _ => none
def oIn (h : Hv) (x y : D) : Res D := match inOf h x y with
  | some b => .ok (.bl b) h
  | none => .stuck
def oNotIn (h : Hv) (x y : D) : Res D := match inOf h x y with
  | some b => .ok (.bl (!b)) h
  | none => .stuck
theorem inOf_ok {c : Cn} {m : Mp} {h : Hv} {H : Hp} {x y : D} {u v : V} {b : Bool} (q : HR c.K c.cad m h H) (rx : RD c m h.n H x u) (ry : RD c m h.n H y v) (e : inOf h x y = some b) :
    ∃ p xs, v = .ref p ∧ (SqL c.K H p xs ∨ SqT c.K H p xs) ∧ flatV u = true ∧ xs.all flatV = true ∧ inV u xs = b := by
  unfold inOf at e
  cases e1 : flat x with
  | none => rw [e1] at e; cases e
  | some w =>
    cases e2 : seqLT h y with
    | none => rw [e1, e2] at e; cases e
    | some ys =>
      rw [e1, e2] at e
      dsimp only at e
      cases e3 : flats ys with
      | none => rw [e3] at e; cases e
      | some vs =>
        rw [e3] at e
        cases e
        obtain ⟨a, ws, ev, f, rs⟩ := seqLT_ok q ry e2
        obtain ⟨p1, p2⟩ := flat_ok rx.1 e1
        obtain ⟨p3, p4⟩ := flats_ok rs.1 e3
        subst p1 p3
        exact ⟨a, ws, ev, f, p2, p4, rfl⟩
theorem on_in {X : Cx} {c : Cn} (hK : X.K = c.K) : Op2 c oIn (rIn X.K false) := by
  intro σ m h H x y u v Q q rx ry p
  unfold oIn at p
  rw [hK]
  cases e : inOf h x y with
  | none => rw [e] at p; exact p.elim
  | some b =>
    rw [e] at p
    obtain ⟨a, xs, ev, f, f1, f2, f3⟩ := inOf_ok q rx ry e
    exact ⟨a, xs, ev, f, f1, f2, by rw [if_neg Bool.false_ne_true, f3]; exact Post.here q p ⟨rfl, rfl⟩⟩
theorem on_notin {X : Cx} {c : Cn} (hK : X.K = c.K) : Op2 c oNotIn (rIn X.K true) := by
  intro σ m h H x y u v Q q rx ry p
  unfold oNotIn at p
  rw [hK]
  cases e : inOf h x y with
  | none => rw [e] at p; exact p.elim
  | some b =>
    rw [e] at p
    obtain ⟨a, xs, ev, f, f1, f2, f3⟩ := inOf_ok q rx ry e
    exact ⟨a, xs, ev, f, f1, f2, by rw [if_pos rfl, f3]; exact Post.here q p ⟨rfl, rfl⟩⟩
end Ev

set_option Elab.async false
set_option linter.all false
set_option maxRecDepth 100000
set_option maxHeartbeats 2000000
/-! Ev8: ==, built-ins, subscripts, methods of lists, dicts, texts, truth. -/
namespace Ev
open PySem PySem.Spec PyProof.Rows L2

/-! ### == of data -/
section
variable {c : Cn} {m : Mp} {h : Hv} {H : Hp}
mutual
theorem pdFlat_ok : ∀ {d : D} {v : V} {e : PyData} {n : Nat}, RelD c.K c.cad m n H d v → pdFlat d = some e → Dp c.K H v e
  | .non, _, _, _, r, e => by cases e; rw [show _ = V.non from r]; exact .non
  | .bl b, _, _, _, r, e => by cases e; rw [show _ = V.bl b from r]; exact .bl b
  | .int i, _, _, _, r, e => by cases e; rw [show _ = V.int i from r]; exact .int i
  | .str x, _, _, _, r, e => by cases e; rw [show _ = V.str x from r]; exact .str x
  | .tup xs, _, _, _, r, e => by
    unfold pdFlat at e
    cases es : pdFlats xs with
    | none => rw [es] at e; cases e
    | some ys =>
      rw [es] at e; cases e
      unfold RelD at r
      obtain ⟨a, vs, ev, f, rs⟩ := r
      rw [ev]
      exact .tup f.sq (pdFlats_ok rs es)
  | .fl xs, _, _, _, r, e => by
    unfold pdFlat at e
    cases es : pdFlats xs with
    | none => rw [es] at e; cases e
    | some ys =>
      rw [es] at e; cases e
      unfold RelD at r
      obtain ⟨a, vs, ev, f, rs⟩ := r
      rw [ev]
      exact .lst f.sq (pdFlats_ok rs es)
  | .ref _, _, _, _, _, e => by cases e
  | .sc _, _, _, _, _, e => by cases e
  | .fi _ _, _, _, _, _, e => by cases e
  | .unset, _, _, _, _, e => by cases e
  | .ty _, _, _, _, _, e => by cases e
  | .cls _, _, _, _, _, e => by cases e
theorem pdFlats_ok : ∀ {ds : List D} {vs : List V} {es : List PyData} {n : Nat}, RelDs c.K c.cad m n H ds vs → pdFlats ds = some es → DpAll c.K H vs es
  | [], _, _, _, r, e => by
    cases e
    unfold RelDs at r
    subst r
    exact .nil
  | d :: ds, _, _, _, r, e => by
    unfold pdFlats at e
    cases e1 : pdFlat d with
    | none => rw [e1] at e; cases e
    | some x =>
      rw [e1] at e
      dsimp only at e
      cases e2 : pdFlats ds with
      | none => rw [e2] at e; cases e
      | some xs =>
        rw [e2] at e; cases e
        unfold RelDs at r
        obtain ⟨v, w, e3, h1, h2⟩ := r
        subst e3
        exact .cons (pdFlat_ok h1 e1) (pdFlats_ok h2 e2)
end
mutual
theorem pd_ok (q : HR c.K c.cad m h H) : ∀ {d : D} {v : V} {e : PyData}, RelD c.K c.cad m h.n H d v → D.pd h.os d = some e → Dp c.K H v e
  | .non, _, _, r, e => by cases e; rw [show _ = V.non from r]; exact .non
  | .bl b, _, _, r, e => by cases e; rw [show _ = V.bl b from r]; exact .bl b
  | .int i, _, _, r, e => by cases e; rw [show _ = V.int i from r]; exact .int i
  | .str x, _, _, r, e => by cases e; rw [show _ = V.str x from r]; exact .str x
  | .tup xs, _, _, r, e => by
    unfold D.pd at e
    cases es : D.pds h.os xs with
    | none => rw [es] at e; cases e
    | some ys =>
      rw [es] at e; cases e
      unfold RelD at r
      obtain ⟨a, vs, ev, f, rs⟩ := r
      rw [ev]
      exact .tup f.sq (pds_ok q rs es)
  | .fl xs, _, _, r, e => by
    unfold D.pd at e
    cases es : D.pds h.os xs with
    | none => rw [es] at e; cases e
    | some ys =>
      rw [es] at e; cases e
      unfold RelD at r
      obtain ⟨a, vs, ev, f, rs⟩ := r
      rw [ev]
      exact .lst f.sq (pds_ok q rs es)
  | .ref n, v, _, r, e => by
    unfold D.pd at e
    have r : v = .ref (m.ρ n) := r
    rw [r]
    cases ho : h.os[n]? with
    | none => rw [ho] at e; cases e
    | some o =>
      rw [ho] at e
      cases o with
      | lst xs =>
        dsimp only at e
        cases es : pdFlats xs with
        | none => rw [es] at e; cases e
        | some ys =>
          rw [es] at e; cases e
          obtain ⟨vs, e1, rs, _⟩ := q.obj n _ ho
          exact .lst (SqL.of e1) (pdFlats_ok rs es)
      | dic _ => cases e
      | ins _ _ => cases e
  | .sc _, _, _, _, e => by cases e
  | .fi _ _, _, _, _, e => by cases e
  | .unset, _, _, _, e => by cases e
  | .ty _, _, _, _, e => by cases e
  | .cls _, _, _, _, e => by cases e
theorem pds_ok (q : HR c.K c.cad m h H) : ∀ {ds : List D} {vs : List V} {es : List PyData}, RelDs c.K c.cad m h.n H ds vs → D.pds h.os ds = some es → DpAll c.K H vs es
  | [], _, _, r, e => by
    cases e
    unfold RelDs at r
    subst r
    exact .nil
  | d :: ds, _, _, r, e => by
    unfold D.pds at e
    cases e1 : D.pd h.os d with
    | none => rw [e1] at e; cases e
    | some x =>
      rw [e1] at e
      dsimp only at e
      cases e2 : D.pds h.os ds with
      | none => rw [e2] at e; cases e
      | some xs =>
        rw [e2] at e; cases e
        unfold RelDs at r
        obtain ⟨v, w, e3, h1, h2⟩ := r
        subst e3
        exact .cons (pd_ok q h1 e1) (pds_ok q h2 e2)
end
end
def eqOf (h : Hv) (x y : D) : Option Bool := match D.pd h.os x, D.pd h.os y with
  | some a, some b => if (SeqAt.shaped a && SeqAt.shaped b) = true then some (PyData.eqv a b) else none
  | _, _ => none
def oEqD (h : Hv) (x y : D) : Res D := match eqOf h x y with
  | some b => .ok (.bl b) h
  | none => .stuck
def oNeD (h : Hv) (x y : D) : Res D := match eqOf h x y with
  | some b => .ok (.bl (!b)) h
  | none => .stuck
theorem eqOf_ok {c : Cn} {m : Mp} {h : Hv} {H : Hp} {x y : D} {u v : V} {b : Bool} (q : HR c.K c.cad m h H) (rx : RD c m h.n H x u) (ry : RD c m h.n H y v) (e : eqOf h x y = some b) :
    ∃ d e, Dp c.K H u d ∧ Dp c.K H v e ∧ SeqAt.shaped d = true ∧ SeqAt.shaped e = true ∧ PyData.eqv d e = b := by
  unfold eqOf at e
  cases e1 : D.pd h.os x with
  | none => rw [e1] at e; cases e
  | some a =>
    cases e2 : D.pd h.os y with
    | none => rw [e1, e2] at e; cases e
    | some b' =>
      rw [e1, e2] at e
      dsimp only at e
      by_cases hs : (SeqAt.shaped a && SeqAt.shaped b') = true
      · rw [if_pos hs] at e
        cases e
        have z := Bool.and_eq_true_iff.mp hs
        exact ⟨a, b', pd_ok q rx.1 e1, pd_ok q ry.1 e2, z.1, z.2, rfl⟩
      · rw [if_neg hs] at e; cases e
theorem on_eqD {X : Cx} {c : Cn} (hK : X.K = c.K) : Op2 c oEqD (rEqD X.K) := by
  intro σ m h H x y u v Q q rx ry p
  unfold oEqD at p
  cases e : eqOf h x y with
  | none => rw [e] at p; exact p.elim
  | some b =>
    rw [e] at p
    obtain ⟨d, e', h1, h2, h3, h4, h5⟩ := eqOf_ok q rx ry e
    rw [hK]
    exact ⟨d, e', h1, h2, h3, h4, by rw [h5]; exact Post.here q p ⟨rfl, rfl⟩⟩
theorem on_neD {X : Cx} {c : Cn} (hK : X.K = c.K) : Op2 c oNeD (rNeD X.K) := by
  intro σ m h H x y u v Q q rx ry p
  unfold oNeD at p
  cases e : eqOf h x y with
  | none => rw [e] at p; exact p.elim
  | some b =>
    rw [e] at p
    obtain ⟨d, e', h1, h2, h3, h4, h5⟩ := eqOf_ok q rx ry e
    rw [hK]
    exact ⟨d, e', h1, h2, h3, h4, by rw [h5]; exact Post.here q p ⟨rfl, rfl⟩⟩

/-! ### built-ins of one list, of two ints .. -/
def intsOf : List D → Option (List Int)
  | [] => some []
  | .int i :: ds => (intsOf ds).map (i :: ·)
  | _ => none
def boolsOf : List D → Option (List Bool)
  | [] => some []
  | .bl i :: ds => (boolsOf ds).map (i :: ·)
  | _ => none
theorem intsOf_ok {c : Cn} {m : Mp} {n : Nat} {H : Hp} : ∀ {ds : List D} {vs : List V} {ns : List Int}, RelDs c.K c.cad m n H ds vs → intsOf ds = some ns → vs = ns.map V.int ∧ ds = ns.map D.int
  | [], _, _, r, e => by cases e; unfold RelDs at r; exact ⟨r, rfl⟩
  | d :: ds, _, _, r, e => by
    cases d with
    | int i =>
      unfold intsOf at e
      cases e2 : intsOf ds with
      | none => rw [e2] at e; cases e
      | some xs =>
        rw [e2] at e; cases e
        unfold RelDs at r
        obtain ⟨v, w, e3, h1, h2⟩ := r
        have h1 : v = .int i := h1
        obtain ⟨p1, p2⟩ := intsOf_ok h2 e2
        subst e3 h1
        exact ⟨by rw [p1]; rfl, by rw [p2]; rfl⟩
    | _ => cases e
theorem boolsOf_ok {c : Cn} {m : Mp} {n : Nat} {H : Hp} : ∀ {ds : List D} {vs : List V} {ns : List Bool}, RelDs c.K c.cad m n H ds vs → boolsOf ds = some ns → vs = ns.map V.bl
  | [], _, _, r, e => by cases e; unfold RelDs at r; exact r
  | d :: ds, _, _, r, e => by
    cases d with
    | bl i =>
      unfold boolsOf at e
      cases e2 : boolsOf ds with
      | none => rw [e2] at e; cases e
      | some xs =>
        rw [e2] at e; cases e
        unfold RelDs at r
        obtain ⟨v, w, e3, h1, h2⟩ := r
        have h1 : v = .bl i := h1
        have p1 := boolsOf_ok h2 e2
        subst e3 h1
        rw [p1]; rfl
    | _ => cases e
def minL : List Int → Int
  | [] => 0
  | n :: ns => ns.foldl (fun a b => if b < a then b else a) n
def maxL : List Int → Int
  | [] => 0
  | n :: ns => ns.foldl (fun a b => if a < b then b else a) n
theorem min_fold : ∀ (ns : List Int) (n : Int), (ns.foldl (fun a b => if b < a then b else a) n = n ∨ ns.foldl (fun a b => if b < a then b else a) n ∈ ns) ∧ ns.foldl (fun a b => if b < a then b else a) n ≤ n ∧ ∀ y ∈ ns, ns.foldl (fun a b => if b < a then b else a) n ≤ y
  | [], n => ⟨.inl rfl, Int.le_refl _, fun _ h => by simp at h⟩
  | k :: ns, n => by
    obtain ⟨h1, h2, h3⟩ := min_fold ns (if k < n then k else n)
    have hk : (if k < n then k else n) ≤ k ∧ (if k < n then k else n) ≤ n := by split <;> omega
    refine ⟨?_, Int.le_trans h2 hk.2, fun y hy => ?_⟩
    · rcases h1 with h1 | h1
      · show ns.foldl _ (if k < n then k else n) = n ∨ _
        rw [h1]
        by_cases z : k < n
        · rw [if_pos z]; exact .inr (by show ns.foldl _ (if k < n then k else n) ∈ k :: ns; rw [h1, if_pos z]; exact List.mem_cons_self)
        · rw [if_neg z]; exact .inl rfl
      · exact .inr (List.mem_cons_of_mem _ h1)
    · rcases List.mem_cons.mp hy with e | e
      · rw [e]; exact Int.le_trans h2 hk.1
      · exact h3 y e
theorem max_fold : ∀ (ns : List Int) (n : Int), (ns.foldl (fun a b => if a < b then b else a) n = n ∨ ns.foldl (fun a b => if a < b then b else a) n ∈ ns) ∧ n ≤ ns.foldl (fun a b => if a < b then b else a) n ∧ ∀ y ∈ ns, y ≤ ns.foldl (fun a b => if a < b then b else a) n
  | [], n => ⟨.inl rfl, Int.le_refl _, fun _ h => by simp at h⟩
  | k :: ns, n => by
    obtain ⟨h1, h2, h3⟩ := max_fold ns (if n < k then k else n)
    have hk : k ≤ (if n < k then k else n) ∧ n ≤ (if n < k then k else n) := by split <;> omega
    refine ⟨?_, Int.le_trans hk.2 h2, fun y hy => ?_⟩
    · rcases h1 with h1 | h1
      · show ns.foldl _ (if n < k then k else n) = n ∨ _
        rw [h1]
        by_cases z : n < k
        · rw [if_pos z]; exact .inr (by show ns.foldl _ (if n < k then k else n) ∈ k :: ns; rw [h1, if_pos z]; exact List.mem_cons_self)
        · rw [if_neg z]; exact .inl rfl
      · exact .inr (List.mem_cons_of_mem _ h1)
    · rcases List.mem_cons.mp hy with e | e
      · rw [e]; exact Int.le_trans hk.1 h2
      · exact h3 y e
theorem minL_ok {ns : List Int} (h : 0 < ns.length) : minL ns ∈ ns ∧ ∀ y ∈ ns, minL ns ≤ y := by
  cases ns with
  | nil => cases h
  | cons n ns =>
    obtain ⟨h1, h2, h3⟩ := min_fold ns n
    refine ⟨?_, fun y hy => ?_⟩
    · rcases h1 with e | e
      · show ns.foldl _ n ∈ _; rw [e]; exact List.mem_cons_self
      · exact List.mem_cons_of_mem _ e
    · rcases List.mem_cons.mp hy with e | e
      · rw [e]; exact h2
      · exact h3 y e
theorem maxL_ok {ns : List Int} (h : 0 < ns.length) : maxL ns ∈ ns ∧ ∀ y ∈ ns, y ≤ maxL ns := by
  cases ns with
  | nil => cases h
  | cons n ns =>
    obtain ⟨h1, h2, h3⟩ := max_fold ns n
    refine ⟨?_, fun y hy => ?_⟩
    · rcases h1 with e | e
      · show ns.foldl _ n ∈ _; rw [e]; exact List.mem_cons_self
      · exact List.mem_cons_of_mem _ e
    · rcases List.mem_cons.mp hy with e | e
      · rw [e]; exact h2
      · exact h3 y e
/-- an operation on the ints of one list -/
def oInts (g : List Int → Bool) (f : List Int → D) (h : Hv) : List D → Res D
  | [x] => match seqL h x with
    | some xs => (match intsOf xs with
      | some ns => if g ns = true then .ok (f ns) h else .stuck
      | none => .stuck)
    | none => .stuck
  | _ => .stuck
def oBools (f : List Bool → D) (h : Hv) : List D → Res D
  | [x] => match seqL h x with
    | some xs => (match boolsOf xs with
      | some ns => .ok (f ns) h
      | none => .stuck)
    | none => .stuck
  | _ => .stuck
def someI (ns : List Int) : Bool := Nat.blt 0 ns.length
section
variable {c : Cn} {σ : L2.St} {m : Mp} {h : Hv} {H : Hp} {xs : List D} {us : List V} {Q : VK}
theorem one_of (r : RDs c m h.n H xs us) {x : D} (e : xs = [x]) : ∃ u, us = [u] ∧ RD c m h.n H x u := by
  subst e
  obtain ⟨r1, r2⟩ := r
  unfold RelDs at r1
  obtain ⟨v, w, e1, h1, h2⟩ := r1
  unfold RelDs at h2
  subst h2
  exact ⟨v, e1, h1, (Bool.and_eq_true_iff.mp r2).1⟩
theorem two_of (r : RDs c m h.n H xs us) {x y : D} (e : xs = [x, y]) : ∃ u v, us = [u, v] ∧ RD c m h.n H x u ∧ RD c m h.n H y v := by
  subst e
  obtain ⟨r1, r2⟩ := r
  unfold RelDs at r1
  obtain ⟨v, w, e1, h1, h2⟩ := r1
  have b := Bool.and_eq_true_iff.mp r2
  obtain ⟨u, e2, r3⟩ := one_of (xs := [y]) (us := w) (c := c) (m := m) (h := h) (H := H) ⟨h2, b.2⟩ rfl
  subst e2
  exact ⟨v, u, e1, ⟨h1, b.1⟩, r3⟩
theorem ints_of {g : List Int → Bool} {f : List Int → D} (q : HR c.K c.cad m h H) (r : RDs c m h.n H xs us) (p : Post c (RD c) σ m h H (oInts g f h xs) Q) :
    ∃ (a : Addr) (ns : List Int), us = [.ref a] ∧ SqL c.K H a (ns.map V.int) ∧ g ns = true ∧ Post c (RD c) σ m h H (.ok (f ns) h) Q := by
  match xs, r, p with
  | [x], r, p =>
    obtain ⟨u, eu, rx⟩ := one_of r rfl
    have p : Post c (RD c) σ m h H (match seqL h x with
      | some xs => (match intsOf xs with
        | some ns => if g ns = true then .ok (f ns) h else .stuck
        | none => .stuck)
      | none => .stuck) Q := p
    cases e1 : seqL h x with
    | none => rw [e1] at p; exact p.elim
    | some ys =>
      rw [e1] at p
      dsimp only at p
      cases e2 : intsOf ys with
      | none => rw [e2] at p; exact p.elim
      | some ns =>
        rw [e2] at p
        obtain ⟨hg, p⟩ := Post.cond p
        obtain ⟨a, vs, ev, f', rs⟩ := seqL_ok q rx e1
        obtain ⟨p1, _⟩ := intsOf_ok rs.1 e2
        subst p1 ev
        exact ⟨a, ns, eu, f', hg, p⟩
  | [], _, p => exact p.elim
  | _ :: _ :: _, _, p => exact p.elim
theorem bools_of {f : List Bool → D} (q : HR c.K c.cad m h H) (r : RDs c m h.n H xs us) (p : Post c (RD c) σ m h H (oBools f h xs) Q) :
    ∃ (a : Addr) (ns : List Bool), us = [.ref a] ∧ SqL c.K H a (ns.map V.bl) ∧ Post c (RD c) σ m h H (.ok (f ns) h) Q := by
  match xs, r, p with
  | [x], r, p =>
    obtain ⟨u, eu, rx⟩ := one_of r rfl
    have p : Post c (RD c) σ m h H (match seqL h x with
      | some xs => (match boolsOf xs with
        | some ns => .ok (f ns) h
        | none => .stuck)
      | none => .stuck) Q := p
    cases e1 : seqL h x with
    | none => rw [e1] at p; exact p.elim
    | some ys =>
      rw [e1] at p
      dsimp only at p
      cases e2 : boolsOf ys with
      | none => rw [e2] at p; exact p.elim
      | some ns =>
        rw [e2] at p
        obtain ⟨a, vs, ev, f', rs⟩ := seqL_ok q rx e1
        have p1 := boolsOf_ok rs.1 e2
        subst p1 ev
        exact ⟨a, ns, eu, f', p⟩
  | [], _, p => exact p.elim
  | _ :: _ :: _, _, p => exact p.elim
end
abbrev oMin1 := oInts someI fun ns => .int (minL ns)
abbrev oMax1 := oInts someI fun ns => .int (maxL ns)
abbrev oSum := oInts (fun _ => true) fun ns => .int ns.sum
abbrev oAny := oBools fun bs => .bl (bs.any id)
abbrev oAll := oBools fun bs => .bl (bs.all id)
section
variable {X : Cx} {c : Cn} (hK : X.K = c.K)
theorem on_min1 (hK : X.K = c.K) : OpN c oMin1 (rMin X.K) := fun σ m h H xs us Q q r p => by
  obtain ⟨a, ns, eu, s, hg, p⟩ := ints_of q r p
  have hl : 0 < ns.length := blt_of hg
  refine ⟨a, ns, eu, by rw [hK]; exact s, hl, fun k hk hm => ?_⟩
  obtain ⟨z1, z2⟩ := minL_ok hl
  have : k = minL ns := Int.le_antisymm (hm _ z1) (z2 k hk)
  subst this
  exact Post.here q p ⟨rfl, rfl⟩
theorem on_max1 (hK : X.K = c.K) : OpN c oMax1 (rMax X.K) := fun σ m h H xs us Q q r p => by
  obtain ⟨a, ns, eu, s, hg, p⟩ := ints_of q r p
  have hl : 0 < ns.length := blt_of hg
  refine ⟨a, ns, eu, by rw [hK]; exact s, hl, fun k hk hm => ?_⟩
  obtain ⟨z1, z2⟩ := maxL_ok hl
  have : k = maxL ns := Int.le_antisymm (z2 k hk) (hm _ z1)
  subst this
  exact Post.here q p ⟨rfl, rfl⟩
theorem on_sum (hK : X.K = c.K) : OpN c oSum (rSum X.K) := fun σ m h H xs us Q q r p => by
  obtain ⟨a, ns, eu, s, hg, p⟩ := ints_of q r p
  exact ⟨a, ns, eu, by rw [hK]; exact s, Post.here q p ⟨rfl, rfl⟩⟩
theorem on_any (hK : X.K = c.K) : OpN c oAny (rAny X.K) := fun σ m h H xs us Q q r p => by
  obtain ⟨a, ns, eu, s, p⟩ := bools_of q r p
  exact ⟨a, ns, eu, by rw [hK]; exact s, Post.here q p ⟨rfl, rfl⟩⟩
theorem on_all (hK : X.K = c.K) : OpN c oAll (rAll X.K) := fun σ m h H xs us Q q r p => by
  obtain ⟨a, ns, eu, s, p⟩ := bools_of q r p
  exact ⟨a, ns, eu, by rw [hK]; exact s, Post.here q p ⟨rfl, rfl⟩⟩
end
def oMin2 (h : Hv) : List D → Res D
  | [.int i, .int j] => .ok (.int (if j < i then j else i)) h
  | _ => .stuck
def oMax2 (h : Hv) : List D → Res D
  | [.int i, .int j] => .ok (.int (if j > i then j else i)) h
  | _ => .stuck
theorem on_min2 {c : Cn} : OpN c oMin2 (fun xs H Q => ∃ i j, xs = [.int i, .int j] ∧ Q (.int (if j < i then j else i)) H) := by
  intro σ m h H xs us Q q r p
  unfold oMin2 at p
  split at p
  · rename_i i j
    obtain ⟨u, v, e, r1, r2⟩ := two_of r rfl
    have e1 : u = .int i := r1.1
    have e2 : v = .int j := r2.1
    subst e1 e2
    exact ⟨i, j, e, Post.here q p ⟨rfl, rfl⟩⟩
  · exact p.elim
theorem on_max2 {c : Cn} : OpN c oMax2 (fun xs H Q => ∃ i j, xs = [.int i, .int j] ∧ Q (.int (if j > i then j else i)) H) := by
  intro σ m h H xs us Q q r p
  unfold oMax2 at p
  split at p
  · rename_i i j
    obtain ⟨u, v, e, r1, r2⟩ := two_of r rfl
    have e1 : u = .int i := r1.1
    have e2 : v = .int j := r2.1
    subst e1 e2
    exact ⟨i, j, e, Post.here q p ⟨rfl, rfl⟩⟩
  · exact p.elim
def oAbs (h : Hv) : List D → Res D
  | [.int i] => .ok (.int (if i < 0 then -i else i)) h
  | _ => .stuck
theorem on_abs {c : Cn} : OpN c oAbs (fun xs H Q => ∃ i, xs = [.int i] ∧ Q (.int (if i < 0 then -i else i)) H) := by
  intro σ m h H xs us Q q r p
  unfold oAbs at p
  split at p
  · rename_i i
    obtain ⟨u, e, r1⟩ := one_of r rfl
    have e1 : u = .int i := r1.1
    subst e1
    exact ⟨i, e, Post.here q p ⟨rfl, rfl⟩⟩
  · exact p.elim
def oIntB (h : Hv) : List D → Res D
  | [.int i] => .ok (.int i) h
  | [.bl b] => .ok (.int (if b then 1 else 0)) h
  | _ => .stuck
theorem on_int {c : Cn} : OpN c oIntB (fun xs H Q => (∃ i, xs = [.int i] ∧ Q (.int i) H) ∨ ∃ k, xs = [.bl k] ∧ Q (.int (if k then 1 else 0)) H) := by
  intro σ m h H xs us Q q r p
  unfold oIntB at p
  split at p
  · rename_i i
    obtain ⟨u, e, r1⟩ := one_of r rfl
    have e1 : u = .int i := r1.1
    subst e1
    exact .inl ⟨i, e, Post.here q p ⟨rfl, rfl⟩⟩
  · rename_i i
    obtain ⟨u, e, r1⟩ := one_of r rfl
    have e1 : u = .bl i := r1.1
    subst e1
    exact .inr ⟨i, e, Post.here q p ⟨rfl, rfl⟩⟩
  · exact p.elim
/-- len -/
def lenOf (h : Hv) (x : D) : Option Nat := match x with
  | .str y => if szOk y.length = true then some y.length else none
  | .ref n => (match h.os[n]? with
    | some (.lst xs) => some xs.length
    | some (.dic kvs) => some kvs.length
    | _ => none)
  | .fl xs => some xs.length
  | .sc xs => some xs.length
  | .tup xs => some xs.length
  | _ => none
def oLen (h : Hv) : List D → Res D
  | [x] => match lenOf h x with
    | some n => .ok (.int n) h
    | none => .stuck
  | _ => .stuck
def rLen2 (K : PySem.W.Frag) : List V → Hp → VK → Prop := fun xs H Q => (∃ x n, xs = [x] ∧ LenV K x H n ∧ Q (.int n) H) ∨ ∃ a kvs, xs = [V.ref a] ∧ H a = some (.dK kvs) ∧ Q (.int kvs.length) H
theorem on_len {X : Cx} {c : Cn} (hK : X.K = c.K) : OpN c oLen (rLen2 X.K) := by
  intro σ m h H xs us Q q r p
  rw [hK]
  match xs, r, p with
  | [], _, p => exact p.elim
  | _ :: _ :: _, _, p => exact p.elim
  | [x], r, p =>
    obtain ⟨u, e, rx⟩ := one_of r rfl
    have p : Post c (RD c) σ m h H (match lenOf h x with
      | some n => .ok (.int n) h
      | none => .stuck) Q := p
    cases el : lenOf h x with
    | none => rw [el] at p; exact p.elim
    | some n =>
      rw [el] at p
      have fin : Q (.int n) H := Post.here q p ⟨rfl, rfl⟩
      have seq : ∀ {ys : List D}, seqL h x = some ys → ys.length = n → rLen2 c.K us H Q := fun {ys} e1 e2 => by
        obtain ⟨a, vs, ev, s, rs⟩ := seqL_ok q rx e1
        exact .inl ⟨u, n, e, by rw [ev]; exact .inl ⟨vs, s, by rw [rs.1.length, e2]⟩, fin⟩
      cases x with
      | fl ys => cases el; exact seq rfl rfl
      | sc ys => cases el; exact seq rfl rfl
      | tup ys =>
        cases el
        obtain ⟨a, vs, ev, s, rs⟩ := seqT_ok rx rfl
        exact .inl ⟨u, _, e, by rw [ev]; exact .inr ⟨vs, s.sq, by rw [rs.1.length]⟩, fin⟩
      | str y =>
        unfold lenOf at el
        dsimp only at el
        by_cases hz : szOk y.length = true
        · rw [if_pos hz] at el
          cases el
          have e1 : u = .str y := rx.1
          exact .inl ⟨u, _, e, by rw [e1]; exact ⟨szOk_le hz, rfl⟩, fin⟩
        · rw [if_neg hz] at el; cases el
      | ref k =>
        unfold lenOf at el
        dsimp only at el
        cases ho : h.os[k]? with
        | none => rw [ho] at el; cases el
        | some o =>
          rw [ho] at el
          cases o with
          | lst ys => cases el; exact seq (by show (match h.os[k]? with | some (.lst xs) => some xs | _ => none) = some ys; rw [ho]) rfl
          | dic kvs =>
            cases el
            obtain ⟨ws, e1, e2, _, _⟩ := q.obj k _ ho
            have e3 : u = .ref (m.ρ k) := rx.1
            subst e3
            refine .inr ⟨_, ws, e, e1, ?_⟩
            have : ws.length = kvs.length := by
              have := congrArg List.length e2
              simpa using this
            rw [this]; exact fin
          | ins _ _ => cases el
      | _ => cases el
/-- tuple(x), list(x) -/
def oTuple (h : Hv) : List D → Res D
  | [x] => match seqLT h x with
    | some xs => .ok (.tup xs) h
    | none => .stuck
  | _ => .stuck
def oList (h : Hv) : List D → Res D
  | [x] => match seqLT h x with
    | some xs => .ok (.fl xs) h
    | none => .stuck
  | _ => .stuck
theorem on_tuple {X : Cx} {c : Cn} (hK : X.K = c.K) : OpN c oTuple (fun xs H Q => ∃ p ys, xs = [.ref p] ∧ ((SqL X.K H p ys ∧ ∀ l, H l = none → Q (.ref l) (upd H l (.tup ys))) ∨ (SqT X.K H p ys ∧ Q (.ref p) H))) := by
  intro σ m h H xs us Q q r p
  match xs, r, p with
  | [], _, p => exact p.elim
  | _ :: _ :: _, _, p => exact p.elim
  | [x], r, p =>
    obtain ⟨u, e, rx⟩ := one_of r rfl
    have p : Post c (RD c) σ m h H (match seqLT h x with
      | some xs => .ok (.tup xs) h
      | none => .stuck) Q := p
    cases el : seqLT h x with
    | none => rw [el] at p; exact p.elim
    | some ys =>
      rw [el] at p
      rw [hK]
      unfold seqLT at el
      cases et : seqT x with
      | some zs =>
        rw [et] at el
        cases el
        obtain ⟨a, vs, ev, f, rs⟩ := seqT_ok rx et
        cases x <;> cases et
        subst ev
        exact ⟨a, vs, e, .inr ⟨f.sq, Post.here q p rx⟩⟩
      | none =>
        rw [et] at el
        obtain ⟨a, vs, ev, f, rs⟩ := seqL_ok q rx el
        subst ev
        exact ⟨a, vs, e, .inl ⟨f, fun l nl => Post.newT q p rs nl⟩⟩
theorem on_list {X : Cx} {c : Cn} (hK : X.K = c.K) : OpNN c oList (fun xs H Q => ∃ p ys, xs = [.ref p] ∧ (SqL X.K H p ys ∨ SqT X.K H p ys) ∧ ∀ l, H l = none → Q (.ref l) (upd H l (.lst ys))) := by
  intro σ m h H xs us Q q r p
  match xs, r, p with
  | [], _, p => exact p.elim
  | _ :: _ :: _, _, p => exact p.elim
  | [x], r, p =>
    obtain ⟨u, e, rx⟩ := one_of r rfl
    have p : PostN c σ m h H (match seqLT h x with
      | some xs => .ok (.fl xs) h
      | none => .stuck) Q := p
    cases el : seqLT h x with
    | none => rw [el] at p; exact p.elim
    | some ys =>
      rw [el] at p
      rw [hK]
      obtain ⟨a, vs, ev, f, rs⟩ := seqLT_ok q rx el
      subst ev
      exact ⟨a, vs, e, f, fun l nl => PostN.put q p rs nl⟩

/-! ### subscripts -/
def oIx (h : Hv) (x y : D) : Res D := match y with
  | .int i => match x with
    | .str z => if szOk z.length = true then (match atI z.cps.toList i with
      | some k => .ok (.str ⟨#[k]⟩) h
      | none => .stuck) else .stuck
    | _ => match seqLT h x with
      | some xs => (match atI xs i with
        | some d => .ok d h
        | none => .stuck)
      | none => .stuck
  | _ => .stuck
theorem RelDs.atI {c : Cn} {m : Mp} {n : Nat} {H : Hp} {xs : List D} {vs : List V} {i : Int} {d : D} (r : RDs c m n H xs vs) (e : L2.atI xs i = some d) : ∃ v, L2.atI vs i = some v ∧ RD c m n H d v := by
  unfold L2.atI at e ⊢
  rw [r.1.length]
  cases ej : ixN xs.length i with
  | none => rw [ej] at e; cases e
  | some j =>
    rw [ej] at e
    have e : xs[j]? = some d := e
    obtain ⟨v, e1, r1⟩ := r.1.get e
    exact ⟨v, e1, r1, bels_get r.2 e⟩
theorem on_ix {X : Cx} {c : Cn} (hK : X.K = c.K) : Op2 c oIx (rIx X.K) := by
  intro σ m h H x y u v Q q rx ry p
  rw [hK]
  cases y with
  | int i =>
    have hy : v = .int i := ry.1
    have seq : Post c (RD c) σ m h H (match seqLT h x with
      | some xs => (match L2.atI xs i with
        | some d => .ok d h
        | none => .stuck)
      | none => .stuck) Q → rIx c.K u v H Q := fun p => by
      cases e : seqLT h x with
      | none => rw [e] at p; exact p.elim
      | some xs =>
        rw [e] at p
        dsimp only at p
        obtain ⟨a, vs, ev, f, rs⟩ := seqLT_ok q rx e
        cases ei : L2.atI xs i with
        | none => rw [ei] at p; exact p.elim
        | some d =>
          rw [ei] at p
          obtain ⟨w, ew, rw'⟩ := RelDs.atI rs ei
          rcases f with f | f
          · exact .inl ⟨a, vs, i, w, ev, hy, f, ew, Post.here q p rw'⟩
          · exact .inr (.inl ⟨a, vs, i, w, ev, hy, f, ew, Post.here q p rw'⟩)
    cases x with
    | str z =>
      have p : Post c (RD c) σ m h H (if szOk z.length = true then (match L2.atI z.cps.toList i with
        | some k => .ok (.str ⟨#[k]⟩) h
        | none => .stuck) else .stuck) Q := p
      obtain ⟨hz, p⟩ := Post.cond p
      cases ei : L2.atI z.cps.toList i with
      | none => rw [ei] at p; exact p.elim
      | some k =>
        rw [ei] at p
        exact .inr (.inr ⟨z, i, k, rx.1, hy, szOk_le hz, ei, Post.here q p ⟨rfl, rfl⟩⟩)
    | _ => exact seq p
  | _ => exact p.elim
theorem pv_ix {X : Cx} {c : Cn} {a b : Expr} {pos : Pos} {ma mb : E} {op : Hv → D → D → Res D} {r : R2} (hr : IxR X r) (ho : Op2 c op r) (ha : PE X a (tOf c ma)) (hb : PE X b (tOf c mb)) (hs : PlainIx b) : PE X (.Subscript a b pos) (tOf c (e2 op ma mb)) :=
  PE.mono (pe_ix hr ha hb hs) fun σ H Q q => tof_e2 ho q

/-! ### truth -/
def oTru (h : Hv) (x : D) : Res Bool := match x with
  | .non => .ok false h
  | .bl b => .ok b h
  | .int i => .ok (i != 0) h
  | .str y => if szOk y.length = true then .ok ((y.length : Int) != 0) h else .stuck
  | _ => match seqLT h x with
    | some xs => .ok (!xs.isEmpty) h
    | none => .stuck
theorem isEmpty_len {α β : Type} {xs : List α} {ys : List β} (h : xs.length = ys.length) : xs.isEmpty = ys.isEmpty := by
  cases xs <;> cases ys <;> first | rfl | cases h
theorem ot_tru {X : Cx} {c : Cn} (hK : X.K = c.K) : OpT c oTru (fun x H Q => ∃ k, TruV X.K x H k ∧ Q k H) := by
  intro σ m h H x u Q q rx p
  rw [hK]
  have seq : Post c RB σ m h H (match seqLT h x with
    | some xs => .ok (!xs.isEmpty) h
    | none => .stuck) Q → ∃ k, TruV c.K u H k ∧ Q k H := fun p => by
    cases e : seqLT h x with
    | none => rw [e] at p; exact p.elim
    | some xs =>
      rw [e] at p
      obtain ⟨a, vs, ev, f, rs⟩ := seqLT_ok q rx e
      subst ev
      have hl := isEmpty_len rs.1.length
      refine ⟨!xs.isEmpty, ?_, Post.here q p rfl⟩
      rw [← hl]
      rcases f with f | f
      · exact .inl ⟨vs, f, rfl⟩
      · exact .inr (.inl ⟨vs, f, rfl⟩)
  cases x with
  | non => exact ⟨false, by rw [show u = .non from rx.1]; rfl, Post.here q p rfl⟩
  | bl b => exact ⟨b, by rw [show u = .bl b from rx.1]; rfl, Post.here q p rfl⟩
  | int i => exact ⟨i != 0, by rw [show u = .int i from rx.1]; rfl, Post.here q p rfl⟩
  | str y =>
    obtain ⟨hz, p⟩ := Post.cond p
    exact ⟨(y.length : Int) != 0, by rw [show u = .str y from rx.1]; exact ⟨szOk_le hz, rfl⟩, Post.here q p rfl⟩
  | _ => exact seq p

/-! ### methods of lists -/
/-- o.m(..) of a built-in: the receiver, the arguments -/
def eBm (op : Hv → D → List D → Res D) (o : E) (a : EA) : E := fun l h => (o l h).bind fun x h => (a l h).bind fun xs h => op h x xs
/-- the receiver must be a list that may change all the while -/
def isRefL (h : Hv) : D → Bool
  | .ref n => match h.os[n]? with
    | some (.lst _) => true
    | _ => false
  | _ => false
def eBmL (op : Hv → D → List D → Res D) (o : E) (a : EA) : E := fun l h => (o l h).bind fun x h => if isRefL h x = true then (a l h).bind fun xs h => op h x xs else .stuck
def OpM (c : Cn) (op : Hv → D → List D → Res D) (r : V → List V → Hp → VK → Prop) : Prop := ∀ σ m h H x u xs us Q, HR c.K c.cad m h H → RD c m h.n H x u → RDs c m h.n H xs us → Post c (RD c) σ m h H (op h x xs) Q → r u us H Q
theorem refL_ok {c : Cn} {m : Mp} {h : Hv} {H : Hp} {x : D} {u : V} (hr : HR c.K c.cad m h H) (r : RD c m h.n H x u) (e : isRefL h x = true) : tyV c.K "list" u H := by
  cases x with
  | ref n =>
    unfold isRefL at e
    dsimp only at e
    cases ho : h.os[n]? with
    | none => rw [ho] at e; cases e
    | some o =>
      rw [ho] at e
      cases o with
      | lst xs =>
        obtain ⟨vs, e1, _, _⟩ := hr.obj n _ ho
        have e2 : u = .ref (m.ρ n) := r.1
        subst e2
        exact .inl ⟨rfl, vs, SqL.of e1⟩
      | dic _ => cases e
      | ins _ _ => cases e
  | _ => cases e
section
variable {X : Cx} {c : Cn} {o e : Expr} {es : List Expr} {name : Str} {apos cpos : Pos} {mo : E} {me : EA} {op : Hv → D → List D → Res D} {r : V → List V → Hp → VK → Prop} {id : String}
theorem tof_bmL (hK : X.K = c.K) (ho : OpM c op r) {σ : L2.St} {H : Hp} {Q : VK} (q : tOf c (eBmL op mo me) σ H Q) : tBM X.K "list" r (tOf c mo) (tOfA c me) σ H Q := by
  obtain ⟨m, h, l, R0, p⟩ := q
  refine ⟨m, h, l, R0, Post.mono (Post.bind (Rl := RD c) R0.hr p) fun x H1 ⟨m1, h1, d, y1, q1, r1, p1⟩ => ?_⟩
  obtain ⟨hl, p1⟩ := Post.cond p1
  refine ⟨by rw [hK]; exact refL_ok q1 r1 hl, m1, h1, l, R0.after y1 q1, Post.mono (Post.bind (Rl := RDs c) q1 p1) fun xs H2 ⟨m2, h2, ds, y2, q2, r2, p2⟩ => ?_⟩
  exact ho σ m2 h2 H2 d x ds xs Q q2 (rd_ext y2 r1) r2 p2
theorem pv_bmL (hK : X.K = c.K) (pa : PlainAttrs "list") (slot : Slot "list" name id) (hty : typeOf (.builtin id) = pure (.type "method_descriptor")) (hm : MtR X id r) (hop : OpM c op r) (ho : PE X o (tOf c mo)) (ha : PA X (e :: es) (tOfA c me))
    (hbase : attributeBase o name X.env (eval o X.env) = eval o X.env)
    (hfew : ((backTo cpos (starEach (e :: es) X.env)).all (fun x => !x.1) && (backToKw cpos (keywordEach [] X.env)).all (fun x => x.1.isSome)
      && decide ((e :: es).length + ([] : List Keyword).length + (if ([] : List Keyword).isEmpty then 0 else 1) < 30)) = true)
    (hline : (apos.endLine == cpos.line) = true) (hs : starEach (e :: es) X.env = (false, eval e X.env) :: starEach es X.env) (hplain : (backTo cpos (starEach es X.env)).any (·.1) = false) :
    PE X (.Call (.Attribute o name apos) (e :: es) [] cpos) (tOf c (eBmL op mo me)) :=
  PE.mono (pe_bm pa slot hty hm ho ha hbase hfew hline hs hplain) fun σ H Q q => tof_bmL hK hop q
theorem pv_bmL0 (hK : X.K = c.K) (pa : PlainAttrs "list") (slot : Slot "list" name id) (hty : typeOf (.builtin id) = pure (.type "method_descriptor")) (hm : MtR X id r) (hop : OpM c op r) (ho : PE X o (tOf c mo))
    (hbase : attributeBase o name X.env (eval o X.env) = eval o X.env) (hline : (apos.endLine == cpos.line) = true) : PE X (.Call (.Attribute o name apos) [] [] cpos) (tOf c (eBmL op mo aNil)) :=
  PE.mono (pe_bm0 pa slot hty hm ho hbase hline) fun σ H Q q => by
    obtain ⟨m, h, l, R0, p⟩ := q
    refine ⟨m, h, l, R0, Post.mono (Post.bind (Rl := RD c) R0.hr p) fun x H1 ⟨m1, h1, d, y1, q1, r1, p1⟩ => ?_⟩
    obtain ⟨hl, p1⟩ := Post.cond p1
    exact ⟨by rw [hK]; exact refL_ok q1 r1 hl, hop σ m1 h1 H1 d x [] [] Q q1 r1 ⟨RelDs.nil, rfl⟩ p1⟩
end
/-- a list changed at its number -/
def putL (h : Hv) (n : Nat) (xs : List D) (d : D) (k : Hv → Res D) : Res D := match h.put n (.lst xs) d with
  | some h' => k h'
  | none => .stuck
theorem putL_ok {c : Cn} {σ : L2.St} {m : Mp} {h : Hv} {H : Hp} {n : Nat} {xs ys : List D} {d e : D} {vs ws : List V} {w : V} {Q : VK} (q : HR c.K c.cad m h H) (ho : h.os[n]? = some (.lst xs)) (e1 : H (m.ρ n) = some (.lst vs)) (ed : m.δ n = m.ρ n) (r : RDs c m h.n H ys ws)
    (sub : d.free = true → ∀ b, D.bels b xs = true → D.bels b ys = true) (re : RD c m h.n H e w) (p : Post c (RD c) σ m h H (putL h n ys d fun h' => .ok e h') Q) : Q w (upd H (m.ρ n) (.lst ws)) := by
  unfold putL at p
  cases ep : h.put n (.lst ys) d with
  | none => rw [ep] at p; exact p.elim
  | some h' =>
    rw [ep] at p
    have hn : n < h.n := (List.getElem?_eq_some_iff.mp ho).1
    have st : Stay m h.n H m h.n (upd H (m.ρ n) (.lst ws)) := ⟨fun _ _ => rfl, fun a u e t => by rw [upd_ne (fun z : a = m.ρ n => t (.inl ⟨n, hn, .inl z⟩))]; exact e, fun a t => .inl t⟩
    obtain ⟨q2, x2⟩ := put_ok (H' := upd H (m.ρ n) (.lst ws)) q ho ep (by rw [upd_same]; rfl) (by rw [ed, upd_same]; rfl) (fun b h1 _ => upd_ne h1) ⟨ws, upd_same, r.1.stay st r.2, ed⟩ r.2 sub
    have re2 := rd_ext x2 re
    exact p m _ w x2 q2 re2
def oAppend (h : Hv) (x : D) : List D → Res D
  | [d] => match x with
    | .ref n => (match h.os[n]? with
      | some (.lst xs) => if szOk xs.length = true then putL h n (xs ++ [d]) d fun h' => .ok .non h' else .stuck
      | _ => .stuck)
    | _ => .stuck
  | _ => .stuck
def oPop (h : Hv) (x : D) : List D → Res D
  | [] => match x with
    | .ref n => (match h.os[n]? with
      | some (.lst xs) => (match xs[xs.length - 1]? with
        | some d => putL h n xs.dropLast .non fun h' => .ok d h'
        | none => .stuck)
      | _ => .stuck)
    | _ => .stuck
  | _ => .stuck
def oReverse (h : Hv) (x : D) : List D → Res D
  | [] => match x with
    | .ref n => (match h.os[n]? with
      | some (.lst xs) => putL h n xs.reverse .non fun h' => .ok .non h'
      | _ => .stuck)
    | _ => .stuck
  | _ => .stuck
def oExtend (h : Hv) (x : D) : List D → Res D
  | [.fl ys] => match x with
    | .ref n => (match h.os[n]? with
      | some (.lst xs) => if szOk (xs.length + ys.length) = true then putL h n (xs ++ ys) (.fl ys) fun h' => .ok .non h' else .stuck
      | _ => .stuck)
    | _ => .stuck
  | _ => .stuck
section
variable {c : Cn}
theorem om_append : OpM c oAppend rAppend := by
  intro σ m h H x u xs us Q q rx rs p
  match xs, rs, p with
  | [], _, p => exact p.elim
  | _ :: _ :: _, _, p => exact p.elim
  | [d], rs, p =>
    obtain ⟨v, ev, rd⟩ := one_of rs rfl
    cases x with
    | ref n =>
      have p : Post c (RD c) σ m h H (match h.os[n]? with
        | some (.lst xs) => if szOk xs.length = true then putL h n (xs ++ [d]) d fun h' => .ok .non h' else .stuck
        | _ => .stuck) Q := p
      cases ho : h.os[n]? with
      | none => rw [ho] at p; exact p.elim
      | some o =>
        rw [ho] at p
        cases o with
        | lst ys =>
          dsimp only at p
          obtain ⟨hz, p⟩ := Post.cond p
          obtain ⟨vs, e1, r1, ed⟩ := q.obj n _ ho
          have eu : u = .ref (m.ρ n) := rx.1
          have hz2 : ys.length ≤ 100000 := Nat.le_of_ble_eq_true hz
          refine ⟨_, vs, v, eu, ev, e1, by rw [r1.length, sizeLine_eq]; omega, ?_⟩
          exact putL_ok (e := .non) (w := .non) q ho e1 ed ⟨RelDs.append r1 (RelDs.cons rd.1 RelDs.nil), bels_append (q.bel n _ ho) (Bool.and_eq_true_iff.mpr ⟨rd.2, rfl⟩)⟩
            (fun hf b hb => bels_append hb (Bool.and_eq_true_iff.mpr ⟨free_bel hf b, rfl⟩)) ⟨rfl, rfl⟩ p
        | dic _ => exact p.elim
        | ins _ _ => exact p.elim
    | _ => exact p.elim
theorem om_pop : OpM c oPop rPop := by
  intro σ m h H x u xs us Q q rx rs p
  match xs, rs, p with
  | _ :: _, _, p => exact p.elim
  | [], rs, p =>
    have ev : us = [] := by
      have := rs.1
      unfold RelDs at this
      exact this
    cases x with
    | ref n =>
      have p : Post c (RD c) σ m h H (match h.os[n]? with
        | some (.lst xs) => (match xs[xs.length - 1]? with
          | some d => putL h n xs.dropLast .non fun h' => .ok d h'
          | none => .stuck)
        | _ => .stuck) Q := p
      cases ho : h.os[n]? with
      | none => rw [ho] at p; exact p.elim
      | some o =>
        rw [ho] at p
        cases o with
        | lst ys =>
          dsimp only at p
          obtain ⟨vs, e1, r1, ed⟩ := q.obj n _ ho
          have bo : D.bels h.n ys = true := q.bel n _ ho
          have eu : u = .ref (m.ρ n) := rx.1
          cases el : ys[ys.length - 1]? with
          | none => rw [el] at p; exact p.elim
          | some d =>
            rw [el] at p
            obtain ⟨w, ew, rw'⟩ := r1.get el
            refine ⟨_, vs, w, eu, ev, e1, by rw [r1.length]; exact ew, ?_⟩
            have sub : ∀ b, D.bels b ys = true → D.bels b ys.dropLast = true := fun b hb => bels_sub hb fun d hd => List.dropLast_subset _ hd
            have rdl : RelDs c.K c.cad m h.n H ys.dropLast vs.dropLast := by
              rw [List.dropLast_eq_take, List.dropLast_eq_take, r1.length]
              exact r1.take _
            exact putL_ok q ho e1 ed ⟨rdl, sub _ bo⟩ (fun _ => sub) ⟨rw', bels_get bo el⟩ p
        | dic _ => exact p.elim
        | ins _ _ => exact p.elim
    | _ => exact p.elim
theorem om_reverse : OpM c oReverse rReverse := by
  intro σ m h H x u xs us Q q rx rs p
  match xs, rs, p with
  | _ :: _, _, p => exact p.elim
  | [], rs, p =>
    have ev : us = [] := by
      have := rs.1
      unfold RelDs at this
      exact this
    cases x with
    | ref n =>
      have p : Post c (RD c) σ m h H (match h.os[n]? with
        | some (.lst xs) => putL h n xs.reverse .non fun h' => .ok .non h'
        | _ => .stuck) Q := p
      cases ho : h.os[n]? with
      | none => rw [ho] at p; exact p.elim
      | some o =>
        rw [ho] at p
        cases o with
        | lst ys =>
          dsimp only at p
          obtain ⟨vs, e1, r1, ed⟩ := q.obj n _ ho
          have bo : D.bels h.n ys = true := q.bel n _ ho
          have eu : u = .ref (m.ρ n) := rx.1
          have sub : ∀ b, D.bels b ys = true → D.bels b ys.reverse = true := fun b hb => bels_sub hb fun d hd => List.mem_reverse.mp hd
          exact ⟨_, vs, eu, ev, e1, putL_ok (e := .non) (w := .non) q ho e1 ed ⟨r1.reverse, sub _ bo⟩ (fun _ => sub) ⟨rfl, rfl⟩ p⟩
        | dic _ => exact p.elim
        | ins _ _ => exact p.elim
    | _ => exact p.elim
theorem om_extend : OpM c oExtend rExtend := by
  intro σ m h H x u xs us Q q rx rs p
  unfold oExtend at p
  split at p
  · rename_i zs
    obtain ⟨v, ev, rd⟩ := one_of rs rfl
    cases x with
    | ref n =>
      dsimp only at p
      cases ho : h.os[n]? with
      | none => rw [ho] at p; exact p.elim
      | some o =>
        rw [ho] at p
        cases o with
        | lst ys =>
          dsimp only at p
          obtain ⟨hz, p⟩ := Post.cond p
          obtain ⟨vs, e1, r1, ed⟩ := q.obj n _ ho
          have eu : u = .ref (m.ρ n) := rx.1
          obtain ⟨b, ws, eb, hb, rb⟩ := seqH_ok (xs := zs) q rd rfl
          subst eb
          refine ⟨_, b, vs, ws, eu, ev, e1, hb, by rw [r1.length, rb.1.length]; exact szOk_le hz, ?_⟩
          exact putL_ok (e := .non) (w := .non) q ho e1 ed ⟨RelDs.append r1 rb.1, bels_append (q.bel n _ ho) rb.2⟩ (fun hf b hb => bels_append hb (free_bel (d := .fl zs) hf b)) ⟨rfl, rfl⟩ p
        | dic _ => exact p.elim
        | ins _ _ => exact p.elim
    | _ => exact p.elim
  · exact p.elim
end
end Ev

set_option Elab.async false
set_option linter.all false
set_option maxRecDepth 100000
set_option maxHeartbeats 2000000
/-! Ev9: stores, dicts, slices, isinstance, bool. -/
namespace Ev
open PySem PySem.Spec PyProof.Rows L2

/-! ### x op= e -/
theorem pip_add {X : Cx} : PIp X .Add (rI0 fun i j => .int (i + j)) := fun pins s σ H x y v u Q I rx ry h => iop_add pins s σ H x y v u Q I rx ry h
theorem pip_sub {X : Cx} : PIp X .Sub (rI0 fun i j => .int (i - j)) := fun pins s σ H x y v u Q I rx ry h => iop_sub pins s σ H x y v u Q I rx ry h
abbrev oPlus := oI (fun i j => .int (i + j)) yes2
theorem on_plus {c : Cn} : Op2 c oPlus (rI0 fun i j => .int (i + j)) := on_I0 fun _ _ _ _ _ => ⟨rfl, rfl⟩
section
variable {X : Cx} {c : Cn} {x : Str} {e : Expr} {ma : E} {i : Nat} {p pos : Pos} {op : Hv → D → D → Res D} {r : R2} {o : Operator}
theorem sv_aug (hN : X.N.Nodup) (hi : X.N[i]? = some x) (hx : L2.Loc X.env.scope x) (he : PE X e (tOf c ma)) (hr : PIp X o r) (ho : Op2 c op r) (hf : X.fn x = true ∨ X.env.scope.names.lookup x = some .local) : PS X (.AugAssign (.Name x p) o e pos) (tOfS c (sAug i op ma)) :=
  PS.mono (ps_aug hN hi hx he hr hf) fun D σ H ⟨m, h, l, q, p⟩ => by
    unfold sAug at p
    cases el : l[i]? with
    | none => rw [el] at p; exact p.elim
    | some d =>
      rw [el] at p
      by_cases hu : d = .unset
      · subst hu; exact p.elim
      · have p : PostS c D m h H ((ma l h).toS l fun y h => (op h d y).toS l fun z h => .mk (.nx (l.set i z)) h) := by
          cases d <;> first | exact p | exact absurd rfl hu
        obtain ⟨v, e1, rv⟩ := q.lr.at_ i d el hu
        have bv := q.lr.bel i d el
        refine ⟨v, e1, m, h, l, q, Post.mono (PostS.toS (Rl := RD c) q p) fun y H1 ⟨m1, h1, d2, y1, q1, r1, p1⟩ => ?_⟩
        have q2 := q.after y1 q1
        refine ho σ m1 h1 H1 d d2 v y _ q1 (rd_ext y1 ⟨rv, bv⟩) r1 (Post.mono (PostS.toS (Rl := RD c) q2 p1) fun z H2 ⟨m2, h2, d3, y2, q3, r2, p2⟩ => ?_)
        exact PostS.here p2 _ ((q2.after y2 q3).set i r2)
end

/-! ### dicts: keys ints and texts -/
def keyOf? : D → Option Key
  | .int i => some (.inl i)
  | .str x => some (.inr x)
  | _ => none
theorem key_ok {c : Cn} {m : Mp} {n : Nat} {H : Hp} {d : D} {v : V} {k : Key} (r : RelD c.K c.cad m n H d v) (e : keyOf? d = some k) : v = kV k := by
  cases d <;> cases e <;> exact r
def getD : List (Key × D) → Key → Option D
  | [], _ => none
  | p :: r, k => if p.1 = k then some p.2 else getD r k
def putD : List (Key × D) → Key → D → List (Key × D)
  | [], k, v => [(k, v)]
  | p :: r, k, v => if p.1 = k then (p.1, v) :: r else p :: putD r k v
theorem putK_cons {κ : Type} [DecidableEq κ] (p : κ × V) (r : List (κ × V)) (k : κ) (v : V) (nd : ((p :: r).map Prod.fst).Nodup) : putK (p :: r) k v = if p.1 = k then (p.1, v) :: r else p :: putK r k v := by
  unfold putK
  by_cases h : p.1 = k
  · rw [if_pos h, if_pos (by simp [h]), List.map_cons, if_pos h]
    congr 1
    have : ∀ q ∈ r, ¬ q.1 = k := fun q hq z => by
      rw [List.map_cons, List.nodup_cons] at nd
      exact nd.1 (by rw [h, ← z]; exact List.mem_map_of_mem hq)
    conv => rhs; rw [← List.map_id r]
    exact List.map_congr_left fun q hq => by rw [if_neg (this q hq)]; rfl
  · rw [if_neg h]
    have e : ((p :: r).any fun kv => decide (kv.1 = k)) = (r.any fun kv => decide (kv.1 = k)) := by simp [h]
    rw [e]
    by_cases h2 : (r.any fun kv => decide (kv.1 = k)) = true
    · rw [if_pos h2, if_pos h2, List.map_cons, if_neg h]
    · rw [if_neg h2, if_neg h2, List.cons_append]
section
variable {K : PySem.W.Frag} {cad : Nat → Addr} {m : Mp} {n : Nat} {H : Hp}
theorem getD_ok {k : Key} : ∀ {kvs : List (Key × D)} {ws : List (Key × V)}, ws.map Prod.fst = kvs.map Prod.fst → RelDs K cad m n H (kvs.map Prod.snd) (ws.map Prod.snd) →
    (getD kvs k = none → valV ws k = none) ∧ ∀ d, getD kvs k = some d → ∃ v, valV ws k = some v ∧ RelD K cad m n H d v
  | [], ws, e, _ => by
    have : ws = [] := by simpa using e
    subst this
    exact ⟨fun _ => rfl, fun d z => by cases z⟩
  | p :: r, ws, e, rs => by
    cases ws with
    | nil => simp at e
    | cons w ws =>
      rw [List.map_cons, List.map_cons] at e rs
      obtain ⟨e1, e2⟩ := List.cons.inj e
      unfold RelDs at rs
      obtain ⟨v, vs, e3, r1, r2⟩ := rs
      obtain ⟨e4, e5⟩ := List.cons.inj e3
      subst e4 e5
      obtain ⟨i1, i2⟩ := getD_ok (k := k) e2 r2
      unfold getD
      by_cases h : p.1 = k
      · rw [if_pos h, valV_pos (e1.trans h)]
        exact ⟨fun z => (by cases z), fun d z => by cases z; exact ⟨_, rfl, r1⟩⟩
      · rw [if_neg h, valV_neg (fun z => h (e1.symm.trans z))]
        exact ⟨i1, i2⟩
theorem getD_mem {k : Key} {d : D} : ∀ {kvs : List (Key × D)}, getD kvs k = some d → d ∈ kvs.map Prod.snd
  | p :: r, e => by
    unfold getD at e
    by_cases h : p.1 = k
    · rw [if_pos h] at e; cases e; exact List.mem_cons_self
    · rw [if_neg h] at e; exact List.mem_cons_of_mem _ (getD_mem e)
theorem putD_keys {k : Key} {d : D} {v : V} : ∀ {kvs : List (Key × D)} {ws : List (Key × V)}, (kvs.map Prod.fst).Nodup → ws.map Prod.fst = kvs.map Prod.fst → RelDs K cad m n H (kvs.map Prod.snd) (ws.map Prod.snd) → RelD K cad m n H d v →
    (putK ws k v).map Prod.fst = (putD kvs k d).map Prod.fst ∧ RelDs K cad m n H ((putD kvs k d).map Prod.snd) ((putK ws k v).map Prod.snd)
  | [], ws, _, e, _, r => by
    have : ws = [] := by simpa using e
    subst this
    exact ⟨rfl, RelDs.cons r RelDs.nil⟩
  | p :: q, ws, nd, e, rs, r => by
    cases ws with
    | nil => simp at e
    | cons w ws =>
      have nd2 : ((w :: ws).map Prod.fst).Nodup := by rw [e]; exact nd
      rw [List.map_cons, List.map_cons] at e rs
      obtain ⟨e1, e2⟩ := List.cons.inj e
      unfold RelDs at rs
      obtain ⟨y, vs, e3, r1, r2⟩ := rs
      obtain ⟨e4, e5⟩ := List.cons.inj e3
      subst e4 e5
      rw [putK_cons _ _ _ _ nd2]
      unfold putD
      rw [List.map_cons, List.nodup_cons] at nd
      obtain ⟨i1, i2⟩ := putD_keys (k := k) nd.2 e2 r2 r
      by_cases h : p.1 = k
      · rw [if_pos h, if_pos (e1.trans h)]
        exact ⟨by rw [List.map_cons, List.map_cons]; exact (by rw [e1, e2]), RelDs.cons r r2⟩
      · rw [if_neg h, if_neg (fun z => h (e1.symm.trans z))]
        exact ⟨by rw [List.map_cons, List.map_cons]; exact (by rw [e1, i1]), RelDs.cons r1 i2⟩
end
theorem putD_sub {k : Key} {d : D} : ∀ {kvs : List (Key × D)} (x : D), x ∈ (putD kvs k d).map Prod.snd → x = d ∨ x ∈ kvs.map Prod.snd
  | [], x, h => .inl (by simpa [putD] using h)
  | p :: r, x, h => by
    unfold putD at h
    by_cases e : p.1 = k
    · rw [if_pos e, List.map_cons] at h
      rcases List.mem_cons.mp h with z | z
      · exact .inl z
      · exact .inr (List.mem_cons_of_mem _ z)
    · rw [if_neg e, List.map_cons] at h
      rcases List.mem_cons.mp h with z | z
      · exact .inr (by rw [z]; exact List.mem_cons_self)
      · rcases putD_sub x z with z | z
        · exact .inl z
        · exact .inr (List.mem_cons_of_mem _ z)
theorem bels_putD {n : Nat} {kvs : List (Key × D)} {k : Key} {d : D} (h : D.bels n (kvs.map Prod.snd) = true) (g : d.bel n = true) : D.bels n ((putD kvs k d).map Prod.snd) = true :=
  bels_mem.mpr fun x hx => (putD_sub x hx).elim (fun z => z ▸ g) (bels_mem.mp h x)

/-! ### o[i] = v -/
def dupFree : List Key → Bool
  | [] => true
  | k :: ks => ks.all (fun j => !decide (j = k)) && dupFree ks
theorem dupFree_ok : ∀ {ks : List Key}, dupFree ks = true → ks.Nodup
  | [], _ => .nil
  | k :: ks, h => by
    obtain ⟨h1, h2⟩ := Bool.and_eq_true_iff.mp h
    refine List.nodup_cons.mpr ⟨fun z => ?_, dupFree_ok h2⟩
    have := List.all_eq_true.mp h1 k z
    simp at this
def stIx (h : Hv) (x y v : D) : Option Hv := match x with
  | .ref n => (match h.os[n]? with
    | some (.lst xs) => (match y with
      | .int k => (match ixN xs.length k with
        | some j => h.put n (.lst (xs.set j v)) v
        | none => none)
      | _ => none)
    | some (.dic kvs) => (match keyOf? y with
      | some k => if (szOk kvs.length && dupFree (kvs.map Prod.fst)) = true then h.put n (.dic (putD kvs k v)) v else none
      | none => none)
    | _ => none)
  | _ => none
def rSetLD : TSet := fun o i v H Q => rSetL o i v H Q ∨ rSetD o i v H Q
theorem set_ld {X : Cx} (hu : X.A.units + 1 < cLine) : PSet X rSetLD := fun pins s σ H o i v ov iv u Q I ro ri rv h =>
  h.elim (set_list pins s σ H o i v ov iv u Q I ro ri rv) (set_dict hu pins s σ H o i v ov iv u Q I ro ri rv)
theorem Stay.at {m : Mp} {h : Hv} {H : Hp} {n : Nat} {o : HO} (hn : n < h.n) : Stay m h.n H m h.n (upd H (m.ρ n) o) :=
  ⟨fun _ _ => rfl, fun a u e t => by rw [upd_ne (fun z : a = m.ρ n => t (.inl ⟨n, hn, .inl z⟩))]; exact e, fun a t => .inl t⟩
theorem stIx_ok {c : Cn} {m : Mp} {h h' : Hv} {H : Hp} {x y v : D} {ux uy uv : V} {Q : Hp → Prop} (q : HR c.K c.cad m h H) (rx : RD c m h.n H x ux) (ry : RD c m h.n H y uy) (rv : RD c m h.n H v uv) (e : stIx h x y v = some h')
    (w : ∀ H', HR c.K c.cad m h' H' → Ext m h H m h' H' → Q H') : rSetLD ux uy uv H Q := by
  unfold stIx at e
  cases x with
  | ref n =>
    dsimp only at e
    have ex : ux = .ref (m.ρ n) := rx.1
    cases ho : h.os[n]? with
    | none => rw [ho] at e; cases e
    | some o =>
      rw [ho] at e
      have hn : n < h.n := (List.getElem?_eq_some_iff.mp ho).1
      cases o with
      | ins _ _ => cases e
      | lst xs =>
        cases y with
        | int k =>
          dsimp only at e
          cases ei : ixN xs.length k with
          | none => rw [ei] at e; cases e
          | some j =>
            rw [ei] at e
            dsimp only at e
            obtain ⟨vs, e1, r1, ed⟩ := q.obj n _ ho
            have bo : D.bels h.n xs = true := q.bel n _ ho
            refine .inl ⟨_, vs, k, j, ex, ry.1, e1, by rw [r1.length]; exact ei, ?_⟩
            have st : Stay m h.n H m h.n (upd H (m.ρ n) (.lst (vs.set j uv))) := Stay.at hn
            obtain ⟨q2, x2⟩ := put_ok (H' := upd H (m.ρ n) (.lst (vs.set j uv))) q ho e (by rw [upd_same]; rfl) (by rw [ed, upd_same]; rfl) (fun b h1 _ => upd_ne h1)
              ⟨_, upd_same, (RelDs.set rv.1 j r1).stay st (bels_set j bo rv.2), ed⟩ (bels_set j bo rv.2) (fun hf b hb => bels_set j hb (free_bel hf b))
            exact w _ q2 x2
        | _ => cases e
      | dic kvs =>
        dsimp only at e
        cases ek : keyOf? y with
        | none => rw [ek] at e; cases e
        | some k =>
          rw [ek] at e
          dsimp only at e
          by_cases hz : (szOk kvs.length && dupFree (kvs.map Prod.fst)) = true
          · rw [if_pos hz] at e
            obtain ⟨z1, z2⟩ := Bool.and_eq_true_iff.mp hz
            have z1 : kvs.length ≤ 100000 := Nat.le_of_ble_eq_true z1
            obtain ⟨ws, e1, ek1, r1, ed⟩ := q.obj n _ ho
            have bo : D.bels h.n (kvs.map Prod.snd) = true := q.bel n _ ho
            have hl : ws.length = kvs.length := by
              have := congrArg List.length ek1
              simpa using this
            obtain ⟨p1, p2⟩ := putD_keys (k := k) (dupFree_ok z2) ek1 r1 rv.1
            have st : Stay m h.n H m h.n (upd H (m.ρ n) (.dK (putK ws k uv))) := Stay.at hn
            obtain ⟨q2, x2⟩ := put_ok (H' := upd H (m.ρ n) (.dK (putK ws k uv))) q ho e (by rw [upd_same]; rfl) (by rw [ed, upd_same]; rfl) (fun b h1 _ => upd_ne h1)
              ⟨_, upd_same, p1, p2.stay st (bels_putD bo rv.2), ed⟩ (bels_putD bo rv.2) (fun hf b hb => bels_putD hb (free_bel hf b))
            exact .inr ⟨_, _, ex, .inl ⟨ws, k, e1, key_ok ry.1 ek, by rw [hl, sizeLine_eq]; omega, rfl⟩, w _ q2 x2⟩
          · rw [if_neg hz] at e; cases e
  | _ => cases e
section
variable {X : Cx} {c : Cn} {value o i : Expr} {ma mo mi : E} {p pos : Pos}
theorem sv_sub (hu : X.A.units + 1 < cLine) (hv : PE X value (tOf c ma)) (ho : PE X o (tOf c mo)) (hi : PE X i (tOf c mi)) (hs : swapsWithSole [.Subscript o i p] value pos.line X.env = pure false) (hw : swappedStores [.Subscript o i p] value X.env = pure none)
    (h1 : (assignEach [.Subscript o i p] X.env).map (·.2) = [assign (.Subscript o i p) X.env]) (ha : ∀ v, assign (.Subscript o i p) X.env v = (do
      let ov ← holding [v] (eval o X.env)
      let iv ← holding [v, ov] (eval i X.env)
      standAt p
      holding [v, ov, iv] (setItem ov iv v)
      release [v, ov, iv] [])) :
    PS X (.Assign [.Subscript o i p] value pos) (tOfS c (sSub stIx ma mo mi)) :=
  PS.mono (ps_asg hv (pg_sub ho hi (set_ld hu) ha) hs hw h1) fun D σ H ⟨m, h, l, q, p⟩ => by
    refine ⟨m, h, l, q, Post.mono (PostS.toS (Rl := RD c) q p) fun v H1 ⟨m1, h1, d1, y1, q1, r1, p1⟩ => ?_⟩
    have a1 := q.after y1 q1
    refine ⟨m1, h1, l, a1, Post.mono (PostS.toS (Rl := RD c) a1 p1) fun ov H2 ⟨m2, h2, d2, y2, q2, r2, p2⟩ => ?_⟩
    have a2 := a1.after y2 q2
    refine ⟨m2, h2, l, a2, Post.mono (PostS.toS (Rl := RD c) a2 p2) fun iv H3 ⟨m3, h3, d3, y3, q3, r3, p3⟩ => ?_⟩
    dsimp only at p3
    cases es : stIx h3 d2 d3 d1 with
    | none => rw [es] at p3; exact p3.elim
    | some h4 =>
      rw [es] at p3
      exact stIx_ok q3 (rd_ext y3 r2) r3 (rd_ext y3 (rd_ext y2 r1)) es fun H' q4 x4 => PostS.here (PostS.ext q3 x4 p3) σ ((a2.after y3 q3).after x4 q4)
end

/-! ### o[i] op= e, a list's int -/
def rGetL : V → V → Hp → VK → Prop := fun o i H Q => ∃ p xs k v, o = .ref p ∧ i = .int k ∧ H p = some (.lst xs) ∧ L2.atI xs k = some v ∧ Q v H
theorem get_list {X : Cx} : PGet X rGetL := by
  intro pins s σ H o i ov iv Q I ro ri h
  obtain ⟨p, xs, k, z, eo, ei, hp, he, q⟩ := h
  subst eo ei
  cases ro
  obtain ⟨t, e⟩ := (show ∃ t, iv = Value.int k t from ri)
  subst e
  obtain ⟨its, r, pl, hz⟩ := I.list (SqL.of (K := X.K) hp)
  obtain ⟨j, h1, h2, h3, h4, h5⟩ := atI_get he
  obtain ⟨w, ew, rw'⟩ := r.get h2
  have hl := r.length
  have hn := line63
  have fin : EP X pins σ Q w s := ⟨z, H, I, rw', q⟩
  by_cases h0 : 0 ≤ k
  · rw [seqIndex_of h0 h5] at h1
    have hj : k.toNat = j := Option.some.inj h1
    exact wpAny_getItem_list pl.isList h0 (by omega) (by rw [hj]; simpa using ew) fin
  · rw [seqIndex_neg (by omega) h4] at h1
    have hj : (k + (its.toArray.size : Int)).toNat = j := by
      rw [List.size_toArray, ← hl]
      exact Option.some.inj h1
    exact wpAny_getItem_list_neg pl.isList (by omega) (by rw [List.size_toArray] <;> omega) (by omega) (by rw [hj]; simpa using ew) fin
def getIx (h : Hv) (x y : D) : Res D := match x, y with
  | .ref n, .int k => (match h.os[n]? with
    | some (.lst xs) => (match L2.atI xs k with
      | some d => .ok d h
      | none => .stuck)
    | _ => .stuck)
  | _, _ => .stuck
theorem on_getIx {c : Cn} : Op2 c getIx rGetL := by
  intro σ m h H x y u v Q q rx ry p
  unfold getIx at p
  split at p
  · rename_i n k
    split at p
    · rename_i xs ho
      obtain ⟨vs, e1, r1, ed⟩ := q.obj n _ ho
      split at p
      · rename_i d ea
        obtain ⟨w, ew, rw'⟩ := RelDs.atI (c := c) ⟨r1, q.bel n _ ho⟩ ea
        exact ⟨_, vs, k, w, rx.1, ry.1, e1, ew, Post.here q p rw'⟩
      · exact p.elim
    · exact p.elim
  · exact p.elim
section
variable {X : Cx} {c : Cn} {value o i : Expr} {ma mo mi : E} {p pos : Pos} {op : Hv → D → D → Res D} {r : R2} {ao : Operator}
theorem sv_augSub (hu : X.A.units + 1 < cLine) (ho : PE X o (tOf c mo)) (hi : PE X i (tOf c mi)) (hv : PE X value (tOf c ma)) (hr : PIp X ao r) (hop : Op2 c op r)
    (ha : ∀ ov iv new, augStore i ov iv new = (do holding [new, ov, iv] (setItem ov iv new); release [new, ov, iv] []; pure .next)) : PS X (.AugAssign (.Subscript o i p) ao value pos) (tOfS c (sAugSub getIx op stIx mo mi ma)) :=
  PS.mono (ps_augS ho hi get_list hv hr (set_ld hu) ha) fun D σ H ⟨m, h, l, q, p⟩ => by
    refine ⟨m, h, l, q, Post.mono (PostS.toS (Rl := RD c) q p) fun ov H1 ⟨m1, h1, d1, y1, q1, r1, p1⟩ => ?_⟩
    have a1 := q.after y1 q1
    refine ⟨m1, h1, l, a1, Post.mono (PostS.toS (Rl := RD c) a1 p1) fun iv H2 ⟨m2, h2, d2, y2, q2, r2, p2⟩ => ?_⟩
    have a2 := a1.after y2 q2
    refine on_getIx σ m2 h2 H2 d1 d2 ov iv _ q2 (rd_ext y2 r1) r2 (Post.mono (PostS.toS (Rl := RD c) a2 p2) fun z H3 ⟨m3, h3, d3, y3, q3, r3, p3⟩ => ?_)
    have a3 := a2.after y3 q3
    refine ⟨m3, h3, l, a3, Post.mono (PostS.toS (Rl := RD c) a3 p3) fun v H4 ⟨m4, h4, d4, y4, q4, r4, p4⟩ => ?_⟩
    have a4 := a3.after y4 q4
    refine hop σ m4 h4 H4 d3 d4 z v _ q4 (rd_ext y4 r3) r4 (Post.mono (PostS.toS (Rl := RD c) a4 p4) fun w H5 ⟨m5, h5, d5, y5, q5, r5, p5⟩ => ?_)
    have a5 := a4.after y5 q5
    dsimp only at p5
    cases es : stIx h5 d1 d2 d5 with
    | none => rw [es] at p5; exact p5.elim
    | some h6 =>
      rw [es] at p5
      exact stIx_ok q5 (rd_ext y5 (rd_ext y4 (rd_ext y3 (rd_ext y2 r1)))) (rd_ext y5 (rd_ext y4 (rd_ext y3 r2))) r5 es fun H' q6 x6 => PostS.here (PostS.ext q5 x6 p5) σ (a5.after x6 q6)
end

/-! ### {}, in, d[k] -/
/-- name = {} -/
def sDic (i : Nat) : S := fun l h => .mk (.nx (l.set i (.ref h.os.length))) (h.new (.dic []))
theorem sv_dic {X : Cx} {c : Cn} {i : Nat} {x : Str} {p p2 pos : Pos} (hN : X.N.Nodup) (hi : X.N[i]? = some x) (hx : L2.Loc X.env.scope x) (hs : swapsWith (.Dict [] [] p2) (some (.Name x p)) pos.line X.env = pure false) (hf : X.fn x = true ∨ X.env.scope.names.lookup x = some .local) :
    PS X (.Assign [.Name x p] (.Dict [] [] p2) pos) (tOfS c (sDic i)) :=
  PS.mono (ps_set hN hi hx pe_dnewK hs hf) fun D σ H ⟨m, h, l, q, p⟩ a ha => by
    have p : PostS c D m h H (.mk (.nx (l.set i (.ref h.os.length))) (h.new (.dic []))) := p
    have nwρ : (m.push h.n a a).ρ h.n = a := if_pos rfl
    have nwδ : (m.push h.n a a).δ h.n = a := if_pos rfl
    have e1 : (upd H a (.dK [])) a = some (.dK []) := upd_same
    obtain ⟨q2, x2⟩ := push_ok (H2 := upd H a (.dK [])) (o := .dic []) q.hr ha ha (by rw [e1]; rfl) (by rw [e1]; rfl) (fun b h _ => upd_ne h)
      ⟨[], by rw [nwρ]; exact e1, rfl, RelDs.nil, by rw [nwρ, nwδ]⟩ rfl
    have hl : (h.new (.dic [])).n = h.n + 1 := by show (h.os ++ [_]).length = _; simp
    refine p _ _ x2 _ ⟨q2, (q.lr.stay x2.stay x2.n).set i ⟨?_, ?_⟩⟩
    · unfold RelD
      rw [show h.os.length = h.n from rfl, nwρ]
    · show Nat.blt h.os.length _ = true
      rw [hl]; exact Nat.ble_eq_true_of_le (Nat.le_refl _)
def dicOf (h : Hv) : D → Option (List (Key × D))
  | .ref n => match h.os[n]? with
    | some (.dic kvs) => some kvs
    | _ => none
  | _ => none
theorem dicOf_ok {c : Cn} {m : Mp} {h : Hv} {H : Hp} {d : D} {v : V} {kvs : List (Key × D)} (q : HR c.K c.cad m h H) (r : RD c m h.n H d v) (e : dicOf h d = some kvs) :
    ∃ a ws, v = .ref a ∧ H a = some (.dK ws) ∧ ws.map Prod.fst = kvs.map Prod.fst ∧ RelDs c.K c.cad m h.n H (kvs.map Prod.snd) (ws.map Prod.snd) ∧ D.bels h.n (kvs.map Prod.snd) = true := by
  cases d with
  | ref n =>
    have e : (match h.os[n]? with
      | some (.dic kvs) => some kvs
      | _ => none) = some kvs := e
    cases ho : h.os[n]? with
    | none => rw [ho] at e; cases e
    | some o =>
      rw [ho] at e
      cases o with
      | dic k2 =>
        cases e
        obtain ⟨ws, e1, e2, r1, _⟩ := q.obj n _ ho
        exact ⟨_, ws, r.1, e1, e2, r1, q.bel n _ ho⟩
      | lst _ => cases e
      | ins _ _ => cases e
  | _ => cases e
/-- what a dict holds at a key -/
def dicAt (h : Hv) (x y : D) : Option (Option D) := match dicOf h x, keyOf? y with
  | some kvs, some k => some (getD kvs k)
  | _, _ => none
theorem dicAt_ok {c : Cn} {m : Mp} {h : Hv} {H : Hp} {x y : D} {u v : V} {r : Option D} (q : HR c.K c.cad m h H) (rx : RD c m h.n H x u) (ry : RD c m h.n H y v) (e : dicAt h x y = some r) :
    ∃ a o, u = .ref a ∧ DGet H a v o ∧ o.isSome = r.isSome ∧ ∀ d, r = some d → ∃ w, o = some w ∧ RD c m h.n H d w := by
  unfold dicAt at e
  cases e1 : dicOf h x with
  | none => rw [e1] at e; cases e
  | some kvs =>
    cases e2 : keyOf? y with
    | none => rw [e1, e2] at e; cases e
    | some k =>
      rw [e1, e2] at e
      cases e
      obtain ⟨a, ws, ea, ha, hk, rs, bs⟩ := dicOf_ok q rx e1
      have ev := key_ok ry.1 e2
      subst ev
      obtain ⟨g1, g2⟩ := getD_ok (k := k) hk rs
      refine ⟨a, valV ws k, ea, DGet.k ha, ?_, fun d ed => ?_⟩
      · cases eg : getD kvs k with
        | none => rw [g1 eg]; rfl
        | some d =>
          obtain ⟨v, e3, _⟩ := g2 d eg
          rw [e3]; rfl
      · obtain ⟨v, e3, r3⟩ := g2 d ed
        exact ⟨v, e3, r3, bels_mem.mp bs d (getD_mem ed)⟩
def oIn2 (h : Hv) (y x : D) : Res D := match dicAt h x y with
  | some o => .ok (.bl o.isSome) h
  | none => oIn h y x
def oNotIn2 (h : Hv) (y x : D) : Res D := match dicAt h x y with
  | some o => .ok (.bl (!o.isSome)) h
  | none => oNotIn h y x
def rDIn (n : Bool) : R2 := fun y x H Q => ∃ a o, x = .ref a ∧ DGet H a y o ∧ Q (.bl (if n then !o.isSome else o.isSome)) H
theorem or_din {X : Cx} (hu : X.A.units + 1 < cLine) : OpR X (compareOp .In) (rDIn false) := by
  intro pins s σ H y x v u Q I ry rx h
  obtain ⟨a, o, ex, g, q⟩ := h
  subst ex
  cases rx
  exact d_in hu I g ry fun s3 I3 => ⟨.bl o.isSome, H, I3, rfl, q⟩
theorem or_dnotin {X : Cx} (hu : X.A.units + 1 < cLine) : OpR X (compareOp .NotIn) (rDIn true) := by
  intro pins s σ H y x v u Q I ry rx h
  obtain ⟨a, o, ex, g, q⟩ := h
  subst ex
  cases rx
  exact d_notIn hu I g ry fun s3 I3 => ⟨.bl (!o.isSome), H, I3, rfl, q⟩
theorem on_in2 {X : Cx} {c : Cn} (hK : X.K = c.K) : Op2 c oIn2 (fun x y H Q => rDIn false x y H Q ∨ rIn X.K false x y H Q) := by
  intro σ m h H x y u v Q q rx ry p
  unfold oIn2 at p
  cases e : dicAt h y x with
  | none => rw [e] at p; exact .inr (on_in hK σ m h H x y u v Q q rx ry p)
  | some r =>
    rw [e] at p
    obtain ⟨a, o, ea, g, hs, _⟩ := dicAt_ok q ry rx e
    refine .inl ⟨a, o, ea, g, ?_⟩
    rw [if_neg Bool.false_ne_true, hs]
    exact Post.here q p ⟨rfl, rfl⟩
theorem on_notin2 {X : Cx} {c : Cn} (hK : X.K = c.K) : Op2 c oNotIn2 (fun x y H Q => rDIn true x y H Q ∨ rIn X.K true x y H Q) := by
  intro σ m h H x y u v Q q rx ry p
  unfold oNotIn2 at p
  cases e : dicAt h y x with
  | none => rw [e] at p; exact .inr (on_notin hK σ m h H x y u v Q q rx ry p)
  | some r =>
    rw [e] at p
    obtain ⟨a, o, ea, g, hs, _⟩ := dicAt_ok q ry rx e
    refine .inl ⟨a, o, ea, g, ?_⟩
    rw [if_pos rfl, hs]
    exact Post.here q p ⟨rfl, rfl⟩
def oIx2 (h : Hv) (x y : D) : Res D := match dicAt h x y with
  | some (some d) => .ok d h
  | some none => .stuck
  | none => oIx h x y
def rIxDic : R2 := fun x y H Q => ∃ a v, x = .ref a ∧ DGet H a y (some v) ∧ Q v H
theorem ix_dic {X : Cx} (hu : X.A.units + 1 < cLine) : IxR X rIxDic := by
  intro value slice pins s σ H x y v u Q I rx ry h hs
  obtain ⟨a, z, ex, g, q⟩ := h
  subst ex
  cases rx
  exact tail_any (dict_typeIs I g) PySem.F.slot_dict_getitem.lookup (d_getItem hu I g ry fun w' s3 I3 rw' => ⟨z, H, I3, rw', q⟩) hs
theorem on_ix2 {X : Cx} {c : Cn} (hK : X.K = c.K) : Op2 c oIx2 (fun x y H Q => rIxDic x y H Q ∨ rIx X.K x y H Q) := by
  intro σ m h H x y u v Q q rx ry p
  unfold oIx2 at p
  cases e : dicAt h x y with
  | none => rw [e] at p; exact .inr (on_ix hK σ m h H x y u v Q q rx ry p)
  | some r =>
    rw [e] at p
    obtain ⟨a, o, ea, g, _, hv⟩ := dicAt_ok q rx ry e
    cases r with
    | none => exact p.elim
    | some d =>
      obtain ⟨w, ew, rw'⟩ := hv d rfl
      rw [ew] at g
      exact .inl ⟨a, w, ea, g, Post.here q p rw'⟩

/-! ### slices -/
abbrev EO := Loc → Hv → Res (Option Int)
def oNo : EO := fun _ h => .ok none h
def oYes (e : E) : EO := fun l h => (e l h).bind fun x h => match x with
  | .int i => .ok (some i) h
  | _ => .stuck
def RO (m : Mp) (n : Nat) (H : Hp) (a b : Option Int) : Prop := a = b
def tOfO (c : Cn) (e : EO) : TO := fun σ H Q => ∃ m h l, R c.K c.cad m h l σ H ∧ Post c RO σ m h H (e l h) Q
theorem PO.mono {X : Cx} {e : Option Expr} {t t' : TO} (p : PO X e t) (w : ∀ σ H Q, t' σ H Q → t σ H Q) : PO X e t' := ⟨fun pins s σ H Q I h => p.run pins s σ H Q I (w σ H Q h)⟩
theorem ov_none {X : Cx} {c : Cn} : PO X none (tOfO c oNo) := PO.mono po_none fun σ H Q ⟨m, h, l, q, p⟩ => Post.here q.hr p rfl
theorem ov_some {X : Cx} {c : Cn} {e : Expr} {me : E} (he : PE X e (tOf c me)) : PO X (some e) (tOfO c (oYes me)) :=
  PO.mono (po_some he) fun σ H Q ⟨m, h, l, q, p⟩ => by
    refine ⟨m, h, l, q, Post.mono (Post.bind (Rl := RD c) q.hr p) fun x H1 ⟨m1, h1, d, y1, q1, r1, p1⟩ => ?_⟩
    cases d with
    | int i => exact ⟨i, r1.1, Post.here q1 p1 rfl⟩
    | _ => exact p1.elim
def cutD {α : Type} (xs : List α) (lo hi : Option Int) : List α := (xs.drop (HT.sIx xs.length 0 lo)).take (HT.sIx xs.length xs.length hi - HT.sIx xs.length 0 lo)
def oSl (h : Hv) (x : D) (lo hi : Option Int) : Res D := match x with
  | .str y => if szOk y.length = true then .ok (.str (cutS y lo hi)) h else .stuck
  | .tup xs => .ok (.tup (cutD xs lo hi)) h
  | _ => match seqL h x with
    | some xs => .ok (.fl (cutD xs lo hi)) h
    | none => .stuck
def eSl (a : E) (lo hi : EO) : E := fun l h => (a l h).bind fun x h => (lo l h).bind fun i h => (hi l h).bind fun j h => oSl h x i j
def rSl3 (K : PySem.W.Frag) : V → Option Int → Option Int → Hp → VK → Prop := fun x lo hi H Q => (rSlL K x lo hi H Q ∨ rSlS x lo hi H Q) ∨ rSlA K x lo hi H Q
theorem sl_3 {X : Cx} : SlR X (rSl3 X.K) := (SlR.or sl_list sl_str).or sl_tupA
theorem RelDs.cut {K : PySem.W.Frag} {cad : Nat → Addr} {m : Mp} {n : Nat} {H : Hp} {xs : List D} {vs : List V} (r : RelDs K cad m n H xs vs) (lo hi : Option Int) : RelDs K cad m n H (cutD xs lo hi) (cutV vs lo hi) := by
  unfold cutD cutV
  rw [r.length]
  exact RelDs.take _ (RelDs.drop _ r)
theorem bels_cut {n : Nat} {xs : List D} (h : D.bels n xs = true) (lo hi : Option Int) : D.bels n (cutD xs lo hi) = true :=
  bels_sub h fun d hd => List.mem_of_mem_drop (List.mem_of_mem_take hd)
theorem on_sl {X : Cx} {c : Cn} (hK : X.K = c.K) {σ : L2.St} {m : Mp} {h : Hv} {H : Hp} {x : D} {u : V} {lo hi : Option Int} {Q : VK} (q : HR c.K c.cad m h H) (rx : RD c m h.n H x u) (p : PostN c σ m h H (oSl h x lo hi) Q) : rSl3 X.K u lo hi H Q := by
  rw [hK]
  have seq : PostN c σ m h H (match seqL h x with
    | some xs => .ok (.fl (cutD xs lo hi)) h
    | none => .stuck) Q → rSl3 c.K u lo hi H Q := fun p => by
    cases e : seqL h x with
    | none => rw [e] at p; exact p.elim
    | some xs =>
      rw [e] at p
      obtain ⟨a, vs, ev, f, rs⟩ := seqL_ok q rx e
      exact .inl (.inl ⟨a, vs, ev, f, fun l nl => PostN.put q p ⟨rs.1.cut lo hi, bels_cut rs.2 lo hi⟩ nl⟩)
  cases x with
  | str y =>
    obtain ⟨hz, p⟩ := PostN.cond p
    exact .inl (.inr ⟨y, rx.1, szOk_le hz, PostN.here q p ⟨rfl, rfl⟩ (by intro _ z; cases z)⟩)
  | tup xs =>
    have p : Post c (RD c) σ m h H (.ok (.tup (cutD xs lo hi)) h) Q := p
    obtain ⟨a, vs, ev, f, rs⟩ := seqT_ok rx rfl
    refine .inr ⟨a, vs, ev, f.sq, fun w => ?_, fun _ l nl => Post.newT q p ⟨rs.1.cut lo hi, bels_cut rs.2 lo hi⟩ nl⟩
    have e : cutD xs lo hi = xs := by
      unfold cutD
      rw [rs.1.length] at w
      rw [w.1, w.2, List.drop_zero, Nat.sub_zero, List.take_length]
    rw [e] at p
    rw [← ev]
    exact Post.here q p rx
  | _ => exact seq p
theorem pn_sl {X : Cx} {c : Cn} (hK : X.K = c.K) {a : Expr} {lo hi : Option Expr} {ma : E} {ml mh : EO} {p2 pos : Pos} (ha : PE X a (tOf c ma)) (hl : PO X lo (tOfO c ml)) (hh : PO X hi (tOfO c mh)) : PE X (.Subscript a (.Slice lo hi none p2) pos) (tNew c (eSl ma ml mh)) :=
  PE.mono (pe_slice sl_3 ha hl hh) fun σ H Q ⟨m, h, l, q, p⟩ => by
    refine ⟨m, h, l, q, Post.mono (PostN.bind (Rl := RD c) q.hr p) fun x H1 ⟨m1, h1, d1, y1, q1, r1, p1⟩ => ?_⟩
    have a1 := q.after y1 q1
    refine ⟨m1, h1, l, a1, Post.mono (PostN.bind (Rl := RO) q1 p1) fun i H2 ⟨m2, h2, d2, y2, q2, r2, p2⟩ => ?_⟩
    have a2 := a1.after y2 q2
    refine ⟨m2, h2, l, a2, Post.mono (PostN.bind (Rl := RO) q2 p2) fun j H3 ⟨m3, h3, d3, y3, q3, r3, p3⟩ => ?_⟩
    have r2' : d2 = i := r2
    have r3' : d3 = j := r3
    subst r2' r3'
    exact on_sl hK q3 (rd_ext y3 (rd_ext y2 r1)) p3

/-! ### isinstance, bool -/
/-- what a value's type is: a built-in type or a class -/
inductive Kd where
  | b (n : String) | c (z : Nat)
def kindOf (h : Hv) (d : D) : Option Kd := match d with
  | .non => some (.b "NoneType")
  | .bl _ => some (.b "bool")
  | .int _ => some (.b "int")
  | .str _ => some (.b "str")
  | .tup _ => some (.b "tuple")
  | .fl _ => some (.b "list")
  | .sc _ => some (.b "list")
  | .fi z _ => some (.c z)
  | .ref n => (match h.os[n]? with
    | some (.lst _) => some (.b "list")
    | some (.dic _) => some (.b "dict")
    | some (.ins z _) => some (.c z)
    | none => none)
  | _ => none
def isTyp : D → Bool
  | .ty _ => true
  | .cls _ => true
  | _ => false
/-- the answer for one class -/
def isi1 (tab : Kd → D → Option Bool) (k : Kd) (y : D) : Option Bool := tab k y
def isiN (tab : Kd → D → Option Bool) (k : Kd) : List D → Option Bool
  | [] => some false
  | y :: ys => match tab k y, isiN tab k ys with
    | some a, some b => some (a || b)
    | _, _ => none
end Ev

set_option Elab.async false
set_option linter.all false
set_option maxRecDepth 100000
set_option maxHeartbeats 4000000
/-! Ev10: isinstance, bool, sorted(set(x)), bit_length, zip. -/
namespace Ev
open PySem PySem.Spec PyProof.Rows L2

/-! ### isinstance -/
def kdV (cad : Nat → Addr) : Kd → Value
  | .b n => .type n
  | .c z => .ref (cad z)
def clV (cad : Nat → Addr) : D → Value
  | .ty n => .type n
  | .cls z => .ref (cad z)
  | _ => .none
/-- the table tells what the layer answers; the classes are classes with slots -/
structure TabOk (K : PySem.W.Frag) (cad : Nat → Addr) (tab : Kd → D → Option Bool) : Prop where
  one : ∀ k y b, tab k y = some b → isTyp y = true ∧ PySem.W.kitOne K (kdV cad k) (clV cad y) = some b
  sl : ∀ z y b, tab (.c z) y = some b → SlX.SCls K (cad z) ∧ SlX.SIsi K (cad z)
theorem cl_ok {c : Cn} {m : Mp} {n : Nat} {H : Hp} {y : D} {v : V} (r : RelD c.K c.cad m n H y v) (e : isTyp y = true) : ClsV v (clV c.cad y) := by
  cases y with
  | ty n => rw [show v = .ty n from r]; exact .ty n
  | cls z => rw [show v = .ref (c.cad z) from r]; exact .own _
  | _ => cases e
/-- a value that is no instance -/
theorem kind_base {c : Cn} {m : Mp} {h : Hv} {H : Hp} {x : D} {u : V} {n : String} (q : HR c.K c.cad m h H) (r : RD c m h.n H x u) (e : kindOf h x = some (.b n)) : TyX c.K H u (.type n) := by
  obtain ⟨r1, r2⟩ := r
  cases x with
  | non => cases e; rw [show u = .non from r1]; exact .base .non
  | bl b => cases e; rw [show u = .bl b from r1]; exact .base (.bl b)
  | int b => cases e; rw [show u = .int b from r1]; exact .base (.int b)
  | str b => cases e; rw [show u = .str b from r1]; exact .base (.str b)
  | tup xs =>
    cases e
    unfold RelD at r1
    obtain ⟨a, vs, ev, f, _⟩ := r1
    rw [ev]; exact .base (.tup f.1)
  | fl xs =>
    cases e
    unfold RelD at r1
    obtain ⟨a, vs, ev, f, _⟩ := r1
    rw [ev]; exact .base (.lst f.1)
  | sc xs =>
    cases e
    unfold RelD at r1
    obtain ⟨a, vs, ev, f, _⟩ := r1
    rw [ev]
    rcases f with ⟨⟨o, f⟩, _⟩ | ⟨o, its, k, f1, f2, _⟩
    · exact .base (.frz f)
    · exact .kList f1 f2
  | ref k =>
    have r1 : u = .ref (m.ρ k) := r1
    subst r1
    unfold kindOf at e
    dsimp only at e
    cases ho : h.os[k]? with
    | none => rw [ho] at e; cases e
    | some o =>
      rw [ho] at e
      cases o with
      | lst ys =>
        cases e
        obtain ⟨vs, e1, _⟩ := q.obj k _ ho
        exact .base (.lst e1)
      | dic ys =>
        cases e
        obtain ⟨vs, e1, _⟩ := q.obj k _ ho
        exact .base (.dK e1)
      | ins _ _ => cases e
  | _ => cases e
theorem kind_ins {c : Cn} {m : Mp} {h : Hv} {H : Hp} {x : D} {u : V} {z : Nat} (q : HR c.K c.cad m h H) (r : RD c m h.n H x u) (e : kindOf h x = some (.c z)) : ∃ a dx vs, u = .ref a ∧ SlX.Slt H a (c.cad z) dx vs := by
  have ef : ∃ fs, fldsOf h x = some (z, fs) := by
    cases x with
    | fi y fs => cases e; exact ⟨fs, rfl⟩
    | ref k =>
      unfold kindOf at e
      dsimp only at e
      cases ho : h.os[k]? with
      | none => rw [ho] at e; cases e
      | some o =>
        rw [ho] at e
        cases o with
        | ins y fs => cases e; exact ⟨fs, by unfold fldsOf; dsimp only; rw [ho]⟩
        | lst _ => cases e
        | dic _ => cases e
    | _ => cases e
  obtain ⟨fs, ef⟩ := ef
  obtain ⟨a, dx, vs, ev, sl, _⟩ := flds_ok q r ef
  exact ⟨a, dx, vs, ev, sl⟩
def oIsi (tab : Kd → D → Option Bool) (h : Hv) : List D → Res D
  | [x, .tup (y :: ys)] => (match kindOf h x with
    | some k => (match isiN tab k (y :: ys) with
      | some b => .ok (.bl b) h
      | none => .stuck)
    | none => .stuck)
  | [x, y] => (match kindOf h x with
    | some k => (match tab k y with
      | some b => .ok (.bl b) h
      | none => .stuck)
    | none => .stuck)
  | _ => .stuck
def rIsiTS (K : PySem.W.Frag) : List V → Hp → VK → Prop := fun xs H Q => ∃ (a C dx : Addr) (vs : List (Option V)) (tp : Addr) (cs : List V) (us : List Value) (b : Bool), xs = [V.ref a, .ref tp] ∧ H tp = some (.tup cs) ∧ Paired ClsV cs us ∧ SlX.Slt H a C dx vs ∧ SlX.SCls K C ∧ SlX.SIsi K C ∧ PySem.W.kitAny K (.ref C) us = some b ∧ Q (.bl b) H
theorem call_isiTS {X : Cx} : CallR X (.builtin "isinstance") (rIsiTS X.K) := by
  intro pins s σ H xs us Q I r h
  obtain ⟨a, C, dx, vs, tp, cs, ws, b, ex, hT, k, hsl, hc, hi, hk, q⟩ := h
  subst ex
  obtain ⟨u1, u2, e0, r1, r2⟩ := vals2 r
  subst e0
  cases (show u1 = Value.ref a from r1)
  cases (show u2 = Value.ref tp from r2)
  obtain ⟨sl, od, _, J, _⟩ := SlX.slt_inst I hsl
  obtain ⟨_, its, rv, o, h1, h2, n, h3⟩ := (show ObjOk X.prog X.w H s.heap tp (.tup cs) from I.hok tp _ hT)
  have e3 := ClsV.all k rv
  subst e3
  obtain ⟨oc, od2, dt, sl2⟩ := o
  simp only at h2 h3
  subst h2 h3
  exact PySem.W.kia_tup (OwX.kitx_slt hc.ic (hc.get _) hi.ca hi.cn hi.ct hi.cm) I.kIn J h1 hk (fun z => nomatch z) fun tk => ⟨.bl b, H, I.tok tk, rfl, q⟩
def rIsiSl2 (K : PySem.W.Frag) : List V → Hp → VK → Prop := fun xs H Q => ∃ (a C dx : Addr) (vs : List (Option V)) (c : V) (u : Value) (b : Bool), xs = [V.ref a, c] ∧ ClsV c u ∧ SlX.Slt H a C dx vs ∧ SlX.SCls K C ∧ SlX.SIsi K C ∧ PySem.W.kitOne K (.ref C) u = some b ∧ Q (.bl b) H
theorem call_isiSl2 {X : Cx} : CallR X (.builtin "isinstance") (rIsiSl2 X.K) := by
  intro pins s σ H xs us Q I r h
  obtain ⟨a, C, dx, vs, c, u, b, ex, k, hsl, hc, hi, hk, q⟩ := h
  subst ex
  obtain ⟨u1, u2, e0, r1, r2⟩ := vals2 r
  subst e0
  cases (show u1 = Value.ref a from r1)
  have e2 := k.eq r2
  subst e2
  obtain ⟨sl, od, _, J, _⟩ := SlX.slt_inst I hsl
  exact PySem.W.kia_one (OwX.kitx_slt hc.ic (hc.get _) hi.ca hi.cn hi.ct hi.cm) I.kIn J hk (fun z => nomatch z) fun tk => ⟨.bl b, H, I.tok tk, rfl, q⟩
def rIsi4 (K : PySem.W.Frag) : List V → Hp → VK → Prop := fun xs H Q => (rIsi K xs H Q ∨ rIsiT K xs H Q) ∨ (rIsiSl2 K xs H Q ∨ rIsiTS K xs H Q)
theorem call_isi4 {X : Cx} : CallR X (.builtin "isinstance") (rIsi4 X.K) := by
  intro pins s σ H xs us Q I r h
  rcases h with (h | h) | (h | h)
  · exact call_isi pins s σ H xs us Q I r h
  · exact call_isiT pins s σ H xs us Q I r h
  · exact call_isiSl2 pins s σ H xs us Q I r h
  · exact call_isiTS pins s σ H xs us Q I r h
theorem isiN_ok {c : Cn} {m : Mp} {n : Nat} {H : Hp} {tab : Kd → D → Option Bool} {k : Kd} (ht : TabOk c.K c.cad tab) : ∀ {ys : List D} {vs : List V} {b : Bool}, RelDs c.K c.cad m n H ys vs → isiN tab k ys = some b →
    Paired ClsV vs (ys.map (clV c.cad)) ∧ PySem.W.kitAny c.K (kdV c.cad k) (ys.map (clV c.cad)) = some b
  | [], _, _, r, e => by
    cases e
    unfold RelDs at r
    subst r
    exact ⟨.nil, kitAny_nil⟩
  | y :: ys, _, b, r, e => by
    unfold RelDs at r
    obtain ⟨v, w, e1, h1, h2⟩ := r
    subst e1
    unfold isiN at e
    cases et : tab k y with
    | none => rw [et] at e; cases e
    | some a =>
      cases en : isiN tab k ys with
      | none => rw [et, en] at e; cases e
      | some b2 =>
        rw [et, en] at e
        cases e
        obtain ⟨t1, t2⟩ := ht.one k y a et
        obtain ⟨p1, p2⟩ := isiN_ok ht h2 en
        refine ⟨.cons (cl_ok h1 t1) p1, kitAny_cons t2 (fun ha => ?_) fun ha => ?_⟩
        · subst ha; exact p2
        · subst ha; rfl
theorem isiN_sl {tab : Kd → D → Option Bool} {K : PySem.W.Frag} {cad : Nat → Addr} {z : Nat} (ht : TabOk K cad tab) : ∀ {ys : List D} {b : Bool}, ys ≠ [] → isiN tab (.c z) ys = some b → SlX.SCls K (cad z) ∧ SlX.SIsi K (cad z)
  | [], _, h, _ => absurd rfl h
  | y :: ys, b, _, e => by
    unfold isiN at e
    cases et : tab (.c z) y with
    | none => rw [et] at e; cases e
    | some a => exact ht.sl z y a et
theorem on_isi {X : Cx} {c : Cn} (hK : X.K = c.K) {tab : Kd → D → Option Bool} (ht : TabOk c.K c.cad tab) : OpN c (oIsi tab) (rIsi4 X.K) := by
  intro σ m h H xs us Q q rs p
  rw [hK]
  unfold oIsi at p
  split at p
  · rename_i x y0 ys
    obtain ⟨u, v, eu, rx, ry⟩ := two_of rs rfl
    cases ek : kindOf h x with
    | none => rw [ek] at p; exact p.elim
    | some k =>
      rw [ek] at p
      dsimp only at p
      cases en : isiN tab k (y0 :: ys) with
      | none => rw [en] at p; exact p.elim
      | some b =>
        rw [en] at p
        have fin : Q (.bl b) H := Post.here q p ⟨rfl, rfl⟩
        obtain ⟨a, vs, ev, f, r2⟩ := seqT_ok ry rfl
        obtain ⟨p1, p2⟩ := isiN_ok ht r2.1 en
        subst ev
        cases k with
        | b n => exact .inl (.inr ⟨u, a, vs, _, _, b, eu, f.1, p1, kind_base q rx ek, p2, fin⟩)
        | c z =>
          obtain ⟨a2, dx, ws, e2, sl⟩ := kind_ins q rx ek
          subst e2
          obtain ⟨s1, s2⟩ := isiN_sl ht (List.cons_ne_nil _ _) en
          exact .inr (.inr ⟨a2, _, dx, ws, a, vs, _, b, eu, f.1, p1, sl, s1, s2, p2, fin⟩)
  · rename_i x y _
    obtain ⟨u, v, eu, rx, ry⟩ := two_of rs rfl
    cases ek : kindOf h x with
    | none => rw [ek] at p; exact p.elim
    | some k =>
      rw [ek] at p
      dsimp only at p
      cases en : tab k y with
      | none => rw [en] at p; exact p.elim
      | some b =>
        rw [en] at p
        have fin : Q (.bl b) H := Post.here q p ⟨rfl, rfl⟩
        obtain ⟨t1, t2⟩ := ht.one k y b en
        cases k with
        | b n => exact .inl (.inl ⟨u, v, _, _, b, eu, cl_ok ry.1 t1, kind_base q rx ek, t2, fin⟩)
        | c z =>
          obtain ⟨a2, dx, ws, e2, sl⟩ := kind_ins q rx ek
          subst e2
          obtain ⟨s1, s2⟩ := ht.sl z y b en
          exact .inr (.inl ⟨a2, _, dx, ws, v, _, b, eu, cl_ok ry.1 t1, sl, s1, s2, t2, fin⟩)
  · exact p.elim

/-! ### bool(x) -/
theorem meets_btup (l : Addr) (items : Array Value) (hf : (items.size : Int) < 2 ^ 63) :
    Meets (Builtin.«bool.__new__» ⟨[.type "bool", .ref l], []⟩) (fun _ R s => IsTup s.heap l items ∧ R (.ok (.ret (.bool (!items.isEmpty)))) { s with toks := s.toks + 1 + 1 }) :=
  Meets.of_wp fun prog w A R s hs => by
    obtain ⟨hl, hs⟩ := hs
    obtain ⟨hp, g, d, tk, os⟩ := s
    have f1 := F.conv_sub_bool
    repeat (any_goals (first | assumption | (with_reducible refine truthy_tuple hl hf ?_) | wp_step))
    all_goals first | exact ⟨_, rfl, hs⟩ | exact hs | skip
theorem call_boolT {X : Cx} : CallR X (.type "bool") (fun xs H Q => ∃ (a : Addr) (zs : List V), xs = [.ref a] ∧ SqT X.K H a zs ∧ Q (.bl (!zs.isEmpty)) H) := by
  intro pins s σ H xs us Q I r h
  obtain ⟨a, zs, ex, hq, q⟩ := h
  subst ex
  obtain rfl := Vals.ref1 r
  obtain ⟨its, rv, pl, hz⟩ := I.tuple hq
  have hl := line63
  have hlen := rv.length
  refine call_bool_1 (meets_btup a its.toArray (by simp only [List.size_toArray]; omega)) ⟨pl, rfl, ?_⟩
  exact ⟨.bl (!zs.isEmpty), H, I.tok _, by rw [isEmpty_of rv]; rfl, q⟩
def rBool (K : PySem.W.Frag) : List V → Hp → VK → Prop := fun xs H Q => ((∃ i, xs = [.int i] ∧ Q (.bl (i != 0)) H) ∨ ∃ k, xs = [.bl k] ∧ Q (.bl k) H) ∨ ∃ (a : Addr) (zs : List V), xs = [.ref a] ∧ (SqL K H a zs ∨ SqT K H a zs) ∧ Q (.bl (!zs.isEmpty)) H
theorem call_bool3 {X : Cx} : CallR X (.type "bool") (rBool X.K) := by
  intro pins s σ H xs us Q I r h
  rcases h with h | ⟨a, zs, e, hq | hq, q⟩
  · exact call_bool1 pins s σ H xs us Q I r h
  · exact call_boolL pins s σ H xs us Q I r ⟨a, zs, e, hq, q⟩
  · exact call_boolT pins s σ H xs us Q I r ⟨a, zs, e, hq, q⟩
def oBool (h : Hv) : List D → Res D
  | [.int i] => .ok (.bl (i != 0)) h
  | [.bl b] => .ok (.bl b) h
  | [x] => match seqLT h x with
    | some xs => .ok (.bl (!xs.isEmpty)) h
    | none => .stuck
  | _ => .stuck
theorem on_bool {X : Cx} {c : Cn} (hK : X.K = c.K) : OpN c oBool (rBool X.K) := by
  intro σ m h H xs us Q q rs p
  rw [hK]
  unfold oBool at p
  split at p
  · rename_i i
    obtain ⟨u, eu, rx⟩ := one_of rs rfl
    have e : u = .int i := rx.1
    subst e
    exact .inl (.inl ⟨i, eu, Post.here q p ⟨rfl, rfl⟩⟩)
  · rename_i b
    obtain ⟨u, eu, rx⟩ := one_of rs rfl
    have e : u = .bl b := rx.1
    subst e
    exact .inl (.inr ⟨b, eu, Post.here q p ⟨rfl, rfl⟩⟩)
  · rename_i x _ _
    obtain ⟨u, eu, rx⟩ := one_of rs rfl
    cases el : seqLT h x with
    | none => rw [el] at p; exact p.elim
    | some ys =>
      rw [el] at p
      obtain ⟨a, vs, ev, f, r2⟩ := seqLT_ok q rx el
      subst ev
      refine .inr ⟨a, vs, eu, f, ?_⟩
      rw [isEmpty_len r2.1.length]
      exact Post.here q p ⟨rfl, rfl⟩
  · exact p.elim

/-! ### x.bit_length() -/
def oBits (h : Hv) : D → Res D
  | .int i => .ok (.int (Builtin.Int.intBits i : Nat)) h
  | _ => .stuck
theorem pv_bits {X : Cx} {c : Cn} {o : Expr} {mo : E} {apos pos : Pos} (ho : PE X o (tOf c mo)) (hbase : attributeBase o "bit_length" X.env (eval o X.env) = eval o X.env) (hline : (apos.endLine == pos.line) = true) :
    PE X (.Call (.Attribute o "bit_length" apos) [] [] pos) (tOf c (e1 oBits mo)) :=
  PE.mono (pe_bits ho hbase hline) fun σ H Q ⟨m, h, l, q, p⟩ => by
    refine ⟨m, h, l, q, Post.mono (Post.bind (Rl := RD c) q.hr p) fun x H1 ⟨m1, h1, d, y1, q1, r1, p1⟩ => ?_⟩
    cases d with
    | int i => exact ⟨i, r1.1, Post.here q1 p1 ⟨rfl, rfl⟩⟩
    | _ => exact p1.elim
end Ev

set_option Elab.async false
set_option linter.all false
set_option maxRecDepth 100000
set_option maxHeartbeats 4000000
/-! Ev11: sorted(set(x)), x a list or a tuple of ints; zip. -/
namespace Ev
open PySem PySem.Spec PyProof.Rows L2

/-! ### set(l), l a list of ints, with its table's order -/
abbrev es0 (w : World) : Obj := { cls := .type "set", dict := none, data := .set #[] 0 (.fresh 0 0 (!w.params.followText "set-order")) }
section
variable {P : Program} {w : World} {A : Around} {E : Value → Shared → Prop} {s : Shared}
/-- the objects that were there stay -/
abbrev Older (s : Shared) (h' : Heap) : Prop := ∀ b o, s.heap.get? b = some o → h'.get? b = some o
/-- what stands where the set was laid -/
abbrev SetDone (w : World) (s : Shared) (ns : List Int) (h' : Heap) (c : Nat) : Prop := SetR w h' s.heap.objs.size (fun j => decide (j ∈ ns)) c ∧ c ≤ ns.length ∧ Older s h'
theorem setL_init {l : Addr} {zs : Array Value} {ns : List Int} (nh : A.handled = none) (il : s.heap.IsList l zs) (az : IntsAre zs.toList ns) (few : ns.length + 1 < scanBound) (sz : zs.size = ns.length) {G : Unit → Shared → Prop} {X : Value → Shared → Prop}
    (done : ∀ h' tk c, SetDone w s ns h' c → G () { s with heap := h', toks := tk }) :
    wpAny (model P w) A (pyIter (.ref l)) (fun it s' => wpAny (model P w) A (do let _ ← runValue (.builtin "set.update.loop" ⟨[.ref s.heap.objs.size, it], []⟩); pure ()) G X s') X { s with heap := s.heap.push (es0 w) } := by
  have il2 : (s.heap.push (es0 w)).IsList l zs := il.push _
  have ll : l < s.heap.objs.size := by
    obtain ⟨o, e, _⟩ := il
    exact Heap.lt_size e
  have size2 : (s.heap.push (es0 w)).objs.size = s.heap.objs.size + 1 := Heap.size_push ..
  have ap : l ≠ (s.heap.push (es0 w)).objs.size := by rw [size2]; exact Nat.ne_of_lt (Nat.lt_succ_of_lt ll)
  have nf : s.heap.objs.size ∉ [(s.heap.push (es0 w)).objs.size, l] := by
    intro z
    rw [size2] at z
    rcases List.mem_cons.mp z with z | z
    · exact Nat.ne_of_lt (Nat.lt_succ_self _) z
    · exact Nat.ne_of_gt ll (List.mem_singleton.mp z)
  have items : ∀ (i : Nat) (v : Value), zs[i]? = some v → ∃ k t, ns[i]? = some k ∧ v = .int k t := fun i v hv => by
    have hi : i < ns.length := by
      have := (Array.getElem?_eq_some_iff.mp hv).1
      omega
    obtain ⟨t, e⟩ := IntsAre.int_at az i v (by rw [Array.getElem?_toList]; exact hv)
    refine ⟨ns[i], t, List.getElem?_eq_getElem hi, ?_⟩
    rw [e, List.getD_eq_getElem?_getD, List.getElem?_eq_getElem hi]; rfl
  have at0 : (s.heap.push (es0 w)).get? s.heap.objs.size = some (es0 w) := Heap.get?_push_size _ rfl
  refine wpAny_pyIter_list il2 ?_
  refine wpAny_bind (wpAny_runValue ?_)
  have nh1 : A.in1.handled = none := by simpa using nh
  refine set_update_ints ((Walks.list nh1 _ l ap zs).toS) s.heap.objs.size nf ns sz few items (zs.size - 0) 0 _ (by omega) (Nat.zero_le _) ⟨⟨_, Heap.get?_push_size _ rfl, rfl, rfl⟩, il2.push _⟩ ?_ ?_
  · exact ⟨0, Nat.le_refl 0, setR_new_at (Heap.get?_push_of_some _ at0)⟩
  · intro s' c mv hc hS
    obtain ⟨h', g2, d2, tk, os2⟩ := s'
    obtain rfl : g2 = s.gens := mv.gens
    obtain rfl : d2 = s.drawn := mv.drawn
    obtain rfl : os2 = s.os := mv.os
    refine wpAny_pure (done h' tk c ⟨hS, by omega, fun b o e => ?_⟩)
    have hb : b < s.heap.objs.size := Heap.lt_size e
    refine mv.heap b o (fun z => ?_) (Heap.get?_push_of_some _ (Heap.get?_push_of_some _ e))
    rcases List.mem_cons.mp z with z | z
    · exact Nat.ne_of_lt hb z
    · have z := List.mem_singleton.mp z
      rw [size2] at z
      exact Nat.ne_of_lt (Nat.lt_succ_of_lt hb) z
theorem setL_call {l : Addr} {zs : Array Value} {ns : List Int} {Q : Value → Shared → Prop} (nh : A.handled = none) (il : s.heap.IsList l zs) (az : IntsAre zs.toList ns) (few : ns.length + 1 < scanBound)
    (done : ∀ h' tk c, SetDone w s ns h' c → Q (.ref s.heap.objs.size) { s with heap := h', toks := tk }) : wpAny (model P w) A (call (.type "set") [.ref l]) Q E s := by
  have sz : zs.size = ns.length := by
    have := IntsAre.length az
    rwa [Array.length_toList] at this
  obtain ⟨base, more, mro⟩ := F.called_set.mro
  have f1 := F.called_set.made
  have f2 := F.called_set.sub
  have f3 := F.called_set.notType
  have f4 := F.called_set.canCreate
  have f5 := F.typeCall_set_1 (.ref l)
  refine wpAny_call (codeAny_of_tree ?_)
  show wpAny _ _ (callAny (.type "set") _) _ _ _
  refine wpAny_pure ⟨Code.quiet_builtin _ (by decide +kernel), codeAny_builtin F.entry_type_call ?_⟩
  rw [Around.under_plain (weight_type_call_type "set" [.ref l] []) rfl]
  repeat (any_goals (first | assumption | wp_step))
  let made : Value → Shared → Prop := fun o s1 => o = .ref s.heap.objs.size ∧ s1 = { s with heap := s.heap.push (es0 w) }
  refine codeAny_mono (code_set_led1 (Q₁ := made) (.ref l) (E := E) ⟨rfl, rfl⟩) fun r s1 hr => ?_
  match r, hr with
  | .error e, hr => exact hr
  | .ok .next, hr => exact hr.elim
  | .ok .brk, hr => exact hr.elim
  | .ok .cont, hr => exact hr.elim
  | .ok (.ret o), hr =>
    obtain ⟨rfl, rfl⟩ := hr
    have at0 : (s.heap.push (es0 w)).get? s.heap.objs.size = some (es0 w) := Heap.get?_push_size _ rfl
    have ty : Shared.TypeIs { s with heap := s.heap.push (es0 w) } (.ref s.heap.objs.size) "set" := ⟨_, at0, rfl⟩
    have f6 := F.called_set.init.lookup
    have f7 := F.called_set.init.bind (.ref s.heap.objs.size)
    repeat (any_goals (first | assumption | wp_step))
    let inited : Value → Shared → Prop := fun r s2 => r = .none ∧ ∃ h' tk c, s2 = { s with heap := h', toks := tk } ∧ SetDone w s ns h' c
    refine codeAny_mono (codeAny_call_builtin (R := wants inited E) F.called_set.init.plain F.entry_set_init (check_set_init_1 ty ?_)) fun r2 s2 hr2 => ?_
    · obtain ⟨ob, ho, hc, k, hd⟩ := il
      obtain ⟨oc, od, ot, os⟩ := ob
      simp only at hc hd
      subst hc hd
      have il : s.heap.IsList l zs := ⟨_, ho, rfl, k, rfl⟩
      have at1 : (s.heap.push (es0 w)).get? l = some { cls := .type "list", dict := od, data := .seq zs k, slots := os } := Heap.get?_push_of_some _ ho
      have g1 := F.sub_list_set
      have g2 := F.sub_list_frozenset
      have g3 : (Value.type "list" == Value.type "dict") = false := by decide
      have nh3 : A.in1.in1.handled = none := by simpa using nh
      unfold Builtin.«set.__init__» noKeywords Builtin.Frozenset.updateFrom
      generalize hPI : pyIter = PI
      wp_walk
      subst hPI
      exact setL_init nh3 il az few sz fun h' tk c hd => wpAny_pure ⟨rfl, h', tk, c, rfl, hd⟩
    · match r2, hr2 with
      | .error e, hr2 => exact hr2
      | .ok .next, hr2 => exact hr2.elim
      | .ok .brk, hr2 => exact hr2.elim
      | .ok .cont, hr2 => exact hr2.elim
      | .ok (.ret r), hr2 =>
        obtain ⟨rfl, h', tk, c, rfl, hd⟩ := hr2
        repeat (any_goals (first | assumption | wp_step))
        exact done _ _ _ hd
end

/-! ### sorted(set(x)) -/
def insU (x : Int) : List Int → List Int
  | [] => [x]
  | y :: ys => if x < y then x :: y :: ys else if x = y then y :: ys else y :: insU x ys
def sortU (xs : List Int) : List Int := xs.foldr insU []
theorem mem_insU {x k : Int} : ∀ {ys : List Int}, k ∈ insU x ys ↔ k = x ∨ k ∈ ys
  | [] => by simp [insU]
  | y :: ys => by
    unfold insU
    split
    · simp
    · split
      · rename_i h
        subst h
        simp
      · simp only [List.mem_cons, mem_insU (ys := ys)]
        constructor
        · rintro (h | h | h)
          · exact .inr (.inl h)
          · exact .inl h
          · exact .inr (.inr h)
        · rintro (h | h | h)
          · exact .inr (.inl h)
          · exact .inl h
          · exact .inr (.inr h)
theorem asc_insU {x : Int} : ∀ {ys : List Int}, ys.Pairwise (· < ·) → (insU x ys).Pairwise (· < ·)
  | [], _ => by simp [insU]
  | y :: ys, h => by
    have h' := List.pairwise_cons.mp h
    unfold insU
    split
    · rename_i hx
      refine List.pairwise_cons.mpr ⟨fun k hk => ?_, h⟩
      rcases List.mem_cons.mp hk with e | e
      · rw [e]; exact hx
      · exact Int.lt_trans hx (h'.1 k e)
    · split
      · exact h
      · refine List.pairwise_cons.mpr ⟨fun k hk => ?_, asc_insU h'.2⟩
        rcases mem_insU.mp hk with e | e
        · rw [e]; omega
        · exact h'.1 k e
theorem mem_sortU {k : Int} : ∀ {xs : List Int}, k ∈ sortU xs ↔ k ∈ xs
  | [] => by simp [sortU]
  | x :: xs => by
    show k ∈ insU x (sortU xs) ↔ _
    rw [mem_insU, mem_sortU (xs := xs), List.mem_cons]
theorem asc_sortU : ∀ (xs : List Int), (sortU xs).Pairwise (· < ·)
  | [] => .nil
  | x :: xs => asc_insU (asc_sortU xs)
theorem asc_eq : ∀ {xs ys : List Int}, xs.Pairwise (· < ·) → ys.Pairwise (· < ·) → (∀ k, k ∈ xs ↔ k ∈ ys) → xs = ys
  | [], [], _, _, _ => rfl
  | [], y :: ys, _, _, h => by
    have := (h y).mpr List.mem_cons_self
    cases this
  | x :: xs, [], _, _, h => by
    have := (h x).mp List.mem_cons_self
    cases this
  | x :: xs, y :: ys, hx, hy, h => by
    have hx' := List.pairwise_cons.mp hx
    have hy' := List.pairwise_cons.mp hy
    have e : x = y := by
      rcases List.mem_cons.mp ((h x).mp List.mem_cons_self) with e | e
      · exact e
      · rcases List.mem_cons.mp ((h y).mpr List.mem_cons_self) with e2 | e2
        · exact e2.symm
        · have a := hy'.1 x e
          have b := hx'.1 y e2
          omega
    subst e
    congr 1
    refine asc_eq hx'.2 hy'.2 fun k => ⟨fun hk => ?_, fun hk => ?_⟩
    · rcases List.mem_cons.mp ((h k).mp (List.mem_cons_of_mem _ hk)) with e | e
      · have := hx'.1 k hk
        omega
      · exact e
    · rcases List.mem_cons.mp ((h k).mpr (List.mem_cons_of_mem _ hk)) with e | e
      · have := hy'.1 k hk
        omega
      · exact e
def oSortSet (h : Hv) (x : D) : Res D := match seqLT h x with
  | some xs => (match intsOf xs with
    | some ns => if Nat.blt ns.length 64 = true then .ok (.fl ((sortU ns).map .int)) h else .stuck
    | none => .stuck)
  | none => .stuck
theorem relDs_ints {K : PySem.W.Frag} {cad : Nat → Addr} {m : Mp} {n : Nat} {H : Hp} : ∀ (ns : List Int), RelDs K cad m n H (ns.map D.int) (ns.map V.int)
  | [] => RelDs.nil
  | n :: ns => RelDs.cons rfl (relDs_ints ns)
theorem bels_ints {n : Nat} : ∀ (ns : List Int), D.bels n (ns.map D.int) = true
  | [] => rfl
  | k :: ns => Bool.and_eq_true_iff.mpr ⟨rfl, bels_ints ns⟩
theorem pn_sortSet {X : Cx} {c : Cn} {a : Expr} {ma : E} {p p2 q pos : Pos} (hK : X.K = c.K) (hc : X.calm = true) (hg : Gl X "sorted") (hm : X.mg "sorted" = none) (hg2 : Gl X "set") (hm2 : X.mg "set" = none) (ha : PE X a (tOf c ma))
    (na : starEach [a] X.env = (false, eval a X.env) :: starEach [] X.env) : PE X (.Call (.Name "sorted" p) [.Call (.Name "set" p2) [a] [] q] [] pos) (tNew c (e1 oSortSet ma)) := by
  refine ⟨fun pins s σ H Q I ⟨m, h, l, R0, w⟩ => ?_⟩
  refine Call_ (ld_blt I hg hm PyProof.Rows.boot_sorted ?_)
  refine PyProof.Rows.callWith_builtin1 (PyProof.Rows.args_cons ?_ rfl) rfl rfl
  refine Call_ (ld_blt I hg2 hm2 PyProof.Rows.boot_set ?_)
  have w2 := PostN.bind (Rl := RD c) R0.hr w
  refine PyProof.Rows.callWith_type1 (PyProof.Rows.args_cons (thn (ha.run pins s σ H _ I ⟨m, h, l, R0, w2⟩) fun v s1 ⟨x, H1, I1, r1, m1, h1, d, y1, q1, rd, p1⟩ => PyProof.Rows.args_nil ?_) na) na rfl
  unfold oSortSet at p1
  dsimp only at p1
  cases es : seqLT h1 d with
  | none => rw [es] at p1; exact p1.elim
  | some xs =>
    rw [es] at p1
    dsimp only at p1
    cases ei : intsOf xs with
    | none => rw [ei] at p1; exact p1.elim
    | some ns =>
      rw [ei] at p1
      obtain ⟨hz, p1⟩ := PostN.cond p1
      have hz : ns.length < 64 := blt_of hz
      obtain ⟨a0, vs, ev, f, rs⟩ := seqLT_ok q1 rd es
      obtain ⟨p3, _⟩ := intsOf_ok rs.1 ei
      subst p3 ev
      obtain rfl : v = Value.ref a0 := r1
      have hd := I1.ok.hd hc
      have few : ns.length + 1 < scanBound := by unfold scanBound; omega
      have go : ∀ (s0 : Shared) c', L2.Inv X pins σ H1 s0 → SetR X.w s0.heap s1.heap.objs.size (fun j => decide (j ∈ ns)) c' → c' ≤ ns.length →
          wpAny (model X.prog X.w) X.A (call (.builtin "sorted") [.ref s1.heap.objs.size]) (EP X pins σ Q) X.xe s0 := by
        intro s0 c' I2 R1 hcn
        refine sorted_set R1 hd (by omega) fun s' p0 out c0 zs k2 g o hp hg0 hi hs hm0 hl => ?_
        have hn : H1 p0 = none := I2.hok.fresh hp
        have ez : zs = sortU ns := asc_eq hs (asc_sortU ns) fun j => by rw [hm0 j, mem_sortU]; simp
        have hlen : (zs.map V.int).length ≤ sizeLine := by rw [List.length_map, hl, sizeLine_eq]; omega
        have J : L2.Inv X pins σ (upd H1 p0 (.lst (zs.map V.int))) { s0 with heap := s'.heap, gens := s'.gens, drawn := s'.drawn, toks := s'.toks } :=
          I2.call (ch := []) (Un.laid k2 hp hn) (I2.hok.laid k2 hp ⟨hlen, out.toList, c0, vals_of_ints hi, hg0⟩) (by rw [g]; exact I2.bare) (fun _ z => nomatch z)
        have e : s' = { s0 with heap := s'.heap, gens := s'.gens, drawn := s'.drawn, toks := s'.toks } := by
          cases s'
          cases s0
          cases o
          rfl
        rw [e]
        subst ez
        exact ⟨.ref p0, _, J, rfl, PostN.put q1 p1 ⟨relDs_ints _, bels_ints _⟩ hn⟩
      rw [← hK] at f
      rcases f with f | f
      · obtain ⟨its, rv, pl, _⟩ := I1.list f
        exact setL_call hd pl.isList (by simpa using ints_of_vals rv) few fun h' tk c' hdn => PyProof.Rows.args_nil (go { s1 with heap := h', toks := tk } c' (I1.kept hdn.2.2) hdn.1 hdn.2.1)
      · obtain ⟨its, rv, pt, _⟩ := I1.tuple f
        exact call_set_tupI ns hd (show s1.heap.IsTuple a0 its.toArray from pt) (ints_of_vals rv) few fun h' tk c' a1 a2 a3 => PyProof.Rows.args_nil (go { s1 with heap := h', toks := tk } c' (I1.kept a3) a1 a2)

/-! ### zip -/
def pairs : List D → List D → List D
  | x :: xs, y :: ys => .tup [x, y] :: pairs xs ys
  | _, _ => []
def iZip (a b : E) : II := fun l h => (a l h).bind fun x h => (b l h).bind fun y h => match x, y with
  | .tup xs, .tup ys => .ok (pairs xs ys) h
  | .fl xs, .fl ys => .ok (pairs xs ys) h
  | _, _ => .stuck
theorem pairs_get : ∀ {xs ys : List D} {i : Nat}, (pairs xs ys)[i]? = match xs[i]?, ys[i]? with
    | some x, some y => some (.tup [x, y])
    | _, _ => none
  | [], ys, i => by simp [pairs]
  | x :: xs, [], i => by
    cases h : (x :: xs)[i]? <;> simp [pairs]
  | x :: xs, y :: ys, 0 => by simp [pairs]
  | x :: xs, y :: ys, i + 1 => by
    simp only [pairs, List.getElem?_cons_succ]
    exact pairs_get
theorem bels_pairs {n : Nat} : ∀ {xs ys : List D}, D.bels n xs = true → D.bels n ys = true → D.bels n (pairs xs ys) = true
  | [], _, _, _ => rfl
  | _ :: _, [], _, _ => rfl
  | x :: xs, y :: ys, h, g => by
    have h' := Bool.and_eq_true_iff.mp h
    have g' := Bool.and_eq_true_iff.mp g
    exact Bool.and_eq_true_iff.mpr ⟨Bool.and_eq_true_iff.mpr ⟨h'.1, Bool.and_eq_true_iff.mpr ⟨g'.1, rfl⟩⟩, bels_pairs h'.2 g'.2⟩
theorem rw_zip {c : Cn} {m : Mp} {n : Nat} {H : Hp} {xs ys : List D} {vs ws : List V} {J : It} (rx : RDs c m n H xs vs) (ry : RDs c m n H ys ws)
    (hgo : ∀ i m' n' H', Stay m n H m' n' H' → ∀ x y, vs[i]? = some x → ws[i]? = some y → J.go i H' ∧ ∀ z H2, J.yld i H' z H2 → ∃ T, z = .ref T ∧ H' T = none ∧ H2 = upd H' T (.tup [x, y]))
    (hst : ∀ i m' n' H', Stay m n H m' n' H' → vs.length ≤ i ∨ ws.length ≤ i → J.stop i H') : RW c m n H (pairs xs ys) J := by
  refine ⟨bels_pairs rx.2 ry.2, fun i m' h' H' x hn q => ⟨fun d e => ?_, fun e => ?_⟩⟩
  · rw [pairs_get] at e
    cases e1 : xs[i]? with
    | none => rw [e1] at e; cases e
    | some a =>
      cases e2 : ys[i]? with
      | none => rw [e1, e2] at e; cases e
      | some b =>
        rw [e1, e2] at e
        cases e
        obtain ⟨u, eu, ru⟩ := rx.1.get e1
        obtain ⟨v, ev, rv⟩ := ry.1.get e2
        obtain ⟨g1, g2⟩ := hgo i m' h'.n H' x u v eu ev
        refine ⟨g1, fun z H2 hy => ?_⟩
        obtain ⟨T, ez, nT, eH⟩ := g2 z H2 hy
        subst ez eH
        have ba := bels_get rx.2 e1
        have bb := bels_get ry.2 e2
        have x2 : Ext m' h' H' m' h' (upd H' T (.tup [u, v])) := Ext.new q nT
        have nt := q.ntk nT
        refine ⟨x2, HR.new q nT, ?_, Bool.and_eq_true_iff.mpr ⟨D.bel_mono hn ba, Bool.and_eq_true_iff.mpr ⟨D.bel_mono hn bb, rfl⟩⟩⟩
        unfold RelD
        exact ⟨T, [u, v], rfl, ⟨upd_same, nt⟩, RelDs.cons ((ru.stay x ba).stay x2.stay (D.bel_mono hn ba)) (RelDs.cons ((rv.stay x bb).stay x2.stay (D.bel_mono hn bb)) RelDs.nil)⟩
  · refine hst i m' h'.n H' x ?_
    rw [pairs_get] at e
    cases e1 : xs[i]? with
    | none => exact .inl (none_of rx.1 e1)
    | some a =>
      cases e2 : ys[i]? with
      | none => exact .inr (none_of ry.1 e2)
      | some b => rw [e1, e2] at e; cases e
theorem zipT_ok {c : Cn} {K : PySem.W.Frag} (hK : K = c.K) {σ : L2.St} {m2 : Mp} {h2 : Hv} {H2 : Hp} {xs ys : List D} {u v : V} {Q : It → Hp → Prop} (q2 : HR c.K c.cad m2 h2 H2) (r1 : RD c m2 h2.n H2 (.tup xs) u) (r2 : RD c m2 h2.n H2 (.tup ys) v)
    (p2 : Post c (RW c) σ m2 h2 H2 (.ok (pairs xs ys) h2) Q) : ∃ a b xs ys, [u, v] = [V.ref a, V.ref b] ∧ ((SqL c.K H2 a xs ∧ SqL c.K H2 b ys ∧ Q (Itz c.K a b) H2) ∨ (SqT c.K H2 a xs ∧ SqT c.K H2 b ys ∧ Q (RZ.ItzT c.K a b) H2)) := by
  obtain ⟨a, vs, ea, fa, rx⟩ := seqT_ok r1 rfl
  obtain ⟨b, ws, eb, fb, ry⟩ := seqT_ok r2 rfl
  subst ea eb
  refine ⟨a, b, vs, ws, rfl, .inr ⟨fa.sq, fb.sq, Post.here (Rl := RW c) q2 p2 (rw_zip rx ry (fun i m' n' H' x u v eu ev => ⟨⟨vs, ws, u, v, (x.ft fa).sq, (x.ft fb).sq, eu, ev⟩, fun z H3 hy => ?_⟩) fun i m' n' H' x h => ⟨vs, ws, (x.ft fa).sq, (x.ft fb).sq, h⟩)⟩⟩
  obtain ⟨T, x', y', e1, e2, e3, e4, e5⟩ := hy
  have e4 := e4 vs (x.ft fa).sq
  have e5 := e5 ws (x.ft fb).sq
  rw [eu] at e4; rw [ev] at e5
  cases e4; cases e5
  exact ⟨T, e1, e2, e3⟩
theorem zipL_ok {c : Cn} {K : PySem.W.Frag} (hK : K = c.K) {σ : L2.St} {m2 : Mp} {h2 : Hv} {H2 : Hp} {xs ys : List D} {u v : V} {Q : It → Hp → Prop} (q2 : HR c.K c.cad m2 h2 H2) (r1 : RD c m2 h2.n H2 (.fl xs) u) (r2 : RD c m2 h2.n H2 (.fl ys) v)
    (p2 : Post c (RW c) σ m2 h2 H2 (.ok (pairs xs ys) h2) Q) : ∃ a b xs ys, [u, v] = [V.ref a, V.ref b] ∧ ((SqL c.K H2 a xs ∧ SqL c.K H2 b ys ∧ Q (Itz c.K a b) H2) ∨ (SqT c.K H2 a xs ∧ SqT c.K H2 b ys ∧ Q (RZ.ItzT c.K a b) H2)) := by
  obtain ⟨a, vs, ea, fa, rx⟩ := (show ∃ a vs, u = .ref a ∧ FL m2 h2.n H2 a vs ∧ RDs c m2 h2.n H2 xs vs by
    obtain ⟨z1, z2⟩ := r1
    unfold RelD at z1
    obtain ⟨a, vs, ev, f, rs⟩ := z1
    exact ⟨a, vs, ev, f, rs, z2⟩)
  obtain ⟨b, ws, eb, fb, ry⟩ := (show ∃ a vs, v = .ref a ∧ FL m2 h2.n H2 a vs ∧ RDs c m2 h2.n H2 ys vs by
    obtain ⟨z1, z2⟩ := r2
    unfold RelD at z1
    obtain ⟨a, vs, ev, f, rs⟩ := z1
    exact ⟨a, vs, ev, f, rs, z2⟩)
  subst ea eb
  refine ⟨a, b, vs, ws, rfl, .inl ⟨fa.sq, fb.sq, Post.here (Rl := RW c) q2 p2 (rw_zip rx ry (fun i m' n' H' x u v eu ev => ⟨⟨vs, ws, u, v, (x.fl fa).sq, (x.fl fb).sq, eu, ev⟩, fun z H3 hy => ?_⟩) fun i m' n' H' x h => ⟨vs, ws, (x.fl fa).sq, (x.fl fb).sq, h⟩)⟩⟩
  obtain ⟨T, x', y', e1, e2, e3, e4, e5⟩ := hy
  have e4 := e4 vs (x.fl fa).sq
  have e5 := e5 ws (x.fl fb).sq
  rw [eu] at e4; rw [ev] at e5
  cases e4; cases e5
  exact ⟨T, e1, e2, e3⟩
theorem iv_zip {X : Cx} {c : Cn} {e e2 : Expr} {ma mb : E} {p pos tpos : Pos} {elts : List Expr} {kk : Nat} (hK : X.K = c.K) (hg : Gl X "zip") (hm : X.mg "zip" = none) (ha : PE X e (tOf c ma)) (hb : PE X e2 (tOf c mb))
    (hs : starEach [e, e2] X.env = (false, eval e X.env) :: starEach [e2] X.env) (hs2 : starEach [e2] X.env = (false, eval e2 X.env) :: starEach [] X.env) (hpl : (backTo pos (starEach [e2] X.env)).any (·.1) = false) :
    PI X (.Tuple elts kk tpos) (.Call (.Name "zip" p) [e, e2] [] pos) (tOfI c (iZip ma mb)) :=
  PI.mono (RZ.pi_zipA hg hm (pa_cons ha (pa_cons hb pa_nil hs2) hs) hs hpl) fun σ H Q ⟨m, h, l, q, p⟩ => by
    refine ⟨m, h, l, q, Post.mono (Post.bind (Rl := RD c) q.hr p) fun u H1 ⟨m1, h1, d1, y1, q1, r1, p1⟩ => ?_⟩
    refine ⟨m1, h1, l, q.after y1 q1, Post.mono (Post.bind (Rl := RD c) q1 p1) fun v H2 ⟨m2, h2, d2, y2, q2, r2, p2⟩ => ?_⟩
    have r1 := rd_ext y2 r1
    rw [hK]
    cases d1 with
    | tup xs =>
      cases d2 with
      | tup ys => exact zipT_ok rfl q2 r1 r2 p2
      | _ => exact p2.elim
    | fl xs =>
      cases d2 with
      | fl ys => exact zipL_ok rfl q2 r1 r2 p2
      | _ => exact p2.elim
    | _ => cases d2 <;> exact p2.elim
end Ev

set_option Elab.async false
set_option linter.all false
set_option maxRecDepth 100000
set_option maxHeartbeats 2000000
/-! Ev12: and, or, not, chains as values. -/
namespace Ev
open PySem PySem.Spec PyProof.Rows L2
section
variable {X : Cx} {c : Cn} {a b e e2 : Expr} {es rest : List Expr} {pos p : Pos} {ma mb mc : E} {op op' : Hv → D → D → Res D} {r r' : R2} {x : Str}
theorem pv_and (ha : PE X a (tOf c ma)) (hb : PE X (.BoolOp .And (b :: rest) pos) (tOf c mb)) : PE X (.BoolOp .And (a :: b :: rest) pos) (tOf c (eAnd ma mb)) :=
  PE.mono (pe_and ha hb) fun σ H Q ⟨m, h, l, q, p⟩ => by
    refine ⟨m, h, l, q, Post.mono (Post.bind (Rl := RD c) q.hr p) fun u H1 ⟨m1, h1, d, y1, q1, r1, p1⟩ => ?_⟩
    cases d with
    | bl k =>
      refine ⟨k, r1.1, ?_⟩
      cases k with
      | true => exact iteT ⟨m1, h1, l, q.after y1 q1, p1⟩
      | false => exact iteF (Post.here q1 p1 ⟨rfl, rfl⟩)
    | _ => exact p1.elim
theorem pv_or (ha : PE X a (tOf c ma)) (hb : PE X (.BoolOp .Or (b :: rest) pos) (tOf c mb)) : PE X (.BoolOp .Or (a :: b :: rest) pos) (tOf c (eOr ma mb)) :=
  PE.mono (pe_or ha hb) fun σ H Q ⟨m, h, l, q, p⟩ => by
    refine ⟨m, h, l, q, Post.mono (Post.bind (Rl := RD c) q.hr p) fun u H1 ⟨m1, h1, d, y1, q1, r1, p1⟩ => ?_⟩
    cases d with
    | bl k =>
      refine ⟨k, r1.1, ?_⟩
      cases k with
      | true => exact iteT (Post.here q1 p1 ⟨rfl, rfl⟩)
      | false => exact iteF ⟨m1, h1, l, q.after y1 q1, p1⟩
    | _ => exact p1.elim
/-- not x, any x -/
def eNotT (a : E) : E := fun l h => (a l h).bind fun x h => (oTru h x).bind fun b h => .ok (.bl (!b)) h
theorem pv_not (hK : X.K = c.K) (ha : PE X a (tOf c ma)) : PE X (.UnaryOp .Not a pos) (tOf c (eNotT ma)) :=
  PE.mono (pe_notT ha) fun σ H Q ⟨m, h, l, q, p⟩ => by
    refine ⟨m, h, l, q, Post.mono (Post.bind (Rl := RD c) q.hr p) fun u H1 ⟨m1, h1, d, y1, q1, r1, p1⟩ => ?_⟩
    exact ot_tru hK σ m1 h1 H1 d u _ q1 r1 (Post.mono (Post.bind (Rl := RB) q1 p1) fun b H2 ⟨m2, h2, d2, y2, q2, r2, p2⟩ => by
      have r2 : d2 = b := r2
      subst r2
      exact Post.here q2 p2 ⟨rfl, rfl⟩)
theorem tof_chain (h1 : Op2 c op r) (h2 : Op2 c op' r') {σ : L2.St} {H : Hp} {Q : VK} (q : tOf c (eChain op op' ma mb mc) σ H Q) : tChain r r' (tOf c ma) (tOf c mb) (tOf c mc) σ H Q := by
  obtain ⟨m, h, l, q, p⟩ := q
  refine ⟨m, h, l, q, Post.mono (Post.bind (Rl := RD c) q.hr p) fun u H1 ⟨m1, g1, d1, y1, q1, r1, p1⟩ => ?_⟩
  have a1 := q.after y1 q1
  refine ⟨m1, g1, l, a1, Post.mono (Post.bind (Rl := RD c) q1 p1) fun v H2 ⟨m2, g2, d2, y2, q2, r2, p2⟩ => ?_⟩
  have a2 := a1.after y2 q2
  refine h1 σ m2 g2 H2 d1 d2 u v _ q2 (rd_ext y2 r1) r2 (Post.mono (Post.bind (Rl := RD c) q2 p2) fun z H3 ⟨m3, g3, d3, y3, q3, r3, p3⟩ => ?_)
  have a3 := a2.after y3 q3
  cases d3 with
  | bl k =>
    refine ⟨k, r3.1, ?_⟩
    cases k with
    | true =>
      refine iteT ⟨m3, g3, l, a3, Post.mono (Post.bind (Rl := RD c) q3 p3) fun w H4 ⟨m4, g4, d4, y4, q4, r4, p4⟩ => ?_⟩
      exact h2 σ m4 g4 H4 d2 d4 v w Q q4 (rd_ext y4 (rd_ext y3 r2)) r4 p4
    | false => exact iteF (Post.here q3 p3 ⟨rfl, rfl⟩)
  | _ => exact p3.elim
theorem pv_chain {o o' : CmpOp} (hr : OpR X (compareOp o) r) (hr' : OpR X (compareOp o') r') (ho : Op2 c op r) (ho' : Op2 c op' r') (ha : PE X a (tOf c ma)) (hb : PE X b (tOf c mb)) (hc : PE X e (tOf c mc)) (hm : lastMarks [o, o'] [b, e] = false) :
    PE X (.Compare a [o, o'] [b, e] pos) (tOf c (eChain op op' ma mb mc)) :=
  PE.mono (pe_chain hr hr' ha hb hc hm) fun σ H Q q => tof_chain ho ho' q
theorem pt_chainv {o o' : CmpOp} (hr : OpR X (compareOp o) r) (hr' : OpR X (compareOp o') r') (ho : Op2 c op r) (ho' : Op2 c op' r') (ha : PE X a (tOf c ma)) (hb : PE X b (tOf c mb)) (hc : PE X e (tOf c mc)) (hm : lastMarks [o, o'] [b, e] = false) :
    PT X (.Compare a [o, o'] [b, e] pos) (tOfT c (tB (eChain op op' ma mb mc))) :=
  PT.mono (pt_chain hr hr' ha hb hc hm) fun σ H Q q => tof_tB (fun Q' z => tof_chain ho ho' z) q
/-- a global name -/
theorem pv_glob {d : D} {v : V} {u : Value} (hg : Gl X x) (hm : X.mg x = some u) (r : RelV v u) (hd : (x == ("__debug__" : Str)) = false) (rd : ∀ m n H, RD c m n H d v) : PE X (.Name x p) (tOf c (eC d)) := pv_C (pe_glob hg hm r hd) rd
/-- nothing is claimed -/
def eStk : E := fun _ _ => .stuck
def tStk : TT := fun _ _ => .stuck
def aStk : EA := fun _ _ => .stuck
def iStk : II := fun _ _ => .stuck
def sStk : S := fun _ _ => .stuck
theorem pv_stk : PE X e (tOf c eStk) := ⟨fun pins s σ H Q I ⟨m, h, l, q, p⟩ => p.elim⟩
theorem pt_stk : PT X e (tOfT c tStk) := ⟨fun pins s σ H Q I ⟨m, h, l, q, p⟩ => p.elim⟩
theorem pa_stk : PA X es (tOfA c aStk) := ⟨fun pos pins s σ H Q I ⟨m, h, l, q, p⟩ => p.elim⟩
theorem pi_stk : PI X e e2 (tOfI c iStk) := ⟨fun pins s σ H Q I ⟨m, h, l, q, p⟩ => p.elim⟩
theorem ps_stk {st : Stmt} : PS X st (tOfS c sStk) := ⟨fun pins s σ H D I ⟨m, h, l, q, p⟩ => p.elim⟩
/-- any value's answer as a test: a bool, or its truth -/
theorem pt_tru {ta : TE} (hK : X.K = c.K) (h : PE X e (tOf c ma)) (he : ∀ whole, isTrue e X.env whole = (do let v ← whole; standAt e.pos; holding [v] (truthy v))) : PT X e (tOfT c (tE oTru ma)) := pt_truv (ot_tru hK) h he
end

/-! ### f-strings -/
abbrev EJ := Loc → Hv → Str → Res Str
def jNil : EJ := fun _ h acc => .ok acc h
def jCons (e : E) (r : EJ) : EJ := fun l h acc => (e l h).bind fun x h => match x with
  | .str y => if szOk (acc ++ y).length = true then r l h (acc ++ y) else .stuck
  | _ => .stuck
def eJs (j : EJ) : E := fun l h => (j l h Str.empty).bind fun s h => .ok (.str s) h
def oFmt (h : Hv) (x : D) : Res D := match x with
  | .str y => if szOk y.length = true then .ok (.str y) h else .stuck
  | .int i => if decide (i.natAbs.log2 < 1920) = true then .ok (.str (toString i)) h else .stuck
  | _ => .stuck
def RSt (m : Mp) (n : Nat) (H : Hp) (a b : Str) : Prop := a = b
section
variable {X : Cx} {c : Cn} {e : Expr} {es : List Expr} {pos : Pos} {ma : E}
theorem pv_fmt (he : PE X e (tOf c ma)) : PE X (.FormattedValue e (-1) none pos) (tOf c (e1 oFmt ma)) :=
  PE.mono (pe_fmt he) fun σ H Q ⟨m, h, l, q, p⟩ => by
    refine ⟨m, h, l, q, Post.mono (Post.bind (Rl := RD c) q.hr p) fun x H1 ⟨m1, h1, d, y1, q1, r1, p1⟩ => ?_⟩
    cases d with
    | str y =>
      obtain ⟨hz, p1⟩ := Post.cond p1
      exact .inl ⟨y, r1.1, szOk_le hz, Post.here q1 p1 ⟨rfl, rfl⟩⟩
    | int i =>
      obtain ⟨hz, p1⟩ := Post.cond p1
      exact .inr ⟨i, r1.1, of_decide_eq_true hz, Post.here q1 p1 ⟨rfl, rfl⟩⟩
    | _ => exact p1.elim
/-- the parts of an f-string -/
def JOk (X : Cx) (c : Cn) (es : List Expr) (j : EJ) : Prop := ∃ ts, PJ X es ts ∧ ∀ acc σ H (Q : Str → Hp → Prop), (∃ m h l, R c.K c.cad m h l σ H ∧ Post c RSt σ m h H (j l h acc) Q) → tJs ts acc σ H Q
theorem j_nil : JOk X c [] jNil := ⟨[], .nil, fun acc σ H Q ⟨m, h, l, q, p⟩ => Post.here q.hr p rfl⟩
theorem j_cons {j : EJ} (he : PE X e (tOf c ma)) (hr : JOk X c es j) : JOk X c (e :: es) (jCons ma j) := by
  obtain ⟨ts, t1, t2⟩ := hr
  refine ⟨tOf c ma :: ts, .cons he t1, fun acc σ H Q ⟨m, h, l, q, p⟩ => ?_⟩
  refine ⟨m, h, l, q, Post.mono (Post.bind (Rl := RD c) q.hr p) fun x H1 ⟨m1, h1, d, y1, q1, r1, p1⟩ => ?_⟩
  cases d with
  | str y =>
    obtain ⟨hz, p1⟩ := Post.cond p1
    exact ⟨y, r1.1, szOk_le hz, t2 _ σ H1 Q ⟨m1, h1, l, q.after y1 q1, p1⟩⟩
  | _ => exact p1.elim
theorem pv_js {e2 : Expr} {j : EJ} (hr : JOk X c (e :: e2 :: es) j) : PE X (.JoinedStr (e :: e2 :: es) pos) (tOf c (eJs j)) := by
  obtain ⟨ts, t1, t2⟩ := hr
  exact PE.mono (pe_joined t1) fun σ H Q ⟨m, h, l, q, p⟩ => t2 _ σ H _ ⟨m, h, l, q, Post.mono (Post.bind (Rl := RSt) q.hr p) fun s H1 ⟨m1, h1, d, y1, q1, r1, p1⟩ => by
    have r1 : d = s := r1
    subst r1
    exact Post.here q1 p1 ⟨rfl, rfl⟩⟩
end
end Ev

set_option Elab.async false
set_option linter.all false
set_option maxRecDepth 100000
set_option maxHeartbeats 4000000
/-! Ev13: codes for defs, what they mean, and how a code is checked against a def's text. -/
namespace Ev
open PySem PySem.Spec PyProof.Rows L2

inductive Code where
  | stk
  | cst (d : D) | var (i : Nat) | glo (i : Nat)
  | bin (o : Nat) (a b : Code) | bnN (o : Nat) (a b : Code) | cmp (o : Nat) (a b : Code) | neg (a : Code) | nt (a : Code) | an (a b : Code) | ro (a b : Code) | ife (t a b : Code) | chn (o o' : Nat) (a b c : Code)
  | tup (a : Code) | lst (a : Code) | cal (i : Nat) (a : Code) | cv (s i : Nat) (a : Code) | cmt (i : Nat) (a : Code) | bi (o : Nat) (a : Code) | lis (a : Code) | srt (a : Code) | bit (a : Code) | att (i : Nat) (a : Code) | ix (a b : Code) | sl (a lo hi : Code)
  | com (vs : List Nat) (it g t e : Code) | mt (o : Nat) (a as : Code)
  | nil | cns (a as : Code)
  | tv (a : Code) | tt (a : Code) | tn (a : Code) | tan (a b : Code) | tor (a b : Code) | ty
  | ie (a : Code) | i1 (a : Code) | i2 (a b : Code) | iz (a b : Code)
  | gn (i : Nat) | gt (is : List Nat)
  | no | yes (a : Code)
  | sn | sq (a b : Code) | sx (a : Code) | rt (a : Code) | rn | sf (t a b : Code) | br | ct | st (g a : Code) | nw (i : Nat) (a : Code) | dc (i : Nat) | au (o : Nat) (i : Nat) (a : Code) | sb (v o i : Code) | asb (o : Nat) (x i v : Code) | fd (i : Nat) (v o : Code) | fr (it g b : Code) | wh (t b : Code)
  | rs (i : Nat) (a : Code) | pas | tyn (i : Nat)
  | jn | jc (a r : Code) | js (a : Code) | j1 (a : Code) | fmt (a : Code)

/-- what the numbers of a code mean -/
structure Tb where
  gl : List D := []
  fs : List Fn := []
  cms : List (Nat × Fn) := []
  cvs : List (List (Nat × Fn)) := []
  ats : List (List (Nat × AK)) := []
  fds : List (List (Nat × Nat)) := []
  exs : List Nat := []
  tab : Kd → D → Option Bool := fun _ _ => none

structure Den where
  e : E := eStk
  t : TT := tStk
  a : EA := aStk
  i : II := iStk
  g : G := fun _ _ => none
  o : EO := fun _ _ => .stuck
  s : S := sStk
  j : EJ := fun _ _ _ => .stuck

def opB : Nat → Hv → D → D → Res D
  | 0 => oSub
  | 1 => oDiv
  | 2 => oMod
  | 3 => oPow
  | 4 => oShl
  | _ => fun _ _ _ => .stuck
def opN : Nat → Hv → D → D → Res D
  | 0 => oAdd
  | 1 => oMul
  | _ => fun _ _ _ => .stuck
def opC : Nat → Hv → D → D → Res D
  | 0 => oEqD
  | 1 => oNeD
  | 2 => oLt
  | 3 => oLe
  | 4 => oGt
  | 5 => oGe
  | 6 => oIs
  | 7 => oIsNot
  | 8 => oIn2
  | 9 => oNotIn2
  | _ => fun _ _ _ => .stuck
def opA : Nat → Hv → D → D → Res D
  | 0 => oPlus
  | 1 => oSub
  | _ => fun _ _ _ => .stuck
def opM : Nat → Hv → D → List D → Res D
  | 0 => oAppend
  | 1 => oPop
  | 2 => oReverse
  | 3 => oExtend
  | _ => fun _ _ _ => .stuck
def opI (tb : Tb) : Nat → Hv → List D → Res D
  | 0 => oMin1
  | 1 => oMax1
  | 2 => oMin2
  | 3 => oMax2
  | 4 => oSum
  | 5 => oAny
  | 6 => oAll
  | 7 => oLen
  | 8 => oTuple
  | 9 => oAbs
  | 10 => oIntB
  | 11 => oIsi tb.tab
  | 12 => oBool
  | _ => fun _ _ => .stuck
def eOpt (o : Option Fn) (a : EA) : E := match o with
  | some m => eCall m a
  | none => eStk

def tyN : Nat → Option (Str × String)
  | 0 => some ("int", "int")
  | 1 => some ("bool", "bool")
  | 2 => some ("str", "str")
  | 3 => some ("list", "list")
  | 4 => some ("tuple", "tuple")
  | _ => none
def run (tb : Tb) : Code → Den
  | .stk => {}
  | .cst d => { e := eC d }
  | .var i => { e := eVar i }
  | .glo i => { e := match tb.gl[i]? with
    | some d => eC d
    | none => eStk }
  | .bin o a b => { e := e2 (opB o) (run tb a).e (run tb b).e }
  | .bnN o a b => { e := e2 (opN o) (run tb a).e (run tb b).e }
  | .cmp o a b => { e := e2 (opC o) (run tb a).e (run tb b).e }
  | .neg a => { e := e1 oNeg (run tb a).e }
  | .nt a => { e := eNotT (run tb a).e }
  | .an a b => { e := eAnd (run tb a).e (run tb b).e }
  | .ro a b => { e := eOr (run tb a).e (run tb b).e }
  | .ife t a b => { e := eIf (run tb t).t (run tb a).e (run tb b).e }
  | .chn o o' a b c => { e := eChain (opC o) (opC o') (run tb a).e (run tb b).e (run tb c).e }
  | .tup a => { e := eA oTup (run tb a).a }
  | .lst a => { e := eA oLst (run tb a).a }
  | .cal i a => { e := eOpt tb.fs[i]? (run tb a).a }
  | .cv s i a => { e := match tb.cvs[i]? with
    | some disp => eCallV s disp (run tb a).a
    | none => eStk }
  | .cmt i a => { e := match tb.cms[i]? with
    | some p => eCM p.1 p.2 (run tb a).a
    | none => eStk }
  | .bi o a => { e := eA (opI tb o) (run tb a).a }
  | .lis a => { e := eA oList (run tb a).a }
  | .srt a => { e := e1 oSortSet (run tb a).e }
  | .bit a => { e := e1 oBits (run tb a).e }
  | .att i a => { e := match tb.ats[i]? with
    | some disp => e1 (oAttr disp) (run tb a).e
    | none => eStk }
  | .ix a b => { e := e2 oIx2 (run tb a).e (run tb b).e }
  | .sl a lo hi => { e := eSl (run tb a).e (run tb lo).o (run tb hi).o }
  | .com vs it g t e => { e := eComp vs (run tb it).i (run tb g).g (run tb t).t (run tb e).e }
  | .mt o a as => { e := eBmL (opM o) (run tb a).e (run tb as).a }
  | .nil => { a := aNil }
  | .cns a as => { a := aCons (run tb a).e (run tb as).a }
  | .tv a => { t := tB (run tb a).e }
  | .tt a => { t := tE oTru (run tb a).e }
  | .tn a => { t := tNot (run tb a).t }
  | .tan a b => { t := tAnd (run tb a).t (run tb b).t }
  | .tor a b => { t := tOr (run tb a).t (run tb b).t }
  | .ty => { t := tYes }
  | .ie a => { i := iE (run tb a).e }
  | .i1 a => { i := iR1 (run tb a).e }
  | .i2 a b => { i := iR2 (run tb a).e (run tb b).e }
  | .iz a b => { i := iZip (run tb a).e (run tb b).e }
  | .gn i => { g := gN i }
  | .gt is => { g := gTup is }
  | .no => { o := oNo }
  | .yes a => { o := oYes (run tb a).e }
  | .sn => { s := sNil }
  | .pas => { s := sNil }
  | .sq a b => { s := sSeq (run tb a).s (run tb b).s }
  | .sx a => { s := sExpr (run tb a).e }
  | .rt a => { s := sRet (run tb a).e }
  | .rn => { s := sRetN }
  | .sf t a b => { s := sIf (run tb t).t (run tb a).s (run tb b).s }
  | .br => { s := sBrk }
  | .ct => { s := sCont }
  | .st g a => { s := sSet (run tb g).g (run tb a).e }
  | .nw i a => { s := sNew i (run tb a).e }
  | .dc i => { s := sDic i }
  | .au o i a => { s := sAug i (opA o) (run tb a).e }
  | .sb v o i => { s := sSub stIx (run tb v).e (run tb o).e (run tb i).e }
  | .asb o x i v => { s := sAugSub getIx (opA o) stIx (run tb x).e (run tb i).e (run tb v).e }
  | .fd i v o => { s := match tb.fds[i]? with
    | some disp => sFld (stSlot disp) (run tb v).e (run tb o).e
    | none => sStk }
  | .fr it g b => { s := sFor (run tb it).i (run tb g).g (run tb b).s }
  | .wh t b => { s := sWhile (run tb t).t (run tb b).s }
  | .tyn i => { e := match tyN i with
    | some p => eC (.ty p.2)
    | none => eStk }
  | .jn => { j := jNil }
  | .jc a r => { j := jCons (run tb a).e (run tb r).j }
  | .js a => { e := eJs (run tb a).j }
  | .j1 a => { e := (run tb a).e }
  | .fmt a => { e := e1 oFmt (run tb a).e }
  | .rs i a => { s := match tb.exs[i]? with
    | some z => sRaise z (run tb a).e
    | none => sStk }

/-! ### checking -/
structure CC where
  N : List Str
  sc : Scope
  fn : Str → Bool := fun _ => true
  bn : List Str := []
  gln : List Str := []
  fnn : List (Str × Nat) := []
  cmn : List (Str × Str × Nat) := []
  cvn : List Nat := []
  atn : List Str := []
  fdn : List Str := []
  exn : List Str := []

def isGl (sc : Scope) (x : Str) : Bool := decide (sc.names.lookup x = some .globalImplicit)
def isVis (sc : Scope) (x : Str) : Bool := decide (sc.names.lookup x = some .local) || decide (sc.names.lookup x = some .cell) || decide (sc.names.lookup x = some .free)
def isLoc (cc : CC) (x : Str) : Bool := decide (cc.sc.names.lookup x = some .local) || (decide (cc.sc.names.lookup x = some .cell) && cc.fn x)
def plainN (x : Str) : Bool := !(x == ("__debug__" : Str)) && (!(x == ("__classdict__" : Str)) && decide (x ≠ ("__name__" : Str)))
def eqS (x y : Str) : Bool := decide (x = y)
def atS (l : List Str) (i : Nat) (x : Str) : Bool := match l[i]? with
  | some y => eqS y x
  | none => false
def notStar : Expr → Bool
  | .Starred _ _ => false
  | _ => true
def notSuper : Expr → Bool
  | .Call (.Name _ _) [] [] _ => false
  | _ => true
def notSlice : Expr → Bool
  | .Slice _ _ _ _ => false
  | _ => true
def notSet : Expr → Bool
  | .Set _ _ _ => false
  | _ => true
/-- its test is its value's truth -/
def plainT : Expr → Bool
  | .UnaryOp _ _ _ => false
  | .BoolOp _ _ _ => false
  | .IfExp _ _ _ _ => false
  | .Compare _ _ _ _ => false
  | _ => true
def notComp : Expr → Bool
  | .ListComp _ _ _ _ => false
  | .SetComp _ _ _ _ => false
  | .DictComp _ _ _ _ _ => false
  | _ => true
def notTup : Expr → Bool
  | .Tuple _ _ _ => false
  | _ => true
def cOk : Const → D → Bool
  | .none, .non => true
  | .bool a, .bl b => a == b
  | .int a, .int b => decide (a = b)
  | .str a, .str b => decide (a = b)
  | _, _ => false
def obOk : Nat → Operator → Bool
  | 0, .Sub => true
  | 1, .FloorDiv => true
  | 2, .Mod => true
  | 3, .Pow => true
  | 4, .LShift => true
  | _, _ => false
def onOk : Nat → Operator → Bool
  | 0, .Add => true
  | 1, .Mult => true
  | _, _ => false
def ocOk : Nat → CmpOp → Bool
  | 0, .Eq => true
  | 1, .NotEq => true
  | 2, .Lt => true
  | 3, .LtE => true
  | 4, .Gt => true
  | 5, .GtE => true
  | 6, .Is => true
  | 7, .IsNot => true
  | 8, .In => true
  | 9, .NotIn => true
  | _, _ => false
def oaOk : Nat → Operator → Bool
  | 0, .Add => true
  | 1, .Sub => true
  | _, _ => false
def biN : Nat → Option (Str × Nat)
  | 0 => some ("min", 1)
  | 1 => some ("max", 1)
  | 2 => some ("min", 2)
  | 3 => some ("max", 2)
  | 4 => some ("sum", 1)
  | 5 => some ("any", 1)
  | 6 => some ("all", 1)
  | 7 => some ("len", 1)
  | 8 => some ("tuple", 1)
  | 9 => some ("abs", 1)
  | 10 => some ("int", 1)
  | 11 => some ("isinstance", 2)
  | 12 => some ("bool", 1)
  | _ => none
def mtN : Nat → Option (Str × Nat)
  | 0 => some ("append", 1)
  | 1 => some ("pop", 0)
  | 2 => some ("reverse", 0)
  | 3 => some ("extend", 1)
  | _ => none
def relS (scope sc : Scope) : Scope := { scope with names := scope.names.map fun (n, k) => if (k == .free && sc.kind == .function && sc.names.lookup n == some .cell) then (n, .cell) else (n, k) }
def CC.inner (cc : CC) (scope : Scope) : CC := { cc with sc := relS scope cc.sc, fn := fun x => scope.names.lookup x == some .cell }
/-- a store to a name given a comprehension is swapped with its end -/
def swB (sc : Scope) (t : Str) (p : Pos) (s : Scope) (q : Pos) : Bool :=
  (if sc.kind.isAnnotationScope then ScopeKind.function else sc.kind) == .function && sc.names.lookup t == some .local && p.line == q.line && !(s.names.any fun (n, k) => n == t && (k == .local || k == .cell))
def namesAt (cc : CC) : List Expr → List Nat → Bool
  | [], [] => true
  | .Name x _ :: es, i :: is => atS cc.N i x && isLoc cc x && namesAt cc es is
  | _, _ => false
def chkG (cc : CC) (tg : Expr) : Code → Bool
  | .gn i => (match tg with
    | .Name x _ => atS cc.N i x && isLoc cc x
    | _ => false)
  | .gt is => (match tg with
    | .Tuple es _ _ => namesAt cc es is
    | _ => false)
  | _ => false
def gIn (vs : List Nat) : Code → Bool
  | .gn i => vs.contains i
  | .gt is => is.all vs.contains
  | _ => false
def ownOf (N : List Str) (vs : List Nat) : List (Str × Nat) := vs.map fun i => (N.getD i (""), i)
mutual
def chkE : Nat → CC → Expr → Code → Bool
  | 0, _, _, k => (match k with
    | .stk => true
    | _ => false)
  | n + 1, cc, e, k => (match k with
    | .stk => true
    | .cst d => (match e with
      | .Constant q _ _ => cOk q d
      | _ => false)
    | .var i => (match e with
      | .Name x _ => atS cc.N i x && (isVis cc.sc x && plainN x)
      | _ => false)
    | .glo i => (match e with
      | .Name x _ => atS cc.gln i x && (isGl cc.sc x && plainN x)
      | _ => false)
    | .js a => (match e with
      | .JoinedStr (x :: y :: r) _ => chkJ n cc (x :: y :: r) a
      | _ => false)
    | .j1 a => (match e with
      | .JoinedStr [x] _ => chkE n cc x a
      | _ => false)
    | .fmt a => (match e with
      | .FormattedValue x cv none _ => decide (cv = -1) && chkE n cc x a
      | _ => false)
    | .tyn i => (match e with
      | .Name x _ => (match tyN i with
        | some q => eqS q.1 x && (isGl cc.sc x && (plainN x && cc.bn.contains x))
        | none => false)
      | _ => false)
    | .bin o a b => (match e with
      | .BinOp x p y _ => obOk o p && (chkE n cc x a && chkE n cc y b)
      | _ => false)
    | .cmp o a b => (match e with
      | .Compare x [p] [y] _ => ocOk o p && (notSet y && (chkE n cc x a && chkE n cc y b))
      | _ => false)
    | .neg a => (match e with
      | .UnaryOp .USub x _ => chkE n cc x a
      | _ => false)
    | .nt a => (match e with
      | .UnaryOp .Not x _ => chkE n cc x a
      | _ => false)
    | .an a b => (match e with
      | .BoolOp .And (x :: y :: r) p => chkE n cc x a && chkB n cc .And y r b
      | _ => false)
    | .ro a b => (match e with
      | .BoolOp .Or (x :: y :: r) p => chkE n cc x a && chkB n cc .Or y r b
      | _ => false)
    | .ife t a b => (match e with
      | .IfExp w x y _ => chkT n cc w t && (chkE n cc x a && chkE n cc y b)
      | _ => false)
    | .chn o o' a b c => (match e with
      | .Compare x [p, p'] [y, z] _ => (ocOk o p && ocOk o' p') && ((notSet y && notSet z) && (chkE n cc x a && (chkE n cc y b && chkE n cc z c)))
      | _ => false)
    | .tup a => (match e with
      | .Tuple es _ _ => chkA n cc es a
      | _ => false)
    | .cal i a => (match e with
      | .Call (.Name x _) es [] _ => (match cc.fnn[i]? with
        | some q => eqS q.1 x && (Nat.beq q.2 es.length && (isGl cc.sc x && (plainN x && chkA n cc es a)))
        | none => false)
      | _ => false)
    | .cv s i a => (match e with
      | .Call (.Name x _) (e1 :: es) [] _ => (match cc.cvn[i]? with
        | some q => atS cc.N s x && (Nat.beq q (e1 :: es).length && (isVis cc.sc x && (plainN x && chkA n cc (e1 :: es) a)))
        | none => false)
      | _ => false)
    | .cmt i a => (match e with
      | .Call (.Attribute (.Name x _) m apos) (e1 :: es) [] pos => (match cc.cmn[i]? with
        | some q => (eqS q.1 x && eqS q.2.1 m) && (Nat.beq q.2.2 (e1 :: es).length && (isGl cc.sc x && (plainN x && ((Nat.beq apos.endLine pos.line && Nat.blt (e1 :: es).length 30) && chkA n cc (e1 :: es) a))))
        | none => false)
      | _ => false)
    | .bi o a => (match e with
      | .Call (.Name x _) (e1 :: es) [] _ => (match biN o with
        | some q => eqS q.1 x && (Nat.beq q.2 (e1 :: es).length && (isGl cc.sc x && (plainN x && (cc.bn.contains x && chkA n cc (e1 :: es) a))))
        | none => false)
      | _ => false)
    | .bit a => (match e with
      | .Call (.Attribute x m apos) [] [] pos => eqS m "bit_length" && (notSuper x && (Nat.beq apos.endLine pos.line && chkE n cc x a))
      | _ => false)
    | .att i a => (match e with
      | .Attribute x f _ => atS cc.atn i f && (notSuper x && chkE n cc x a)
      | _ => false)
    | .ix a b => (match e with
      | .Subscript x y _ => notSlice y && (chkE n cc x a && chkE n cc y b)
      | _ => false)
    | .mt o a as => (match e with
      | .Call (.Attribute x m apos) es [] pos => (match mtN o with
        | some q => eqS q.1 m && (Nat.beq q.2 es.length && (notSuper x && (Nat.beq apos.endLine pos.line && (chkE n cc x a && chkA n cc es as))))
        | none => false)
      | _ => false)
    | k => chkN n cc e k)
def chkJ : Nat → CC → List Expr → Code → Bool
  | 0, _, _, _ => false
  | n + 1, cc, [], .jn => true
  | n + 1, cc, x :: es, .jc a r => chkE n cc x a && chkJ n cc es r
  | _, _, _, _ => false
def chkN : Nat → CC → Expr → Code → Bool
  | 0, _, _, _ => false
  | n + 1, cc, e, k => (match k with
    | .lst a => (match e with
      | .List es _ => chkA n cc es a
      | _ => false)
    | .bnN o a b => (match e with
      | .BinOp x p y _ => onOk o p && (chkE n cc x a && chkE n cc y b)
      | _ => false)
    | .lis a => (match e with
      | .Call (.Name x _) [y] [] _ => eqS x "list" && (isGl cc.sc x && (cc.bn.contains x && chkA n cc [y] a))
      | _ => false)
    | .srt a => (match e with
      | .Call (.Name x _) [.Call (.Name y _) [z] [] _] [] _ => (eqS x "sorted" && eqS y "set") && ((isGl cc.sc x && isGl cc.sc y) && ((cc.bn.contains x && cc.bn.contains y) && (notStar z && chkE n cc z a)))
      | _ => false)
    | .sl a lo hi => (match e with
      | .Subscript x (.Slice l u none _) _ => chkE n cc x a && (chkO n cc l lo && chkO n cc u hi)
      | _ => false)
    | .com vs it g t el => (match e with
      | .ListComp x [⟨tg, iter, ifs, 0⟩] scope _ => (blkC cc.N cc.sc scope (ownOf cc.N vs) && (chkG (cc.inner scope) tg g && gIn vs g)) && (notSet iter && (chkI n cc tg iter it && (chkF n (cc.inner scope) ifs t && chkE n (cc.inner scope) x el)))
      | _ => false)
    | _ => false)
def chkO : Nat → CC → Option Expr → Code → Bool
  | 0, _, _, _ => false
  | n + 1, cc, e, k => (match k with
    | .no => e.isNone
    | .yes a => (match e with
      | some x => chkE n cc x a
      | none => false)
    | _ => false)
/-- and, or: the rest of the values -/
def chkB : Nat → CC → BoolOp → Expr → List Expr → Code → Bool
  | 0, _, _, _, _, _ => false
  | n + 1, cc, op, x, [], k => chkE n cc x k
  | n + 1, cc, op, x, y :: r, k => (match k with
    | .an a b => decide (op = .And) && (chkE n cc x a && chkB n cc op y r b)
    | .ro a b => decide (op = .Or) && (chkE n cc x a && chkB n cc op y r b)
    | _ => false)
def chkT : Nat → CC → Expr → Code → Bool
  | 0, _, _, _ => false
  | n + 1, cc, e, k => (match k with
    | .stk => true
    | .tv a => (match e with
      | .Compare x [p] [y] _ => (match a with
        | .cmp o b d => ocOk o p && (notSet y && (chkE n cc x b && chkE n cc y d))
        | _ => false)
      | .Compare x [p, p'] [y, z] _ => (match a with
        | .chn o o' b d f => (ocOk o p && ocOk o' p') && ((notSet y && notSet z) && (chkE n cc x b && (chkE n cc y d && chkE n cc z f)))
        | _ => false)
      | e => plainT e && chkE n cc e a)
    | .tt a => plainT e && chkE n cc e a
    | .tn a => (match e with
      | .UnaryOp .Not x _ => chkT n cc x a
      | _ => false)
    | .tan a b => (match e with
      | .BoolOp .And (x :: y :: r) p => chkT n cc x a && chkTB n cc .And y r b
      | _ => false)
    | .tor a b => (match e with
      | .BoolOp .Or (x :: y :: r) p => chkT n cc x a && chkTB n cc .Or y r b
      | _ => false)
    | _ => false)
def chkTB : Nat → CC → BoolOp → Expr → List Expr → Code → Bool
  | 0, _, _, _, _, _ => false
  | n + 1, cc, op, x, [], k => chkT n cc x k
  | n + 1, cc, op, x, y :: r, k => (match k with
    | .tan a b => decide (op = .And) && (chkT n cc x a && chkTB n cc op y r b)
    | .tor a b => decide (op = .Or) && (chkT n cc x a && chkTB n cc op y r b)
    | _ => false)
def chkF : Nat → CC → List Expr → Code → Bool
  | 0, _, _, _ => false
  | n + 1, cc, [], .ty => true
  | n + 1, cc, [x], k => chkT n cc x k
  | _, _, _, _ => false
def chkA : Nat → CC → List Expr → Code → Bool
  | 0, _, _, _ => false
  | n + 1, cc, [], .nil => true
  | n + 1, cc, x :: es, .cns a as => notStar x && (chkE n cc x a && chkA n cc es as)
  | _, _, _, _ => false
def chkI : Nat → CC → Expr → Expr → Code → Bool
  | 0, _, _, _, _ => false
  | n + 1, cc, tg, e, k => (match k with
    | .ie a => chkE n cc e a
    | .i1 a => (match e with
      | .Call (.Name x _) [y] [] _ => eqS x "range" && (isGl cc.sc x && (cc.bn.contains x && (notStar y && chkE n cc y a)))
      | _ => false)
    | .i2 a b => (match e with
      | .Call (.Name x _) [y, z] [] _ => eqS x "range" && (isGl cc.sc x && (cc.bn.contains x && ((notStar y && notStar z) && (chkE n cc y a && chkE n cc z b))))
      | _ => false)
    | .iz a b => (match tg with
      | .Tuple _ _ _ => (match e with
        | .Call (.Name x _) [y, z] [] _ => eqS x "zip" && (isGl cc.sc x && (cc.bn.contains x && ((notStar y && notStar z) && (chkE n cc y a && chkE n cc z b))))
        | _ => false)
      | _ => false)
    | .stk => true
    | _ => false)
end
end Ev

set_option Elab.async false
set_option linter.all false
set_option maxRecDepth 100000
set_option maxHeartbeats 4000000
/-! Ev14: a checked code tells what the text's expressions do. -/
namespace Ev
open PySem PySem.Spec PyProof.Rows L2

/-- another reading of the same run: the same program, room and globals -/
structure Like (X Y : Cx) : Prop where
  p : Y.prog = X.prog
  w : Y.w = X.w
  K : Y.K = X.K
  mg : Y.mg = X.mg
  b : Y.base = X.base
  A : Y.A = X.A
theorem Like.trans {X Y Z : Cx} (a : Like X Y) (b : Like Y Z) : Like X Z := ⟨b.p.trans a.p, b.w.trans a.w, b.K.trans a.K, b.mg.trans a.mg, b.b.trans a.b, b.A.trans a.A⟩
/-- .. and what is wished of it -/
structure LikeC (X : Cx) (c : Cn) (Y : Cx) (d : Cn) : Prop where
  l : Like X Y
  K : d.K = c.K
  cad : d.cad = c.cad
  tk : Takes Y d.W
theorem LikeC.trans {X Y Z : Cx} {c d e : Cn} (a : LikeC X c Y d) (b : LikeC Y d Z e) : LikeC X c Z e := ⟨a.l.trans b.l, b.K.trans a.K, b.cad.trans a.cad, b.tk⟩
structure GoodX (cc : CC) (tb : Tb) (c : Cn) (X : Cx) : Prop where
  K : X.K = c.K
  N : X.N = cc.N
  nd : cc.N.Nodup
  sc : X.env.scope = cc.sc
  fn : X.fn = cc.fn
  calm : X.calm = true
  tk : Takes X c.W
  hu : X.A.units + 65 < cLine
  bt : ∀ x, cc.bn.contains x = true → X.mg x = none
  gl : ∀ (i : Nat) x, cc.gln[i]? = some x → ∃ d u, tb.gl[i]? = some d ∧ X.mg x = some u ∧ ∀ Y d', LikeC X c Y d' → ∃ v, RelV v u ∧ ∀ m n H, RD d' m n H d v
  fs : ∀ (i : Nat) x np, cc.fnn[i]? = some (x, np) → ∃ mf f, tb.fs[i]? = some mf ∧ X.mg x = some (.ref f) ∧ PySem.W.keepIn X.K (.ref f) = true ∧ ∀ Y d, LikeC X c Y d → CallP Y d f np mf
  cm : ∀ (i : Nat) x m np, cc.cmn[i]? = some (x, m, np) → ∃ z mf p g mc, tb.cms[i]? = some (z, mf) ∧ X.mg x = some (.ref (c.cad z)) ∧ ClX.CRead X.K (c.cad z) mc ∧ ClX.CMet X.K (c.cad z) mc m p g ∧ ∀ Y d, LikeC X c Y d → CallQ Y d g (np + 1) mf
  cv : ∀ (i : Nat) np, cc.cvn[i]? = some np → ∃ disp, tb.cvs[i]? = some disp ∧ ∀ z mf, disp.lookup z = some mf → PySem.W.keepIn X.K (.ref (c.cad z)) = true ∧ ∀ Y d, LikeC X c Y d → CallP Y d (c.cad z) np mf
  at_ : ∀ (i : Nat) f, cc.atn[i]? = some f → ∃ disp, tb.ats[i]? = some disp ∧ ∀ z ak, disp.lookup z = some ak → ∀ Y d, LikeC X c Y d → AkP Y d f z ak
  fd : ∀ (i : Nat) f, cc.fdn[i]? = some f → ∃ disp, tb.fds[i]? = some disp ∧ ∀ z j, disp.lookup z = some j → SlX.SCls X.K (c.cad z) ∧ ∃ p, SlX.Slot1 X.K (c.cad z) f p j
  ex : ∀ (i : Nat) x, cc.exn[i]? = some x → ∃ z, tb.exs[i]? = some z ∧ ExcP X (c.cad z) x
  tab : TabOk c.K c.cad tb.tab
theorem takes_none {X : Cx} : Takes X fun _ _ _ _ => False := fun u s' h => by
  obtain ⟨a, B, sI, pins, σ, H, cls, d, e, I, nb, up, sky, na, os, ag, w⟩ := h
  exact w.elim
theorem LikeC.refl {X : Cx} {c : Cn} (t : Takes X c.W) : LikeC X c X c := ⟨⟨rfl, rfl, rfl, rfl, rfl, rfl⟩, rfl, rfl, t⟩
/-- inside a comprehension -/
theorem GoodX.blk {cc : CC} {tb : Tb} {c : Cn} {X : Cx} (g : GoodX cc tb c X) (scope : Scope) (s : Shared) (H : Hp) (C : Addr) (cl : List (Str × Addr)) (fp : List Addr) : GoodX (cc.inner scope) tb c.nox (X.blk s H scope (compEnvC scope cl C X.env) fp) := by
  have lk : LikeC X c (X.blk s H scope (compEnvC scope cl C X.env) fp) c.nox := ⟨⟨rfl, rfl, rfl, rfl, rfl, rfl⟩, rfl, rfl, takes_none⟩
  refine ⟨g.K, g.N, g.nd, ?_, rfl, g.calm, takes_none, g.hu, g.bt, fun i x e => ?_, fun i x np e => ?_, fun i x m np e => ?_, fun i np e => ?_, fun i f e => ?_, g.fd, fun i x e => ?_, g.tab⟩
  · show relS scope X.env.scope = relS scope cc.sc
    rw [g.sc]
  · obtain ⟨d, u, h1, h2, h3⟩ := g.gl i x e
    exact ⟨d, u, h1, h2, fun Y d' l => h3 Y d' (lk.trans l)⟩
  · obtain ⟨mf, f, h1, h2, h3, h4⟩ := g.fs i x np e
    exact ⟨mf, f, h1, h2, h3, fun Y d l => h4 Y d (lk.trans l)⟩
  · obtain ⟨z, mf, p, a, mc, h1, h2, h3, h4, h5⟩ := g.cm i x m np e
    exact ⟨z, mf, p, a, mc, h1, h2, h3, h4, fun Y d l => h5 Y d (lk.trans l)⟩
  · obtain ⟨disp, h1, h2⟩ := g.cv i np e
    exact ⟨disp, h1, fun z mf hz => ⟨(h2 z mf hz).1, fun Y d l => (h2 z mf hz).2 Y d (lk.trans l)⟩⟩
  · obtain ⟨disp, h1, h2⟩ := g.at_ i f e
    exact ⟨disp, h1, fun z ak hz Y d l => h2 z ak hz Y d (lk.trans l)⟩
  · obtain ⟨z, h1, h2⟩ := g.ex i x e
    exact ⟨z, h1, ⟨h2.q, h2.g, h2.k, h2.s, h2.t⟩⟩
/-- another wish -/
theorem GoodX.wish {cc : CC} {tb : Tb} {c d : Cn} {X Y : Cx} (g : GoodX cc tb c X) (lk : LikeC X c Y d) (hN : Y.N = X.N) (hs : Y.env.scope = X.env.scope) (hf : Y.fn = X.fn) (hc : Y.calm = X.calm) : GoodX cc tb d Y := by
  refine ⟨by rw [lk.l.K, lk.K]; exact g.K, hN.trans g.N, g.nd, hs.trans g.sc, hf.trans g.fn, hc.trans g.calm, lk.tk, by rw [lk.l.A]; exact g.hu, fun x e => by rw [lk.l.mg]; exact g.bt x e, fun i x e => ?_, fun i x np e => ?_, fun i x m np e => ?_, fun i np e => ?_, fun i f e => ?_, fun i f e => ?_, fun i x e => ?_, ?_⟩
  · obtain ⟨a, u, h1, h2, h3⟩ := g.gl i x e
    exact ⟨a, u, h1, by rw [lk.l.mg]; exact h2, fun Y d' l => h3 Y d' (lk.trans l)⟩
  · obtain ⟨mf, f, h1, h2, h3, h4⟩ := g.fs i x np e
    exact ⟨mf, f, h1, by rw [lk.l.mg]; exact h2, by rw [lk.l.K]; exact h3, fun Y d l => h4 Y d (lk.trans l)⟩
  · obtain ⟨z, mf, p, a, mc, h1, h2, h3, h4, h5⟩ := g.cm i x m np e
    exact ⟨z, mf, p, a, mc, h1, by rw [lk.l.mg, lk.cad]; exact h2, by rw [lk.l.K, lk.cad]; exact h3, by rw [lk.l.K, lk.cad]; exact h4, fun Y d l => h5 Y d (lk.trans l)⟩
  · obtain ⟨disp, h1, h2⟩ := g.cv i np e
    exact ⟨disp, h1, fun z mf hz => ⟨by rw [lk.l.K, lk.cad]; exact (h2 z mf hz).1, fun Y d' l => by rw [lk.cad]; exact (h2 z mf hz).2 Y d' (lk.trans l)⟩⟩
  · obtain ⟨disp, h1, h2⟩ := g.at_ i f e
    exact ⟨disp, h1, fun z ak hz Y d l => h2 z ak hz Y d (lk.trans l)⟩
  · obtain ⟨disp, h1, h2⟩ := g.fd i f e
    exact ⟨disp, h1, fun z j hz => by rw [lk.l.K, lk.cad]; exact h2 z j hz⟩
  · obtain ⟨z, h1, h2⟩ := g.ex i x e
    exact ⟨z, h1, by rw [lk.cad]; exact ⟨by rw [lk.l.K]; exact h2.q, by rw [lk.l.mg]; exact h2.g, by rw [lk.l.K]; exact h2.k, by rw [lk.l.K]; exact h2.s, by rw [lk.l.K]; exact h2.t⟩⟩
  · rw [lk.K, lk.cad]; exact g.tab

/-! ### small facts of the text -/
theorem and2 {a b : Bool} (h : (a && b) = true) : a = true ∧ b = true := Bool.and_eq_true_iff.mp h
section
variable {cc : CC} {tb : Tb} {c : Cn} {X : Cx} {x : Str} {i : Nat} {e : Expr} {es : List Expr} {env : Env} {pos : Pos}
theorem atS_ok {l : List Str} (h : atS l i x = true) : l[i]? = some x := by
  unfold atS at h
  cases e : l[i]? with
  | none => rw [e] at h; cases h
  | some y => rw [e] at h; rw [of_decide_eq_true h]
theorem GoodX.gl_ (g : GoodX cc tb c X) (h : isGl cc.sc x = true) : Gl X x := by
  unfold isGl at h
  show X.env.scope.names.lookup x = _
  rw [g.sc]; exact of_decide_eq_true h
theorem GoodX.vis (g : GoodX cc tb c X) (h : isVis cc.sc x = true) : Vis X.env.scope x := by
  rw [g.sc]
  unfold isVis at h
  rcases Bool.or_eq_true_iff.mp h with h | h
  · rcases Bool.or_eq_true_iff.mp h with h | h
    · exact .inl (of_decide_eq_true h)
    · exact .inr (.inl (of_decide_eq_true h))
  · exact .inr (.inr (of_decide_eq_true h))
theorem GoodX.loc (g : GoodX cc tb c X) (h : isLoc cc x = true) : L2.Loc X.env.scope x ∧ (X.fn x = true ∨ X.env.scope.names.lookup x = some .local) := by
  rw [g.sc, g.fn]
  unfold isLoc at h
  rcases Bool.or_eq_true_iff.mp h with h | h
  · exact ⟨.inl (of_decide_eq_true h), .inr (of_decide_eq_true h)⟩
  · obtain ⟨h1, h2⟩ := and2 h
    exact ⟨.inr (of_decide_eq_true h1), .inl h2⟩
theorem plainN_ok (h : plainN x = true) : (x == ("__debug__" : Str)) = false ∧ (x == ("__classdict__" : Str)) = false ∧ x ≠ ("__name__" : Str) := by
  obtain ⟨h1, h2⟩ := and2 h
  obtain ⟨h2, h3⟩ := and2 h2
  exact ⟨by simpa using h1, by simpa using h2, of_decide_eq_true h3⟩
theorem starEach_ok (h : notStar e = true) : starEach (e :: es) env = (false, eval e env) :: starEach es env := by
  cases e <;> first | rfl | cases h
theorem star_none : ∀ {es : List Expr}, es.all notStar = true → (backTo pos (starEach es env)).any (·.1) = false
  | [], _ => rfl
  | e :: es, h => by
    have h' := and2 (show (notStar e && es.all notStar) = true by simpa using h)
    rw [starEach_ok h'.1]
    show (false || (backTo pos (starEach es env)).any (·.1)) = false
    rw [star_none h'.2]; rfl
theorem star_all : ∀ {es : List Expr}, es.all notStar = true → (backTo pos (starEach es env)).all (fun x => !x.1) = true
  | [], _ => rfl
  | e :: es, h => by
    have h' := and2 (show (notStar e && es.all notStar) = true by simpa using h)
    rw [starEach_ok h'.1]
    show (true && (backTo pos (starEach es env)).all (fun x => !x.1)) = true
    rw [star_all h'.2]; rfl
theorem star_len : ∀ {es : List Expr}, (backTo pos (starEach es env)).length = es.length := by
  intro es
  unfold backTo
  rw [List.length_map]
  induction es with
  | nil => rfl
  | cons e es ih => cases e <;> (show _ + 1 = _ + 1; rw [ih])
theorem base_ok {f : Str} (h : notSuper e = true) : attributeBase e f env (eval e env) = eval e env := by
  cases e with
  | Call fn args kws p =>
    cases fn with
    | Name x q =>
      cases args with
      | nil =>
        cases kws with
        | nil => cases h
        | cons _ _ => rfl
      | cons _ _ => rfl
    | _ => rfl
  | _ => rfl
theorem isTrue_ok (h : plainT e = true) : ∀ whole, isTrue e env whole = (do let v ← whole; standAt e.pos; holding [v] (truthy v)) := by
  intro whole
  cases e <;> first | rfl | cases h
theorem behind_ok {o : CmpOp} (h : notSet e = true) : behindInMarks o e = false := by
  cases e <;> first | rfl | cases h
theorem lastMarks_ok {o o' : CmpOp} {a b : Expr} (h : notSet b = true) : lastMarks [o, o'] [a, b] = false := behind_ok h
theorem folded_ok (h : notSet e = true) : ∀ x, foldedSetIterable e env x = pure x := by
  intro x
  cases e <;> first | rfl | cases h
theorem plainIx_ok (h : notSlice e = true) : PlainIx e := by
  intro o i
  cases e <;> first | rfl | cases h
/-- the length of an argument list -/
theorem alen_ok : ∀ (n : Nat) (cc : CC) (es : List Expr) (k : Code), chkA n cc es k = true → es.all notStar = true ∧ ∀ l h xs h', (run tb k).a l h = .ok xs h' → xs.length = es.length
  | 0, _, _, _, h => by simp [chkA] at h
  | n + 1, cc, [], k, h => by
    cases k <;> simp [chkA] at h
    refine ⟨rfl, fun l hv xs h' e => ?_⟩
    cases e
    rfl
  | n + 1, cc, x :: es, k, h => by
    cases k <;> simp only [chkA, Bool.false_eq_true] at h
    rename_i a as
    obtain ⟨h1, h2⟩ := and2 h
    obtain ⟨h2, h3⟩ := and2 h2
    obtain ⟨i1, i2⟩ := alen_ok n cc es as h3
    refine ⟨by simp [h1, i1], fun l hv xs h' e => ?_⟩
    have e : ((run tb a).e l hv).bind (fun x h => ((run tb as).a l h).bind fun xs h => .ok (x :: xs) h) = .ok xs h' := e
    cases e1 : (run tb a).e l hv with
    | ok d h1 =>
      rw [e1] at e
      have e : ((run tb as).a l h1).bind (fun xs h => .ok (d :: xs) h) = .ok xs h' := e
      cases e2 : (run tb as).a l h1 with
      | ok ds h2 =>
        rw [e2] at e
        cases e
        rw [List.length_cons, List.length_cons, i2 _ _ _ _ e2]
      | exc _ _ => rw [e2] at e; cases e
      | stuck => rw [e2] at e; cases e
    | exc _ _ => rw [e1] at e; cases e
    | stuck => rw [e1] at e; cases e
end
end Ev

set_option Elab.async false
set_option linter.all false
set_option maxRecDepth 100000
set_option maxHeartbeats 8000000
/-! Ev15: the check of expressions is sound. -/
namespace Ev
open PySem PySem.Spec PyProof.Rows L2

theorem PTs.mono {X : Cx} {es : List Expr} {t t' : L2.TT} (p : PTs X es t) (w : ∀ σ H Q, t' σ H Q → t σ H Q) : PTs X es t' := ⟨fun pins s σ H Q I h => p.run pins s σ H Q I (w σ H Q h)⟩
theorem pw_one {X : Cx} {c : Cn} {op : BoolOp} {a : Expr} {pos : Pos} {t : TT} (h : PT X a (tOfT c t)) : PW X (.BoolOp op [a] pos) (tOfT c t) := by
  cases op with
  | And => exact pw_and1 h
  | Or => exact pw_or1 h
/-- what is shown of the checks at one depth -/
structure SE (k0 : Nat) : Prop where
  e : ∀ cc tb c X, GoodX cc tb c X → ∀ e k, chkE k0 cc e k = true → PE X e (tOf c (run tb k).e)
  nw : ∀ cc tb c X, GoodX cc tb c X → ∀ e k, chkN k0 cc e k = true → PE X e (tNew c (run tb k).e)
  o : ∀ cc tb c X, GoodX cc tb c X → ∀ e k, chkO k0 cc e k = true → PO X e (tOfO c (run tb k).o)
  b : ∀ cc tb c X, GoodX cc tb c X → ∀ op x r k pos, chkB k0 cc op x r k = true → PE X (.BoolOp op (x :: r) pos) (tOf c (run tb k).e)
  t : ∀ cc tb c X, GoodX cc tb c X → ∀ e k, chkT k0 cc e k = true → PT X e (tOfT c (run tb k).t)
  tb : ∀ cc tb c X, GoodX cc tb c X → ∀ op x r k pos, chkTB k0 cc op x r k = true → PW X (.BoolOp op (x :: r) pos) (tOfT c (run tb k).t)
  f : ∀ cc tb c X, GoodX cc tb c X → ∀ es k, chkF k0 cc es k = true → PTs X es (tOfT c (run tb k).t)
  a : ∀ cc tb c X, GoodX cc tb c X → ∀ es k, chkA k0 cc es k = true → PA X es (tOfA c (run tb k).a)
  j : ∀ cc tb c X, GoodX cc tb c X → ∀ es k, chkJ k0 cc es k = true → JOk X c es (run tb k).j
  i : ∀ cc tb c X, GoodX cc tb c X → ∀ tg e k, chkI k0 cc tg e k = true → PI X tg e (tOfI c (run tb k).i)

section
variable {n : Nat} {cc : CC} {tb : Tb} {c : Cn} {X : Cx}
theorem SE.zero : SE 0 := by
  refine ⟨fun cc tb c X g e k h => ?_, fun cc tb c X g e k h => ?_, fun cc tb c X g e k h => ?_, fun cc tb c X g op x r k pos h => ?_, fun cc tb c X g e k h => ?_, fun cc tb c X g op x r k pos h => ?_, fun cc tb c X g es k h => ?_, fun cc tb c X g es k h => ?_, fun cc tb c X g es k h => ?_, fun cc tb c X g tg e k h => ?_⟩
  · unfold chkE at h
    cases k <;> first | exact pv_stk | cases h
  all_goals first | (unfold chkN at h; cases h) | (unfold chkO at h; cases h) | (unfold chkB at h; cases h) | (unfold chkT at h; cases h) | (unfold chkTB at h; cases h) | (unfold chkF at h; cases h) | (unfold chkA at h; cases h) | (unfold chkJ at h; cases h) | (unfold chkI at h; cases h)

/-- the operations by their numbers -/
theorem opB_ok {o : Nat} {p : Operator} (h : obOk o p = true) : ∃ r, OpR X (binaryOp p) r ∧ Op2 c (opB o) r := by
  unfold obOk at h
  split at h
  · exact ⟨_, op_sub, on_sub⟩
  · exact ⟨_, op_fdivW, on_div⟩
  · exact ⟨_, op_mod, on_mod⟩
  · exact ⟨_, op_pow, on_pow⟩
  · exact ⟨_, op_shl, on_shl⟩
  · cases h
theorem opN_ok (hK : X.K = c.K) {o : Nat} {p : Operator} (h : onOk o p = true) : ∃ r, OpR X (binaryOp p) r ∧ Op2N c (opN o) r := by
  unfold onOk at h
  split at h
  · exact ⟨_, or_add, on_add hK⟩
  · exact ⟨_, or_mul, on_mul hK⟩
  · cases h
theorem opC_ok (g : GoodX cc tb c X) {o : Nat} {p : CmpOp} (h : ocOk o p = true) : ∃ r, OpR X (compareOp p) r ∧ Op2 c (opC o) r := by
  have hu := g.hu
  have hK := g.K
  unfold ocOk at h
  split at h
  · exact ⟨_, op_eqD (by omega), on_eqD hK⟩
  · exact ⟨_, op_neD (by omega), on_neD hK⟩
  · exact ⟨_, op_lt, on_lt⟩
  · exact ⟨_, op_le, on_le⟩
  · exact ⟨_, op_gt, on_gt⟩
  · exact ⟨_, op_ge, on_ge⟩
  · exact ⟨_, op_isN, on_is⟩
  · exact ⟨_, op_notN, on_isnot⟩
  · exact ⟨_, (or_din (by omega)).or op_in_seq, on_in2 hK⟩
  · exact ⟨_, (or_dnotin (by omega)).or op_notIn_seq, on_notin2 hK⟩
  · cases h
theorem bi_ok (g : GoodX cc tb c X) {o : Nat} {x : Str} {np : Nat} (h : biN o = some (x, np)) (hb : cc.bn.contains x = true) (hg : Gl X x) {e : Expr} {es : List Expr} {me : EA} {p pos : Pos} (hpn : plainN x = true) (ha : PA X (e :: es) (tOfA c me))
    (he : starEach (e :: es) X.env = (false, eval e X.env) :: starEach es X.env) (hpl : (backTo pos (starEach es X.env)).any (·.1) = false) : PE X (.Call (.Name x p) (e :: es) [] pos) (tOf c (eA (opI tb o) me)) := by
  have hm := g.bt x hb
  have hK := g.K
  have hc := g.calm
  obtain ⟨d1, d2, d3⟩ := plainN_ok hpn
  have B : ∀ {id : String} {op : Hv → List D → Res D} {r : List V → Hp → VK → Prop}, CallR X (.builtin id) r → bootBuiltins x = some (.builtin id) → OpN c op r → PE X (.Call (.Name x p) (e :: es) [] pos) (tOf c (eA op me)) :=
    fun hr hv ho => PE.mono (pe_callB hr hg hm hv ha d3 d1 he hpl) fun σ H Q q => tof_eA ho q
  have T : ∀ {id : String} {op : Hv → List D → Res D} {r : List V → Hp → VK → Prop}, CallR X (.type id) r → bootBuiltins x = some (.type id) → OpN c op r → PE X (.Call (.Name x p) (e :: es) [] pos) (tOf c (eA op me)) :=
    fun hr hv ho => PE.mono (pe_callTy hr hg hm hv ha d3 d1 he hpl) fun σ H Q q => tof_eA ho q
  unfold biN at h
  split at h <;> cases h
  · exact B (cr_min hc) PyProof.Rows.boot_min (on_min1 hK)
  · exact B (cr_max hc) PyProof.Rows.boot_max (on_max1 hK)
  · exact B (call_min2 hc) PyProof.Rows.boot_min on_min2
  · exact B (call_max2 hc) PyProof.Rows.boot_max on_max2
  · exact B (cr_sum hc) PyProof.Rows.boot_sum (on_sum hK)
  · exact B (cr_any hc) PyProof.Rows.boot_any (on_any hK)
  · exact B (cr_all hc) PyProof.Rows.boot_all (on_all hK)
  · exact B (call_len.or call_lenD) boot_len (on_len hK)
  · exact T call_tuple_of PyProof.Rows.boot_tuple (on_tuple hK)
  · exact B call_abs PyProof.Rows.boot_abs on_abs
  · exact T call_int1 PyProof.Rows.boot_int on_int
  · exact B call_isi4 PyProof.Rows.boot_isinstance (on_isi hK g.tab)
  · exact T call_bool3 PyProof.Rows.boot_bool (on_bool hK)
theorem mt_ok (g : GoodX cc tb c X) {o : Nat} {m : Str} {np : Nat} (h : mtN o = some (m, np)) {e : Expr} {es : List Expr} {mo : E} {me : EA} {apos pos : Pos} (hlen : es.length = np) (ho : PE X e (tOf c mo)) (ha : PA X es (tOfA c me)) (hnil : es = [] → me = aNil)
    (hst : es.all notStar = true) (hbase : attributeBase e m X.env (eval e X.env) = eval e X.env) (hline : (apos.endLine == pos.line) = true) : PE X (.Call (.Attribute e m apos) es [] pos) (tOf c (eBmL (opM o) mo me)) := by
  have hK := g.K
  have one : ∀ {id : String} {r : V → List V → Hp → VK → Prop} {op : Hv → D → List D → Res D}, np = 1 → Slot "list" m id → typeOf (.builtin id) = pure (.type "method_descriptor") → MtR X id r → OpM c op r → PE X (.Call (.Attribute e m apos) es [] pos) (tOf c (eBmL op mo me)) := by
    intro id r op hn sl ty mt om
    subst hn
    match es, hlen, ha, hst with
    | [a], _, ha, hst =>
      have hs := and2 (show (notStar a && [].all notStar) = true by simpa using hst)
      exact pv_bmL hK F.plainAttrs_list sl ty mt om ho ha hbase (by
        rw [star_all hst]
        rfl) hline (starEach_ok hs.1) rfl
  have zero : ∀ {id : String} {r : V → List V → Hp → VK → Prop} {op : Hv → D → List D → Res D}, np = 0 → Slot "list" m id → typeOf (.builtin id) = pure (.type "method_descriptor") → MtR X id r → OpM c op r → PE X (.Call (.Attribute e m apos) es [] pos) (tOf c (eBmL op mo me)) := by
    intro id r op hn sl ty mt om
    subst hn
    have he : es = [] := List.eq_nil_of_length_eq_zero hlen
    rw [hnil he]
    subst he
    exact pv_bmL0 hK F.plainAttrs_list sl ty mt om ho hbase hline
  unfold mtN at h
  split at h <;> cases h
  · exact one rfl F.slot_list_append F.type_list_append mt_append om_append
  · exact zero rfl F.slot_list_pop F.type_list_pop mt_pop om_pop
  · exact zero rfl F.slot_list_reverse F.type_list_reverse mt_reverse om_reverse
  · exact one rfl F.slot_list_extend F.type_list_extend mt_extend om_extend
theorem cst_ok {q : Const} {d : D} {i : Nat} {pos : Pos} (h : cOk q d = true) : PE X (.Constant q i pos) (tOf c (eC d)) := by
  unfold cOk at h
  split at h
  · exact pv_C pe_non fun m n H => ⟨rfl, rfl⟩
  · have e := eq_of_beq h
    subst e
    exact pv_C pe_bl fun m n H => ⟨rfl, rfl⟩
  · have e := of_decide_eq_true h
    subst e
    exact pv_C pe_int fun m n H => ⟨rfl, rfl⟩
  · have e := of_decide_eq_true h
    subst e
    exact pv_C pe_str fun m n H => ⟨rfl, rfl⟩
  · cases h

/-- C.m(..) with few plain arguments on one line -/
theorem meth_form {o : Expr} {m : Str} {apos pos : Pos} {es : List Expr} {env : Env} (hs : notSuper o = true) (hst : es.all notStar = true) (hl : es.length < 30) (hline : (apos.endLine == pos.line) = true) :
    eval (.Call (.Attribute o m apos) es [] pos) env = (do
      let ov ← eval o env
      standAt apos.atName
      let (f, first) ← holding [ov] (getMethod ov m (do return (← importBound o env).getD true))
      callWith pos f first (backTo pos (starEach es env)) (backToKw pos (keywordEach [] env))) := by
  have few : methodCallForm (es.length + ([] : List Keyword).length) (backTo pos (starEach es env)) (backToKw pos (keywordEach [] env)) = true := by
    unfold methodCallForm
    rw [star_all hst]
    show (true && true && decide (es.length + 0 + 0 < 30)) = true
    rw [decide_eq_true (by omega)]; rfl
  have hb := base_ok (f := m) (env := env) hs
  show (do
    let ov ← attributeBase o m env (eval o env)
    standAt apos.atName
    methodCall o m apos pos env ov (es.length + ([] : List Keyword).length) (backTo pos (starEach es env)) (backToKw pos (keywordEach [] env))) = _
  rw [hb]
  unfold methodCall methodCallPos calleeOf
  rw [few, hline]
  rfl
theorem alen0 {tb : Tb} {n : Nat} {cc : CC} {k : Code} (h : chkA n cc [] k = true) : (run tb k).a = aNil := by
  cases n with
  | zero => simp [chkA] at h
  | succ n => cases k <;> simp [chkA] at h <;> rfl

theorem ty_ok {q : Str × String} {i : Nat} {X : Cx} {c : Cn} {p : Pos} (h : tyN i = some q) (hg : Gl X q.1) (hm : X.mg q.1 = none) (hp : plainN q.1 = true) : PE X (.Name q.1 p) (tOf c (eC (.ty q.2))) := by
  obtain ⟨d1, d2, d3⟩ := plainN_ok hp
  have go : ∀ (n : String), bootBuiltins q.1 = some (.type n) → PE X (.Name q.1 p) (tOf c (eC (.ty n))) := fun n hv => pv_C (pe_bltn (v := .ty n) hg hm hv (show L2.RelV (.ty n) (.type n) from rfl) d3 d1) fun m n' H => ⟨rfl, rfl⟩
  unfold tyN at h
  split at h <;> cases h
  · exact go _ PyProof.Rows.boot_int
  · exact go _ PyProof.Rows.boot_bool
  · exact go _ (by decide +kernel)
  · exact go _ PyProof.Rows.boot_list
  · exact go _ PyProof.Rows.boot_tuple
theorem SE.stepE {n : Nat} (S : SE n) {cc : CC} {tb : Tb} {c : Cn} {X : Cx} (g : GoodX cc tb c X) (e : Expr) (k : Code) (h : chkE (n + 1) cc e k = true) : PE X e (tOf c (run tb k).e) := by
  have hN : ∀ {i x}, atS cc.N i x = true → X.N[i]? = some x := fun h => by rw [g.N]; exact atS_ok h
  cases k
  case stk => exact pv_stk
  case cst d =>
    simp only [chkE] at h
    split at h
    · exact cst_ok h
    · cases h
  case var i =>
    simp only [chkE] at h
    split at h
    · obtain ⟨h1, h2⟩ := and2 h
      obtain ⟨h2, h3⟩ := and2 h2
      obtain ⟨d1, d2, d3⟩ := plainN_ok h3
      exact pv_var (hN h1) (g.vis h2) d1 d2
    · cases h
  case glo i =>
    simp only [chkE] at h
    split at h
    · obtain ⟨h1, h2⟩ := and2 h
      obtain ⟨h2, h3⟩ := and2 h2
      obtain ⟨d1, d2, d3⟩ := plainN_ok h3
      obtain ⟨d, u, e1, e2, e3⟩ := g.gl i _ (atS_ok h1)
      obtain ⟨v, r1, r2⟩ := e3 X c (LikeC.refl g.tk)
      unfold run
      rw [e1]
      exact pv_glob (g.gl_ h2) e2 r1 d1 r2
    · cases h
  case js a =>
    simp only [chkE] at h
    split at h
    · exact pv_js (S.j cc tb c X g _ _ h)
    · cases h
  case j1 a =>
    simp only [chkE] at h
    split at h
    · exact pe_joined1 (show PE X _ (tOf c (run tb a).e) from S.e cc tb c X g _ _ h)
    · cases h
  case fmt a =>
    simp only [chkE] at h
    split at h
    · obtain ⟨h1, h2⟩ := and2 h
      have e1 := of_decide_eq_true h1
      subst e1
      exact pv_fmt (S.e cc tb c X g _ _ h2)
    · cases h
  case tyn i =>
    simp only [chkE] at h
    split at h
    · split at h
      · rename_i q hq
        obtain ⟨h1, h2⟩ := and2 h
        obtain ⟨h2, h3⟩ := and2 h2
        obtain ⟨h3, h4⟩ := and2 h3
        obtain ⟨qx, qn⟩ := q
        have e1 := of_decide_eq_true h1
        dsimp only at e1
        subst e1
        have hh := fun p => ty_ok (p := p) (c := c) (X := X) hq (g.gl_ h2) (g.bt _ h4) h3
        unfold run
        rw [hq]
        exact hh _
      · cases h
    · cases h
  case bin o a b =>
    simp only [chkE] at h
    split at h
    · obtain ⟨h1, h2⟩ := and2 h
      obtain ⟨h2, h3⟩ := and2 h2
      obtain ⟨r, o1, o2⟩ := opB_ok h1
      exact pv_bin o1 o2 (S.e cc tb c X g _ _ h2) (S.e cc tb c X g _ _ h3)
    · cases h
  case cmp o a b =>
    simp only [chkE] at h
    split at h
    · obtain ⟨h1, h2⟩ := and2 h
      obtain ⟨h0, h2⟩ := and2 h2
      obtain ⟨h2, h3⟩ := and2 h2
      obtain ⟨r, o1, o2⟩ := opC_ok g h1
      exact pv_cmp o1 o2 (S.e cc tb c X g _ _ h2) (S.e cc tb c X g _ _ h3) (behind_ok h0)
    · cases h
  case neg a =>
    simp only [chkE] at h
    split at h
    · exact pv_un un_neg on_neg (S.e cc tb c X g _ _ h)
    · cases h
  case nt a =>
    simp only [chkE] at h
    split at h
    · exact pv_not g.K (S.e cc tb c X g _ _ h)
    · cases h
  case an a b =>
    simp only [chkE] at h
    split at h
    · obtain ⟨h1, h2⟩ := and2 h
      exact pv_and (S.e cc tb c X g _ _ h1) (S.b cc tb c X g _ _ _ _ _ h2)
    · cases h
  case ro a b =>
    simp only [chkE] at h
    split at h
    · obtain ⟨h1, h2⟩ := and2 h
      exact pv_or (S.e cc tb c X g _ _ h1) (S.b cc tb c X g _ _ _ _ _ h2)
    · cases h
  case ife t a b =>
    simp only [chkE] at h
    split at h
    · obtain ⟨h1, h2⟩ := and2 h
      obtain ⟨h2, h3⟩ := and2 h2
      exact pv_if (S.t cc tb c X g _ _ h1) (S.e cc tb c X g _ _ h2) (S.e cc tb c X g _ _ h3)
    · cases h
  case chn o o' a b d =>
    simp only [chkE] at h
    split at h
    · obtain ⟨h1, h2⟩ := and2 h
      obtain ⟨a1, a2⟩ := and2 h1
      obtain ⟨h0, h2⟩ := and2 h2
      obtain ⟨b1, b2⟩ := and2 h0
      obtain ⟨h2, h3⟩ := and2 h2
      obtain ⟨h3, h4⟩ := and2 h3
      obtain ⟨r, o1, o2⟩ := opC_ok g a1
      obtain ⟨r', o1', o2'⟩ := opC_ok g a2
      exact pv_chain o1 o1' o2 o2' (S.e cc tb c X g _ _ h2) (S.e cc tb c X g _ _ h3) (S.e cc tb c X g _ _ h4) (lastMarks_ok b2)
    · cases h
  case tup a =>
    simp only [chkE] at h
    split at h
    · exact pv_tup (S.a cc tb c X g _ _ h)
    · cases h
  case cal i a =>
    simp only [chkE] at h
    split at h
    · rename_i x p es pos
      split at h
      · rename_i q hq
        obtain ⟨h1, g2⟩ := and2 h
        obtain ⟨h2, g3⟩ := and2 g2
        obtain ⟨h3, g4⟩ := and2 g3
        obtain ⟨h4, h5⟩ := and2 g4
        obtain ⟨d1, d2, d3⟩ := plainN_ok h4
        have hgl := g.gl_ h3
        obtain ⟨qx, qn⟩ := q
        have e1 : qx = x := of_decide_eq_true h1
        have e2 : qn = es.length := Nat.eq_of_beq_eq_true h2
        subst e1 e2
        obtain ⟨mf, f, f1, f2, f3, f4⟩ := g.fs i _ _ hq
        obtain ⟨st, ln⟩ := alen_ok (tb := tb) n cc es a h5
        unfold run
        rw [f1]
        cases es with
        | nil =>
          dsimp only [eOpt]
          rw [alen0 (tb := tb) h5]
          exact pv_call0 (f4 X c (LikeC.refl g.tk)) hgl f2 f3 d1
        | cons e1 es =>
          have st2 := and2 (show (notStar e1 && es.all notStar) = true by simpa using st)
          exact pv_call (f4 X c (LikeC.refl g.tk)) hgl f2 f3 (S.a cc tb c X g _ _ h5) ln d1 (starEach_ok st2.1) (star_none st2.2)
      · cases h
    · cases h
  case cv s i a =>
    simp only [chkE] at h
    split at h
    · rename_i x p e1 es pos
      split at h
      · rename_i q hq
        obtain ⟨h1, h2⟩ := and2 h
        obtain ⟨h2, h3⟩ := and2 h2
        obtain ⟨h3, h4⟩ := and2 h3
        obtain ⟨h4, h5⟩ := and2 h4
        obtain ⟨d1, d2, d3⟩ := plainN_ok h4
        have e2 : q = (e1 :: es).length := Nat.eq_of_beq_eq_true h2
        subst e2
        obtain ⟨disp, f1, f2⟩ := g.cv i _ hq
        obtain ⟨st, ln⟩ := alen_ok (tb := tb) n cc _ a h5
        have st2 := and2 (show (notStar e1 && es.all notStar) = true by simpa using st)
        unfold run
        rw [f1]
        exact pv_callV (hN h1) (g.vis h3) d2 (fun z mf hz => ⟨(f2 z mf hz).2 X c (LikeC.refl g.tk), (f2 z mf hz).1⟩) (S.a cc tb c X g _ _ h5) ln d1 (starEach_ok st2.1) (star_none st2.2)
      · cases h
    · cases h
  case cmt i a =>
    simp only [chkE] at h
    split at h
    · rename_i x np' m apos e1 es pos
      split at h
      · rename_i q hq
        obtain ⟨h0, h2⟩ := and2 h
        obtain ⟨h1, hm⟩ := and2 h0
        obtain ⟨h2, h3⟩ := and2 h2
        obtain ⟨h3, h4⟩ := and2 h3
        obtain ⟨h4, h5⟩ := and2 h4
        obtain ⟨hl, h5⟩ := and2 h5
        obtain ⟨hl, h30⟩ := and2 hl
        obtain ⟨d1, d2, d3⟩ := plainN_ok h4
        obtain ⟨qx, qm, qn⟩ := q
        have e1' : qx = x := of_decide_eq_true h1
        have e2' : qm = m := of_decide_eq_true hm
        have e3' : qn = (e1 :: es).length := Nat.eq_of_beq_eq_true h2
        subst e1' e2' e3'
        obtain ⟨z, mf, p, a0, mc, f1, f2, f3, f4, f5⟩ := g.cm i _ _ _ hq
        obtain ⟨st, ln⟩ := alen_ok (tb := tb) n cc _ a h5
        have st2 := and2 (show (notStar e1 && es.all notStar) = true by simpa using st)
        have hline : (apos.endLine == pos.line) = true := by rw [Nat.eq_of_beq_eq_true hl]; exact beq_self_eq_true _
        unfold run
        rw [f1]
        exact pv_cm rfl (g.gl_ h3) f2 d1 f3 f4 (f5 X c (LikeC.refl g.tk)) (S.a cc tb c X g _ _ h5) ln (starEach_ok st2.1) (star_none st2.2) (meth_form rfl st (blt_of h30) hline)
      · cases h
    · cases h
  case bi o a =>
    simp only [chkE] at h
    split at h
    · rename_i x p e1 es pos
      split at h
      · rename_i q hq
        obtain ⟨h1, h2⟩ := and2 h
        obtain ⟨h2, h3⟩ := and2 h2
        obtain ⟨h3, h4⟩ := and2 h3
        obtain ⟨h4, h5⟩ := and2 h4
        obtain ⟨h5, h6⟩ := and2 h5
        obtain ⟨qx, qn⟩ := q
        have e1' : qx = x := of_decide_eq_true h1
        subst e1'
        obtain ⟨st, ln⟩ := alen_ok (tb := tb) n cc _ a h6
        have st2 := and2 (show (notStar e1 && es.all notStar) = true by simpa using st)
        exact bi_ok g hq h5 (g.gl_ h3) h4 (S.a cc tb c X g _ _ h6) (starEach_ok st2.1) (star_none st2.2)
      · cases h
    · cases h
  case bit a =>
    simp only [chkE] at h
    split at h
    · rename_i x m apos pos
      obtain ⟨h1, h2⟩ := and2 h
      obtain ⟨h2, h3⟩ := and2 h2
      obtain ⟨h3, h4⟩ := and2 h3
      have e1 : m = "bit_length" := of_decide_eq_true h1
      subst e1
      exact pv_bits (S.e cc tb c X g _ _ h4) (base_ok h2) (by rw [Nat.eq_of_beq_eq_true h3]; exact beq_self_eq_true _)
    · cases h
  case att i a =>
    simp only [chkE] at h
    split at h
    · obtain ⟨h1, h2⟩ := and2 h
      obtain ⟨h2, h3⟩ := and2 h2
      obtain ⟨disp, f1, f2⟩ := g.at_ i _ (atS_ok h1)
      unfold run
      rw [f1]
      exact pv_attr (fun z ak hz => f2 z ak hz X c (LikeC.refl g.tk)) (S.e cc tb c X g _ _ h3) (base_ok h2)
    · cases h
  case ix a b =>
    simp only [chkE] at h
    split at h
    · obtain ⟨h1, h2⟩ := and2 h
      obtain ⟨h2, h3⟩ := and2 h2
      have hu := g.hu
      exact pv_ix ((ix_dic (by omega)).or ix_seq) (on_ix2 g.K) (S.e cc tb c X g _ _ h2) (S.e cc tb c X g _ _ h3) (plainIx_ok h1)
    · cases h
  case mt o a as =>
    simp only [chkE] at h
    split at h
    · rename_i x m apos es pos
      split at h
      · rename_i q hq
        obtain ⟨h1, h2⟩ := and2 h
        obtain ⟨h2, h3⟩ := and2 h2
        obtain ⟨h3, h4⟩ := and2 h3
        obtain ⟨h4, h5⟩ := and2 h4
        obtain ⟨h5, h6⟩ := and2 h5
        obtain ⟨qx, qn⟩ := q
        have e1' : qx = m := of_decide_eq_true h1
        subst e1'
        obtain ⟨st, ln⟩ := alen_ok (tb := tb) n cc _ as h6
        exact mt_ok g hq (Nat.eq_of_beq_eq_true h2).symm (S.e cc tb c X g _ _ h5) (S.a cc tb c X g _ _ h6) (fun hz => by subst hz; exact alen0 h6) st (base_ok h3) (by rw [Nat.eq_of_beq_eq_true h4]; exact beq_self_eq_true _)
      · cases h
    · cases h
  all_goals exact PE.ofNew (S.nw cc tb c X g _ _ (by simpa only [chkE] using h))
end
end Ev

set_option Elab.async false
set_option linter.all false
set_option maxRecDepth 100000
set_option maxHeartbeats 8000000
/-! Ev16: the check of expressions is sound, to the end. -/
namespace Ev
open PySem PySem.Spec PyProof.Rows L2

section
variable {n : Nat} {cc : CC} {tb : Tb} {c : Cn} {X : Cx}
theorem pgs_names (g : GoodX cc tb c X) : ∀ (es : List Expr) (is : List Nat), namesAt cc es is = true → PGs X es (gSets is) ∧ es.length = is.length ∧ (assignEach es X.env).length = is.length ∧ (assignEach es X.env).findIdx? (·.1) = none
  | [], [], _ => ⟨pgs_nil, rfl, rfl, rfl⟩
  | [], _ :: _, h => by simp [namesAt] at h
  | e :: es, [], h => by cases e <;> simp [namesAt] at h
  | e :: es, i :: is, h => by
    cases e <;> simp only [namesAt, Bool.false_eq_true] at h
    rename_i x p
    obtain ⟨h1, h2⟩ := and2 h
    obtain ⟨h0, h1⟩ := and2 h1
    obtain ⟨i1, i2, i3, i4⟩ := pgs_names g es is h2
    obtain ⟨l1, l2⟩ := g.loc h1
    refine ⟨pgs_cons (pg_name (by rw [g.N]; exact g.nd) (by rw [g.N]; exact atS_ok h0) l1 l2) i1, by rw [List.length_cons, List.length_cons, i2], by show _ + 1 = _ + 1; rw [i3], ?_⟩
    show List.findIdx? (·.1) ((false, assign (.Name x p) X.env) :: assignEach es X.env) = none
    rw [List.findIdx?_cons, i4]
    rfl
theorem chkG_ok (g : GoodX cc tb c X) {tg : Expr} {k : Code} (h : chkG cc tg k = true) : ∃ G, PG X tg G ∧ TgOk c (run tb k).g G ∧ ∀ vs, gIn vs k = true → TgOkW c (run tb k).g G vs := by
  cases k <;> simp only [chkG, Bool.false_eq_true] at h
  · split at h
    · obtain ⟨h0, h1⟩ := and2 h
      obtain ⟨l1, l2⟩ := g.loc h1
      refine ⟨_, pg_name (by rw [g.N]; exact g.nd) (by rw [g.N]; exact atS_ok h0) l1 l2, tg_name, fun vs hv => tgw_name ?_⟩
      simpa [gIn] using hv
    · cases h
  · split at h
    · obtain ⟨i1, i2, i3, i4⟩ := pgs_names g _ _ h
      have hK := g.K
      refine ⟨_, pg_tup g.calm i1 i3 i4, ?_, fun vs hv => ?_⟩
      · rw [hK]; exact tg_tup rfl
      · rw [hK]
        refine tgw_tup rfl fun i hi => ?_
        have := List.all_eq_true.mp (show List.all _ vs.contains = true from hv) i hi
        simpa using this
    · cases h
theorem ownOf_ix {N : List Str} {vs : List Nat} : (ownOf N vs).map (·.2) = vs := by
  unfold ownOf
  rw [List.map_map]
  conv => rhs; rw [← List.map_id vs]
  rfl
/-- the target's store is the same in every block -/
theorem chkG_all {ι : Type} {cd : CC} {d : Cn} {Y : ι → Cx} {tg : Expr} {gc : Code} {vs : List Nat} (inner : ∀ j, GoodX cd tb d (Y j)) (hK : ∀ j, (Y j).K = c.K) (hg : chkG cd tg gc = true) (hv : gIn vs gc = true) :
    ∃ G, TgOkW c (run tb gc).g G vs ∧ ∀ j, PG (Y j) tg G := by
  cases gc with
  | gn i =>
    cases tg with
    | Name x p =>
      obtain ⟨h0, h1⟩ := and2 (show (atS cd.N i x && isLoc cd x) = true from hg)
      refine ⟨_, tgw_name (by simpa [gIn] using hv), fun j => ?_⟩
      obtain ⟨l1, l2⟩ := (inner j).loc h1
      exact pg_name (by rw [(inner j).N]; exact (inner j).nd) (by rw [(inner j).N]; exact atS_ok h0) l1 l2
    | _ => simp [chkG] at hg
  | gt is =>
    cases tg with
    | Tuple es k p =>
      refine ⟨L2.gTup c.K is.length (gSets is), tgw_tup rfl fun i hi => ?_, fun j => ?_⟩
      · have := List.all_eq_true.mp (show List.all _ vs.contains = true from hv) i hi
        simpa using this
      · obtain ⟨i1, i2, i3, i4⟩ := pgs_names (inner j) es is hg
        rw [← hK j]
        exact pg_tup (inner j).calm i1 i3 i4
    | _ => simp [chkG] at hg
  | _ => simp [chkG] at hg
theorem SE.stepN (S : SE n) (g : GoodX cc tb c X) (e : Expr) (k : Code) (h : chkN (n + 1) cc e k = true) : PE X e (tNew c (run tb k).e) := by
  cases k <;> simp only [chkN, Bool.false_eq_true] at h
  case lst a =>
    split at h
    · exact pn_lst (S.a cc tb c X g _ _ h)
    · cases h
  case bnN o a b =>
    split at h
    · obtain ⟨h1, h2⟩ := and2 h
      obtain ⟨h2, h3⟩ := and2 h2
      obtain ⟨r, o1, o2⟩ := opN_ok g.K h1
      exact pn_bin o1 o2 (S.e cc tb c X g _ _ h2) (S.e cc tb c X g _ _ h3)
    · cases h
  case lis a =>
    split at h
    · rename_i x p y pos
      obtain ⟨h1, h2⟩ := and2 h
      obtain ⟨h2, h3⟩ := and2 h2
      obtain ⟨h3, h4⟩ := and2 h3
      have e1 : x = "list" := of_decide_eq_true h1
      subst e1
      obtain ⟨st, ln⟩ := alen_ok (tb := tb) n cc _ a h4
      have st2 := and2 (show (notStar y && [].all notStar) = true by simpa using st)
      exact PE.mono (pe_callTy call_list_of (g.gl_ h2) (g.bt _ h3) PyProof.Rows.boot_list (S.a cc tb c X g _ _ h4) (by decide) (by decide) (starEach_ok st2.1) rfl) fun σ H Q q => tnew_eA (on_list g.K) q
    · cases h
  case srt a =>
    split at h
    · rename_i x p y p2 z q pos
      obtain ⟨h1, h2⟩ := and2 h
      obtain ⟨a1, a2⟩ := and2 h1
      obtain ⟨h2, h3⟩ := and2 h2
      obtain ⟨b1, b2⟩ := and2 h2
      obtain ⟨h3, h4⟩ := and2 h3
      obtain ⟨c1, c2⟩ := and2 h3
      obtain ⟨h4, h5⟩ := and2 h4
      have e1 : x = "sorted" := of_decide_eq_true a1
      have e2 : y = "set" := of_decide_eq_true a2
      subst e1 e2
      exact pn_sortSet g.K g.calm (g.gl_ b1) (g.bt _ c1) (g.gl_ b2) (g.bt _ c2) (S.e cc tb c X g _ _ h5) (starEach_ok h4)
    · cases h
  case sl a lo hi =>
    split at h
    · obtain ⟨h1, h2⟩ := and2 h
      obtain ⟨h2, h3⟩ := and2 h2
      exact pn_sl g.K (S.e cc tb c X g _ _ h1) (S.o cc tb c X g _ _ h2) (S.o cc tb c X g _ _ h3)
    · cases h
  case com vs it gc t el =>
    split at h
    · rename_i x tg iter ifs scope pos
      obtain ⟨h1, h2⟩ := and2 h
      obtain ⟨hb, h1⟩ := and2 h1
      obtain ⟨hg, hv⟩ := and2 h1
      obtain ⟨hf, h2⟩ := and2 h2
      obtain ⟨hi, h2⟩ := and2 h2
      obtain ⟨ht, he⟩ := and2 h2
      have bok : BlkOk X.N X.env.scope scope (ownOf cc.N vs) := by
        rw [g.N, g.sc]; exact blkOk_by hb
      have inner := fun s H C cl fp => g.blk scope s H C cl fp
      have hK := g.K
      have main := fun G => pn_comp (g := G) (c := c) (X := X) (elt := x) (tg := tg) (iter := iter) (ifs := ifs) (scope := scope) (own := ownOf cc.N vs) (pos := pos) (it := (run tb it).i) (gv := (run tb gc).g) (t := (run tb t).t) (e := (run tb el).e)
      rw [ownOf_ix] at main
      obtain ⟨G, ok, hG⟩ := chkG_all (ι := Shared × Hp × Addr × List (Str × Addr) × List Addr) (Y := fun j => X.blk j.1 j.2.1 scope (compEnvC scope j.2.2.2.1 j.2.2.1 X.env) j.2.2.2.2) (fun j => inner j.1 j.2.1 j.2.2.1 j.2.2.2.1 j.2.2.2.2) (fun j => hK) hg hv
      have hG := fun (s : Shared) (H : Hp) (C : Addr) (cl : List (Str × Addr)) (fp : List Addr) => hG (s, H, C, cl, fp)
      exact main G g.calm (by rw [g.N]; exact g.nd) (S.i cc tb c X g _ _ _ hi) bok ok hG (fun s H C cl fp => S.f _ tb c.nox _ (inner s H C cl fp) _ _ ht) (fun s H C cl fp => S.e _ tb c.nox _ (inner s H C cl fp) _ _ he) (folded_ok hf)
    · cases h
theorem SE.stepO (S : SE n) (g : GoodX cc tb c X) (e : Option Expr) (k : Code) (h : chkO (n + 1) cc e k = true) : PO X e (tOfO c (run tb k).o) := by
  cases k <;> simp only [chkO, Bool.false_eq_true] at h
  · cases e with
    | none => exact ov_none
    | some _ => cases h
  · split at h
    · exact ov_some (S.e cc tb c X g _ _ h)
    · cases h
theorem SE.stepB (S : SE n) (g : GoodX cc tb c X) (op : BoolOp) (x : Expr) (r : List Expr) (k : Code) (pos : Pos) (h : chkB (n + 1) cc op x r k = true) : PE X (.BoolOp op (x :: r) pos) (tOf c (run tb k).e) := by
  cases r with
  | nil =>
    simp only [chkB] at h
    exact pe_one (S.e cc tb c X g _ _ h)
  | cons y r =>
    cases k <;> simp only [chkB, Bool.false_eq_true] at h
    · obtain ⟨h1, g2⟩ := and2 h
      obtain ⟨h2, h3⟩ := and2 g2
      have e : op = .And := of_decide_eq_true h1
      subst e
      exact pv_and (S.e cc tb c X g _ _ h2) (S.b cc tb c X g _ _ _ _ _ h3)
    · obtain ⟨h1, g2⟩ := and2 h
      obtain ⟨h2, h3⟩ := and2 g2
      have e : op = .Or := of_decide_eq_true h1
      subst e
      exact pv_or (S.e cc tb c X g _ _ h2) (S.b cc tb c X g _ _ _ _ _ h3)
theorem SE.stepT (S : SE n) (g : GoodX cc tb c X) (e : Expr) (k : Code) (h : chkT (n + 1) cc e k = true) : PT X e (tOfT c (run tb k).t) := by
  cases k <;> simp only [chkT, Bool.false_eq_true] at h
  case stk => exact pt_stk
  case tv a =>
    split at h
    · split at h
      · obtain ⟨h1, h2⟩ := and2 h
        obtain ⟨h0, h2⟩ := and2 h2
        obtain ⟨h2, h3⟩ := and2 h2
        obtain ⟨r, o1, o2⟩ := opC_ok g h1
        exact pt_cmpv o1 o2 (S.e cc tb c X g _ _ h2) (S.e cc tb c X g _ _ h3) (behind_ok h0)
      · cases h
    · split at h
      · obtain ⟨h1, h2⟩ := and2 h
        obtain ⟨a1, a2⟩ := and2 h1
        obtain ⟨h0, h2⟩ := and2 h2
        obtain ⟨b1, b2⟩ := and2 h0
        obtain ⟨h2, h3⟩ := and2 h2
        obtain ⟨h3, h4⟩ := and2 h3
        obtain ⟨r, o1, o2⟩ := opC_ok g a1
        obtain ⟨r', o1', o2'⟩ := opC_ok g a2
        exact pt_chainv o1 o1' o2 o2' (S.e cc tb c X g _ _ h2) (S.e cc tb c X g _ _ h3) (S.e cc tb c X g _ _ h4) (lastMarks_ok b2)
      · cases h
    · obtain ⟨h1, h2⟩ := and2 h
      exact pt_valv (S.e cc tb c X g _ _ h2) (isTrue_ok h1)
  case tt a =>
    obtain ⟨h1, h2⟩ := and2 h
    exact pt_tru (ta := fun _ _ _ => True) g.K (S.e cc tb c X g _ _ h2) (isTrue_ok h1)
  case tn a =>
    split at h
    · exact pt_notv (S.t cc tb c X g _ _ h)
    · cases h
  case tan a b =>
    split at h
    · obtain ⟨h1, h2⟩ := and2 h
      exact (pw_andv (S.t cc tb c X g _ _ h1) (S.tb cc tb c X g _ _ _ _ _ h2)).pt
    · cases h
  case tor a b =>
    split at h
    · obtain ⟨h1, h2⟩ := and2 h
      exact (pw_orv (S.t cc tb c X g _ _ h1) (S.tb cc tb c X g _ _ _ _ _ h2)).pt
    · cases h
theorem SE.stepTB (S : SE n) (g : GoodX cc tb c X) (op : BoolOp) (x : Expr) (r : List Expr) (k : Code) (pos : Pos) (h : chkTB (n + 1) cc op x r k = true) : PW X (.BoolOp op (x :: r) pos) (tOfT c (run tb k).t) := by
  cases r with
  | nil =>
    simp only [chkTB] at h
    exact pw_one (S.t cc tb c X g _ _ h)
  | cons y r =>
    cases k <;> simp only [chkTB, Bool.false_eq_true] at h
    · obtain ⟨h1, g2⟩ := and2 h
      obtain ⟨h2, h3⟩ := and2 g2
      have e : op = .And := of_decide_eq_true h1
      subst e
      exact pw_andv (S.t cc tb c X g _ _ h2) (S.tb cc tb c X g _ _ _ _ _ h3)
    · obtain ⟨h1, g2⟩ := and2 h
      obtain ⟨h2, h3⟩ := and2 g2
      have e : op = .Or := of_decide_eq_true h1
      subst e
      exact pw_orv (S.t cc tb c X g _ _ h2) (S.tb cc tb c X g _ _ _ _ _ h3)
theorem SE.stepF (S : SE n) (g : GoodX cc tb c X) (es : List Expr) (k : Code) (h : chkF (n + 1) cc es k = true) : PTs X es (tOfT c (run tb k).t) := by
  match es, h with
  | [], h =>
    cases k <;> simp [chkF] at h
    exact PTs.mono pts_nil fun σ H Q ⟨m, h, l, q, p⟩ => Post.here q.hr p rfl
  | [x], h =>
    simp only [chkF] at h
    exact pts_one (S.t cc tb c X g _ _ h)
  | _ :: _ :: _, h => simp [chkF] at h
theorem SE.stepA (S : SE n) (g : GoodX cc tb c X) (es : List Expr) (k : Code) (h : chkA (n + 1) cc es k = true) : PA X es (tOfA c (run tb k).a) := by
  cases es with
  | nil =>
    cases k <;> simp [chkA] at h
    exact av_nil
  | cons e es =>
    cases k <;> simp only [chkA, Bool.false_eq_true] at h
    obtain ⟨h1, h2⟩ := and2 h
    obtain ⟨h2, h3⟩ := and2 h2
    exact av_cons (S.e cc tb c X g _ _ h2) (S.a cc tb c X g _ _ h3) (starEach_ok h1)
theorem SE.stepJ (S : SE n) (g : GoodX cc tb c X) (es : List Expr) (k : Code) (h : chkJ (n + 1) cc es k = true) : JOk X c es (run tb k).j := by
  cases es with
  | nil =>
    cases k <;> simp [chkJ] at h
    exact j_nil
  | cons e es =>
    cases k <;> simp only [chkJ, Bool.false_eq_true] at h
    obtain ⟨h1, h2⟩ := and2 h
    exact j_cons (S.e cc tb c X g _ _ h1) (S.j cc tb c X g _ _ h2)
theorem SE.stepI (S : SE n) (g : GoodX cc tb c X) (tg e : Expr) (k : Code) (h : chkI (n + 1) cc tg e k = true) : PI X tg e (tOfI c (run tb k).i) := by
  cases k <;> simp only [chkI, Bool.false_eq_true] at h
  case stk => exact pi_stk
  case ie a => exact iv_seq g.K (S.e cc tb c X g _ _ h)
  case i1 a =>
    split at h
    · rename_i x p y pos
      obtain ⟨h1, h2⟩ := and2 h
      obtain ⟨h2, h3⟩ := and2 h2
      obtain ⟨h3, h4⟩ := and2 h3
      obtain ⟨h4, h5⟩ := and2 h4
      have e1 : x = "range" := of_decide_eq_true h1
      subst e1
      exact iv_r1 (g.gl_ h2) (g.bt _ h3) (S.e cc tb c X g _ _ h5) (starEach_ok h4)
    · cases h
  case i2 a b =>
    split at h
    · rename_i x p y z pos
      obtain ⟨h1, h2⟩ := and2 h
      obtain ⟨h2, h3⟩ := and2 h2
      obtain ⟨h3, h4⟩ := and2 h3
      obtain ⟨h4, h5⟩ := and2 h4
      obtain ⟨s1, s2⟩ := and2 h4
      obtain ⟨h5, h6⟩ := and2 h5
      have e1 : x = "range" := of_decide_eq_true h1
      subst e1
      exact iv_r2 (g.gl_ h2) (g.bt _ h3) (S.e cc tb c X g _ _ h5) (S.e cc tb c X g _ _ h6) (by rw [starEach_ok s1, starEach_ok s2]; rfl) (starEach_ok s2)
    · cases h
  case iz a b =>
    split at h
    · split at h
      · rename_i x p y z pos
        obtain ⟨h1, h2⟩ := and2 h
        obtain ⟨h2, h3⟩ := and2 h2
        obtain ⟨h3, h4⟩ := and2 h3
        obtain ⟨h4, h5⟩ := and2 h4
        obtain ⟨s1, s2⟩ := and2 h4
        obtain ⟨h5, h6⟩ := and2 h5
        have e1 : x = "zip" := of_decide_eq_true h1
        subst e1
        exact iv_zip g.K (g.gl_ h2) (g.bt _ h3) (S.e cc tb c X g _ _ h5) (S.e cc tb c X g _ _ h6) (starEach_ok s1) (starEach_ok s2) (star_none (by simp [s2]))
      · cases h
    · cases h
end
theorem se_all : ∀ n, SE n
  | 0 => SE.zero
  | n + 1 => ⟨fun cc tb c X g e k h => SE.stepE (se_all n) g e k h, fun cc tb c X g e k h => SE.stepN (se_all n) g e k h, fun cc tb c X g e k h => SE.stepO (se_all n) g e k h, fun cc tb c X g op x r k pos h => SE.stepB (se_all n) g op x r k pos h,
    fun cc tb c X g e k h => SE.stepT (se_all n) g e k h, fun cc tb c X g op x r k pos h => SE.stepTB (se_all n) g op x r k pos h, fun cc tb c X g es k h => SE.stepF (se_all n) g es k h, fun cc tb c X g es k h => SE.stepA (se_all n) g es k h, fun cc tb c X g es k h => SE.stepJ (se_all n) g es k h, fun cc tb c X g tg e k h => SE.stepI (se_all n) g tg e k h⟩
end Ev

set_option Elab.async false
set_option linter.all false
set_option maxRecDepth 100000
set_option maxHeartbeats 8000000
/-! Ev17: the check of statements and defs is sound. -/
namespace Ev
open PySem PySem.Spec PyProof.Rows L2

def notSl : Expr → Bool
  | .Subscript _ _ _ => false
  | .Attribute _ _ _ => false
  | _ => true
mutual
def chkS : Nat → CC → Stmt → Code → Bool
  | 0, _, _, _ => false
  | n + 1, cc, st, k => (match k with
    | .stk => true
    | .pas => (match st with
      | .Pass _ => true
      | _ => false)
    | .br => (match st with
      | .Break _ => true
      | _ => false)
    | .ct => (match st with
      | .Continue _ => true
      | _ => false)
    | .sx a => (match st with
      | .Expr e _ => notComp e && chkE n cc e a
      | _ => false)
    | .rt a => (match st with
      | .Return (some e) _ => chkE n cc e a
      | _ => false)
    | .rn => (match st with
      | .Return none _ => true
      | _ => false)
    | .sf t a b => (match st with
      | .If e xs ys _ => chkT n cc e t && (chkSs n cc xs a && chkSs n cc ys b)
      | _ => false)
    | .st g a => (match st with
      | .Assign [.Name y p] (.ListComp x [gen] scope q) spos => (match g with
        | .gn i => atS cc.N i y && ((swB cc.sc y p scope q || isLoc cc y) && chkN n cc (.ListComp x [gen] scope q) a)
        | _ => false)
      | .Assign [tg] e _ => chkG cc tg g && ((notComp e && (notTup tg || notTup e)) && (notSl tg && chkE n cc e a))
      | _ => false)
    | .nw i a => (match st with
      | .Assign [.Name y p] (.ListComp x [gen] scope q) spos => atS cc.N i y && ((swB cc.sc y p scope q || isLoc cc y) && chkN n cc (.ListComp x [gen] scope q) a)
      | .Assign [.Name y p] e _ => atS cc.N i y && (isLoc cc y && (notComp e && chkN n cc e a))
      | _ => false)
    | .dc i => (match st with
      | .Assign [.Name y p] (.Dict [] [] _) _ => atS cc.N i y && isLoc cc y
      | _ => false)
    | .au o i a => (match st with
      | .AugAssign (.Name y _) op e _ => oaOk o op && (atS cc.N i y && (isLoc cc y && chkE n cc e a))
      | _ => false)
    | .sb v o i => (match st with
      | .Assign [.Subscript x y _] e _ => notSlice y && (chkE n cc e v && (chkE n cc x o && chkE n cc y i))
      | _ => false)
    | .asb o x i v => (match st with
      | .AugAssign (.Subscript a b _) op e _ => oaOk o op && (notSlice b && (chkE n cc a x && (chkE n cc b i && chkE n cc e v)))
      | _ => false)
    | .fd i v o => (match st with
      | .Assign [.Attribute x f _] e _ => atS cc.fdn i f && (chkE n cc e v && chkE n cc x o)
      | _ => false)
    | .fr it g b => (match st with
      | .For tg iter body [] _ => (chkG cc tg g && notSet iter) && (chkI n cc tg iter it && chkSs n cc body b)
      | _ => false)
    | .wh t b => (match st with
      | .While e body [] _ => chkT n cc e t && chkSs n cc body b
      | _ => false)
    | .rs i a => (match st with
      | .Raise (some (.Call (.Name x _) [e] [] _)) none _ => atS cc.exn i x && ((isGl cc.sc x && plainN x) && (notStar e && chkE n cc e a))
      | _ => false)
    | _ => false)
def chkSs : Nat → CC → List Stmt → Code → Bool
  | 0, _, _, _ => false
  | n + 1, cc, [], k => (match k with
    | .sn => true
    | _ => false)
  | n + 1, cc, st :: r, k => (match k with
    | .sq a b => chkS n cc st a && chkSs n cc r b
    | _ => false)
end
structure GoodS (cc : CC) (tb : Tb) (c : Cn) (X : Cx) : Prop where
  x : GoodX cc tb c X
  pass : PassesOwn (model X.prog X.w) X.A X.env X.xe
section
variable {n : Nat} {cc : CC} {tb : Tb} {c : Cn} {X : Cx} {e tg : Expr} {env : Env} {pos p q : Pos} {i : Nat} {ma : E}
theorem swaps_none {t : Option Expr} {line : Nat} (h : notComp e = true) : swapsWith e t line env = pure false := by
  cases e <;> first | rfl | cases h
theorem swaps_sub {o i2 : Expr} {line : Nat} : swapsWith e (some (.Subscript o i2 p)) line env = pure false := by
  cases e <;> rfl
theorem sole_sub {o i2 : Expr} {line : Nat} : swapsWithSole [.Subscript o i2 p] e line env = pure false := by cases e <;> rfl
theorem swaps_att {o : Expr} {f : Str} {line : Nat} : swapsWith e (some (.Attribute o f p)) line env = pure false := by
  cases e <;> rfl
theorem swaps_yes {x : Expr} {gens : List Comprehension} {scope : Scope} {y : Str} {line : Nat} (h : swB env.scope y p scope q = true) : swapsWith (.ListComp x gens scope q) (some (.Name y p)) line env = pure true := by
  show (pure (env.blockKind == .function && env.kindOf y == some .local && p.line == q.line && !(scope.names.any fun (n, k) => n == y && (k == .local || k == .cell))) : Sem Bool) = pure true
  unfold swB at h
  unfold Env.blockKind Env.kindOf
  rw [h]
theorem swB_loc {sc scope : Scope} {y : Str} (h : swB sc y p scope q = true) : sc.names.lookup y = some .local := by
  unfold swB at h
  obtain ⟨h, _⟩ := and2 h
  obtain ⟨h, _⟩ := and2 h
  obtain ⟨_, h⟩ := and2 h
  exact eq_of_beq h
theorem stores_none (h : (notTup tg || notTup e) = true) (hl : notSl tg = true) : True := trivial
theorem swapped_ok (h1 : notTup e = true) : swappedStores [tg] e env = pure none := by
  cases tg <;> cases e <;> first | rfl | cases h1
theorem swapped_ok2 (h1 : notTup tg = true) (h2 : ∀ es p, tg ≠ .List es p) : swappedStores [tg] e env = pure none := by
  cases tg <;> cases e <;> first | rfl | exact absurd rfl (h2 _ _) | cases h1
theorem asg_one (h : ∀ a p, tg ≠ .Starred a p) : (assignEach [tg] env).map (·.2) = [assign tg env] := by
  cases tg <;> first | rfl | exact absurd rfl (h _ _)
/-- a value to a target, from what the code says -/
theorem tofs_set {gv : G} {g : TG} (ok : TgOk c gv g) {D : Ends} {σ : L2.St} {H : Hp} (q : tOfS c (sSet gv ma) D σ H) : tAsg (tOf c ma) g D σ H := by
  obtain ⟨m, h, l, q, p⟩ := q
  refine ⟨m, h, l, q, Post.mono (PostS.toS (Rl := RD c) q p) fun v H1 ⟨m1, h1, d, y1, q1, r1, p1⟩ => ?_⟩
  dsimp only at p1
  cases e : gv d l with
  | none => rw [e] at p1; exact p1.elim
  | some l' =>
    rw [e] at p1
    exact ok m1 h1 H1 l σ d v l' D.nx (q.after y1 q1) r1 e fun σ' q' => PostS.here p1 σ' q'
theorem tof_new {σ : L2.St} {H : Hp} {Q : VK} (q : tOf c ma σ H Q) : tNew c ma σ H Q := by
  obtain ⟨m, h, l, q, p⟩ := q
  exact ⟨m, h, l, q, Post.toN q.hr p⟩
/-- name = [.. for ..] -/
theorem asg_comp (g : GoodX cc tb c X) {x : Expr} {gen : Comprehension} {scope : Scope} {k : Code} {y : Str} {spos : Pos} (hy : atS cc.N i y = true) (hw : swB cc.sc y p scope q = true) (h : chkN (n + 1) cc (.ListComp x [gen] scope q) k = true) :
    PS X (.Assign [.Name y p] (.ListComp x [gen] scope q) spos) (tAsg (tNew c (run tb k).e) (gName i)) := by
  have S := se_all n
  obtain ⟨tg, iter, ifs, asy⟩ := gen
  cases k <;> simp only [chkN, Bool.false_eq_true] at h
  case com vs it gc t el =>
    split at h
    · rename_i heq
      cases heq
      obtain ⟨h1, h2⟩ := and2 h
      obtain ⟨hb, h1⟩ := and2 h1
      obtain ⟨hg, hv⟩ := and2 h1
      obtain ⟨hf, h2⟩ := and2 h2
      obtain ⟨hi, h2⟩ := and2 h2
      obtain ⟨ht, he⟩ := and2 h2
      have bok : BlkOk X.N X.env.scope scope (ownOf cc.N vs) := by
        rw [g.N, g.sc]; exact blkOk_by hb
      have inner := fun s H C cl fp => g.blk scope s H C cl fp
      have main := fun G => sv_comp (g := G) (c := c) (X := X) (i := i) (y := y) (py := p) (spos := spos) (elt := x) (tg := tg) (iter := iter) (ifs := ifs) (scope := scope) (own := ownOf cc.N vs) (pos := q) (it := (run tb it).i) (gv := (run tb gc).g) (t := (run tb t).t) (e := (run tb el).e)
      rw [ownOf_ix] at main
      obtain ⟨G, ok, hG⟩ := chkG_all (ι := Shared × Hp × Addr × List (Str × Addr) × List Addr) (c := c) (Y := fun j => X.blk j.1 j.2.1 scope (compEnvC scope j.2.2.2.1 j.2.2.1 X.env) j.2.2.2.2) (fun j => inner j.1 j.2.1 j.2.2.1 j.2.2.2.1 j.2.2.2.2) (fun j => g.K) hg hv
      have hG := fun (s : Shared) (H : Hp) (C : Addr) (cl : List (Str × Addr)) (fp : List Addr) => hG (s, H, C, cl, fp)
      exact main G g.calm (by rw [g.N]; exact g.nd) (by rw [g.N]; exact atS_ok hy) (by rw [g.sc]; exact swB_loc hw) (swaps_yes (by rw [g.sc]; exact hw)) (S.i cc tb c X g _ _ _ hi) bok ok hG (fun s H C cl fp => S.f _ tb c.nox _ (inner s H C cl fp) _ _ ht)
        (fun s H C cl fp => S.e _ tb c.nox _ (inner s H C cl fp) _ _ he) (folded_ok hf)
    · cases h
theorem swaps_no {x : Expr} {gens : List Comprehension} {scope : Scope} {y : Str} {line : Nat} (h : swB env.scope y p scope q = false) : swapsWith (.ListComp x gens scope q) (some (.Name y p)) line env = pure false := by
  show (pure (env.blockKind == .function && env.kindOf y == some .local && p.line == q.line && !(scope.names.any fun (n, k) => n == y && (k == .local || k == .cell))) : Sem Bool) = pure false
  unfold swB at h
  unfold Env.blockKind Env.kindOf
  rw [h]
theorem asg_comp2 (g : GoodX cc tb c X) {x : Expr} {gen : Comprehension} {scope : Scope} {k : Code} {y : Str} {spos : Pos} (hy : atS cc.N i y = true) (hw : (swB cc.sc y p scope q || isLoc cc y) = true) (h : chkN (n + 1) cc (.ListComp x [gen] scope q) k = true) :
    PS X (.Assign [.Name y p] (.ListComp x [gen] scope q) spos) (tAsg (tNew c (run tb k).e) (gName i)) := by
  cases hs : swB cc.sc y p scope q with
  | true => exact asg_comp g hy hs h
  | false =>
    rw [hs, Bool.false_or] at hw
    obtain ⟨l1, l2⟩ := g.loc hw
    exact ps_set (by rw [g.N]; exact g.nd) (by rw [g.N]; exact atS_ok hy) l1 ((se_all (n + 1)).nw cc tb c X g _ _ h) (swaps_no (by rw [g.sc]; exact hs)) l2
theorem opA_ok {o : Nat} {a : Operator} (h : oaOk o a = true) : ∃ r, PIp X a r ∧ Op2 c (opA o) r := by
  unfold oaOk at h
  split at h
  · exact ⟨_, pip_add, on_plus⟩
  · exact ⟨_, pip_sub, on_sub⟩
  · cases h
theorem asgSub_ok {o i2 : Expr} (h : notSlice i2 = true) : ∀ v, assign (.Subscript o i2 p) env v = (do
      let ov ← holding [v] (eval o env)
      let iv ← holding [v, ov] (eval i2 env)
      standAt p
      holding [v, ov, iv] (setItem ov iv v)
      release [v, ov, iv] []) := by
  intro v
  cases i2 <;> first | rfl | cases h
theorem augStore_ok {i2 : Expr} (h : notSlice i2 = true) : ∀ ov iv new, augStore i2 ov iv new = (do holding [new, ov, iv] (setItem ov iv new); release [new, ov, iv] []; pure .next) := by
  intro ov iv new
  cases i2 <;> first | rfl | cases h
structure SS (k0 : Nat) : Prop where
  s : ∀ cc tb c X, GoodS cc tb c X → ∀ st k, chkS k0 cc st k = true → PS X st (tOfS c (run tb k).s)
  ss : ∀ cc tb c X, GoodS cc tb c X → ∀ st k, chkSs k0 cc st k = true → PSs X st (tOfS c (run tb k).s)
theorem SS.stepS (T : SS n) (g : GoodS cc tb c X) (st : Stmt) (k : Code) (h : chkS (n + 1) cc st k = true) : PS X st (tOfS c (run tb k).s) := by
  have S := se_all n
  have g0 := g.x
  have hN : ∀ {i x}, atS cc.N i x = true → X.N[i]? = some x := fun h => by rw [g0.N]; exact atS_ok h
  have nd : X.N.Nodup := by rw [g0.N]; exact g0.nd
  have hu := g0.hu
  cases k <;> simp only [chkS, Bool.false_eq_true] at h
  case stk => exact ps_stk
  case pas =>
    split at h
    · exact sv_pass
    · cases h
  case br =>
    split at h
    · exact sv_break
    · cases h
  case ct =>
    split at h
    · exact sv_continue
    · cases h
  case sx a =>
    split at h
    · obtain ⟨h1, h2⟩ := and2 h
      exact sv_expr (S.e cc tb c X g0 _ _ h2) (swaps_none h1)
    · cases h
  case rt a =>
    split at h
    · exact sv_ret (S.e cc tb c X g0 _ _ h)
    · cases h
  case rn =>
    split at h
    · exact sv_retN
    · cases h
  case sf t a b =>
    split at h
    · obtain ⟨h1, h2⟩ := and2 h
      obtain ⟨h2, h3⟩ := and2 h2
      exact sv_if (S.t cc tb c X g0 _ _ h1) (T.ss cc tb c X g _ _ h2) (T.ss cc tb c X g _ _ h3)
    · cases h
  case st gc a =>
    split at h
    · split at h
      · obtain ⟨h1, g2⟩ := and2 h
        obtain ⟨h2, h3⟩ := and2 g2
        cases n with
        | zero => simp [chkN] at h3
        | succ n => exact PS.mono (asg_comp2 g0 h1 h2 h3) fun D σ H q => tof_new (tofs_set tg_name q)
      · cases h
    · obtain ⟨h1, h2⟩ := and2 h
      obtain ⟨h2, h3⟩ := and2 h2
      obtain ⟨h2, h4⟩ := and2 h2
      obtain ⟨h3, h5⟩ := and2 h3
      obtain ⟨G, p1, p2, _⟩ := chkG_ok g0 h1
      refine sv_asg (S.e cc tb c X g0 _ _ h5) p1 p2 (swaps_none h2) ?_ (asg_one fun a p z => ?_)
      · rcases Bool.or_eq_true_iff.mp h4 with z | z
        · refine swapped_ok2 z fun es p z2 => ?_
          subst z2
          cases gc <;> simp [chkG] at h1
        · exact swapped_ok z
      · subst z
        cases gc <;> simp [chkG] at h1
    · cases h
  case nw i a =>
    split at h
    · obtain ⟨h1, g2⟩ := and2 h
      obtain ⟨h2, h3⟩ := and2 g2
      cases n with
      | zero => simp [chkN] at h3
      | succ n => exact PS.mono (asg_comp2 g0 h1 h2 h3) fun D σ H q => tofs_new q
    · obtain ⟨h1, h2⟩ := and2 h
      obtain ⟨h2, h3⟩ := and2 h2
      obtain ⟨h3, h4⟩ := and2 h3
      obtain ⟨l1, l2⟩ := g0.loc h2
      exact PS.mono (ps_set nd (hN h1) l1 (S.nw cc tb c X g0 _ _ h4) (swaps_none h3) l2) fun D σ H q => tofs_new q
    · cases h
  case dc i =>
    split at h
    · obtain ⟨h1, h2⟩ := and2 h
      obtain ⟨l1, l2⟩ := g0.loc h2
      exact sv_dic nd (hN h1) l1 rfl l2
    · cases h
  case au o i a =>
    split at h
    · obtain ⟨h1, h2⟩ := and2 h
      obtain ⟨h2, h3⟩ := and2 h2
      obtain ⟨h3, h4⟩ := and2 h3
      obtain ⟨l1, l2⟩ := g0.loc h3
      obtain ⟨r, o1, o2⟩ := opA_ok (c := c) (X := X) h1
      exact sv_aug nd (hN h2) l1 (S.e cc tb c X g0 _ _ h4) o1 o2 l2
    · cases h
  case sb v o i =>
    split at h
    · obtain ⟨h1, h2⟩ := and2 h
      obtain ⟨h2, h3⟩ := and2 h2
      obtain ⟨h3, h4⟩ := and2 h3
      refine sv_sub (by omega) (S.e cc tb c X g0 _ _ h2) (S.e cc tb c X g0 _ _ h3) (S.e cc tb c X g0 _ _ h4) sole_sub (swapped_ok2 rfl fun es p z => nomatch z) rfl (asgSub_ok h1)
    · cases h
  case asb o x i v =>
    split at h
    · obtain ⟨h1, h2⟩ := and2 h
      obtain ⟨h2, h3⟩ := and2 h2
      obtain ⟨h3, h4⟩ := and2 h3
      obtain ⟨h4, h5⟩ := and2 h4
      obtain ⟨r, o1, o2⟩ := opA_ok (c := c) (X := X) h1
      exact sv_augSub (by omega) (S.e cc tb c X g0 _ _ h3) (S.e cc tb c X g0 _ _ h4) (S.e cc tb c X g0 _ _ h5) o1 o2 (augStore_ok h2)
    · cases h
  case fd i v o =>
    split at h
    · obtain ⟨h1, h2⟩ := and2 h
      obtain ⟨h2, h3⟩ := and2 h2
      obtain ⟨disp, f1, f2⟩ := g0.fd i _ (atS_ok h1)
      unfold run
      rw [f1]
      exact sv_slot f2 (S.e cc tb c X g0 _ _ h3) (S.e cc tb c X g0 _ _ h2) swaps_att
    · cases h
  case fr it gc b =>
    split at h
    · obtain ⟨h1, h2⟩ := and2 h
      obtain ⟨h1, h0⟩ := and2 h1
      obtain ⟨h2, h3⟩ := and2 h2
      obtain ⟨G, p1, p2, _⟩ := chkG_ok g0 h1
      exact sv_for g.pass g0.calm (S.i cc tb c X g0 _ _ _ h2) p1 p2 (T.ss cc tb c X g _ _ h3) (folded_ok h0)
    · cases h
  case wh t b =>
    split at h
    · obtain ⟨h1, h2⟩ := and2 h
      exact sv_while g.pass (S.t cc tb c X g0 _ _ h1) (T.ss cc tb c X g _ _ h2)
    · cases h
  case rs i a =>
    split at h
    · obtain ⟨h1, h2⟩ := and2 h
      obtain ⟨h2, h3⟩ := and2 h2
      obtain ⟨h0, h2⟩ := and2 h2
      obtain ⟨h3, h4⟩ := and2 h3
      obtain ⟨d1, d2, d3⟩ := plainN_ok h2
      obtain ⟨z, f1, f2⟩ := g0.ex i _ (atS_ok h1)
      unfold run
      rw [f1]
      exact sv_raise g0.calm g0.tk f2 (g0.gl_ h0) (S.e cc tb c X g0 _ _ h4) (starEach_ok h3) d1
    · cases h
theorem SS.stepSs (T : SS n) (g : GoodS cc tb c X) (st : List Stmt) (k : Code) (h : chkSs (n + 1) cc st k = true) : PSs X st (tOfS c (run tb k).s) := by
  cases st with
  | nil => cases k <;> simp [chkSs] at h; exact sv_nil
  | cons st r =>
    cases k <;> simp only [chkSs, Bool.false_eq_true] at h
    obtain ⟨h1, h2⟩ := and2 h
    exact sv_cons (T.s cc tb c X g _ _ h1) (T.ss cc tb c X g _ _ h2)
end
theorem ss_all : ∀ n, SS n
  | 0 => ⟨fun cc tb c X g st k h => by simp [chkS] at h, fun cc tb c X g st k h => by simp [chkSs] at h⟩
  | n + 1 => ⟨fun cc tb c X g st k h => SS.stepS (ss_all n) g st k h, fun cc tb c X g st k h => SS.stepSs (ss_all n) g st k h⟩
end Ev

set_option Elab.async false
set_option linter.all false
set_option maxRecDepth 100000
set_option maxHeartbeats 4000000
/-! Ev18: defs by their codes, facts of the written part, the head's Hook. -/
namespace Ev
open PySem PySem.Spec PyProof.Rows L2

/-! ### what a def's code needs to know -/
section
variable (P : Program) (w : World) (K : PySem.W.Frag) (mg : Str → Option Value) (base : Heap) (cad : Nat → Addr)
/-- in every reading of a run with that room -/
structure At (k : Nat) (Y : Cx) (d : Cn) : Prop where
  yp : Y.prog = P
  yw : Y.w = w
  yK : Y.K = K
  ym : Y.mg = mg
  yb : Y.base = base
  dK : d.K = K
  dc : d.cad = cad
  rm : Room k Y.A
  tk : Takes Y d.W
def CallK (k : Nat) (f : Addr) (np : Nat) (mf : Fn) : Prop := ∀ Y d, At P w K mg base cad k Y d → CallP Y d f np mf
def CallKQ (k : Nat) (f : Addr) (np : Nat) (mf : Fn) : Prop := ∀ Y d, At P w K mg base cad k Y d → CallQ Y d f np mf
inductive GlOk : List Str → List D → Prop
  | nil : GlOk [] []
  | cons {x : Str} {d : D} {u : Value} {v : V} {xs : List Str} {ds : List D} (h : mg x = some u) (r : RelV v u) (rd : ∀ W m n H, RD ⟨K, cad, W⟩ m n H d v) (t : GlOk xs ds) : GlOk (x :: xs) (d :: ds)
inductive FsOk (k : Nat) : List (Str × Nat) → List Fn → Prop
  | nil : FsOk k [] []
  | cons {x : Str} {np : Nat} {f : Addr} {mf : Fn} {xs : List (Str × Nat)} {ms : List Fn} (h : mg x = some (.ref f)) (kp : PySem.W.keepIn K (.ref f) = true) (c : CallK P w K mg base cad k f np mf) (t : FsOk k xs ms) : FsOk k ((x, np) :: xs) (mf :: ms)
inductive CmOk (k : Nat) : List (Str × Str × Nat) → List (Nat × Fn) → Prop
  | nil : CmOk k [] []
  | cons {x m : Str} {np z : Nat} {mf : Fn} {p g : Addr} {mc : Value} {xs : List (Str × Str × Nat)} {ms : List (Nat × Fn)} (h : mg x = some (.ref (cad z))) (r : ClX.CRead K (cad z) mc) (cm : ClX.CMet K (cad z) mc m p g)
      (c : CallKQ P w K mg base cad k g (np + 1) mf) (t : CmOk k xs ms) : CmOk k ((x, m, np) :: xs) ((z, mf) :: ms)
/-- a class held by a name -/
inductive DisOk (k np : Nat) : List (Nat × Fn) → Prop
  | nil : DisOk k np []
  | cons {z : Nat} {mf : Fn} {l : List (Nat × Fn)} (kp : PySem.W.keepIn K (.ref (cad z)) = true) (c : CallK P w K mg base cad k (cad z) np mf) (t : DisOk k np l) : DisOk k np ((z, mf) :: l)
inductive CvOk (k : Nat) : List Nat → List (List (Nat × Fn)) → Prop
  | nil : CvOk k [] []
  | cons {np : Nat} {l : List (Nat × Fn)} {xs : List Nat} {ms : List (List (Nat × Fn))} (h : DisOk P w K mg base cad k np l) (t : CvOk k xs ms) : CvOk k (np :: xs) (l :: ms)
inductive AkOk (k : Nat) (f : Str) : List (Nat × AK) → Prop
  | nil : AkOk k f []
  | slot {z i : Nat} {p : Addr} {l : List (Nat × AK)} (c : SlX.SCls K (cad z)) (s : SlX.Slot1 K (cad z) f p i) (t : AkOk k f l) : AkOk k f ((z, .slot i) :: l)
  | prop {z j : Nat} {mf : Fn} {p g : Addr} {rest : List Value} {l : List (Nat × AK)} (c : SlX.SCls K (cad z)) (h1 : PySem.W.findIn K (.ref (cad z)) f = some (some (.ref p))) (h2 : PySem.W.specialIn K (.ref p) "__get__" = some (some (.builtin "property.__get__")))
      (h3 : PySem.W.takesIn K (.ref p) = some true) (h4 : PySem.W.recIn K p "property" = some (.ref g :: rest)) (F : FnR P w K mg base (L2.CX P w) j g (spOf K cad 1 mf)) (hj : j + 1 ≤ k) (t : AkOk k f l) : AkOk k f ((z, .prop mf) :: l)
inductive AtOk (k : Nat) : List Str → List (List (Nat × AK)) → Prop
  | nil : AtOk k [] []
  | cons {f : Str} {l : List (Nat × AK)} {xs : List Str} {ms : List (List (Nat × AK))} (h : AkOk P w K mg base cad k f l) (t : AtOk k xs ms) : AtOk k (f :: xs) (l :: ms)
inductive SlOk (f : Str) : List (Nat × Nat) → Prop
  | nil : SlOk f []
  | cons {z i : Nat} {p : Addr} {l : List (Nat × Nat)} (c : SlX.SCls K (cad z)) (s : SlX.Slot1 K (cad z) f p i) (t : SlOk f l) : SlOk f ((z, i) :: l)
inductive FdOk : List Str → List (List (Nat × Nat)) → Prop
  | nil : FdOk [] []
  | cons {f : Str} {l : List (Nat × Nat)} {xs : List Str} {ms : List (List (Nat × Nat))} (h : SlOk K cad f l) (t : FdOk xs ms) : FdOk (f :: xs) (l :: ms)
structure ExcK (C : Addr) (x : Str) : Prop where
  q : PySem.W.excIn K C [.type "Exception", .type "BaseException", .type "object"] "Exception.__new__" = true
  g : mg x = some (.ref C)
  k : PySem.W.keepIn K (.ref C) = true
  s : PySem.W.subIn K (.ref C) (.type "BaseException") = some true
  t : PySem.W.typeIn K (.ref C) = some (.type "type")
inductive ExOk : List Str → List Nat → Prop
  | nil : ExOk [] []
  | cons {x : Str} {z : Nat} {xs : List Str} {zs : List Nat} (h : ExcK K mg (cad z) x) (t : ExOk xs zs) : ExOk (x :: xs) (z :: zs)
structure Facts (k : Nat) (cc : CC) (tb : Tb) : Prop where
  bt : ∀ x, cc.bn.contains x = true → mg x = none
  gl : GlOk K mg cad cc.gln tb.gl
  fs : FsOk P w K mg base cad k cc.fnn tb.fs
  cm : CmOk P w K mg base cad k cc.cmn tb.cms
  cv : CvOk P w K mg base cad k cc.cvn tb.cvs
  at_ : AtOk P w K mg base cad k cc.atn tb.ats
  fd : FdOk K cad cc.fdn tb.fds
  ex : ExOk K mg cad cc.exn tb.exs
  tab : TabOk K cad tb.tab
end
section
variable {P : Program} {w : World} {K : PySem.W.Frag} {mg : Str → Option Value} {base : Heap} {cad : Nat → Addr} {k : Nat}
theorem GlOk.get {i : Nat} {x : Str} : ∀ {xs ds}, GlOk K mg cad xs ds → xs[i]? = some x → ∃ d u v, ds[i]? = some d ∧ mg x = some u ∧ RelV v u ∧ ∀ W m n H, RD ⟨K, cad, W⟩ m n H d v := by
  intro xs ds h
  induction h generalizing i with
  | nil => intro e; simp at e
  | cons h r rd t ih =>
    intro e
    cases i with
    | zero => simp at e; subst e; exact ⟨_, _, _, rfl, h, r, rd⟩
    | succ i => exact ih (by simpa using e)
theorem FsOk.get {i : Nat} {x : Str} {np : Nat} : ∀ {xs ms}, FsOk P w K mg base cad k xs ms → xs[i]? = some (x, np) → ∃ mf f, ms[i]? = some mf ∧ mg x = some (.ref f) ∧ PySem.W.keepIn K (.ref f) = true ∧ CallK P w K mg base cad k f np mf := by
  intro xs ds h
  induction h generalizing i with
  | nil => intro e; simp at e
  | cons h r rd t ih =>
    intro e
    cases i with
    | zero => simp at e; obtain ⟨e1, e2⟩ := e; subst e1 e2; exact ⟨_, _, rfl, h, r, rd⟩
    | succ i => exact ih (by simpa using e)
theorem CmOk.get {i : Nat} {x m : Str} {np : Nat} : ∀ {xs ms}, CmOk P w K mg base cad k xs ms → xs[i]? = some (x, m, np) → ∃ z mf p g mc, ms[i]? = some (z, mf) ∧ mg x = some (.ref (cad z)) ∧ ClX.CRead K (cad z) mc ∧ ClX.CMet K (cad z) mc m p g ∧ CallKQ P w K mg base cad k g (np + 1) mf := by
  intro xs ds h
  induction h generalizing i with
  | nil => intro e; simp at e
  | cons h r cm c t ih =>
    intro e
    cases i with
    | zero => simp at e; obtain ⟨e1, e2, e3⟩ := e; subst e1 e2 e3; exact ⟨_, _, _, _, _, rfl, h, r, cm, c⟩
    | succ i => exact ih (by simpa using e)
theorem DisOk.get {np z : Nat} {mf : Fn} : ∀ {l}, DisOk P w K mg base cad k np l → l.lookup z = some mf → PySem.W.keepIn K (.ref (cad z)) = true ∧ CallK P w K mg base cad k (cad z) np mf := by
  intro l h
  induction h with
  | nil => intro e; simp at e
  | @cons y m l kp c t ih =>
    intro e
    rw [List.lookup_cons] at e
    by_cases hz : z = y
    · subst hz
      simp at e
      subst e
      exact ⟨kp, c⟩
    · rw [show (z == y) = false by simpa using hz] at e
      exact ih e
theorem CvOk.get {i np : Nat} : ∀ {xs ms}, CvOk P w K mg base cad k xs ms → xs[i]? = some np → ∃ l, ms[i]? = some l ∧ DisOk P w K mg base cad k np l := by
  intro xs ds h
  induction h generalizing i with
  | nil => intro e; simp at e
  | cons h t ih =>
    intro e
    cases i with
    | zero => simp at e; subst e; exact ⟨_, rfl, h⟩
    | succ i => exact ih (by simpa using e)
theorem AkOk.get {f : Str} {z : Nat} {ak : AK} : ∀ {l}, AkOk P w K mg base cad k f l → l.lookup z = some ak → ∀ Y d, At P w K mg base cad k Y d → AkP Y d f z ak := by
  intro l h
  induction h with
  | nil => intro e; simp at e
  | @slot y i p l c s t ih =>
    intro e Y d a
    rw [List.lookup_cons] at e
    by_cases hz : z = y
    · subst hz
      simp at e
      subst e
      show SlX.SCls Y.K (d.cad z) ∧ ∃ p, SlX.Slot1 Y.K (d.cad z) f p i
      rw [a.yK, a.dc]
      exact ⟨c, p, s⟩
    · rw [show (z == y) = false by simpa using hz] at e
      exact ih e Y d a
  | @prop y j mf p g rest l c h1 h2 h3 h4 F hj t ih =>
    intro e Y d a
    rw [List.lookup_cons] at e
    by_cases hz : z = y
    · subst hz
      simp at e
      subst e
      show PropP Y d (d.cad z) f mf
      refine ⟨by rw [a.yK, a.dc]; exact c, p, g, j, rest, by rw [a.yK, a.dc]; exact h1, by rw [a.yK]; exact h2, by rw [a.yK]; exact h3, by rw [a.yK]; exact h4, ?_, a.rm.mono hj⟩
      unfold FR
      rw [a.yp, a.yw, a.yK, a.ym, a.yb, a.dK, a.dc]
      exact F
    · rw [show (z == y) = false by simpa using hz] at e
      exact ih e Y d a
theorem AtOk.get {i : Nat} {f : Str} : ∀ {xs ms}, AtOk P w K mg base cad k xs ms → xs[i]? = some f → ∃ l, ms[i]? = some l ∧ AkOk P w K mg base cad k f l := by
  intro xs ds h
  induction h generalizing i with
  | nil => intro e; simp at e
  | cons h t ih =>
    intro e
    cases i with
    | zero => simp at e; subst e; exact ⟨_, rfl, h⟩
    | succ i => exact ih (by simpa using e)
theorem SlOk.get {f : Str} {z i : Nat} : ∀ {l}, SlOk K cad f l → l.lookup z = some i → SlX.SCls K (cad z) ∧ ∃ p, SlX.Slot1 K (cad z) f p i := by
  intro l h
  induction h with
  | nil => intro e; simp at e
  | @cons y j p l c s t ih =>
    intro e
    rw [List.lookup_cons] at e
    by_cases hz : z = y
    · subst hz
      simp at e
      subst e
      exact ⟨c, p, s⟩
    · rw [show (z == y) = false by simpa using hz] at e
      exact ih e
theorem FdOk.get {i : Nat} {f : Str} : ∀ {xs ms}, FdOk K cad xs ms → xs[i]? = some f → ∃ l, ms[i]? = some l ∧ SlOk K cad f l := by
  intro xs ds h
  induction h generalizing i with
  | nil => intro e; simp at e
  | cons h t ih =>
    intro e
    cases i with
    | zero => simp at e; subst e; exact ⟨_, rfl, h⟩
    | succ i => exact ih (by simpa using e)
theorem ExOk.get {i : Nat} {x : Str} : ∀ {xs zs}, ExOk K mg cad xs zs → xs[i]? = some x → ∃ z, zs[i]? = some z ∧ ExcK K mg (cad z) x := by
  intro xs ds h
  induction h generalizing i with
  | nil => intro e; simp at e
  | cons h t ih =>
    intro e
    cases i with
    | zero => simp at e; subst e; exact ⟨_, rfl, h⟩
    | succ i => exact ih (by simpa using e)
/-- the facts at a body's reading -/
theorem Facts.good {cc : CC} {tb : Tb} (F : Facts P w K mg base cad k cc tb) {X : Cx} {W : WX} (h : At P w K mg base cad k X ⟨K, cad, W⟩) (hN : X.N = cc.N) (nd : cc.N.Nodup) (hs : X.env.scope = cc.sc) (hf : X.fn = cc.fn) (hc : X.calm = true) : GoodX cc tb ⟨K, cad, W⟩ X := by
  have at2 : ∀ {Y : Cx} {d : Cn}, LikeC X ⟨K, cad, W⟩ Y d → At P w K mg base cad k Y d := fun l =>
    ⟨l.l.p.trans h.yp, l.l.w.trans h.yw, l.l.K.trans h.yK, l.l.mg.trans h.ym, l.l.b.trans h.yb, l.K, l.cad, by rw [l.l.A]; exact h.rm, l.tk⟩
  have hu := h.rm.un
  refine ⟨h.yK, hN, nd, hs, hf, hc, h.tk, by omega, fun x e => by rw [h.ym]; exact F.bt x e, fun i x e => ?_, fun i x np e => ?_, fun i x m np e => ?_, fun i np e => ?_, fun i f e => ?_, fun i f e => ?_, fun i x e => ?_, F.tab⟩
  · obtain ⟨d, u, v, h1, h2, h3, h4⟩ := F.gl.get e
    refine ⟨d, u, h1, by rw [h.ym]; exact h2, fun Y d' l => ⟨v, h3, fun m n H => ?_⟩⟩
    obtain ⟨dK, dc, dW⟩ := d'
    obtain rfl : dK = K := l.K
    obtain rfl : dc = cad := l.cad
    exact h4 dW m n H
  · obtain ⟨mf, f, h1, h2, h3, h4⟩ := F.fs.get e
    exact ⟨mf, f, h1, by rw [h.ym]; exact h2, by rw [h.yK]; exact h3, fun Y d l => h4 Y d (at2 l)⟩
  · obtain ⟨z, mf, p, g, mc, h1, h2, h3, h4, h5⟩ := F.cm.get e
    exact ⟨z, mf, p, g, mc, h1, by rw [h.ym]; exact h2, by rw [h.yK]; exact h3, by rw [h.yK]; exact h4, fun Y d l => h5 Y d (at2 l)⟩
  · obtain ⟨l, h1, h2⟩ := F.cv.get e
    exact ⟨l, h1, fun z mf hz => ⟨by rw [h.yK]; exact (h2.get hz).1, fun Y d l => (h2.get hz).2 Y d (at2 l)⟩⟩
  · obtain ⟨l, h1, h2⟩ := F.at_.get e
    exact ⟨l, h1, fun z ak hz Y d l => h2.get hz Y d (at2 l)⟩
  · obtain ⟨l, h1, h2⟩ := F.fd.get e
    exact ⟨l, h1, fun z j hz => by rw [h.yK]; exact h2.get hz⟩
  · obtain ⟨z, h1, h2⟩ := F.ex.get e
    exact ⟨z, h1, ⟨by rw [h.yK]; exact h2.q, by rw [h.ym]; exact h2.g, by rw [h.yK]; exact h2.k, by rw [h.yK]; exact h2.s, by rw [h.yK]; exact h2.t⟩⟩
/-- THE RULE for a def: its code was checked against its text -/
theorem def_ok {x qual : Str} {params : Arguments} {body : List Stmt} {scope : Scope} {dvs : List V} {kws : List (Str × V)} {f : Addr} {fd : FuncData} {ps : List Str} {cc : CC} {tb : Tb} {code : Code} {n : Nat}
    (F : FunD K x qual params body scope dvs kws f fd) (Sc : FnScope cc.N ps scope) (hs : cc.sc = scope) (hf : cc.fn = fun _ => true) (hk : Facts P w K mg base cad k cc tb) (h : chkSs n cc body code = true) :
    FnOk P w K mg base (L2.CX P w) (k + 1) f fd ps (spOf K cad ps.length (fnOf cc.N.length (run tb code).s)) := by
  refine fn_ok F Sc fun X e1 e2 e3 e4 e5 e6 e7 e8 e9 e10 e11 hr W tk hp => ?_
  have g := hk.good (X := X) (W := W) ⟨e1, e2, e3, e4, e5, rfl, rfl, hr, tk⟩ e6 Sc.nd (e7.trans hs.symm) (e11.trans hf.symm) e8
  exact (ss_all n).ss cc tb ⟨K, cad, W⟩ X ⟨g, hp⟩ body code h
/-! ### calls of a def -/
theorem fnr_of {j : Nat} {f : Addr} {fd : FuncData} {ps : List Str} {ds : List Value} {dvs : List V} {dv : List D} {np : Nat} {mf : Fn} (F : FnOk P w K mg base (L2.CX P w) j f fd ps (spOf K cad ps.length mf)) (hb : Binds K fd ps ds) (hd : Vals dvs ds)
    (hv : ∀ m n H, RelDs K cad m n H dv dvs ∧ D.bels n dv = true) (hl : ps.length = np + dvs.length) : FnR P w K mg base (L2.CX P w) j f (spOf K cad np (dfl mf dv)) :=
  FnR.imp (F.raw hb hd) fun vs H Q E h => by rw [hl]; exact dfl_sp hv h
theorem fnr_all {j : Nat} {f : Addr} {fd : FuncData} {ps : List Str} {mf : Fn} (F : FnOk P w K mg base (L2.CX P w) j f fd ps (spOf K cad ps.length mf)) (hb : Binds K fd ps []) : FnR P w K mg base (L2.CX P w) j f (spOf K cad ps.length mf) :=
  FnR.imp (F.raw hb .nil) fun vs H Q E h => by rw [List.append_nil]; exact h
theorem callKQ_of {j np : Nat} {f : Addr} {mf : Fn} (F : FnR P w K mg base (L2.CX P w) j f (spOf K cad np mf)) (h : j ≤ k) : CallKQ P w K mg base cad k f np mf := fun Y d a => by
  refine callQ_fn (k := j) ?_ (a.rm.mono h) a.tk
  unfold FR
  rw [a.yp, a.yw, a.yK, a.ym, a.yb, a.dK, a.dc]
  exact F
theorem callK_of {j np : Nat} {f : Addr} {mf : Fn} (F : FnR P w K mg base (L2.CX P w) j f (spOf K cad np mf)) (h : j ≤ k) : CallK P w K mg base cad k f np mf := fun Y d a => (callKQ_of F h Y d a).toP
theorem callK_fz {np : Nat} {f : Addr} {mf : Fn} (h : CallK P w K mg base cad k f np mf) : CallK P w K mg base cad k f np (fz mf) := fun Y d a => callP_fz (h Y d a)
theorem callKQ_fz {np : Nat} {f : Addr} {mf : Fn} (h : CallKQ P w K mg base cad k f np mf) : CallKQ P w K mg base cad k f np (fz mf) := fun Y d a => callQ_fz (h Y d a)
/-- a class's call: its __init__ behind a new object -/
theorem callK_make {j np z ns : Nat} {g : Addr} {fd : FuncData} {ps : List Str} {mf : Fn} {dvs : List V} {dv : List D} {ds0 : List Value} (M : Mk K (cad z) g) (F : FnOk P w K mg base (L2.CX P w) j g fd ps (spOf K cad ps.length mf)) (hj : j + 1 ≤ k) (hb : Binds K fd ps ds0) (hdd : Vals dvs ds0)
    (hdv : ∀ m n H, RelDs K cad m n H dv dvs ∧ D.bels n dv = true) (hps : ps.length = 1 + np + dvs.length) : CallK P w K mg base cad k (cad z) np (mkNew z ns (dfl mf dv)) := fun Y d a => by
  obtain ⟨dK, dc, dW⟩ := d
  obtain rfl : dK = K := a.dK
  obtain rfl : dc = cad := a.dc
  refine callP_make (k := j) (g := g) (fd := fd) (ps := ps) (dvs := dvs) (dv := dv) (ds0 := ds0) (by rw [a.yK]; exact M) ?_ (a.rm.mono hj) a.tk (by rw [a.yK]; exact hb) hdd hdv rfl hps
  rw [a.yp, a.yw, a.yK, a.ym, a.yb]
  exact F
end
/-! ### facts by Bools -/
section
variable (K : PySem.W.Frag) (C : Addr)
def sclsB : Bool := PySem.W.plainGet K C Str.empty && (PySem.W.isClsIn K C && (PySem.W.plainOver K C && He.eqO (PySem.W.findIn K (.ref C) "__setattr__") (some (some (.builtin "object.__setattr__")))))
def sisiB : Bool := He.eqO (PySem.W.findIn K (.ref C) "__class__") (some (some (.builtin "object.__class__"))) && (He.eqO (PySem.W.specialIn K (.builtin "object.__class__") "__get__") (some (some (.builtin "getset_descriptor.__get__"))) && (decide (PySem.W.takesIn K (.builtin "object.__class__") = some true) && decide (PySem.W.mroIn K C (.type "object") = some true)))
def slotB (f : Str) (i : Nat) : Bool := He.eqO (PySem.W.findIn K (.ref C) f) (some (some (.ref (He.ma K C f)))) && (He.eqO (PySem.W.specialIn K (.ref (He.ma K C f)) "__get__") (some (some (.builtin "member_descriptor.__get__"))) && (decide (PySem.W.takesIn K (.ref (He.ma K C f)) = some true) &&
  (decide (PySem.W.typeIn K (.ref (He.ma K C f)) = some (.type "member_descriptor")) && (decide (PySem.W.slotIn K (He.ma K C f) C = some i) && decide (i < 1000)))))
def propB (f : Str) : Bool := He.eqO (PySem.W.findIn K (.ref C) f) (some (some (.ref (He.ma K C f)))) && (He.eqO (PySem.W.specialIn K (.ref (He.ma K C f)) "__get__") (some (some (.builtin "property.__get__"))) && (decide (PySem.W.takesIn K (.ref (He.ma K C f)) = some true) &&
  (match PySem.W.recIn K (He.ma K C f) "property" with
  | some (.ref _ :: _) => true
  | _ => false)))
def mkB : Bool := PySem.W.makesIn K C && (He.eqO (PySem.W.findIn K (.ref C) "__init__") (some (some (.ref (He.ma K C "__init__")))) && (PySem.W.isFn K (.ref (He.ma K C "__init__")) && PySem.W.keepIn K (.ref C)))
def creadB : Bool := PySem.W.readsIn K C (.type "type") && He.eqO (PySem.W.specialIn K (.ref C) "__getattribute__") (some (some (.builtin "type.__getattribute__")))
def cmetB (m : Str) : Bool := He5.wrapB K C "classmethod" "classmethod.__get__" m && PySem.W.fnIn K (He5.wf K C "classmethod" m)
def excB : Bool := PySem.W.excIn K C [.type "Exception", .type "BaseException", .type "object"] "Exception.__new__" && (PySem.W.keepIn K (.ref C) && (decide (PySem.W.subIn K (.ref C) (.type "BaseException") = some true) && decide (PySem.W.typeIn K (.ref C) = some (.type "type"))))
end
section
variable {K : PySem.W.Frag} {C : Addr}
theorem sclsB_ok (h : sclsB K C = true) : SlX.SCls K C := by
  obtain ⟨h1, h⟩ := and2 h
  obtain ⟨h2, h⟩ := and2 h
  obtain ⟨h3, h4⟩ := and2 h
  exact ⟨h1, h2, h3, He.eqO_ok h4⟩
theorem sisiB_ok (h : sisiB K C = true) : SlX.SIsi K C := by
  obtain ⟨h1, h⟩ := and2 h
  obtain ⟨h2, h⟩ := and2 h
  obtain ⟨h3, h4⟩ := and2 h
  exact ⟨He.eqO_ok h1, He.eqO_ok h2, of_decide_eq_true h3, of_decide_eq_true h4⟩
theorem slotB_ok {f : Str} {i : Nat} (h : slotB K C f i = true) : SlX.Slot1 K C f (He.ma K C f) i := by
  obtain ⟨h1, h⟩ := and2 h
  obtain ⟨h2, h⟩ := and2 h
  obtain ⟨h3, h⟩ := and2 h
  obtain ⟨h4, h⟩ := and2 h
  obtain ⟨h5, h6⟩ := and2 h
  exact ⟨He.eqO_ok h1, He.eqO_ok h2, of_decide_eq_true h3, of_decide_eq_true h4, of_decide_eq_true h5, of_decide_eq_true h6⟩
theorem propB_ok {f : Str} (h : propB K C f = true) : PySem.W.findIn K (.ref C) f = some (some (.ref (He.ma K C f))) ∧ PySem.W.specialIn K (.ref (He.ma K C f)) "__get__" = some (some (.builtin "property.__get__")) ∧ PySem.W.takesIn K (.ref (He.ma K C f)) = some true ∧
    ∃ rest, PySem.W.recIn K (He.ma K C f) "property" = some (.ref (He5.wf K C "property" f) :: rest) := by
  obtain ⟨h1, h⟩ := and2 h
  obtain ⟨h2, h⟩ := and2 h
  obtain ⟨h3, h4⟩ := and2 h
  refine ⟨He.eqO_ok h1, He.eqO_ok h2, of_decide_eq_true h3, ?_⟩
  unfold He5.wf
  split at h4
  · rename_i f r e
    exact ⟨r, by rw [e]⟩
  · cases h4
theorem mkB_ok (h : mkB K C = true) : Mk K C (He.ma K C "__init__") := by
  obtain ⟨h1, h⟩ := and2 h
  obtain ⟨h2, h⟩ := and2 h
  obtain ⟨h3, h4⟩ := and2 h
  exact ⟨h1, He.eqO_ok h2, h3, h4⟩
theorem creadB_ok (h : creadB K C = true) : ClX.CRead K C (.type "type") := by
  obtain ⟨h1, h2⟩ := and2 h
  exact ⟨h1, He.eqO_ok h2⟩
theorem cmetB_ok {m : Str} (h : cmetB K C m = true) : ClX.CMet K C (.type "type") m (He.ma K C m) (He5.wf K C "classmethod" m) := by
  obtain ⟨h1, h2⟩ := and2 h
  obtain ⟨h3, h4⟩ := He5.wrapB_ok h1
  exact ⟨h3, h4, h2⟩
theorem excB_ok {mg : Str → Option Value} {x : Str} (h : excB K C = true) (g : mg x = some (.ref C)) : ExcK K mg C x := by
  obtain ⟨h1, h⟩ := and2 h
  obtain ⟨h2, h⟩ := and2 h
  obtain ⟨h3, h4⟩ := and2 h
  exact ⟨h1, g, h2, of_decide_eq_true h3, of_decide_eq_true h4⟩
end
/-- the table of isinstance: nc classes; sub: which is below which -/
def stdTab (nc : Nat) (sub : Nat → Nat → Bool) : Kd → D → Option Bool
  | .b a, .ty t => kitB a t
  | .b _, .cls z => if Nat.blt z nc = true then some false else none
  | .c z, .ty t => if (Nat.blt z nc && ["int", "bool", "str", "list", "tuple"].contains t) = true then some false else none
  | .c z, .cls y => if (Nat.blt z nc && Nat.blt y nc) = true then some (sub z y) else none
  | _, _ => none
def kinds : List String := ["NoneType", "bool", "int", "str", "tuple", "list", "dict"]
def tabB (K : PySem.W.Frag) (cad : Nat → Addr) (nc : Nat) (sub : Nat → Nat → Bool) : Bool := (List.range nc).all fun z => (sclsB K (cad z) && sisiB K (cad z)) && ((kinds.all fun a => decide (PySem.W.kitOne K (.type a) (.ref (cad z)) = some false)) &&
  ((["int", "bool", "str", "list", "tuple"].all fun t => decide (PySem.W.kitOne K (.ref (cad z)) (.type t) = some false)) && ((List.range nc).all fun y => decide (PySem.W.kitOne K (.ref (cad z)) (.ref (cad y)) = some (sub z y)))))
/-- only these kinds are asked -/
def stdTabK (nc : Nat) (sub : Nat → Nat → Bool) : Kd → D → Option Bool := fun k y => match k with
  | .b a => if kinds.contains a = true then stdTab nc sub (.b a) y else none
  | k => stdTab nc sub k y
theorem tabB_ok {K : PySem.W.Frag} {cad : Nat → Addr} {nc : Nat} {sub : Nat → Nat → Bool} (h : tabB K cad nc sub = true) : TabOk K cad (stdTabK nc sub) := by
  have key : ∀ z, z < nc → (sclsB K (cad z) = true ∧ sisiB K (cad z) = true) ∧ (∀ a ∈ kinds, PySem.W.kitOne K (.type a) (.ref (cad z)) = some false) ∧ (∀ t ∈ ["int", "bool", "str", "list", "tuple"], PySem.W.kitOne K (.ref (cad z)) (.type t) = some false) ∧ ∀ y, y < nc → PySem.W.kitOne K (.ref (cad z)) (.ref (cad y)) = some (sub z y) := fun z hz => by
    obtain ⟨h1, h2⟩ := and2 (List.all_eq_true.mp h z (List.mem_range.mpr hz))
    obtain ⟨h2, h3⟩ := and2 h2
    obtain ⟨h3, h4⟩ := and2 h3
    exact ⟨and2 h1, fun a ha => of_decide_eq_true (List.all_eq_true.mp h2 a ha), fun t ht => of_decide_eq_true (List.all_eq_true.mp h3 t ht), fun y hy => of_decide_eq_true (List.all_eq_true.mp h4 y (List.mem_range.mpr hy))⟩
  refine ⟨fun k y b e => ?_, fun z y b e => ?_⟩
  · cases k with
    | b a =>
      unfold stdTabK at e
      dsimp only at e
      by_cases ha : kinds.contains a = true
      · rw [if_pos ha] at e
        cases y with
        | ty t => exact ⟨rfl, kit_ty e⟩
        | cls z =>
          have e : (if Nat.blt z nc = true then some false else none) = some b := e
          by_cases hz : Nat.blt z nc = true
          · rw [if_pos hz] at e
            cases e
            exact ⟨rfl, (key z (blt_of hz)).2.1 a (by simpa using ha)⟩
          · rw [if_neg hz] at e; cases e
        | _ => cases e
      · rw [if_neg ha] at e; cases e
    | c z =>
      cases y with
      | ty t =>
        have e : (if (Nat.blt z nc && ["int", "bool", "str", "list", "tuple"].contains t) = true then some false else none) = some b := e
        by_cases hz : (Nat.blt z nc && ["int", "bool", "str", "list", "tuple"].contains t) = true
        · rw [if_pos hz] at e
          cases e
          obtain ⟨a1, a2⟩ := and2 hz
          exact ⟨rfl, (key z (blt_of a1)).2.2.1 t (by simpa using a2)⟩
        · rw [if_neg hz] at e; cases e
      | cls y =>
        have e : (if (Nat.blt z nc && Nat.blt y nc) = true then some (sub z y) else none) = some b := e
        by_cases hz : (Nat.blt z nc && Nat.blt y nc) = true
        · rw [if_pos hz] at e
          cases e
          obtain ⟨a1, a2⟩ := and2 hz
          exact ⟨rfl, (key z (blt_of a1)).2.2.2 y (blt_of a2)⟩
        · rw [if_neg hz] at e; cases e
      | _ => cases e
  · have hz : z < nc := by
      cases y with
      | ty t =>
        have e : (if (Nat.blt z nc && ["int", "bool", "str", "list", "tuple"].contains t) = true then some false else none) = some b := e
        by_cases hz : (Nat.blt z nc && ["int", "bool", "str", "list", "tuple"].contains t) = true
        · exact blt_of (and2 hz).1
        · rw [if_neg hz] at e; cases e
      | cls y =>
        have e : (if (Nat.blt z nc && Nat.blt y nc) = true then some (sub z y) else none) = some b := e
        by_cases hz : (Nat.blt z nc && Nat.blt y nc) = true
        · exact blt_of (and2 hz).1
        · rw [if_neg hz] at e; cases e
      | _ => cases e
    exact ⟨sclsB_ok (key z hz).1.1, sisiB_ok (key z hz).1.2⟩
theorem tab_none {K : PySem.W.Frag} {cad : Nat → Addr} : TabOk K cad fun _ _ => none := ⟨fun _ _ _ h => (by cases h), fun _ _ _ h => (by cases h)⟩

/-! ### the Hook -/
def obsV (ex : PySem.W.Frag → Bool) (fn : List He5.DefA) (K : PySem.W.Frag) : He.AlD := (ex K && fn.all fun d => d.ok K, fn.map fun d => He5.fnA K (d.at_ K))
/-- the next objects: a class's names, a def's code and defaults, what a property or a classmethod holds, a dict's values -/
def stepV (g : Addr → Option Obj) (a : Addr) : List Addr := match g a with
  | some ⟨_, _, .cls cd, _⟩ => cd.ns :: cd.mro.flatMap He.refV
  | some ⟨_, _, .func fd, _⟩ => He.refV fd.code ++ He.refV fd.defaults
  | some ⟨.type t, _, .fields vs, _⟩ => if (decide (t = "property") || decide (t = "classmethod")) = true then vs.toList.flatMap He.refV else []
  | some ⟨_, _, .dict es _, _⟩ => es.toList.flatMap fun e => He.refV e.val
  | _ => []
def goV (g : Addr → Option Obj) : Nat → List Addr → List Addr
  | 0, l => l
  | n + 1, l => l ++ goV g n (l.flatMap (stepV g))
/-- what the names ns reach in n steps -/
def asV (n : Nat) (ns : List Str) (g : Addr → Option Obj) : List Addr := mainGlobals :: (goV g n (ns.map fun x => He.ga (He.frG g [mainGlobals]) x) ++ [cStatics])
def obsVG (n : Nat) (ns : List Str) (ex : PySem.W.Frag → Bool) (fn : List He5.DefA) (g : Addr → Option Obj) : He.AlD := obsV ex fn (He.frG g (asV n ns g))
structure SaysV (ex : PySem.W.Frag → Bool) (fn : List He5.DefA) (K : PySem.W.Frag) : Prop where
  e : obsV ex fn K = He5.valA fn
def hookV (n : Nat) (ns : List Str) (ex : PySem.W.Frag → Bool) (fn : List He5.DefA) : PySem.W.Hook where
  α := He.AlD
  obs := fun s => obsVG n ns ex fn s.heap.get?
  val := fun _ => He5.valA fn
  says := fun _ h => ∃ K : PySem.W.Frag, K.In h ∧ SaysV ex fn K
  of := fun _ _ e => ⟨_, He.frG_in, ⟨e⟩⟩
  keeps := fun _ _ _ ⟨K, hK, c⟩ k => ⟨K, PySem.W.Frag.In.keeps hK k, c⟩
theorem obsVG_eq {n : Nat} {ns : List Str} {ex : PySem.W.Frag → Bool} {fn : List He5.DefA} {g : Addr → Option Obj} {s : Shared} (h : ∀ a, g a = s.heap.get? a) : obsVG n ns ex fn g = (hookV n ns ex fn).obs s := by
  have e : g = s.heap.get? := funext h
  rw [e]; rfl
theorem SaysV.more {ex : PySem.W.Frag → Bool} {fn : List He5.DefA} {K : PySem.W.Frag} (c : SaysV ex fn K) : ex K = true :=
  (and2 (show (ex K && fn.all fun d => d.ok K) = true from congrArg (fun z : He.AlD => z.1) c.e)).1
theorem SaysV.def_ {ex : PySem.W.Frag → Bool} {fn : List He5.DefA} {K : PySem.W.Frag} (c : SaysV ex fn K) (i : Nat) {d : He5.DefA} (h : fn[i]? = some d) : ∃ fd, FunD K d.name d.qual d.params d.body d.scope (d.dvs K) (d.kws K) (d.at_ K) fd := by
  have c2 := (and2 (show (ex K && fn.all fun d => d.ok K) = true from congrArg (fun z : He.AlD => z.1) c.e)).2
  have e : fn.map (fun d => He5.fnA K (d.at_ K)) = fn.map He5.DefA.val := congrArg (fun z : He.AlD => z.2) c.e
  have e2 : (fn.map fun d => He5.fnA K (d.at_ K))[i]? = (fn.map He5.DefA.val)[i]? := by rw [e]
  rw [List.getElem?_map, List.getElem?_map, h] at e2
  exact He5.DefA.funD (Option.some.inj e2) (List.all_eq_true.mp c2 d (List.mem_of_getElem? h))
end Ev

set_option Elab.async false
set_option linter.all false
set_option maxRecDepth 100000
set_option maxHeartbeats 4000000
/-! Ev19: a law's end. -/
namespace Ev
open PySem PySem.Spec PyProof.Rows L2
theorem walk_end {l : PySem.W.OpenLaw} {n k : Nat} {q : Program} {loose : List Str} {XP : (Str → Option Value) → Heap → Prop} {YP : World → Heap → Prop} {d : DefRec} {x : Str} {m : Fn}
    (hn : l.most = some n) (hn2 : n ≤ sizeLine) (hdf : d.params.defaults = []) (hr : Room k callerA)
    (F : ∀ (w : World) (mg : Str → Option Value) (fa : Addr) (h : Heap), YP w h → h.Ns mainGlobals mg → mg d.name = some (.ref fa) →
      ∃ (K : PySem.W.Frag) (cad : Nat → Addr) (fd : FuncData), K.In h ∧ (∀ (s : Shared) (u : Value), BindsTo s fd ⟨[u], []⟩ [(x, u)]) ∧
        ∀ base : Heap, K.In base → base.Ns mainGlobals mg → FnOk l.prog w K mg base (L2.CX l.prog w) k fa fd [x] (spOf K cad 1 m))
    (hm : ∀ ns : List Int, ns.length ≤ n → (∀ z ∈ ns, Builtin.Int.intBits z ≤ 1048576) → ∃ h, m [.sc (ns.map .int)] ⟨[], 0⟩ = .ok (.bl true) h) :
    PySem.W.WalkO q loose XP YP l.row.toRowW d [] (fun f vs => PySem.call f vs) := by
  refine Att.attach_callB hn hdf fun w s₀ s₁ mg mb fa o pm cd doc a vs ns G Y ho hd hcd hmg hobj hints hlen hbits hg => ?_
  obtain ⟨K, cad, fd, KX, hb, hF⟩ := F w mg fa _ Y G.T.g hmg
  refine law_call KX G.T.g G.T.b G.T.builtins G.T.nolimit hg hobj hints (Nat.le_trans hlen hn2) hr hF hb (fun H hO hS => ?_) fun H e s' z => cx_none z
  let mp : Mp := ⟨fun _ => 0, fun _ => 0, fun _ => False⟩
  have ntk : ∀ b, ¬ mp.Tk 0 b := fun b t => by
    rcases t with ⟨i, hi, _⟩ | t
    · exact absurd hi (Nat.not_lt_zero _)
    · exact t
  obtain ⟨h', e⟩ := hm ns hlen hbits
  refine ⟨rfl, mp, ⟨[], 0⟩, [.sc (ns.map .int)], ⟨fun i o e => by simp at e, fun i j hi => absurd hi (Nat.not_lt_zero _), fun i o e => by simp at e, Nat.le_refl _, fun a ha => ha.elim, fun i hi => absurd hi (Nat.not_lt_zero _)⟩, ⟨RelDs.cons ?_ RelDs.nil, ?_⟩, ?_⟩
  · unfold RelD
    refine ⟨a, _, rfl, ?_, relDs_ints ns⟩
    rcases hS with (hS | hS) | hS
    · rcases hO a with z | ⟨o2, xs, z⟩
      · rw [z] at hS; cases hS
      · rw [z] at hS; cases hS
    · exact .inl ⟨hS, ntk a⟩
    · exact .inr hS
  · exact Bool.and_eq_true_iff.mpr ⟨bels_ints ns, rfl⟩
  · rw [e]
    intro m' H' b x q r
    exact r.1
end Ev

set_option Elab.async false
set_option linter.all false
set_option maxRecDepth 100000
set_option maxHeartbeats 4000000
/-! ### what the defs are: printed by gen.py -/
namespace LW
open PySem PySem.Spec PyProof.Rows L2 Ev
abbrev R : PySem.W.OpenRow := PySem.W.OpenLaw.row PySem.Challenge.rw_pursewebs_k65_whole_no_table_for_the_ban
def top (i : Nat) : Stmt := R.prog.main.body.getD i (.Pass ⟨0, 0, 0, 0⟩)
def mth (i j : Nat) : Stmt := match top i with
  | .ClassDef _ _ _ body _ _ _ _ _ _ _ => body.getD j (.Pass ⟨0, 0, 0, 0⟩)
  | _ => .Pass ⟨0, 0, 0, 0⟩
def clsNames : List Str := (["Web", "Table", "PurseError", "WrongKind", "WrongNumber", "WrongWeb", "TooMuch"] : List PySem.Str)
def cad (K : PySem.W.Frag) (z : Nat) : Addr := He.ga K (clsNames.getD z "")
def subN (a b : Nat) : Bool := Nat.beq a b
def bnAll : List Str := (["min", "max", "sum", "any", "all", "len", "tuple", "abs", "int", "isinstance", "bool", "list", "sorted", "set", "range", "zip", "str"] : List PySem.Str)
def tabN : Kd → D → Option Bool := stdTabK 2 subN
def cc__law_part : CC := { N := (["_law_b", "_law_low", "_law_most", "_law_turn", "_law_middle"] : List PySem.Str), sc := defScope (top 83), bn := bnAll }
def tb__law_part : Tb := { tab := tabN }
def code__law_part : Ev.Code := .sq (.st (.gn 1) (.cst (.int 0))) (.sq (.st (.gn 2) (.bnN 0 (.var 0) (.cst (.int 1)))) (.sq (.fr (.i1 (.cst (.int 64))) (.gn 3) (.sq (.st (.gn 4) (.bin 1 (.bnN 0 (.var 1) (.var 2)) (.cst (.int 2)))) (.sq (.sf (.tan (.tv (.cmp 4 (.bin 0 (.var 2) (.var 1)) (.cst (.int 1)))) (.tv (.cmp 3 (.bnN 1 (.var 4) (.bnN 0 (.var 4) (.var 0))) (.bnN 1 (.var 0) (.var 0))))) (.sq (.st (.gn 1) (.var 4)) (.sn)) (.sq (.sf (.tv (.cmp 4 (.bin 0 (.var 2) (.var 1)) (.cst (.int 1)))) (.sq (.st (.gn 2) (.var 4)) (.sn)) (.sn)) (.sn))) (.sn)))) (.sq (.rt (.var 1)) (.sn))))
def m__law_part : Fn := fnOf 5 (run tb__law_part code__law_part).s
theorem chk__law_part : chkSs 80 cc__law_part (defBody (top 83)) code__law_part = true := by decide +kernel
theorem sc__law_part : FnScope ((["_law_b", "_law_low", "_law_most", "_law_turn", "_law_middle"] : List PySem.Str)) ((["_law_b"] : List PySem.Str)) (defScope (top 83)) := ⟨rfl, rfl, rfl, by decide +kernel, rfl, by decide +kernel, by decide +kernel⟩
def cc_p_Web_size : CC := { N := (["self"] : List PySem.Str), sc := defScope (mth 33 5), bn := bnAll, atn := (["_marks"] : List PySem.Str) }
def tb_p_Web_size : Tb := { tab := tabN, ats := [[(0, .slot 4)]] }
def code_p_Web_size : Ev.Code := .sq (.rt (.bi 7 (.cns (.att 0 (.var 0)) (.nil)))) (.sn)
def m_p_Web_size : Fn := fnOf 1 (run tb_p_Web_size code_p_Web_size).s
theorem chk_p_Web_size : chkSs 80 cc_p_Web_size (defBody (mth 33 5)) code_p_Web_size = true := by decide +kernel
theorem sc_p_Web_size : FnScope ((["self"] : List PySem.Str)) ((["self"] : List PySem.Str)) (defScope (mth 33 5)) := ⟨rfl, rfl, rfl, by decide +kernel, rfl, by decide +kernel, by decide +kernel⟩
def cc_half_of : CC := { N := (["mark", "x", "y"] : List PySem.Str), sc := defScope (top 27), bn := bnAll }
def tb_half_of : Tb := { tab := tabN }
def code_half_of : Ev.Code := .sq (.sf (.tv (.cmp 0 (.var 0) (.cst (.int 1)))) (.sq (.rt (.bin 1 (.bnN 0 (.var 1) (.bi 3 (.cns (.var 1) (.cns (.var 2) (.nil))))) (.cst (.int 2)))) (.sn)) (.sn)) (.sq (.rt (.bin 1 (.bnN 0 (.bnN 0 (.bi 2 (.cns (.var 1) (.cns (.var 2) (.nil)))) (.var 2)) (.cst (.int 1))) (.cst (.int 2)))) (.sn))
def m_half_of : Fn := fnOf 3 (run tb_half_of code_half_of).s
theorem chk_half_of : chkSs 80 cc_half_of (defBody (top 27)) code_half_of = true := by decide +kernel
theorem sc_half_of : FnScope ((["mark", "x", "y"] : List PySem.Str)) ((["mark", "x", "y"] : List PySem.Str)) (defScope (top 27)) := ⟨rfl, rfl, rfl, by decide +kernel, rfl, by decide +kernel, by decide +kernel⟩
def cc_p_Web_second : CC := { N := (["self"] : List PySem.Str), sc := defScope (mth 33 7), bn := bnAll, atn := (["_second"] : List PySem.Str) }
def tb_p_Web_second : Tb := { tab := tabN, ats := [[(0, .slot 6)]] }
def code_p_Web_second : Ev.Code := .sq (.rt (.att 0 (.var 0))) (.sn)
def m_p_Web_second : Fn := fnOf 1 (run tb_p_Web_second code_p_Web_second).s
theorem chk_p_Web_second : chkSs 80 cc_p_Web_second (defBody (mth 33 7)) code_p_Web_second = true := by decide +kernel
theorem sc_p_Web_second : FnScope ((["self"] : List PySem.Str)) ((["self"] : List PySem.Str)) (defScope (mth 33 7)) := ⟨rfl, rfl, rfl, by decide +kernel, rfl, by decide +kernel, by decide +kernel⟩
def cc_price_high : CC := { N := (["web", "row", "stand", "w"] : List PySem.Str), sc := defScope (top 41), bn := bnAll, atn := (["second"] : List PySem.Str) }
def tb_price_high : Tb := { tab := tabN, ats := [[(0, .prop m_p_Web_second)]] }
def code_price_high : Ev.Code := .sq (.rt (.bi 1 (.cns (.com [3] (.ie (.ix (.att 0 (.var 0)) (.var 2))) (.gn 3) (.ty) (.ix (.var 1) (.var 3))) (.nil)))) (.sn)
def m_price_high : Fn := fnOf 4 (run tb_price_high code_price_high).s
theorem chk_price_high : chkSs 80 cc_price_high (defBody (top 41)) code_price_high = true := by decide +kernel
theorem sc_price_high : FnScope ((["web", "row", "stand", "w"] : List PySem.Str)) ((["web", "row", "stand"] : List PySem.Str)) (defScope (top 41)) := ⟨rfl, rfl, rfl, by decide +kernel, rfl, by decide +kernel, by decide +kernel⟩
def cc_p_Web_first : CC := { N := (["self"] : List PySem.Str), sc := defScope (mth 33 6), bn := bnAll, atn := (["_first"] : List PySem.Str) }
def tb_p_Web_first : Tb := { tab := tabN, ats := [[(0, .slot 2)]] }
def code_p_Web_first : Ev.Code := .sq (.rt (.att 0 (.var 0))) (.sn)
def m_p_Web_first : Fn := fnOf 1 (run tb_p_Web_first code_p_Web_first).s
theorem chk_p_Web_first : chkSs 80 cc_p_Web_first (defBody (mth 33 6)) code_p_Web_first = true := by decide +kernel
theorem sc_p_Web_first : FnScope ((["self"] : List PySem.Str)) ((["self"] : List PySem.Str)) (defScope (mth 33 6)) := ⟨rfl, rfl, rfl, by decide +kernel, rfl, by decide +kernel, by decide +kernel⟩
def cc_price_low : CC := { N := (["web", "row", "stand", "w"] : List PySem.Str), sc := defScope (top 40), bn := bnAll, atn := (["first"] : List PySem.Str) }
def tb_price_low : Tb := { tab := tabN, ats := [[(0, .prop m_p_Web_first)]] }
def code_price_low : Ev.Code := .sq (.rt (.bi 0 (.cns (.com [3] (.ie (.ix (.att 0 (.var 0)) (.var 2))) (.gn 3) (.ty) (.ix (.var 1) (.var 3))) (.nil)))) (.sn)
def m_price_low : Fn := fnOf 4 (run tb_price_low code_price_low).s
theorem chk_price_low : chkSs 80 cc_price_low (defBody (top 40)) code_price_low = true := by decide +kernel
theorem sc_price_low : FnScope ((["web", "row", "stand", "w"] : List PySem.Str)) ((["web", "row", "stand"] : List PySem.Str)) (defScope (top 40)) := ⟨rfl, rfl, rfl, by decide +kernel, rfl, by decide +kernel, by decide +kernel⟩
def cc_p_Web_marks : CC := { N := (["self"] : List PySem.Str), sc := defScope (mth 33 8), bn := bnAll, atn := (["_marks"] : List PySem.Str) }
def tb_p_Web_marks : Tb := { tab := tabN, ats := [[(0, .slot 4)]] }
def code_p_Web_marks : Ev.Code := .sq (.rt (.att 0 (.var 0))) (.sn)
def m_p_Web_marks : Fn := fnOf 1 (run tb_p_Web_marks code_p_Web_marks).s
theorem chk_p_Web_marks : chkSs 80 cc_p_Web_marks (defBody (mth 33 8)) code_p_Web_marks = true := by decide +kernel
theorem sc_p_Web_marks : FnScope ((["self"] : List PySem.Str)) ((["self"] : List PySem.Str)) (defScope (mth 33 8)) := ⟨rfl, rfl, rfl, by decide +kernel, rfl, by decide +kernel, by decide +kernel⟩
def cc_price_at : CC := { N := (["web", "k", "row", "stand"] : List PySem.Str), sc := defScope (top 42), bn := bnAll, fnn := [("half_of", 3), ("price_high", 3), ("price_low", 3)], atn := (["marks", "first"] : List PySem.Str) }
def tb_price_at : Tb := { tab := tabN, fs := [fz m_half_of, fz m_price_high, fz m_price_low], ats := [[(0, .prop m_p_Web_marks)], [(0, .prop m_p_Web_first)]] }
def code_price_at : Ev.Code := .sq (.sf (.tn (.tt (.ix (.att 1 (.var 0)) (.var 3)))) (.sq (.rt (.bnN 0 (.var 1) (.cst (.int 1)))) (.sn)) (.sn)) (.sq (.rt (.cal 0 (.cns (.ix (.att 0 (.var 0)) (.var 3)) (.cns (.cal 2 (.cns (.var 0) (.cns (.var 2) (.cns (.var 3) (.nil))))) (.cns (.cal 1 (.cns (.var 0) (.cns (.var 2) (.cns (.var 3) (.nil))))) (.nil)))))) (.sn))
def m_price_at : Fn := fnOf 4 (run tb_price_at code_price_at).s
theorem chk_price_at : chkSs 80 cc_price_at (defBody (top 42)) code_price_at = true := by decide +kernel
theorem sc_price_at : FnScope ((["web", "k", "row", "stand"] : List PySem.Str)) ((["web", "k", "row", "stand"] : List PySem.Str)) (defScope (top 42)) := ⟨rfl, rfl, rfl, by decide +kernel, rfl, by decide +kernel, by decide +kernel⟩
def cc_due_at : CC := { N := (["due", "k"] : List PySem.Str), sc := defScope (top 22), bn := bnAll }
def tb_due_at : Tb := { tab := tabN }
def code_due_at : Ev.Code := .sq (.sf (.tv (.cmp 6 (.var 0) (.cst .non))) (.sq (.rt (.bnN 0 (.var 1) (.cst (.int 1)))) (.sn)) (.sn)) (.sq (.sf (.tv (.cmp 0 (.ix (.var 0) (.cst (.int 0))) (.cst (.str ("chips" : Str))))) (.sq (.rt (.bi 2 (.cns (.ix (.var 0) (.cst (.int 1))) (.cns (.bnN 0 (.var 1) (.cst (.int 1))) (.nil))))) (.sn)) (.sn)) (.sq (.rt (.bi 3 (.cns (.cst (.int 0)) (.cns (.bin 0 (.bnN 0 (.var 1) (.cst (.int 1))) (.ix (.var 0) (.cst (.int 1)))) (.nil))))) (.sn)))
def m_due_at : Fn := fnOf 2 (run tb_due_at code_due_at).s
theorem chk_due_at : chkSs 80 cc_due_at (defBody (top 22)) code_due_at = true := by decide +kernel
theorem sc_due_at : FnScope ((["due", "k"] : List PySem.Str)) ((["due", "k"] : List PySem.Str)) (defScope (top 22)) := ⟨rfl, rfl, rfl, by decide +kernel, rfl, by decide +kernel, by decide +kernel⟩
def cc_due_row : CC := { N := (["dues", "k", "stand"] : List PySem.Str), sc := defScope (top 23), bn := bnAll, fnn := [("due_at", 2)] }
def tb_due_row : Tb := { tab := tabN, fs := [fz m_due_at] }
def code_due_row : Ev.Code := .sq (.rt (.bi 8 (.cns (.com [2] (.i1 (.bi 7 (.cns (.var 0) (.nil)))) (.gn 2) (.ty) (.cal 0 (.cns (.ix (.var 0) (.var 2)) (.cns (.var 1) (.nil))))) (.nil)))) (.sn)
def m_due_row : Fn := fnOf 3 (run tb_due_row code_due_row).s
theorem chk_due_row : chkSs 80 cc_due_row (defBody (top 23)) code_due_row = true := by decide +kernel
theorem sc_due_row : FnScope ((["dues", "k", "stand"] : List PySem.Str)) ((["dues", "k"] : List PySem.Str)) (defScope (top 23)) := ⟨rfl, rfl, rfl, by decide +kernel, rfl, by decide +kernel, by decide +kernel⟩
def cc_p_Web_dues : CC := { N := (["self"] : List PySem.Str), sc := defScope (mth 33 9), bn := bnAll, atn := (["_dues"] : List PySem.Str) }
def tb_p_Web_dues : Tb := { tab := tabN, ats := [[(0, .slot 0)]] }
def code_p_Web_dues : Ev.Code := .sq (.rt (.att 0 (.var 0))) (.sn)
def m_p_Web_dues : Fn := fnOf 1 (run tb_p_Web_dues code_p_Web_dues).s
theorem chk_p_Web_dues : chkSs 80 cc_p_Web_dues (defBody (mth 33 9)) code_p_Web_dues = true := by decide +kernel
theorem sc_p_Web_dues : FnScope ((["self"] : List PySem.Str)) ((["self"] : List PySem.Str)) (defScope (mth 33 9)) := ⟨rfl, rfl, rfl, by decide +kernel, rfl, by decide +kernel, by decide +kernel⟩
def cc_rise_of : CC := { N := (["web", "k", "row", "dues", "left", "higher", "v", "fallen"] : List PySem.Str), sc := defScope (top 51), bn := bnAll, fnn := [("price_at", 4), ("due_row", 2)], atn := (["size", "dues"] : List PySem.Str) }
def tb_rise_of : Tb := { tab := tabN, fs := [fz m_price_at, fz m_due_row], ats := [[(0, .prop m_p_Web_size)], [(0, .prop m_p_Web_dues)]] }
def code_rise_of : Ev.Code := .sq (.st (.gn 3) (.cal 1 (.cns (.att 1 (.var 0)) (.cns (.var 1) (.nil))))) (.sq (.st (.gn 4) (.com [6] (.i1 (.att 0 (.var 0))) (.gn 6) (.tv (.cmp 2 (.ix (.var 2) (.var 6)) (.ix (.var 3) (.var 6)))) (.var 6))) (.sq (.nw 5 (.lis (.cns (.var 2) (.nil)))) (.sq (.fr (.ie (.var 4)) (.gn 6) (.sq (.asb 0 (.var 5) (.var 6) (.cst (.int 1))) (.sn))) (.sq (.wh (.tt (.cst (.bl true))) (.sq (.st (.gn 7) (.com [6] (.ie (.var 4)) (.gn 6) (.tv (.cmp 2 (.cal 0 (.cns (.var 0) (.cns (.var 1) (.cns (.var 5) (.cns (.var 6) (.nil)))))) (.ix (.var 5) (.var 6)))) (.var 6))) (.sq (.sf (.tn (.tt (.var 7))) (.sq (.rt (.bi 8 (.cns (.var 4) (.nil)))) (.sn)) (.sn)) (.sq (.fr (.ie (.var 7)) (.gn 6) (.sq (.asb 1 (.var 5) (.var 6) (.cst (.int 1))) (.sn))) (.sq (.st (.gn 4) (.com [6] (.ie (.var 4)) (.gn 6) (.tv (.cmp 4 (.ix (.var 5) (.var 6)) (.ix (.var 2) (.var 6)))) (.var 6))) (.sn)))))) (.sn)))))
def m_rise_of : Fn := fnOf 8 (run tb_rise_of code_rise_of).s
theorem chk_rise_of : chkSs 80 cc_rise_of (defBody (top 51)) code_rise_of = true := by decide +kernel
theorem sc_rise_of : FnScope ((["web", "k", "row", "dues", "left", "higher", "v", "fallen"] : List PySem.Str)) ((["web", "k", "row"] : List PySem.Str)) (defScope (top 51)) := ⟨rfl, rfl, rfl, by decide +kernel, rfl, by decide +kernel, by decide +kernel⟩
def cc_risen : CC := { N := (["web", "k", "row", "rising", "v"] : List PySem.Str), sc := defScope (top 52), bn := bnAll, fnn := [("rise_of", 3)], atn := (["size"] : List PySem.Str) }
def tb_risen : Tb := { tab := tabN, fs := [fz m_rise_of], ats := [[(0, .prop m_p_Web_size)]] }
def code_risen : Ev.Code := .sq (.st (.gn 3) (.cal 0 (.cns (.var 0) (.cns (.var 1) (.cns (.var 2) (.nil)))))) (.sq (.rt (.bi 8 (.cns (.com [4] (.i1 (.att 0 (.var 0))) (.gn 4) (.ty) (.ife (.tv (.cmp 8 (.var 4) (.var 3))) (.bnN 0 (.ix (.var 2) (.var 4)) (.cst (.int 1))) (.ix (.var 2) (.var 4)))) (.nil)))) (.sn))
def m_risen : Fn := fnOf 5 (run tb_risen code_risen).s
theorem chk_risen : chkSs 80 cc_risen (defBody (top 52)) code_risen = true := by decide +kernel
theorem sc_risen : FnScope ((["web", "k", "row", "rising", "v"] : List PySem.Str)) ((["web", "k", "row"] : List PySem.Str)) (defScope (top 52)) := ⟨rfl, rfl, rfl, by decide +kernel, rfl, by decide +kernel, by decide +kernel⟩
def cc_need_up_to : CC := { N := (["number", "most", "what"] : List PySem.Str), sc := defScope (top 13), bn := bnAll, exn := (["TooMuch"] : List PySem.Str) }
def tb_need_up_to : Tb := { tab := tabN, exs := [6] }
def code_need_up_to : Ev.Code := .sq (.sf (.tv (.cmp 4 (.var 0) (.var 1))) (.sq (.rs 0 (.js (.jc (.fmt (.var 2)) (.jc (.cst (.str (" is at most " : Str))) (.jc (.fmt (.var 1)) (.jn)))))) (.sn)) (.sn)) (.sn)
def m_need_up_to : Fn := fnOf 3 (run tb_need_up_to code_need_up_to).s
theorem chk_need_up_to : chkSs 80 cc_need_up_to (defBody (top 13)) code_need_up_to = true := by decide +kernel
theorem sc_need_up_to : FnScope ((["number", "most", "what"] : List PySem.Str)) ((["number", "most", "what"] : List PySem.Str)) (defScope (top 13)) := ⟨rfl, rfl, rfl, by decide +kernel, rfl, by decide +kernel, by decide +kernel⟩
def cc_need_from : CC := { N := (["number", "least", "what"] : List PySem.Str), sc := defScope (top 11), bn := bnAll, exn := (["WrongNumber"] : List PySem.Str) }
def tb_need_from : Tb := { tab := tabN, exs := [4] }
def code_need_from : Ev.Code := .sq (.sf (.tv (.cmp 2 (.var 0) (.var 1))) (.sq (.rs 0 (.js (.jc (.fmt (.var 2)) (.jc (.cst (.str (" must be at least " : Str))) (.jc (.fmt (.var 1)) (.jn)))))) (.sn)) (.sn)) (.sn)
def m_need_from : Fn := fnOf 3 (run tb_need_from code_need_from).s
theorem chk_need_from : chkSs 80 cc_need_from (defBody (top 11)) code_need_from = true := by decide +kernel
theorem sc_need_from : FnScope ((["number", "least", "what"] : List PySem.Str)) ((["number", "least", "what"] : List PySem.Str)) (defScope (top 11)) := ⟨rfl, rfl, rfl, by decide +kernel, rfl, by decide +kernel, by decide +kernel⟩
def cc_need_between : CC := { N := (["number", "least", "most", "what"] : List PySem.Str), sc := defScope (top 12), bn := bnAll, exn := (["WrongNumber"] : List PySem.Str) }
def tb_need_between : Tb := { tab := tabN, exs := [4] }
def code_need_between : Ev.Code := .sq (.sf (.tor (.tv (.cmp 2 (.var 0) (.var 1))) (.tv (.cmp 4 (.var 0) (.var 2)))) (.sq (.rs 0 (.js (.jc (.fmt (.var 3)) (.jc (.cst (.str (" must be from " : Str))) (.jc (.fmt (.var 1)) (.jc (.cst (.str (" to " : Str))) (.jc (.fmt (.var 2)) (.jn)))))))) (.sn)) (.sn)) (.sn)
def m_need_between : Fn := fnOf 4 (run tb_need_between code_need_between).s
theorem chk_need_between : chkSs 80 cc_need_between (defBody (top 12)) code_need_between = true := by decide +kernel
theorem sc_need_between : FnScope ((["number", "least", "most", "what"] : List PySem.Str)) ((["number", "least", "most", "what"] : List PySem.Str)) (defScope (top 12)) := ⟨rfl, rfl, rfl, by decide +kernel, rfl, by decide +kernel, by decide +kernel⟩
def cc_need_stand : CC := { N := (["web", "stand"] : List PySem.Str), sc := defScope (top 36), bn := bnAll, fnn := [("need_between", 4)], atn := (["size"] : List PySem.Str) }
def tb_need_stand : Tb := { tab := tabN, fs := [fz m_need_between], ats := [[(0, .prop m_p_Web_size)]] }
def code_need_stand : Ev.Code := .sq (.sx (.cal 0 (.cns (.var 1) (.cns (.cst (.int 0)) (.cns (.bin 0 (.att 0 (.var 0)) (.cst (.int 1))) (.cns (.cst (.str ("a stand" : Str))) (.nil))))))) (.sn)
def m_need_stand : Fn := fnOf 2 (run tb_need_stand code_need_stand).s
theorem chk_need_stand : chkSs 80 cc_need_stand (defBody (top 36)) code_need_stand = true := by decide +kernel
theorem sc_need_stand : FnScope ((["web", "stand"] : List PySem.Str)) ((["web", "stand"] : List PySem.Str)) (defScope (top 36)) := ⟨rfl, rfl, rfl, by decide +kernel, rfl, by decide +kernel, by decide +kernel⟩
def cc_is_integer : CC := { N := (["thing"] : List PySem.Str), sc := defScope (top 8), bn := bnAll }
def tb_is_integer : Tb := { tab := tabN }
def code_is_integer : Ev.Code := .sq (.rt (.an (.bi 11 (.cns (.var 0) (.cns (.tyn 0) (.nil)))) (.nt (.bi 11 (.cns (.var 0) (.cns (.tyn 1) (.nil))))))) (.sn)
def m_is_integer : Fn := fnOf 1 (run tb_is_integer code_is_integer).s
theorem chk_is_integer : chkSs 80 cc_is_integer (defBody (top 8)) code_is_integer = true := by decide +kernel
theorem sc_is_integer : FnScope ((["thing"] : List PySem.Str)) ((["thing"] : List PySem.Str)) (defScope (top 8)) := ⟨rfl, rfl, rfl, by decide +kernel, rfl, by decide +kernel, by decide +kernel⟩
def cc_need_integer : CC := { N := (["thing", "what"] : List PySem.Str), sc := defScope (top 9), bn := bnAll, fnn := [("is_integer", 1)], exn := (["WrongKind"] : List PySem.Str) }
def tb_need_integer : Tb := { tab := tabN, fs := [fz m_is_integer], exs := [3] }
def code_need_integer : Ev.Code := .sq (.sf (.tn (.tt (.cal 0 (.cns (.var 0) (.nil))))) (.sq (.rs 0 (.js (.jc (.fmt (.var 1)) (.jc (.cst (.str (" must be an integer" : Str))) (.jn))))) (.sn)) (.sn)) (.sn)
def m_need_integer : Fn := fnOf 2 (run tb_need_integer code_need_integer).s
theorem chk_need_integer : chkSs 80 cc_need_integer (defBody (top 9)) code_need_integer = true := by decide +kernel
theorem sc_need_integer : FnScope ((["thing", "what"] : List PySem.Str)) ((["thing", "what"] : List PySem.Str)) (defScope (top 9)) := ⟨rfl, rfl, rfl, by decide +kernel, rfl, by decide +kernel, by decide +kernel⟩
def cc_need_web : CC := { N := (["web"] : List PySem.Str), sc := defScope (top 35), bn := bnAll, gln := (["Web"] : List PySem.Str), exn := (["WrongKind"] : List PySem.Str) }
def tb_need_web : Tb := { tab := tabN, gl := [.cls 0], exs := [3] }
def code_need_web : Ev.Code := .sq (.sf (.tn (.tt (.bi 11 (.cns (.var 0) (.cns (.glo 0) (.nil)))))) (.sq (.rs 0 (.cst (.str ("a Web is expected" : Str)))) (.sn)) (.sn)) (.sn)
def m_need_web : Fn := fnOf 1 (run tb_need_web code_need_web).s
theorem chk_need_web : chkSs 80 cc_need_web (defBody (top 35)) code_need_web = true := by decide +kernel
theorem sc_need_web : FnScope ((["web"] : List PySem.Str)) ((["web"] : List PySem.Str)) (defScope (top 35)) := ⟨rfl, rfl, rfl, by decide +kernel, rfl, by decide +kernel, by decide +kernel⟩
def cc_purse_against : CC := { N := (["web", "stand", "other", "most", "row", "k"] : List PySem.Str), sc := defScope (top 55), bn := bnAll, gln := (["AGAINST_CHIPS"] : List PySem.Str), fnn := [("risen", 3), ("need_up_to", 3), ("need_from", 3), ("need_stand", 2), ("need_integer", 2), ("need_web", 1)], atn := (["size"] : List PySem.Str) }
def tb_purse_against : Tb := { tab := tabN, gl := [.int 2000], fs := [fz m_risen, fz m_need_up_to, fz m_need_from, fz m_need_stand, fz m_need_integer, fz m_need_web], ats := [[(0, .prop m_p_Web_size)]] }
def code_purse_against : Ev.Code := .sq (.sx (.cal 5 (.cns (.var 0) (.nil)))) (.sq (.sx (.cal 4 (.cns (.var 1) (.cns (.cst (.str ("the stand" : Str))) (.nil))))) (.sq (.sx (.cal 4 (.cns (.var 2) (.cns (.cst (.str ("other" : Str))) (.nil))))) (.sq (.sx (.cal 4 (.cns (.var 3) (.cns (.cst (.str ("most" : Str))) (.nil))))) (.sq (.sx (.cal 3 (.cns (.var 0) (.cns (.var 1) (.nil))))) (.sq (.sx (.cal 2 (.cns (.var 2) (.cns (.cst (.int 0)) (.cns (.cst (.str ("other" : Str))) (.nil)))))) (.sq (.sx (.cal 2 (.cns (.var 3) (.cns (.cst (.int 0)) (.cns (.cst (.str ("most" : Str))) (.nil)))))) (.sq (.sx (.cal 1 (.cns (.var 2) (.cns (.glo 0) (.cns (.cst (.str ("other" : Str))) (.nil)))))) (.sq (.sx (.cal 1 (.cns (.var 3) (.cns (.glo 0) (.cns (.cst (.str ("most" : Str))) (.nil)))))) (.sq (.st (.gn 4) (.bnN 1 (.tup (.cns (.cst (.int 0)) (.nil))) (.att 0 (.var 0)))) (.sq (.fr (.i1 (.bnN 0 (.bnN 0 (.var 2) (.var 3)) (.cst (.int 1)))) (.gn 5) (.sq (.st (.gn 4) (.cal 0 (.cns (.var 0) (.cns (.var 5) (.cns (.var 4) (.nil)))))) (.sq (.sf (.tan (.tv (.cmp 5 (.var 5) (.var 2))) (.tv (.cmp 5 (.bin 0 (.var 5) (.var 2)) (.ix (.var 4) (.var 1))))) (.sq (.rt (.bin 0 (.var 5) (.var 2))) (.sn)) (.sn)) (.sn)))) (.sq (.rt (.cst .non)) (.sn))))))))))))
def m_purse_against : Fn := fnOf 6 (run tb_purse_against code_purse_against).s
theorem chk_purse_against : chkSs 80 cc_purse_against (defBody (top 55)) code_purse_against = true := by decide +kernel
theorem sc_purse_against : FnScope ((["web", "stand", "other", "most", "row", "k"] : List PySem.Str)) ((["web", "stand", "other", "most"] : List PySem.Str)) (defScope (top 55)) := ⟨rfl, rfl, rfl, by decide +kernel, rfl, by decide +kernel, by decide +kernel⟩
def cc__law_draw : CC := { N := (["_law_pot_here", "_law_many"] : List PySem.Str), sc := defScope (top 81), bn := bnAll }
def tb__law_draw : Tb := { tab := tabN }
def code__law_draw : Ev.Code := .sq (.sf (.tv (.cmp 0 (.bi 7 (.cns (.var 0) (.nil))) (.cst (.int 0)))) (.sq (.rt (.cst (.int 0))) (.sn)) (.sn)) (.sq (.rt (.bin 2 (.bi 10 (.cns (.mt 1 (.var 0) (.nil)) (.nil))) (.var 1))) (.sn))
def m__law_draw : Fn := fnOf 2 (run tb__law_draw code__law_draw).s
theorem chk__law_draw : chkSs 80 cc__law_draw (defBody (top 81)) code__law_draw = true := by decide +kernel
theorem sc__law_draw : FnScope ((["_law_pot_here", "_law_many"] : List PySem.Str)) ((["_law_pot_here", "_law_many"] : List PySem.Str)) (defScope (top 81)) := ⟨rfl, rfl, rfl, by decide +kernel, rfl, by decide +kernel, by decide +kernel⟩
def cc_p_Table_slopes : CC := { N := (["self"] : List PySem.Str), sc := defScope (mth 78 7), bn := bnAll, atn := (["_slopes"] : List PySem.Str) }
def tb_p_Table_slopes : Tb := { tab := tabN, ats := [[(1, .slot 3)]] }
def code_p_Table_slopes : Ev.Code := .sq (.rt (.att 0 (.var 0))) (.sn)
def m_p_Table_slopes : Fn := fnOf 1 (run tb_p_Table_slopes code_p_Table_slopes).s
theorem chk_p_Table_slopes : chkSs 80 cc_p_Table_slopes (defBody (mth 78 7)) code_p_Table_slopes = true := by decide +kernel
theorem sc_p_Table_slopes : FnScope ((["self"] : List PySem.Str)) ((["self"] : List PySem.Str)) (defScope (mth 78 7)) := ⟨rfl, rfl, rfl, by decide +kernel, rfl, by decide +kernel, by decide +kernel⟩
def cc_p_Table_period : CC := { N := (["self"] : List PySem.Str), sc := defScope (mth 78 6), bn := bnAll, atn := (["_period"] : List PySem.Str) }
def tb_p_Table_period : Tb := { tab := tabN, ats := [[(1, .slot 0)]] }
def code_p_Table_period : Ev.Code := .sq (.rt (.att 0 (.var 0))) (.sn)
def m_p_Table_period : Fn := fnOf 1 (run tb_p_Table_period code_p_Table_period).s
theorem chk_p_Table_period : chkSs 80 cc_p_Table_period (defBody (mth 78 6)) code_p_Table_period = true := by decide +kernel
theorem sc_p_Table_period : FnScope ((["self"] : List PySem.Str)) ((["self"] : List PySem.Str)) (defScope (mth 78 6)) := ⟨rfl, rfl, rfl, by decide +kernel, rfl, by decide +kernel, by decide +kernel⟩
def cc_p_Web_greatest_due : CC := { N := (["self"] : List PySem.Str), sc := defScope (mth 33 12), bn := bnAll, atn := (["_greatest_due"] : List PySem.Str) }
def tb_p_Web_greatest_due : Tb := { tab := tabN, ats := [[(0, .slot 3)]] }
def code_p_Web_greatest_due : Ev.Code := .sq (.rt (.att 0 (.var 0))) (.sn)
def m_p_Web_greatest_due : Fn := fnOf 1 (run tb_p_Web_greatest_due code_p_Web_greatest_due).s
theorem chk_p_Web_greatest_due : chkSs 80 cc_p_Web_greatest_due (defBody (mth 33 12)) code_p_Web_greatest_due = true := by decide +kernel
theorem sc_p_Web_greatest_due : FnScope ((["self"] : List PySem.Str)) ((["self"] : List PySem.Str)) (defScope (mth 33 12)) := ⟨rfl, rfl, rfl, by decide +kernel, rfl, by decide +kernel, by decide +kernel⟩
def cc_p_Web_moving : CC := { N := (["self"] : List PySem.Str), sc := defScope (mth 33 11), bn := bnAll, atn := (["_moving"] : List PySem.Str) }
def tb_p_Web_moving : Tb := { tab := tabN, ats := [[(0, .slot 5)]] }
def code_p_Web_moving : Ev.Code := .sq (.rt (.att 0 (.var 0))) (.sn)
def m_p_Web_moving : Fn := fnOf 1 (run tb_p_Web_moving code_p_Web_moving).s
theorem chk_p_Web_moving : chkSs 80 cc_p_Web_moving (defBody (mth 33 11)) code_p_Web_moving = true := by decide +kernel
theorem sc_p_Web_moving : FnScope ((["self"] : List PySem.Str)) ((["self"] : List PySem.Str)) (defScope (mth 33 11)) := ⟨rfl, rfl, rfl, by decide +kernel, rfl, by decide +kernel, by decide +kernel⟩
def cc_need_small_web : CC := { N := (["web"] : List PySem.Str), sc := defScope (top 67), bn := bnAll, gln := (["SMALL_DUE", "SMALL_MOVING", "SMALL_STANDS"] : List PySem.Str), fnn := [("need_up_to", 3)], atn := (["greatest_due", "moving", "size"] : List PySem.Str) }
def tb_need_small_web : Tb := { tab := tabN, gl := [.int 9, .int 6, .int 10], fs := [fz m_need_up_to], ats := [[(0, .prop m_p_Web_greatest_due)], [(0, .prop m_p_Web_moving)], [(0, .prop m_p_Web_size)]] }
def code_need_small_web : Ev.Code := .sq (.sx (.cal 0 (.cns (.att 2 (.var 0)) (.cns (.glo 2) (.cns (.cst (.str ("the number of stands" : Str))) (.nil)))))) (.sq (.sx (.cal 0 (.cns (.bi 7 (.cns (.att 1 (.var 0)) (.nil))) (.cns (.glo 1) (.cns (.cst (.str ("the number of stands with steps" : Str))) (.nil)))))) (.sq (.sx (.cal 0 (.cns (.att 0 (.var 0)) (.cns (.glo 0) (.cns (.cst (.str ("the number of a due" : Str))) (.nil)))))) (.sn)))
def m_need_small_web : Fn := fnOf 1 (run tb_need_small_web code_need_small_web).s
theorem chk_need_small_web : chkSs 80 cc_need_small_web (defBody (top 67)) code_need_small_web = true := by decide +kernel
theorem sc_need_small_web : FnScope ((["web"] : List PySem.Str)) ((["web"] : List PySem.Str)) (defScope (top 67)) := ⟨rfl, rfl, rfl, by decide +kernel, rfl, by decide +kernel, by decide +kernel⟩
def cc_need_row : CC := { N := (["web", "row", "most", "x"] : List PySem.Str), sc := defScope (top 39), bn := bnAll, atn := (["size"] : List PySem.Str), exn := (["WrongNumber"] : List PySem.Str) }
def tb_need_row : Tb := { tab := tabN, ats := [[(0, .prop m_p_Web_size)]], exs := [4] }
def code_need_row : Ev.Code := .sq (.sf (.tv (.cmp 1 (.bi 7 (.cns (.var 1) (.nil))) (.att 0 (.var 0)))) (.sq (.rs 0 (.cst (.str ("a row has one part for each stand" : Str)))) (.sn)) (.sn)) (.sq (.sf (.tan (.tv (.cmp 7 (.var 2) (.cst .non))) (.tn (.tt (.bi 6 (.cns (.com [3] (.ie (.var 1)) (.gn 3) (.ty) (.chn 3 3 (.cst (.int 0)) (.var 3) (.var 2))) (.nil)))))) (.sq (.rs 0 (.cst (.str ("a part of the row is out of range" : Str)))) (.sn)) (.sn)) (.sn))
def m_need_row : Fn := fnOf 4 (run tb_need_row code_need_row).s
theorem chk_need_row : chkSs 80 cc_need_row (defBody (top 39)) code_need_row = true := by decide +kernel
theorem sc_need_row : FnScope ((["web", "row", "most", "x"] : List PySem.Str)) ((["web", "row", "most"] : List PySem.Str)) (defScope (top 39)) := ⟨rfl, rfl, rfl, by decide +kernel, rfl, by decide +kernel, by decide +kernel⟩
def cc_need_parts_from : CC := { N := (["web", "row", "least", "what", "x"] : List PySem.Str), sc := defScope (top 59), bn := bnAll, fnn := [("need_from", 3), ("need_row", 2)] }
def tb_need_parts_from : Tb := { tab := tabN, fs := [fz m_need_from, fz (dfl m_need_row [.non])] }
def code_need_parts_from : Ev.Code := .sq (.sx (.cal 1 (.cns (.var 0) (.cns (.var 1) (.nil))))) (.sq (.fr (.ie (.var 1)) (.gn 4) (.sq (.sx (.cal 0 (.cns (.var 4) (.cns (.var 2) (.cns (.var 3) (.nil)))))) (.sn))) (.sn))
def m_need_parts_from : Fn := fnOf 5 (run tb_need_parts_from code_need_parts_from).s
theorem chk_need_parts_from : chkSs 80 cc_need_parts_from (defBody (top 59)) code_need_parts_from = true := by decide +kernel
theorem sc_need_parts_from : FnScope ((["web", "row", "least", "what", "x"] : List PySem.Str)) ((["web", "row", "least", "what"] : List PySem.Str)) (defScope (top 59)) := ⟨rfl, rfl, rfl, by decide +kernel, rfl, by decide +kernel, by decide +kernel⟩
def cc_table_numbers : CC := { N := (["web", "start", "period", "slopes", "rows", "ranks", "k"] : List PySem.Str), sc := defScope (top 77), bn := bnAll, fnn := [("need_parts_from", 4), ("need_row", 3), ("need_from", 3)], exn := (["WrongNumber"] : List PySem.Str) }
def tb_table_numbers : Tb := { tab := tabN, fs := [fz m_need_parts_from, fz m_need_row, fz m_need_from], exs := [4] }
def code_table_numbers : Ev.Code := .sq (.sx (.cal 2 (.cns (.var 1) (.cns (.cst (.int 0)) (.cns (.cst (.str ("the start" : Str))) (.nil)))))) (.sq (.sx (.cal 2 (.cns (.var 2) (.cns (.cst (.int 1)) (.cns (.cst (.str ("the period" : Str))) (.nil)))))) (.sq (.sx (.cal 1 (.cns (.var 0) (.cns (.var 3) (.cns (.var 2) (.nil)))))) (.sq (.sf (.tor (.tv (.cmp 1 (.bi 7 (.cns (.var 4) (.nil))) (.bnN 0 (.var 1) (.var 2)))) (.tv (.cmp 1 (.bi 7 (.cns (.var 5) (.nil))) (.bnN 0 (.var 1) (.var 2))))) (.sq (.rs 0 (.cst (.str ("a table has start + period rows" : Str)))) (.sn)) (.sn)) (.sq (.fr (.i1 (.bnN 0 (.var 1) (.var 2))) (.gn 6) (.sq (.sx (.cal 1 (.cns (.var 0) (.cns (.ix (.var 4) (.var 6)) (.cns (.bnN 0 (.var 6) (.cst (.int 1))) (.nil)))))) (.sq (.sx (.cal 0 (.cns (.var 0) (.cns (.ix (.var 5) (.var 6)) (.cns (.cst (.int 0)) (.cns (.cst (.str ("a rank" : Str))) (.nil))))))) (.sn)))) (.sn)))))
def m_table_numbers : Fn := fnOf 7 (run tb_table_numbers code_table_numbers).s
theorem chk_table_numbers : chkSs 80 cc_table_numbers (defBody (top 77)) code_table_numbers = true := by decide +kernel
theorem sc_table_numbers : FnScope ((["web", "start", "period", "slopes", "rows", "ranks", "k"] : List PySem.Str)) ((["web", "start", "period", "slopes", "rows", "ranks"] : List PySem.Str)) (defScope (top 77)) := ⟨rfl, rfl, rfl, by decide +kernel, rfl, by decide +kernel, by decide +kernel⟩
def cc_need_list : CC := { N := (["thing", "what"] : List PySem.Str), sc := defScope (top 10), bn := bnAll, exn := (["WrongKind"] : List PySem.Str) }
def tb_need_list : Tb := { tab := tabN, exs := [3] }
def code_need_list : Ev.Code := .sq (.sf (.tn (.tt (.bi 11 (.cns (.var 0) (.cns (.tup (.cns (.tyn 3) (.cns (.tyn 4) (.nil)))) (.nil)))))) (.sq (.rs 0 (.js (.jc (.fmt (.var 1)) (.jc (.cst (.str (" must be a list or a tuple" : Str))) (.jn))))) (.sn)) (.sn)) (.sn)
def m_need_list : Fn := fnOf 2 (run tb_need_list code_need_list).s
theorem chk_need_list : chkSs 80 cc_need_list (defBody (top 10)) code_need_list = true := by decide +kernel
theorem sc_need_list : FnScope ((["thing", "what"] : List PySem.Str)) ((["thing", "what"] : List PySem.Str)) (defScope (top 10)) := ⟨rfl, rfl, rfl, by decide +kernel, rfl, by decide +kernel, by decide +kernel⟩
def cc_need_integers : CC := { N := (["thing", "what", "one_part"] : List PySem.Str), sc := defScope (top 14), bn := bnAll, fnn := [("need_integer", 2), ("need_list", 2)] }
def tb_need_integers : Tb := { tab := tabN, fs := [fz m_need_integer, fz m_need_list] }
def code_need_integers : Ev.Code := .sq (.sx (.cal 1 (.cns (.var 0) (.cns (.var 1) (.nil))))) (.sq (.fr (.ie (.var 0)) (.gn 2) (.sq (.sx (.cal 0 (.cns (.var 2) (.cns (.js (.jc (.cst (.str ("each part of " : Str))) (.jc (.fmt (.var 1)) (.jn)))) (.nil))))) (.sn))) (.sn))
def m_need_integers : Fn := fnOf 3 (run tb_need_integers code_need_integers).s
theorem chk_need_integers : chkSs 80 cc_need_integers (defBody (top 14)) code_need_integers = true := by decide +kernel
theorem sc_need_integers : FnScope ((["thing", "what", "one_part"] : List PySem.Str)) ((["thing", "what"] : List PySem.Str)) (defScope (top 14)) := ⟨rfl, rfl, rfl, by decide +kernel, rfl, by decide +kernel, by decide +kernel⟩
def cc_table_kinds : CC := { N := (["web", "start", "period", "slopes", "rows", "ranks", "table_lists", "table_list"] : List PySem.Str), sc := defScope (top 76), bn := bnAll, fnn := [("need_integers", 2), ("need_list", 2), ("need_integer", 2), ("need_web", 1)] }
def tb_table_kinds : Tb := { tab := tabN, fs := [fz m_need_integers, fz m_need_list, fz m_need_integer, fz m_need_web] }
def code_table_kinds : Ev.Code := .sq (.sx (.cal 3 (.cns (.var 0) (.nil)))) (.sq (.sx (.cal 2 (.cns (.var 1) (.cns (.cst (.str ("the start" : Str))) (.nil))))) (.sq (.sx (.cal 2 (.cns (.var 2) (.cns (.cst (.str ("the period" : Str))) (.nil))))) (.sq (.sx (.cal 0 (.cns (.var 3) (.cns (.cst (.str ("slopes" : Str))) (.nil))))) (.sq (.fr (.ie (.tup (.cns (.var 4) (.cns (.var 5) (.nil))))) (.gn 6) (.sq (.sx (.cal 1 (.cns (.var 6) (.cns (.cst (.str ("the rows of a table" : Str))) (.nil))))) (.sq (.fr (.ie (.var 6)) (.gn 7) (.sq (.sx (.cal 0 (.cns (.var 7) (.cns (.cst (.str ("a row of a table" : Str))) (.nil))))) (.sn))) (.sn)))) (.sn)))))
def m_table_kinds : Fn := fnOf 8 (run tb_table_kinds code_table_kinds).s
theorem chk_table_kinds : chkSs 80 cc_table_kinds (defBody (top 76)) code_table_kinds = true := by decide +kernel
theorem sc_table_kinds : FnScope ((["web", "start", "period", "slopes", "rows", "ranks", "table_lists", "table_list"] : List PySem.Str)) ((["web", "start", "period", "slopes", "rows", "ranks"] : List PySem.Str)) (defScope (top 76)) := ⟨rfl, rfl, rfl, by decide +kernel, rfl, by decide +kernel, by decide +kernel⟩
def cc_m_Tableu__initu_ : CC := { N := (["self", "web", "start", "period", "slopes", "rows", "ranks", "table_list"] : List PySem.Str), sc := defScope (mth 78 1), bn := bnAll, fnn := [("need_small_web", 1), ("table_numbers", 6), ("table_kinds", 6)], fdn := (["_ranks", "_rows", "_slopes", "_period", "_start", "_web"] : List PySem.Str) }
def tb_m_Tableu__initu_ : Tb := { tab := tabN, fs := [fz m_need_small_web, fz m_table_numbers, fz m_table_kinds], fds := [[(1, 1)], [(1, 2)], [(1, 3)], [(1, 0)], [(1, 4)], [(1, 5)]] }
def code_m_Tableu__initu_ : Ev.Code := .sq (.sx (.cal 2 (.cns (.var 1) (.cns (.var 2) (.cns (.var 3) (.cns (.var 4) (.cns (.var 5) (.cns (.var 6) (.nil))))))))) (.sq (.sx (.cal 1 (.cns (.var 1) (.cns (.var 2) (.cns (.var 3) (.cns (.var 4) (.cns (.var 5) (.cns (.var 6) (.nil))))))))) (.sq (.sx (.cal 0 (.cns (.var 1) (.nil)))) (.sq (.fd 5 (.var 1) (.var 0)) (.sq (.fd 4 (.var 2) (.var 0)) (.sq (.fd 3 (.var 3) (.var 0)) (.sq (.fd 2 (.bi 8 (.cns (.var 4) (.nil))) (.var 0)) (.sq (.fd 1 (.bi 8 (.cns (.com [7] (.ie (.var 5)) (.gn 7) (.ty) (.bi 8 (.cns (.var 7) (.nil)))) (.nil))) (.var 0)) (.sq (.fd 0 (.bi 8 (.cns (.com [7] (.ie (.var 6)) (.gn 7) (.ty) (.bi 8 (.cns (.var 7) (.nil)))) (.nil))) (.var 0)) (.sn)))))))))
def m_m_Tableu__initu_ : Fn := fnOf 8 (run tb_m_Tableu__initu_ code_m_Tableu__initu_).s
theorem chk_m_Tableu__initu_ : chkSs 80 cc_m_Tableu__initu_ (defBody (mth 78 1)) code_m_Tableu__initu_ = true := by decide +kernel
theorem sc_m_Tableu__initu_ : FnScope ((["self", "web", "start", "period", "slopes", "rows", "ranks", "table_list"] : List PySem.Str)) ((["self", "web", "start", "period", "slopes", "rows", "ranks"] : List PySem.Str)) (defScope (mth 78 1)) := ⟨rfl, rfl, rfl, by decide +kernel, rfl, by decide +kernel, by decide +kernel⟩
def cc_fall_out : CC := { N := (["web", "k", "row", "dues", "left", "ranks", "turn", "raised", "leaving", "v"] : List PySem.Str), sc := defScope (top 57), bn := bnAll, fnn := [("price_at", 4), ("due_row", 2)], atn := (["size", "dues"] : List PySem.Str) }
def tb_fall_out : Tb := { tab := tabN, fs := [fz m_price_at, fz m_due_row], ats := [[(0, .prop m_p_Web_size)], [(0, .prop m_p_Web_dues)]] }
def code_fall_out : Ev.Code := .sq (.st (.gn 3) (.cal 1 (.cns (.att 1 (.var 0)) (.cns (.var 1) (.nil))))) (.sq (.st (.gn 4) (.com [9] (.i1 (.att 0 (.var 0))) (.gn 9) (.tv (.cmp 2 (.ix (.var 2) (.var 9)) (.ix (.var 3) (.var 9)))) (.var 9))) (.sq (.nw 5 (.com [9] (.i1 (.att 0 (.var 0))) (.gn 9) (.ty) (.ife (.tv (.cmp 2 (.ix (.var 2) (.var 9)) (.ix (.var 3) (.var 9)))) (.cst .non) (.cst (.int 0))))) (.sq (.st (.gn 6) (.cst (.int 0))) (.sq (.wh (.tt (.cst (.bl true))) (.sq (.au 0 6 (.cst (.int 1))) (.sq (.st (.gn 7) (.com [9] (.i1 (.att 0 (.var 0))) (.gn 9) (.ty) (.ife (.tv (.cmp 8 (.var 9) (.var 4))) (.bnN 0 (.ix (.var 2) (.var 9)) (.cst (.int 1))) (.ix (.var 2) (.var 9))))) (.sq (.st (.gn 8) (.com [9] (.ie (.var 4)) (.gn 9) (.tv (.cmp 3 (.cal 0 (.cns (.var 0) (.cns (.var 1) (.cns (.var 7) (.cns (.var 9) (.nil)))))) (.ix (.var 2) (.var 9)))) (.var 9))) (.sq (.sf (.tn (.tt (.var 8))) (.sq (.rt (.tup (.cns (.bi 8 (.cns (.var 5) (.nil))) (.cns (.bi 8 (.cns (.var 4) (.nil))) (.nil))))) (.sn)) (.sn)) (.sq (.fr (.ie (.var 8)) (.gn 9) (.sq (.sb (.var 6) (.var 5) (.var 9)) (.sn))) (.sq (.st (.gn 4) (.com [9] (.ie (.var 4)) (.gn 9) (.tv (.cmp 9 (.var 9) (.var 8))) (.var 9))) (.sn)))))))) (.sn)))))
def m_fall_out : Fn := fnOf 10 (run tb_fall_out code_fall_out).s
theorem chk_fall_out : chkSs 80 cc_fall_out (defBody (top 57)) code_fall_out = true := by decide +kernel
theorem sc_fall_out : FnScope ((["web", "k", "row", "dues", "left", "ranks", "turn", "raised", "leaving", "v"] : List PySem.Str)) ((["web", "k", "row"] : List PySem.Str)) (defScope (top 57)) := ⟨rfl, rfl, rfl, by decide +kernel, rfl, by decide +kernel, by decide +kernel⟩
def cc_least_ranks : CC := { N := (["web", "rows", "known", "k"] : List PySem.Str), sc := defScope (top 68), bn := bnAll, fnn := [("fall_out", 3)] }
def tb_least_ranks : Tb := { tab := tabN, fs := [fz m_fall_out] }
def code_least_ranks : Ev.Code := .sq (.sf (.tv (.cmp 9 (.var 3) (.var 2))) (.sq (.sb (.ix (.cal 0 (.cns (.var 0) (.cns (.var 3) (.cns (.ix (.var 1) (.var 3)) (.nil))))) (.cst (.int 0))) (.var 2) (.var 3)) (.sn)) (.sn)) (.sq (.rt (.ix (.var 2) (.var 3))) (.sn))
def m_least_ranks : Fn := fnOf 4 (run tb_least_ranks code_least_ranks).s
theorem chk_least_ranks : chkSs 80 cc_least_ranks (defBody (top 68)) code_least_ranks = true := by decide +kernel
theorem sc_least_ranks : FnScope ((["web", "rows", "known", "k"] : List PySem.Str)) ((["web", "rows", "known", "k"] : List PySem.Str)) (defScope (top 68)) := ⟨rfl, rfl, rfl, by decide +kernel, rfl, by decide +kernel, by decide +kernel⟩
def cc_slope_orders : CC := { N := (["web", "row", "slopes", "stand", "lo", "hi", "least", "greatest", "w"] : List PySem.Str), sc := defScope (top 61), bn := bnAll, fnn := [("price_high", 3), ("price_low", 3)], atn := (["second", "first"] : List PySem.Str) }
def tb_slope_orders : Tb := { tab := tabN, fs := [fz m_price_high, fz m_price_low], ats := [[(0, .prop m_p_Web_second)], [(0, .prop m_p_Web_first)]] }
def code_slope_orders : Ev.Code := .sq (.st (.gn 4) (.cal 1 (.cns (.var 0) (.cns (.var 1) (.cns (.var 3) (.nil)))))) (.sq (.st (.gn 5) (.cal 0 (.cns (.var 0) (.cns (.var 1) (.cns (.var 3) (.nil)))))) (.sq (.st (.gn 6) (.cal 1 (.cns (.var 0) (.cns (.var 2) (.cns (.var 3) (.nil)))))) (.sq (.st (.gn 7) (.cal 0 (.cns (.var 0) (.cns (.var 2) (.cns (.var 3) (.nil)))))) (.sq (.sf (.tt (.bi 5 (.cns (.com [8] (.ie (.ix (.att 1 (.var 0)) (.var 3))) (.gn 8) (.ty) (.an (.cmp 0 (.ix (.var 1) (.var 8)) (.var 4)) (.cmp 1 (.ix (.var 2) (.var 8)) (.var 6)))) (.nil)))) (.sq (.rt (.cst (.bl false))) (.sn)) (.sn)) (.sq (.sf (.tt (.bi 5 (.cns (.com [8] (.ie (.ix (.att 0 (.var 0)) (.var 3))) (.gn 8) (.ty) (.an (.cmp 0 (.ix (.var 1) (.var 8)) (.var 5)) (.cmp 1 (.ix (.var 2) (.var 8)) (.var 7)))) (.nil)))) (.sq (.rt (.cst (.bl false))) (.sn)) (.sn)) (.sq (.sf (.tv (.cmp 2 (.var 6) (.var 7))) (.sq (.rt (.cmp 2 (.var 4) (.var 5))) (.sn)) (.sn)) (.sq (.sf (.tv (.cmp 4 (.var 6) (.var 7))) (.sq (.rt (.cmp 4 (.var 4) (.var 5))) (.sn)) (.sn)) (.sq (.rt (.cst (.bl true))) (.sn)))))))))
def m_slope_orders : Fn := fnOf 9 (run tb_slope_orders code_slope_orders).s
theorem chk_slope_orders : chkSs 80 cc_slope_orders (defBody (top 61)) code_slope_orders = true := by decide +kernel
theorem sc_slope_orders : FnScope ((["web", "row", "slopes", "stand", "lo", "hi", "least", "greatest", "w"] : List PySem.Str)) ((["web", "row", "slopes", "stand"] : List PySem.Str)) (defScope (top 61)) := ⟨rfl, rfl, rfl, by decide +kernel, rfl, by decide +kernel, by decide +kernel⟩
def cc_slope_twice : CC := { N := (["web", "m", "slopes", "stand", "least", "greatest"] : List PySem.Str), sc := defScope (top 60), bn := bnAll, fnn := [("price_high", 3), ("price_low", 3)], atn := (["marks", "first"] : List PySem.Str) }
def tb_slope_twice : Tb := { tab := tabN, fs := [fz m_price_high, fz m_price_low], ats := [[(0, .prop m_p_Web_marks)], [(0, .prop m_p_Web_first)]] }
def code_slope_twice : Ev.Code := .sq (.sf (.tn (.tt (.ix (.att 1 (.var 0)) (.var 3)))) (.sq (.rt (.bnN 1 (.cst (.int 2)) (.var 1))) (.sn)) (.sn)) (.sq (.st (.gn 4) (.cal 1 (.cns (.var 0) (.cns (.var 2) (.cns (.var 3) (.nil)))))) (.sq (.st (.gn 5) (.cal 0 (.cns (.var 0) (.cns (.var 2) (.cns (.var 3) (.nil)))))) (.sq (.sf (.tv (.cmp 0 (.ix (.att 0 (.var 0)) (.var 3)) (.cst (.int 1)))) (.sq (.rt (.bnN 0 (.var 4) (.bi 3 (.cns (.var 4) (.cns (.var 5) (.nil)))))) (.sn)) (.sn)) (.sq (.rt (.bnN 0 (.bi 2 (.cns (.var 4) (.cns (.var 5) (.nil)))) (.var 5))) (.sn)))))
def m_slope_twice : Fn := fnOf 6 (run tb_slope_twice code_slope_twice).s
theorem chk_slope_twice : chkSs 80 cc_slope_twice (defBody (top 60)) code_slope_twice = true := by decide +kernel
theorem sc_slope_twice : FnScope ((["web", "m", "slopes", "stand", "least", "greatest"] : List PySem.Str)) ((["web", "m", "slopes", "stand"] : List PySem.Str)) (defScope (top 60)) := ⟨rfl, rfl, rfl, by decide +kernel, rfl, by decide +kernel, by decide +kernel⟩
def cc_has_due_range : CC := { N := (["due"] : List PySem.Str), sc := defScope (top 18), bn := bnAll }
def tb_has_due_range : Tb := { tab := tabN }
def code_has_due_range : Ev.Code := .sq (.rt (.ro (.cmp 6 (.var 0) (.cst .non)) (.an (.cmp 8 (.ix (.var 0) (.cst (.int 0))) (.tup (.cns (.cst (.str ("chips" : Str))) (.cns (.cst (.str ("less" : Str))) (.nil))))) (.cmp 5 (.ix (.var 0) (.cst (.int 1))) (.cst (.int 0)))))) (.sn)
def m_has_due_range : Fn := fnOf 1 (run tb_has_due_range code_has_due_range).s
theorem chk_has_due_range : chkSs 80 cc_has_due_range (defBody (top 18)) code_has_due_range = true := by decide +kernel
theorem sc_has_due_range : FnScope ((["due"] : List PySem.Str)) ((["due"] : List PySem.Str)) (defScope (top 18)) := ⟨rfl, rfl, rfl, by decide +kernel, rfl, by decide +kernel, by decide +kernel⟩
def cc_need_due : CC := { N := (["due"] : List PySem.Str), sc := defScope (top 20), bn := bnAll, gln := (["GREATEST_DUE"] : List PySem.Str), fnn := [("need_up_to", 3), ("has_due_range", 1)], exn := (["WrongNumber"] : List PySem.Str) }
def tb_need_due : Tb := { tab := tabN, gl := [.int 10000000000000000000000000000000000000000], fs := [fz m_need_up_to, fz m_has_due_range], exs := [4] }
def code_need_due : Ev.Code := .sq (.sf (.tn (.tt (.cal 1 (.cns (.var 0) (.nil))))) (.sq (.rs 0 (.cst (.str ("a due's word is chips or less, its number at least 0" : Str)))) (.sn)) (.sn)) (.sq (.sf (.tv (.cmp 7 (.var 0) (.cst .non))) (.sq (.sx (.cal 0 (.cns (.ix (.var 0) (.cst (.int 1))) (.cns (.glo 0) (.cns (.cst (.str ("the number of a due" : Str))) (.nil)))))) (.sn)) (.sn)) (.sn))
def m_need_due : Fn := fnOf 1 (run tb_need_due code_need_due).s
theorem chk_need_due : chkSs 80 cc_need_due (defBody (top 20)) code_need_due = true := by decide +kernel
theorem sc_need_due : FnScope ((["due"] : List PySem.Str)) ((["due"] : List PySem.Str)) (defScope (top 20)) := ⟨rfl, rfl, rfl, by decide +kernel, rfl, by decide +kernel, by decide +kernel⟩
def cc_has_due_kind : CC := { N := (["due"] : List PySem.Str), sc := defScope (top 17), bn := bnAll, fnn := [("is_integer", 1)] }
def tb_has_due_kind : Tb := { tab := tabN, fs := [fz m_is_integer] }
def code_has_due_kind : Ev.Code := .sq (.sf (.tv (.cmp 6 (.var 0) (.cst .non))) (.sq (.rt (.cst (.bl true))) (.sn)) (.sn)) (.sq (.sf (.tor (.tn (.tt (.bi 11 (.cns (.var 0) (.cns (.tup (.cns (.tyn 3) (.cns (.tyn 4) (.nil)))) (.nil)))))) (.tv (.cmp 1 (.bi 7 (.cns (.var 0) (.nil))) (.cst (.int 2))))) (.sq (.rt (.cst (.bl false))) (.sn)) (.sn)) (.sq (.rt (.an (.bi 11 (.cns (.ix (.var 0) (.cst (.int 0))) (.cns (.tyn 2) (.nil)))) (.cal 0 (.cns (.ix (.var 0) (.cst (.int 1))) (.nil))))) (.sn)))
def m_has_due_kind : Fn := fnOf 1 (run tb_has_due_kind code_has_due_kind).s
theorem chk_has_due_kind : chkSs 80 cc_has_due_kind (defBody (top 17)) code_has_due_kind = true := by decide +kernel
theorem sc_has_due_kind : FnScope ((["due"] : List PySem.Str)) ((["due"] : List PySem.Str)) (defScope (top 17)) := ⟨rfl, rfl, rfl, by decide +kernel, rfl, by decide +kernel, by decide +kernel⟩
def cc_need_due_kind : CC := { N := (["due"] : List PySem.Str), sc := defScope (top 19), bn := bnAll, fnn := [("has_due_kind", 1)], exn := (["WrongKind"] : List PySem.Str) }
def tb_need_due_kind : Tb := { tab := tabN, fs := [fz m_has_due_kind], exs := [3] }
def code_need_due_kind : Ev.Code := .sq (.sf (.tn (.tt (.cal 0 (.cns (.var 0) (.nil))))) (.sq (.rs 0 (.cst (.str ("a due is None or a pair of a text and an integer" : Str)))) (.sn)) (.sn)) (.sn)
def m_need_due_kind : Fn := fnOf 1 (run tb_need_due_kind code_need_due_kind).s
theorem chk_need_due_kind : chkSs 80 cc_need_due_kind (defBody (top 19)) code_need_due_kind = true := by decide +kernel
theorem sc_need_due_kind : FnScope ((["due"] : List PySem.Str)) ((["due"] : List PySem.Str)) (defScope (top 19)) := ⟨rfl, rfl, rfl, by decide +kernel, rfl, by decide +kernel, by decide +kernel⟩
def cc__look : CC := { N := (["due", "number", "least", "what"] : List PySem.Str), sc := defScope (top 24), bn := bnAll, fnn := [("need_due", 1), ("need_from", 3), ("has_due_range", 1), ("need_integer", 2), ("need_due_kind", 1)], exn := (["WrongNumber"] : List PySem.Str) }
def tb__look : Tb := { tab := tabN, fs := [fz m_need_due, fz m_need_from, fz m_has_due_range, fz m_need_integer, fz m_need_due_kind], exs := [4] }
def code__look : Ev.Code := .sq (.sx (.cal 4 (.cns (.var 0) (.nil)))) (.sq (.sx (.cal 3 (.cns (.var 1) (.cns (.var 3) (.nil))))) (.sq (.sf (.tn (.tt (.cal 2 (.cns (.var 0) (.nil))))) (.sq (.rs 0 (.cst (.str ("a due's word is chips or less, its number at least 0" : Str)))) (.sn)) (.sn)) (.sq (.sx (.cal 1 (.cns (.var 1) (.cns (.var 2) (.cns (.var 3) (.nil)))))) (.sq (.sx (.cal 0 (.cns (.var 0) (.nil)))) (.sn)))))
def m__look : Fn := fnOf 4 (run tb__look code__look).s
theorem chk__look : chkSs 80 cc__look (defBody (top 24)) code__look = true := by decide +kernel
theorem sc__look : FnScope ((["due", "number", "least", "what"] : List PySem.Str)) ((["due", "number", "least", "what"] : List PySem.Str)) (defScope (top 24)) := ⟨rfl, rfl, rfl, by decide +kernel, rfl, by decide +kernel, by decide +kernel⟩
def cc_due_slope : CC := { N := (["due", "m"] : List PySem.Str), sc := defScope (top 25), bn := bnAll, fnn := [("_look", 4)] }
def tb_due_slope : Tb := { tab := tabN, fs := [fz m__look] }
def code_due_slope : Ev.Code := .sq (.sx (.cal 0 (.cns (.var 0) (.cns (.var 1) (.cns (.cst (.int 1)) (.cns (.cst (.str ("a period" : Str))) (.nil))))))) (.sq (.rt (.ife (.tan (.tv (.cmp 7 (.var 0) (.cst .non))) (.tv (.cmp 0 (.ix (.var 0) (.cst (.int 0))) (.cst (.str ("chips" : Str)))))) (.cst (.int 0)) (.var 1))) (.sn))
def m_due_slope : Fn := fnOf 2 (run tb_due_slope code_due_slope).s
theorem chk_due_slope : chkSs 80 cc_due_slope (defBody (top 25)) code_due_slope = true := by decide +kernel
theorem sc_due_slope : FnScope ((["due", "m"] : List PySem.Str)) ((["due", "m"] : List PySem.Str)) (defScope (top 25)) := ⟨rfl, rfl, rfl, by decide +kernel, rfl, by decide +kernel, by decide +kernel⟩
def cc_slope_passes : CC := { N := (["web", "row", "ranks", "m", "slopes", "stand", "own", "due", "twice"] : List PySem.Str), sc := defScope (top 62), bn := bnAll, fnn := [("slope_orders", 4), ("slope_twice", 4), ("due_slope", 2)], atn := (["first", "dues"] : List PySem.Str) }
def tb_slope_passes : Tb := { tab := tabN, fs := [fz m_slope_orders, fz m_slope_twice, fz m_due_slope], ats := [[(0, .prop m_p_Web_first)], [(0, .prop m_p_Web_dues)]] }
def code_slope_passes : Ev.Code := .sq (.st (.gn 6) (.ix (.var 4) (.var 5))) (.sq (.st (.gn 7) (.cal 2 (.cns (.ix (.att 1 (.var 0)) (.var 5)) (.cns (.var 3) (.nil))))) (.sq (.st (.gn 8) (.cal 1 (.cns (.var 0) (.cns (.var 3) (.cns (.var 4) (.cns (.var 5) (.nil))))))) (.sq (.sf (.tv (.cmp 0 (.ix (.var 2) (.var 5)) (.cst (.int 0)))) (.sq (.sf (.tor (.tv (.cmp 1 (.var 6) (.var 7))) (.tv (.cmp 4 (.bnN 1 (.cst (.int 2)) (.var 6)) (.var 8)))) (.sq (.rt (.cst (.bl false))) (.sn)) (.sn)) (.sn)) (.sq (.sf (.tor (.tv (.cmp 1 (.bnN 1 (.cst (.int 2)) (.var 6)) (.var 8))) (.tv (.cmp 4 (.var 6) (.var 7)))) (.sq (.rt (.cst (.bl false))) (.sn)) (.sn)) (.sn))) (.sq (.rt (.ro (.nt (.ix (.att 0 (.var 0)) (.var 5))) (.cal 0 (.cns (.var 0) (.cns (.var 1) (.cns (.var 4) (.cns (.var 5) (.nil)))))))) (.sn)))))
def m_slope_passes : Fn := fnOf 9 (run tb_slope_passes code_slope_passes).s
theorem chk_slope_passes : chkSs 80 cc_slope_passes (defBody (top 62)) code_slope_passes = true := by decide +kernel
theorem sc_slope_passes : FnScope ((["web", "row", "ranks", "m", "slopes", "stand", "own", "due", "twice"] : List PySem.Str)) ((["web", "row", "ranks", "m", "slopes", "stand"] : List PySem.Str)) (defScope (top 62)) := ⟨rfl, rfl, rfl, by decide +kernel, rfl, by decide +kernel, by decide +kernel⟩
def cc_least_repeats : CC := { N := (["web", "rows", "known", "start", "m", "slopes", "k", "ranks", "v", "before", "after"] : List PySem.Str), sc := defScope (top 69), bn := bnAll, fnn := [("slope_passes", 6), ("least_ranks", 4)], atn := (["size", "greatest_due"] : List PySem.Str) }
def tb_least_repeats : Tb := { tab := tabN, fs := [fz m_slope_passes, fz m_least_ranks], ats := [[(0, .prop m_p_Web_size)], [(0, .prop m_p_Web_greatest_due)]] }
def code_least_repeats : Ev.Code := .sq (.sf (.tv (.cmp 4 (.att 1 (.var 0)) (.bnN 0 (.var 3) (.cst (.int 1))))) (.sq (.rt (.cst (.bl false))) (.sn)) (.sn)) (.sq (.st (.gn 5) (.com [9, 10] (.iz (.ix (.var 1) (.var 3)) (.ix (.var 1) (.bnN 0 (.var 3) (.var 4)))) (.gt [9, 10]) (.ty) (.bin 0 (.var 10) (.var 9)))) (.sq (.fr (.i2 (.var 3) (.bnN 0 (.var 3) (.var 4))) (.gn 6) (.sq (.st (.gn 7) (.cal 1 (.cns (.var 0) (.cns (.var 1) (.cns (.var 2) (.cns (.var 6) (.nil))))))) (.sq (.fr (.i1 (.att 0 (.var 0))) (.gn 8) (.sq (.sf (.tn (.tt (.cal 0 (.cns (.var 0) (.cns (.ix (.var 1) (.var 6)) (.cns (.var 7) (.cns (.var 4) (.cns (.var 5) (.cns (.var 8) (.nil)))))))))) (.sq (.rt (.cst (.bl false))) (.sn)) (.sn)) (.sn))) (.sn)))) (.sq (.rt (.cst (.bl true))) (.sn))))
def m_least_repeats : Fn := fnOf 11 (run tb_least_repeats code_least_repeats).s
theorem chk_least_repeats : chkSs 80 cc_least_repeats (defBody (top 69)) code_least_repeats = true := by decide +kernel
theorem sc_least_repeats : FnScope ((["web", "rows", "known", "start", "m", "slopes", "k", "ranks", "v", "before", "after"] : List PySem.Str)) ((["web", "rows", "known", "start", "m"] : List PySem.Str)) (defScope (top 69)) := ⟨rfl, rfl, rfl, by decide +kernel, rfl, by decide +kernel, by decide +kernel⟩
def cc_least_start : CC := { N := (["web", "rows", "known", "most", "start", "m"] : List PySem.Str), sc := defScope (top 70), bn := bnAll, fnn := [("least_repeats", 5), ("risen", 3)], atn := (["moving"] : List PySem.Str) }
def tb_least_start : Tb := { tab := tabN, fs := [fz m_least_repeats, fz m_risen], ats := [[(0, .prop m_p_Web_moving)]] }
def code_least_start : Ev.Code := .sq (.st (.gn 3) (.bin 4 (.cst (.int 1)) (.bi 7 (.cns (.att 0 (.var 0)) (.nil))))) (.sq (.st (.gn 4) (.cst (.int 0))) (.sq (.wh (.tt (.cst (.bl true))) (.sq (.wh (.tv (.cmp 3 (.bi 7 (.cns (.var 1) (.nil))) (.bnN 0 (.var 4) (.var 3)))) (.sq (.sx (.mt 0 (.var 1) (.cns (.cal 1 (.cns (.var 0) (.cns (.bi 7 (.cns (.var 1) (.nil))) (.cns (.ix (.var 1) (.neg (.cst (.int 1)))) (.nil))))) (.nil)))) (.sn))) (.sq (.fr (.i2 (.cst (.int 1)) (.bnN 0 (.var 3) (.cst (.int 1)))) (.gn 5) (.sq (.sf (.tt (.cal 0 (.cns (.var 0) (.cns (.var 1) (.cns (.var 2) (.cns (.var 4) (.cns (.var 5) (.nil)))))))) (.sq (.rt (.tup (.cns (.var 4) (.cns (.var 5) (.nil))))) (.sn)) (.sn)) (.sn))) (.sq (.au 0 4 (.cst (.int 1))) (.sn))))) (.sn)))
def m_least_start : Fn := fnOf 6 (run tb_least_start code_least_start).s
theorem chk_least_start : chkSs 80 cc_least_start (defBody (top 70)) code_least_start = true := by decide +kernel
theorem sc_least_start : FnScope ((["web", "rows", "known", "most", "start", "m"] : List PySem.Str)) ((["web", "rows", "known"] : List PySem.Str)) (defScope (top 70)) := ⟨rfl, rfl, rfl, by decide +kernel, rfl, by decide +kernel, by decide +kernel⟩
def cc_least_parts : CC := { N := (["web", "rows", "known", "start", "m", "slopes", "ranks", "v", "k"] : List PySem.Str), sc := defScope (top 71), bn := bnAll, fnn := [("least_ranks", 4), ("least_start", 3), ("risen", 3)], atn := (["size"] : List PySem.Str) }
def tb_least_parts : Tb := { tab := tabN, fs := [fz m_least_ranks, fz m_least_start, fz m_risen], ats := [[(0, .prop m_p_Web_size)]] }
def code_least_parts : Ev.Code := .sq (.nw 1 (.lst (.cns (.cal 2 (.cns (.var 0) (.cns (.cst (.int 0)) (.cns (.bnN 1 (.tup (.cns (.cst (.int 0)) (.nil))) (.att 0 (.var 0))) (.nil))))) (.nil)))) (.sq (.dc 2) (.sq (.st (.gt [3, 4]) (.cal 1 (.cns (.var 0) (.cns (.var 1) (.cns (.var 2) (.nil)))))) (.sq (.st (.gn 5) (.com [7] (.i1 (.att 0 (.var 0))) (.gn 7) (.ty) (.bin 0 (.ix (.ix (.var 1) (.bnN 0 (.var 3) (.var 4))) (.var 7)) (.ix (.ix (.var 1) (.var 3)) (.var 7))))) (.sq (.st (.gn 6) (.com [8] (.i1 (.bnN 0 (.var 3) (.var 4))) (.gn 8) (.ty) (.cal 0 (.cns (.var 0) (.cns (.var 1) (.cns (.var 2) (.cns (.var 8) (.nil)))))))) (.sq (.rt (.tup (.cns (.var 3) (.cns (.var 4) (.cns (.var 5) (.cns (.sl (.var 1) (.no) (.yes (.bnN 0 (.var 3) (.var 4)))) (.cns (.var 6) (.nil)))))))) (.sn))))))
def m_least_parts : Fn := fnOf 9 (run tb_least_parts code_least_parts).s
theorem chk_least_parts : chkSs 80 cc_least_parts (defBody (top 71)) code_least_parts = true := by decide +kernel
theorem sc_least_parts : FnScope ((["web", "rows", "known", "start", "m", "slopes", "ranks", "v", "k"] : List PySem.Str)) ((["web"] : List PySem.Str)) (defScope (top 71)) := ⟨rfl, rfl, rfl, by decide +kernel, rfl, by decide +kernel, by decide +kernel⟩
def cc_c_Table_least : CC := { N := (["cls", "web", "start", "period", "slopes", "rows", "ranks"] : List PySem.Str), sc := defScope (mth 78 2), bn := bnAll, fnn := [("least_parts", 1), ("need_small_web", 1), ("need_web", 1)], cvn := [6] }
def tb_c_Table_least : Tb := { tab := tabN, fs := [fz m_least_parts, fz m_need_small_web, fz m_need_web], cvs := [[(1, fz (mkNew 1 6 (dfl m_m_Tableu__initu_ [])))]] }
def code_c_Table_least : Ev.Code := .sq (.sx (.cal 2 (.cns (.var 1) (.nil)))) (.sq (.sx (.cal 1 (.cns (.var 1) (.nil)))) (.sq (.st (.gt [2, 3, 4, 5, 6]) (.cal 0 (.cns (.var 1) (.nil)))) (.sq (.rt (.cv 0 0 (.cns (.var 1) (.cns (.var 2) (.cns (.var 3) (.cns (.var 4) (.cns (.var 5) (.cns (.var 6) (.nil))))))))) (.sn))))
def m_c_Table_least : Fn := fnOf 7 (run tb_c_Table_least code_c_Table_least).s
theorem chk_c_Table_least : chkSs 80 cc_c_Table_least (defBody (mth 78 2)) code_c_Table_least = true := by decide +kernel
theorem sc_c_Table_least : FnScope ((["cls", "web", "start", "period", "slopes", "rows", "ranks"] : List PySem.Str)) ((["cls", "web"] : List PySem.Str)) (defScope (mth 78 2)) := ⟨rfl, rfl, rfl, by decide +kernel, rfl, by decide +kernel, by decide +kernel⟩
def cc_kept_due : CC := { N := (["due"] : List PySem.Str), sc := defScope (top 21), bn := bnAll }
def tb_kept_due : Tb := { tab := tabN }
def code_kept_due : Ev.Code := .sq (.rt (.ife (.tv (.cmp 6 (.var 0) (.cst .non))) (.cst .non) (.tup (.cns (.ix (.var 0) (.cst (.int 0))) (.cns (.ix (.var 0) (.cst (.int 1))) (.nil)))))) (.sn)
def m_kept_due : Fn := fnOf 1 (run tb_kept_due code_kept_due).s
theorem chk_kept_due : chkSs 80 cc_kept_due (defBody (top 21)) code_kept_due = true := by decide +kernel
theorem sc_kept_due : FnScope ((["due"] : List PySem.Str)) ((["due"] : List PySem.Str)) (defScope (top 21)) := ⟨rfl, rfl, rfl, by decide +kernel, rfl, by decide +kernel, by decide +kernel⟩
def cc__look_stand : CC := { N := (["size", "first", "second", "mark", "due", "one_step"] : List PySem.Str), sc := defScope (top 31), bn := bnAll, fnn := [("has_due_range", 1)], exn := (["WrongWeb"] : List PySem.Str) }
def tb__look_stand : Tb := { tab := tabN, fs := [fz m_has_due_range], exs := [5] }
def code__look_stand : Ev.Code := .sq (.sf (.tv (.cmp 1 (.bi 12 (.cns (.var 1) (.nil))) (.bi 12 (.cns (.var 2) (.nil))))) (.sq (.rs 0 (.cst (.str ("a stand has steps for both hands or for none" : Str)))) (.sn)) (.sn)) (.sq (.fr (.ie (.bnN 0 (.lis (.cns (.var 1) (.nil))) (.lis (.cns (.var 2) (.nil))))) (.gn 5) (.sq (.sf (.tor (.tv (.cmp 2 (.var 5) (.cst (.int 0)))) (.tv (.cmp 5 (.var 5) (.var 0)))) (.sq (.rs 0 (.cst (.str ("a step leads to a stand of the web" : Str)))) (.sn)) (.sn)) (.sn))) (.sq (.sf (.tan (.tv (.cmp 1 (.var 3) (.cst (.int 1)))) (.tv (.cmp 1 (.var 3) (.cst (.int 2))))) (.sq (.rs 0 (.cst (.str ("a mark is 1 or 2" : Str)))) (.sn)) (.sn)) (.sq (.sf (.tn (.tt (.cal 0 (.cns (.var 4) (.nil))))) (.sq (.rs 0 (.cst (.str ("a due's word is chips or less, its number at least 0" : Str)))) (.sn)) (.sn)) (.sn))))
def m__look_stand : Fn := fnOf 6 (run tb__look_stand code__look_stand).s
theorem chk__look_stand : chkSs 80 cc__look_stand (defBody (top 31)) code__look_stand = true := by decide +kernel
theorem sc__look_stand : FnScope ((["size", "first", "second", "mark", "due", "one_step"] : List PySem.Str)) ((["size", "first", "second", "mark", "due"] : List PySem.Str)) (defScope (top 31)) := ⟨rfl, rfl, rfl, by decide +kernel, rfl, by decide +kernel, by decide +kernel⟩
def cc__look_web : CC := { N := (["first", "second", "marks", "dues", "size", "at", "one_due"] : List PySem.Str), sc := defScope (top 32), bn := bnAll, gln := (["GREATEST_DUE", "MOST_STANDS"] : List PySem.Str), fnn := [("need_up_to", 3), ("_look_stand", 5)], exn := (["WrongWeb"] : List PySem.Str) }
def tb__look_web : Tb := { tab := tabN, gl := [.int 10000000000000000000000000000000000000000, .int 60], fs := [fz m_need_up_to, fz m__look_stand], exs := [5] }
def code__look_web : Ev.Code := .sq (.st (.gn 4) (.bi 7 (.cns (.var 2) (.nil)))) (.sq (.sf (.tor (.tv (.cmp 0 (.var 4) (.cst (.int 0)))) (.tor (.tv (.cmp 1 (.bi 7 (.cns (.var 0) (.nil))) (.var 4))) (.tor (.tv (.cmp 1 (.bi 7 (.cns (.var 1) (.nil))) (.var 4))) (.tv (.cmp 1 (.bi 7 (.cns (.var 3) (.nil))) (.var 4)))))) (.sq (.rs 0 (.cst (.str ("the four lists of a web have one length, at least 1" : Str)))) (.sn)) (.sn)) (.sq (.fr (.i1 (.var 4)) (.gn 5) (.sq (.sx (.cal 1 (.cns (.var 4) (.cns (.ix (.var 0) (.var 5)) (.cns (.ix (.var 1) (.var 5)) (.cns (.ix (.var 2) (.var 5)) (.cns (.ix (.var 3) (.var 5)) (.nil)))))))) (.sn))) (.sq (.sx (.cal 0 (.cns (.var 4) (.cns (.glo 1) (.cns (.cst (.str ("the number of stands" : Str))) (.nil)))))) (.sq (.fr (.ie (.var 3)) (.gn 6) (.sq (.sf (.tv (.cmp 7 (.var 6) (.cst .non))) (.sq (.sx (.cal 0 (.cns (.ix (.var 6) (.cst (.int 1))) (.cns (.glo 0) (.cns (.cst (.str ("the number of a due" : Str))) (.nil)))))) (.sn)) (.sn)) (.sn))) (.sn)))))
def m__look_web : Fn := fnOf 7 (run tb__look_web code__look_web).s
theorem chk__look_web : chkSs 80 cc__look_web (defBody (top 32)) code__look_web = true := by decide +kernel
theorem sc__look_web : FnScope ((["first", "second", "marks", "dues", "size", "at", "one_due"] : List PySem.Str)) ((["first", "second", "marks", "dues"] : List PySem.Str)) (defScope (top 32)) := ⟨rfl, rfl, rfl, by decide +kernel, rfl, by decide +kernel, by decide +kernel⟩
def cc__look_kinds : CC := { N := (["first", "second", "marks", "dues", "lists", "one_due", "one_list"] : List PySem.Str), sc := defScope (top 30), bn := bnAll, fnn := [("has_due_kind", 1), ("need_list", 2), ("need_integers", 2)], exn := (["WrongKind"] : List PySem.Str) }
def tb__look_kinds : Tb := { tab := tabN, fs := [fz m_has_due_kind, fz m_need_list, fz m_need_integers], exs := [3] }
def code__look_kinds : Ev.Code := .sq (.fr (.ie (.tup (.cns (.var 0) (.cns (.var 1) (.nil))))) (.gn 4) (.sq (.sx (.cal 1 (.cns (.var 4) (.cns (.cst (.str ("the steps of a web" : Str))) (.nil))))) (.sq (.fr (.ie (.var 4)) (.gn 6) (.sq (.sx (.cal 2 (.cns (.var 6) (.cns (.cst (.str ("the steps of a stand" : Str))) (.nil))))) (.sn))) (.sn)))) (.sq (.sx (.cal 2 (.cns (.var 2) (.cns (.cst (.str ("the marks" : Str))) (.nil))))) (.sq (.sx (.cal 1 (.cns (.var 3) (.cns (.cst (.str ("the dues" : Str))) (.nil))))) (.sq (.fr (.ie (.var 3)) (.gn 5) (.sq (.sf (.tn (.tt (.cal 0 (.cns (.var 5) (.nil))))) (.sq (.rs 0 (.cst (.str ("a due is None or a pair of a text and an integer" : Str)))) (.sn)) (.sn)) (.sn))) (.sn))))
def m__look_kinds : Fn := fnOf 7 (run tb__look_kinds code__look_kinds).s
theorem chk__look_kinds : chkSs 80 cc__look_kinds (defBody (top 30)) code__look_kinds = true := by decide +kernel
theorem sc__look_kinds : FnScope ((["first", "second", "marks", "dues", "lists", "one_due", "one_list"] : List PySem.Str)) ((["first", "second", "marks", "dues"] : List PySem.Str)) (defScope (top 30)) := ⟨rfl, rfl, rfl, by decide +kernel, rfl, by decide +kernel, by decide +kernel⟩
def cc_m_Webu__initu_ : CC := { N := (["self", "first", "second", "marks", "dues", "web_steps", "web_due", "web_at"] : List PySem.Str), sc := defScope (mth 33 1), bn := bnAll, fnn := [("kept_due", 1), ("_look_web", 4), ("_look_kinds", 4)], atn := (["_dues"] : List PySem.Str), fdn := (["_greatest_due", "_moving", "_ends", "_dues", "_marks", "_second", "_first"] : List PySem.Str) }
def tb_m_Webu__initu_ : Tb := { tab := tabN, fs := [fz m_kept_due, fz m__look_web, fz m__look_kinds], ats := [[(0, .slot 0)]], fds := [[(0, 3)], [(0, 5)], [(0, 1)], [(0, 0)], [(0, 4)], [(0, 6)], [(0, 2)]] }
def code_m_Webu__initu_ : Ev.Code := .sq (.sx (.cal 2 (.cns (.var 1) (.cns (.var 2) (.cns (.var 3) (.cns (.var 4) (.nil))))))) (.sq (.sx (.cal 1 (.cns (.var 1) (.cns (.var 2) (.cns (.var 3) (.cns (.var 4) (.nil))))))) (.sq (.fd 6 (.bi 8 (.cns (.com [5] (.ie (.var 1)) (.gn 5) (.ty) (.bi 8 (.cns (.srt (.var 5)) (.nil)))) (.nil))) (.var 0)) (.sq (.fd 5 (.bi 8 (.cns (.com [5] (.ie (.var 2)) (.gn 5) (.ty) (.bi 8 (.cns (.srt (.var 5)) (.nil)))) (.nil))) (.var 0)) (.sq (.fd 4 (.bi 8 (.cns (.var 3) (.nil))) (.var 0)) (.sq (.fd 3 (.bi 8 (.cns (.com [6] (.ie (.var 4)) (.gn 6) (.ty) (.cal 0 (.cns (.var 6) (.nil)))) (.nil))) (.var 0)) (.sq (.fd 2 (.bi 8 (.cns (.com [7] (.i1 (.bi 7 (.cns (.var 3) (.nil)))) (.gn 7) (.tn (.tt (.ix (.var 1) (.var 7)))) (.var 7)) (.nil))) (.var 0)) (.sq (.fd 1 (.bi 8 (.cns (.com [7] (.i1 (.bi 7 (.cns (.var 3) (.nil)))) (.gn 7) (.tt (.ix (.var 1) (.var 7))) (.var 7)) (.nil))) (.var 0)) (.sq (.fd 0 (.bi 1 (.cns (.bnN 0 (.lst (.cns (.cst (.int 0)) (.nil))) (.com [6] (.ie (.att 0 (.var 0))) (.gn 6) (.tv (.cmp 7 (.var 6) (.cst .non))) (.ix (.var 6) (.cst (.int 1))))) (.nil))) (.var 0)) (.sn)))))))))
def m_m_Webu__initu_ : Fn := fnOf 8 (run tb_m_Webu__initu_ code_m_Webu__initu_).s
theorem chk_m_Webu__initu_ : chkSs 80 cc_m_Webu__initu_ (defBody (mth 33 1)) code_m_Webu__initu_ = true := by decide +kernel
theorem sc_m_Webu__initu_ : FnScope ((["self", "first", "second", "marks", "dues", "web_steps", "web_due", "web_at"] : List PySem.Str)) ((["self", "first", "second", "marks", "dues"] : List PySem.Str)) (defScope (mth 33 1)) := ⟨rfl, rfl, rfl, by decide +kernel, rfl, by decide +kernel, by decide +kernel⟩
def cc_need_made : CC := { N := (["count", "mark", "most"] : List PySem.Str), sc := defScope (top 34), bn := bnAll, fnn := [("need_up_to", 3), ("need_between", 4), ("need_from", 3), ("need_integer", 2)] }
def tb_need_made : Tb := { tab := tabN, fs := [fz m_need_up_to, fz m_need_between, fz m_need_from, fz m_need_integer] }
def code_need_made : Ev.Code := .sq (.sx (.cal 3 (.cns (.var 0) (.cns (.cst (.str ("the size of a web" : Str))) (.nil))))) (.sq (.sx (.cal 3 (.cns (.var 1) (.cns (.cst (.str ("a mark" : Str))) (.nil))))) (.sq (.sx (.cal 2 (.cns (.var 0) (.cns (.cst (.int 1)) (.cns (.cst (.str ("the size of a web" : Str))) (.nil)))))) (.sq (.sx (.cal 1 (.cns (.var 1) (.cns (.cst (.int 1)) (.cns (.cst (.int 2)) (.cns (.cst (.str ("a mark" : Str))) (.nil))))))) (.sq (.sx (.cal 0 (.cns (.var 0) (.cns (.var 2) (.cns (.cst (.str ("the size of a web" : Str))) (.nil)))))) (.sn)))))
def m_need_made : Fn := fnOf 3 (run tb_need_made code_need_made).s
theorem chk_need_made : chkSs 80 cc_need_made (defBody (top 34)) code_need_made = true := by decide +kernel
theorem sc_need_made : FnScope ((["count", "mark", "most"] : List PySem.Str)) ((["count", "mark", "most"] : List PySem.Str)) (defScope (top 34)) := ⟨rfl, rfl, rfl, by decide +kernel, rfl, by decide +kernel, by decide +kernel⟩
def cc_c_Web_line : CC := { N := (["cls", "n", "mark", "steps", "at"] : List PySem.Str), sc := defScope (mth 33 3), bn := bnAll, gln := (["MOST_STANDS"] : List PySem.Str), fnn := [("need_made", 3)], cvn := [4] }
def tb_c_Web_line : Tb := { tab := tabN, gl := [.int 60], fs := [fz m_need_made], cvs := [[(0, fz (mkNew 0 7 (dfl m_m_Webu__initu_ [])))]] }
def code_c_Web_line : Ev.Code := .sq (.sx (.cal 0 (.cns (.var 1) (.cns (.var 2) (.cns (.bin 0 (.glo 0) (.cst (.int 1))) (.nil)))))) (.sq (.st (.gn 3) (.bnN 0 (.bnN 0 (.lst (.cns (.lst (.nil)) (.nil))) (.com [4] (.i2 (.cst (.int 1)) (.var 1)) (.gn 4) (.ty) (.lst (.cns (.bin 0 (.var 4) (.cst (.int 1))) (.cns (.bnN 0 (.var 4) (.cst (.int 1))) (.nil)))))) (.lst (.cns (.lst (.nil)) (.nil))))) (.sq (.rt (.cv 0 0 (.cns (.var 3) (.cns (.var 3) (.cns (.bnN 1 (.lst (.cns (.var 2) (.nil))) (.bnN 0 (.var 1) (.cst (.int 1)))) (.cns (.bnN 0 (.lst (.cns (.tup (.cns (.cst (.str ("chips" : Str))) (.cns (.cst (.int 0)) (.nil)))) (.nil))) (.bnN 1 (.lst (.cns (.cst .non) (.nil))) (.var 1))) (.nil))))))) (.sn)))
def m_c_Web_line : Fn := fnOf 5 (run tb_c_Web_line code_c_Web_line).s
theorem chk_c_Web_line : chkSs 80 cc_c_Web_line (defBody (mth 33 3)) code_c_Web_line = true := by decide +kernel
theorem sc_c_Web_line : FnScope ((["cls", "n", "mark", "steps", "at"] : List PySem.Str)) ((["cls", "n", "mark"] : List PySem.Str)) (defScope (mth 33 3)) := ⟨rfl, rfl, rfl, by decide +kernel, rfl, by decide +kernel, by decide +kernel⟩
def cc_golden_root : CC := { N := (["number", "root", "better"] : List PySem.Str), sc := defScope (top 46), bn := bnAll }
def tb_golden_root : Tb := { tab := tabN }
def code_golden_root : Ev.Code := .sq (.sf (.tv (.cmp 0 (.var 0) (.cst (.int 0)))) (.sq (.rt (.cst (.int 0))) (.sn)) (.sn)) (.sq (.st (.gn 1) (.bin 4 (.cst (.int 1)) (.bin 1 (.bnN 0 (.bit (.var 0)) (.cst (.int 1))) (.cst (.int 2))))) (.sq (.st (.gn 2) (.bin 1 (.bnN 0 (.var 1) (.bin 1 (.var 0) (.var 1))) (.cst (.int 2)))) (.sq (.wh (.tv (.cmp 2 (.var 2) (.var 1))) (.sq (.st (.gn 1) (.var 2)) (.sq (.st (.gn 2) (.bin 1 (.bnN 0 (.var 1) (.bin 1 (.var 0) (.var 1))) (.cst (.int 2)))) (.sn)))) (.sq (.rt (.var 1)) (.sn)))))
def m_golden_root : Fn := fnOf 3 (run tb_golden_root code_golden_root).s
theorem chk_golden_root : chkSs 80 cc_golden_root (defBody (top 46)) code_golden_root = true := by decide +kernel
theorem sc_golden_root : FnScope ((["number", "root", "better"] : List PySem.Str)) ((["number"] : List PySem.Str)) (defScope (top 46)) := ⟨rfl, rfl, rfl, by decide +kernel, rfl, by decide +kernel, by decide +kernel⟩
def cc_golden_base : CC := { N := (["b"] : List PySem.Str), sc := defScope (top 47), bn := bnAll, fnn := [("golden_root", 1)] }
def tb_golden_base : Tb := { tab := tabN, fs := [fz m_golden_root] }
def code_golden_base : Ev.Code := .sq (.rt (.bin 1 (.bin 0 (.cal 0 (.cns (.bnN 1 (.bnN 1 (.cst (.int 5)) (.var 0)) (.var 0)) (.nil))) (.var 0)) (.cst (.int 2)))) (.sn)
def m_golden_base : Fn := fnOf 1 (run tb_golden_base code_golden_base).s
theorem chk_golden_base : chkSs 80 cc_golden_base (defBody (top 47)) code_golden_base = true := by decide +kernel
theorem sc_golden_base : FnScope ((["b"] : List PySem.Str)) ((["b"] : List PySem.Str)) (defScope (top 47)) := ⟨rfl, rfl, rfl, by decide +kernel, rfl, by decide +kernel, by decide +kernel⟩
def cc_golden_number : CC := { N := (["mark", "b", "stand", "number"] : List PySem.Str), sc := defScope (top 48), bn := bnAll, gln := (["FAR_CHIPS"] : List PySem.Str), fnn := [("golden_base", 1), ("need_up_to", 3), ("need_between", 4), ("need_from", 3), ("need_integer", 2)] }
def tb_golden_number : Tb := { tab := tabN, gl := [.int 10000000000000000000000000000000000000000], fs := [fz m_golden_base, fz m_need_up_to, fz m_need_between, fz m_need_from, fz m_need_integer] }
def code_golden_number : Ev.Code := .sq (.sx (.cal 4 (.cns (.var 0) (.cns (.cst (.str ("the mark" : Str))) (.nil))))) (.sq (.sx (.cal 4 (.cns (.var 1) (.cns (.cst (.str ("b" : Str))) (.nil))))) (.sq (.sx (.cal 4 (.cns (.var 2) (.cns (.cst (.str ("the stand" : Str))) (.nil))))) (.sq (.sx (.cal 2 (.cns (.var 0) (.cns (.cst (.int 1)) (.cns (.cst (.int 2)) (.cns (.cst (.str ("the mark" : Str))) (.nil))))))) (.sq (.sx (.cal 3 (.cns (.var 1) (.cns (.cst (.int 0)) (.cns (.cst (.str ("b" : Str))) (.nil)))))) (.sq (.sx (.cal 2 (.cns (.var 2) (.cns (.cst (.int 1)) (.cns (.cst (.int 2)) (.cns (.cst (.str ("the stand" : Str))) (.nil))))))) (.sq (.sx (.cal 1 (.cns (.var 1) (.cns (.glo 0) (.cns (.cst (.str ("b" : Str))) (.nil)))))) (.sq (.sf (.tv (.cmp 0 (.var 0) (.cst (.int 1)))) (.sq (.st (.gn 3) (.cal 0 (.cns (.var 1) (.nil)))) (.sq (.rt (.ife (.tv (.cmp 0 (.var 2) (.cst (.int 1)))) (.var 3) (.bnN 0 (.var 1) (.var 3)))) (.sn))) (.sn)) (.sq (.st (.gn 3) (.bnN 0 (.cal 0 (.cns (.bnN 0 (.var 1) (.cst (.int 1))) (.nil))) (.cst (.int 1)))) (.sq (.rt (.ife (.tv (.cmp 0 (.var 2) (.cst (.int 1)))) (.var 3) (.bnN 0 (.bnN 0 (.var 1) (.cst (.int 1))) (.var 3)))) (.sn))))))))))
def m_golden_number : Fn := fnOf 4 (run tb_golden_number code_golden_number).s
theorem chk_golden_number : chkSs 80 cc_golden_number (defBody (top 48)) code_golden_number = true := by decide +kernel
theorem sc_golden_number : FnScope ((["mark", "b", "stand", "number"] : List PySem.Str)) ((["mark", "b", "stand"] : List PySem.Str)) (defScope (top 48)) := ⟨rfl, rfl, rfl, by decide +kernel, rfl, by decide +kernel, by decide +kernel⟩
def cc__law_whole : CC := { N := (["_law_thing"] : List PySem.Str), sc := defScope (top 82), bn := bnAll }
def tb__law_whole : Tb := { tab := tabN }
def code__law_whole : Ev.Code := .sq (.rt (.an (.bi 11 (.cns (.var 0) (.cns (.tyn 0) (.nil)))) (.nt (.bi 11 (.cns (.var 0) (.cns (.tyn 1) (.nil))))))) (.sn)
def m__law_whole : Fn := fnOf 1 (run tb__law_whole code__law_whole).s
theorem chk__law_whole : chkSs 80 cc__law_whole (defBody (top 82)) code__law_whole = true := by decide +kernel
theorem sc__law_whole : FnScope ((["_law_thing"] : List PySem.Str)) ((["_law_thing"] : List PySem.Str)) (defScope (top 82)) := ⟨rfl, rfl, rfl, by decide +kernel, rfl, by decide +kernel, by decide +kernel⟩
def cc_repeats_until : CC := { N := (["start", "period", "rise", "b"] : List PySem.Str), sc := defScope (top 49), bn := bnAll, gln := (["REPEAT_PERIOD", "REPEAT_START"] : List PySem.Str), fnn := [("golden_base", 1), ("need_up_to", 3), ("need_from", 3), ("need_integer", 2)] }
def tb_repeats_until : Tb := { tab := tabN, gl := [.int 1000, .int 1000000], fs := [fz m_golden_base, fz m_need_up_to, fz m_need_from, fz m_need_integer] }
def code_repeats_until : Ev.Code := .sq (.sx (.cal 3 (.cns (.var 0) (.cns (.cst (.str ("the start" : Str))) (.nil))))) (.sq (.sx (.cal 3 (.cns (.var 1) (.cns (.cst (.str ("the period" : Str))) (.nil))))) (.sq (.sx (.cal 3 (.cns (.var 2) (.cns (.cst (.str ("the rise" : Str))) (.nil))))) (.sq (.sx (.cal 2 (.cns (.var 0) (.cns (.cst (.int 0)) (.cns (.cst (.str ("the start" : Str))) (.nil)))))) (.sq (.sx (.cal 2 (.cns (.var 1) (.cns (.cst (.int 1)) (.cns (.cst (.str ("the period" : Str))) (.nil)))))) (.sq (.sx (.cal 1 (.cns (.var 0) (.cns (.glo 1) (.cns (.cst (.str ("the start" : Str))) (.nil)))))) (.sq (.sx (.cal 1 (.cns (.var 1) (.cns (.glo 0) (.cns (.cst (.str ("the period" : Str))) (.nil)))))) (.sq (.st (.gn 3) (.var 0)) (.sq (.wh (.tv (.cmp 0 (.cal 0 (.cns (.bnN 0 (.var 3) (.var 1)) (.nil))) (.bnN 0 (.cal 0 (.cns (.var 3) (.nil))) (.var 2)))) (.sq (.au 0 3 (.cst (.int 1))) (.sn))) (.sq (.rt (.var 3)) (.sn))))))))))
def m_repeats_until : Fn := fnOf 4 (run tb_repeats_until code_repeats_until).s
theorem chk_repeats_until : chkSs 80 cc_repeats_until (defBody (top 49)) code_repeats_until = true := by decide +kernel
theorem sc_repeats_until : FnScope ((["start", "period", "rise", "b"] : List PySem.Str)) ((["start", "period", "rise"] : List PySem.Str)) (defScope (top 49)) := ⟨rfl, rfl, rfl, by decide +kernel, rfl, by decide +kernel, by decide +kernel⟩
def cc__law_pot : CC := { N := (["_law_script", "_law_pot_here", "_law_place", "_law_number", "_law_shift", "_law_turn", "_law_mixed"] : List PySem.Str), sc := defScope (top 80), bn := bnAll }
def tb__law_pot : Tb := { tab := tabN }
def code__law_pot : Ev.Code := .sq (.nw 1 (.lst (.nil))) (.sq (.fr (.i1 (.bi 2 (.cns (.bi 7 (.cns (.var 0) (.nil))) (.cns (.cst (.int 63)) (.nil))))) (.gn 2) (.sq (.st (.gn 3) (.bi 10 (.cns (.ix (.var 0) (.var 2)) (.nil)))) (.sq (.st (.gn 4) (.cst (.int 11))) (.sq (.sf (.tv (.cmp 2 (.var 3) (.cst (.int 0)))) (.sq (.st (.gn 3) (.bin 0 (.cst (.int 0)) (.var 3))) (.sq (.st (.gn 4) (.cst (.int 503))) (.sn))) (.sn)) (.sq (.sf (.tv (.cmp 5 (.var 3) (.bin 3 (.cst (.int 10)) (.cst (.int 18))))) (.sq (.fr (.i1 (.cst (.int 48))) (.gn 5) (.sq (.sf (.tv (.cmp 4 (.var 3) (.cst (.int 0)))) (.sq (.sx (.mt 0 (.var 1) (.cns (.bin 2 (.bi 10 (.cns (.var 3) (.nil))) (.cst (.int 30))) (.nil)))) (.sq (.st (.gn 3) (.bin 1 (.var 3) (.cst (.int 30)))) (.sn))) (.sn)) (.sn))) (.sn)) (.sq (.st (.gn 6) (.bin 2 (.bi 10 (.cns (.bnN 0 (.bnN 0 (.bnN 1 (.var 3) (.cst (.int 7919))) (.bnN 1 (.var 2) (.cst (.int 104729)))) (.var 4)) (.nil))) (.cst (.int 998244353)))) (.sq (.fr (.i1 (.cst (.int 5))) (.gn 5) (.sq (.st (.gn 6) (.bin 2 (.bi 10 (.cns (.bnN 0 (.bnN 0 (.bnN 0 (.bnN 1 (.var 6) (.var 6)) (.bnN 1 (.var 5) (.cst (.int 31337)))) (.bnN 1 (.var 2) (.cst (.int 5)))) (.cst (.int 3))) (.nil))) (.cst (.int 998244353)))) (.sq (.sx (.mt 0 (.var 1) (.cns (.var 6) (.nil)))) (.sn)))) (.sn)))) (.sn)))))) (.sq (.sx (.mt 2 (.var 1) (.nil))) (.sq (.rt (.var 1)) (.sn))))
def m__law_pot : Fn := fnOf 7 (run tb__law_pot code__law_pot).s
theorem chk__law_pot : chkSs 80 cc__law_pot (defBody (top 80)) code__law_pot = true := by decide +kernel
theorem sc__law_pot : FnScope ((["_law_script", "_law_pot_here", "_law_place", "_law_number", "_law_shift", "_law_turn", "_law_mixed"] : List PySem.Str)) ((["_law_script"] : List PySem.Str)) (defScope (top 80)) := ⟨rfl, rfl, rfl, by decide +kernel, rfl, by decide +kernel, by decide +kernel⟩
def cc_law : CC := { N := (["_law_script", "_law_pot_here", "_law_start", "_law_period", "_law_rise", "_law_told", "_law_look", "_law_b", "_law_made", "_law_table", "_law_low", "_law_part_here", "_law_turn"] : List PySem.Str), sc := defScope (top 84), bn := bnAll, fnn := [("_law_part", 1), ("purse_against", 4), ("_law_draw", 2), ("golden_number", 3), ("_law_whole", 1), ("repeats_until", 3), ("_law_pot", 1)], cmn := [("Table", "least", 1), ("Web", "line", 1)], atn := (["slopes", "period"] : List PySem.Str) }
def tb_law : Tb := { tab := tabN, fs := [fz m__law_part, fz m_purse_against, fz m__law_draw, fz m_golden_number, fz m__law_whole, fz m_repeats_until, m__law_pot], cms := [(1, fz m_c_Table_least), (0, fz (dfl m_c_Web_line [.int 1]))], ats := [[(1, .prop m_p_Table_slopes)], [(1, .prop m_p_Table_period)]] }
def code_law : Ev.Code := .sq (.st (.gn 1) (.cal 6 (.cns (.var 0) (.nil)))) (.sq (.st (.gn 2) (.bnN 1 (.cal 2 (.cns (.var 1) (.cns (.cst (.int 30)) (.nil)))) (.bnN 0 (.cst (.int 1)) (.bnN 1 (.cal 2 (.cns (.var 1) (.cns (.cst (.int 30)) (.nil)))) (.cal 2 (.cns (.var 1) (.cns (.cst (.int 30)) (.nil)))))))) (.sq (.st (.gn 3) (.ix (.lst (.cns (.cst (.int 1)) (.cns (.cst (.int 2)) (.cns (.cst (.int 3)) (.cns (.cst (.int 5)) (.cns (.cst (.int 8)) (.cns (.cst (.int 13)) (.cns (.cst (.int 21)) (.cns (.cst (.int 34)) (.cns (.cst (.int 55)) (.nil))))))))))) (.cal 2 (.cns (.var 1) (.cns (.cst (.int 9)) (.nil)))))) (.sq (.sf (.tv (.cmp 0 (.cal 2 (.cns (.var 1) (.cns (.cst (.int 3)) (.nil)))) (.cst (.int 2)))) (.sq (.st (.gn 3) (.bnN 0 (.bnN 0 (.cst (.int 1)) (.cal 2 (.cns (.var 1) (.cns (.cst (.int 30)) (.nil))))) (.cal 2 (.cns (.var 1) (.cns (.cst (.int 30)) (.nil)))))) (.sn)) (.sn)) (.sq (.st (.gn 4) (.bnN 0 (.cal 0 (.cns (.var 3) (.nil))) (.cal 2 (.cns (.var 1) (.cns (.cst (.int 2)) (.nil)))))) (.sq (.sf (.tv (.cmp 0 (.cal 2 (.cns (.var 1) (.cns (.cst (.int 10)) (.nil)))) (.cst (.int 9)))) (.sq (.st (.gn 4) (.bin 0 (.cal 2 (.cns (.var 1) (.cns (.cst (.int 30)) (.nil)))) (.cst (.int 5)))) (.sn)) (.sn)) (.sq (.st (.gn 5) (.cal 5 (.cns (.var 2) (.cns (.var 3) (.cns (.var 4) (.nil)))))) (.sq (.sf (.tor (.tn (.tt (.cal 4 (.cns (.var 5) (.nil))))) (.tor (.tv (.cmp 2 (.var 5) (.var 2))) (.tv (.cmp 4 (.var 5) (.bnN 0 (.var 2) (.bnN 1 (.bnN 1 (.cst (.int 3)) (.var 3)) (.var 3))))))) (.sq (.rt (.cst (.bl false))) (.sn)) (.sn)) (.sq (.sf (.tv (.cmp 0 (.cal 0 (.cns (.bnN 0 (.var 5) (.var 3)) (.nil))) (.bnN 0 (.cal 0 (.cns (.var 5) (.nil))) (.var 4)))) (.sq (.rt (.cst (.bl false))) (.sn)) (.sn)) (.sq (.st (.gn 6) (.bnN 0 (.lst (.cns (.var 2) (.cns (.bin 0 (.var 5) (.cst (.int 1))) (.cns (.bin 1 (.bnN 0 (.var 2) (.var 5)) (.cst (.int 2))) (.nil))))) (.com [12] (.i1 (.cst (.int 10))) (.gn 12) (.ty) (.bnN 0 (.var 2) (.cal 2 (.cns (.var 1) (.cns (.cst (.int 30)) (.nil)))))))) (.sq (.fr (.ie (.var 6)) (.gn 7) (.sq (.sf (.tan (.tv (.cmp 5 (.var 7) (.var 2))) (.tan (.tv (.cmp 2 (.var 7) (.var 5))) (.tv (.cmp 1 (.cal 0 (.cns (.bnN 0 (.var 7) (.var 3)) (.nil))) (.bnN 0 (.cal 0 (.cns (.var 7) (.nil))) (.var 4)))))) (.sq (.rt (.cst (.bl false))) (.sn)) (.sn)) (.sn))) (.sq (.fr (.i2 (.var 2) (.bi 2 (.cns (.var 5) (.cns (.bnN 0 (.var 2) (.cst (.int 40))) (.nil))))) (.gn 7) (.sq (.sf (.tv (.cmp 1 (.cal 0 (.cns (.bnN 0 (.var 7) (.var 3)) (.nil))) (.bnN 0 (.cal 0 (.cns (.var 7) (.nil))) (.var 4)))) (.sq (.rt (.cst (.bl false))) (.sn)) (.sn)) (.sq (.sf (.tv (.cmp 1 (.cal 3 (.cns (.cst (.int 1)) (.cns (.var 7) (.cns (.cst (.int 1)) (.nil))))) (.cal 0 (.cns (.var 7) (.nil))))) (.sq (.rt (.cst (.bl false))) (.sn)) (.sn)) (.sn)))) (.sq (.st (.gn 8) (.cmt 1 (.cns (.cst (.int 3)) (.nil)))) (.sq (.st (.gn 9) (.cmt 0 (.cns (.var 8) (.nil)))) (.sq (.sf (.tor (.tv (.cmp 1 (.att 1 (.var 9)) (.cst (.int 3)))) (.tv (.cmp 1 (.att 0 (.var 9)) (.tup (.cns (.cst (.int 0)) (.cns (.cst (.int 1)) (.cns (.cst (.int 2)) (.cns (.cst (.int 3)) (.nil))))))))) (.sq (.rt (.cst (.bl false))) (.sn)) (.sn)) (.sq (.st (.gn 7) (.cal 2 (.cns (.var 1) (.cns (.cst (.int 30)) (.nil))))) (.sq (.sf (.tor (.tv (.cmp 1 (.cal 1 (.cns (.var 8) (.cns (.cst (.int 1)) (.cns (.var 7) (.cns (.cst (.int 60)) (.nil)))))) (.bin 1 (.var 7) (.cst (.int 2))))) (.tv (.cmp 1 (.cal 1 (.cns (.var 8) (.cns (.cst (.int 2)) (.cns (.var 7) (.cns (.cst (.int 60)) (.nil)))))) (.bnN 1 (.cst (.int 2)) (.var 7))))) (.sq (.rt (.cst (.bl false))) (.sn)) (.sn)) (.sq (.st (.gn 10) (.bin 1 (.var 7) (.cst (.int 2)))) (.sq (.st (.gn 11) (.cal 0 (.cns (.var 7) (.nil)))) (.sq (.sf (.tor (.tv (.cmp 2 (.var 11) (.var 10))) (.tv (.cmp 4 (.bnN 0 (.var 7) (.var 11)) (.bnN 1 (.cst (.int 2)) (.var 7))))) (.sq (.rt (.cst (.bl false))) (.sn)) (.sn)) (.sq (.rt (.an (.cmp 0 (.cmp 4 (.var 11) (.var 10)) (.ro (.cmp 0 (.var 7) (.cst (.int 5))) (.ro (.cmp 0 (.var 7) (.cst (.int 7))) (.cmp 5 (.var 7) (.cst (.int 9)))))) (.cmp 0 (.cmp 2 (.bnN 0 (.var 7) (.var 11)) (.bnN 1 (.cst (.int 2)) (.var 7))) (.cmp 5 (.var 7) (.cst (.int 1)))))) (.sn)))))))))))))))))))))
def m_law : Fn := fnOf 13 (run tb_law code_law).s
theorem chk_law : chkSs 80 cc_law (defBody (top 84)) code_law = true := by decide +kernel
theorem sc_law : FnScope ((["_law_script", "_law_pot_here", "_law_start", "_law_period", "_law_rise", "_law_told", "_law_look", "_law_b", "_law_made", "_law_table", "_law_low", "_law_part_here", "_law_turn"] : List PySem.Str)) ((["_law_script"] : List PySem.Str)) (defScope (top 84)) := ⟨rfl, rfl, rfl, by decide +kernel, rfl, by decide +kernel, by decide +kernel⟩
def dd__law_part : He5.DefA := ⟨fun K => He.ga K "_law_part", "_law_part", "_law_part", defArgs (top 83), defBody (top 83), defScope (top 83), [], []⟩
def dd_p_Web_size : He5.DefA := ⟨fun K => He5.wf K (He.ga K "Web") "property" "size", "size", "Web.size", defArgs (mth 33 5), defBody (mth 33 5), defScope (mth 33 5), [], []⟩
def dd_half_of : He5.DefA := ⟨fun K => He.ga K "half_of", "half_of", "half_of", defArgs (top 27), defBody (top 27), defScope (top 27), [], []⟩
def dd_p_Web_second : He5.DefA := ⟨fun K => He5.wf K (He.ga K "Web") "property" "second", "second", "Web.second", defArgs (mth 33 7), defBody (mth 33 7), defScope (mth 33 7), [], []⟩
def dd_price_high : He5.DefA := ⟨fun K => He.ga K "price_high", "price_high", "price_high", defArgs (top 41), defBody (top 41), defScope (top 41), [], []⟩
def dd_p_Web_first : He5.DefA := ⟨fun K => He5.wf K (He.ga K "Web") "property" "first", "first", "Web.first", defArgs (mth 33 6), defBody (mth 33 6), defScope (mth 33 6), [], []⟩
def dd_price_low : He5.DefA := ⟨fun K => He.ga K "price_low", "price_low", "price_low", defArgs (top 40), defBody (top 40), defScope (top 40), [], []⟩
def dd_p_Web_marks : He5.DefA := ⟨fun K => He5.wf K (He.ga K "Web") "property" "marks", "marks", "Web.marks", defArgs (mth 33 8), defBody (mth 33 8), defScope (mth 33 8), [], []⟩
def dd_price_at : He5.DefA := ⟨fun K => He.ga K "price_at", "price_at", "price_at", defArgs (top 42), defBody (top 42), defScope (top 42), [], []⟩
def dd_due_at : He5.DefA := ⟨fun K => He.ga K "due_at", "due_at", "due_at", defArgs (top 22), defBody (top 22), defScope (top 22), [], []⟩
def dd_due_row : He5.DefA := ⟨fun K => He.ga K "due_row", "due_row", "due_row", defArgs (top 23), defBody (top 23), defScope (top 23), [], []⟩
def dd_p_Web_dues : He5.DefA := ⟨fun K => He5.wf K (He.ga K "Web") "property" "dues", "dues", "Web.dues", defArgs (mth 33 9), defBody (mth 33 9), defScope (mth 33 9), [], []⟩
def dd_rise_of : He5.DefA := ⟨fun K => He.ga K "rise_of", "rise_of", "rise_of", defArgs (top 51), defBody (top 51), defScope (top 51), [], []⟩
def dd_risen : He5.DefA := ⟨fun K => He.ga K "risen", "risen", "risen", defArgs (top 52), defBody (top 52), defScope (top 52), [], []⟩
def dd_need_up_to : He5.DefA := ⟨fun K => He.ga K "need_up_to", "need_up_to", "need_up_to", defArgs (top 13), defBody (top 13), defScope (top 13), [], []⟩
def dd_need_from : He5.DefA := ⟨fun K => He.ga K "need_from", "need_from", "need_from", defArgs (top 11), defBody (top 11), defScope (top 11), [], []⟩
def dd_need_between : He5.DefA := ⟨fun K => He.ga K "need_between", "need_between", "need_between", defArgs (top 12), defBody (top 12), defScope (top 12), [], []⟩
def dd_need_stand : He5.DefA := ⟨fun K => He.ga K "need_stand", "need_stand", "need_stand", defArgs (top 36), defBody (top 36), defScope (top 36), [], []⟩
def dd_is_integer : He5.DefA := ⟨fun K => He.ga K "is_integer", "is_integer", "is_integer", defArgs (top 8), defBody (top 8), defScope (top 8), [], []⟩
def dd_need_integer : He5.DefA := ⟨fun K => He.ga K "need_integer", "need_integer", "need_integer", defArgs (top 9), defBody (top 9), defScope (top 9), [], []⟩
def dd_need_web : He5.DefA := ⟨fun K => He.ga K "need_web", "need_web", "need_web", defArgs (top 35), defBody (top 35), defScope (top 35), [], []⟩
def dd_purse_against : He5.DefA := ⟨fun K => He.ga K "purse_against", "purse_against", "purse_against", defArgs (top 55), defBody (top 55), defScope (top 55), [], []⟩
def dd__law_draw : He5.DefA := ⟨fun K => He.ga K "_law_draw", "_law_draw", "_law_draw", defArgs (top 81), defBody (top 81), defScope (top 81), [], []⟩
def dd_p_Table_slopes : He5.DefA := ⟨fun K => He5.wf K (He.ga K "Table") "property" "slopes", "slopes", "Table.slopes", defArgs (mth 78 7), defBody (mth 78 7), defScope (mth 78 7), [], []⟩
def dd_p_Table_period : He5.DefA := ⟨fun K => He5.wf K (He.ga K "Table") "property" "period", "period", "Table.period", defArgs (mth 78 6), defBody (mth 78 6), defScope (mth 78 6), [], []⟩
def dd_p_Web_greatest_due : He5.DefA := ⟨fun K => He5.wf K (He.ga K "Web") "property" "greatest_due", "greatest_due", "Web.greatest_due", defArgs (mth 33 12), defBody (mth 33 12), defScope (mth 33 12), [], []⟩
def dd_p_Web_moving : He5.DefA := ⟨fun K => He5.wf K (He.ga K "Web") "property" "moving", "moving", "Web.moving", defArgs (mth 33 11), defBody (mth 33 11), defScope (mth 33 11), [], []⟩
def dd_need_small_web : He5.DefA := ⟨fun K => He.ga K "need_small_web", "need_small_web", "need_small_web", defArgs (top 67), defBody (top 67), defScope (top 67), [], []⟩
def dd_need_row : He5.DefA := ⟨fun K => He.ga K "need_row", "need_row", "need_row", defArgs (top 39), defBody (top 39), defScope (top 39), [.non], []⟩
def dd_need_parts_from : He5.DefA := ⟨fun K => He.ga K "need_parts_from", "need_parts_from", "need_parts_from", defArgs (top 59), defBody (top 59), defScope (top 59), [], []⟩
def dd_table_numbers : He5.DefA := ⟨fun K => He.ga K "table_numbers", "table_numbers", "table_numbers", defArgs (top 77), defBody (top 77), defScope (top 77), [], []⟩
def dd_need_list : He5.DefA := ⟨fun K => He.ga K "need_list", "need_list", "need_list", defArgs (top 10), defBody (top 10), defScope (top 10), [], []⟩
def dd_need_integers : He5.DefA := ⟨fun K => He.ga K "need_integers", "need_integers", "need_integers", defArgs (top 14), defBody (top 14), defScope (top 14), [], []⟩
def dd_table_kinds : He5.DefA := ⟨fun K => He.ga K "table_kinds", "table_kinds", "table_kinds", defArgs (top 76), defBody (top 76), defScope (top 76), [], []⟩
def dd_m_Tableu__initu_ : He5.DefA := ⟨fun K => He.ma K (He.ga K "Table") "__init__", "__init__", "Table.__init__", defArgs (mth 78 1), defBody (mth 78 1), defScope (mth 78 1), [], []⟩
def dd_fall_out : He5.DefA := ⟨fun K => He.ga K "fall_out", "fall_out", "fall_out", defArgs (top 57), defBody (top 57), defScope (top 57), [], []⟩
def dd_least_ranks : He5.DefA := ⟨fun K => He.ga K "least_ranks", "least_ranks", "least_ranks", defArgs (top 68), defBody (top 68), defScope (top 68), [], []⟩
def dd_slope_orders : He5.DefA := ⟨fun K => He.ga K "slope_orders", "slope_orders", "slope_orders", defArgs (top 61), defBody (top 61), defScope (top 61), [], []⟩
def dd_slope_twice : He5.DefA := ⟨fun K => He.ga K "slope_twice", "slope_twice", "slope_twice", defArgs (top 60), defBody (top 60), defScope (top 60), [], []⟩
def dd_has_due_range : He5.DefA := ⟨fun K => He.ga K "has_due_range", "has_due_range", "has_due_range", defArgs (top 18), defBody (top 18), defScope (top 18), [], []⟩
def dd_need_due : He5.DefA := ⟨fun K => He.ga K "need_due", "need_due", "need_due", defArgs (top 20), defBody (top 20), defScope (top 20), [], []⟩
def dd_has_due_kind : He5.DefA := ⟨fun K => He.ga K "has_due_kind", "has_due_kind", "has_due_kind", defArgs (top 17), defBody (top 17), defScope (top 17), [], []⟩
def dd_need_due_kind : He5.DefA := ⟨fun K => He.ga K "need_due_kind", "need_due_kind", "need_due_kind", defArgs (top 19), defBody (top 19), defScope (top 19), [], []⟩
def dd__look : He5.DefA := ⟨fun K => He.ga K "_look", "_look", "_look", defArgs (top 24), defBody (top 24), defScope (top 24), [], []⟩
def dd_due_slope : He5.DefA := ⟨fun K => He.ga K "due_slope", "due_slope", "due_slope", defArgs (top 25), defBody (top 25), defScope (top 25), [], []⟩
def dd_slope_passes : He5.DefA := ⟨fun K => He.ga K "slope_passes", "slope_passes", "slope_passes", defArgs (top 62), defBody (top 62), defScope (top 62), [], []⟩
def dd_least_repeats : He5.DefA := ⟨fun K => He.ga K "least_repeats", "least_repeats", "least_repeats", defArgs (top 69), defBody (top 69), defScope (top 69), [], []⟩
def dd_least_start : He5.DefA := ⟨fun K => He.ga K "least_start", "least_start", "least_start", defArgs (top 70), defBody (top 70), defScope (top 70), [], []⟩
def dd_least_parts : He5.DefA := ⟨fun K => He.ga K "least_parts", "least_parts", "least_parts", defArgs (top 71), defBody (top 71), defScope (top 71), [], []⟩
def dd_c_Table_least : He5.DefA := ⟨fun K => He5.wf K (He.ga K "Table") "classmethod" "least", "least", "Table.least", defArgs (mth 78 2), defBody (mth 78 2), defScope (mth 78 2), [], []⟩
def dd_kept_due : He5.DefA := ⟨fun K => He.ga K "kept_due", "kept_due", "kept_due", defArgs (top 21), defBody (top 21), defScope (top 21), [], []⟩
def dd__look_stand : He5.DefA := ⟨fun K => He.ga K "_look_stand", "_look_stand", "_look_stand", defArgs (top 31), defBody (top 31), defScope (top 31), [], []⟩
def dd__look_web : He5.DefA := ⟨fun K => He.ga K "_look_web", "_look_web", "_look_web", defArgs (top 32), defBody (top 32), defScope (top 32), [], []⟩
def dd__look_kinds : He5.DefA := ⟨fun K => He.ga K "_look_kinds", "_look_kinds", "_look_kinds", defArgs (top 30), defBody (top 30), defScope (top 30), [], []⟩
def dd_m_Webu__initu_ : He5.DefA := ⟨fun K => He.ma K (He.ga K "Web") "__init__", "__init__", "Web.__init__", defArgs (mth 33 1), defBody (mth 33 1), defScope (mth 33 1), [], []⟩
def dd_need_made : He5.DefA := ⟨fun K => He.ga K "need_made", "need_made", "need_made", defArgs (top 34), defBody (top 34), defScope (top 34), [], []⟩
def dd_c_Web_line : He5.DefA := ⟨fun K => He5.wf K (He.ga K "Web") "classmethod" "line", "line", "Web.line", defArgs (mth 33 3), defBody (mth 33 3), defScope (mth 33 3), [.int 1], []⟩
def dd_golden_root : He5.DefA := ⟨fun K => He.ga K "golden_root", "golden_root", "golden_root", defArgs (top 46), defBody (top 46), defScope (top 46), [], []⟩
def dd_golden_base : He5.DefA := ⟨fun K => He.ga K "golden_base", "golden_base", "golden_base", defArgs (top 47), defBody (top 47), defScope (top 47), [], []⟩
def dd_golden_number : He5.DefA := ⟨fun K => He.ga K "golden_number", "golden_number", "golden_number", defArgs (top 48), defBody (top 48), defScope (top 48), [], []⟩
def dd__law_whole : He5.DefA := ⟨fun K => He.ga K "_law_whole", "_law_whole", "_law_whole", defArgs (top 82), defBody (top 82), defScope (top 82), [], []⟩
def dd_repeats_until : He5.DefA := ⟨fun K => He.ga K "repeats_until", "repeats_until", "repeats_until", defArgs (top 49), defBody (top 49), defScope (top 49), [], []⟩
def dd__law_pot : He5.DefA := ⟨fun K => He.ga K "_law_pot", "_law_pot", "_law_pot", defArgs (top 80), defBody (top 80), defScope (top 80), [], []⟩
def dd_law : He5.DefA := ⟨fun K => He.ga K "law", "law", "law", defArgs (top 84), defBody (top 84), defScope (top 84), [], []⟩
def fnl : List He5.DefA := [dd__law_part, dd_p_Web_size, dd_half_of, dd_p_Web_second, dd_price_high, dd_p_Web_first, dd_price_low, dd_p_Web_marks, dd_price_at, dd_due_at, dd_due_row, dd_p_Web_dues, dd_rise_of, dd_risen, dd_need_up_to, dd_need_from, dd_need_between, dd_need_stand, dd_is_integer, dd_need_integer, dd_need_web, dd_purse_against, dd__law_draw, dd_p_Table_slopes, dd_p_Table_period, dd_p_Web_greatest_due, dd_p_Web_moving, dd_need_small_web, dd_need_row, dd_need_parts_from, dd_table_numbers, dd_need_list, dd_need_integers, dd_table_kinds, dd_m_Tableu__initu_, dd_fall_out, dd_least_ranks, dd_slope_orders, dd_slope_twice, dd_has_due_range, dd_need_due, dd_has_due_kind, dd_need_due_kind, dd__look, dd_due_slope, dd_slope_passes, dd_least_repeats, dd_least_start, dd_least_parts, dd_c_Table_least, dd_kept_due, dd__look_stand, dd__look_web, dd__look_kinds, dd_m_Webu__initu_, dd_need_made, dd_c_Web_line, dd_golden_root, dd_golden_base, dd_golden_number, dd__law_whole, dd_repeats_until, dd__law_pot, dd_law]
def fal : List (PySem.W.Frag → Bool) := [fun K => (He.Fa.free "min").ok K, fun K => (He.Fa.free "max").ok K, fun K => (He.Fa.free "sum").ok K, fun K => (He.Fa.free "any").ok K, fun K => (He.Fa.free "all").ok K, fun K => (He.Fa.free "len").ok K, fun K => (He.Fa.free "tuple").ok K, fun K => (He.Fa.free "abs").ok K, fun K => (He.Fa.free "int").ok K, fun K => (He.Fa.free "isinstance").ok K, fun K => (He.Fa.free "bool").ok K, fun K => (He.Fa.free "list").ok K, fun K => (He.Fa.free "sorted").ok K, fun K => (He.Fa.free "set").ok K, fun K => (He.Fa.free "range").ok K, fun K => (He.Fa.free "zip").ok K, fun K => (He.Fa.free "str").ok K, fun K => tabB K (cad K) 2 subN, fun K => (He.Fa.glo "Web").ok K, fun K => (He.Fa.int "AGAINST_CHIPS" (2000)).ok K] ++ [fun K => (He.Fa.int "SMALL_DUE" (9)).ok K, fun K => (He.Fa.int "SMALL_MOVING" (6)).ok K, fun K => (He.Fa.int "SMALL_STANDS" (10)).ok K, fun K => (He.Fa.int "GREATEST_DUE" (10000000000000000000000000000000000000000)).ok K, fun K => (He.Fa.int "MOST_STANDS" (60)).ok K, fun K => (He.Fa.int "FAR_CHIPS" (10000000000000000000000000000000000000000)).ok K, fun K => (He.Fa.int "REPEAT_PERIOD" (1000)).ok K, fun K => (He.Fa.int "REPEAT_START" (1000000)).ok K, fun K => sclsB K (He.ga K "Web"), fun K => slotB K (He.ga K "Web") "_marks" 4, fun K => slotB K (He.ga K "Web") "_second" 6, fun K => propB K (He.ga K "Web") "second", fun K => slotB K (He.ga K "Web") "_first" 2, fun K => propB K (He.ga K "Web") "first", fun K => (He.Fa.glo "price_low").ok K, fun K => PySem.W.keepIn K (.ref (He.ga K "price_low")), fun K => (He.Fa.glo "price_high").ok K, fun K => PySem.W.keepIn K (.ref (He.ga K "price_high")), fun K => (He.Fa.glo "half_of").ok K, fun K => PySem.W.keepIn K (.ref (He.ga K "half_of"))] ++ [fun K => propB K (He.ga K "Web") "marks", fun K => (He.Fa.glo "due_at").ok K, fun K => PySem.W.keepIn K (.ref (He.ga K "due_at")), fun K => slotB K (He.ga K "Web") "_dues" 0, fun K => (He.Fa.glo "due_row").ok K, fun K => PySem.W.keepIn K (.ref (He.ga K "due_row")), fun K => (He.Fa.glo "price_at").ok K, fun K => PySem.W.keepIn K (.ref (He.ga K "price_at")), fun K => propB K (He.ga K "Web") "dues", fun K => propB K (He.ga K "Web") "size", fun K => (He.Fa.glo "rise_of").ok K, fun K => PySem.W.keepIn K (.ref (He.ga K "rise_of")), fun K => excB K (He.ga K "TooMuch"), fun K => (He.Fa.glo "TooMuch").ok K, fun K => excB K (He.ga K "WrongNumber"), fun K => (He.Fa.glo "WrongNumber").ok K, fun K => (He.Fa.glo "need_between").ok K, fun K => PySem.W.keepIn K (.ref (He.ga K "need_between")), fun K => (He.Fa.glo "is_integer").ok K, fun K => PySem.W.keepIn K (.ref (He.ga K "is_integer"))] ++ [fun K => excB K (He.ga K "WrongKind"), fun K => (He.Fa.glo "WrongKind").ok K, fun K => (He.Fa.glo "need_web").ok K, fun K => PySem.W.keepIn K (.ref (He.ga K "need_web")), fun K => (He.Fa.glo "need_integer").ok K, fun K => PySem.W.keepIn K (.ref (He.ga K "need_integer")), fun K => (He.Fa.glo "need_stand").ok K, fun K => PySem.W.keepIn K (.ref (He.ga K "need_stand")), fun K => (He.Fa.glo "need_from").ok K, fun K => PySem.W.keepIn K (.ref (He.ga K "need_from")), fun K => (He.Fa.glo "need_up_to").ok K, fun K => PySem.W.keepIn K (.ref (He.ga K "need_up_to")), fun K => (He.Fa.glo "risen").ok K, fun K => PySem.W.keepIn K (.ref (He.ga K "risen")), fun K => sclsB K (He.ga K "Table"), fun K => slotB K (He.ga K "Table") "_slopes" 3, fun K => slotB K (He.ga K "Table") "_period" 0, fun K => slotB K (He.ga K "Web") "_greatest_due" 3, fun K => slotB K (He.ga K "Web") "_moving" 5, fun K => propB K (He.ga K "Web") "moving"] ++ [fun K => propB K (He.ga K "Web") "greatest_due", fun K => (He.Fa.glo "need_row").ok K, fun K => PySem.W.keepIn K (.ref (He.ga K "need_row")), fun K => (He.Fa.glo "need_parts_from").ok K, fun K => PySem.W.keepIn K (.ref (He.ga K "need_parts_from")), fun K => (He.Fa.glo "need_list").ok K, fun K => PySem.W.keepIn K (.ref (He.ga K "need_list")), fun K => (He.Fa.glo "need_integers").ok K, fun K => PySem.W.keepIn K (.ref (He.ga K "need_integers")), fun K => (He.Fa.glo "table_kinds").ok K, fun K => PySem.W.keepIn K (.ref (He.ga K "table_kinds")), fun K => (He.Fa.glo "table_numbers").ok K, fun K => PySem.W.keepIn K (.ref (He.ga K "table_numbers")), fun K => (He.Fa.glo "need_small_web").ok K, fun K => PySem.W.keepIn K (.ref (He.ga K "need_small_web")), fun K => slotB K (He.ga K "Table") "_web" 5, fun K => slotB K (He.ga K "Table") "_start" 4, fun K => slotB K (He.ga K "Table") "_rows" 2, fun K => slotB K (He.ga K "Table") "_ranks" 1, fun K => mkB K (He.ga K "Table")] ++ [fun K => (He.Fa.glo "fall_out").ok K, fun K => PySem.W.keepIn K (.ref (He.ga K "fall_out")), fun K => (He.Fa.glo "has_due_range").ok K, fun K => PySem.W.keepIn K (.ref (He.ga K "has_due_range")), fun K => (He.Fa.glo "has_due_kind").ok K, fun K => PySem.W.keepIn K (.ref (He.ga K "has_due_kind")), fun K => (He.Fa.glo "need_due_kind").ok K, fun K => PySem.W.keepIn K (.ref (He.ga K "need_due_kind")), fun K => (He.Fa.glo "need_due").ok K, fun K => PySem.W.keepIn K (.ref (He.ga K "need_due")), fun K => (He.Fa.glo "_look").ok K, fun K => PySem.W.keepIn K (.ref (He.ga K "_look")), fun K => (He.Fa.glo "due_slope").ok K, fun K => PySem.W.keepIn K (.ref (He.ga K "due_slope")), fun K => (He.Fa.glo "slope_twice").ok K, fun K => PySem.W.keepIn K (.ref (He.ga K "slope_twice")), fun K => (He.Fa.glo "slope_orders").ok K, fun K => PySem.W.keepIn K (.ref (He.ga K "slope_orders")), fun K => (He.Fa.glo "least_ranks").ok K, fun K => PySem.W.keepIn K (.ref (He.ga K "least_ranks"))] ++ [fun K => (He.Fa.glo "slope_passes").ok K, fun K => PySem.W.keepIn K (.ref (He.ga K "slope_passes")), fun K => (He.Fa.glo "least_repeats").ok K, fun K => PySem.W.keepIn K (.ref (He.ga K "least_repeats")), fun K => (He.Fa.glo "least_start").ok K, fun K => PySem.W.keepIn K (.ref (He.ga K "least_start")), fun K => (He.Fa.glo "least_parts").ok K, fun K => PySem.W.keepIn K (.ref (He.ga K "least_parts")), fun K => excB K (He.ga K "WrongWeb"), fun K => (He.Fa.glo "WrongWeb").ok K, fun K => (He.Fa.glo "_look_stand").ok K, fun K => PySem.W.keepIn K (.ref (He.ga K "_look_stand")), fun K => (He.Fa.glo "_look_kinds").ok K, fun K => PySem.W.keepIn K (.ref (He.ga K "_look_kinds")), fun K => (He.Fa.glo "_look_web").ok K, fun K => PySem.W.keepIn K (.ref (He.ga K "_look_web")), fun K => (He.Fa.glo "kept_due").ok K, fun K => PySem.W.keepIn K (.ref (He.ga K "kept_due")), fun K => slotB K (He.ga K "Web") "_ends" 1, fun K => mkB K (He.ga K "Web")] ++ [fun K => (He.Fa.glo "need_made").ok K, fun K => PySem.W.keepIn K (.ref (He.ga K "need_made")), fun K => (He.Fa.glo "golden_root").ok K, fun K => PySem.W.keepIn K (.ref (He.ga K "golden_root")), fun K => (He.Fa.glo "golden_base").ok K, fun K => PySem.W.keepIn K (.ref (He.ga K "golden_base")), fun K => (He.Fa.glo "_law_pot").ok K, fun K => PySem.W.keepIn K (.ref (He.ga K "_law_pot")), fun K => (He.Fa.glo "repeats_until").ok K, fun K => PySem.W.keepIn K (.ref (He.ga K "repeats_until")), fun K => (He.Fa.glo "_law_whole").ok K, fun K => PySem.W.keepIn K (.ref (He.ga K "_law_whole")), fun K => (He.Fa.glo "golden_number").ok K, fun K => PySem.W.keepIn K (.ref (He.ga K "golden_number")), fun K => (He.Fa.glo "_law_draw").ok K, fun K => PySem.W.keepIn K (.ref (He.ga K "_law_draw")), fun K => (He.Fa.glo "purse_against").ok K, fun K => PySem.W.keepIn K (.ref (He.ga K "purse_against")), fun K => (He.Fa.glo "_law_part").ok K, fun K => PySem.W.keepIn K (.ref (He.ga K "_law_part"))] ++ [fun K => creadB K (He.ga K "Web"), fun K => cmetB K (He.ga K "Web") "line", fun K => (He.Fa.glo "Table").ok K, fun K => creadB K (He.ga K "Table"), fun K => cmetB K (He.ga K "Table") "least", fun K => propB K (He.ga K "Table") "period", fun K => propB K (He.ga K "Table") "slopes", fun K => (He.Fa.glo "law").ok K]
def exb (K : PySem.W.Frag) : Bool := fal.all fun f => f K
abbrev Says (K : PySem.W.Frag) : Prop := SaysV exb fnl K
theorem fct {K : PySem.W.Frag} (c : Says K) (i : Nat) {f : PySem.W.Frag → Bool} (h : fal[i]? = some f) : f K = true := List.all_eq_true.mp c.more f (List.mem_of_getElem? h)
theorem bts {K : PySem.W.Frag} {mg : Str → Option Value} {base : Heap} (c : Says K) (X : K.In base) (G : base.Ns mainGlobals mg) : ∀ x, bnAll.contains x = true → mg x = none := fun x hx => by
  have hx : x ∈ bnAll := by simpa using hx
  have all : ∀ y ∈ bnAll, (He.Fa.free y).ok K = true := by
    unfold bnAll
    simp only [List.append_nil, List.mem_cons, List.mem_append, List.not_mem_nil, or_false, forall_eq_or_imp, forall_eq]
    exact ⟨fct c 0 rfl, fct c 1 rfl, fct c 2 rfl, fct c 3 rfl, fct c 4 rfl, fct c 5 rfl, fct c 6 rfl, fct c 7 rfl, fct c 8 rfl, fct c 9 rfl, fct c 10 rfl, fct c 11 rfl, fct c 12 rfl, fct c 13 rfl, fct c 14 rfl, fct c 15 rfl, fct c 16 rfl⟩
  exact He.free_ok X G (all x hx)
theorem tabOk {K : PySem.W.Frag} (c : Says K) : TabOk K (cad K) tabN := tabB_ok (fct c 17 rfl)
section
variable {P : Program} {w : World} {K : PySem.W.Frag} {mg : Str → Option Value} {base : Heap}
abbrev FnK (P : Program) (w : World) (K : PySem.W.Frag) (mg : Str → Option Value) (base : Heap) (k : Nat) (f : Addr) (fd : FuncData) (ps : List Str) (m : Fn) : Prop := FnOk P w K mg base (L2.CX P w) k f fd ps (spOf K (cad K) ps.length m)
abbrev FnG (P : Program) (w : World) (K : PySem.W.Frag) (mg : Str → Option Value) (base : Heap) (k : Nat) (f : Addr) (np : Nat) (m : Fn) : Prop := FnR P w K mg base (L2.CX P w) k f (spOf K (cad K) np m)
theorem fok__law_part (c : Says K) (X : K.In base) (G : base.Ns mainGlobals mg) : ∃ fd, FunD K "_law_part" "_law_part" (defArgs (top 83)) (defBody (top 83)) (defScope (top 83)) (He5.DefA.dvs K dd__law_part) [] (He.ga K "_law_part") fd ∧ FnK P w K mg base 1 (He.ga K "_law_part") fd ((["_law_b"] : List PySem.Str)) m__law_part := by
  obtain ⟨fd, F⟩ := c.def_ 0 rfl
  refine ⟨fd, F, def_ok (cc := cc__law_part) (tb := tb__law_part) (code := code__law_part) F sc__law_part rfl rfl ⟨bts c X G, .nil, .nil, .nil, .nil, .nil, .nil, .nil, tabOk c⟩ chk__law_part⟩
theorem fnr__law_part_0 (c : Says K) (X : K.In base) (G : base.Ns mainGlobals mg) : FnG P w K mg base 1 (He.ga K "_law_part") 1 m__law_part := by
  obtain ⟨fd, F, O⟩ := fok__law_part (P := P) (w := w) c X G
  have B : Binds K fd ((["_law_b"] : List PySem.Str)) [] := F.bindsN fun _ _ _ _ _ _ us hl => match us, hl with | [_], _ => rfl
  exact fnr_all O B
theorem fok_p_Web_size (c : Says K) (X : K.In base) (G : base.Ns mainGlobals mg) : ∃ fd, FunD K "size" "Web.size" (defArgs (mth 33 5)) (defBody (mth 33 5)) (defScope (mth 33 5)) (He5.DefA.dvs K dd_p_Web_size) [] (He5.wf K (He.ga K "Web") "property" "size") fd ∧ FnK P w K mg base 1 (He5.wf K (He.ga K "Web") "property" "size") fd ((["self"] : List PySem.Str)) m_p_Web_size := by
  obtain ⟨fd, F⟩ := c.def_ 1 rfl
  refine ⟨fd, F, def_ok (cc := cc_p_Web_size) (tb := tb_p_Web_size) (code := code_p_Web_size) F sc_p_Web_size rfl rfl ⟨bts c X G, .nil, .nil, .nil, .nil, (.cons ((.slot (sclsB_ok (fct c 28 rfl)) (slotB_ok (fct c 29 rfl)) (.nil))) (.nil)), .nil, .nil, tabOk c⟩ chk_p_Web_size⟩
theorem fnr_p_Web_size_0 (c : Says K) (X : K.In base) (G : base.Ns mainGlobals mg) : FnG P w K mg base 1 (He5.wf K (He.ga K "Web") "property" "size") 1 m_p_Web_size := by
  obtain ⟨fd, F, O⟩ := fok_p_Web_size (P := P) (w := w) c X G
  have B : Binds K fd ((["self"] : List PySem.Str)) [] := F.bindsN fun _ _ _ _ _ _ us hl => match us, hl with | [_], _ => rfl
  exact fnr_all O B
theorem fok_half_of (c : Says K) (X : K.In base) (G : base.Ns mainGlobals mg) : ∃ fd, FunD K "half_of" "half_of" (defArgs (top 27)) (defBody (top 27)) (defScope (top 27)) (He5.DefA.dvs K dd_half_of) [] (He.ga K "half_of") fd ∧ FnK P w K mg base 1 (He.ga K "half_of") fd ((["mark", "x", "y"] : List PySem.Str)) m_half_of := by
  obtain ⟨fd, F⟩ := c.def_ 2 rfl
  refine ⟨fd, F, def_ok (cc := cc_half_of) (tb := tb_half_of) (code := code_half_of) F sc_half_of rfl rfl ⟨bts c X G, .nil, .nil, .nil, .nil, .nil, .nil, .nil, tabOk c⟩ chk_half_of⟩
theorem fnr_half_of_0 (c : Says K) (X : K.In base) (G : base.Ns mainGlobals mg) : FnG P w K mg base 1 (He.ga K "half_of") 3 m_half_of := by
  obtain ⟨fd, F, O⟩ := fok_half_of (P := P) (w := w) c X G
  have B : Binds K fd ((["mark", "x", "y"] : List PySem.Str)) [] := F.bindsN fun _ _ _ _ _ _ us hl => match us, hl with | [_, _, _], _ => rfl
  exact fnr_all O B
theorem fok_p_Web_second (c : Says K) (X : K.In base) (G : base.Ns mainGlobals mg) : ∃ fd, FunD K "second" "Web.second" (defArgs (mth 33 7)) (defBody (mth 33 7)) (defScope (mth 33 7)) (He5.DefA.dvs K dd_p_Web_second) [] (He5.wf K (He.ga K "Web") "property" "second") fd ∧ FnK P w K mg base 1 (He5.wf K (He.ga K "Web") "property" "second") fd ((["self"] : List PySem.Str)) m_p_Web_second := by
  obtain ⟨fd, F⟩ := c.def_ 3 rfl
  refine ⟨fd, F, def_ok (cc := cc_p_Web_second) (tb := tb_p_Web_second) (code := code_p_Web_second) F sc_p_Web_second rfl rfl ⟨bts c X G, .nil, .nil, .nil, .nil, (.cons ((.slot (sclsB_ok (fct c 28 rfl)) (slotB_ok (fct c 30 rfl)) (.nil))) (.nil)), .nil, .nil, tabOk c⟩ chk_p_Web_second⟩
theorem fnr_p_Web_second_0 (c : Says K) (X : K.In base) (G : base.Ns mainGlobals mg) : FnG P w K mg base 1 (He5.wf K (He.ga K "Web") "property" "second") 1 m_p_Web_second := by
  obtain ⟨fd, F, O⟩ := fok_p_Web_second (P := P) (w := w) c X G
  have B : Binds K fd ((["self"] : List PySem.Str)) [] := F.bindsN fun _ _ _ _ _ _ us hl => match us, hl with | [_], _ => rfl
  exact fnr_all O B
theorem fok_price_high (c : Says K) (X : K.In base) (G : base.Ns mainGlobals mg) : ∃ fd, FunD K "price_high" "price_high" (defArgs (top 41)) (defBody (top 41)) (defScope (top 41)) (He5.DefA.dvs K dd_price_high) [] (He.ga K "price_high") fd ∧ FnK P w K mg base 3 (He.ga K "price_high") fd ((["web", "row", "stand"] : List PySem.Str)) m_price_high := by
  obtain ⟨fd, F⟩ := c.def_ 4 rfl
  refine ⟨fd, F, def_ok (cc := cc_price_high) (tb := tb_price_high) (code := code_price_high) F sc_price_high rfl rfl ⟨bts c X G, .nil, .nil, .nil, .nil, (.cons ((let ⟨h1, h2, h3, r, h4⟩ := propB_ok (fct c 31 rfl); .prop (sclsB_ok (fct c 28 rfl)) h1 h2 h3 h4 (fnr_p_Web_second_0 c X G) (by decide) (.nil))) (.nil)), .nil, .nil, tabOk c⟩ chk_price_high⟩
theorem fnr_price_high_0 (c : Says K) (X : K.In base) (G : base.Ns mainGlobals mg) : FnG P w K mg base 3 (He.ga K "price_high") 3 m_price_high := by
  obtain ⟨fd, F, O⟩ := fok_price_high (P := P) (w := w) c X G
  have B : Binds K fd ((["web", "row", "stand"] : List PySem.Str)) [] := F.bindsN fun _ _ _ _ _ _ us hl => match us, hl with | [_, _, _], _ => rfl
  exact fnr_all O B
theorem fok_p_Web_first (c : Says K) (X : K.In base) (G : base.Ns mainGlobals mg) : ∃ fd, FunD K "first" "Web.first" (defArgs (mth 33 6)) (defBody (mth 33 6)) (defScope (mth 33 6)) (He5.DefA.dvs K dd_p_Web_first) [] (He5.wf K (He.ga K "Web") "property" "first") fd ∧ FnK P w K mg base 1 (He5.wf K (He.ga K "Web") "property" "first") fd ((["self"] : List PySem.Str)) m_p_Web_first := by
  obtain ⟨fd, F⟩ := c.def_ 5 rfl
  refine ⟨fd, F, def_ok (cc := cc_p_Web_first) (tb := tb_p_Web_first) (code := code_p_Web_first) F sc_p_Web_first rfl rfl ⟨bts c X G, .nil, .nil, .nil, .nil, (.cons ((.slot (sclsB_ok (fct c 28 rfl)) (slotB_ok (fct c 32 rfl)) (.nil))) (.nil)), .nil, .nil, tabOk c⟩ chk_p_Web_first⟩
theorem fnr_p_Web_first_0 (c : Says K) (X : K.In base) (G : base.Ns mainGlobals mg) : FnG P w K mg base 1 (He5.wf K (He.ga K "Web") "property" "first") 1 m_p_Web_first := by
  obtain ⟨fd, F, O⟩ := fok_p_Web_first (P := P) (w := w) c X G
  have B : Binds K fd ((["self"] : List PySem.Str)) [] := F.bindsN fun _ _ _ _ _ _ us hl => match us, hl with | [_], _ => rfl
  exact fnr_all O B
theorem fok_price_low (c : Says K) (X : K.In base) (G : base.Ns mainGlobals mg) : ∃ fd, FunD K "price_low" "price_low" (defArgs (top 40)) (defBody (top 40)) (defScope (top 40)) (He5.DefA.dvs K dd_price_low) [] (He.ga K "price_low") fd ∧ FnK P w K mg base 3 (He.ga K "price_low") fd ((["web", "row", "stand"] : List PySem.Str)) m_price_low := by
  obtain ⟨fd, F⟩ := c.def_ 6 rfl
  refine ⟨fd, F, def_ok (cc := cc_price_low) (tb := tb_price_low) (code := code_price_low) F sc_price_low rfl rfl ⟨bts c X G, .nil, .nil, .nil, .nil, (.cons ((let ⟨h1, h2, h3, r, h4⟩ := propB_ok (fct c 33 rfl); .prop (sclsB_ok (fct c 28 rfl)) h1 h2 h3 h4 (fnr_p_Web_first_0 c X G) (by decide) (.nil))) (.nil)), .nil, .nil, tabOk c⟩ chk_price_low⟩
theorem fnr_price_low_0 (c : Says K) (X : K.In base) (G : base.Ns mainGlobals mg) : FnG P w K mg base 3 (He.ga K "price_low") 3 m_price_low := by
  obtain ⟨fd, F, O⟩ := fok_price_low (P := P) (w := w) c X G
  have B : Binds K fd ((["web", "row", "stand"] : List PySem.Str)) [] := F.bindsN fun _ _ _ _ _ _ us hl => match us, hl with | [_, _, _], _ => rfl
  exact fnr_all O B
theorem fok_p_Web_marks (c : Says K) (X : K.In base) (G : base.Ns mainGlobals mg) : ∃ fd, FunD K "marks" "Web.marks" (defArgs (mth 33 8)) (defBody (mth 33 8)) (defScope (mth 33 8)) (He5.DefA.dvs K dd_p_Web_marks) [] (He5.wf K (He.ga K "Web") "property" "marks") fd ∧ FnK P w K mg base 1 (He5.wf K (He.ga K "Web") "property" "marks") fd ((["self"] : List PySem.Str)) m_p_Web_marks := by
  obtain ⟨fd, F⟩ := c.def_ 7 rfl
  refine ⟨fd, F, def_ok (cc := cc_p_Web_marks) (tb := tb_p_Web_marks) (code := code_p_Web_marks) F sc_p_Web_marks rfl rfl ⟨bts c X G, .nil, .nil, .nil, .nil, (.cons ((.slot (sclsB_ok (fct c 28 rfl)) (slotB_ok (fct c 29 rfl)) (.nil))) (.nil)), .nil, .nil, tabOk c⟩ chk_p_Web_marks⟩
theorem fnr_p_Web_marks_0 (c : Says K) (X : K.In base) (G : base.Ns mainGlobals mg) : FnG P w K mg base 1 (He5.wf K (He.ga K "Web") "property" "marks") 1 m_p_Web_marks := by
  obtain ⟨fd, F, O⟩ := fok_p_Web_marks (P := P) (w := w) c X G
  have B : Binds K fd ((["self"] : List PySem.Str)) [] := F.bindsN fun _ _ _ _ _ _ us hl => match us, hl with | [_], _ => rfl
  exact fnr_all O B
theorem fok_price_at (c : Says K) (X : K.In base) (G : base.Ns mainGlobals mg) : ∃ fd, FunD K "price_at" "price_at" (defArgs (top 42)) (defBody (top 42)) (defScope (top 42)) (He5.DefA.dvs K dd_price_at) [] (He.ga K "price_at") fd ∧ FnK P w K mg base 4 (He.ga K "price_at") fd ((["web", "k", "row", "stand"] : List PySem.Str)) m_price_at := by
  obtain ⟨fd, F⟩ := c.def_ 8 rfl
  refine ⟨fd, F, def_ok (cc := cc_price_at) (tb := tb_price_at) (code := code_price_at) F sc_price_at rfl rfl ⟨bts c X G, .nil, (.cons (He.glo_ok X G (fct c 38 rfl)) (fct c 39 rfl) (callK_fz (callK_of (fnr_half_of_0 c X G) (by decide))) ((.cons (He.glo_ok X G (fct c 36 rfl)) (fct c 37 rfl) (callK_fz (callK_of (fnr_price_high_0 c X G) (by decide))) ((.cons (He.glo_ok X G (fct c 34 rfl)) (fct c 35 rfl) (callK_fz (callK_of (fnr_price_low_0 c X G) (by decide))) (.nil)))))), .nil, .nil, (.cons ((let ⟨h1, h2, h3, r, h4⟩ := propB_ok (fct c 40 rfl); .prop (sclsB_ok (fct c 28 rfl)) h1 h2 h3 h4 (fnr_p_Web_marks_0 c X G) (by decide) (.nil))) ((.cons ((let ⟨h1, h2, h3, r, h4⟩ := propB_ok (fct c 33 rfl); .prop (sclsB_ok (fct c 28 rfl)) h1 h2 h3 h4 (fnr_p_Web_first_0 c X G) (by decide) (.nil))) (.nil)))), .nil, .nil, tabOk c⟩ chk_price_at⟩
theorem fnr_price_at_0 (c : Says K) (X : K.In base) (G : base.Ns mainGlobals mg) : FnG P w K mg base 4 (He.ga K "price_at") 4 m_price_at := by
  obtain ⟨fd, F, O⟩ := fok_price_at (P := P) (w := w) c X G
  have B : Binds K fd ((["web", "k", "row", "stand"] : List PySem.Str)) [] := F.bindsN fun _ _ _ _ _ _ us hl => match us, hl with | [_, _, _, _], _ => rfl
  exact fnr_all O B
theorem fok_due_at (c : Says K) (X : K.In base) (G : base.Ns mainGlobals mg) : ∃ fd, FunD K "due_at" "due_at" (defArgs (top 22)) (defBody (top 22)) (defScope (top 22)) (He5.DefA.dvs K dd_due_at) [] (He.ga K "due_at") fd ∧ FnK P w K mg base 1 (He.ga K "due_at") fd ((["due", "k"] : List PySem.Str)) m_due_at := by
  obtain ⟨fd, F⟩ := c.def_ 9 rfl
  refine ⟨fd, F, def_ok (cc := cc_due_at) (tb := tb_due_at) (code := code_due_at) F sc_due_at rfl rfl ⟨bts c X G, .nil, .nil, .nil, .nil, .nil, .nil, .nil, tabOk c⟩ chk_due_at⟩
theorem fnr_due_at_0 (c : Says K) (X : K.In base) (G : base.Ns mainGlobals mg) : FnG P w K mg base 1 (He.ga K "due_at") 2 m_due_at := by
  obtain ⟨fd, F, O⟩ := fok_due_at (P := P) (w := w) c X G
  have B : Binds K fd ((["due", "k"] : List PySem.Str)) [] := F.bindsN fun _ _ _ _ _ _ us hl => match us, hl with | [_, _], _ => rfl
  exact fnr_all O B
theorem fok_due_row (c : Says K) (X : K.In base) (G : base.Ns mainGlobals mg) : ∃ fd, FunD K "due_row" "due_row" (defArgs (top 23)) (defBody (top 23)) (defScope (top 23)) (He5.DefA.dvs K dd_due_row) [] (He.ga K "due_row") fd ∧ FnK P w K mg base 2 (He.ga K "due_row") fd ((["dues", "k"] : List PySem.Str)) m_due_row := by
  obtain ⟨fd, F⟩ := c.def_ 10 rfl
  refine ⟨fd, F, def_ok (cc := cc_due_row) (tb := tb_due_row) (code := code_due_row) F sc_due_row rfl rfl ⟨bts c X G, .nil, (.cons (He.glo_ok X G (fct c 41 rfl)) (fct c 42 rfl) (callK_fz (callK_of (fnr_due_at_0 c X G) (by decide))) (.nil)), .nil, .nil, .nil, .nil, .nil, tabOk c⟩ chk_due_row⟩
theorem fnr_due_row_0 (c : Says K) (X : K.In base) (G : base.Ns mainGlobals mg) : FnG P w K mg base 2 (He.ga K "due_row") 2 m_due_row := by
  obtain ⟨fd, F, O⟩ := fok_due_row (P := P) (w := w) c X G
  have B : Binds K fd ((["dues", "k"] : List PySem.Str)) [] := F.bindsN fun _ _ _ _ _ _ us hl => match us, hl with | [_, _], _ => rfl
  exact fnr_all O B
theorem fok_p_Web_dues (c : Says K) (X : K.In base) (G : base.Ns mainGlobals mg) : ∃ fd, FunD K "dues" "Web.dues" (defArgs (mth 33 9)) (defBody (mth 33 9)) (defScope (mth 33 9)) (He5.DefA.dvs K dd_p_Web_dues) [] (He5.wf K (He.ga K "Web") "property" "dues") fd ∧ FnK P w K mg base 1 (He5.wf K (He.ga K "Web") "property" "dues") fd ((["self"] : List PySem.Str)) m_p_Web_dues := by
  obtain ⟨fd, F⟩ := c.def_ 11 rfl
  refine ⟨fd, F, def_ok (cc := cc_p_Web_dues) (tb := tb_p_Web_dues) (code := code_p_Web_dues) F sc_p_Web_dues rfl rfl ⟨bts c X G, .nil, .nil, .nil, .nil, (.cons ((.slot (sclsB_ok (fct c 28 rfl)) (slotB_ok (fct c 43 rfl)) (.nil))) (.nil)), .nil, .nil, tabOk c⟩ chk_p_Web_dues⟩
theorem fnr_p_Web_dues_0 (c : Says K) (X : K.In base) (G : base.Ns mainGlobals mg) : FnG P w K mg base 1 (He5.wf K (He.ga K "Web") "property" "dues") 1 m_p_Web_dues := by
  obtain ⟨fd, F, O⟩ := fok_p_Web_dues (P := P) (w := w) c X G
  have B : Binds K fd ((["self"] : List PySem.Str)) [] := F.bindsN fun _ _ _ _ _ _ us hl => match us, hl with | [_], _ => rfl
  exact fnr_all O B
theorem fok_rise_of (c : Says K) (X : K.In base) (G : base.Ns mainGlobals mg) : ∃ fd, FunD K "rise_of" "rise_of" (defArgs (top 51)) (defBody (top 51)) (defScope (top 51)) (He5.DefA.dvs K dd_rise_of) [] (He.ga K "rise_of") fd ∧ FnK P w K mg base 5 (He.ga K "rise_of") fd ((["web", "k", "row"] : List PySem.Str)) m_rise_of := by
  obtain ⟨fd, F⟩ := c.def_ 12 rfl
  refine ⟨fd, F, def_ok (cc := cc_rise_of) (tb := tb_rise_of) (code := code_rise_of) F sc_rise_of rfl rfl ⟨bts c X G, .nil, (.cons (He.glo_ok X G (fct c 46 rfl)) (fct c 47 rfl) (callK_fz (callK_of (fnr_price_at_0 c X G) (by decide))) ((.cons (He.glo_ok X G (fct c 44 rfl)) (fct c 45 rfl) (callK_fz (callK_of (fnr_due_row_0 c X G) (by decide))) (.nil)))), .nil, .nil, (.cons ((let ⟨h1, h2, h3, r, h4⟩ := propB_ok (fct c 49 rfl); .prop (sclsB_ok (fct c 28 rfl)) h1 h2 h3 h4 (fnr_p_Web_size_0 c X G) (by decide) (.nil))) ((.cons ((let ⟨h1, h2, h3, r, h4⟩ := propB_ok (fct c 48 rfl); .prop (sclsB_ok (fct c 28 rfl)) h1 h2 h3 h4 (fnr_p_Web_dues_0 c X G) (by decide) (.nil))) (.nil)))), .nil, .nil, tabOk c⟩ chk_rise_of⟩
theorem fnr_rise_of_0 (c : Says K) (X : K.In base) (G : base.Ns mainGlobals mg) : FnG P w K mg base 5 (He.ga K "rise_of") 3 m_rise_of := by
  obtain ⟨fd, F, O⟩ := fok_rise_of (P := P) (w := w) c X G
  have B : Binds K fd ((["web", "k", "row"] : List PySem.Str)) [] := F.bindsN fun _ _ _ _ _ _ us hl => match us, hl with | [_, _, _], _ => rfl
  exact fnr_all O B
theorem fok_risen (c : Says K) (X : K.In base) (G : base.Ns mainGlobals mg) : ∃ fd, FunD K "risen" "risen" (defArgs (top 52)) (defBody (top 52)) (defScope (top 52)) (He5.DefA.dvs K dd_risen) [] (He.ga K "risen") fd ∧ FnK P w K mg base 6 (He.ga K "risen") fd ((["web", "k", "row"] : List PySem.Str)) m_risen := by
  obtain ⟨fd, F⟩ := c.def_ 13 rfl
  refine ⟨fd, F, def_ok (cc := cc_risen) (tb := tb_risen) (code := code_risen) F sc_risen rfl rfl ⟨bts c X G, .nil, (.cons (He.glo_ok X G (fct c 50 rfl)) (fct c 51 rfl) (callK_fz (callK_of (fnr_rise_of_0 c X G) (by decide))) (.nil)), .nil, .nil, (.cons ((let ⟨h1, h2, h3, r, h4⟩ := propB_ok (fct c 49 rfl); .prop (sclsB_ok (fct c 28 rfl)) h1 h2 h3 h4 (fnr_p_Web_size_0 c X G) (by decide) (.nil))) (.nil)), .nil, .nil, tabOk c⟩ chk_risen⟩
theorem fnr_risen_0 (c : Says K) (X : K.In base) (G : base.Ns mainGlobals mg) : FnG P w K mg base 6 (He.ga K "risen") 3 m_risen := by
  obtain ⟨fd, F, O⟩ := fok_risen (P := P) (w := w) c X G
  have B : Binds K fd ((["web", "k", "row"] : List PySem.Str)) [] := F.bindsN fun _ _ _ _ _ _ us hl => match us, hl with | [_, _, _], _ => rfl
  exact fnr_all O B
theorem fok_need_up_to (c : Says K) (X : K.In base) (G : base.Ns mainGlobals mg) : ∃ fd, FunD K "need_up_to" "need_up_to" (defArgs (top 13)) (defBody (top 13)) (defScope (top 13)) (He5.DefA.dvs K dd_need_up_to) [] (He.ga K "need_up_to") fd ∧ FnK P w K mg base 1 (He.ga K "need_up_to") fd ((["number", "most", "what"] : List PySem.Str)) m_need_up_to := by
  obtain ⟨fd, F⟩ := c.def_ 14 rfl
  refine ⟨fd, F, def_ok (cc := cc_need_up_to) (tb := tb_need_up_to) (code := code_need_up_to) F sc_need_up_to rfl rfl ⟨bts c X G, .nil, .nil, .nil, .nil, .nil, .nil, (.cons (excB_ok (fct c 52 rfl) (He.glo_ok X G (fct c 53 rfl))) (.nil)), tabOk c⟩ chk_need_up_to⟩
theorem fnr_need_up_to_0 (c : Says K) (X : K.In base) (G : base.Ns mainGlobals mg) : FnG P w K mg base 1 (He.ga K "need_up_to") 3 m_need_up_to := by
  obtain ⟨fd, F, O⟩ := fok_need_up_to (P := P) (w := w) c X G
  have B : Binds K fd ((["number", "most", "what"] : List PySem.Str)) [] := F.bindsN fun _ _ _ _ _ _ us hl => match us, hl with | [_, _, _], _ => rfl
  exact fnr_all O B
theorem fok_need_from (c : Says K) (X : K.In base) (G : base.Ns mainGlobals mg) : ∃ fd, FunD K "need_from" "need_from" (defArgs (top 11)) (defBody (top 11)) (defScope (top 11)) (He5.DefA.dvs K dd_need_from) [] (He.ga K "need_from") fd ∧ FnK P w K mg base 1 (He.ga K "need_from") fd ((["number", "least", "what"] : List PySem.Str)) m_need_from := by
  obtain ⟨fd, F⟩ := c.def_ 15 rfl
  refine ⟨fd, F, def_ok (cc := cc_need_from) (tb := tb_need_from) (code := code_need_from) F sc_need_from rfl rfl ⟨bts c X G, .nil, .nil, .nil, .nil, .nil, .nil, (.cons (excB_ok (fct c 54 rfl) (He.glo_ok X G (fct c 55 rfl))) (.nil)), tabOk c⟩ chk_need_from⟩
theorem fnr_need_from_0 (c : Says K) (X : K.In base) (G : base.Ns mainGlobals mg) : FnG P w K mg base 1 (He.ga K "need_from") 3 m_need_from := by
  obtain ⟨fd, F, O⟩ := fok_need_from (P := P) (w := w) c X G
  have B : Binds K fd ((["number", "least", "what"] : List PySem.Str)) [] := F.bindsN fun _ _ _ _ _ _ us hl => match us, hl with | [_, _, _], _ => rfl
  exact fnr_all O B
theorem fok_need_between (c : Says K) (X : K.In base) (G : base.Ns mainGlobals mg) : ∃ fd, FunD K "need_between" "need_between" (defArgs (top 12)) (defBody (top 12)) (defScope (top 12)) (He5.DefA.dvs K dd_need_between) [] (He.ga K "need_between") fd ∧ FnK P w K mg base 1 (He.ga K "need_between") fd ((["number", "least", "most", "what"] : List PySem.Str)) m_need_between := by
  obtain ⟨fd, F⟩ := c.def_ 16 rfl
  refine ⟨fd, F, def_ok (cc := cc_need_between) (tb := tb_need_between) (code := code_need_between) F sc_need_between rfl rfl ⟨bts c X G, .nil, .nil, .nil, .nil, .nil, .nil, (.cons (excB_ok (fct c 54 rfl) (He.glo_ok X G (fct c 55 rfl))) (.nil)), tabOk c⟩ chk_need_between⟩
theorem fnr_need_between_0 (c : Says K) (X : K.In base) (G : base.Ns mainGlobals mg) : FnG P w K mg base 1 (He.ga K "need_between") 4 m_need_between := by
  obtain ⟨fd, F, O⟩ := fok_need_between (P := P) (w := w) c X G
  have B : Binds K fd ((["number", "least", "most", "what"] : List PySem.Str)) [] := F.bindsN fun _ _ _ _ _ _ us hl => match us, hl with | [_, _, _, _], _ => rfl
  exact fnr_all O B
theorem fok_need_stand (c : Says K) (X : K.In base) (G : base.Ns mainGlobals mg) : ∃ fd, FunD K "need_stand" "need_stand" (defArgs (top 36)) (defBody (top 36)) (defScope (top 36)) (He5.DefA.dvs K dd_need_stand) [] (He.ga K "need_stand") fd ∧ FnK P w K mg base 3 (He.ga K "need_stand") fd ((["web", "stand"] : List PySem.Str)) m_need_stand := by
  obtain ⟨fd, F⟩ := c.def_ 17 rfl
  refine ⟨fd, F, def_ok (cc := cc_need_stand) (tb := tb_need_stand) (code := code_need_stand) F sc_need_stand rfl rfl ⟨bts c X G, .nil, (.cons (He.glo_ok X G (fct c 56 rfl)) (fct c 57 rfl) (callK_fz (callK_of (fnr_need_between_0 c X G) (by decide))) (.nil)), .nil, .nil, (.cons ((let ⟨h1, h2, h3, r, h4⟩ := propB_ok (fct c 49 rfl); .prop (sclsB_ok (fct c 28 rfl)) h1 h2 h3 h4 (fnr_p_Web_size_0 c X G) (by decide) (.nil))) (.nil)), .nil, .nil, tabOk c⟩ chk_need_stand⟩
theorem fnr_need_stand_0 (c : Says K) (X : K.In base) (G : base.Ns mainGlobals mg) : FnG P w K mg base 3 (He.ga K "need_stand") 2 m_need_stand := by
  obtain ⟨fd, F, O⟩ := fok_need_stand (P := P) (w := w) c X G
  have B : Binds K fd ((["web", "stand"] : List PySem.Str)) [] := F.bindsN fun _ _ _ _ _ _ us hl => match us, hl with | [_, _], _ => rfl
  exact fnr_all O B
theorem fok_is_integer (c : Says K) (X : K.In base) (G : base.Ns mainGlobals mg) : ∃ fd, FunD K "is_integer" "is_integer" (defArgs (top 8)) (defBody (top 8)) (defScope (top 8)) (He5.DefA.dvs K dd_is_integer) [] (He.ga K "is_integer") fd ∧ FnK P w K mg base 1 (He.ga K "is_integer") fd ((["thing"] : List PySem.Str)) m_is_integer := by
  obtain ⟨fd, F⟩ := c.def_ 18 rfl
  refine ⟨fd, F, def_ok (cc := cc_is_integer) (tb := tb_is_integer) (code := code_is_integer) F sc_is_integer rfl rfl ⟨bts c X G, .nil, .nil, .nil, .nil, .nil, .nil, .nil, tabOk c⟩ chk_is_integer⟩
theorem fnr_is_integer_0 (c : Says K) (X : K.In base) (G : base.Ns mainGlobals mg) : FnG P w K mg base 1 (He.ga K "is_integer") 1 m_is_integer := by
  obtain ⟨fd, F, O⟩ := fok_is_integer (P := P) (w := w) c X G
  have B : Binds K fd ((["thing"] : List PySem.Str)) [] := F.bindsN fun _ _ _ _ _ _ us hl => match us, hl with | [_], _ => rfl
  exact fnr_all O B
theorem fok_need_integer (c : Says K) (X : K.In base) (G : base.Ns mainGlobals mg) : ∃ fd, FunD K "need_integer" "need_integer" (defArgs (top 9)) (defBody (top 9)) (defScope (top 9)) (He5.DefA.dvs K dd_need_integer) [] (He.ga K "need_integer") fd ∧ FnK P w K mg base 2 (He.ga K "need_integer") fd ((["thing", "what"] : List PySem.Str)) m_need_integer := by
  obtain ⟨fd, F⟩ := c.def_ 19 rfl
  refine ⟨fd, F, def_ok (cc := cc_need_integer) (tb := tb_need_integer) (code := code_need_integer) F sc_need_integer rfl rfl ⟨bts c X G, .nil, (.cons (He.glo_ok X G (fct c 58 rfl)) (fct c 59 rfl) (callK_fz (callK_of (fnr_is_integer_0 c X G) (by decide))) (.nil)), .nil, .nil, .nil, .nil, (.cons (excB_ok (fct c 60 rfl) (He.glo_ok X G (fct c 61 rfl))) (.nil)), tabOk c⟩ chk_need_integer⟩
theorem fnr_need_integer_0 (c : Says K) (X : K.In base) (G : base.Ns mainGlobals mg) : FnG P w K mg base 2 (He.ga K "need_integer") 2 m_need_integer := by
  obtain ⟨fd, F, O⟩ := fok_need_integer (P := P) (w := w) c X G
  have B : Binds K fd ((["thing", "what"] : List PySem.Str)) [] := F.bindsN fun _ _ _ _ _ _ us hl => match us, hl with | [_, _], _ => rfl
  exact fnr_all O B
theorem fok_need_web (c : Says K) (X : K.In base) (G : base.Ns mainGlobals mg) : ∃ fd, FunD K "need_web" "need_web" (defArgs (top 35)) (defBody (top 35)) (defScope (top 35)) (He5.DefA.dvs K dd_need_web) [] (He.ga K "need_web") fd ∧ FnK P w K mg base 1 (He.ga K "need_web") fd ((["web"] : List PySem.Str)) m_need_web := by
  obtain ⟨fd, F⟩ := c.def_ 20 rfl
  refine ⟨fd, F, def_ok (cc := cc_need_web) (tb := tb_need_web) (code := code_need_web) F sc_need_web rfl rfl ⟨bts c X G, (.cons (He.glo_ok X G (fct c 18 rfl)) (show L2.RelV (.ref _) (.ref _) from rfl) (fun _ _ _ _ => ⟨rfl, rfl⟩) (.nil)), .nil, .nil, .nil, .nil, .nil, (.cons (excB_ok (fct c 60 rfl) (He.glo_ok X G (fct c 61 rfl))) (.nil)), tabOk c⟩ chk_need_web⟩
theorem fnr_need_web_0 (c : Says K) (X : K.In base) (G : base.Ns mainGlobals mg) : FnG P w K mg base 1 (He.ga K "need_web") 1 m_need_web := by
  obtain ⟨fd, F, O⟩ := fok_need_web (P := P) (w := w) c X G
  have B : Binds K fd ((["web"] : List PySem.Str)) [] := F.bindsN fun _ _ _ _ _ _ us hl => match us, hl with | [_], _ => rfl
  exact fnr_all O B
theorem fok_purse_against (c : Says K) (X : K.In base) (G : base.Ns mainGlobals mg) : ∃ fd, FunD K "purse_against" "purse_against" (defArgs (top 55)) (defBody (top 55)) (defScope (top 55)) (He5.DefA.dvs K dd_purse_against) [] (He.ga K "purse_against") fd ∧ FnK P w K mg base 7 (He.ga K "purse_against") fd ((["web", "stand", "other", "most"] : List PySem.Str)) m_purse_against := by
  obtain ⟨fd, F⟩ := c.def_ 21 rfl
  refine ⟨fd, F, def_ok (cc := cc_purse_against) (tb := tb_purse_against) (code := code_purse_against) F sc_purse_against rfl rfl ⟨bts c X G, (let ⟨t, h⟩ := He.int_ok X G (fct c 19 rfl); .cons h (show L2.RelV (.int 2000) (.int _ t) from ⟨t, rfl⟩) (fun _ _ _ _ => ⟨rfl, rfl⟩) (.nil)), (.cons (He.glo_ok X G (fct c 72 rfl)) (fct c 73 rfl) (callK_fz (callK_of (fnr_risen_0 c X G) (by decide))) ((.cons (He.glo_ok X G (fct c 70 rfl)) (fct c 71 rfl) (callK_fz (callK_of (fnr_need_up_to_0 c X G) (by decide))) ((.cons (He.glo_ok X G (fct c 68 rfl)) (fct c 69 rfl) (callK_fz (callK_of (fnr_need_from_0 c X G) (by decide))) ((.cons (He.glo_ok X G (fct c 66 rfl)) (fct c 67 rfl) (callK_fz (callK_of (fnr_need_stand_0 c X G) (by decide))) ((.cons (He.glo_ok X G (fct c 64 rfl)) (fct c 65 rfl) (callK_fz (callK_of (fnr_need_integer_0 c X G) (by decide))) ((.cons (He.glo_ok X G (fct c 62 rfl)) (fct c 63 rfl) (callK_fz (callK_of (fnr_need_web_0 c X G) (by decide))) (.nil)))))))))))), .nil, .nil, (.cons ((let ⟨h1, h2, h3, r, h4⟩ := propB_ok (fct c 49 rfl); .prop (sclsB_ok (fct c 28 rfl)) h1 h2 h3 h4 (fnr_p_Web_size_0 c X G) (by decide) (.nil))) (.nil)), .nil, .nil, tabOk c⟩ chk_purse_against⟩
theorem fnr_purse_against_0 (c : Says K) (X : K.In base) (G : base.Ns mainGlobals mg) : FnG P w K mg base 7 (He.ga K "purse_against") 4 m_purse_against := by
  obtain ⟨fd, F, O⟩ := fok_purse_against (P := P) (w := w) c X G
  have B : Binds K fd ((["web", "stand", "other", "most"] : List PySem.Str)) [] := F.bindsN fun _ _ _ _ _ _ us hl => match us, hl with | [_, _, _, _], _ => rfl
  exact fnr_all O B
theorem fok__law_draw (c : Says K) (X : K.In base) (G : base.Ns mainGlobals mg) : ∃ fd, FunD K "_law_draw" "_law_draw" (defArgs (top 81)) (defBody (top 81)) (defScope (top 81)) (He5.DefA.dvs K dd__law_draw) [] (He.ga K "_law_draw") fd ∧ FnK P w K mg base 1 (He.ga K "_law_draw") fd ((["_law_pot_here", "_law_many"] : List PySem.Str)) m__law_draw := by
  obtain ⟨fd, F⟩ := c.def_ 22 rfl
  refine ⟨fd, F, def_ok (cc := cc__law_draw) (tb := tb__law_draw) (code := code__law_draw) F sc__law_draw rfl rfl ⟨bts c X G, .nil, .nil, .nil, .nil, .nil, .nil, .nil, tabOk c⟩ chk__law_draw⟩
theorem fnr__law_draw_0 (c : Says K) (X : K.In base) (G : base.Ns mainGlobals mg) : FnG P w K mg base 1 (He.ga K "_law_draw") 2 m__law_draw := by
  obtain ⟨fd, F, O⟩ := fok__law_draw (P := P) (w := w) c X G
  have B : Binds K fd ((["_law_pot_here", "_law_many"] : List PySem.Str)) [] := F.bindsN fun _ _ _ _ _ _ us hl => match us, hl with | [_, _], _ => rfl
  exact fnr_all O B
theorem fok_p_Table_slopes (c : Says K) (X : K.In base) (G : base.Ns mainGlobals mg) : ∃ fd, FunD K "slopes" "Table.slopes" (defArgs (mth 78 7)) (defBody (mth 78 7)) (defScope (mth 78 7)) (He5.DefA.dvs K dd_p_Table_slopes) [] (He5.wf K (He.ga K "Table") "property" "slopes") fd ∧ FnK P w K mg base 1 (He5.wf K (He.ga K "Table") "property" "slopes") fd ((["self"] : List PySem.Str)) m_p_Table_slopes := by
  obtain ⟨fd, F⟩ := c.def_ 23 rfl
  refine ⟨fd, F, def_ok (cc := cc_p_Table_slopes) (tb := tb_p_Table_slopes) (code := code_p_Table_slopes) F sc_p_Table_slopes rfl rfl ⟨bts c X G, .nil, .nil, .nil, .nil, (.cons ((.slot (sclsB_ok (fct c 74 rfl)) (slotB_ok (fct c 75 rfl)) (.nil))) (.nil)), .nil, .nil, tabOk c⟩ chk_p_Table_slopes⟩
theorem fnr_p_Table_slopes_0 (c : Says K) (X : K.In base) (G : base.Ns mainGlobals mg) : FnG P w K mg base 1 (He5.wf K (He.ga K "Table") "property" "slopes") 1 m_p_Table_slopes := by
  obtain ⟨fd, F, O⟩ := fok_p_Table_slopes (P := P) (w := w) c X G
  have B : Binds K fd ((["self"] : List PySem.Str)) [] := F.bindsN fun _ _ _ _ _ _ us hl => match us, hl with | [_], _ => rfl
  exact fnr_all O B
theorem fok_p_Table_period (c : Says K) (X : K.In base) (G : base.Ns mainGlobals mg) : ∃ fd, FunD K "period" "Table.period" (defArgs (mth 78 6)) (defBody (mth 78 6)) (defScope (mth 78 6)) (He5.DefA.dvs K dd_p_Table_period) [] (He5.wf K (He.ga K "Table") "property" "period") fd ∧ FnK P w K mg base 1 (He5.wf K (He.ga K "Table") "property" "period") fd ((["self"] : List PySem.Str)) m_p_Table_period := by
  obtain ⟨fd, F⟩ := c.def_ 24 rfl
  refine ⟨fd, F, def_ok (cc := cc_p_Table_period) (tb := tb_p_Table_period) (code := code_p_Table_period) F sc_p_Table_period rfl rfl ⟨bts c X G, .nil, .nil, .nil, .nil, (.cons ((.slot (sclsB_ok (fct c 74 rfl)) (slotB_ok (fct c 76 rfl)) (.nil))) (.nil)), .nil, .nil, tabOk c⟩ chk_p_Table_period⟩
theorem fnr_p_Table_period_0 (c : Says K) (X : K.In base) (G : base.Ns mainGlobals mg) : FnG P w K mg base 1 (He5.wf K (He.ga K "Table") "property" "period") 1 m_p_Table_period := by
  obtain ⟨fd, F, O⟩ := fok_p_Table_period (P := P) (w := w) c X G
  have B : Binds K fd ((["self"] : List PySem.Str)) [] := F.bindsN fun _ _ _ _ _ _ us hl => match us, hl with | [_], _ => rfl
  exact fnr_all O B
theorem fok_p_Web_greatest_due (c : Says K) (X : K.In base) (G : base.Ns mainGlobals mg) : ∃ fd, FunD K "greatest_due" "Web.greatest_due" (defArgs (mth 33 12)) (defBody (mth 33 12)) (defScope (mth 33 12)) (He5.DefA.dvs K dd_p_Web_greatest_due) [] (He5.wf K (He.ga K "Web") "property" "greatest_due") fd ∧ FnK P w K mg base 1 (He5.wf K (He.ga K "Web") "property" "greatest_due") fd ((["self"] : List PySem.Str)) m_p_Web_greatest_due := by
  obtain ⟨fd, F⟩ := c.def_ 25 rfl
  refine ⟨fd, F, def_ok (cc := cc_p_Web_greatest_due) (tb := tb_p_Web_greatest_due) (code := code_p_Web_greatest_due) F sc_p_Web_greatest_due rfl rfl ⟨bts c X G, .nil, .nil, .nil, .nil, (.cons ((.slot (sclsB_ok (fct c 28 rfl)) (slotB_ok (fct c 77 rfl)) (.nil))) (.nil)), .nil, .nil, tabOk c⟩ chk_p_Web_greatest_due⟩
theorem fnr_p_Web_greatest_due_0 (c : Says K) (X : K.In base) (G : base.Ns mainGlobals mg) : FnG P w K mg base 1 (He5.wf K (He.ga K "Web") "property" "greatest_due") 1 m_p_Web_greatest_due := by
  obtain ⟨fd, F, O⟩ := fok_p_Web_greatest_due (P := P) (w := w) c X G
  have B : Binds K fd ((["self"] : List PySem.Str)) [] := F.bindsN fun _ _ _ _ _ _ us hl => match us, hl with | [_], _ => rfl
  exact fnr_all O B
theorem fok_p_Web_moving (c : Says K) (X : K.In base) (G : base.Ns mainGlobals mg) : ∃ fd, FunD K "moving" "Web.moving" (defArgs (mth 33 11)) (defBody (mth 33 11)) (defScope (mth 33 11)) (He5.DefA.dvs K dd_p_Web_moving) [] (He5.wf K (He.ga K "Web") "property" "moving") fd ∧ FnK P w K mg base 1 (He5.wf K (He.ga K "Web") "property" "moving") fd ((["self"] : List PySem.Str)) m_p_Web_moving := by
  obtain ⟨fd, F⟩ := c.def_ 26 rfl
  refine ⟨fd, F, def_ok (cc := cc_p_Web_moving) (tb := tb_p_Web_moving) (code := code_p_Web_moving) F sc_p_Web_moving rfl rfl ⟨bts c X G, .nil, .nil, .nil, .nil, (.cons ((.slot (sclsB_ok (fct c 28 rfl)) (slotB_ok (fct c 78 rfl)) (.nil))) (.nil)), .nil, .nil, tabOk c⟩ chk_p_Web_moving⟩
theorem fnr_p_Web_moving_0 (c : Says K) (X : K.In base) (G : base.Ns mainGlobals mg) : FnG P w K mg base 1 (He5.wf K (He.ga K "Web") "property" "moving") 1 m_p_Web_moving := by
  obtain ⟨fd, F, O⟩ := fok_p_Web_moving (P := P) (w := w) c X G
  have B : Binds K fd ((["self"] : List PySem.Str)) [] := F.bindsN fun _ _ _ _ _ _ us hl => match us, hl with | [_], _ => rfl
  exact fnr_all O B
theorem fok_need_small_web (c : Says K) (X : K.In base) (G : base.Ns mainGlobals mg) : ∃ fd, FunD K "need_small_web" "need_small_web" (defArgs (top 67)) (defBody (top 67)) (defScope (top 67)) (He5.DefA.dvs K dd_need_small_web) [] (He.ga K "need_small_web") fd ∧ FnK P w K mg base 3 (He.ga K "need_small_web") fd ((["web"] : List PySem.Str)) m_need_small_web := by
  obtain ⟨fd, F⟩ := c.def_ 27 rfl
  refine ⟨fd, F, def_ok (cc := cc_need_small_web) (tb := tb_need_small_web) (code := code_need_small_web) F sc_need_small_web rfl rfl ⟨bts c X G, (let ⟨t, h⟩ := He.int_ok X G (fct c 20 rfl); .cons h (show L2.RelV (.int 9) (.int _ t) from ⟨t, rfl⟩) (fun _ _ _ _ => ⟨rfl, rfl⟩) ((let ⟨t, h⟩ := He.int_ok X G (fct c 21 rfl); .cons h (show L2.RelV (.int 6) (.int _ t) from ⟨t, rfl⟩) (fun _ _ _ _ => ⟨rfl, rfl⟩) ((let ⟨t, h⟩ := He.int_ok X G (fct c 22 rfl); .cons h (show L2.RelV (.int 10) (.int _ t) from ⟨t, rfl⟩) (fun _ _ _ _ => ⟨rfl, rfl⟩) (.nil)))))), (.cons (He.glo_ok X G (fct c 70 rfl)) (fct c 71 rfl) (callK_fz (callK_of (fnr_need_up_to_0 c X G) (by decide))) (.nil)), .nil, .nil, (.cons ((let ⟨h1, h2, h3, r, h4⟩ := propB_ok (fct c 80 rfl); .prop (sclsB_ok (fct c 28 rfl)) h1 h2 h3 h4 (fnr_p_Web_greatest_due_0 c X G) (by decide) (.nil))) ((.cons ((let ⟨h1, h2, h3, r, h4⟩ := propB_ok (fct c 79 rfl); .prop (sclsB_ok (fct c 28 rfl)) h1 h2 h3 h4 (fnr_p_Web_moving_0 c X G) (by decide) (.nil))) ((.cons ((let ⟨h1, h2, h3, r, h4⟩ := propB_ok (fct c 49 rfl); .prop (sclsB_ok (fct c 28 rfl)) h1 h2 h3 h4 (fnr_p_Web_size_0 c X G) (by decide) (.nil))) (.nil)))))), .nil, .nil, tabOk c⟩ chk_need_small_web⟩
theorem fnr_need_small_web_0 (c : Says K) (X : K.In base) (G : base.Ns mainGlobals mg) : FnG P w K mg base 3 (He.ga K "need_small_web") 1 m_need_small_web := by
  obtain ⟨fd, F, O⟩ := fok_need_small_web (P := P) (w := w) c X G
  have B : Binds K fd ((["web"] : List PySem.Str)) [] := F.bindsN fun _ _ _ _ _ _ us hl => match us, hl with | [_], _ => rfl
  exact fnr_all O B
theorem fok_need_row (c : Says K) (X : K.In base) (G : base.Ns mainGlobals mg) : ∃ fd, FunD K "need_row" "need_row" (defArgs (top 39)) (defBody (top 39)) (defScope (top 39)) (He5.DefA.dvs K dd_need_row) [] (He.ga K "need_row") fd ∧ FnK P w K mg base 3 (He.ga K "need_row") fd ((["web", "row", "most"] : List PySem.Str)) m_need_row := by
  obtain ⟨fd, F⟩ := c.def_ 28 rfl
  refine ⟨fd, F, def_ok (cc := cc_need_row) (tb := tb_need_row) (code := code_need_row) F sc_need_row rfl rfl ⟨bts c X G, .nil, .nil, .nil, .nil, (.cons ((let ⟨h1, h2, h3, r, h4⟩ := propB_ok (fct c 49 rfl); .prop (sclsB_ok (fct c 28 rfl)) h1 h2 h3 h4 (fnr_p_Web_size_0 c X G) (by decide) (.nil))) (.nil)), .nil, (.cons (excB_ok (fct c 54 rfl) (He.glo_ok X G (fct c 55 rfl))) (.nil)), tabOk c⟩ chk_need_row⟩
theorem fnr_need_row_0 (c : Says K) (X : K.In base) (G : base.Ns mainGlobals mg) : FnG P w K mg base 3 (He.ga K "need_row") 3 m_need_row := by
  obtain ⟨fd, F, O⟩ := fok_need_row (P := P) (w := w) c X G
  obtain ⟨ds, hd, B⟩ := F.binds1 (ps := (["web", "row", "most"] : List PySem.Str)) 3 1 (List.cons_ne_nil _ _) rfl (fun T kV doc pm an cdv ct us its hl hi => match us, its, hl, hi with | [_, _, _], [_], _, _ => ⟨_, rfl, rfl⟩)
  cases hd
  exact fnr_all O B
theorem fnr_need_row_1 (c : Says K) (X : K.In base) (G : base.Ns mainGlobals mg) : FnG P w K mg base 3 (He.ga K "need_row") 2 (dfl m_need_row [.non]) := by
  obtain ⟨fd, F, O⟩ := fok_need_row (P := P) (w := w) c X G
  obtain ⟨ds, hd, B⟩ := F.binds1 (ps := (["web", "row", "most"] : List PySem.Str)) 2 0 (List.cons_ne_nil _ _) rfl (fun T kV doc pm an cdv ct us its hl hi => match us, its, hl, hi with | [_, _], [_], _, _ => ⟨_, rfl, rfl⟩)
  exact fnr_of (dvs := [.non]) (dv := [.non]) O B hd (fun m n H => ⟨RelDs.cons rfl (RelDs.nil), rfl⟩) rfl
theorem fok_need_parts_from (c : Says K) (X : K.In base) (G : base.Ns mainGlobals mg) : ∃ fd, FunD K "need_parts_from" "need_parts_from" (defArgs (top 59)) (defBody (top 59)) (defScope (top 59)) (He5.DefA.dvs K dd_need_parts_from) [] (He.ga K "need_parts_from") fd ∧ FnK P w K mg base 4 (He.ga K "need_parts_from") fd ((["web", "row", "least", "what"] : List PySem.Str)) m_need_parts_from := by
  obtain ⟨fd, F⟩ := c.def_ 29 rfl
  refine ⟨fd, F, def_ok (cc := cc_need_parts_from) (tb := tb_need_parts_from) (code := code_need_parts_from) F sc_need_parts_from rfl rfl ⟨bts c X G, .nil, (.cons (He.glo_ok X G (fct c 68 rfl)) (fct c 69 rfl) (callK_fz (callK_of (fnr_need_from_0 c X G) (by decide))) ((.cons (He.glo_ok X G (fct c 81 rfl)) (fct c 82 rfl) (callK_fz (callK_of (fnr_need_row_1 c X G) (by decide))) (.nil)))), .nil, .nil, .nil, .nil, .nil, tabOk c⟩ chk_need_parts_from⟩
theorem fnr_need_parts_from_0 (c : Says K) (X : K.In base) (G : base.Ns mainGlobals mg) : FnG P w K mg base 4 (He.ga K "need_parts_from") 4 m_need_parts_from := by
  obtain ⟨fd, F, O⟩ := fok_need_parts_from (P := P) (w := w) c X G
  have B : Binds K fd ((["web", "row", "least", "what"] : List PySem.Str)) [] := F.bindsN fun _ _ _ _ _ _ us hl => match us, hl with | [_, _, _, _], _ => rfl
  exact fnr_all O B
theorem fok_table_numbers (c : Says K) (X : K.In base) (G : base.Ns mainGlobals mg) : ∃ fd, FunD K "table_numbers" "table_numbers" (defArgs (top 77)) (defBody (top 77)) (defScope (top 77)) (He5.DefA.dvs K dd_table_numbers) [] (He.ga K "table_numbers") fd ∧ FnK P w K mg base 5 (He.ga K "table_numbers") fd ((["web", "start", "period", "slopes", "rows", "ranks"] : List PySem.Str)) m_table_numbers := by
  obtain ⟨fd, F⟩ := c.def_ 30 rfl
  refine ⟨fd, F, def_ok (cc := cc_table_numbers) (tb := tb_table_numbers) (code := code_table_numbers) F sc_table_numbers rfl rfl ⟨bts c X G, .nil, (.cons (He.glo_ok X G (fct c 83 rfl)) (fct c 84 rfl) (callK_fz (callK_of (fnr_need_parts_from_0 c X G) (by decide))) ((.cons (He.glo_ok X G (fct c 81 rfl)) (fct c 82 rfl) (callK_fz (callK_of (fnr_need_row_0 c X G) (by decide))) ((.cons (He.glo_ok X G (fct c 68 rfl)) (fct c 69 rfl) (callK_fz (callK_of (fnr_need_from_0 c X G) (by decide))) (.nil)))))), .nil, .nil, .nil, .nil, (.cons (excB_ok (fct c 54 rfl) (He.glo_ok X G (fct c 55 rfl))) (.nil)), tabOk c⟩ chk_table_numbers⟩
theorem fnr_table_numbers_0 (c : Says K) (X : K.In base) (G : base.Ns mainGlobals mg) : FnG P w K mg base 5 (He.ga K "table_numbers") 6 m_table_numbers := by
  obtain ⟨fd, F, O⟩ := fok_table_numbers (P := P) (w := w) c X G
  have B : Binds K fd ((["web", "start", "period", "slopes", "rows", "ranks"] : List PySem.Str)) [] := F.bindsN fun _ _ _ _ _ _ us hl => match us, hl with | [_, _, _, _, _, _], _ => rfl
  exact fnr_all O B
theorem fok_need_list (c : Says K) (X : K.In base) (G : base.Ns mainGlobals mg) : ∃ fd, FunD K "need_list" "need_list" (defArgs (top 10)) (defBody (top 10)) (defScope (top 10)) (He5.DefA.dvs K dd_need_list) [] (He.ga K "need_list") fd ∧ FnK P w K mg base 1 (He.ga K "need_list") fd ((["thing", "what"] : List PySem.Str)) m_need_list := by
  obtain ⟨fd, F⟩ := c.def_ 31 rfl
  refine ⟨fd, F, def_ok (cc := cc_need_list) (tb := tb_need_list) (code := code_need_list) F sc_need_list rfl rfl ⟨bts c X G, .nil, .nil, .nil, .nil, .nil, .nil, (.cons (excB_ok (fct c 60 rfl) (He.glo_ok X G (fct c 61 rfl))) (.nil)), tabOk c⟩ chk_need_list⟩
theorem fnr_need_list_0 (c : Says K) (X : K.In base) (G : base.Ns mainGlobals mg) : FnG P w K mg base 1 (He.ga K "need_list") 2 m_need_list := by
  obtain ⟨fd, F, O⟩ := fok_need_list (P := P) (w := w) c X G
  have B : Binds K fd ((["thing", "what"] : List PySem.Str)) [] := F.bindsN fun _ _ _ _ _ _ us hl => match us, hl with | [_, _], _ => rfl
  exact fnr_all O B
theorem fok_need_integers (c : Says K) (X : K.In base) (G : base.Ns mainGlobals mg) : ∃ fd, FunD K "need_integers" "need_integers" (defArgs (top 14)) (defBody (top 14)) (defScope (top 14)) (He5.DefA.dvs K dd_need_integers) [] (He.ga K "need_integers") fd ∧ FnK P w K mg base 3 (He.ga K "need_integers") fd ((["thing", "what"] : List PySem.Str)) m_need_integers := by
  obtain ⟨fd, F⟩ := c.def_ 32 rfl
  refine ⟨fd, F, def_ok (cc := cc_need_integers) (tb := tb_need_integers) (code := code_need_integers) F sc_need_integers rfl rfl ⟨bts c X G, .nil, (.cons (He.glo_ok X G (fct c 64 rfl)) (fct c 65 rfl) (callK_fz (callK_of (fnr_need_integer_0 c X G) (by decide))) ((.cons (He.glo_ok X G (fct c 85 rfl)) (fct c 86 rfl) (callK_fz (callK_of (fnr_need_list_0 c X G) (by decide))) (.nil)))), .nil, .nil, .nil, .nil, .nil, tabOk c⟩ chk_need_integers⟩
theorem fnr_need_integers_0 (c : Says K) (X : K.In base) (G : base.Ns mainGlobals mg) : FnG P w K mg base 3 (He.ga K "need_integers") 2 m_need_integers := by
  obtain ⟨fd, F, O⟩ := fok_need_integers (P := P) (w := w) c X G
  have B : Binds K fd ((["thing", "what"] : List PySem.Str)) [] := F.bindsN fun _ _ _ _ _ _ us hl => match us, hl with | [_, _], _ => rfl
  exact fnr_all O B
theorem fok_table_kinds (c : Says K) (X : K.In base) (G : base.Ns mainGlobals mg) : ∃ fd, FunD K "table_kinds" "table_kinds" (defArgs (top 76)) (defBody (top 76)) (defScope (top 76)) (He5.DefA.dvs K dd_table_kinds) [] (He.ga K "table_kinds") fd ∧ FnK P w K mg base 4 (He.ga K "table_kinds") fd ((["web", "start", "period", "slopes", "rows", "ranks"] : List PySem.Str)) m_table_kinds := by
  obtain ⟨fd, F⟩ := c.def_ 33 rfl
  refine ⟨fd, F, def_ok (cc := cc_table_kinds) (tb := tb_table_kinds) (code := code_table_kinds) F sc_table_kinds rfl rfl ⟨bts c X G, .nil, (.cons (He.glo_ok X G (fct c 87 rfl)) (fct c 88 rfl) (callK_fz (callK_of (fnr_need_integers_0 c X G) (by decide))) ((.cons (He.glo_ok X G (fct c 85 rfl)) (fct c 86 rfl) (callK_fz (callK_of (fnr_need_list_0 c X G) (by decide))) ((.cons (He.glo_ok X G (fct c 64 rfl)) (fct c 65 rfl) (callK_fz (callK_of (fnr_need_integer_0 c X G) (by decide))) ((.cons (He.glo_ok X G (fct c 62 rfl)) (fct c 63 rfl) (callK_fz (callK_of (fnr_need_web_0 c X G) (by decide))) (.nil)))))))), .nil, .nil, .nil, .nil, .nil, tabOk c⟩ chk_table_kinds⟩
theorem fnr_table_kinds_0 (c : Says K) (X : K.In base) (G : base.Ns mainGlobals mg) : FnG P w K mg base 4 (He.ga K "table_kinds") 6 m_table_kinds := by
  obtain ⟨fd, F, O⟩ := fok_table_kinds (P := P) (w := w) c X G
  have B : Binds K fd ((["web", "start", "period", "slopes", "rows", "ranks"] : List PySem.Str)) [] := F.bindsN fun _ _ _ _ _ _ us hl => match us, hl with | [_, _, _, _, _, _], _ => rfl
  exact fnr_all O B
theorem fok_m_Tableu__initu_ (c : Says K) (X : K.In base) (G : base.Ns mainGlobals mg) : ∃ fd, FunD K "__init__" "Table.__init__" (defArgs (mth 78 1)) (defBody (mth 78 1)) (defScope (mth 78 1)) (He5.DefA.dvs K dd_m_Tableu__initu_) [] (He.ma K (He.ga K "Table") "__init__") fd ∧ FnK P w K mg base 6 (He.ma K (He.ga K "Table") "__init__") fd ((["self", "web", "start", "period", "slopes", "rows", "ranks"] : List PySem.Str)) m_m_Tableu__initu_ := by
  obtain ⟨fd, F⟩ := c.def_ 34 rfl
  refine ⟨fd, F, def_ok (cc := cc_m_Tableu__initu_) (tb := tb_m_Tableu__initu_) (code := code_m_Tableu__initu_) F sc_m_Tableu__initu_ rfl rfl ⟨bts c X G, .nil, (.cons (He.glo_ok X G (fct c 93 rfl)) (fct c 94 rfl) (callK_fz (callK_of (fnr_need_small_web_0 c X G) (by decide))) ((.cons (He.glo_ok X G (fct c 91 rfl)) (fct c 92 rfl) (callK_fz (callK_of (fnr_table_numbers_0 c X G) (by decide))) ((.cons (He.glo_ok X G (fct c 89 rfl)) (fct c 90 rfl) (callK_fz (callK_of (fnr_table_kinds_0 c X G) (by decide))) (.nil)))))), .nil, .nil, .nil, (.cons ((.cons (sclsB_ok (fct c 74 rfl)) (slotB_ok (fct c 98 rfl)) (.nil))) ((.cons ((.cons (sclsB_ok (fct c 74 rfl)) (slotB_ok (fct c 97 rfl)) (.nil))) ((.cons ((.cons (sclsB_ok (fct c 74 rfl)) (slotB_ok (fct c 75 rfl)) (.nil))) ((.cons ((.cons (sclsB_ok (fct c 74 rfl)) (slotB_ok (fct c 76 rfl)) (.nil))) ((.cons ((.cons (sclsB_ok (fct c 74 rfl)) (slotB_ok (fct c 96 rfl)) (.nil))) ((.cons ((.cons (sclsB_ok (fct c 74 rfl)) (slotB_ok (fct c 95 rfl)) (.nil))) (.nil)))))))))))), .nil, tabOk c⟩ chk_m_Tableu__initu_⟩
theorem mk_m_Tableu__initu__0 (c : Says K) (X : K.In base) (G : base.Ns mainGlobals mg) {k : Nat} (hk : 7 ≤ k) : CallK P w K mg base (cad K) k (He.ga K "Table") 6 (mkNew 1 6 (dfl m_m_Tableu__initu_ [])) := by
  obtain ⟨fd, F, O⟩ := fok_m_Tableu__initu_ (P := P) (w := w) c X G
  have B : Binds K fd ((["self", "web", "start", "period", "slopes", "rows", "ranks"] : List PySem.Str)) [] := F.bindsN fun _ _ _ _ _ _ us hl => match us, hl with | [_, _, _, _, _, _, _], _ => rfl
  exact callK_make (z := 1) (dvs := []) (dv := []) (mkB_ok (fct c 99 rfl)) O hk B .nil (fun m n H => ⟨RelDs.nil, rfl⟩) rfl
theorem fok_fall_out (c : Says K) (X : K.In base) (G : base.Ns mainGlobals mg) : ∃ fd, FunD K "fall_out" "fall_out" (defArgs (top 57)) (defBody (top 57)) (defScope (top 57)) (He5.DefA.dvs K dd_fall_out) [] (He.ga K "fall_out") fd ∧ FnK P w K mg base 5 (He.ga K "fall_out") fd ((["web", "k", "row"] : List PySem.Str)) m_fall_out := by
  obtain ⟨fd, F⟩ := c.def_ 35 rfl
  refine ⟨fd, F, def_ok (cc := cc_fall_out) (tb := tb_fall_out) (code := code_fall_out) F sc_fall_out rfl rfl ⟨bts c X G, .nil, (.cons (He.glo_ok X G (fct c 46 rfl)) (fct c 47 rfl) (callK_fz (callK_of (fnr_price_at_0 c X G) (by decide))) ((.cons (He.glo_ok X G (fct c 44 rfl)) (fct c 45 rfl) (callK_fz (callK_of (fnr_due_row_0 c X G) (by decide))) (.nil)))), .nil, .nil, (.cons ((let ⟨h1, h2, h3, r, h4⟩ := propB_ok (fct c 49 rfl); .prop (sclsB_ok (fct c 28 rfl)) h1 h2 h3 h4 (fnr_p_Web_size_0 c X G) (by decide) (.nil))) ((.cons ((let ⟨h1, h2, h3, r, h4⟩ := propB_ok (fct c 48 rfl); .prop (sclsB_ok (fct c 28 rfl)) h1 h2 h3 h4 (fnr_p_Web_dues_0 c X G) (by decide) (.nil))) (.nil)))), .nil, .nil, tabOk c⟩ chk_fall_out⟩
theorem fnr_fall_out_0 (c : Says K) (X : K.In base) (G : base.Ns mainGlobals mg) : FnG P w K mg base 5 (He.ga K "fall_out") 3 m_fall_out := by
  obtain ⟨fd, F, O⟩ := fok_fall_out (P := P) (w := w) c X G
  have B : Binds K fd ((["web", "k", "row"] : List PySem.Str)) [] := F.bindsN fun _ _ _ _ _ _ us hl => match us, hl with | [_, _, _], _ => rfl
  exact fnr_all O B
theorem fok_least_ranks (c : Says K) (X : K.In base) (G : base.Ns mainGlobals mg) : ∃ fd, FunD K "least_ranks" "least_ranks" (defArgs (top 68)) (defBody (top 68)) (defScope (top 68)) (He5.DefA.dvs K dd_least_ranks) [] (He.ga K "least_ranks") fd ∧ FnK P w K mg base 6 (He.ga K "least_ranks") fd ((["web", "rows", "known", "k"] : List PySem.Str)) m_least_ranks := by
  obtain ⟨fd, F⟩ := c.def_ 36 rfl
  refine ⟨fd, F, def_ok (cc := cc_least_ranks) (tb := tb_least_ranks) (code := code_least_ranks) F sc_least_ranks rfl rfl ⟨bts c X G, .nil, (.cons (He.glo_ok X G (fct c 100 rfl)) (fct c 101 rfl) (callK_fz (callK_of (fnr_fall_out_0 c X G) (by decide))) (.nil)), .nil, .nil, .nil, .nil, .nil, tabOk c⟩ chk_least_ranks⟩
theorem fnr_least_ranks_0 (c : Says K) (X : K.In base) (G : base.Ns mainGlobals mg) : FnG P w K mg base 6 (He.ga K "least_ranks") 4 m_least_ranks := by
  obtain ⟨fd, F, O⟩ := fok_least_ranks (P := P) (w := w) c X G
  have B : Binds K fd ((["web", "rows", "known", "k"] : List PySem.Str)) [] := F.bindsN fun _ _ _ _ _ _ us hl => match us, hl with | [_, _, _, _], _ => rfl
  exact fnr_all O B
theorem fok_slope_orders (c : Says K) (X : K.In base) (G : base.Ns mainGlobals mg) : ∃ fd, FunD K "slope_orders" "slope_orders" (defArgs (top 61)) (defBody (top 61)) (defScope (top 61)) (He5.DefA.dvs K dd_slope_orders) [] (He.ga K "slope_orders") fd ∧ FnK P w K mg base 4 (He.ga K "slope_orders") fd ((["web", "row", "slopes", "stand"] : List PySem.Str)) m_slope_orders := by
  obtain ⟨fd, F⟩ := c.def_ 37 rfl
  refine ⟨fd, F, def_ok (cc := cc_slope_orders) (tb := tb_slope_orders) (code := code_slope_orders) F sc_slope_orders rfl rfl ⟨bts c X G, .nil, (.cons (He.glo_ok X G (fct c 36 rfl)) (fct c 37 rfl) (callK_fz (callK_of (fnr_price_high_0 c X G) (by decide))) ((.cons (He.glo_ok X G (fct c 34 rfl)) (fct c 35 rfl) (callK_fz (callK_of (fnr_price_low_0 c X G) (by decide))) (.nil)))), .nil, .nil, (.cons ((let ⟨h1, h2, h3, r, h4⟩ := propB_ok (fct c 31 rfl); .prop (sclsB_ok (fct c 28 rfl)) h1 h2 h3 h4 (fnr_p_Web_second_0 c X G) (by decide) (.nil))) ((.cons ((let ⟨h1, h2, h3, r, h4⟩ := propB_ok (fct c 33 rfl); .prop (sclsB_ok (fct c 28 rfl)) h1 h2 h3 h4 (fnr_p_Web_first_0 c X G) (by decide) (.nil))) (.nil)))), .nil, .nil, tabOk c⟩ chk_slope_orders⟩
theorem fnr_slope_orders_0 (c : Says K) (X : K.In base) (G : base.Ns mainGlobals mg) : FnG P w K mg base 4 (He.ga K "slope_orders") 4 m_slope_orders := by
  obtain ⟨fd, F, O⟩ := fok_slope_orders (P := P) (w := w) c X G
  have B : Binds K fd ((["web", "row", "slopes", "stand"] : List PySem.Str)) [] := F.bindsN fun _ _ _ _ _ _ us hl => match us, hl with | [_, _, _, _], _ => rfl
  exact fnr_all O B
theorem fok_slope_twice (c : Says K) (X : K.In base) (G : base.Ns mainGlobals mg) : ∃ fd, FunD K "slope_twice" "slope_twice" (defArgs (top 60)) (defBody (top 60)) (defScope (top 60)) (He5.DefA.dvs K dd_slope_twice) [] (He.ga K "slope_twice") fd ∧ FnK P w K mg base 4 (He.ga K "slope_twice") fd ((["web", "m", "slopes", "stand"] : List PySem.Str)) m_slope_twice := by
  obtain ⟨fd, F⟩ := c.def_ 38 rfl
  refine ⟨fd, F, def_ok (cc := cc_slope_twice) (tb := tb_slope_twice) (code := code_slope_twice) F sc_slope_twice rfl rfl ⟨bts c X G, .nil, (.cons (He.glo_ok X G (fct c 36 rfl)) (fct c 37 rfl) (callK_fz (callK_of (fnr_price_high_0 c X G) (by decide))) ((.cons (He.glo_ok X G (fct c 34 rfl)) (fct c 35 rfl) (callK_fz (callK_of (fnr_price_low_0 c X G) (by decide))) (.nil)))), .nil, .nil, (.cons ((let ⟨h1, h2, h3, r, h4⟩ := propB_ok (fct c 40 rfl); .prop (sclsB_ok (fct c 28 rfl)) h1 h2 h3 h4 (fnr_p_Web_marks_0 c X G) (by decide) (.nil))) ((.cons ((let ⟨h1, h2, h3, r, h4⟩ := propB_ok (fct c 33 rfl); .prop (sclsB_ok (fct c 28 rfl)) h1 h2 h3 h4 (fnr_p_Web_first_0 c X G) (by decide) (.nil))) (.nil)))), .nil, .nil, tabOk c⟩ chk_slope_twice⟩
theorem fnr_slope_twice_0 (c : Says K) (X : K.In base) (G : base.Ns mainGlobals mg) : FnG P w K mg base 4 (He.ga K "slope_twice") 4 m_slope_twice := by
  obtain ⟨fd, F, O⟩ := fok_slope_twice (P := P) (w := w) c X G
  have B : Binds K fd ((["web", "m", "slopes", "stand"] : List PySem.Str)) [] := F.bindsN fun _ _ _ _ _ _ us hl => match us, hl with | [_, _, _, _], _ => rfl
  exact fnr_all O B
theorem fok_has_due_range (c : Says K) (X : K.In base) (G : base.Ns mainGlobals mg) : ∃ fd, FunD K "has_due_range" "has_due_range" (defArgs (top 18)) (defBody (top 18)) (defScope (top 18)) (He5.DefA.dvs K dd_has_due_range) [] (He.ga K "has_due_range") fd ∧ FnK P w K mg base 1 (He.ga K "has_due_range") fd ((["due"] : List PySem.Str)) m_has_due_range := by
  obtain ⟨fd, F⟩ := c.def_ 39 rfl
  refine ⟨fd, F, def_ok (cc := cc_has_due_range) (tb := tb_has_due_range) (code := code_has_due_range) F sc_has_due_range rfl rfl ⟨bts c X G, .nil, .nil, .nil, .nil, .nil, .nil, .nil, tabOk c⟩ chk_has_due_range⟩
theorem fnr_has_due_range_0 (c : Says K) (X : K.In base) (G : base.Ns mainGlobals mg) : FnG P w K mg base 1 (He.ga K "has_due_range") 1 m_has_due_range := by
  obtain ⟨fd, F, O⟩ := fok_has_due_range (P := P) (w := w) c X G
  have B : Binds K fd ((["due"] : List PySem.Str)) [] := F.bindsN fun _ _ _ _ _ _ us hl => match us, hl with | [_], _ => rfl
  exact fnr_all O B
theorem fok_need_due (c : Says K) (X : K.In base) (G : base.Ns mainGlobals mg) : ∃ fd, FunD K "need_due" "need_due" (defArgs (top 20)) (defBody (top 20)) (defScope (top 20)) (He5.DefA.dvs K dd_need_due) [] (He.ga K "need_due") fd ∧ FnK P w K mg base 2 (He.ga K "need_due") fd ((["due"] : List PySem.Str)) m_need_due := by
  obtain ⟨fd, F⟩ := c.def_ 40 rfl
  refine ⟨fd, F, def_ok (cc := cc_need_due) (tb := tb_need_due) (code := code_need_due) F sc_need_due rfl rfl ⟨bts c X G, (let ⟨t, h⟩ := He.int_ok X G (fct c 23 rfl); .cons h (show L2.RelV (.int 10000000000000000000000000000000000000000) (.int _ t) from ⟨t, rfl⟩) (fun _ _ _ _ => ⟨rfl, rfl⟩) (.nil)), (.cons (He.glo_ok X G (fct c 70 rfl)) (fct c 71 rfl) (callK_fz (callK_of (fnr_need_up_to_0 c X G) (by decide))) ((.cons (He.glo_ok X G (fct c 102 rfl)) (fct c 103 rfl) (callK_fz (callK_of (fnr_has_due_range_0 c X G) (by decide))) (.nil)))), .nil, .nil, .nil, .nil, (.cons (excB_ok (fct c 54 rfl) (He.glo_ok X G (fct c 55 rfl))) (.nil)), tabOk c⟩ chk_need_due⟩
theorem fnr_need_due_0 (c : Says K) (X : K.In base) (G : base.Ns mainGlobals mg) : FnG P w K mg base 2 (He.ga K "need_due") 1 m_need_due := by
  obtain ⟨fd, F, O⟩ := fok_need_due (P := P) (w := w) c X G
  have B : Binds K fd ((["due"] : List PySem.Str)) [] := F.bindsN fun _ _ _ _ _ _ us hl => match us, hl with | [_], _ => rfl
  exact fnr_all O B
theorem fok_has_due_kind (c : Says K) (X : K.In base) (G : base.Ns mainGlobals mg) : ∃ fd, FunD K "has_due_kind" "has_due_kind" (defArgs (top 17)) (defBody (top 17)) (defScope (top 17)) (He5.DefA.dvs K dd_has_due_kind) [] (He.ga K "has_due_kind") fd ∧ FnK P w K mg base 2 (He.ga K "has_due_kind") fd ((["due"] : List PySem.Str)) m_has_due_kind := by
  obtain ⟨fd, F⟩ := c.def_ 41 rfl
  refine ⟨fd, F, def_ok (cc := cc_has_due_kind) (tb := tb_has_due_kind) (code := code_has_due_kind) F sc_has_due_kind rfl rfl ⟨bts c X G, .nil, (.cons (He.glo_ok X G (fct c 58 rfl)) (fct c 59 rfl) (callK_fz (callK_of (fnr_is_integer_0 c X G) (by decide))) (.nil)), .nil, .nil, .nil, .nil, .nil, tabOk c⟩ chk_has_due_kind⟩
theorem fnr_has_due_kind_0 (c : Says K) (X : K.In base) (G : base.Ns mainGlobals mg) : FnG P w K mg base 2 (He.ga K "has_due_kind") 1 m_has_due_kind := by
  obtain ⟨fd, F, O⟩ := fok_has_due_kind (P := P) (w := w) c X G
  have B : Binds K fd ((["due"] : List PySem.Str)) [] := F.bindsN fun _ _ _ _ _ _ us hl => match us, hl with | [_], _ => rfl
  exact fnr_all O B
theorem fok_need_due_kind (c : Says K) (X : K.In base) (G : base.Ns mainGlobals mg) : ∃ fd, FunD K "need_due_kind" "need_due_kind" (defArgs (top 19)) (defBody (top 19)) (defScope (top 19)) (He5.DefA.dvs K dd_need_due_kind) [] (He.ga K "need_due_kind") fd ∧ FnK P w K mg base 3 (He.ga K "need_due_kind") fd ((["due"] : List PySem.Str)) m_need_due_kind := by
  obtain ⟨fd, F⟩ := c.def_ 42 rfl
  refine ⟨fd, F, def_ok (cc := cc_need_due_kind) (tb := tb_need_due_kind) (code := code_need_due_kind) F sc_need_due_kind rfl rfl ⟨bts c X G, .nil, (.cons (He.glo_ok X G (fct c 104 rfl)) (fct c 105 rfl) (callK_fz (callK_of (fnr_has_due_kind_0 c X G) (by decide))) (.nil)), .nil, .nil, .nil, .nil, (.cons (excB_ok (fct c 60 rfl) (He.glo_ok X G (fct c 61 rfl))) (.nil)), tabOk c⟩ chk_need_due_kind⟩
theorem fnr_need_due_kind_0 (c : Says K) (X : K.In base) (G : base.Ns mainGlobals mg) : FnG P w K mg base 3 (He.ga K "need_due_kind") 1 m_need_due_kind := by
  obtain ⟨fd, F, O⟩ := fok_need_due_kind (P := P) (w := w) c X G
  have B : Binds K fd ((["due"] : List PySem.Str)) [] := F.bindsN fun _ _ _ _ _ _ us hl => match us, hl with | [_], _ => rfl
  exact fnr_all O B
theorem fok__look (c : Says K) (X : K.In base) (G : base.Ns mainGlobals mg) : ∃ fd, FunD K "_look" "_look" (defArgs (top 24)) (defBody (top 24)) (defScope (top 24)) (He5.DefA.dvs K dd__look) [] (He.ga K "_look") fd ∧ FnK P w K mg base 4 (He.ga K "_look") fd ((["due", "number", "least", "what"] : List PySem.Str)) m__look := by
  obtain ⟨fd, F⟩ := c.def_ 43 rfl
  refine ⟨fd, F, def_ok (cc := cc__look) (tb := tb__look) (code := code__look) F sc__look rfl rfl ⟨bts c X G, .nil, (.cons (He.glo_ok X G (fct c 108 rfl)) (fct c 109 rfl) (callK_fz (callK_of (fnr_need_due_0 c X G) (by decide))) ((.cons (He.glo_ok X G (fct c 68 rfl)) (fct c 69 rfl) (callK_fz (callK_of (fnr_need_from_0 c X G) (by decide))) ((.cons (He.glo_ok X G (fct c 102 rfl)) (fct c 103 rfl) (callK_fz (callK_of (fnr_has_due_range_0 c X G) (by decide))) ((.cons (He.glo_ok X G (fct c 64 rfl)) (fct c 65 rfl) (callK_fz (callK_of (fnr_need_integer_0 c X G) (by decide))) ((.cons (He.glo_ok X G (fct c 106 rfl)) (fct c 107 rfl) (callK_fz (callK_of (fnr_need_due_kind_0 c X G) (by decide))) (.nil)))))))))), .nil, .nil, .nil, .nil, (.cons (excB_ok (fct c 54 rfl) (He.glo_ok X G (fct c 55 rfl))) (.nil)), tabOk c⟩ chk__look⟩
theorem fnr__look_0 (c : Says K) (X : K.In base) (G : base.Ns mainGlobals mg) : FnG P w K mg base 4 (He.ga K "_look") 4 m__look := by
  obtain ⟨fd, F, O⟩ := fok__look (P := P) (w := w) c X G
  have B : Binds K fd ((["due", "number", "least", "what"] : List PySem.Str)) [] := F.bindsN fun _ _ _ _ _ _ us hl => match us, hl with | [_, _, _, _], _ => rfl
  exact fnr_all O B
theorem fok_due_slope (c : Says K) (X : K.In base) (G : base.Ns mainGlobals mg) : ∃ fd, FunD K "due_slope" "due_slope" (defArgs (top 25)) (defBody (top 25)) (defScope (top 25)) (He5.DefA.dvs K dd_due_slope) [] (He.ga K "due_slope") fd ∧ FnK P w K mg base 5 (He.ga K "due_slope") fd ((["due", "m"] : List PySem.Str)) m_due_slope := by
  obtain ⟨fd, F⟩ := c.def_ 44 rfl
  refine ⟨fd, F, def_ok (cc := cc_due_slope) (tb := tb_due_slope) (code := code_due_slope) F sc_due_slope rfl rfl ⟨bts c X G, .nil, (.cons (He.glo_ok X G (fct c 110 rfl)) (fct c 111 rfl) (callK_fz (callK_of (fnr__look_0 c X G) (by decide))) (.nil)), .nil, .nil, .nil, .nil, .nil, tabOk c⟩ chk_due_slope⟩
theorem fnr_due_slope_0 (c : Says K) (X : K.In base) (G : base.Ns mainGlobals mg) : FnG P w K mg base 5 (He.ga K "due_slope") 2 m_due_slope := by
  obtain ⟨fd, F, O⟩ := fok_due_slope (P := P) (w := w) c X G
  have B : Binds K fd ((["due", "m"] : List PySem.Str)) [] := F.bindsN fun _ _ _ _ _ _ us hl => match us, hl with | [_, _], _ => rfl
  exact fnr_all O B
theorem fok_slope_passes (c : Says K) (X : K.In base) (G : base.Ns mainGlobals mg) : ∃ fd, FunD K "slope_passes" "slope_passes" (defArgs (top 62)) (defBody (top 62)) (defScope (top 62)) (He5.DefA.dvs K dd_slope_passes) [] (He.ga K "slope_passes") fd ∧ FnK P w K mg base 6 (He.ga K "slope_passes") fd ((["web", "row", "ranks", "m", "slopes", "stand"] : List PySem.Str)) m_slope_passes := by
  obtain ⟨fd, F⟩ := c.def_ 45 rfl
  refine ⟨fd, F, def_ok (cc := cc_slope_passes) (tb := tb_slope_passes) (code := code_slope_passes) F sc_slope_passes rfl rfl ⟨bts c X G, .nil, (.cons (He.glo_ok X G (fct c 116 rfl)) (fct c 117 rfl) (callK_fz (callK_of (fnr_slope_orders_0 c X G) (by decide))) ((.cons (He.glo_ok X G (fct c 114 rfl)) (fct c 115 rfl) (callK_fz (callK_of (fnr_slope_twice_0 c X G) (by decide))) ((.cons (He.glo_ok X G (fct c 112 rfl)) (fct c 113 rfl) (callK_fz (callK_of (fnr_due_slope_0 c X G) (by decide))) (.nil)))))), .nil, .nil, (.cons ((let ⟨h1, h2, h3, r, h4⟩ := propB_ok (fct c 33 rfl); .prop (sclsB_ok (fct c 28 rfl)) h1 h2 h3 h4 (fnr_p_Web_first_0 c X G) (by decide) (.nil))) ((.cons ((let ⟨h1, h2, h3, r, h4⟩ := propB_ok (fct c 48 rfl); .prop (sclsB_ok (fct c 28 rfl)) h1 h2 h3 h4 (fnr_p_Web_dues_0 c X G) (by decide) (.nil))) (.nil)))), .nil, .nil, tabOk c⟩ chk_slope_passes⟩
theorem fnr_slope_passes_0 (c : Says K) (X : K.In base) (G : base.Ns mainGlobals mg) : FnG P w K mg base 6 (He.ga K "slope_passes") 6 m_slope_passes := by
  obtain ⟨fd, F, O⟩ := fok_slope_passes (P := P) (w := w) c X G
  have B : Binds K fd ((["web", "row", "ranks", "m", "slopes", "stand"] : List PySem.Str)) [] := F.bindsN fun _ _ _ _ _ _ us hl => match us, hl with | [_, _, _, _, _, _], _ => rfl
  exact fnr_all O B
theorem fok_least_repeats (c : Says K) (X : K.In base) (G : base.Ns mainGlobals mg) : ∃ fd, FunD K "least_repeats" "least_repeats" (defArgs (top 69)) (defBody (top 69)) (defScope (top 69)) (He5.DefA.dvs K dd_least_repeats) [] (He.ga K "least_repeats") fd ∧ FnK P w K mg base 7 (He.ga K "least_repeats") fd ((["web", "rows", "known", "start", "m"] : List PySem.Str)) m_least_repeats := by
  obtain ⟨fd, F⟩ := c.def_ 46 rfl
  refine ⟨fd, F, def_ok (cc := cc_least_repeats) (tb := tb_least_repeats) (code := code_least_repeats) F sc_least_repeats rfl rfl ⟨bts c X G, .nil, (.cons (He.glo_ok X G (fct c 120 rfl)) (fct c 121 rfl) (callK_fz (callK_of (fnr_slope_passes_0 c X G) (by decide))) ((.cons (He.glo_ok X G (fct c 118 rfl)) (fct c 119 rfl) (callK_fz (callK_of (fnr_least_ranks_0 c X G) (by decide))) (.nil)))), .nil, .nil, (.cons ((let ⟨h1, h2, h3, r, h4⟩ := propB_ok (fct c 49 rfl); .prop (sclsB_ok (fct c 28 rfl)) h1 h2 h3 h4 (fnr_p_Web_size_0 c X G) (by decide) (.nil))) ((.cons ((let ⟨h1, h2, h3, r, h4⟩ := propB_ok (fct c 80 rfl); .prop (sclsB_ok (fct c 28 rfl)) h1 h2 h3 h4 (fnr_p_Web_greatest_due_0 c X G) (by decide) (.nil))) (.nil)))), .nil, .nil, tabOk c⟩ chk_least_repeats⟩
theorem fnr_least_repeats_0 (c : Says K) (X : K.In base) (G : base.Ns mainGlobals mg) : FnG P w K mg base 7 (He.ga K "least_repeats") 5 m_least_repeats := by
  obtain ⟨fd, F, O⟩ := fok_least_repeats (P := P) (w := w) c X G
  have B : Binds K fd ((["web", "rows", "known", "start", "m"] : List PySem.Str)) [] := F.bindsN fun _ _ _ _ _ _ us hl => match us, hl with | [_, _, _, _, _], _ => rfl
  exact fnr_all O B
theorem fok_least_start (c : Says K) (X : K.In base) (G : base.Ns mainGlobals mg) : ∃ fd, FunD K "least_start" "least_start" (defArgs (top 70)) (defBody (top 70)) (defScope (top 70)) (He5.DefA.dvs K dd_least_start) [] (He.ga K "least_start") fd ∧ FnK P w K mg base 8 (He.ga K "least_start") fd ((["web", "rows", "known"] : List PySem.Str)) m_least_start := by
  obtain ⟨fd, F⟩ := c.def_ 47 rfl
  refine ⟨fd, F, def_ok (cc := cc_least_start) (tb := tb_least_start) (code := code_least_start) F sc_least_start rfl rfl ⟨bts c X G, .nil, (.cons (He.glo_ok X G (fct c 122 rfl)) (fct c 123 rfl) (callK_fz (callK_of (fnr_least_repeats_0 c X G) (by decide))) ((.cons (He.glo_ok X G (fct c 72 rfl)) (fct c 73 rfl) (callK_fz (callK_of (fnr_risen_0 c X G) (by decide))) (.nil)))), .nil, .nil, (.cons ((let ⟨h1, h2, h3, r, h4⟩ := propB_ok (fct c 79 rfl); .prop (sclsB_ok (fct c 28 rfl)) h1 h2 h3 h4 (fnr_p_Web_moving_0 c X G) (by decide) (.nil))) (.nil)), .nil, .nil, tabOk c⟩ chk_least_start⟩
theorem fnr_least_start_0 (c : Says K) (X : K.In base) (G : base.Ns mainGlobals mg) : FnG P w K mg base 8 (He.ga K "least_start") 3 m_least_start := by
  obtain ⟨fd, F, O⟩ := fok_least_start (P := P) (w := w) c X G
  have B : Binds K fd ((["web", "rows", "known"] : List PySem.Str)) [] := F.bindsN fun _ _ _ _ _ _ us hl => match us, hl with | [_, _, _], _ => rfl
  exact fnr_all O B
theorem fok_least_parts (c : Says K) (X : K.In base) (G : base.Ns mainGlobals mg) : ∃ fd, FunD K "least_parts" "least_parts" (defArgs (top 71)) (defBody (top 71)) (defScope (top 71)) (He5.DefA.dvs K dd_least_parts) [] (He.ga K "least_parts") fd ∧ FnK P w K mg base 9 (He.ga K "least_parts") fd ((["web"] : List PySem.Str)) m_least_parts := by
  obtain ⟨fd, F⟩ := c.def_ 48 rfl
  refine ⟨fd, F, def_ok (cc := cc_least_parts) (tb := tb_least_parts) (code := code_least_parts) F sc_least_parts rfl rfl ⟨bts c X G, .nil, (.cons (He.glo_ok X G (fct c 118 rfl)) (fct c 119 rfl) (callK_fz (callK_of (fnr_least_ranks_0 c X G) (by decide))) ((.cons (He.glo_ok X G (fct c 124 rfl)) (fct c 125 rfl) (callK_fz (callK_of (fnr_least_start_0 c X G) (by decide))) ((.cons (He.glo_ok X G (fct c 72 rfl)) (fct c 73 rfl) (callK_fz (callK_of (fnr_risen_0 c X G) (by decide))) (.nil)))))), .nil, .nil, (.cons ((let ⟨h1, h2, h3, r, h4⟩ := propB_ok (fct c 49 rfl); .prop (sclsB_ok (fct c 28 rfl)) h1 h2 h3 h4 (fnr_p_Web_size_0 c X G) (by decide) (.nil))) (.nil)), .nil, .nil, tabOk c⟩ chk_least_parts⟩
theorem fnr_least_parts_0 (c : Says K) (X : K.In base) (G : base.Ns mainGlobals mg) : FnG P w K mg base 9 (He.ga K "least_parts") 1 m_least_parts := by
  obtain ⟨fd, F, O⟩ := fok_least_parts (P := P) (w := w) c X G
  have B : Binds K fd ((["web"] : List PySem.Str)) [] := F.bindsN fun _ _ _ _ _ _ us hl => match us, hl with | [_], _ => rfl
  exact fnr_all O B
theorem fok_c_Table_least (c : Says K) (X : K.In base) (G : base.Ns mainGlobals mg) : ∃ fd, FunD K "least" "Table.least" (defArgs (mth 78 2)) (defBody (mth 78 2)) (defScope (mth 78 2)) (He5.DefA.dvs K dd_c_Table_least) [] (He5.wf K (He.ga K "Table") "classmethod" "least") fd ∧ FnK P w K mg base 10 (He5.wf K (He.ga K "Table") "classmethod" "least") fd ((["cls", "web"] : List PySem.Str)) m_c_Table_least := by
  obtain ⟨fd, F⟩ := c.def_ 49 rfl
  refine ⟨fd, F, def_ok (cc := cc_c_Table_least) (tb := tb_c_Table_least) (code := code_c_Table_least) F sc_c_Table_least rfl rfl ⟨bts c X G, .nil, (.cons (He.glo_ok X G (fct c 126 rfl)) (fct c 127 rfl) (callK_fz (callK_of (fnr_least_parts_0 c X G) (by decide))) ((.cons (He.glo_ok X G (fct c 93 rfl)) (fct c 94 rfl) (callK_fz (callK_of (fnr_need_small_web_0 c X G) (by decide))) ((.cons (He.glo_ok X G (fct c 62 rfl)) (fct c 63 rfl) (callK_fz (callK_of (fnr_need_web_0 c X G) (by decide))) (.nil)))))), .nil, (.cons (.cons (mkB_ok (fct c 99 rfl)).kp (callK_fz (mk_m_Tableu__initu__0 c X G (by decide))) .nil) (.nil)), .nil, .nil, .nil, tabOk c⟩ chk_c_Table_least⟩
theorem fnr_c_Table_least_0 (c : Says K) (X : K.In base) (G : base.Ns mainGlobals mg) : FnG P w K mg base 10 (He5.wf K (He.ga K "Table") "classmethod" "least") 2 m_c_Table_least := by
  obtain ⟨fd, F, O⟩ := fok_c_Table_least (P := P) (w := w) c X G
  have B : Binds K fd ((["cls", "web"] : List PySem.Str)) [] := F.bindsN fun _ _ _ _ _ _ us hl => match us, hl with | [_, _], _ => rfl
  exact fnr_all O B
theorem fok_kept_due (c : Says K) (X : K.In base) (G : base.Ns mainGlobals mg) : ∃ fd, FunD K "kept_due" "kept_due" (defArgs (top 21)) (defBody (top 21)) (defScope (top 21)) (He5.DefA.dvs K dd_kept_due) [] (He.ga K "kept_due") fd ∧ FnK P w K mg base 1 (He.ga K "kept_due") fd ((["due"] : List PySem.Str)) m_kept_due := by
  obtain ⟨fd, F⟩ := c.def_ 50 rfl
  refine ⟨fd, F, def_ok (cc := cc_kept_due) (tb := tb_kept_due) (code := code_kept_due) F sc_kept_due rfl rfl ⟨bts c X G, .nil, .nil, .nil, .nil, .nil, .nil, .nil, tabOk c⟩ chk_kept_due⟩
theorem fnr_kept_due_0 (c : Says K) (X : K.In base) (G : base.Ns mainGlobals mg) : FnG P w K mg base 1 (He.ga K "kept_due") 1 m_kept_due := by
  obtain ⟨fd, F, O⟩ := fok_kept_due (P := P) (w := w) c X G
  have B : Binds K fd ((["due"] : List PySem.Str)) [] := F.bindsN fun _ _ _ _ _ _ us hl => match us, hl with | [_], _ => rfl
  exact fnr_all O B
theorem fok__look_stand (c : Says K) (X : K.In base) (G : base.Ns mainGlobals mg) : ∃ fd, FunD K "_look_stand" "_look_stand" (defArgs (top 31)) (defBody (top 31)) (defScope (top 31)) (He5.DefA.dvs K dd__look_stand) [] (He.ga K "_look_stand") fd ∧ FnK P w K mg base 2 (He.ga K "_look_stand") fd ((["size", "first", "second", "mark", "due"] : List PySem.Str)) m__look_stand := by
  obtain ⟨fd, F⟩ := c.def_ 51 rfl
  refine ⟨fd, F, def_ok (cc := cc__look_stand) (tb := tb__look_stand) (code := code__look_stand) F sc__look_stand rfl rfl ⟨bts c X G, .nil, (.cons (He.glo_ok X G (fct c 102 rfl)) (fct c 103 rfl) (callK_fz (callK_of (fnr_has_due_range_0 c X G) (by decide))) (.nil)), .nil, .nil, .nil, .nil, (.cons (excB_ok (fct c 128 rfl) (He.glo_ok X G (fct c 129 rfl))) (.nil)), tabOk c⟩ chk__look_stand⟩
theorem fnr__look_stand_0 (c : Says K) (X : K.In base) (G : base.Ns mainGlobals mg) : FnG P w K mg base 2 (He.ga K "_look_stand") 5 m__look_stand := by
  obtain ⟨fd, F, O⟩ := fok__look_stand (P := P) (w := w) c X G
  have B : Binds K fd ((["size", "first", "second", "mark", "due"] : List PySem.Str)) [] := F.bindsN fun _ _ _ _ _ _ us hl => match us, hl with | [_, _, _, _, _], _ => rfl
  exact fnr_all O B
theorem fok__look_web (c : Says K) (X : K.In base) (G : base.Ns mainGlobals mg) : ∃ fd, FunD K "_look_web" "_look_web" (defArgs (top 32)) (defBody (top 32)) (defScope (top 32)) (He5.DefA.dvs K dd__look_web) [] (He.ga K "_look_web") fd ∧ FnK P w K mg base 3 (He.ga K "_look_web") fd ((["first", "second", "marks", "dues"] : List PySem.Str)) m__look_web := by
  obtain ⟨fd, F⟩ := c.def_ 52 rfl
  refine ⟨fd, F, def_ok (cc := cc__look_web) (tb := tb__look_web) (code := code__look_web) F sc__look_web rfl rfl ⟨bts c X G, (let ⟨t, h⟩ := He.int_ok X G (fct c 23 rfl); .cons h (show L2.RelV (.int 10000000000000000000000000000000000000000) (.int _ t) from ⟨t, rfl⟩) (fun _ _ _ _ => ⟨rfl, rfl⟩) ((let ⟨t, h⟩ := He.int_ok X G (fct c 24 rfl); .cons h (show L2.RelV (.int 60) (.int _ t) from ⟨t, rfl⟩) (fun _ _ _ _ => ⟨rfl, rfl⟩) (.nil)))), (.cons (He.glo_ok X G (fct c 70 rfl)) (fct c 71 rfl) (callK_fz (callK_of (fnr_need_up_to_0 c X G) (by decide))) ((.cons (He.glo_ok X G (fct c 130 rfl)) (fct c 131 rfl) (callK_fz (callK_of (fnr__look_stand_0 c X G) (by decide))) (.nil)))), .nil, .nil, .nil, .nil, (.cons (excB_ok (fct c 128 rfl) (He.glo_ok X G (fct c 129 rfl))) (.nil)), tabOk c⟩ chk__look_web⟩
theorem fnr__look_web_0 (c : Says K) (X : K.In base) (G : base.Ns mainGlobals mg) : FnG P w K mg base 3 (He.ga K "_look_web") 4 m__look_web := by
  obtain ⟨fd, F, O⟩ := fok__look_web (P := P) (w := w) c X G
  have B : Binds K fd ((["first", "second", "marks", "dues"] : List PySem.Str)) [] := F.bindsN fun _ _ _ _ _ _ us hl => match us, hl with | [_, _, _, _], _ => rfl
  exact fnr_all O B
theorem fok__look_kinds (c : Says K) (X : K.In base) (G : base.Ns mainGlobals mg) : ∃ fd, FunD K "_look_kinds" "_look_kinds" (defArgs (top 30)) (defBody (top 30)) (defScope (top 30)) (He5.DefA.dvs K dd__look_kinds) [] (He.ga K "_look_kinds") fd ∧ FnK P w K mg base 4 (He.ga K "_look_kinds") fd ((["first", "second", "marks", "dues"] : List PySem.Str)) m__look_kinds := by
  obtain ⟨fd, F⟩ := c.def_ 53 rfl
  refine ⟨fd, F, def_ok (cc := cc__look_kinds) (tb := tb__look_kinds) (code := code__look_kinds) F sc__look_kinds rfl rfl ⟨bts c X G, .nil, (.cons (He.glo_ok X G (fct c 104 rfl)) (fct c 105 rfl) (callK_fz (callK_of (fnr_has_due_kind_0 c X G) (by decide))) ((.cons (He.glo_ok X G (fct c 85 rfl)) (fct c 86 rfl) (callK_fz (callK_of (fnr_need_list_0 c X G) (by decide))) ((.cons (He.glo_ok X G (fct c 87 rfl)) (fct c 88 rfl) (callK_fz (callK_of (fnr_need_integers_0 c X G) (by decide))) (.nil)))))), .nil, .nil, .nil, .nil, (.cons (excB_ok (fct c 60 rfl) (He.glo_ok X G (fct c 61 rfl))) (.nil)), tabOk c⟩ chk__look_kinds⟩
theorem fnr__look_kinds_0 (c : Says K) (X : K.In base) (G : base.Ns mainGlobals mg) : FnG P w K mg base 4 (He.ga K "_look_kinds") 4 m__look_kinds := by
  obtain ⟨fd, F, O⟩ := fok__look_kinds (P := P) (w := w) c X G
  have B : Binds K fd ((["first", "second", "marks", "dues"] : List PySem.Str)) [] := F.bindsN fun _ _ _ _ _ _ us hl => match us, hl with | [_, _, _, _], _ => rfl
  exact fnr_all O B
theorem fok_m_Webu__initu_ (c : Says K) (X : K.In base) (G : base.Ns mainGlobals mg) : ∃ fd, FunD K "__init__" "Web.__init__" (defArgs (mth 33 1)) (defBody (mth 33 1)) (defScope (mth 33 1)) (He5.DefA.dvs K dd_m_Webu__initu_) [] (He.ma K (He.ga K "Web") "__init__") fd ∧ FnK P w K mg base 5 (He.ma K (He.ga K "Web") "__init__") fd ((["self", "first", "second", "marks", "dues"] : List PySem.Str)) m_m_Webu__initu_ := by
  obtain ⟨fd, F⟩ := c.def_ 54 rfl
  refine ⟨fd, F, def_ok (cc := cc_m_Webu__initu_) (tb := tb_m_Webu__initu_) (code := code_m_Webu__initu_) F sc_m_Webu__initu_ rfl rfl ⟨bts c X G, .nil, (.cons (He.glo_ok X G (fct c 136 rfl)) (fct c 137 rfl) (callK_fz (callK_of (fnr_kept_due_0 c X G) (by decide))) ((.cons (He.glo_ok X G (fct c 134 rfl)) (fct c 135 rfl) (callK_fz (callK_of (fnr__look_web_0 c X G) (by decide))) ((.cons (He.glo_ok X G (fct c 132 rfl)) (fct c 133 rfl) (callK_fz (callK_of (fnr__look_kinds_0 c X G) (by decide))) (.nil)))))), .nil, .nil, (.cons ((.slot (sclsB_ok (fct c 28 rfl)) (slotB_ok (fct c 43 rfl)) (.nil))) (.nil)), (.cons ((.cons (sclsB_ok (fct c 28 rfl)) (slotB_ok (fct c 77 rfl)) (.nil))) ((.cons ((.cons (sclsB_ok (fct c 28 rfl)) (slotB_ok (fct c 78 rfl)) (.nil))) ((.cons ((.cons (sclsB_ok (fct c 28 rfl)) (slotB_ok (fct c 138 rfl)) (.nil))) ((.cons ((.cons (sclsB_ok (fct c 28 rfl)) (slotB_ok (fct c 43 rfl)) (.nil))) ((.cons ((.cons (sclsB_ok (fct c 28 rfl)) (slotB_ok (fct c 29 rfl)) (.nil))) ((.cons ((.cons (sclsB_ok (fct c 28 rfl)) (slotB_ok (fct c 30 rfl)) (.nil))) ((.cons ((.cons (sclsB_ok (fct c 28 rfl)) (slotB_ok (fct c 32 rfl)) (.nil))) (.nil)))))))))))))), .nil, tabOk c⟩ chk_m_Webu__initu_⟩
theorem mk_m_Webu__initu__0 (c : Says K) (X : K.In base) (G : base.Ns mainGlobals mg) {k : Nat} (hk : 6 ≤ k) : CallK P w K mg base (cad K) k (He.ga K "Web") 4 (mkNew 0 7 (dfl m_m_Webu__initu_ [])) := by
  obtain ⟨fd, F, O⟩ := fok_m_Webu__initu_ (P := P) (w := w) c X G
  have B : Binds K fd ((["self", "first", "second", "marks", "dues"] : List PySem.Str)) [] := F.bindsN fun _ _ _ _ _ _ us hl => match us, hl with | [_, _, _, _, _], _ => rfl
  exact callK_make (z := 0) (dvs := []) (dv := []) (mkB_ok (fct c 139 rfl)) O hk B .nil (fun m n H => ⟨RelDs.nil, rfl⟩) rfl
theorem fok_need_made (c : Says K) (X : K.In base) (G : base.Ns mainGlobals mg) : ∃ fd, FunD K "need_made" "need_made" (defArgs (top 34)) (defBody (top 34)) (defScope (top 34)) (He5.DefA.dvs K dd_need_made) [] (He.ga K "need_made") fd ∧ FnK P w K mg base 3 (He.ga K "need_made") fd ((["count", "mark", "most"] : List PySem.Str)) m_need_made := by
  obtain ⟨fd, F⟩ := c.def_ 55 rfl
  refine ⟨fd, F, def_ok (cc := cc_need_made) (tb := tb_need_made) (code := code_need_made) F sc_need_made rfl rfl ⟨bts c X G, .nil, (.cons (He.glo_ok X G (fct c 70 rfl)) (fct c 71 rfl) (callK_fz (callK_of (fnr_need_up_to_0 c X G) (by decide))) ((.cons (He.glo_ok X G (fct c 56 rfl)) (fct c 57 rfl) (callK_fz (callK_of (fnr_need_between_0 c X G) (by decide))) ((.cons (He.glo_ok X G (fct c 68 rfl)) (fct c 69 rfl) (callK_fz (callK_of (fnr_need_from_0 c X G) (by decide))) ((.cons (He.glo_ok X G (fct c 64 rfl)) (fct c 65 rfl) (callK_fz (callK_of (fnr_need_integer_0 c X G) (by decide))) (.nil)))))))), .nil, .nil, .nil, .nil, .nil, tabOk c⟩ chk_need_made⟩
theorem fnr_need_made_0 (c : Says K) (X : K.In base) (G : base.Ns mainGlobals mg) : FnG P w K mg base 3 (He.ga K "need_made") 3 m_need_made := by
  obtain ⟨fd, F, O⟩ := fok_need_made (P := P) (w := w) c X G
  have B : Binds K fd ((["count", "mark", "most"] : List PySem.Str)) [] := F.bindsN fun _ _ _ _ _ _ us hl => match us, hl with | [_, _, _], _ => rfl
  exact fnr_all O B
theorem fok_c_Web_line (c : Says K) (X : K.In base) (G : base.Ns mainGlobals mg) : ∃ fd, FunD K "line" "Web.line" (defArgs (mth 33 3)) (defBody (mth 33 3)) (defScope (mth 33 3)) (He5.DefA.dvs K dd_c_Web_line) [] (He5.wf K (He.ga K "Web") "classmethod" "line") fd ∧ FnK P w K mg base 7 (He5.wf K (He.ga K "Web") "classmethod" "line") fd ((["cls", "n", "mark"] : List PySem.Str)) m_c_Web_line := by
  obtain ⟨fd, F⟩ := c.def_ 56 rfl
  refine ⟨fd, F, def_ok (cc := cc_c_Web_line) (tb := tb_c_Web_line) (code := code_c_Web_line) F sc_c_Web_line rfl rfl ⟨bts c X G, (let ⟨t, h⟩ := He.int_ok X G (fct c 24 rfl); .cons h (show L2.RelV (.int 60) (.int _ t) from ⟨t, rfl⟩) (fun _ _ _ _ => ⟨rfl, rfl⟩) (.nil)), (.cons (He.glo_ok X G (fct c 140 rfl)) (fct c 141 rfl) (callK_fz (callK_of (fnr_need_made_0 c X G) (by decide))) (.nil)), .nil, (.cons (.cons (mkB_ok (fct c 139 rfl)).kp (callK_fz (mk_m_Webu__initu__0 c X G (by decide))) .nil) (.nil)), .nil, .nil, .nil, tabOk c⟩ chk_c_Web_line⟩
theorem fnr_c_Web_line_1 (c : Says K) (X : K.In base) (G : base.Ns mainGlobals mg) : FnG P w K mg base 7 (He5.wf K (He.ga K "Web") "classmethod" "line") 2 (dfl m_c_Web_line [.int 1]) := by
  obtain ⟨fd, F, O⟩ := fok_c_Web_line (P := P) (w := w) c X G
  obtain ⟨ds, hd, B⟩ := F.binds1 (ps := (["cls", "n", "mark"] : List PySem.Str)) 2 0 (List.cons_ne_nil _ _) rfl (fun T kV doc pm an cdv ct us its hl hi => match us, its, hl, hi with | [_, _], [_], _, _ => ⟨_, rfl, rfl⟩)
  exact fnr_of (dvs := [.int 1]) (dv := [.int 1]) O B hd (fun m n H => ⟨RelDs.cons rfl (RelDs.nil), rfl⟩) rfl
theorem fok_golden_root (c : Says K) (X : K.In base) (G : base.Ns mainGlobals mg) : ∃ fd, FunD K "golden_root" "golden_root" (defArgs (top 46)) (defBody (top 46)) (defScope (top 46)) (He5.DefA.dvs K dd_golden_root) [] (He.ga K "golden_root") fd ∧ FnK P w K mg base 1 (He.ga K "golden_root") fd ((["number"] : List PySem.Str)) m_golden_root := by
  obtain ⟨fd, F⟩ := c.def_ 57 rfl
  refine ⟨fd, F, def_ok (cc := cc_golden_root) (tb := tb_golden_root) (code := code_golden_root) F sc_golden_root rfl rfl ⟨bts c X G, .nil, .nil, .nil, .nil, .nil, .nil, .nil, tabOk c⟩ chk_golden_root⟩
theorem fnr_golden_root_0 (c : Says K) (X : K.In base) (G : base.Ns mainGlobals mg) : FnG P w K mg base 1 (He.ga K "golden_root") 1 m_golden_root := by
  obtain ⟨fd, F, O⟩ := fok_golden_root (P := P) (w := w) c X G
  have B : Binds K fd ((["number"] : List PySem.Str)) [] := F.bindsN fun _ _ _ _ _ _ us hl => match us, hl with | [_], _ => rfl
  exact fnr_all O B
theorem fok_golden_base (c : Says K) (X : K.In base) (G : base.Ns mainGlobals mg) : ∃ fd, FunD K "golden_base" "golden_base" (defArgs (top 47)) (defBody (top 47)) (defScope (top 47)) (He5.DefA.dvs K dd_golden_base) [] (He.ga K "golden_base") fd ∧ FnK P w K mg base 2 (He.ga K "golden_base") fd ((["b"] : List PySem.Str)) m_golden_base := by
  obtain ⟨fd, F⟩ := c.def_ 58 rfl
  refine ⟨fd, F, def_ok (cc := cc_golden_base) (tb := tb_golden_base) (code := code_golden_base) F sc_golden_base rfl rfl ⟨bts c X G, .nil, (.cons (He.glo_ok X G (fct c 142 rfl)) (fct c 143 rfl) (callK_fz (callK_of (fnr_golden_root_0 c X G) (by decide))) (.nil)), .nil, .nil, .nil, .nil, .nil, tabOk c⟩ chk_golden_base⟩
theorem fnr_golden_base_0 (c : Says K) (X : K.In base) (G : base.Ns mainGlobals mg) : FnG P w K mg base 2 (He.ga K "golden_base") 1 m_golden_base := by
  obtain ⟨fd, F, O⟩ := fok_golden_base (P := P) (w := w) c X G
  have B : Binds K fd ((["b"] : List PySem.Str)) [] := F.bindsN fun _ _ _ _ _ _ us hl => match us, hl with | [_], _ => rfl
  exact fnr_all O B
theorem fok_golden_number (c : Says K) (X : K.In base) (G : base.Ns mainGlobals mg) : ∃ fd, FunD K "golden_number" "golden_number" (defArgs (top 48)) (defBody (top 48)) (defScope (top 48)) (He5.DefA.dvs K dd_golden_number) [] (He.ga K "golden_number") fd ∧ FnK P w K mg base 3 (He.ga K "golden_number") fd ((["mark", "b", "stand"] : List PySem.Str)) m_golden_number := by
  obtain ⟨fd, F⟩ := c.def_ 59 rfl
  refine ⟨fd, F, def_ok (cc := cc_golden_number) (tb := tb_golden_number) (code := code_golden_number) F sc_golden_number rfl rfl ⟨bts c X G, (let ⟨t, h⟩ := He.int_ok X G (fct c 25 rfl); .cons h (show L2.RelV (.int 10000000000000000000000000000000000000000) (.int _ t) from ⟨t, rfl⟩) (fun _ _ _ _ => ⟨rfl, rfl⟩) (.nil)), (.cons (He.glo_ok X G (fct c 144 rfl)) (fct c 145 rfl) (callK_fz (callK_of (fnr_golden_base_0 c X G) (by decide))) ((.cons (He.glo_ok X G (fct c 70 rfl)) (fct c 71 rfl) (callK_fz (callK_of (fnr_need_up_to_0 c X G) (by decide))) ((.cons (He.glo_ok X G (fct c 56 rfl)) (fct c 57 rfl) (callK_fz (callK_of (fnr_need_between_0 c X G) (by decide))) ((.cons (He.glo_ok X G (fct c 68 rfl)) (fct c 69 rfl) (callK_fz (callK_of (fnr_need_from_0 c X G) (by decide))) ((.cons (He.glo_ok X G (fct c 64 rfl)) (fct c 65 rfl) (callK_fz (callK_of (fnr_need_integer_0 c X G) (by decide))) (.nil)))))))))), .nil, .nil, .nil, .nil, .nil, tabOk c⟩ chk_golden_number⟩
theorem fnr_golden_number_0 (c : Says K) (X : K.In base) (G : base.Ns mainGlobals mg) : FnG P w K mg base 3 (He.ga K "golden_number") 3 m_golden_number := by
  obtain ⟨fd, F, O⟩ := fok_golden_number (P := P) (w := w) c X G
  have B : Binds K fd ((["mark", "b", "stand"] : List PySem.Str)) [] := F.bindsN fun _ _ _ _ _ _ us hl => match us, hl with | [_, _, _], _ => rfl
  exact fnr_all O B
theorem fok__law_whole (c : Says K) (X : K.In base) (G : base.Ns mainGlobals mg) : ∃ fd, FunD K "_law_whole" "_law_whole" (defArgs (top 82)) (defBody (top 82)) (defScope (top 82)) (He5.DefA.dvs K dd__law_whole) [] (He.ga K "_law_whole") fd ∧ FnK P w K mg base 1 (He.ga K "_law_whole") fd ((["_law_thing"] : List PySem.Str)) m__law_whole := by
  obtain ⟨fd, F⟩ := c.def_ 60 rfl
  refine ⟨fd, F, def_ok (cc := cc__law_whole) (tb := tb__law_whole) (code := code__law_whole) F sc__law_whole rfl rfl ⟨bts c X G, .nil, .nil, .nil, .nil, .nil, .nil, .nil, tabOk c⟩ chk__law_whole⟩
theorem fnr__law_whole_0 (c : Says K) (X : K.In base) (G : base.Ns mainGlobals mg) : FnG P w K mg base 1 (He.ga K "_law_whole") 1 m__law_whole := by
  obtain ⟨fd, F, O⟩ := fok__law_whole (P := P) (w := w) c X G
  have B : Binds K fd ((["_law_thing"] : List PySem.Str)) [] := F.bindsN fun _ _ _ _ _ _ us hl => match us, hl with | [_], _ => rfl
  exact fnr_all O B
theorem fok_repeats_until (c : Says K) (X : K.In base) (G : base.Ns mainGlobals mg) : ∃ fd, FunD K "repeats_until" "repeats_until" (defArgs (top 49)) (defBody (top 49)) (defScope (top 49)) (He5.DefA.dvs K dd_repeats_until) [] (He.ga K "repeats_until") fd ∧ FnK P w K mg base 3 (He.ga K "repeats_until") fd ((["start", "period", "rise"] : List PySem.Str)) m_repeats_until := by
  obtain ⟨fd, F⟩ := c.def_ 61 rfl
  refine ⟨fd, F, def_ok (cc := cc_repeats_until) (tb := tb_repeats_until) (code := code_repeats_until) F sc_repeats_until rfl rfl ⟨bts c X G, (let ⟨t, h⟩ := He.int_ok X G (fct c 26 rfl); .cons h (show L2.RelV (.int 1000) (.int _ t) from ⟨t, rfl⟩) (fun _ _ _ _ => ⟨rfl, rfl⟩) ((let ⟨t, h⟩ := He.int_ok X G (fct c 27 rfl); .cons h (show L2.RelV (.int 1000000) (.int _ t) from ⟨t, rfl⟩) (fun _ _ _ _ => ⟨rfl, rfl⟩) (.nil)))), (.cons (He.glo_ok X G (fct c 144 rfl)) (fct c 145 rfl) (callK_fz (callK_of (fnr_golden_base_0 c X G) (by decide))) ((.cons (He.glo_ok X G (fct c 70 rfl)) (fct c 71 rfl) (callK_fz (callK_of (fnr_need_up_to_0 c X G) (by decide))) ((.cons (He.glo_ok X G (fct c 68 rfl)) (fct c 69 rfl) (callK_fz (callK_of (fnr_need_from_0 c X G) (by decide))) ((.cons (He.glo_ok X G (fct c 64 rfl)) (fct c 65 rfl) (callK_fz (callK_of (fnr_need_integer_0 c X G) (by decide))) (.nil)))))))), .nil, .nil, .nil, .nil, .nil, tabOk c⟩ chk_repeats_until⟩
theorem fnr_repeats_until_0 (c : Says K) (X : K.In base) (G : base.Ns mainGlobals mg) : FnG P w K mg base 3 (He.ga K "repeats_until") 3 m_repeats_until := by
  obtain ⟨fd, F, O⟩ := fok_repeats_until (P := P) (w := w) c X G
  have B : Binds K fd ((["start", "period", "rise"] : List PySem.Str)) [] := F.bindsN fun _ _ _ _ _ _ us hl => match us, hl with | [_, _, _], _ => rfl
  exact fnr_all O B
theorem fok__law_pot (c : Says K) (X : K.In base) (G : base.Ns mainGlobals mg) : ∃ fd, FunD K "_law_pot" "_law_pot" (defArgs (top 80)) (defBody (top 80)) (defScope (top 80)) (He5.DefA.dvs K dd__law_pot) [] (He.ga K "_law_pot") fd ∧ FnK P w K mg base 1 (He.ga K "_law_pot") fd ((["_law_script"] : List PySem.Str)) m__law_pot := by
  obtain ⟨fd, F⟩ := c.def_ 62 rfl
  refine ⟨fd, F, def_ok (cc := cc__law_pot) (tb := tb__law_pot) (code := code__law_pot) F sc__law_pot rfl rfl ⟨bts c X G, .nil, .nil, .nil, .nil, .nil, .nil, .nil, tabOk c⟩ chk__law_pot⟩
theorem fnr__law_pot_0 (c : Says K) (X : K.In base) (G : base.Ns mainGlobals mg) : FnG P w K mg base 1 (He.ga K "_law_pot") 1 m__law_pot := by
  obtain ⟨fd, F, O⟩ := fok__law_pot (P := P) (w := w) c X G
  have B : Binds K fd ((["_law_script"] : List PySem.Str)) [] := F.bindsN fun _ _ _ _ _ _ us hl => match us, hl with | [_], _ => rfl
  exact fnr_all O B
theorem fok_law (c : Says K) (X : K.In base) (G : base.Ns mainGlobals mg) : ∃ fd, FunD K "law" "law" (defArgs (top 84)) (defBody (top 84)) (defScope (top 84)) (He5.DefA.dvs K dd_law) [] (He.ga K "law") fd ∧ FnK P w K mg base 11 (He.ga K "law") fd ((["_law_script"] : List PySem.Str)) m_law := by
  obtain ⟨fd, F⟩ := c.def_ 63 rfl
  refine ⟨fd, F, def_ok (cc := cc_law) (tb := tb_law) (code := code_law) F sc_law rfl rfl ⟨bts c X G, .nil, (.cons (He.glo_ok X G (fct c 158 rfl)) (fct c 159 rfl) (callK_fz (callK_of (fnr__law_part_0 c X G) (by decide))) ((.cons (He.glo_ok X G (fct c 156 rfl)) (fct c 157 rfl) (callK_fz (callK_of (fnr_purse_against_0 c X G) (by decide))) ((.cons (He.glo_ok X G (fct c 154 rfl)) (fct c 155 rfl) (callK_fz (callK_of (fnr__law_draw_0 c X G) (by decide))) ((.cons (He.glo_ok X G (fct c 152 rfl)) (fct c 153 rfl) (callK_fz (callK_of (fnr_golden_number_0 c X G) (by decide))) ((.cons (He.glo_ok X G (fct c 150 rfl)) (fct c 151 rfl) (callK_fz (callK_of (fnr__law_whole_0 c X G) (by decide))) ((.cons (He.glo_ok X G (fct c 148 rfl)) (fct c 149 rfl) (callK_fz (callK_of (fnr_repeats_until_0 c X G) (by decide))) ((.cons (He.glo_ok X G (fct c 146 rfl)) (fct c 147 rfl) (callK_of (fnr__law_pot_0 c X G) (by decide)) (.nil)))))))))))))), (.cons (z := 1) (He.glo_ok X G (fct c 162 rfl)) (creadB_ok (fct c 163 rfl)) (cmetB_ok (fct c 164 rfl)) (callKQ_fz (callKQ_of (fnr_c_Table_least_0 c X G) (by decide))) ((.cons (z := 0) (He.glo_ok X G (fct c 18 rfl)) (creadB_ok (fct c 160 rfl)) (cmetB_ok (fct c 161 rfl)) (callKQ_fz (callKQ_of (fnr_c_Web_line_1 c X G) (by decide))) (.nil)))), .nil, (.cons ((let ⟨h1, h2, h3, r, h4⟩ := propB_ok (fct c 166 rfl); .prop (sclsB_ok (fct c 74 rfl)) h1 h2 h3 h4 (fnr_p_Table_slopes_0 c X G) (by decide) (.nil))) ((.cons ((let ⟨h1, h2, h3, r, h4⟩ := propB_ok (fct c 165 rfl); .prop (sclsB_ok (fct c 74 rfl)) h1 h2 h3 h4 (fnr_p_Table_period_0 c X G) (by decide) (.nil))) (.nil)))), .nil, .nil, tabOk c⟩ chk_law⟩
theorem fnr_law_0 (c : Says K) (X : K.In base) (G : base.Ns mainGlobals mg) : FnG P w K mg base 11 (He.ga K "law") 1 m_law := by
  obtain ⟨fd, F, O⟩ := fok_law (P := P) (w := w) c X G
  have B : Binds K fd ((["_law_script"] : List PySem.Str)) [] := F.bindsN fun _ _ _ _ _ _ us hl => match us, hl with | [_], _ => rfl
  exact fnr_all O B
end
def used : List Str := (["Web", "Table", "PurseError", "WrongKind", "WrongNumber", "WrongWeb", "TooMuch", "_law_part", "half_of", "price_high", "price_low", "price_at", "due_at", "due_row", "rise_of", "risen", "need_up_to", "need_from", "need_between", "need_stand", "is_integer", "need_integer", "need_web", "purse_against", "_law_draw", "need_small_web", "need_row", "need_parts_from", "table_numbers", "need_list"] : List PySem.Str) ++ (["need_integers", "table_kinds", "fall_out", "least_ranks", "slope_orders", "slope_twice", "has_due_range", "need_due", "has_due_kind", "need_due_kind", "_look", "due_slope", "slope_passes", "least_repeats", "least_start", "least_parts", "kept_due", "_look_stand", "_look_web", "_look_kinds", "need_made", "golden_root", "golden_base", "golden_number", "_law_whole", "repeats_until", "_law_pot", "law"] : List PySem.Str)
abbrev hk : PySem.W.Hook := hookV 4 used exb fnl
def ob (s : PySem.W.SharedT) : He.AlD := obsVG 4 used exb fnl (HandSHeadRun.getT s)
theorem ob_eq (s : PySem.W.SharedT) : ob s = hk.obs s.abs := obsVG_eq (HandSHeadRun.getT_eq s)
abbrev qv : Program := PySem.W.view R.prog [84]
def names : List PySem.Str := (["_wall", "__name__", "PurseError", "WrongKind", "WrongNumber", "WrongWeb", "TooMuch", "is_integer", "need_integer", "need_list", "need_from", "need_between", "need_up_to", "need_integers", "GREATEST_DUE", "has_due_kind", "has_due_range", "need_due_kind", "need_due", "kept_due", "due_at", "due_row", "_look", "due_slope", "half_of", "MOST_STANDS", "_look_kinds", "_look_stand", "_look_web", "Web"] : List PySem.Str) ++ (["need_made", "need_web", "need_stand", "FAR_CHIPS", "need_row", "price_low", "price_high", "price_at", "REPEAT_START", "REPEAT_PERIOD", "golden_root", "golden_base", "golden_number", "repeats_until", "rise_of", "risen", "AGAINST_CHIPS", "purse_against", "fall_out", "need_parts_from", "slope_twice", "slope_orders", "slope_passes", "SMALL_STANDS", "SMALL_MOVING", "SMALL_DUE", "need_small_web", "least_ranks", "least_repeats", "least_start"] : List PySem.Str) ++ (["least_parts", "told_at", "told_number", "need_chips_far", "table_kinds", "table_numbers", "Table", "_law_pot", "_law_draw", "_law_whole", "_law_part"] : List PySem.Str)
theorem facts {P : Program} {w : World} {K : PySem.W.Frag} {h : Heap} {mg : Str → Option Value} {f : Addr} (X : K.In h) (G : h.Ns mainGlobals mg) (hfa : mg ("law" : Str) = some (.ref f)) (c : Says K) :
    ∃ fd : FuncData, (∀ (s : Shared) (v : Value), BindsTo s fd ⟨[v], []⟩ [("_law_script", v)]) ∧ ∀ base : Heap, K.In base → base.Ns mainGlobals mg → FnOk P w K mg base (L2.CX P w) 11 f fd ["_law_script"] (spOf K (cad K) 1 m_law) := by
  obtain ⟨fd, F⟩ := c.def_ 63 rfl
  have e := hfa.symm.trans (He.glo_ok X G (fct c 167 rfl))
  cases e
  have b := FunD.bindsA (ps := ["_law_script"]) F fun _ _ _ _ _ _ us hl => match us, hl with | [_], _ => rfl
  refine ⟨fd, fun s v => b s [v] rfl, fun base X' G' => ?_⟩
  obtain ⟨fd', F', O⟩ := fok_law (P := P) (w := w) c X' G'
  have e : fd' = fd := by
    obtain ⟨oc, od, dV, kV, doc, pm, an, cdv, ct, osl, e1, l1, _⟩ := F.ex
    obtain ⟨oc', od', dV', kV', doc', pm', an', cdv', ct', osl', e2, l2, _⟩ := F'.ex
    have e3 := l1.symm.trans l2
    cases e3
    rfl
  subst e
  exact O
end LW

set_option Elab.async false
set_option linter.all false
set_option maxRecDepth 100000
set_option maxHeartbeats 0
namespace LW
open PySem PySem.W PySem.Calls PyProof.Rows
theorem run (w : World) : HandSHeadRun.RunEq R qv hk ob 20000 names w := by
  intro os
  kernel_rfl
end LW

set_option Elab.async false
set_option linter.all false
set_option maxRecDepth 100000
set_option maxHeartbeats 4000000
namespace KB
open PySem Ev
theorem eq_int {h : Hv} {i j : Int} : oEqD h (.int i) (.int j) = .ok (.bl (decide (i = j))) h := by
  unfold oEqD eqOf
  simp only [D.pd, SeqAt.shaped, Bool.and_self, if_true]
  show Res.ok (D.bl (i == j)) h = _
  rw [Bool.beq_eq_decide_eq]
theorem ne_int {h : Hv} {i j : Int} : oNeD h (.int i) (.int j) = .ok (.bl (!decide (i = j))) h := by
  unfold oNeD eqOf
  simp only [D.pd, SeqAt.shaped, Bool.and_self, if_true]
  show Res.ok (D.bl (!(i == j))) h = _
  rw [Bool.beq_eq_decide_eq]
theorem pd_ints (os : List O) : ∀ (zs : List Int), D.pds os (zs.map D.int) = some (zs.map .int)
  | [] => rfl
  | z :: zs => by simp [D.pds, D.pd, pd_ints os zs]
/-- a for loop that always goes on -/
theorem for_inv (g : G) (b : S) (Inv : Nat → Ev.Loc → Hv → Prop) : ∀ (xs : List D) (k : Nat) (l : Ev.Loc) (h : Hv), Inv k l h →
    (∀ i x l h, xs[i]? = some x → Inv (k + i) l h → ∃ l1 l2 h2, g x l = some l1 ∧ (b l1 h = .mk (.nx l2) h2 ∨ b l1 h = .mk (.ct l2) h2) ∧ Inv (k + i + 1) l2 h2) → ∃ l' h', forGo g b xs l h = .mk (.nx l') h' ∧ Inv (k + xs.length) l' h'
  | [], k, l, h, hI, _ => ⟨l, h, rfl, hI⟩
  | x :: xs, k, l, h, hI, st => by
    obtain ⟨l1, l2, h2, e1, e2, hI2⟩ := st 0 x l h rfl hI
    obtain ⟨l', h', e3, hI3⟩ := for_inv g b Inv xs (k + 1) l2 h2 (by simpa using hI2) fun i y l h e hI => by
      have := st (i + 1) y l h (by simpa using e) (by rw [show k + (i + 1) = k + 1 + i by omega]; exact hI)
      rw [show k + 1 + i + 1 = k + (i + 1) + 1 by omega]
      exact this
    refine ⟨l', h', ?_, by rw [List.length_cons, show k + (xs.length + 1) = k + 1 + xs.length by omega]; exact hI3⟩
    unfold forGo
    rw [e1]
    dsimp only
    rcases e2 with e2 | e2 <;> rw [e2] <;> exact e3
/-- a while loop, by a measure -/
theorem while_inv (t : TT) (b : S) (Inv : Nat → Ev.Loc → Hv → Prop) : ∀ (n f : Nat) (l : Ev.Loc) (h : Hv), n < f → Inv n l h →
    (∀ n l h, Inv n l h → (∃ h', t l h = .ok false h' ∧ Inv 0 l h' ∧ n = 0) ∨ ∃ h1 l2 h2 m, t l h = .ok true h1 ∧ b l h1 = .mk (.nx l2) h2 ∧ m < n ∧ Inv m l2 h2) → True := fun _ _ _ _ _ _ _ => trivial
end KB

set_option Elab.async false
set_option linter.all false
set_option maxRecDepth 100000
set_option maxHeartbeats 4000000
namespace LW
open PySem Ev KB
theorem draw_ok (zs : List Int) (many : Int) (hm : 0 < many) : ∃ (d : Int) (zs' : List Int), 0 ≤ d ∧ d < many ∧ fz m__law_draw [.ref 0, .int many] ⟨[.lst (zs.map .int)], 0⟩ = .ok (.int d) ⟨[.lst (zs'.map .int)], 0⟩ := by
  rcases List.eq_nil_or_concat zs with e | ⟨ys, z, e⟩
  · subst e
    exact ⟨0, [], by omega, hm, by rw [fz_eq]; rfl⟩
  · rw [List.concat_eq_append] at e
    subst e
    refine ⟨z % many, ys, Int.emod_nonneg _ (by omega), Int.emod_lt_of_pos _ hm, ?_⟩
    have hp : posOk z many = true := decide_eq_true hm
    have hn : ¬ ((ys.length : Int) + 1 = 0) := by omega
    simp [m__law_draw, code__law_draw, tb__law_draw, fz_eq, fz0, fnOf, Ev.run, sSeq, SR.bind, sIf, tB, e2, eA, aCons, aNil, eVar, eC, Res.bind, Res.toS, opC, opI, opB, oLen, lenOf, eq_int, sNil, sRet, eBmL, isRefL, opM, oPop, putL, Hv.put, oIntB, oI, hp, D.free, D.bel, frz, D.sub, hn]
end LW

set_option Elab.async false
set_option linter.all false
set_option maxRecDepth 100000
set_option maxHeartbeats 8000000
namespace LW
open PySem Ev KB
abbrev Hz (zs : List Int) : Hv := ⟨[.lst (zs.map D.int)], 0⟩
def pi1 : Ev.Code := .sq (.sf (.tv (.cmp 4 (.var 3) (.cst (.int 0)))) (.sq (.sx (.mt 0 (.var 1) (.cns (.bin 2 (.bi 10 (.cns (.var 3) (.nil))) (.cst (.int 30))) (.nil)))) (.sq (.st (.gn 3) (.bin 1 (.var 3) (.cst (.int 30)))) (.sn))) (.sn)) (.sn)
def pi2 : Ev.Code := .sq (.st (.gn 6) (.bin 2 (.bi 10 (.cns (.bnN 0 (.bnN 0 (.bnN 0 (.bnN 1 (.var 6) (.var 6)) (.bnN 1 (.var 5) (.cst (.int 31337)))) (.bnN 1 (.var 2) (.cst (.int 5)))) (.cst (.int 3))) (.nil))) (.cst (.int 998244353)))) (.sq (.sx (.mt 0 (.var 1) (.cns (.var 6) (.nil)))) (.sn))
theorem szOk_of {n : Nat} (h : n ≤ 100000) : szOk n = true := Nat.ble_eq_true_of_le h
theorem dv30 (i : Int) : divOk i 30 = true := by show (decide ((0 : Int) < 30) && decide ((30 : Int).natAbs.log2 < 9000)) = true; decide
theorem dv2 (i : Int) : divOk i 2 = true := by show (decide ((0 : Int) < 2) && decide ((2 : Int).natAbs.log2 < 9000)) = true; decide
theorem po (i : Int) {j : Int} (h : 0 < j) : posOk i j = true := decide_eq_true h
theorem upget (n : Nat) (i : Nat) (x : D) (h : (upFrom 0 n)[i]? = some x) : x = .int (i : Int) ∧ i < n := by
  rw [upFrom_get] at h
  split at h
  · rename_i hi
    cases h
    exact ⟨by simp, hi⟩
  · cases h
theorem pi1_ok (S pl sh mi : D) (hp : pl ≠ .unset) (z0 : Nat) (hz : z0 ≤ 3000) (num : Int) (tu : D) (zs : List Int) (hl : zs.length ≤ z0) : ∃ (num' : Int) (tu' : D) (zs' : List Int), zs'.length ≤ z0 + 48 ∧
    forGo (gN 5) (Ev.run tb__law_pot pi1).s (upFrom 0 48) [S, .ref 0, pl, .int num, sh, tu, mi] (Hz zs) = .mk (.nx [S, .ref 0, pl, .int num', sh, tu', mi]) (Hz zs') := by
  obtain ⟨l', h', e, num', tu', zs', h1, h2, h3⟩ := for_inv (gN 5) (Ev.run tb__law_pot pi1).s (fun i l h => ∃ (num : Int) (tu : D) (zs : List Int), zs.length ≤ z0 + i ∧ l = [S, .ref 0, pl, .int num, sh, tu, mi] ∧ h = Hz zs)
    (upFrom 0 48) 0 _ _ ⟨num, tu, zs, hl, rfl, rfl⟩ (fun i x l h ex ⟨num, tu, zs, h1, h2, h3⟩ => by
      obtain ⟨q1, q2⟩ := upget 48 i x ex
      subst q1 h2 h3
      have hs : szOk zs.length = true := szOk_of (by omega)
      refine ⟨_, if 0 < num then [S, .ref 0, pl, .int (num / 30), sh, .int i, mi] else [S, .ref 0, pl, .int num, sh, .int i, mi], if 0 < num then Hz (zs ++ [num % 30]) else Hz zs, rfl, .inl ?_, ?_⟩
      · by_cases hn : 0 < num
        · simp [pi1, tb__law_pot, Ev.run, sSeq, SR.bind, sIf, tB, e2, eA, aCons, aNil, eVar, eC, Res.bind, Res.toS, opC, opI, opB, sNil, sRet, eBmL, isRefL, opM, oAppend, putL, Hv.put, oIntB, oI, hn, hs, gN, sExpr, sSet, posOk, dv30, Hz]
        · simp [pi1, tb__law_pot, Ev.run, sSeq, SR.bind, sIf, tB, e2, eA, aCons, aNil, eVar, eC, Res.bind, Res.toS, opC, opI, opB, sNil, hn, oI, gN]
      · by_cases hn : 0 < num
        · rw [if_pos hn, if_pos hn]
          exact ⟨_, _, _, by simp; omega, rfl, rfl⟩
        · rw [if_neg hn, if_neg hn]
          exact ⟨_, _, _, by omega, rfl, rfl⟩)
  subst h2 h3
  refine ⟨num', tu', zs', ?_, e⟩
  have : (upFrom 0 48).length = 48 := rfl
  omega

theorem log_lt {i : Int} {n : Nat} (h : i.natAbs < 2 ^ n) : i.natAbs.log2 < n ∨ i.natAbs = 0 := by
  by_cases h0 : i.natAbs = 0
  · exact .inr h0
  · exact .inl ((Nat.log2_lt h0).mpr h)
theorem log_le {i : Int} {n : Nat} (h : i.natAbs < 2 ^ n) : i.natAbs.log2 ≤ n := by
  rcases log_lt h with h | h
  · omega
  · rw [h]; simp
/-- a product of numbers of few bits -/
theorem mulOk {i j : Int} (n m : Nat) (h : i.natAbs < 2 ^ n) (g : j.natAbs < 2 ^ m) (hb : n + m < 1000000) : decide (i.natAbs.log2 + j.natAbs.log2 < 1000000) = true := by
  have a := log_le h
  have b := log_le g
  exact decide_eq_true (by omega)
theorem mul_ev {h : Hv} {i j : Int} (n m : Nat) (hi : i.natAbs < 2 ^ n) (hj : j.natAbs < 2 ^ m) (hb : n + m < 1000000) : oMul h (.int i) (.int j) = .ok (.int (i * j)) h := by
  show (if decide (i.natAbs.log2 + j.natAbs.log2 < 1000000) = true then Res.ok (D.int (i * j)) h else .stuck) = _
  rw [if_pos (mulOk n m hi hj hb)]
theorem add_ev {h : Hv} {i j : Int} : oAdd h (.int i) (.int j) = .ok (.int (i + j)) h := rfl
theorem mod_rng (i : Int) : 0 ≤ i % 998244353 ∧ i % 998244353 < 998244353 := ⟨Int.emod_nonneg _ (by decide), Int.emod_lt_of_pos _ (by decide)⟩
theorem pi2_ok (S nu sh : D) (pl : Nat) (hpl : pl < 63) (z0 : Nat) (hz : z0 ≤ 3000) (tu : D) (mi : Int) (hm : 0 ≤ mi ∧ mi < 998244353) (zs : List Int) (hl : zs.length ≤ z0) : ∃ (tu' : D) (mi' : Int) (zs' : List Int), zs'.length ≤ z0 + 5 ∧
    forGo (gN 5) (Ev.run tb__law_pot pi2).s (upFrom 0 5) [S, .ref 0, .int pl, nu, sh, tu, .int mi] (Hz zs) = .mk (.nx [S, .ref 0, .int pl, nu, sh, tu', .int mi']) (Hz zs') := by
  obtain ⟨l', h', e, tu', mi', zs', h1, h4, h2, h3⟩ := for_inv (gN 5) (Ev.run tb__law_pot pi2).s (fun i l h => ∃ (tu : D) (mi : Int) (zs : List Int), zs.length ≤ z0 + i ∧ (0 ≤ mi ∧ mi < 998244353) ∧ l = [S, .ref 0, .int pl, nu, sh, tu, .int mi] ∧ h = Hz zs)
    (upFrom 0 5) 0 _ _ ⟨tu, mi, zs, hl, hm, rfl, rfl⟩ (fun i x l h ex ⟨tu, mi, zs, h1, h4, h2, h3⟩ => by
      obtain ⟨q1, q2⟩ := upget 5 i x ex
      subst q1 h2 h3
      have hs : szOk zs.length = true := szOk_of (by omega)
      have m1 : ∀ h, oMul h (.int mi) (.int mi) = .ok (.int (mi * mi)) h := fun h => mul_ev 30 30 (by omega) (by omega) (by decide)
      have m2 : ∀ h, oMul h (.int (i : Int)) (.int 31337) = .ok (.int ((i : Int) * 31337)) h := fun h => mul_ev 3 30 (by omega) (by decide) (by decide)
      have m3 : ∀ h, oMul h (.int (pl : Int)) (.int 5) = .ok (.int ((pl : Int) * 5)) h := fun h => mul_ev 6 30 (by omega) (by decide) (by decide)
      have p := mod_rng (mi * mi + (i : Int) * 31337 + (pl : Int) * 5 + 3)
      refine ⟨_, [S, .ref 0, .int pl, nu, sh, .int i, .int ((mi * mi + (i : Int) * 31337 + (pl : Int) * 5 + 3) % 998244353)], Hz (zs ++ [(mi * mi + (i : Int) * 31337 + (pl : Int) * 5 + 3) % 998244353]), rfl, .inl ?_, ?_⟩
      · simp [pi2, tb__law_pot, Ev.run, sSeq, SR.bind, Ev.e2, eA, aCons, aNil, eVar, eC, Res.bind, Res.toS, opN, opI, opB, sNil, eBmL, isRefL, opM, oAppend, putL, Hv.put, oIntB, oI, hs, gN, sExpr, sSet, posOk, m1, m2, m3, add_ev, Hz]
      · exact ⟨_, _, _, by simp; omega, p, rfl, rfl⟩)
  subst h2 h3
  refine ⟨tu', mi', zs', ?_, e⟩
  have : (upFrom 0 5).length = 5 := rfl
  omega
end LW

set_option Elab.async false
set_option linter.all false
set_option maxRecDepth 100000
set_option maxHeartbeats 8000000
namespace LW
open PySem Ev KB
theorem ix_sc {h : Hv} {ns : List Int} {pl : Nat} {v : Int} (e : ns[pl]? = some v) : oIx2 h (.sc (ns.map D.int)) (.int pl) = .ok (.int v) h := by
  have e2 : L2.atI (ns.map D.int) (pl : Int) = some (D.int v) := L2.atI_nat (by rw [List.getElem?_map, e]; rfl)
  show (match L2.atI (ns.map D.int) (pl : Int) with
    | some d => Res.ok d h
    | none => .stuck) = _
  rw [e2]
def px : Ev.Code := .sq (.fr (.i1 (.cst (.int 48))) (.gn 5) pi1) .sn
def py : Ev.Code := (.sq (.st (.gn 6) (.bin 2 (.bi 10 (.cns (.bnN 0 (.bnN 0 (.bnN 1 (.var 3) (.cst (.int 7919))) (.bnN 1 (.var 2) (.cst (.int 104729)))) (.var 4)) (.nil))) (.cst (.int 998244353)))) (.sq (.fr (.i1 (.cst (.int 5))) (.gn 5) pi2) (.sn)))
def pb : Ev.Code := (.sq (.st (.gn 3) (.bi 10 (.cns (.ix (.var 0) (.var 2)) (.nil)))) (.sq (.st (.gn 4) (.cst (.int 11))) (.sq (.sf (.tv (.cmp 2 (.var 3) (.cst (.int 0)))) (.sq (.st (.gn 3) (.bin 0 (.cst (.int 0)) (.var 3))) (.sq (.st (.gn 4) (.cst (.int 503))) (.sn))) (.sn)) (.sq (.sf (.tv (.cmp 5 (.var 3) (.bin 3 (.cst (.int 10)) (.cst (.int 18))))) px py) (.sn)))))
theorem pot_code : code__law_pot = .sq (.nw 1 (.lst (.nil))) (.sq (.fr (.i1 (.bi 2 (.cns (.bi 7 (.cns (.var 0) (.nil))) (.cns (.cst (.int 63)) (.nil))))) (.gn 2) pb) (.sq (.sx (.mt 2 (.var 1) (.nil))) (.sq (.rt (.var 1)) (.sn)))) := rfl
theorem px_ok (S pl sh tu mi : D) (hp : pl ≠ .unset) (num : Int) (zs : List Int) (hl : zs.length ≤ 3000) : ∃ (num' : Int) (tu' : D) (zs' : List Int), zs'.length ≤ zs.length + 48 ∧
    (Ev.run tb__law_pot px).s [S, .ref 0, pl, .int num, sh, tu, mi] (Hz zs) = .mk (.nx [S, .ref 0, pl, .int num', sh, tu', mi]) (Hz zs') := by
  obtain ⟨n2, t2, z2, h1, e⟩ := pi1_ok S pl sh mi hp zs.length hl num tu zs (Nat.le_refl _)
  refine ⟨n2, t2, z2, h1, ?_⟩
  have r1 : ∀ h, (iR1 (eC (.int 48))) [S, .ref 0, pl, .int num, sh, tu, mi] h = .ok (upFrom 0 48) h := fun h => rfl
  simp [px, Ev.run, sSeq, SR.bind, sFor, Res.toS, r1, e, sNil]
theorem py_ok (S sh tu mi : D) (pl : Nat) (hpl : pl < 63) (s : Int) (hs : sh = .int s) (num : Int) (hn : 0 ≤ num ∧ num < 1000000000000000000) (zs : List Int) (hl : zs.length ≤ 3000) : ∃ (tu' mi' : D) (zs' : List Int), zs'.length ≤ zs.length + 48 ∧
    (Ev.run tb__law_pot py).s [S, .ref 0, .int pl, .int num, sh, tu, mi] (Hz zs) = .mk (.nx [S, .ref 0, .int pl, .int num, sh, tu', mi']) (Hz zs') := by
  subst hs
  obtain ⟨t2, m2, z2, h1, e⟩ := pi2_ok S (.int num) (.int s) pl hpl zs.length hl tu ((num * 7919 + (pl : Int) * 104729 + s) % 998244353) (mod_rng _) zs (Nat.le_refl _)
  refine ⟨t2, .int m2, z2, by omega, ?_⟩
  have r1 : ∀ l h, (iR1 (eC (.int 5))) l h = .ok (upFrom 0 5) h := fun l h => rfl
  have m1 : ∀ h, oMul h (.int num) (.int 7919) = .ok (.int (num * 7919)) h := fun h => mul_ev 60 30 (by omega) (by decide) (by decide)
  have m3 : ∀ h, oMul h (.int (pl : Int)) (.int 104729) = .ok (.int ((pl : Int) * 104729)) h := fun h => mul_ev 6 30 (by omega) (by decide) (by decide)
  simp [py, Ev.run, sSeq, SR.bind, sFor, Res.toS, r1, e, sNil, sSet, gN, Ev.e2, eA, aCons, aNil, eVar, eC, Res.bind, opN, opI, opB, oIntB, oI, posOk, m1, m3, add_ev]
theorem pb_ok (ns : List Int) (a3 a4 a5 a6 : D) (pl : Nat) (hpl : pl < 63) (v : Int) (hv : ns[pl]? = some v) (zs : List Int) (hl : zs.length ≤ 3000) : ∃ (b3 b4 b5 b6 : D) (zs' : List Int), zs'.length ≤ zs.length + 48 ∧
    (Ev.run tb__law_pot pb).s [.sc (ns.map .int), .ref 0, .int pl, a3, a4, a5, a6] (Hz zs) = .mk (.nx [.sc (ns.map .int), .ref 0, .int pl, b3, b4, b5, b6]) (Hz zs') := by
  have hx : ∀ h, oIx2 h (.sc (ns.map D.int)) (.int pl) = .ok (.int v) h := fun h => ix_sc hv
  have hp : powOk 10 18 = true := by decide
  have big : (10 : Int) ^ (18 : Int).toNat = 1000000000000000000 := by decide
  have key : ∀ (num s : Int), 0 ≤ num → ∃ (b3 b4 b5 b6 : D) (zs' : List Int), zs'.length ≤ zs.length + 48 ∧
      (sIf (tB (Ev.e2 oGe (eVar 3) (Ev.e2 oPow (eC (.int 10)) (eC (.int 18))))) (Ev.run tb__law_pot px).s (Ev.run tb__law_pot py).s) [.sc (ns.map .int), .ref 0, .int pl, .int num, .int s, a5, a6] (Hz zs) = .mk (.nx [.sc (ns.map .int), .ref 0, .int pl, b3, b4, b5, b6]) (Hz zs') := by
    intro num s h0
    by_cases hb : 1000000000000000000 ≤ num
    · obtain ⟨n2, t2, z2, h1, e⟩ := px_ok (.sc (ns.map .int)) (.int pl) (.int s) a5 a6 (by intro z; cases z) num zs hl
      refine ⟨.int n2, .int s, t2, a6, z2, h1, ?_⟩
      rw [← e]
      simp [sIf, tB, Ev.e2, eVar, eC, Res.bind, Res.toS, oI, hp, hb]
    · obtain ⟨t2, m2, z2, h1, e⟩ := py_ok (.sc (ns.map .int)) (.int s) a5 a6 pl hpl s rfl num ⟨h0, by omega⟩ zs hl
      refine ⟨.int num, .int s, t2, m2, z2, h1, ?_⟩
      rw [← e]
      simp [sIf, tB, Ev.e2, eVar, eC, Res.bind, Res.toS, oI, hp, hb]
  by_cases hn : v < 0
  · obtain ⟨b3, b4, b5, b6, z2, h1, e⟩ := key (0 - v) 503 (by omega)
    refine ⟨b3, b4, b5, b6, z2, h1, ?_⟩
    simp [pb, Ev.run, sSeq, SR.bind, Res.toS, sNil, sSet, gN, eA, aCons, aNil, eVar, eC, Res.bind, opN, opI, opB, opC, oIntB, hx, hn, sIf, tB, Ev.e2, oI] at e ⊢
    simp [e]
  · obtain ⟨b3, b4, b5, b6, z2, h1, e⟩ := key v 11 (by omega)
    refine ⟨b3, b4, b5, b6, z2, h1, ?_⟩
    simp [pb, Ev.run, sSeq, SR.bind, Res.toS, sNil, sSet, gN, eA, aCons, aNil, eVar, eC, Res.bind, opN, opI, opB, opC, oIntB, hx, hn, sIf, tB, Ev.e2, oI] at e ⊢
    simp [e]
theorem pot_ok (ns : List Int) (hn : ns.length ≤ 63) : ∃ zs : List Int, m__law_pot [.sc (ns.map .int)] ⟨[], 0⟩ = .ok (.ref 0) (Hz zs) := by
  obtain ⟨l', h', e, b2, b3, b4, b5, b6, zs', h1, h2, h3⟩ := for_inv (gN 2) (Ev.run tb__law_pot pb).s (fun i l h => ∃ (b2 b3 b4 b5 b6 : D) (zs : List Int), zs.length ≤ 48 * i ∧ l = [.sc (ns.map .int), .ref 0, b2, b3, b4, b5, b6] ∧ h = Hz zs)
    (upFrom 0 ns.length) 0 [.sc (ns.map .int), .ref 0, .unset, .unset, .unset, .unset, .unset] (Hz []) ⟨_, _, _, _, _, [], by simp, rfl, rfl⟩ (fun i x l h ex ⟨b2, b3, b4, b5, b6, zs, h1, h2, h3⟩ => by
      obtain ⟨q1, q2⟩ := upget ns.length i x ex
      subst q1 h2 h3
      obtain ⟨c3, c4, c5, c6, z2, h4, e⟩ := pb_ok ns b3 b4 b5 b6 i (by omega) ns[i] (List.getElem?_eq_getElem q2) zs (by omega)
      exact ⟨_, _, _, rfl, .inl e, _, _, _, _, _, z2, by omega, rfl, rfl⟩)
  subst h2 h3
  refine ⟨zs'.reverse, ?_⟩
  have r1 : (if (63 : Int) < (ns.length : Int) then (63 : Int) else (ns.length : Int)) = (ns.length : Int) := if_neg (by omega)
  have rg : rngOk (ns.length : Int) = true := by
    unfold rngOk
    simp
    omega
  have r2 : (ns.length : Int).toNat = ns.length := by simp
  have e2 : forGo (gN 2) (Ev.run tb__law_pot pb).s (upFrom 0 ns.length) [.sc (ns.map .int), .ref 0, .unset, .unset, .unset, .unset, .unset] ⟨[O.lst []], 0⟩ = .mk (.nx [.sc (ns.map .int), .ref 0, b2, b3, b4, b5, b6]) ⟨[O.lst (zs'.map D.int)], 0⟩ := e
  unfold m__law_pot
  rw [pot_code]
  simp [fnOf, Ev.run, sSeq, SR.bind, sFor, Res.toS, sNew, eA, aNil, aCons, oLst, szOk, Hv.new, Res.bind, iR1, eVar, eC, opI, oLen, lenOf, oMin2, r1, r2, rg, e2, sExpr, eBmL, isRefL, opM, oReverse, putL, Hv.put, sRet, Hz]
end LW

set_option Elab.async false
set_option linter.all false
set_option maxRecDepth 100000
set_option maxHeartbeats 8000000
namespace LW
open PySem Ev KB
theorem while_ok (t : TT) (b : S) (Inv : Nat → Ev.Loc → Hv → Prop) (out : Ev.Loc → Hv → Prop) (step : ∀ n l h, Inv n l h → (t l h = .ok false h ∧ out l h) ∨ (∃ l2 h2 m, t l h = .ok true h ∧ b l h = .mk (.nx l2) h2 ∧ m < n ∧ Inv m l2 h2)) : ∀ f n l h, n < f → Inv n l h → ∃ l' h', whileGo t b f l h = .mk (.nx l') h' ∧ out l' h'
  | 0, n, l, h, hf, _ => absurd hf (Nat.not_lt_zero _)
  | f + 1, n, l, h, hf, hI => by
    unfold whileGo
    rcases step n l h hI with ⟨e, o⟩ | ⟨l2, h2, m, e1, e2, lt, hI2⟩
    · rw [e]
      exact ⟨l, h, rfl, o⟩
    · obtain ⟨l', h', e3, o⟩ := while_ok t b Inv out step f m l2 h2 (by omega) hI2
      rw [e1]
      refine ⟨l', h', ?_, o⟩
      simp only [Res.toS, if_true, e2]
      exact e3
theorem fz_int {m : Fn} {ds : List D} {h : Hv} {x : Int} (e : m ds ⟨h.os, h.os.length⟩ = .ok (.int x) ⟨h.os, h.os.length⟩) : fz m ds h = .ok (.int x) h := by
  rw [fz_eq]
  unfold fz0
  rw [e]
  simp [frz, D.sub]
/-- the golden part of b -/
def IsG (b x : Int) : Prop := 0 ≤ x ∧ x * (x + b) ≤ b * b ∧ b * b < (x + 1) * (x + 1 + b)
theorem IsG.uniq {b x y : Int} (hb : 0 ≤ b) (hx : IsG b x) (hy : IsG b y) : x = y := by
  obtain ⟨a1, a2, a3⟩ := hx
  obtain ⟨b1, b2, b3⟩ := hy
  rcases Int.lt_trichotomy x y with h | h | h
  · exfalso
    have h1 : (x + 1) * (x + 1 + b) ≤ y * (y + b) := Int.mul_le_mul (by omega) (by omega) (by omega) (by omega)
    omega
  · exact h
  · exfalso
    have h1 : (y + 1) * (y + 1 + b) ≤ x * (x + b) := Int.mul_le_mul (by omega) (by omega) (by omega) (by omega)
    omega
def qb : Ev.Code := (.sq (.st (.gn 4) (.bin 1 (.bnN 0 (.var 1) (.var 2)) (.cst (.int 2)))) (.sq (.sf (.tan (.tv (.cmp 4 (.bin 0 (.var 2) (.var 1)) (.cst (.int 1)))) (.tv (.cmp 3 (.bnN 1 (.var 4) (.bnN 0 (.var 4) (.var 0))) (.bnN 1 (.var 0) (.var 0))))) (.sq (.st (.gn 1) (.var 4)) (.sn)) (.sq (.sf (.tv (.cmp 4 (.bin 0 (.var 2) (.var 1)) (.cst (.int 1)))) (.sq (.st (.gn 2) (.var 4)) (.sn)) (.sn)) (.sn))) (.sn)))
theorem part_code : code__law_part = .sq (.st (.gn 1) (.cst (.int 0))) (.sq (.st (.gn 2) (.bnN 0 (.var 0) (.cst (.int 1)))) (.sq (.fr (.i1 (.cst (.int 64))) (.gn 3) qb) (.sq (.rt (.var 1)) (.sn)))) := rfl
theorem qb_ok (b low most : Int) (t m : D) (h : Hv) (hb : 0 ≤ b ∧ b ≤ 1000000) (h1 : 0 ≤ low) (h2 : low < most) (h3 : most ≤ b + 1) (p1 : low * (low + b) ≤ b * b) (p2 : b * b < most * (most + b)) (ht : t ≠ .unset) :
    ∃ low' most' m', (Ev.run tb__law_part qb).s [.int b, .int low, .int most, t, m] h = .mk (.nx [.int b, .int low', .int most', t, m']) h ∧ 0 ≤ low' ∧ low' < most' ∧ most' ≤ b + 1 ∧ low' * (low' + b) ≤ b * b ∧ b * b < most' * (most' + b) ∧ 2 * (most' - low' - 1) ≤ most - low - 1 := by
  have hm1 : 0 ≤ (low + most) / 2 := by omega
  have hm2 : (low + most) / 2 ≤ b + 1 := by omega
  have e1 : ∀ h, oMul h (.int ((low + most) / 2)) (.int ((low + most) / 2 + b)) = .ok (.int ((low + most) / 2 * ((low + most) / 2 + b))) h := fun h => mul_ev 22 22 (by omega) (by omega) (by decide)
  have e2 : ∀ h, oMul h (.int b) (.int b) = .ok (.int (b * b)) h := fun h => mul_ev 22 22 (by omega) (by omega) (by decide)
  by_cases c1 : 1 < most - low
  · by_cases c2 : (low + most) / 2 * ((low + most) / 2 + b) ≤ b * b
    · refine ⟨(low + most) / 2, most, .int ((low + most) / 2), ?_, hm1, by omega, h3, c2, p2, by omega⟩
      simp [qb, tb__law_part, Ev.run, sSeq, SR.bind, Res.toS, sNil, sSet, gN, eVar, eC, Res.bind, opN, opB, opC, sIf, tB, Ev.tAnd, Ev.e2, oI, dv2, add_ev, e1, e2, c1, c2]
    · refine ⟨low, (low + most) / 2, .int ((low + most) / 2), ?_, h1, by omega, by omega, p1, by omega, by omega⟩
      simp [qb, tb__law_part, Ev.run, sSeq, SR.bind, Res.toS, sNil, sSet, gN, eVar, eC, Res.bind, opN, opB, opC, sIf, tB, Ev.tAnd, Ev.e2, oI, dv2, add_ev, e1, e2, c1, c2]
  · refine ⟨low, most, .int ((low + most) / 2), ?_, h1, h2, h3, p1, p2, by omega⟩
    simp [qb, tb__law_part, Ev.run, sSeq, SR.bind, Res.toS, sNil, sSet, gN, eVar, eC, Res.bind, opN, opB, opC, sIf, tB, Ev.tAnd, Ev.e2, oI, dv2, add_ev, c1]
theorem part_ok (b : Int) (hb : 0 ≤ b ∧ b ≤ 1000000) : ∃ x, IsG b x ∧ ∀ h, fz m__law_part [.int b] h = .ok (.int x) h := by
  have base : ∀ h : Hv, ∃ (x : Int) (l : Ev.Loc), IsG b x ∧ m__law_part [.int b] h = .ok (.int x) h := by
    intro h
    have init2 : b * b < (b + 1) * (b + 1 + b) := by
      have h1 : b * b ≤ (b + 1) * b := Int.mul_le_mul_of_nonneg_right (by omega) hb.1
      have h2 : (b + 1) * b < (b + 1) * (b + 1 + b) := Int.mul_lt_mul_of_pos_left (by omega) (by omega)
      omega
    obtain ⟨l', h', e, low, most, t, m, q0, q1, q2, q3, q4, q5, q6, q7⟩ := for_inv (gN 3) (Ev.run tb__law_part qb).s (fun i l h' => ∃ (low most : Int) (t m : D), h' = h ∧ l = [.int b, .int low, .int most, t, m] ∧ 0 ≤ low ∧ low < most ∧ most ≤ b + 1 ∧ low * (low + b) ≤ b * b ∧ b * b < most * (most + b) ∧ (most - low - 1) * 2 ^ i ≤ b)
      (upFrom 0 64) 0 [.int b, .int 0, .int (b + 1), .unset, .unset] h ⟨0, b + 1, .unset, .unset, rfl, rfl, by omega, by omega, by omega, by
        rw [Int.zero_mul]
        exact Int.mul_nonneg hb.1 hb.1, init2, by simp⟩ (fun i x l h' ex ⟨low, most, t, m, q0, q1, q2, q3, q4, q5, q6, q7⟩ => by
        obtain ⟨r1, r2⟩ := upget 64 i x ex
        subst r1 q0 q1
        obtain ⟨low', most', m', s1, s2, s3, s4, s5, s6, s7⟩ := qb_ok b low most (.int i) m h' hb q2 q3 q4 q5 q6 (by intro z; cases z)
        refine ⟨_, _, _, rfl, .inl s1, low', most', .int i, m', rfl, rfl, s2, s3, s4, s5, s6, ?_⟩
        have e1 : (2 : Int) ^ (0 + i + 1) = 2 * 2 ^ (0 + i) := by rw [Int.pow_succ]; omega
        rw [e1]
        have pos : (0 : Int) ≤ 2 ^ (0 + i) := Int.le_of_lt (Int.pow_pos (by decide))
        have : (most' - low' - 1) * (2 * 2 ^ (0 + i)) = 2 * (most' - low' - 1) * 2 ^ (0 + i) := by
          rw [← Int.mul_assoc, Int.mul_comm (most' - low' - 1) 2]
        rw [this]
        exact Int.le_trans (Int.mul_le_mul_of_nonneg_right s7 pos) q7)
    subst q0 q1
    have hw : most = low + 1 := by
      have : (most - low - 1) * 2 ^ (0 + (upFrom 0 64).length) ≤ b := q7
      have e64 : (2 : Int) ^ (0 + (upFrom 0 64).length) = 18446744073709551616 := by decide
      rw [e64] at this
      omega
    subst hw
    refine ⟨low, [], ⟨q2, q5, q6⟩, ?_⟩
    unfold m__law_part
    rw [part_code]
    have r1 : ∀ l h, (iR1 (eC (.int 64))) l h = .ok (upFrom 0 64) h := fun l h => rfl
    simp [fnOf, Ev.run, sSeq, SR.bind, sFor, Res.toS, sSet, gN, eVar, eC, Res.bind, opN, Ev.e2, add_ev, sRet, r1, e, sNil]
  obtain ⟨x, _, hx, _⟩ := base ⟨[], 0⟩
  refine ⟨x, hx, fun h => fz_int ?_⟩
  obtain ⟨y, _, hy, e⟩ := base ⟨h.os, h.os.length⟩
  rw [e, IsG.uniq hb.1 hy hx]
end LW

set_option Elab.async false
set_option linter.all false
set_option maxRecDepth 100000
set_option maxHeartbeats 8000000
namespace LW
open PySem Ev KB
theorem sq_nn (x : Int) : 0 ≤ x * x := by
  rcases Int.le_total 0 x with h | h
  · exact Int.mul_nonneg h h
  · have := Int.mul_nonneg (show 0 ≤ -x by omega) (show 0 ≤ -x by omega)
    rwa [Int.neg_mul_neg] at this
/-- the root of a number -/
def IsR (n s : Int) : Prop := 0 ≤ s ∧ s * s ≤ n ∧ n < (s + 1) * (s + 1)
theorem newton_ge {n s r : Int} (hr : 0 < r) (hs : s * s ≤ n) : s ≤ (r + n / r) / 2 := by
  have h1 : (2 * s - r) * r ≤ n := by
    have := sq_nn (r - s)
    have e : (r - s) * (r - s) = r * r - 2 * (s * r) + s * s := by
      rw [Int.sub_mul, Int.mul_sub, Int.mul_sub, Int.mul_comm r s]; omega
    have e2 : (2 * s - r) * r = 2 * (s * r) - r * r := by rw [Int.sub_mul, Int.mul_assoc]
    omega
  have h2 : 2 * s - r ≤ n / r := (Int.le_ediv_iff_mul_le hr).mpr h1
  omega
theorem newton_end {n s r : Int} (hr : 0 < r) (hs : IsR n s) (h1 : s ≤ r) (h2 : r ≤ (r + n / r) / 2) : r = s := by
  rcases Int.lt_or_eq_of_le h1 with h | h
  · exfalso
    have hs0 := hs.1
    have h3 : (s + 1) * (s + 1) ≤ r * r := Int.mul_le_mul (by omega) (by omega) (by omega) (by omega)
    have h4 : n < r * r := Int.lt_of_lt_of_le hs.2.2 h3
    have h5 : n / r < r := Int.ediv_lt_of_lt_mul hr h4
    omega
  · exact h.symm
theorem dvp {i j : Int} (h : 0 < j) (h2 : j < 1000000) : divOk i j = true := by
  show (decide (0 < j) && decide (j.natAbs.log2 < 9000)) = true
  rw [decide_eq_true h, decide_eq_true]
  · rfl
  · have := log_le (i := j) (n := 20) (by omega)
    omega
def rw_ : Ev.Code := (.sq (.st (.gn 1) (.var 2)) (.sq (.st (.gn 2) (.bin 1 (.bnN 0 (.var 1) (.bin 1 (.var 0) (.var 1))) (.cst (.int 2)))) (.sn)))
theorem root_code : code_golden_root = .sq (.sf (.tv (.cmp 0 (.var 0) (.cst (.int 0)))) (.sq (.rt (.cst (.int 0))) (.sn)) (.sn)) (.sq (.st (.gn 1) (.bin 4 (.cst (.int 1)) (.bin 1 (.bnN 0 (.bit (.var 0)) (.cst (.int 1))) (.cst (.int 2))))) (.sq (.st (.gn 2) (.bin 1 (.bnN 0 (.var 1) (.bin 1 (.var 0) (.var 1))) (.cst (.int 2)))) (.sq (.wh (.tv (.cmp 2 (.var 2) (.var 1))) rw_) (.sq (.rt (.var 1)) (.sn))))) := rfl
theorem isR_ex : ∀ (n : Nat), ∃ s : Nat, IsR n s
  | 0 => ⟨0, by decide, by decide, by decide⟩
  | n + 1 => by
    obtain ⟨s, h1, h2, h3⟩ := isR_ex n
    by_cases h : ((n + 1 : Nat) : Int) < ((s : Int) + 1) * ((s : Int) + 1)
    · exact ⟨s, h1, by omega, h⟩
    · refine ⟨s + 1, by omega, by push_cast; push_cast at h; omega, ?_⟩
      push_cast
      have : ((s : Int) + 1) * ((s : Int) + 1) < ((s : Int) + 1 + 1) * ((s : Int) + 1 + 1) := by
        have ht : (0 : Int) ≤ (s : Int) := by omega
        generalize (s : Int) = u at ht ⊢
        have e0 : (u + 1 + 1) * (u + 1 + 1) = (u + 1) * (u + 1) + (u + 1) + (u + 1) + 1 := by
          generalize u + 1 = t
          rw [Int.add_mul, Int.mul_add]; omega
        omega
        --have e : (t + 1) * (t + 1) = t * t + t + t + 1 := by rw [Int.add_mul, Int.mul_add]; omega

      push_cast at h
      omega
theorem root_ok (n s : Int) (hs : IsR n s) (hn : n ≤ 20000000000) (h : Hv) : fz m_golden_root [.int n] h = .ok (.int s) h := by
  apply fz_int
  generalize (⟨h.os, h.os.length⟩ : Hv) = h
  have hn0 : 0 ≤ n := Int.le_trans (sq_nn s) hs.2.1
  by_cases h0 : n = 0
  · subst h0
    have : s = 0 := by
      obtain ⟨a, b, c⟩ := hs
      rcases Int.lt_or_eq_of_le a with z | z
      · exfalso
        have : 0 < s * s := Int.mul_pos z z
        omega
      · exact z.symm
    subst this
    unfold m_golden_root
    rw [root_code]
    simp [fnOf, Ev.run, sSeq, SR.bind, sIf, tB, Ev.e2, eVar, eC, Res.bind, Res.toS, opC, eq_int, sRet]
  · have s1 : 1 ≤ s := by
      obtain ⟨a, b, c⟩ := hs
      rcases Int.lt_or_eq_of_le a with z | z
      · omega
      · exfalso
        subst z
        omega
    -- the first guess
    obtain ⟨m, rfl⟩ : ∃ m : Nat, n = (m : Int) := ⟨n.toNat, by omega⟩
    have m0 : m ≠ 0 := by omega
    have bits : Builtin.Int.intBits (m : Int) = m.log2 + 1 := by
      unfold Builtin.Int.intBits
      rw [if_neg (by simpa using h0)]
      rfl
    have lb : m.log2 < 35 := (Nat.log2_lt m0).mpr (by omega)
    obtain ⟨e, he, he2, he3⟩ : ∃ e : Nat, ((m.log2 + 1 : Nat) + 1 : Int) / 2 = (e : Int) ∧ e ≤ 18 ∧ m.log2 + 1 ≤ 2 * e := ⟨(m.log2 + 2) / 2, by omega, by omega, by omega⟩
    have big : m < 2 ^ e * 2 ^ e := by
      rw [← Nat.pow_add]
      exact Nat.lt_of_lt_of_le Nat.lt_log2_self (Nat.pow_le_pow_right (by decide) (by omega))
    have small : (2 : Int) ^ e ≤ 262144 := by
      have : (2 : Nat) ^ e ≤ 2 ^ 18 := Nat.pow_le_pow_right (by decide) he2
      have h2 : ((2 ^ e : Nat) : Int) ≤ ((2 ^ 18 : Nat) : Int) := Int.ofNat_le.mpr this
      have e18 : ((2 ^ 18 : Nat) : Int) = 262144 := by decide
      rw [e18, Int.natCast_pow] at h2
      exact h2
    have r0 : (0 : Int) < 2 ^ e := Int.pow_pos (by decide)
    have ge : s ≤ 2 ^ e := by
      rcases Int.lt_or_le ((2 : Int) ^ e) s with z | z
      · exfalso
        have h1 : (2 : Int) ^ e * 2 ^ e ≤ s * s := Int.mul_le_mul (by omega) (by omega) (by omega) (by omega)
        have h2 : ((m : Nat) : Int) < ((2 ^ e * 2 ^ e : Nat) : Int) := Int.ofNat_lt.mpr big
        push_cast at h2
        have := hs.2.1
        omega
      · exact z
    have sh : powOk 1 (e : Int) = true := by
      show (decide ((0 : Int) ≤ e) && (decide ((e : Int) ≤ 1000000) && decide ((1 : Int).natAbs < 18446744073709551616))) = true
      rw [decide_eq_true (by omega), decide_eq_true (by omega)]
      decide
    have d1 : ∀ h, oDiv h (.int m) (.int (2 ^ e)) = .ok (.int ((m : Int) / 2 ^ e)) h := fun h => by
      show (if divOk (m : Int) (2 ^ e) = true then Res.ok (D.int ((m : Int) / 2 ^ e)) h else .stuck) = _
      rw [if_pos (dvp r0 (by omega))]
    obtain ⟨l', h', ew, r, hl, hh, hr⟩ := while_ok (tB (Ev.e2 oLt (eVar 2) (eVar 1))) (Ev.run tb_golden_root rw_).s
      (fun k l g => ∃ r : Int, k = r.toNat ∧ g = h ∧ l = [.int m, .int r, .int ((r + m / r) / 2)] ∧ 0 < r ∧ r ≤ 262144 ∧ s ≤ r)
      (fun l g => ∃ r : Int, l = [.int m, .int r, .int ((r + m / r) / 2)] ∧ g = h ∧ r = s)
      (fun k l g ⟨r, q0, q1, q2, q3, q4, q5⟩ => by
        subst q0 q1 q2
        by_cases c : (r + m / r) / 2 < r
        · have b1 : s ≤ (r + m / r) / 2 := newton_ge q3 hs.2.1
          have dv : divOk (m : Int) ((r + m / r) / 2) = true := dvp (by omega) (by omega)
          refine .inr ⟨[.int m, .int ((r + m / r) / 2), .int (((r + m / r) / 2 + m / ((r + m / r) / 2)) / 2)], g, ((r + m / r) / 2).toNat, ?_, ?_, by omega, (r + m / r) / 2, rfl, rfl, rfl, by omega, by omega, b1⟩
          · simp [tB, Ev.e2, eVar, Res.bind, oI, c]
          · simp [rw_, tb_golden_root, Ev.run, sSeq, SR.bind, Res.toS, sNil, sSet, gN, eVar, eC, Res.bind, opN, opB, Ev.e2, oI, dv, dv2, add_ev]
        · refine .inl ⟨?_, r, rfl, rfl, newton_end q3 hs q5 (by omega)⟩
          simp [tB, Ev.e2, eVar, Res.bind, oI, c])
      1000000 ((2 : Int) ^ e).toNat [.int m, .int (2 ^ e), .int ((2 ^ e + m / 2 ^ e) / 2)] h (by omega) ⟨2 ^ e, rfl, rfl, rfl, r0, small, ge⟩
    subst hl hh hr
    have hz : ¬ ((m : Int) = 0) := h0
    unfold m_golden_root
    rw [root_code]
    have eb : ∀ (l : Ev.Loc) (h : Hv), sWhile (tB (Ev.e2 oLt (eVar 2) (eVar 1))) (Ev.run tb_golden_root rw_).s l h = whileGo (tB (Ev.e2 oLt (eVar 2) (eVar 1))) (Ev.run tb_golden_root rw_).s 1000000 l h := fun _ _ => rfl
    have he' : ((m.log2 : Int) + 1 + 1) / 2 = (e : Int) := by omega
    have sx : ∀ h, oShl h (.int 1) (.int (e : Int)) = .ok (.int (2 ^ e)) h := fun h => by
      show (if powOk 1 (e : Int) = true then Res.ok (D.int (1 * 2 ^ (e : Int).toNat)) h else .stuck) = _
      rw [if_pos sh]
      simp
    have dv2' : ∀ h (i : Int), oDiv h (.int i) (.int 2) = .ok (.int (i / 2)) h := fun h i => by
      show (if divOk i 2 = true then Res.ok (D.int (i / 2)) h else .stuck) = _
      rw [if_pos (dv2 i)]
    simp [fnOf, Ev.run, sSeq, SR.bind, sIf, Ev.e1, Ev.e2, tB, eVar, eC, Res.bind, Res.toS, opC, eq_int, opB, opN, oBits, bits, sSet, gN, sNil, m0, he', sx, d1, dv2', add_ev, sRet]
    rw [eb, ew]
    rfl

theorem base_ok (b : Int) (hb : 0 ≤ b ∧ b ≤ 60000) : ∃ x, IsG b x ∧ ∀ h, fz m_golden_base [.int b] h = .ok (.int x) h := by
  have hbb : b * b ≤ 60000 * 60000 := Int.mul_le_mul hb.2 hb.2 hb.1 (by decide)
  have nn := sq_nn b
  obtain ⟨s, hs⟩ := isR_ex (5 * b * b).toNat
  have e5 : ((5 * b * b).toNat : Int) = 5 * b * b := by
    have : 5 * b * b = 5 * (b * b) := Int.mul_assoc ..
    omega
  rw [e5] at hs
  have e55 : 5 * b * b = 5 * (b * b) := Int.mul_assoc ..
  obtain ⟨s0, s1, s2⟩ := hs
  have sb : b ≤ s := by
    rcases Int.lt_or_le (s : Int) b with z | z
    · exfalso
      have : ((s : Int) + 1) * ((s : Int) + 1) ≤ b * b := Int.mul_le_mul (by omega) (by omega) (by omega) (by omega)
      omega
    · exact z
  refine ⟨((s : Int) - b) / 2, ⟨by omega, ?_, ?_⟩, fun h => ?_⟩
  · -- (2x + b)^2 <= 5 b^2
    obtain ⟨x, hx⟩ : ∃ x, x = ((s : Int) - b) / 2 := ⟨_, rfl⟩
    rw [← hx]
    have h1 : (2 * x + b) * (2 * x + b) ≤ (s : Int) * s := Int.mul_le_mul (by omega) (by omega) (by omega) (by omega)
    have h2 : (2 * x + b) * (2 * x + b) = 4 * (x * (x + b)) + b * b := by
      rw [Int.add_mul, Int.mul_add, Int.mul_add, Int.mul_add, Int.mul_comm b (2 * x), Int.mul_assoc 2 x (2 * x), Int.mul_left_comm x 2 x, Int.mul_assoc 2 x b]
      omega
    omega
  · obtain ⟨x, hx⟩ : ∃ x, x = ((s : Int) - b) / 2 + 1 := ⟨_, rfl⟩
    rw [← hx]
    have h1 : ((s : Int) + 1) * ((s : Int) + 1) ≤ (2 * x + b) * (2 * x + b) := Int.mul_le_mul (by omega) (by omega) (by omega) (by omega)
    have h2 : (2 * x + b) * (2 * x + b) = 4 * (x * (x + b)) + b * b := by
      rw [Int.add_mul, Int.mul_add, Int.mul_add, Int.mul_add, Int.mul_comm b (2 * x), Int.mul_assoc 2 x (2 * x), Int.mul_left_comm x 2 x, Int.mul_assoc 2 x b]
      omega
    omega
  · apply fz_int
    generalize (⟨h.os, h.os.length⟩ : Hv) = h
    have r := root_ok (5 * b * b) s ⟨s0, s1, s2⟩ (by omega) h
    have m1 : ∀ h, oMul h (.int 5) (.int b) = .ok (.int (5 * b)) h := fun h => mul_ev 5 20 (by decide) (by omega) (by decide)
    have m2 : ∀ h, oMul h (.int (5 * b)) (.int b) = .ok (.int (5 * b * b)) h := fun h => mul_ev 20 20 (by omega) (by omega) (by decide)
    simp [m_golden_base, code_golden_base, tb_golden_base, fnOf, Ev.run, sSeq, SR.bind, sRet, Ev.e2, eVar, eC, Res.bind, Res.toS, opB, opN, eOpt, eCall, aCons, aNil, m1, m2, r, oI, dv2]
end LW

set_option Elab.async false
set_option linter.all false
set_option maxRecDepth 100000
set_option maxHeartbeats 8000000
namespace LW
open PySem Ev KB
def gq (b : Int) : Int := b * 121393 / 196418
theorem isG_gq (b : Int) (h0 : 0 ≤ b) (h1 : b ≤ 100000) : IsG b (gq b) := by
  unfold gq
  obtain ⟨x, hx⟩ : ∃ x, x = b * 121393 / 196418 := ⟨_, rfl⟩
  rw [← hx]
  obtain ⟨r, hr⟩ : ∃ r, r = b * 121393 - 196418 * x := ⟨_, rfl⟩
  have r0 : 0 ≤ r := by omega
  have r1 : r < 196418 := by omega
  have x0 : 0 ≤ x := by omega
  have bb := Int.mul_nonneg h0 h0
  have rb : r * b = 121393 * (b * b) - 196418 * (b * x) := by
    rw [hr, Int.sub_mul, Int.mul_assoc 196418 x b, Int.mul_comm x b, Int.mul_right_comm b 121393 b, Int.mul_comm (b * b) 121393]
  have rx : r * x = 121393 * (b * x) - 196418 * (x * x) := by
    rw [hr, Int.sub_mul, Int.mul_assoc 196418 x x, Int.mul_right_comm b 121393 x, Int.mul_comm (b * x) 121393]
  have rr : r * r = 121393 * (r * b) - 196418 * (r * x) := by
    conv => lhs; rhs; rw [hr]
    rw [Int.mul_sub, Int.mul_left_comm r 196418 x, ← Int.mul_assoc r b 121393, Int.mul_comm (r * b) 121393]
  refine ⟨x0, ?_, ?_⟩
  · -- N >= 0
    have e : x * (x + b) = x * x + b * x := by rw [Int.mul_add, Int.mul_comm x b]
    rw [e]
    by_cases hb : b = 0
    · subst hb
      have : x = 0 := by omega
      subst this
      decide
    · have h2 : r * r ≤ r * (439204 * b) := Int.mul_le_mul_of_nonneg_left (by omega) r0
      have h3 : r * (439204 * b) = 439204 * (r * b) := by rw [Int.mul_left_comm]
      omega
  · have e : (x + 1) * (x + 1 + b) = x * x + b * x + 2 * x + b + 1 := by
      rw [Int.add_mul, Int.mul_add, Int.mul_add, Int.mul_add, Int.mul_comm x b]; omega
    rw [e]
    -- s = 196418 - r > 0
    obtain ⟨s, hs⟩ : ∃ s, s = 196418 - r := ⟨_, rfl⟩
    have s0 : 1 ≤ s := by omega
    have sb : s * b = 196418 * b - r * b := by rw [hs, Int.sub_mul]
    have ss : s * s = 196418 * s - r * s := by
      conv => lhs; lhs; rw [hs]
      rw [Int.sub_mul]
    have rs : r * s = 196418 * r - r * r := by rw [hs, Int.mul_sub, Int.mul_comm r 196418]
    have h2 : b * b ≤ 100000 * b := Int.mul_le_mul_of_nonneg_right h1 h0
    have h3 : b ≤ s * b := by
      have := Int.mul_le_mul_of_nonneg_right s0 h0
      omega
    have h4 : 0 < s * s := Int.mul_pos (by omega) (by omega)
    omega
theorem gq_add (a b : Int) : gq a + gq b ≤ gq (a + b) ∧ gq (a + b) ≤ gq a + gq b + 1 := by
  unfold gq
  omega
theorem gq_nn {b : Int} (h : 0 ≤ b) : 0 ≤ gq b := by unfold gq; omega
theorem part_gq (b : Int) (h0 : 0 ≤ b) (h1 : b ≤ 100000) (h : Hv) : fz m__law_part [.int b] h = .ok (.int (gq b)) h := by
  obtain ⟨x, hx, e⟩ := part_ok b ⟨h0, by omega⟩
  rw [e h, IsG.uniq h0 hx (isG_gq b h0 h1)]
theorem base_gq (b : Int) (h0 : 0 ≤ b) (h1 : b ≤ 60000) (h : Hv) : fz m_golden_base [.int b] h = .ok (.int (gq b)) h := by
  obtain ⟨x, hx, e⟩ := base_ok b ⟨h0, h1⟩
  rw [e h, IsG.uniq h0 hx (isG_gq b h0 (by omega))]
/-! ### the breaks -/
def gn (b : Nat) : Nat := b * 121393 / 196418
theorem gn_gq (b : Nat) : (gn b : Int) = gq b := by
  unfold gn gq
  omega
def find (p r : Nat) : Nat → Nat → Nat
  | 0, c => c
  | f + 1, c => bif Nat.beq (gn (c + p)) (gn c + r) then find p r f (c - 1) else c
def cov (p r : Nat) : Nat → Nat → Bool
  | 0, _ => false
  | f + 1, b => bif Nat.blt 24418 b then true else (Nat.ble b (find p r 300 (b + 3 * p * p)) && !(Nat.beq (gn (find p r 300 (b + 3 * p * p) + p)) (gn (find p r 300 (b + 3 * p * p)) + r))) && cov p r f (find p r 300 (b + 3 * p * p) + 1)
theorem find_le (p r : Nat) : ∀ f c, find p r f c ≤ c
  | 0, c => Nat.le_refl _
  | f + 1, c => by
    unfold find
    cases Nat.beq (gn (c + p)) (gn c + r) with
    | true => exact Nat.le_trans (find_le p r f (c - 1)) (Nat.sub_le _ _)
    | false => exact Nat.le_refl _
theorem cov_ok (p r : Nat) : ∀ f b, cov p r f b = true → ∀ s, b ≤ s → s ≤ 24418 → ∃ c, s ≤ c ∧ c ≤ s + 3 * p * p ∧ gn (c + p) ≠ gn c + r
  | 0, b, h, _, _, _ => by cases h
  | f + 1, b, h, s, h1, h2 => by
    unfold cov at h
    have hb : Nat.blt 24418 b = false := by
      cases e : Nat.blt 24418 b with
      | false => rfl
      | true =>
        have := blt_of e
        omega
    rw [hb] at h
    obtain ⟨h3, h4⟩ := and2 (show ((Nat.ble b (find p r 300 (b + 3 * p * p)) && !(Nat.beq (gn (find p r 300 (b + 3 * p * p) + p)) (gn (find p r 300 (b + 3 * p * p)) + r))) && cov p r f (find p r 300 (b + 3 * p * p) + 1)) = true from h)
    obtain ⟨h3, h5⟩ := and2 h3
    have le := find_le p r 300 (b + 3 * p * p)
    obtain ⟨c, hc⟩ : ∃ c, c = find p r 300 (b + 3 * p * p) := ⟨_, rfl⟩
    rw [← hc] at h3 h4 h5 le
    have h3 := Nat.le_of_ble_eq_true h3
    by_cases hs : s ≤ c
    · refine ⟨c, hs, by omega, fun z => ?_⟩
      rw [z, show Nat.beq (gn c + r) (gn c + r) = true from by simp] at h5
      cases h5
    · exact cov_ok p r f (c + 1) h4 s (by omega) h2
theorem cert : ((List.range 59).all fun i => cov (i + 1) (gn (i + 1)) 9500 0 && cov (i + 1) (gn (i + 1) + 1) 9500 0) = true := by decide +kernel
end LW

set_option Elab.async false
set_option linter.all false
set_option maxRecDepth 100000
set_option maxHeartbeats 8000000
namespace LW
open PySem Ev KB
def valD : Res D → D
  | .ok d _ => d
  | _ => .non
def webD : D := .fi 0 [.tup [.tup [.str "chips", .int 0], .non, .non, .non], .tup [.int 0, .int 3], .tup [.tup [], .tup [.int 0, .int 2], .tup [.int 1, .int 3], .tup []], .int 0, .tup [.int 1, .int 1, .int 1, .int 1], .tup [.int 1, .int 2], .tup [.tup [], .tup [.int 0, .int 2], .tup [.int 1, .int 3], .tup []]]
theorem web_ok (X : O) : fz (dfl m_c_Web_line [.int 1]) [.cls 0, .int 3] ⟨[X], 0⟩ = .ok webD ⟨[X], 0⟩ := by kernel_rfl
def tableD : D := valD (fz m_c_Table_least [.cls 1, webD] ⟨[.lst []], 0⟩)
theorem table_ok (X : O) : fz m_c_Table_least [.cls 1, webD] ⟨[X], 0⟩ = .ok tableD ⟨[X], 0⟩ := by kernel_rfl
theorem per_ok (X : O) : oAttr [(1, .prop m_p_Table_period)] ⟨[X], 0⟩ tableD = .ok (.int 3) ⟨[X], 0⟩ := by kernel_rfl
theorem slo_ok (X : O) : oAttr [(1, .prop m_p_Table_slopes)] ⟨[X], 0⟩ tableD = .ok (.tup [.int 0, .int 1, .int 2, .int 3]) ⟨[X], 0⟩ := by kernel_rfl
theorem pu1_0 (X : O) : fz m_purse_against [webD, .int 1, .int 0, .int 60] ⟨[X], 0⟩ = .ok (.int 0) ⟨[X], 0⟩ := by kernel_rfl
theorem pu1_1 (X : O) : fz m_purse_against [webD, .int 1, .int 1, .int 60] ⟨[X], 0⟩ = .ok (.int 0) ⟨[X], 0⟩ := by kernel_rfl
theorem pu1_2 (X : O) : fz m_purse_against [webD, .int 1, .int 2, .int 60] ⟨[X], 0⟩ = .ok (.int 1) ⟨[X], 0⟩ := by kernel_rfl
theorem pu1_3 (X : O) : fz m_purse_against [webD, .int 1, .int 3, .int 60] ⟨[X], 0⟩ = .ok (.int 1) ⟨[X], 0⟩ := by kernel_rfl
theorem pu1_4 (X : O) : fz m_purse_against [webD, .int 1, .int 4, .int 60] ⟨[X], 0⟩ = .ok (.int 2) ⟨[X], 0⟩ := by kernel_rfl
theorem pu1_5 (X : O) : fz m_purse_against [webD, .int 1, .int 5, .int 60] ⟨[X], 0⟩ = .ok (.int 2) ⟨[X], 0⟩ := by kernel_rfl
theorem pu1_6 (X : O) : fz m_purse_against [webD, .int 1, .int 6, .int 60] ⟨[X], 0⟩ = .ok (.int 3) ⟨[X], 0⟩ := by kernel_rfl
theorem pu1_7 (X : O) : fz m_purse_against [webD, .int 1, .int 7, .int 60] ⟨[X], 0⟩ = .ok (.int 3) ⟨[X], 0⟩ := by kernel_rfl
theorem pu1_8 (X : O) : fz m_purse_against [webD, .int 1, .int 8, .int 60] ⟨[X], 0⟩ = .ok (.int 4) ⟨[X], 0⟩ := by kernel_rfl
theorem pu1_9 (X : O) : fz m_purse_against [webD, .int 1, .int 9, .int 60] ⟨[X], 0⟩ = .ok (.int 4) ⟨[X], 0⟩ := by kernel_rfl
theorem pu1_10 (X : O) : fz m_purse_against [webD, .int 1, .int 10, .int 60] ⟨[X], 0⟩ = .ok (.int 5) ⟨[X], 0⟩ := by kernel_rfl
theorem pu1_11 (X : O) : fz m_purse_against [webD, .int 1, .int 11, .int 60] ⟨[X], 0⟩ = .ok (.int 5) ⟨[X], 0⟩ := by kernel_rfl
theorem pu1_12 (X : O) : fz m_purse_against [webD, .int 1, .int 12, .int 60] ⟨[X], 0⟩ = .ok (.int 6) ⟨[X], 0⟩ := by kernel_rfl
theorem pu1_13 (X : O) : fz m_purse_against [webD, .int 1, .int 13, .int 60] ⟨[X], 0⟩ = .ok (.int 6) ⟨[X], 0⟩ := by kernel_rfl
theorem pu1_14 (X : O) : fz m_purse_against [webD, .int 1, .int 14, .int 60] ⟨[X], 0⟩ = .ok (.int 7) ⟨[X], 0⟩ := by kernel_rfl
theorem pu1_15 (X : O) : fz m_purse_against [webD, .int 1, .int 15, .int 60] ⟨[X], 0⟩ = .ok (.int 7) ⟨[X], 0⟩ := by kernel_rfl
theorem pu1_16 (X : O) : fz m_purse_against [webD, .int 1, .int 16, .int 60] ⟨[X], 0⟩ = .ok (.int 8) ⟨[X], 0⟩ := by kernel_rfl
theorem pu1_17 (X : O) : fz m_purse_against [webD, .int 1, .int 17, .int 60] ⟨[X], 0⟩ = .ok (.int 8) ⟨[X], 0⟩ := by kernel_rfl
theorem pu1_18 (X : O) : fz m_purse_against [webD, .int 1, .int 18, .int 60] ⟨[X], 0⟩ = .ok (.int 9) ⟨[X], 0⟩ := by kernel_rfl
theorem pu1_19 (X : O) : fz m_purse_against [webD, .int 1, .int 19, .int 60] ⟨[X], 0⟩ = .ok (.int 9) ⟨[X], 0⟩ := by kernel_rfl
theorem pu1_20 (X : O) : fz m_purse_against [webD, .int 1, .int 20, .int 60] ⟨[X], 0⟩ = .ok (.int 10) ⟨[X], 0⟩ := by kernel_rfl
theorem pu1_21 (X : O) : fz m_purse_against [webD, .int 1, .int 21, .int 60] ⟨[X], 0⟩ = .ok (.int 10) ⟨[X], 0⟩ := by kernel_rfl
theorem pu1_22 (X : O) : fz m_purse_against [webD, .int 1, .int 22, .int 60] ⟨[X], 0⟩ = .ok (.int 11) ⟨[X], 0⟩ := by kernel_rfl
theorem pu1_23 (X : O) : fz m_purse_against [webD, .int 1, .int 23, .int 60] ⟨[X], 0⟩ = .ok (.int 11) ⟨[X], 0⟩ := by kernel_rfl
theorem pu1_24 (X : O) : fz m_purse_against [webD, .int 1, .int 24, .int 60] ⟨[X], 0⟩ = .ok (.int 12) ⟨[X], 0⟩ := by kernel_rfl
theorem pu1_25 (X : O) : fz m_purse_against [webD, .int 1, .int 25, .int 60] ⟨[X], 0⟩ = .ok (.int 12) ⟨[X], 0⟩ := by kernel_rfl
theorem pu1_26 (X : O) : fz m_purse_against [webD, .int 1, .int 26, .int 60] ⟨[X], 0⟩ = .ok (.int 13) ⟨[X], 0⟩ := by kernel_rfl
theorem pu1_27 (X : O) : fz m_purse_against [webD, .int 1, .int 27, .int 60] ⟨[X], 0⟩ = .ok (.int 13) ⟨[X], 0⟩ := by kernel_rfl
theorem pu1_28 (X : O) : fz m_purse_against [webD, .int 1, .int 28, .int 60] ⟨[X], 0⟩ = .ok (.int 14) ⟨[X], 0⟩ := by kernel_rfl
theorem pu1_29 (X : O) : fz m_purse_against [webD, .int 1, .int 29, .int 60] ⟨[X], 0⟩ = .ok (.int 14) ⟨[X], 0⟩ := by kernel_rfl
theorem pu2_0 (X : O) : fz m_purse_against [webD, .int 2, .int 0, .int 60] ⟨[X], 0⟩ = .ok (.int 0) ⟨[X], 0⟩ := by kernel_rfl
theorem pu2_1 (X : O) : fz m_purse_against [webD, .int 2, .int 1, .int 60] ⟨[X], 0⟩ = .ok (.int 2) ⟨[X], 0⟩ := by kernel_rfl
theorem pu2_2 (X : O) : fz m_purse_against [webD, .int 2, .int 2, .int 60] ⟨[X], 0⟩ = .ok (.int 4) ⟨[X], 0⟩ := by kernel_rfl
theorem pu2_3 (X : O) : fz m_purse_against [webD, .int 2, .int 3, .int 60] ⟨[X], 0⟩ = .ok (.int 6) ⟨[X], 0⟩ := by kernel_rfl
theorem pu2_4 (X : O) : fz m_purse_against [webD, .int 2, .int 4, .int 60] ⟨[X], 0⟩ = .ok (.int 8) ⟨[X], 0⟩ := by kernel_rfl
theorem pu2_5 (X : O) : fz m_purse_against [webD, .int 2, .int 5, .int 60] ⟨[X], 0⟩ = .ok (.int 10) ⟨[X], 0⟩ := by kernel_rfl
theorem pu2_6 (X : O) : fz m_purse_against [webD, .int 2, .int 6, .int 60] ⟨[X], 0⟩ = .ok (.int 12) ⟨[X], 0⟩ := by kernel_rfl
theorem pu2_7 (X : O) : fz m_purse_against [webD, .int 2, .int 7, .int 60] ⟨[X], 0⟩ = .ok (.int 14) ⟨[X], 0⟩ := by kernel_rfl
theorem pu2_8 (X : O) : fz m_purse_against [webD, .int 2, .int 8, .int 60] ⟨[X], 0⟩ = .ok (.int 16) ⟨[X], 0⟩ := by kernel_rfl
theorem pu2_9 (X : O) : fz m_purse_against [webD, .int 2, .int 9, .int 60] ⟨[X], 0⟩ = .ok (.int 18) ⟨[X], 0⟩ := by kernel_rfl
theorem pu2_10 (X : O) : fz m_purse_against [webD, .int 2, .int 10, .int 60] ⟨[X], 0⟩ = .ok (.int 20) ⟨[X], 0⟩ := by kernel_rfl
theorem pu2_11 (X : O) : fz m_purse_against [webD, .int 2, .int 11, .int 60] ⟨[X], 0⟩ = .ok (.int 22) ⟨[X], 0⟩ := by kernel_rfl
theorem pu2_12 (X : O) : fz m_purse_against [webD, .int 2, .int 12, .int 60] ⟨[X], 0⟩ = .ok (.int 24) ⟨[X], 0⟩ := by kernel_rfl
theorem pu2_13 (X : O) : fz m_purse_against [webD, .int 2, .int 13, .int 60] ⟨[X], 0⟩ = .ok (.int 26) ⟨[X], 0⟩ := by kernel_rfl
theorem pu2_14 (X : O) : fz m_purse_against [webD, .int 2, .int 14, .int 60] ⟨[X], 0⟩ = .ok (.int 28) ⟨[X], 0⟩ := by kernel_rfl
theorem pu2_15 (X : O) : fz m_purse_against [webD, .int 2, .int 15, .int 60] ⟨[X], 0⟩ = .ok (.int 30) ⟨[X], 0⟩ := by kernel_rfl
theorem pu2_16 (X : O) : fz m_purse_against [webD, .int 2, .int 16, .int 60] ⟨[X], 0⟩ = .ok (.int 32) ⟨[X], 0⟩ := by kernel_rfl
theorem pu2_17 (X : O) : fz m_purse_against [webD, .int 2, .int 17, .int 60] ⟨[X], 0⟩ = .ok (.int 34) ⟨[X], 0⟩ := by kernel_rfl
theorem pu2_18 (X : O) : fz m_purse_against [webD, .int 2, .int 18, .int 60] ⟨[X], 0⟩ = .ok (.int 36) ⟨[X], 0⟩ := by kernel_rfl
theorem pu2_19 (X : O) : fz m_purse_against [webD, .int 2, .int 19, .int 60] ⟨[X], 0⟩ = .ok (.int 38) ⟨[X], 0⟩ := by kernel_rfl
theorem pu2_20 (X : O) : fz m_purse_against [webD, .int 2, .int 20, .int 60] ⟨[X], 0⟩ = .ok (.int 40) ⟨[X], 0⟩ := by kernel_rfl
theorem pu2_21 (X : O) : fz m_purse_against [webD, .int 2, .int 21, .int 60] ⟨[X], 0⟩ = .ok (.int 42) ⟨[X], 0⟩ := by kernel_rfl
theorem pu2_22 (X : O) : fz m_purse_against [webD, .int 2, .int 22, .int 60] ⟨[X], 0⟩ = .ok (.int 44) ⟨[X], 0⟩ := by kernel_rfl
theorem pu2_23 (X : O) : fz m_purse_against [webD, .int 2, .int 23, .int 60] ⟨[X], 0⟩ = .ok (.int 46) ⟨[X], 0⟩ := by kernel_rfl
theorem pu2_24 (X : O) : fz m_purse_against [webD, .int 2, .int 24, .int 60] ⟨[X], 0⟩ = .ok (.int 48) ⟨[X], 0⟩ := by kernel_rfl
theorem pu2_25 (X : O) : fz m_purse_against [webD, .int 2, .int 25, .int 60] ⟨[X], 0⟩ = .ok (.int 50) ⟨[X], 0⟩ := by kernel_rfl
theorem pu2_26 (X : O) : fz m_purse_against [webD, .int 2, .int 26, .int 60] ⟨[X], 0⟩ = .ok (.int 52) ⟨[X], 0⟩ := by kernel_rfl
theorem pu2_27 (X : O) : fz m_purse_against [webD, .int 2, .int 27, .int 60] ⟨[X], 0⟩ = .ok (.int 54) ⟨[X], 0⟩ := by kernel_rfl
theorem pu2_28 (X : O) : fz m_purse_against [webD, .int 2, .int 28, .int 60] ⟨[X], 0⟩ = .ok (.int 56) ⟨[X], 0⟩ := by kernel_rfl
theorem pu2_29 (X : O) : fz m_purse_against [webD, .int 2, .int 29, .int 60] ⟨[X], 0⟩ = .ok (.int 58) ⟨[X], 0⟩ := by kernel_rfl
theorem purse1 (X : O) (b : Int) (h0 : 0 ≤ b) (h1 : b < 30) : fz m_purse_against [webD, .int 1, .int b, .int 60] ⟨[X], 0⟩ = .ok (.int (b / 2)) ⟨[X], 0⟩ := by
  have hb : b = 0 ∨ b = 1 ∨ b = 2 ∨ b = 3 ∨ b = 4 ∨ b = 5 ∨ b = 6 ∨ b = 7 ∨ b = 8 ∨ b = 9 ∨ b = 10 ∨ b = 11 ∨ b = 12 ∨ b = 13 ∨ b = 14 ∨ b = 15 ∨ b = 16 ∨ b = 17 ∨ b = 18 ∨ b = 19 ∨ b = 20 ∨ b = 21 ∨ b = 22 ∨ b = 23 ∨ b = 24 ∨ b = 25 ∨ b = 26 ∨ b = 27 ∨ b = 28 ∨ b = 29 := by omega
  rcases hb with h | h | h | h | h | h | h | h | h | h | h | h | h | h | h | h | h | h | h | h | h | h | h | h | h | h | h | h | h | h <;> subst h
  · exact pu1_0 X
  · exact pu1_1 X
  · exact pu1_2 X
  · exact pu1_3 X
  · exact pu1_4 X
  · exact pu1_5 X
  · exact pu1_6 X
  · exact pu1_7 X
  · exact pu1_8 X
  · exact pu1_9 X
  · exact pu1_10 X
  · exact pu1_11 X
  · exact pu1_12 X
  · exact pu1_13 X
  · exact pu1_14 X
  · exact pu1_15 X
  · exact pu1_16 X
  · exact pu1_17 X
  · exact pu1_18 X
  · exact pu1_19 X
  · exact pu1_20 X
  · exact pu1_21 X
  · exact pu1_22 X
  · exact pu1_23 X
  · exact pu1_24 X
  · exact pu1_25 X
  · exact pu1_26 X
  · exact pu1_27 X
  · exact pu1_28 X
  · exact pu1_29 X
theorem purse2 (X : O) (b : Int) (h0 : 0 ≤ b) (h1 : b < 30) : fz m_purse_against [webD, .int 2, .int b, .int 60] ⟨[X], 0⟩ = .ok (.int (2 * b)) ⟨[X], 0⟩ := by
  have hb : b = 0 ∨ b = 1 ∨ b = 2 ∨ b = 3 ∨ b = 4 ∨ b = 5 ∨ b = 6 ∨ b = 7 ∨ b = 8 ∨ b = 9 ∨ b = 10 ∨ b = 11 ∨ b = 12 ∨ b = 13 ∨ b = 14 ∨ b = 15 ∨ b = 16 ∨ b = 17 ∨ b = 18 ∨ b = 19 ∨ b = 20 ∨ b = 21 ∨ b = 22 ∨ b = 23 ∨ b = 24 ∨ b = 25 ∨ b = 26 ∨ b = 27 ∨ b = 28 ∨ b = 29 := by omega
  rcases hb with h | h | h | h | h | h | h | h | h | h | h | h | h | h | h | h | h | h | h | h | h | h | h | h | h | h | h | h | h | h <;> subst h
  · exact pu2_0 X
  · exact pu2_1 X
  · exact pu2_2 X
  · exact pu2_3 X
  · exact pu2_4 X
  · exact pu2_5 X
  · exact pu2_6 X
  · exact pu2_7 X
  · exact pu2_8 X
  · exact pu2_9 X
  · exact pu2_10 X
  · exact pu2_11 X
  · exact pu2_12 X
  · exact pu2_13 X
  · exact pu2_14 X
  · exact pu2_15 X
  · exact pu2_16 X
  · exact pu2_17 X
  · exact pu2_18 X
  · exact pu2_19 X
  · exact pu2_20 X
  · exact pu2_21 X
  · exact pu2_22 X
  · exact pu2_23 X
  · exact pu2_24 X
  · exact pu2_25 X
  · exact pu2_26 X
  · exact pu2_27 X
  · exact pu2_28 X
  · exact pu2_29 X
end LW

set_option Elab.async false
set_option linter.all false
set_option maxRecDepth 100000
set_option maxHeartbeats 8000000
namespace LW
open PySem Ev KB
theorem tii : tabN (.b "int") (.ty "int") = some true := by decide +kernel
theorem tib : tabN (.b "int") (.ty "bool") = some false := by decide +kernel
theorem fz_ok {m : Fn} {ds : List D} {h : Hv} {d : D} (e : m ds ⟨h.os, h.os.length⟩ = .ok d ⟨h.os, h.os.length⟩) (hd : ∀ os n, frz os n d = some d) : fz m ds h = .ok d h := by
  rw [fz_eq]
  unfold fz0
  rw [e]
  simp [hd]
theorem isint (x : Int) (h : Hv) : fz m_is_integer [.int x] h = .ok (.bl true) h := by
  apply fz_ok _ fun _ _ => rfl
  simp [m_is_integer, code_is_integer, tb_is_integer, fnOf, Ev.run, sSeq, SR.bind, sRet, eAnd, eA, aCons, aNil, eVar, eC, Res.bind, Res.toS, opI, oIsi, kindOf, tyN, tii, tib, eNotT, oTru]
theorem whole (x : Int) (h : Hv) : fz m__law_whole [.int x] h = .ok (.bl true) h := by
  apply fz_ok _ fun _ _ => rfl
  simp [m__law_whole, code__law_whole, tb__law_whole, fnOf, Ev.run, sSeq, SR.bind, sRet, eAnd, eA, aCons, aNil, eVar, eC, Res.bind, Res.toS, opI, oIsi, kindOf, tyN, tii, tib, eNotT, oTru]
theorem need_int (x : Int) (s : Str) (h : Hv) : fz m_need_integer [.int x, .str s] h = .ok .non h := by
  apply fz_ok _ fun _ _ => rfl
  simp [m_need_integer, code_need_integer, tb_need_integer, fnOf, Ev.run, sSeq, SR.bind, sIf, Ev.tNot, tE, eOpt, eCall, aCons, aNil, eVar, Res.bind, Res.toS, isint, oTru, sNil]
theorem need_fr (x y : Int) (s : Str) (h : Hv) (hx : y ≤ x) : fz m_need_from [.int x, .int y, .str s] h = .ok .non h := by
  have hn : ¬ x < y := by omega
  apply fz_ok _ fun _ _ => rfl
  simp [m_need_from, code_need_from, tb_need_from, fnOf, Ev.run, sSeq, SR.bind, sIf, tB, Ev.e2, opC, oI, eVar, Res.bind, Res.toS, sNil, hn]
theorem need_up (x y : Int) (s : Str) (h : Hv) (hx : x ≤ y) : fz m_need_up_to [.int x, .int y, .str s] h = .ok .non h := by
  have hn : ¬ y < x := by omega
  apply fz_ok _ fun _ _ => rfl
  simp [m_need_up_to, code_need_up_to, tb_need_up_to, fnOf, Ev.run, sSeq, SR.bind, sIf, tB, Ev.e2, opC, oI, eVar, Res.bind, Res.toS, sNil, hn]
theorem need_bt (x y z : Int) (s : Str) (h : Hv) (hx : y ≤ x) (hz : x ≤ z) : fz m_need_between [.int x, .int y, .int z, .str s] h = .ok .non h := by
  have hn : ¬ x < y := by omega
  have hm : ¬ z < x := by omega
  apply fz_ok _ fun _ _ => rfl
  simp [m_need_between, code_need_between, tb_need_between, fnOf, Ev.run, sSeq, SR.bind, sIf, tB, Ev.tOr, Ev.e2, opC, oI, eVar, Res.bind, Res.toS, sNil, hn, hm]
theorem number_ok (b : Int) (h0 : 0 ≤ b) (h1 : b ≤ 60000) (h : Hv) : fz m_golden_number [.int 1, .int b, .int 1] h = .ok (.int (gq b)) h := by
  apply fz_int
  generalize (⟨h.os, h.os.length⟩ : Hv) = h
  simp [m_golden_number, code_golden_number, tb_golden_number, fnOf, Ev.run, sSeq, SR.bind, sExpr, sRet, sIf, tB, eIf, Ev.e2, opC, eq_int, eOpt, eCall, aCons, aNil, eVar, eC, Res.bind, Res.toS, sNil, sSet, gN, need_int, need_bt, need_fr _ _ _ _ h0, need_up b 10000000000000000000000000000000000000000 _ _ (by omega), base_gq b h0 h1]
def rbody : Ev.Code := (.sq (.au 0 3 (.cst (.int 1))) (.sn))
def rtest : Ev.Code := (.tv (.cmp 0 (.cal 0 (.cns (.bnN 0 (.var 3) (.var 1)) (.nil))) (.bnN 0 (.cal 0 (.cns (.var 3) (.nil))) (.var 2))))
theorem rep_code : code_repeats_until = .sq (.sx (.cal 3 (.cns (.var 0) (.cns (.cst (.str ("the start" : Str))) (.nil))))) (.sq (.sx (.cal 3 (.cns (.var 1) (.cns (.cst (.str ("the period" : Str))) (.nil))))) (.sq (.sx (.cal 3 (.cns (.var 2) (.cns (.cst (.str ("the rise" : Str))) (.nil))))) (.sq (.sx (.cal 2 (.cns (.var 0) (.cns (.cst (.int 0)) (.cns (.cst (.str ("the start" : Str))) (.nil)))))) (.sq (.sx (.cal 2 (.cns (.var 1) (.cns (.cst (.int 1)) (.cns (.cst (.str ("the period" : Str))) (.nil)))))) (.sq (.sx (.cal 1 (.cns (.var 0) (.cns (.glo 1) (.cns (.cst (.str ("the start" : Str))) (.nil)))))) (.sq (.sx (.cal 1 (.cns (.var 1) (.cns (.glo 0) (.cns (.cst (.str ("the period" : Str))) (.nil)))))) (.sq (.st (.gn 3) (.var 0)) (.sq (.wh rtest rbody) (.sq (.rt (.var 3)) (.sn)))))))))) := rfl
/-- a first break within the bound -/
theorem break_ex (s p r : Int) (hs : 0 ≤ s) (hs2 : s ≤ 24418) (hp : 1 ≤ p) (hp2 : p ≤ 59) : ∃ c, s ≤ c ∧ c ≤ s + 3 * p * p ∧ gq (c + p) ≠ gq c + r := by
  have pp : 0 ≤ 3 * p * p := Int.mul_nonneg (by omega) (by omega)
  by_cases hr : r = gq p ∨ r = gq p + 1
  · obtain ⟨i, rfl⟩ : ∃ i : Nat, p = ((i + 1 : Nat) : Int) := ⟨(p - 1).toNat, by omega⟩
    obtain ⟨t, rfl⟩ : ∃ t : Nat, s = (t : Int) := ⟨s.toNat, by omega⟩
    obtain ⟨c1, c2⟩ := and2 (List.all_eq_true.mp cert i (List.mem_range.mpr (by omega)))
    have go : ∀ q : Nat, cov (i + 1) q 9500 0 = true → ∃ c : Int, (t : Int) ≤ c ∧ c ≤ t + 3 * ((i + 1 : Nat) : Int) * ((i + 1 : Nat) : Int) ∧ gq (c + ((i + 1 : Nat) : Int)) ≠ gq c + q := fun q hq => by
      obtain ⟨c, k1, k2, k3⟩ := cov_ok (i + 1) q 9500 0 hq t (Nat.zero_le _) (by omega)
      refine ⟨(c : Int), by omega, ?_, fun z => k3 ?_⟩
      · have : ((t + 3 * (i + 1) * (i + 1) : Nat) : Int) = t + 3 * ((i + 1 : Nat) : Int) * ((i + 1 : Nat) : Int) := by push_cast; rfl
        omega
      · have a := gn_gq (c + (i + 1))
        have b := gn_gq c
        have e : ((c + (i + 1) : Nat) : Int) = (c : Int) + ((i + 1 : Nat) : Int) := by push_cast; rfl
        rw [e, z, ← b] at a
        omega
    have g := gn_gq (i + 1)
    rcases hr with hr | hr
    · obtain ⟨c, k1, k2, k3⟩ := go _ c1
      exact ⟨c, k1, k2, by rw [hr, ← g]; exact k3⟩
    · obtain ⟨c, k1, k2, k3⟩ := go _ c2
      refine ⟨c, k1, k2, ?_⟩
      rw [hr, ← g]
      push_cast at k3 ⊢
      exact k3
  · have := gq_add s p
    exact ⟨s, Int.le_refl _, by omega, fun z => hr (by omega)⟩
end LW

set_option Elab.async false
set_option linter.all false
set_option maxRecDepth 100000
set_option maxHeartbeats 8000000
namespace LW
open PySem Ev KB
theorem first_br (P : Int → Prop) (s : Int) : ∀ n : Nat, (∃ c, s ≤ c ∧ c ≤ s + n ∧ P c) → ∃ t, s ≤ t ∧ t ≤ s + n ∧ P t ∧ ∀ b, s ≤ b → b < t → ¬ P b
  | 0, ⟨c, h1, h2, h3⟩ => ⟨c, h1, h2, h3, fun b a1 a2 => by omega⟩
  | n + 1, ⟨c, h1, h2, h3⟩ => by
    by_cases h : ∃ c, s ≤ c ∧ c ≤ s + n ∧ P c
    · obtain ⟨t, a1, a2, a3, a4⟩ := first_br P s n h
      exact ⟨t, a1, by omega, a3, a4⟩
    · exact ⟨c, h1, h2, h3, fun b a1 a2 hb => h ⟨b, a1, by omega, hb⟩⟩
theorem repeats_ok (s p r : Int) (hs : 0 ≤ s) (hs2 : s ≤ 24418) (hp : 1 ≤ p) (hp2 : p ≤ 59) : ∃ t, s ≤ t ∧ t ≤ s + 3 * p * p ∧ t ≤ 40000 ∧ gq (t + p) ≠ gq t + r ∧ (∀ b, s ≤ b → b < t → gq (b + p) = gq b + r) ∧ ∀ h, fz m_repeats_until [.int s, .int p, .int r] h = .ok (.int t) h := by
  have pp : 0 ≤ 3 * p * p := Int.mul_nonneg (by omega) (by omega)
  have pq : 3 * p * p ≤ 3 * 59 * 59 := Int.mul_le_mul (by omega) (by omega) (by omega) (by omega)
  obtain ⟨c, c1, c2, c3⟩ := break_ex s p r hs hs2 hp hp2
  obtain ⟨t, t1, t2, t3, t4⟩ := first_br (fun c => gq (c + p) ≠ gq c + r) s (3 * p * p).toNat ⟨c, c1, by omega, c3⟩
  have t5 : ∀ b, s ≤ b → b < t → gq (b + p) = gq b + r := fun b h1 h2 => Decidable.byContradiction fun z => t4 b h1 h2 z
  refine ⟨t, t1, by omega, by omega, t3, t5, fun h => ?_⟩
  apply fz_int
  generalize (⟨h.os, h.os.length⟩ : Hv) = h
  obtain ⟨l', h', ew, hl, hh⟩ := while_ok (Ev.run tb_repeats_until rtest).t (Ev.run tb_repeats_until rbody).s
    (fun k l g => ∃ b : Int, k = (t - b).toNat ∧ g = h ∧ l = [.int s, .int p, .int r, .int b] ∧ s ≤ b ∧ b ≤ t)
    (fun l g => l = [.int s, .int p, .int r, .int t] ∧ g = h)
    (fun k l g ⟨b, q0, q1, q2, q3, q4⟩ => by
      subst q0 q1 q2
      have e1 := base_gq (b + p) (by omega) (by omega) g
      have e2 := base_gq b (by omega) (by omega) g
      by_cases c : b < t
      · have e3 := t5 b q3 c
        refine .inr ⟨[.int s, .int p, .int r, .int (b + 1)], g, (t - (b + 1)).toNat, ?_, ?_, by omega, b + 1, rfl, rfl, rfl, by omega, by omega⟩
        · simp [rtest, tb_repeats_until, Ev.run, tB, Ev.e2, opC, opN, eq_int, eOpt, eCall, aCons, aNil, eVar, Res.bind, add_ev, e1, e2, e3]
        · simp [rbody, tb_repeats_until, Ev.run, sSeq, SR.bind, sAug, opA, oI, eC, Res.toS, sNil]
      · have e4 : b = t := by omega
        subst e4
        refine .inl ⟨?_, rfl, rfl⟩
        simp [rtest, tb_repeats_until, Ev.run, tB, Ev.e2, opC, opN, eq_int, eOpt, eCall, aCons, aNil, eVar, Res.bind, add_ev, e1, e2, t3])
    1000000 (t - s).toNat [.int s, .int p, .int r, .int s] h (by omega) ⟨s, rfl, rfl, rfl, Int.le_refl _, t1⟩
  subst hl hh
  have ew2 : sWhile (Ev.run tb_repeats_until rtest).t (Ev.run tb_repeats_until rbody).s [.int s, .int p, .int r, .int s] h' = .mk (.nx [.int s, .int p, .int r, .int t]) h' := ew
  unfold m_repeats_until
  rw [rep_code]
  have f0 : tb_repeats_until.fs[0]? = some (fz m_golden_base) := rfl
  have f1 : tb_repeats_until.fs[1]? = some (fz m_need_up_to) := rfl
  have f2 : tb_repeats_until.fs[2]? = some (fz m_need_from) := rfl
  have f3 : tb_repeats_until.fs[3]? = some (fz m_need_integer) := rfl
  have g0 : tb_repeats_until.gl[0]? = some (.int 1000) := rfl
  have g1 : tb_repeats_until.gl[1]? = some (.int 1000000) := rfl
  simp [fnOf, Ev.run, sSeq, SR.bind, sExpr, sRet, f0, f1, f2, f3, g0, g1, eOpt, eCall, aCons, aNil, eVar, eC, Res.bind, Res.toS, sNil, sSet, gN, need_int, need_fr s 0 _ _ hs, need_fr p 1 _ _ hp, need_up s 1000000 _ _ (by omega), need_up p 1000 _ _ (by omega), ew2]
end LW

set_option Elab.async false
set_option linter.all false
set_option maxRecDepth 100000
set_option maxHeartbeats 8000000
namespace LW
open PySem Ev KB
def lc1 : Ev.Code := .st (.gn 1) (.cal 6 (.cns (.var 0) (.nil)))
def lc2 : Ev.Code := .st (.gn 2) (.bnN 1 (.cal 2 (.cns (.var 1) (.cns (.cst (.int 30)) (.nil)))) (.bnN 0 (.cst (.int 1)) (.bnN 1 (.cal 2 (.cns (.var 1) (.cns (.cst (.int 30)) (.nil)))) (.cal 2 (.cns (.var 1) (.cns (.cst (.int 30)) (.nil)))))))
def lc3 : Ev.Code := .st (.gn 3) (.ix (.lst (.cns (.cst (.int 1)) (.cns (.cst (.int 2)) (.cns (.cst (.int 3)) (.cns (.cst (.int 5)) (.cns (.cst (.int 8)) (.cns (.cst (.int 13)) (.cns (.cst (.int 21)) (.cns (.cst (.int 34)) (.cns (.cst (.int 55)) (.nil))))))))))) (.cal 2 (.cns (.var 1) (.cns (.cst (.int 9)) (.nil)))))
def lc4 : Ev.Code := .sf (.tv (.cmp 0 (.cal 2 (.cns (.var 1) (.cns (.cst (.int 3)) (.nil)))) (.cst (.int 2)))) (.sq (.st (.gn 3) (.bnN 0 (.bnN 0 (.cst (.int 1)) (.cal 2 (.cns (.var 1) (.cns (.cst (.int 30)) (.nil))))) (.cal 2 (.cns (.var 1) (.cns (.cst (.int 30)) (.nil)))))) (.sn)) (.sn)
def lc5 : Ev.Code := .st (.gn 4) (.bnN 0 (.cal 0 (.cns (.var 3) (.nil))) (.cal 2 (.cns (.var 1) (.cns (.cst (.int 2)) (.nil)))))
def lc6 : Ev.Code := .sf (.tv (.cmp 0 (.cal 2 (.cns (.var 1) (.cns (.cst (.int 10)) (.nil)))) (.cst (.int 9)))) (.sq (.st (.gn 4) (.bin 0 (.cal 2 (.cns (.var 1) (.cns (.cst (.int 30)) (.nil)))) (.cst (.int 5)))) (.sn)) (.sn)
def lc7 : Ev.Code := .st (.gn 5) (.cal 5 (.cns (.var 2) (.cns (.var 3) (.cns (.var 4) (.nil)))))
def lc8 : Ev.Code := .sf (.tor (.tn (.tt (.cal 4 (.cns (.var 5) (.nil))))) (.tor (.tv (.cmp 2 (.var 5) (.var 2))) (.tv (.cmp 4 (.var 5) (.bnN 0 (.var 2) (.bnN 1 (.bnN 1 (.cst (.int 3)) (.var 3)) (.var 3))))))) (.sq (.rt (.cst (.bl false))) (.sn)) (.sn)
def lc9 : Ev.Code := .sf (.tv (.cmp 0 (.cal 0 (.cns (.bnN 0 (.var 5) (.var 3)) (.nil))) (.bnN 0 (.cal 0 (.cns (.var 5) (.nil))) (.var 4)))) (.sq (.rt (.cst (.bl false))) (.sn)) (.sn)
def lc10 : Ev.Code := .st (.gn 6) (.bnN 0 (.lst (.cns (.var 2) (.cns (.bin 0 (.var 5) (.cst (.int 1))) (.cns (.bin 1 (.bnN 0 (.var 2) (.var 5)) (.cst (.int 2))) (.nil))))) (.com [12] (.i1 (.cst (.int 10))) (.gn 12) (.ty) (.bnN 0 (.var 2) (.cal 2 (.cns (.var 1) (.cns (.cst (.int 30)) (.nil)))))))
def lc11 : Ev.Code := .fr (.ie (.var 6)) (.gn 7) (.sq (.sf (.tan (.tv (.cmp 5 (.var 7) (.var 2))) (.tan (.tv (.cmp 2 (.var 7) (.var 5))) (.tv (.cmp 1 (.cal 0 (.cns (.bnN 0 (.var 7) (.var 3)) (.nil))) (.bnN 0 (.cal 0 (.cns (.var 7) (.nil))) (.var 4)))))) (.sq (.rt (.cst (.bl false))) (.sn)) (.sn)) (.sn))
def lc12 : Ev.Code := .fr (.i2 (.var 2) (.bi 2 (.cns (.var 5) (.cns (.bnN 0 (.var 2) (.cst (.int 40))) (.nil))))) (.gn 7) (.sq (.sf (.tv (.cmp 1 (.cal 0 (.cns (.bnN 0 (.var 7) (.var 3)) (.nil))) (.bnN 0 (.cal 0 (.cns (.var 7) (.nil))) (.var 4)))) (.sq (.rt (.cst (.bl false))) (.sn)) (.sn)) (.sq (.sf (.tv (.cmp 1 (.cal 3 (.cns (.cst (.int 1)) (.cns (.var 7) (.cns (.cst (.int 1)) (.nil))))) (.cal 0 (.cns (.var 7) (.nil))))) (.sq (.rt (.cst (.bl false))) (.sn)) (.sn)) (.sn)))
def lc13 : Ev.Code := .st (.gn 8) (.cmt 1 (.cns (.cst (.int 3)) (.nil)))
def lc14 : Ev.Code := .st (.gn 9) (.cmt 0 (.cns (.var 8) (.nil)))
def lc15 : Ev.Code := .sf (.tor (.tv (.cmp 1 (.att 1 (.var 9)) (.cst (.int 3)))) (.tv (.cmp 1 (.att 0 (.var 9)) (.tup (.cns (.cst (.int 0)) (.cns (.cst (.int 1)) (.cns (.cst (.int 2)) (.cns (.cst (.int 3)) (.nil))))))))) (.sq (.rt (.cst (.bl false))) (.sn)) (.sn)
def lc16 : Ev.Code := .st (.gn 7) (.cal 2 (.cns (.var 1) (.cns (.cst (.int 30)) (.nil))))
def lc17 : Ev.Code := .sf (.tor (.tv (.cmp 1 (.cal 1 (.cns (.var 8) (.cns (.cst (.int 1)) (.cns (.var 7) (.cns (.cst (.int 60)) (.nil)))))) (.bin 1 (.var 7) (.cst (.int 2))))) (.tv (.cmp 1 (.cal 1 (.cns (.var 8) (.cns (.cst (.int 2)) (.cns (.var 7) (.cns (.cst (.int 60)) (.nil)))))) (.bnN 1 (.cst (.int 2)) (.var 7))))) (.sq (.rt (.cst (.bl false))) (.sn)) (.sn)
def lc18 : Ev.Code := .st (.gn 10) (.bin 1 (.var 7) (.cst (.int 2)))
def lc19 : Ev.Code := .st (.gn 11) (.cal 0 (.cns (.var 7) (.nil)))
def lc20 : Ev.Code := .sf (.tor (.tv (.cmp 2 (.var 11) (.var 10))) (.tv (.cmp 4 (.bnN 0 (.var 7) (.var 11)) (.bnN 1 (.cst (.int 2)) (.var 7))))) (.sq (.rt (.cst (.bl false))) (.sn)) (.sn)
def lc21 : Ev.Code := .rt (.an (.cmp 0 (.cmp 4 (.var 11) (.var 10)) (.ro (.cmp 0 (.var 7) (.cst (.int 5))) (.ro (.cmp 0 (.var 7) (.cst (.int 7))) (.cmp 5 (.var 7) (.cst (.int 9)))))) (.cmp 0 (.cmp 2 (.bnN 0 (.var 7) (.var 11)) (.bnN 1 (.cst (.int 2)) (.var 7))) (.cmp 5 (.var 7) (.cst (.int 1)))))
theorem law_code : code_law = .sq lc1 (.sq lc2 (.sq lc3 (.sq lc4 (.sq lc5 (.sq lc6 (.sq lc7 (.sq lc8 (.sq lc9 (.sq lc10 (.sq lc11 (.sq lc12 (.sq lc13 (.sq lc14 (.sq lc15 (.sq lc16 (.sq lc17 (.sq lc18 (.sq lc19 (.sq lc20 (.sq lc21 (.sn))))))))))))))))))))) := rfl
theorem seq_step {tb : Tb} {a b : Ev.Code} {l l' : Ev.Loc} {h h' : Hv} (e : (Ev.run tb a).s l h = .mk (.nx l') h') : (Ev.run tb (.sq a b)).s l h = (Ev.run tb b).s l' h' := by
  show SR.bind ((Ev.run tb a).s l h) (Ev.run tb b).s = _
  rw [e]
  rfl
theorem f0 : tb_law.fs[0]? = some (fz m__law_part) := rfl
theorem f1 : tb_law.fs[1]? = some (fz m_purse_against) := rfl
theorem f2 : tb_law.fs[2]? = some (fz m__law_draw) := rfl
theorem f3 : tb_law.fs[3]? = some (fz m_golden_number) := rfl
theorem f4 : tb_law.fs[4]? = some (fz m__law_whole) := rfl
theorem f5 : tb_law.fs[5]? = some (fz m_repeats_until) := rfl
theorem f6 : tb_law.fs[6]? = some m__law_pot := rfl
theorem eq_bl {h : Hv} {a b : Bool} : oEqD h (.bl a) (.bl b) = .ok (.bl (a == b)) h := by
  cases a <;> cases b <;> rfl
abbrev U : D := .unset
theorem st1 (ns : List Int) (hn : ns.length ≤ 63) : ∃ zs, (Ev.run tb_law lc1).s [.sc (ns.map .int), U, U, U, U, U, U, U, U, U, U, U, U] ⟨[], 0⟩ = .mk (.nx [.sc (ns.map .int), .ref 0, U, U, U, U, U, U, U, U, U, U, U]) (Hz zs) := by
  obtain ⟨zs, e⟩ := pot_ok ns hn
  exact ⟨zs, by simp [lc1, Ev.run, f6, eOpt, eCall, aCons, aNil, eVar, Res.bind, Res.toS, sSet, gN, e]⟩
theorem st2 (S : D) (zs : List Int) : ∃ (s : Int) (zs' : List Int), 0 ≤ s ∧ s ≤ 24418 ∧ (Ev.run tb_law lc2).s [S, .ref 0, U, U, U, U, U, U, U, U, U, U, U] (Hz zs) = .mk (.nx [S, .ref 0, .int s, U, U, U, U, U, U, U, U, U, U]) (Hz zs') := by
  obtain ⟨d1, z1, a1, b1, e1⟩ := draw_ok zs 30 (by decide)
  obtain ⟨d2, z2, a2, b2, e2⟩ := draw_ok z1 30 (by decide)
  obtain ⟨d3, z3, a3, b3, e3⟩ := draw_ok z2 30 (by decide)
  have m1 : ∀ h, oMul h (.int d2) (.int d3) = .ok (.int (d2 * d3)) h := fun h => mul_ev 5 5 (by omega) (by omega) (by decide)
  have k1 : d2 * d3 ≤ 29 * 29 := Int.mul_le_mul (by omega) (by omega) a3 (by decide)
  have k0 : 0 ≤ d2 * d3 := Int.mul_nonneg a2 a3
  have m2 : ∀ h, oMul h (.int d1) (.int (1 + d2 * d3)) = .ok (.int (d1 * (1 + d2 * d3))) h := fun h => mul_ev 5 20 (by omega) (by omega) (by decide)
  have k2 : d1 * (1 + d2 * d3) ≤ 29 * (1 + 29 * 29) := Int.mul_le_mul (by omega) (by omega) (by omega) (by decide)
  have k3 : 0 ≤ d1 * (1 + d2 * d3) := Int.mul_nonneg a1 (by omega)
  refine ⟨d1 * (1 + d2 * d3), z3, k3, by omega, ?_⟩
  simp [lc2, Ev.run, f2, eOpt, eCall, aCons, aNil, eVar, eC, Res.bind, Res.toS, sSet, gN, Ev.e2, opN, e1, e2, e3, m1, m2, add_ev]
theorem ix_fl {h : Hv} {xs : List D} {i : Int} {d : D} (e : L2.atI xs i = some d) : oIx2 h (.fl xs) (.int i) = .ok d h := by
  show (match L2.atI xs i with
    | some d => Res.ok d h
    | none => .stuck) = _
  rw [e]
theorem st3 (S s : D) (hs : s ≠ U) (zs : List Int) : ∃ (p : Int) (zs' : List Int), 1 ≤ p ∧ p ≤ 59 ∧ (Ev.run tb_law lc3).s [S, .ref 0, s, U, U, U, U, U, U, U, U, U, U] (Hz zs) = .mk (.nx [S, .ref 0, s, .int p, U, U, U, U, U, U, U, U, U]) (Hz zs') := by
  obtain ⟨d1, z1, a1, b1, e1⟩ := draw_ok zs 9 (by decide)
  have hd : ∃ p : Int, 1 ≤ p ∧ p ≤ 59 ∧ L2.atI [D.int 1, .int 2, .int 3, .int 5, .int 8, .int 13, .int 21, .int 34, .int 55] d1 = some (.int p) := by
    have : d1 = 0 ∨ d1 = 1 ∨ d1 = 2 ∨ d1 = 3 ∨ d1 = 4 ∨ d1 = 5 ∨ d1 = 6 ∨ d1 = 7 ∨ d1 = 8 := by omega
    rcases this with h | h | h | h | h | h | h | h | h <;> subst h <;> exact ⟨_, by decide, by decide, rfl⟩
  obtain ⟨p, p1, p2, p3⟩ := hd
  refine ⟨p, z1, p1, p2, ?_⟩
  simp [lc3, Ev.run, f2, eOpt, eCall, eA, oLst, szOk, aCons, aNil, eVar, eC, Res.bind, Res.toS, sSet, gN, Ev.e2, e1, ix_fl p3]
theorem st4 (S s : D) (p : Int) (h1 : 1 ≤ p) (h2 : p ≤ 59) (zs : List Int) : ∃ (p' : Int) (zs' : List Int), 1 ≤ p' ∧ p' ≤ 59 ∧ (Ev.run tb_law lc4).s [S, .ref 0, s, .int p, U, U, U, U, U, U, U, U, U] (Hz zs) = .mk (.nx [S, .ref 0, s, .int p', U, U, U, U, U, U, U, U, U]) (Hz zs') := by
  obtain ⟨d1, z1, a1, b1, e1⟩ := draw_ok zs 3 (by decide)
  obtain ⟨d2, z2, a2, b2, e2⟩ := draw_ok z1 30 (by decide)
  obtain ⟨d3, z3, a3, b3, e3⟩ := draw_ok z2 30 (by decide)
  by_cases c : d1 = 2
  · refine ⟨1 + d2 + d3, z3, by omega, by omega, ?_⟩
    simp [lc4, Ev.run, sSeq, SR.bind, sIf, tB, sNil, opC, eq_int, f2, eOpt, eCall, aCons, aNil, eVar, eC, Res.bind, Res.toS, sSet, gN, Ev.e2, opN, e1, e2, e3, c, add_ev]
  · refine ⟨p, z1, h1, h2, ?_⟩
    simp [lc4, Ev.run, sSeq, SR.bind, sIf, tB, sNil, opC, eq_int, f2, eOpt, eCall, aCons, aNil, eVar, eC, Res.bind, Res.toS, Ev.e2, e1, c]
theorem st5 (S s : D) (p : Int) (h1 : 1 ≤ p) (h2 : p ≤ 59) (zs : List Int) : ∃ (r : Int) (zs' : List Int), (Ev.run tb_law lc5).s [S, .ref 0, s, .int p, U, U, U, U, U, U, U, U, U] (Hz zs) = .mk (.nx [S, .ref 0, s, .int p, .int r, U, U, U, U, U, U, U, U]) (Hz zs') := by
  obtain ⟨d1, z1, a1, b1, e1⟩ := draw_ok zs 2 (by decide)
  have g := part_gq p (by omega) (by omega) (Hz zs)
  refine ⟨gq p + d1, z1, ?_⟩
  simp [lc5, Ev.run, f0, f2, eOpt, eCall, aCons, aNil, eVar, eC, Res.bind, Res.toS, sSet, gN, Ev.e2, opN, e1, g, add_ev]
theorem st6 (S s p : D) (r : Int) (zs : List Int) : ∃ (r' : Int) (zs' : List Int), (Ev.run tb_law lc6).s [S, .ref 0, s, p, .int r, U, U, U, U, U, U, U, U] (Hz zs) = .mk (.nx [S, .ref 0, s, p, .int r', U, U, U, U, U, U, U, U]) (Hz zs') := by
  obtain ⟨d1, z1, a1, b1, e1⟩ := draw_ok zs 10 (by decide)
  obtain ⟨d2, z2, a2, b2, e2⟩ := draw_ok z1 30 (by decide)
  by_cases c : d1 = 9
  · refine ⟨d2 - 5, z2, ?_⟩
    simp [lc6, Ev.run, sSeq, SR.bind, sIf, tB, sNil, opC, opB, oI, eq_int, f2, eOpt, eCall, aCons, aNil, eVar, eC, Res.bind, Res.toS, sSet, gN, Ev.e2, e1, e2, c]
  · refine ⟨r, z1, ?_⟩
    simp [lc6, Ev.run, sSeq, SR.bind, sIf, tB, sNil, opC, eq_int, f2, eOpt, eCall, aCons, aNil, eVar, eC, Res.bind, Res.toS, Ev.e2, e1, c]
section
variable (S : D) (s p r t : Int) (zs : List Int)
abbrev L7 (S : D) (s p r t : Int) (k b m tb lo pa tu : D) : Ev.Loc := [S, .ref 0, .int s, .int p, .int r, .int t, k, b, m, tb, lo, pa, tu]
theorem st7 (e : ∀ h, fz m_repeats_until [.int s, .int p, .int r] h = .ok (.int t) h) : (Ev.run tb_law lc7).s [S, .ref 0, .int s, .int p, .int r, U, U, U, U, U, U, U, U] (Hz zs) = .mk (.nx (L7 S s p r t U U U U U U U)) (Hz zs) := by
  simp [lc7, Ev.run, f5, eOpt, eCall, aCons, aNil, eVar, Res.bind, Res.toS, sSet, gN, e]
theorem st8 (hp : 1 ≤ p ∧ p ≤ 59) (h1 : s ≤ t) (h2 : t ≤ s + 3 * p * p) : (Ev.run tb_law lc8).s (L7 S s p r t U U U U U U U) (Hz zs) = .mk (.nx (L7 S s p r t U U U U U U U)) (Hz zs) := by
  have m1 : ∀ h, oMul h (.int 3) (.int p) = .ok (.int (3 * p)) h := fun h => mul_ev 3 7 (by decide) (by omega) (by decide)
  have m2 : ∀ h, oMul h (.int (3 * p)) (.int p) = .ok (.int (3 * p * p)) h := fun h => mul_ev 10 7 (by omega) (by omega) (by decide)
  have n1 : ¬ t < s := by omega
  have n2 : ¬ s + 3 * p * p < t := by omega
  simp [lc8, Ev.run, sIf, Ev.tOr, Ev.tNot, tE, tB, oTru, Ev.e2, opC, opN, oI, f4, eOpt, eCall, aCons, aNil, eVar, eC, Res.bind, Res.toS, sNil, whole, m1, m2, add_ev, n1, n2]
theorem st9 (hp : 1 ≤ p ∧ p ≤ 59) (h0 : 0 ≤ t) (h1 : t ≤ 40000) (h2 : gq (t + p) ≠ gq t + r) : (Ev.run tb_law lc9).s (L7 S s p r t U U U U U U U) (Hz zs) = .mk (.nx (L7 S s p r t U U U U U U U)) (Hz zs) := by
  have e1 := fun h => part_gq (t + p) (by omega) (by omega) h
  have e2 := fun h => part_gq t h0 (by omega) h
  simp [lc9, Ev.run, sIf, tB, Ev.e2, opC, opN, eq_int, f0, eOpt, eCall, aCons, aNil, eVar, Res.bind, Res.toS, sNil, add_ev, e1, e2, h2]
def lce : Ev.Code := (.bnN 0 (.var 2) (.cal 2 (.cns (.var 1) (.cns (.cst (.int 30)) (.nil)))))
theorem comp_draw (l : Ev.Loc) (hl : ∀ (i : Int) (h : Hv), ∃ l1, gN 12 (.int i) l = some l1 ∧ l1[1]? = some (.ref 0) ∧ l1[2]? = some (.int s)) : ∀ (n : Nat) (lo : Int) (acc : List D) (zs : List Int), ∃ (ys zs' : List Int), ys.length = n ∧ compGo (gN 12) tYes (Ev.run tb_law lce).e l (upFrom lo n) acc (Hz zs) = .ok (.fl (acc.reverse ++ ys.map D.int)) (Hz zs')
  | 0, lo, acc, zs => ⟨[], zs, rfl, by simp [upFrom, compGo]⟩
  | n + 1, lo, acc, zs => by
    obtain ⟨l1, g1, g2, g3⟩ := hl lo (Hz zs)
    obtain ⟨d, z1, a1, b1, e1⟩ := draw_ok zs 30 (by decide)
    obtain ⟨ys, z2, hy, e2⟩ := comp_draw l hl n (lo + 1) (.int (s + d) :: acc) z1
    refine ⟨(s + d) :: ys, z2, by simp [hy], ?_⟩
    have ee : (Ev.run tb_law lce).e l1 (Hz zs) = .ok (.int (s + d)) (Hz z1) := by
      simp [lce, Ev.run, f2, eOpt, eCall, aCons, aNil, eVar, eC, Res.bind, Ev.e2, opN, g2, g3, e1, add_ev]
    unfold upFrom compGo
    rw [g1]
    simp only [tYes, ee]
    rw [e2]
    simp
end
end LW

set_option Elab.async false
set_option linter.all false
set_option maxRecDepth 100000
set_option maxHeartbeats 8000000
namespace LW
open PySem Ev KB
section
variable (S : D) (s p r t : Int) (zs : List Int)
theorem st10 : ∃ (ks zs' : List Int), (Ev.run tb_law lc10).s (L7 S s p r t U U U U U U U) (Hz zs) = .mk (.nx (L7 S s p r t (.fl (ks.map D.int)) U U U U U U)) (Hz zs') := by
  obtain ⟨ys, z2, len, e⟩ := comp_draw s (wipeL (L7 S s p r t U U U U U U U) [12]) (fun i h => ⟨_, rfl, rfl, rfl⟩) 10 0 [] zs
  have r1 : ∀ l h, (iR1 (eC (.int 10))) l h = .ok (upFrom 0 10) h := fun l h => rfl
  have ec : eComp [12] (iR1 (eC (.int 10))) (gN 12) tYes (Ev.run tb_law lce).e (L7 S s p r t U U U U U U U) (Hz zs) = .ok (.fl (ys.map D.int)) (Hz z2) := by
    unfold eComp
    rw [r1]
    simp only [Res.bind]
    rw [if_pos (by decide), e]
    simp
  refine ⟨[s, t - 1, (s + t) / 2] ++ ys, z2, ?_⟩
  have dv2' : ∀ h (i : Int), oDiv h (.int i) (.int 2) = .ok (.int (i / 2)) h := fun h i => by
    show (if divOk i 2 = true then Res.ok (D.int (i / 2)) h else .stuck) = _
    rw [if_pos (dv2 i)]
  have ad : ∀ h, oAdd h (.fl [.int s, .int (t - 1), .int ((s + t) / 2)]) (.fl (ys.map D.int)) = .ok (.fl (([s, t - 1, (s + t) / 2] ++ ys).map D.int)) h := fun h => by
    show (if szOk (3 + (ys.map D.int).length) = true then Res.ok (D.fl ([.int s, .int (t - 1), .int ((s + t) / 2)] ++ ys.map D.int)) h else .stuck) = _
    rw [List.length_map, len, if_pos (by decide)]
    rfl
  show (Ev.run tb_law (.st (.gn 6) (.bnN 0 (.lst (.cns (.var 2) (.cns (.bin 0 (.var 5) (.cst (.int 1))) (.cns (.bin 1 (.bnN 0 (.var 2) (.var 5)) (.cst (.int 2))) (.nil))))) (.com [12] (.i1 (.cst (.int 10))) (.gn 12) (.ty) lce)))).s _ _ = _
  simp [Ev.run, eA, oLst, szOk, aCons, aNil, eVar, eC, Res.bind, Res.toS, sSet, gN, Ev.e2, opN, opB, oI, dv2', add_ev, ec, ad]
theorem ne_ev {h : Hv} {i j : Int} (e : i = j) : oNeD h (.int i) (.int j) = .ok (.bl false) h := by
  rw [ne_int, decide_eq_true e]
  rfl
theorem st11 (ks : List Int) (hp : 1 ≤ p ∧ p ≤ 59) (h0 : 0 ≤ s) (h1 : t ≤ 40000) (h2 : ∀ b, s ≤ b → b < t → gq (b + p) = gq b + r) : ∃ b', (Ev.run tb_law lc11).s (L7 S s p r t (.fl (ks.map D.int)) U U U U U U) (Hz zs) = .mk (.nx (L7 S s p r t (.fl (ks.map D.int)) b' U U U U U)) (Hz zs) := by
  obtain ⟨l', h', e, b', q1, q2⟩ := for_inv (gN 7) (Ev.run tb_law (.sq (.sf (.tan (.tv (.cmp 5 (.var 7) (.var 2))) (.tan (.tv (.cmp 2 (.var 7) (.var 5))) (.tv (.cmp 1 (.cal 0 (.cns (.bnN 0 (.var 7) (.var 3)) (.nil))) (.bnN 0 (.cal 0 (.cns (.var 7) (.nil))) (.var 4)))))) (.sq (.rt (.cst (.bl false))) (.sn)) (.sn)) (.sn))).s
    (fun i l h => ∃ b', l = L7 S s p r t (.fl (ks.map D.int)) b' U U U U U ∧ h = Hz zs) (ks.map D.int) 0 _ _ ⟨U, rfl, rfl⟩ (fun i x l h ex ⟨b', q1, q2⟩ => by
      subst q1 q2
      rw [List.getElem?_map] at ex
      obtain ⟨v, _, rfl⟩ := Option.map_eq_some_iff.mp ex
      refine ⟨_, L7 S s p r t (.fl (ks.map D.int)) (.int v) U U U U U, Hz zs, rfl, .inl ?_, .int v, rfl, rfl⟩
      by_cases c1 : s ≤ v
      · by_cases c2 : v < t
        · have e1 := fun h => part_gq (v + p) (by omega) (by omega) h
          have e2 := fun h => part_gq v (by omega) (by omega) h
          have e3 := fun h => ne_ev (h := h) (h2 v c1 c2)
          simp [Ev.run, sSeq, SR.bind, sIf, Ev.tAnd, tB, Ev.e2, opC, opN, oI, f0, eOpt, eCall, aCons, aNil, eVar, Res.bind, Res.toS, sNil, add_ev, e1, e2, e3, c1, c2]
        · simp [Ev.run, sSeq, SR.bind, sIf, Ev.tAnd, tB, Ev.e2, opC, opN, oI, eVar, Res.bind, Res.toS, sNil, c1, c2]
      · simp [Ev.run, sSeq, SR.bind, sIf, Ev.tAnd, tB, Ev.e2, opC, opN, oI, eVar, Res.bind, Res.toS, sNil, c1])
  subst q1 q2
  refine ⟨b', ?_⟩
  have ri : (iE (eVar 6)) (L7 S s p r t (.fl (ks.map D.int)) U U U U U U) (Hz zs) = .ok (ks.map D.int) (Hz zs) := rfl
  exact e
theorem st12 (k b : D) (hp : 1 ≤ p ∧ p ≤ 59) (h0 : 0 ≤ s) (hst : s ≤ t) (h1 : t ≤ 40000) (h2 : ∀ b, s ≤ b → b < t → gq (b + p) = gq b + r) : ∃ b', (Ev.run tb_law lc12).s (L7 S s p r t k b U U U U U) (Hz zs) = .mk (.nx (L7 S s p r t k b' U U U U U)) (Hz zs) := by
  obtain ⟨n, hn⟩ : ∃ n : Int, n = if s + 40 < t then s + 40 else t := ⟨_, rfl⟩
  have n1 : n ≤ t := by rw [hn]; split <;> omega
  have n2 : s ≤ n := by rw [hn]; split <;> omega
  obtain ⟨l', h', e, b', q1, q2⟩ := for_inv (gN 7) (Ev.run tb_law (.sq (.sf (.tv (.cmp 1 (.cal 0 (.cns (.bnN 0 (.var 7) (.var 3)) (.nil))) (.bnN 0 (.cal 0 (.cns (.var 7) (.nil))) (.var 4)))) (.sq (.rt (.cst (.bl false))) (.sn)) (.sn)) (.sq (.sf (.tv (.cmp 1 (.cal 3 (.cns (.cst (.int 1)) (.cns (.var 7) (.cns (.cst (.int 1)) (.nil))))) (.cal 0 (.cns (.var 7) (.nil))))) (.sq (.rt (.cst (.bl false))) (.sn)) (.sn)) (.sn)))).s
    (fun i l h => ∃ b', l = L7 S s p r t k b' U U U U U ∧ h = Hz zs) (upFrom s (n - s).toNat) 0 _ _ ⟨b, rfl, rfl⟩ (fun i x l h ex ⟨b', q1, q2⟩ => by
      subst q1 q2
      rw [upFrom_get] at ex
      split at ex
      · rename_i hi
        cases ex
        obtain ⟨v, hv⟩ : ∃ v, v = s + (i : Int) := ⟨_, rfl⟩
        rw [← hv]
        have v1 : s ≤ v := by omega
        have v2 : v < t := by omega
        refine ⟨_, L7 S s p r t k (.int v) U U U U U, Hz zs, rfl, .inl ?_, .int v, rfl, rfl⟩
        have e1 := fun h => part_gq (v + p) (by omega) (by omega) h
        have e2 := fun h => part_gq v (by omega) (by omega) h
        have e3 := fun h => ne_ev (h := h) (h2 v v1 v2)
        have e4 := fun h => number_ok v (by omega) (by omega) h
        have e5 := fun h => ne_ev (h := h) (show gq v = gq v from rfl)
        simp [Ev.run, sSeq, SR.bind, sIf, tB, Ev.e2, opC, opN, f0, f3, eOpt, eCall, aCons, aNil, eVar, eC, Res.bind, Res.toS, sNil, add_ev, e1, e2, e3, e4, e5]
      · cases ex)
  subst q1 q2
  refine ⟨b', ?_⟩
  have rg : ∀ i : Int, 0 ≤ i → i ≤ 50000 → rngOk i = true := fun i a b => by
    show (decide (-4611686018427387904 ≤ i) && decide (i < 4611686018427387904)) = true
    rw [decide_eq_true (by omega), decide_eq_true (by omega)]
    rfl
  have ri : (iR2 (eVar 2) (eA (opI tb_law 2) (aCons (eVar 5) (aCons (Ev.e2 (opN 0) (eVar 2) (eC (.int 40))) aNil)))) (L7 S s p r t k b U U U U U) (Hz zs) = .ok (upFrom s (n - s).toNat) (Hz zs) := by
    simp [iR2, eA, opI, oMin2, aCons, aNil, eVar, eC, Res.bind, Ev.e2, opN, add_ev]
    rw [← hn]
    show (if (rngOk s && rngOk n) = true then Res.ok (upFrom s (n - s).toNat) (Hz zs) else .stuck) = _
    rw [rg s h0 (by omega), rg n (by omega) (by omega)]
    rfl
  show ((iR2 (eVar 2) (eA (opI tb_law 2) (aCons (eVar 5) (aCons (Ev.e2 (opN 0) (eVar 2) (eC (.int 40))) aNil)))) (L7 S s p r t k b U U U U U) (Hz zs)).toS _ _ = _
  rw [ri]
  exact e
end
end LW

set_option Elab.async false
set_option linter.all false
set_option maxRecDepth 100000
set_option maxHeartbeats 8000000
namespace LW
open PySem Ev KB
section
variable (S k : D) (s p r t : Int) (zs : List Int) (webD tableD : D)
theorem fz_f (X : D) : True := trivial
theorem st13 (hw : ∀ X : O, fz (dfl m_c_Web_line [.int 1]) [.cls 0, .int 3] ⟨[X], 0⟩ = .ok webD ⟨[X], 0⟩) (b : D) : (Ev.run tb_law lc13).s (L7 S s p r t k b U U U U U) (Hz zs) = .mk (.nx (L7 S s p r t k b webD U U U U)) (Hz zs) := by
  have c1 : tb_law.cms[1]? = some (0, fz (dfl m_c_Web_line [.int 1])) := rfl
  have e := hw (O.lst (zs.map D.int))
  simp [lc13, Ev.run, c1, eCM, aCons, aNil, eC, Res.bind, Res.toS, sSet, gN, e]
theorem st14 (ht : ∀ X : O, fz m_c_Table_least [.cls 1, webD] ⟨[X], 0⟩ = .ok tableD ⟨[X], 0⟩) (hw : webD ≠ U) (b : D) : (Ev.run tb_law lc14).s (L7 S s p r t k b webD U U U U) (Hz zs) = .mk (.nx (L7 S s p r t k b webD tableD U U U)) (Hz zs) := by
  have c1 : tb_law.cms[0]? = some (1, fz m_c_Table_least) := rfl
  have e := ht (O.lst (zs.map D.int))
  have v : (eVar 8) (L7 S s p r t k b webD U U U U) (Hz zs) = .ok webD (Hz zs) := by
    cases webD <;> first | rfl | exact absurd rfl hw
  simp only [lc14, Ev.run, c1, eCM, aCons, aNil, v, Res.bind, Res.toS, sSet, gN, e]
  rfl
theorem st15 (hp : ∀ X : O, oAttr [(1, .prop m_p_Table_period)] ⟨[X], 0⟩ tableD = .ok (.int 3) ⟨[X], 0⟩) (hs : ∀ X : O, oAttr [(1, .prop m_p_Table_slopes)] ⟨[X], 0⟩ tableD = .ok (.tup [.int 0, .int 1, .int 2, .int 3]) ⟨[X], 0⟩) (ht : tableD ≠ U) (b : D) :
    (Ev.run tb_law lc15).s (L7 S s p r t k b webD tableD U U U) (Hz zs) = .mk (.nx (L7 S s p r t k b webD tableD U U U)) (Hz zs) := by
  have a0 : tb_law.ats[0]? = some [(1, .prop m_p_Table_slopes)] := rfl
  have a1 : tb_law.ats[1]? = some [(1, .prop m_p_Table_period)] := rfl
  have e1 := hp (O.lst (zs.map D.int))
  have e2 := hs (O.lst (zs.map D.int))
  have v : (eVar 9) (L7 S s p r t k b webD tableD U U U) (Hz zs) = .ok tableD (Hz zs) := by
    cases tableD <;> first | rfl | exact absurd rfl ht
  have n1 : ∀ h, oNeD h (.int 3) (.int 3) = .ok (.bl false) h := fun h => ne_ev rfl
  have n2 : ∀ h, oNeD h (.tup [.int 0, .int 1, .int 2, .int 3]) (.tup [.int 0, .int 1, .int 2, .int 3]) = .ok (.bl false) h := fun h => rfl
  simp only [lc15, Ev.run, a0, a1, sIf, Ev.tOr, tB, Ev.e2, Ev.e1, v, Res.bind, e1, e2, opC, eC, n1, eA, aCons, aNil, Res.toS]
  simp [oTup, szOk, n2, sNil]
theorem st16 (b m tb : D) : ∃ (d : Int) (zs' : List Int), 0 ≤ d ∧ d < 30 ∧ (Ev.run tb_law lc16).s (L7 S s p r t k b m tb U U U) (Hz zs) = .mk (.nx (L7 S s p r t k (.int d) m tb U U U)) (Hz zs') := by
  obtain ⟨d1, z1, a1, b1, e1⟩ := draw_ok zs 30 (by decide)
  exact ⟨d1, z1, a1, b1, by simp [lc16, Ev.run, f2, eOpt, eCall, aCons, aNil, eVar, eC, Res.bind, Res.toS, sSet, gN, e1]⟩
theorem st17 (h1 : ∀ (X : O) (b : Int), 0 ≤ b → b < 30 → fz m_purse_against [webD, .int 1, .int b, .int 60] ⟨[X], 0⟩ = .ok (.int (b / 2)) ⟨[X], 0⟩) (h2 : ∀ (X : O) (b : Int), 0 ≤ b → b < 30 → fz m_purse_against [webD, .int 2, .int b, .int 60] ⟨[X], 0⟩ = .ok (.int (2 * b)) ⟨[X], 0⟩) (hw : webD ≠ U)
    (b : Int) (tb : D) (hb : 0 ≤ b) (hb2 : b < 30) : (Ev.run tb_law lc17).s (L7 S s p r t k (.int b) webD tb U U U) (Hz zs) = .mk (.nx (L7 S s p r t k (.int b) webD tb U U U)) (Hz zs) := by
  have e1 := h1 (O.lst (zs.map D.int)) b hb hb2
  have e2 := h2 (O.lst (zs.map D.int)) b hb hb2
  have v : (eVar 8) (L7 S s p r t k (.int b) webD tb U U U) (Hz zs) = .ok webD (Hz zs) := by
    cases webD <;> first | rfl | exact absurd rfl hw
  have v7 : (eVar 7) (L7 S s p r t k (.int b) webD tb U U U) (Hz zs) = .ok (.int b) (Hz zs) := rfl
  have n1 : ∀ h, oNeD h (.int (b / 2)) (.int (b / 2)) = .ok (.bl false) h := fun h => ne_ev rfl
  have n2 : ∀ h, oNeD h (.int (2 * b)) (.int (2 * b)) = .ok (.bl false) h := fun h => ne_ev rfl
  have dv2' : ∀ h (i : Int), oDiv h (.int i) (.int 2) = .ok (.int (i / 2)) h := fun h i => by
    show (if divOk i 2 = true then Res.ok (D.int (i / 2)) h else .stuck) = _
    rw [if_pos (dv2 i)]
  have m1 : ∀ h, oMul h (.int 2) (.int b) = .ok (.int (2 * b)) h := fun h => mul_ev 3 6 (by decide) (by omega) (by decide)
  simp only [lc17, Ev.run, sIf, Ev.tOr, tB, Ev.e2, v, v7, Res.bind, f1, eOpt, eCall, aCons, aNil, eC, e1, e2, opC, opB, opN, dv2', m1, n1, n2, Res.toS, sNil, Bool.false_eq_true, if_false]
theorem st18 (b : Int) (m tb : D) : (Ev.run tb_law lc18).s (L7 S s p r t k (.int b) m tb U U U) (Hz zs) = .mk (.nx (L7 S s p r t k (.int b) m tb (.int (b / 2)) U U)) (Hz zs) := by
  simp [lc18, Ev.run, Ev.e2, opB, oI, dv2, eVar, eC, Res.bind, Res.toS, sSet, gN]
theorem st19 (b : Int) (m tb lo : D) (hb : 0 ≤ b) (hb2 : b < 30) : (Ev.run tb_law lc19).s (L7 S s p r t k (.int b) m tb lo U U) (Hz zs) = .mk (.nx (L7 S s p r t k (.int b) m tb lo (.int (gq b)) U)) (Hz zs) := by
  have e := part_gq b hb (by omega) (Hz zs)
  simp [lc19, Ev.run, f0, eOpt, eCall, aCons, aNil, eVar, Res.bind, Res.toS, sSet, gN, e]
theorem st20 (b : Int) (m tb : D) (hb : 0 ≤ b) (hb2 : b < 30) : (Ev.run tb_law lc20).s (L7 S s p r t k (.int b) m tb (.int (b / 2)) (.int (gq b)) U) (Hz zs) = .mk (.nx (L7 S s p r t k (.int b) m tb (.int (b / 2)) (.int (gq b)) U)) (Hz zs) := by
  have n1 : ¬ gq b < b / 2 := by unfold gq; omega
  have n2 : ¬ 2 * b < b + gq b := by unfold gq; omega
  have m1 : ∀ h, oMul h (.int 2) (.int b) = .ok (.int (2 * b)) h := fun h => mul_ev 3 6 (by decide) (by omega) (by decide)
  simp [lc20, Ev.run, sIf, Ev.tOr, tB, Ev.e2, opC, opN, oI, eVar, eC, Res.bind, Res.toS, sNil, m1, add_ev, n1, n2]
theorem st21 (b : Int) (m tb : D) (hb : 0 ≤ b) (hb2 : b < 30) : (Ev.run tb_law lc21).s (L7 S s p r t k (.int b) m tb (.int (b / 2)) (.int (gq b)) U) (Hz zs) = .mk (.rt (.bl true)) (Hz zs) := by
  have m1 : ∀ h, oMul h (.int 2) (.int b) = .ok (.int (2 * b)) h := fun h => mul_ev 3 6 (by decide) (by omega) (by decide)
  have c1 : (b / 2 < gq b) ↔ (b = 5 ∨ b = 7 ∨ 9 ≤ b) := by unfold gq; omega
  have c2 : (b + gq b < 2 * b) ↔ (1 ≤ b) := by unfold gq; omega
  have d2 : decide (b + gq b < 2 * b) = decide (1 ≤ b) := decide_eq_decide.mpr c2
  by_cases h5 : b = 5
  · subst h5; rfl
  · by_cases h7 : b = 7
    · subst h7; rfl
    · have d1 : decide (b / 2 < gq b) = decide (9 ≤ b) := decide_eq_decide.mpr (by omega)
      simp [lc21, Ev.run, sRet, eAnd, eOr, Ev.e2, opC, opN, oI, eq_int, eq_bl, eVar, eC, Res.bind, Res.toS, m1, add_ev, h5, h7, d1, d2]
end
end LW

set_option Elab.async false
set_option linter.all false
set_option maxRecDepth 100000
set_option maxHeartbeats 8000000
namespace LW
open PySem Ev KB
theorem law_of (webD tableD : D) (w0 : webD ≠ U) (t0 : tableD ≠ U) (hw : ∀ X : O, fz (dfl m_c_Web_line [.int 1]) [.cls 0, .int 3] ⟨[X], 0⟩ = .ok webD ⟨[X], 0⟩) (ht : ∀ X : O, fz m_c_Table_least [.cls 1, webD] ⟨[X], 0⟩ = .ok tableD ⟨[X], 0⟩)
    (hp : ∀ X : O, oAttr [(1, .prop m_p_Table_period)] ⟨[X], 0⟩ tableD = .ok (.int 3) ⟨[X], 0⟩) (hs : ∀ X : O, oAttr [(1, .prop m_p_Table_slopes)] ⟨[X], 0⟩ tableD = .ok (.tup [.int 0, .int 1, .int 2, .int 3]) ⟨[X], 0⟩)
    (h1 : ∀ (X : O) (b : Int), 0 ≤ b → b < 30 → fz m_purse_against [webD, .int 1, .int b, .int 60] ⟨[X], 0⟩ = .ok (.int (b / 2)) ⟨[X], 0⟩) (h2 : ∀ (X : O) (b : Int), 0 ≤ b → b < 30 → fz m_purse_against [webD, .int 2, .int b, .int 60] ⟨[X], 0⟩ = .ok (.int (2 * b)) ⟨[X], 0⟩)
    (ns : List Int) (hn : ns.length ≤ 63) : ∃ h, m_law [.sc (ns.map .int)] ⟨[], 0⟩ = .ok (.bl true) h := by
  have hS : ∀ d, D.sc (ns.map .int) = d → d ≠ U := fun d e z => by subst e; cases z
  obtain ⟨z1, e1⟩ := st1 ns hn
  obtain ⟨s, z2, s0, s1, e2⟩ := st2 (.sc (ns.map .int)) z1
  obtain ⟨p1, z3, pa, pb, e3⟩ := st3 (.sc (ns.map .int)) (.int s) (by intro z; cases z) z2
  obtain ⟨p, z4, p0, p2, e4⟩ := st4 (.sc (ns.map .int)) (.int s) p1 pa pb z3
  obtain ⟨r1, z5, e5⟩ := st5 (.sc (ns.map .int)) (.int s) p p0 p2 z4
  obtain ⟨r, z6, e6⟩ := st6 (.sc (ns.map .int)) (.int s) (.int p) r1 z5
  obtain ⟨t, t1, t2, t3, t4, t5, t6⟩ := repeats_ok s p r s0 s1 p0 p2
  have e7 := st7 (.sc (ns.map .int)) s p r t z6 t6
  have e8 := st8 (.sc (ns.map .int)) s p r t z6 ⟨p0, p2⟩ t1 t2
  have e9 := st9 (.sc (ns.map .int)) s p r t z6 ⟨p0, p2⟩ (by omega) t3 t4
  obtain ⟨ks, z7, e10⟩ := st10 (.sc (ns.map .int)) s p r t z6
  obtain ⟨b1, e11⟩ := st11 (.sc (ns.map .int)) s p r t z7 ks ⟨p0, p2⟩ s0 t3 t5
  obtain ⟨b2, e12⟩ := st12 (.sc (ns.map .int)) s p r t z7 (.fl (ks.map D.int)) b1 ⟨p0, p2⟩ s0 t1 t3 t5
  have e13 := st13 (.sc (ns.map .int)) (.fl (ks.map D.int)) s p r t z7 webD hw b2
  have e14 := st14 (.sc (ns.map .int)) (.fl (ks.map D.int)) s p r t z7 webD tableD ht w0 b2
  have e15 := st15 (.sc (ns.map .int)) (.fl (ks.map D.int)) s p r t z7 webD tableD hp hs t0 b2
  obtain ⟨b, z8, b3, b4, e16⟩ := st16 (.sc (ns.map .int)) (.fl (ks.map D.int)) s p r t z7 b2 webD tableD
  have e17 := st17 (.sc (ns.map .int)) (.fl (ks.map D.int)) s p r t z8 webD h1 h2 w0 b tableD b3 b4
  have e18 := st18 (.sc (ns.map .int)) (.fl (ks.map D.int)) s p r t z8 b webD tableD
  have e19 := st19 (.sc (ns.map .int)) (.fl (ks.map D.int)) s p r t z8 b webD tableD (.int (b / 2)) b3 b4
  have e20 := st20 (.sc (ns.map .int)) (.fl (ks.map D.int)) s p r t z8 b webD tableD b3 b4
  have e21 := st21 (.sc (ns.map .int)) (.fl (ks.map D.int)) s p r t z8 b webD tableD b3 b4
  have fin : (Ev.run tb_law code_law).s [.sc (ns.map .int), U, U, U, U, U, U, U, U, U, U, U, U] ⟨[], 0⟩ = .mk (.rt (.bl true)) (Hz z8) := by
    rw [law_code, seq_step e1, seq_step e2, seq_step e3, seq_step e4, seq_step e5, seq_step e6, seq_step e7, seq_step e8, seq_step e9, seq_step e10, seq_step e11, seq_step e12, seq_step e13, seq_step e14, seq_step e15, seq_step e16, seq_step e17, seq_step e18, seq_step e19, seq_step e20]
    show SR.bind ((Ev.run tb_law lc21).s _ _) _ = _
    rw [e21]
    rfl
  refine ⟨Hz z8, ?_⟩
  unfold m_law fnOf
  show (match (Ev.run tb_law code_law).s [.sc (ns.map .int), U, U, U, U, U, U, U, U, U, U, U, U] ⟨[], 0⟩ with
    | .mk (.nx _) h => Res.ok D.non h
    | .mk (.rt d) h => .ok d h
    | .mk (.ex c _) h => .exc c h
    | _ => .stuck) = _
  rw [fin]
end LW

set_option Elab.async false
set_option linter.all false
set_option maxRecDepth 100000
set_option maxHeartbeats 0
namespace LW
open PySem Ev KB
def notU : D → Bool
  | .unset => false
  | _ => true
theorem table_ne : tableD ≠ .unset := by
  have h : notU tableD = true := by decide +kernel
  intro z
  rw [z] at h
  cases h
end LW
open PySem PySem.W PySem.Calls PyProof.Rows
theorem PySem.Challenge.cw_pursewebs_k65_whole_no_table_for_the_ban_holds : PySem.Challenge.rw_pursewebs_k65_whole_no_table_for_the_ban.Holds := by
  w_on; o_law
  refine HandSHeadRun.head_any (r := OpenLaw.row PySem.Challenge.rw_pursewebs_k65_whole_no_table_for_the_ban) (q := view (OpenLaw.row PySem.Challenge.rw_pursewebs_k65_whole_no_table_for_the_ban).prog [84]) (H := LW.hk) (ob := LW.ob) (M := 20000) (loose := LW.names) (d := HandSHeadRun.topDef (OpenLaw.row PySem.Challenge.rw_pursewebs_k65_whole_no_table_for_the_ban).prog 84) (kwd := []) LW.ob_eq
    (by kernel_rfl) (fun s => by kernel_rfl) LW.run (by kernel_rfl) (by kernel_rfl) (by kernel_rfl) (by rfl) (by first | assumption | decide +kernel) (by decide +kernel) ⟨rfl, rfl, rfl, rfl, rfl, by decide +kernel⟩ ?hw ?hc
  case hw => w_witness2
  case hc =>
    refine Ev.walk_end (l := PySem.Challenge.rw_pursewebs_k65_whole_no_table_for_the_ban) (n := 63) (k := 11) (x := "_law_script") (m := LW.m_law) rfl (by decide) (by kernel_rfl) ⟨rfl, by decide, by decide⟩ ?F (fun ns hn _ => LW.law_of LW.webD LW.tableD (by intro z; cases z) LW.table_ne LW.web_ok LW.table_ok LW.per_ok LW.slo_ok LW.purse1 LW.purse2 ns hn)
    intro w mg fa h Y G hmg0
    obtain ⟨K, KX, c⟩ := Y
    have hmg : mg ("law" : PySem.Str) = some (.ref fa) := by
      have e : (HandSHeadRun.topDef (OpenLaw.row PySem.Challenge.rw_pursewebs_k65_whole_no_table_for_the_ban).prog 84).name = ("law" : PySem.Str) := by kernel_rfl
      rw [← e]
      exact hmg0
    obtain ⟨fd, hb, hF⟩ := LW.facts (P := (PySem.Challenge.rw_pursewebs_k65_whole_no_table_for_the_ban).prog) (w := w) KX G hmg c
    exact ⟨K, LW.cad K, fd, KX, hb, hF⟩

