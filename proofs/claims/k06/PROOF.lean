import PyProof.Rows.All
import Wide.All
import OpenK.AllK
import Wide.FinOn
import KE.KDictKeyed
import KE.SortData
import PyProof.ReprRoads
import PyProof.EqLayable
import HandS.List
import HandS.Text
import HandS.ForMost
import HandS.Walk
import HandS.WordsExc
import HandS.IsInst
import HandS.Ends
import HandS.TupAny
import HandS.Style
import HandS.Zip
import HandS.Rev
import KE.GoesEnum
import KE.GoesMore
import HandS.Dict
import HandS.DictTup
import KE.KDictSum
import PyProof.TupleOfSeq
import HandS.DictComp
import PyProof.Rows.SetFrom
import PyProof.WalksMore
import HandS.TupSets
import KE.KDictPairs
import PyProof.InstEq
import PySem.Challenge.RW_lampnets_k06_whole_webs_of_signs
set_option autoImplicit false
/-! PV: a small plain model of values, heaps and shallow programs; what the laws' texts are mirrored in. -/
namespace PV
open PySem (Str PyData)
/-- values: immutable ones by content, mutable ones by their number in the heap; fz, fd, fi: a list, a dict, an instance that nobody changes -/
inductive D where
  | non | bl (b : Bool) | int (i : Int) | str (x : Str) | tup (xs : List D) | fz (xs : List D) | fd (ks vs : List D) | fi (c : Nat) (ns : List String) (vs : List D) | ref (n : Nat)
/-- objects -/
inductive O where
  | lst (xs : List D) | dic (kvs : List (D × D)) | ins (c : Nat) (fs : List (String × D))
abbrev Hh := List O
abbrev Sg := List (Option D)
/-- the longest list, text -/
abbrev big : Nat := 16777216
/-- what a step comes to -/
inductive R (α : Type) where
  | ok (a : α) (h : Hh) | exc (c : Nat) (fs : List (String × D)) (h : Hh) | bad
def R.bind {α β : Type} (r : R α) (k : α → Hh → R β) : R β :=
  match r with
  | .ok a h => k a h
  | .exc c fs h => .exc c fs h
  | .bad => .bad
@[simp] theorem R.bind_ok {α β : Type} (a : α) (h : Hh) (k : α → Hh → R β) : (R.ok a h).bind k = k a h := rfl
@[simp] theorem R.bind_exc {α β : Type} (c : Nat) (fs : List (String × D)) (h : Hh) (k : α → Hh → R β) : (R.exc c fs h : R α).bind k = .exc c fs h := rfl
@[simp] theorem R.bind_bad {α β : Type} (k : α → Hh → R β) : (R.bad : R α).bind k = .bad := rfl
/-- what a statement comes to -/
inductive RS where
  | nx (S : Sg) (h : Hh) | rt (d : D) (h : Hh) | exc (c : Nat) (fs : List (String × D)) (S : Sg) (h : Hh) | bad
/-- an expression's result used in a statement -/
def R.into {α : Type} (r : R α) (S : Sg) (k : α → Hh → RS) : RS :=
  match r with
  | .ok a h => k a h
  | .exc c fs h => .exc c fs S h
  | .bad => .bad
@[simp] theorem R.into_ok {α : Type} (a : α) (h : Hh) (S : Sg) (k : α → Hh → RS) : (R.ok a h).into S k = k a h := rfl
@[simp] theorem R.into_exc {α : Type} (c : Nat) (fs : List (String × D)) (h : Hh) (S : Sg) (k : α → Hh → RS) : (R.exc c fs h : R α).into S k = .exc c fs S h := rfl
@[simp] theorem R.into_bad {α : Type} (S : Sg) (k : α → Hh → RS) : (R.bad : R α).into S k = .bad := rfl
def RS.bind (r : RS) (k : Sg → Hh → RS) : RS :=
  match r with
  | .nx S h => k S h
  | o => o
@[simp] theorem RS.bind_nx (S : Sg) (h : Hh) (k : Sg → Hh → RS) : (RS.nx S h).bind k = k S h := rfl
@[simp] theorem RS.bind_rt (d : D) (h : Hh) (k : Sg → Hh → RS) : (RS.rt d h).bind k = .rt d h := rfl
@[simp] theorem RS.bind_exc (c : Nat) (fs : List (String × D)) (S : Sg) (h : Hh) (k : Sg → Hh → RS) : (RS.exc c fs S h).bind k = .exc c fs S h := rfl
@[simp] theorem RS.bind_bad (k : Sg → Hh → RS) : RS.bad.bind k = .bad := rfl

abbrev Ex := Sg → Hh → R D
abbrev Tt := Sg → Hh → R Bool
abbrev As := Sg → Hh → R (List D)
abbrev St := Sg → Hh → RS
/-- the objects that a walk leans on -/
abbrev Src := List (Nat × O)
/-- a row of values that is walked: the values, and the objects of the heap where they stand -/
abbrev Lv := List D × Src
abbrev Ls := Sg → Hh → R Lv

/-! ### expressions -/
def eC (d : D) : Ex := fun _ h => .ok d h
def eV (i : Nat) : Ex := fun S h => match S[i]? with
  | some (some d) => .ok d h
  | _ => .bad
def e1 (f : D → Hh → R D) (a : Ex) : Ex := fun S h => (a S h).bind fun x h1 => f x h1
def e2 (f : D → D → Hh → R D) (a b : Ex) : Ex := fun S h => (a S h).bind fun x h1 => (b S h1).bind fun y h2 => f x y h2
def aN : As := fun _ h => .ok [] h
def aC (a : Ex) (r : As) : As := fun S h => (a S h).bind fun x h1 => (r S h1).bind fun xs h2 => .ok (x :: xs) h2
def eF (F : List D → Hh → R D) (a : As) : Ex := fun S h => (a S h).bind fun xs h1 => F xs h1
/-- a tuple display -/
def eTup (a : As) : Ex := fun S h => (a S h).bind fun xs h1 => if xs.length ≤ big then .ok (.tup xs) h1 else .bad
def eIf (c : Tt) (a b : Ex) : Ex := fun S h => (c S h).bind fun k h1 => if k = true then a S h1 else b S h1
/-- where nothing may be raised -/
def R.calm {α : Type} : R α → R α
  | .ok a h => .ok a h
  | _ => .bad
@[simp] theorem R.calm_ok {α : Type} (a : α) (h : Hh) : (R.ok a h).calm = .ok a h := rfl
@[simp] theorem R.calm_bad {α : Type} : (R.bad : R α).calm = .bad := rfl

/-! ### tests -/
/-- a value that is a bool -/
def isB : D → Hh → R Bool
  | .bl b, h => .ok b h
  | _, _ => .bad
def tV (a : Ex) : Tt := fun S h => (a S h).bind isB
def tAnd (a b : Tt) : Tt := fun S h => (a S h).bind fun k h1 => if k = true then b S h1 else .ok false h1
def tOr (a b : Tt) : Tt := fun S h => (a S h).bind fun k h1 => if k = true then .ok true h1 else b S h1
def tNot (a : Tt) : Tt := fun S h => (a S h).bind fun k h1 => .ok (!k) h1
/-- and, or as values, all but the last a bool -/
def eAnd (a : Ex) (b : Ex) : Ex := fun S h => (a S h).bind fun x h1 => (isB x h1).bind fun k h2 => if k = true then b S h2 else .ok (.bl false) h2
def eOr (a : Ex) (b : Ex) : Ex := fun S h => (a S h).bind fun x h1 => (isB x h1).bind fun k h2 => if k = true then .ok (.bl true) h2 else b S h2
def eNot (a : Ex) : Ex := fun S h => (a S h).bind fun x h1 => (isB x h1).bind fun k h2 => .ok (.bl (!k)) h2
/-- a op b op' c -/
def eCh (f g : D → D → Hh → R D) (a b c : Ex) : Ex := fun S h => (a S h).bind fun x h1 => (b S h1).bind fun y h2 => (f x y h2).bind fun z h3 =>
  (isB z h3).bind fun k h4 => if k = true then (c S h4).bind fun w h5 => g y w h5 else .ok (.bl false) h4

/-! ### statements -/
def sNil : St := fun S h => .nx S h
def sSeq (a b : St) : St := fun S h => (a S h).bind b
def sRet (a : Ex) : St := fun S h => (a S h).into S fun d h1 => .rt d h1
def sRetN : St := fun _ h => .rt .non h
def sIf (c : Tt) (a b : St) : St := fun S h => (c S h).into S fun k h1 => if k = true then a S h1 else b S h1
def sSet (i : Nat) (a : Ex) : St := fun S h => (a S h).into S fun d h1 => .nx (S.set i (some d)) h1
def sDrop (a : Ex) : St := fun S h => (a S h).into S fun _ h1 => .nx S h1
def sBad : St := fun _ _ => .bad
/-- targets -/
abbrev Tg := D → Sg → Hh → RS
abbrev Tgs := List D → Sg → Hh → RS
def gV (i : Nat) : Tg := fun d S h => .nx (S.set i (some d)) h
def gN : Tgs
  | [], S, h => .nx S h
  | _, _, _ => .bad
def gC (t : Tg) (r : Tgs) : Tgs
  | x :: xs, S, h => (t x S h).bind fun S1 h1 => r xs S1 h1
  | _, _, _ => .bad
def gT (n : Nat) (r : Tgs) : Tg := fun d S h => match d with
  | .tup xs => if xs.length = n then r xs S h else .bad
  | _ => .bad
def sAsg (a : Ex) (t : Tg) : St := fun S h => (a S h).into S fun d h1 => t d S h1
/-- a, b = x, y: the right one stored first -/
def sPar (i j : Nat) (a b : Ex) : St := fun S h => (a S h).into S fun x h1 => (b S h1).into S fun y h2 => .nx ((S.set i (some x)).set j (some y)) h2
/-- o[i] = v -/
def sSub (f : D → D → D → Hh → R Unit) (o i v : Ex) : St := fun S h => (v S h).into S fun z h1 => (o S h1).into S fun x h2 => (i S h2).into S fun y h3 => (f x y z h3).into S fun _ h4 => .nx S h4

/-! ### what is walked -/
/-- is what is walked as it was? -/
def still : Src → Hh → Prop
  | [], _ => True
  | p :: r, h => h[p.1]? = some p.2 ∧ still r h
@[simp] theorem still_nil (h : Hh) : still [] h = True := rfl
@[simp] theorem still_cons (k : Nat) (o : O) (r : Src) (h : Hh) : still ((k, o) :: r) h = (h[k]? = some o ∧ still r h) := rfl
section
open Classical
noncomputable def forM (src : Src) (g : Tg) (body : St) : List D → Sg → Hh → RS
  | [], S, h => if still src h then .nx S h else .bad
  | x :: xs, S, h => if still src h then (g x S h).bind fun S1 h1 => (body S1 h1).bind fun S2 h2 => forM src g body xs S2 h2 else .bad
noncomputable def sFor (it : Ls) (g : Tg) (body : St) : St := fun S h => (it S h).into S fun p h1 => forM p.2 g body p.1 S h1
/-- the slots of a comprehension's own names are forgotten in it -/
def wipe (S : Sg) : List Nat → Sg
  | [] => S
  | v :: vs => (wipe S vs).set v none
/-- [e for g in .. if t] -/
noncomputable def lcM (src : Src) (vs : List Nat) (g : Tg) (t : Tt) (e : Ex) (S : Sg) : List D → Hh → List D → R (List D)
  | [], h, acc => if still src h then .ok acc h else .bad
  | x :: xs, h, acc => if still src h then match g x (wipe S vs) h with
    | .nx S1 h1 => (t S1 h1).calm.bind fun k h2 => if k = true then (e S1 h2).calm.bind fun d h3 => if acc.length < big then lcM src vs g t e S xs h3 (acc ++ [d]) else .bad else lcM src vs g t e S xs h2 acc
    | _ => .bad
    else .bad
/-- .. as a list that stands nowhere -/
noncomputable def lLc (it : Ls) (vs : List Nat) (g : Tg) (t : Tt) (e : Ex) : As := fun S h => (it S h).bind fun p h1 => lcM p.2 vs g t e S p.1 h1 []
end
def tY : Tt := fun _ h => .ok true h
def whileM (c : Tt) (body : St) : Nat → Sg → Hh → RS
  | 0, _, _ => .bad
  | n + 1, S, h => (c S h).into S fun k h1 => if k = true then (body S h1).bind fun S2 h2 => whileM c body n S2 h2 else .nx S h1
def sWhile (n : Nat) (c : Tt) (body : St) : St := whileM c body n

/-! ### rows of values -/
/-- a value that is walked -/
def itD : D → Hh → R Lv
  | .tup xs, h => .ok (xs, []) h
  | .fz xs, h => .ok (xs, []) h
  | .ref k, h => match h[k]? with
    | some (.lst xs) => .ok (xs, [(k, .lst xs)]) h
    | _ => .bad
  | _, _ => .bad
theorem itD_ref (k : Nat) (h : Hh) : itD (.ref k) h = (match h[k]? with
    | some (.lst xs) => .ok (xs, [(k, .lst xs)]) h
    | _ => .bad) := rfl
def lE (a : Ex) : Ls := fun S h => (a S h).bind itD
/-- [a, b, ..] -/
def lD (a : As) : As := fun S h => (a S h).bind fun xs h1 => if xs.length ≤ big then .ok xs h1 else .bad
/-- a new list as a row that is walked -/
def lF (l : As) : Ls := fun S h => (l S h).bind fun ds h1 => .ok (ds, []) h1
/-- a new list laid into the heap -/
def eL (l : As) : Ex := fun S h => (l S h).bind fun ds h1 => .ok (.ref h1.length) (h1 ++ [.lst ds])
/-- a row's use -/
def eU (F : List D → Hh → R D) (l : Ls) : Ex := fun S h => (l S h).bind fun p h1 => F p.1 h1
end PV
namespace PV
open PySem (Str PyData)
/-! ### defs -/
mutual
/-- it names no object beyond the first n -/
def D.bel (n : Nat) : D → Prop
  | .ref i => i < n
  | .tup xs => D.bels n xs
  | .fz xs => D.bels n xs
  | .fd ks vs => D.bels n ks ∧ D.bels n vs
  | .fi _ _ vs => D.bels n vs
  | _ => True
def D.bels (n : Nat) : List D → Prop
  | [] => True
  | x :: xs => D.bel n x ∧ D.bels n xs
end
def O.bel (n : Nat) : O → Prop
  | .lst xs => D.bels n xs
  | .dic kvs => ∀ p ∈ kvs, p.1.bel n ∧ p.2.bel n
  | .ins _ fs => ∀ p ∈ fs, p.2.bel n
/-- what stood may be told without what came -/
def tidyOk (h h' : Hh) : Prop := h.length ≤ h'.length ∧ ∀ (i : Nat) (o : O), i < h.length → h'[i]? = some o → h[i]? = some o ∨ o.bel h.length
section
open Classical
/-- what a def hands back, what it made and does not hand back forgotten -/
noncomputable def tidy (h : Hh) (r : R D) : R D :=
  match r with
  | .ok d h' => if tidyOk h h' then
      if d.bel h.length then .ok d (h'.take h.length)
      else match d with
        | .ref k => match h'[k]? with
          | some o => if o.bel h.length then .ok (.ref h.length) (h'.take h.length ++ [o]) else .ok d h'
          | none => .ok d h'
        | _ => .ok d h'
    else .ok d h'
  | .exc c fs h' => if tidyOk h h' ∧ ∀ p ∈ fs, p.2.bel h.length then .exc c fs (h'.take h.length) else .exc c fs h'
  | .bad => .bad
end
def runB (m : St) (S : Sg) (h : Hh) : R D :=
  match m S h with
  | .nx _ h' => .ok .non h'
  | .rt d h' => .ok d h'
  | .exc c fs _ h' => .exc c fs h'
  | .bad => .bad
/-- the slots at a def's entry -/
def sg (n : Nat) (ds : List D) : Sg := ds.map some ++ List.replicate (n - ds.length) none
/-- a def of n slots, k of them parameters -/
noncomputable def fn (n k : Nat) (m : St) : List D → Hh → R D := fun ds h => if ds.length = k then tidy h (runB m (sg n ds) h) else .bad
end PV
set_option autoImplicit false
/-! PVOps: what the operators and the built-in functions come to. -/
namespace PV
open PySem (Str PyData)
/-! ### numbers -/
/-- the items of a list -/
def lsD : D → Hh → Option (List D)
  | .fz xs, _ => some xs
  | .ref k, h => match h[k]? with
    | some (.lst xs) => some xs
    | _ => none
  | _, _ => none
def small (i : Int) : Prop := -(2 ^ 64) < i ∧ i < 2 ^ 64
def addD : D → D → Hh → R D
  | .int i, .int j, h => .ok (.int (i + j)) h
  | .int i, .bl k, h => .ok (.int (i + if k = true then 1 else 0)) h
  | .str a, .str b, h => if a.length + b.length ≤ big then .ok (.str (a ++ b)) h else .bad
  | .tup a, .tup b, h => if a.length + b.length ≤ big then .ok (.tup (a ++ b)) h else .bad
  | x, y, h => match lsD x h, lsD y h with
    | some xs, some ys => if xs.length + ys.length ≤ big then .ok (.fz (xs ++ ys)) h else .bad
    | _, _ => .bad
def subD : D → D → Hh → R D
  | .int i, .int j, h => .ok (.int (i - j)) h
  | _, _, _ => .bad
def mulD : D → D → Hh → R D
  | .int i, .int j, h => if (-(2 ^ 64) < i ∧ i < 2 ^ 64) ∨ (-(2 ^ 64) < j ∧ j < 2 ^ 64) then .ok (.int (i * j)) h else .bad
  | x, .int k, h => match lsD x h with
    | some xs => if -(2 ^ 63) ≤ k ∧ k < 2 ^ 63 ∧ xs.length * k.toNat ≤ big then .ok (.fz (List.replicate k.toNat xs).flatten) h else .bad
    | none => .bad
  | _, _, _ => .bad
def fdivD : D → D → Hh → R D
  | .int i, .int j, h => if 0 < j ∧ j < 1073741824 then .ok (.int (i / j)) h else .bad
  | _, _, _ => .bad
def modD : D → D → Hh → R D
  | .int i, .int j, h => if 0 < j then .ok (.int (i % j)) h else .bad
  | _, _, _ => .bad
def powD : D → D → Hh → R D
  | .int i, .int j, h => if 0 ≤ j ∧ j ≤ 1000000 ∧ i.natAbs < 2 ^ 64 then .ok (.int (i ^ j.toNat)) h else .bad
  | _, _, _ => .bad
def shlD : D → D → Hh → R D
  | .int i, .int j, h => if 0 ≤ j ∧ j ≤ 1000000 ∧ i.natAbs < 2 ^ 64 then .ok (.int (i * 2 ^ j.toNat)) h else .bad
  | _, _, _ => .bad
def shrD : D → D → Hh → R D
  | .int i, .int j, h => if 0 ≤ j then .ok (.int (i / 2 ^ j.toNat)) h else .bad
  | _, _, _ => .bad
def andD : D → D → Hh → R D
  | .int i, .int j, h => .ok (.int (PySem.Builtin.bitAnd i j)) h
  | _, _, _ => .bad
def orD : D → D → Hh → R D
  | .int i, .int j, h => .ok (.int (PySem.Builtin.bitOr i j)) h
  | _, _, _ => .bad
def xorD : D → D → Hh → R D
  | .int i, .int j, h => .ok (.int (PySem.Builtin.bitXor i j)) h
  | _, _, _ => .bad
def negD : D → Hh → R D
  | .int i, h => .ok (.int (-i)) h
  | _, _ => .bad
def ltD : D → D → Hh → R D
  | .int i, .int j, h => .ok (.bl (decide (i < j))) h
  | _, _, _ => .bad
def leD : D → D → Hh → R D
  | .int i, .int j, h => .ok (.bl (decide (i ≤ j))) h
  | _, _, _ => .bad
def gtD : D → D → Hh → R D
  | .int i, .int j, h => .ok (.bl (decide (j < i))) h
  | _, _, _ => .bad
def geD : D → D → Hh → R D
  | .int i, .int j, h => .ok (.bl (decide (j ≤ i))) h
  | _, _, _ => .bad
def isNonD : D → D → Hh → R D
  | d, .non, h => match d with
    | .non => .ok (.bl true) h
    | _ => .ok (.bl false) h
  | _, _, _ => .bad
def isNotNonD : D → D → Hh → R D
  | d, .non, h => match d with
    | .non => .ok (.bl false) h
    | _ => .ok (.bl true) h
  | _, _, _ => .bad
/-! ### data -/
mutual
/-- an immutable value as data -/
def D.py : D → Option PyData
  | .non => some .none
  | .bl b => some (.bool b)
  | .int i => some (.int i)
  | .str x => some (.str x)
  | .tup xs => (D.pys xs).map .tuple
  | .fz xs => (D.pys xs).map .list
  | .fd _ _ => none
  | .fi _ _ _ => none
  | .ref _ => none
def D.pys : List D → Option (List PyData)
  | [] => some []
  | x :: xs => match D.py x, D.pys xs with
    | some p, some ps => some (p :: ps)
    | _, _ => none
end
/-- a value as data: a list's items immutable -/
def pyH (h : Hh) : D → Option PyData
  | .ref k => match h[k]? with
    | some (.lst xs) => (D.pys xs).map .list
    | _ => none
  | d => d.py
def eqD (x y : D) (h : Hh) : R D := match pyH h x, pyH h y with
  | some p, some q => if PySem.SeqAt.shaped p = true ∧ PySem.SeqAt.shaped q = true then .ok (.bl (PyData.eqv p q)) h else .bad
  | _, _ => .bad
def neD (x y : D) (h : Hh) : R D := match pyH h x, pyH h y with
  | some p, some q => if PySem.SeqAt.shaped p = true ∧ PySem.SeqAt.shaped q = true then .ok (.bl (!PyData.eqv p q)) h else .bad
  | _, _ => .bad
/-- repr of data -/
def reprD : List D → Hh → R D
  | [x], h => match pyH h x with
    | some p => if p.showable = true ∧ p.hasDict = false ∧ p.depth ≤ 50 ∧ p.shown.length ≤ big then .ok (.str p.shown) h else .bad
    | none => .bad
  | _, _ => .bad
/-! ### places -/
def ixD : D → D → Hh → R D
  | .tup xs, .int i, h => match L2.atI xs i with
    | some d => .ok d h
    | none => .bad
  | .fz xs, .int i, h => match L2.atI xs i with
    | some d => .ok d h
    | none => .bad
  | .ref k, .int i, h => match h[k]? with
    | some (.lst xs) => match L2.atI xs i with
      | some d => .ok d h
      | none => .bad
    | _ => .bad
  | .str z, .int i, h => if z.length ≤ big then match L2.atI z.cps.toList i with
      | some c => .ok (.str ⟨#[c]⟩) h
      | none => .bad
    else .bad
  | _, _, _ => .bad
/-- xs[i] = v of a list -/
def setD : D → D → D → Hh → R Unit
  | .ref k, .int i, v, h => match h[k]? with
    | some (.lst xs) => match L2.ixN xs.length i with
      | some j => .ok () (h.set k (.lst (xs.set j v)))
      | none => .bad
    | _ => .bad
  | _, _, _, _ => .bad
/-- xs.append(v) -/
def appD : D → List D → Hh → R D
  | .ref k, [v], h => match h[k]? with
    | some (.lst xs) => if xs.length < big then .ok .non (h.set k (.lst (xs ++ [v]))) else .bad
    | _ => .bad
  | _, _, _ => .bad
/-! ### slices -/
abbrev Os := Sg → Hh → R (Option Int)
def oN : Os := fun _ h => .ok none h
def oS (a : Ex) : Os := fun S h => (a S h).bind fun d h1 => match d with
  | .int i => .ok (some i) h1
  | _ => .bad
def cut {α : Type} (xs : List α) (lo hi : Option Int) : List α := (xs.drop (HT.sIx xs.length 0 lo)).take (HT.sIx xs.length xs.length hi - HT.sIx xs.length 0 lo)
/-- t[lo:hi] of a tuple, a text -/
def eSl (a : Ex) (lo hi : Os) : Ex := fun S h => (a S h).bind fun d h1 => (lo S h1).bind fun l h2 => (hi S h2).bind fun u h3 => match d with
  | .tup xs => .ok (.tup (cut xs l u)) h3
  | .str z => if z.length ≤ big then .ok (.str (L2.cutS z l u)) h3 else .bad
  | .fz xs => .ok (.fz (cut xs l u)) h3
  | .ref k => match h3[k]? with
    | some (.lst xs) => .ok (.fz (cut xs l u)) h3
    | _ => .bad
  | _ => .bad
/-- a list's part, as a new list -/
def aSl (a : Ex) (lo hi : Os) : As := fun S h => (a S h).bind fun d h1 => (lo S h1).bind fun l h2 => (hi S h2).bind fun u h3 => match lsD d h3 with
  | some xs => .ok (cut xs l u) h3
  | none => .bad
/-- list + list, as a new list -/
def aCat (a b : Ex) : As := fun S h => (a S h).bind fun x h1 => (b S h1).bind fun y h2 => match lsD x h2, lsD y h2 with
  | some xs, some ys => if xs.length + ys.length ≤ big then .ok (xs ++ ys) h2 else .bad
  | _, _ => .bad
/-- list * int, as a new list -/
def aRep (a b : Ex) : As := fun S h => (a S h).bind fun x h1 => (b S h1).bind fun y h2 => match lsD x h2, y with
  | some xs, .int k => if -(2 ^ 63) ≤ k ∧ k < 2 ^ 63 ∧ xs.length * k.toNat ≤ big then .ok (List.replicate k.toNat xs).flatten h2 else .bad
  | _, _ => .bad
/-! ### built-in functions -/
def lenD : List D → Hh → R D
  | [.tup xs], h => .ok (.int xs.length) h
  | [.fz xs], h => .ok (.int xs.length) h
  | [.fd ks _], h => .ok (.int ks.length) h
  | [.str z], h => if z.length ≤ big then .ok (.int z.length) h else .bad
  | [.ref k], h => match h[k]? with
    | some (.lst xs) => .ok (.int xs.length) h
    | some (.dic kvs) => .ok (.int kvs.length) h
    | _ => .bad
  | _, _ => .bad
def absD : List D → Hh → R D
  | [.int i], h => .ok (.int (if i < 0 then -i else i)) h
  | _, _ => .bad
def intD : List D → Hh → R D
  | [.int i], h => .ok (.int i) h
  | [.bl k], h => .ok (.int (if k = true then 1 else 0)) h
  | _, _ => .bad
/-- of a row -/
def tupL (xs : List D) (h : Hh) : R D := .ok (.tup xs) h
def lenL (xs : List D) (h : Hh) : R D := .ok (.int xs.length) h
def intsI : List D → Option (List Int)
  | [] => some []
  | .int i :: r => (intsI r).map (i :: ·)
  | _ => none
def sumL (xs : List D) (h : Hh) : R D := match intsI xs with
  | some ns => .ok (.int ns.sum) h
  | none => .bad
def boolsD : List D → Option (List Bool)
  | [] => some []
  | .bl i :: r => (boolsD r).map (i :: ·)
  | _ => none
def allL (xs : List D) (h : Hh) : R D := match boolsD xs with
  | some bs => .ok (.bl (bs.all id)) h
  | none => .bad
def anyL (xs : List D) (h : Hh) : R D := match boolsD xs with
  | some bs => .ok (.bl (bs.any id)) h
  | none => .bad
/-! ### rows -/
def two62 (i : Int) : Prop := -(2 ^ 62) ≤ i ∧ i < 2 ^ 62
def lR1 (a : Ex) : Ls := fun S h => (a S h).bind fun d h1 => match d with
  | .int j => if -(2 ^ 62) ≤ j ∧ j < 2 ^ 62 then .ok ((List.range j.toNat).map fun i => D.int (i : Nat), []) h1 else .bad
  | _ => .bad
def lR2 (a b : Ex) : Ls := fun S h => (a S h).bind fun x h1 => (b S h1).bind fun y h2 => match x, y with
  | .int i, .int j => if (-(2 ^ 62) ≤ i ∧ i < 2 ^ 62) ∧ -(2 ^ 62) ≤ j ∧ j < 2 ^ 62 then .ok ((List.range (j - i).toNat).map fun t => D.int (i + (t : Nat)), []) h2 else .bad
  | _, _ => .bad
def enumL : Nat → List D → List D
  | _, [] => []
  | k, x :: xs => .tup [.int k, x] :: enumL (k + 1) xs
def lEn (l : Ls) : Ls := fun S h => (l S h).bind fun p h1 => .ok (enumL 0 p.1, p.2) h1
def zipL : List D → List D → List D
  | x :: xs, y :: ys => .tup [x, y] :: zipL xs ys
  | _, _ => []
open Classical in
noncomputable def lZip (l m : Ls) : Ls := fun S h => (l S h).bind fun p h1 => (m S h1).bind fun q h2 => if still p.2 h2 then .ok (zipL p.1 q.1, p.2 ++ q.2) h2 else .bad
end PV
namespace PV
open PySem (Str PyData)
/-- a new list's use -/
def eUF (F : List D → Hh → R D) (l : As) : Ex := fun S h => (l S h).bind fun ds h1 => F ds h1
/-! ### types -/
inductive Tk where
  | bi (n : String) | own (c : Nat)
  deriving DecidableEq
def tkOf (h : Hh) : D → Option Tk
  | .non => some (.bi "NoneType")
  | .bl _ => some (.bi "bool")
  | .int _ => some (.bi "int")
  | .str _ => some (.bi "str")
  | .tup _ => some (.bi "tuple")
  | .fz _ => some (.bi "list")
  | .fd _ _ => some (.bi "dict")
  | .fi c _ _ => some (.own c)
  | .ref k => match h[k]? with
    | some (.lst _) => some (.bi "list")
    | some (.dic _) => some (.bi "dict")
    | some (.ins c _) => some (.own c)
    | none => none
/-- an instance of the class t? -/
def tkIs (t : Tk) : Tk → Bool
  | a => decide (a = t) || (decide (a = .bi "bool") && decide (t = .bi "int"))
def isiD (cs : List Nat) (t : Tk) (d : D) (h : Hh) : R D := match tkOf h d with
  | some (.bi n) => .ok (.bl (tkIs t (.bi n))) h
  | some (.own c) => if cs.contains c = true then .ok (.bl (tkIs t (.own c))) h else .bad
  | none => .bad
/-! ### instances -/
def putFD (g : String) (v : D) : List (String × D) → List (String × D)
  | [] => [(g, v)]
  | (k, x) :: r => if k = g then (k, v) :: r else (k, x) :: putFD g v r
def lkF (g : String) : List String → List D → Option D
  | n :: ns, v :: vs => if n = g then some v else lkF g ns vs
  | _, _ => none
/-- o.g of an instance of one of the classes cs -/
def fldD (cs : List Nat) (g : String) (d : D) (h : Hh) : R D := match d with
  | .fi c ns vs => if cs.contains c = true then match lkF g ns vs with
      | some v => .ok v h
      | none => .bad
    else .bad
  | .ref k => match h[k]? with
    | some (.ins c fs) => if cs.contains c = true then match fs.lookup g with
        | some v => .ok v h
        | none => .bad
      else .bad
    | _ => .bad
  | _ => .bad
/-- o.g = v -/
def sFld (cs : List Nat) (g : String) (o v : Ex) : St := fun S h => (v S h).into S fun z h1 => (o S h1).into S fun x h2 => match x with
  | .ref k => match h2[k]? with
    | some (.ins c fs) => if cs.contains c = true ∧ fs.length < 1000 then .nx S (h2.set k (.ins c (putFD g z fs))) else .bad
    | _ => .bad
  | _ => .bad
/-- C(..) by its __init__ -/
def mkD (c : Nat) (F : List D → Hh → R D) : List D → Hh → R D := fun ds h => match F (.ref h.length :: ds) (h ++ [.ins c []]) with
  | .ok .non h' => .ok (.ref h.length) h'
  | .exc k fs h' => .exc k fs h'
  | _ => .bad
end PV
set_option Elab.async false
set_option linter.all false
set_option autoImplicit false
set_option maxRecDepth 100000
set_option maxHeartbeats 2000000
/-! PVBase: the mirror's values and heaps stand for those of the hand layer; the judgements. -/
namespace PV
open PySem PySem.Spec PyProof.Rows L2
abbrev Fm := Nat → Addr
abbrev Frag := PySem.W.Frag
/-- what is written, and the world -/
structure KW where
  k : Frag
  w : World
instance : Coe KW Frag := ⟨KW.k⟩
abbrev _root_.L2.Cx.KW (X : Cx) : KW := ⟨X.K, X.w⟩
/-- names of attributes -/
abbrev nmS (s : String) : Str := Str.ofString s
/-- the classes' addresses -/
abbrev Cl := Nat → Addr

mutual
/-- a value as a dict's key -/
def D.nk : D → Option NestedKey
  | .non => some .none
  | .bl b => some (.num (if b = true then 1 else 0))
  | .int i => some (.num i)
  | .str x => some (.text x)
  | .tup xs => (D.nks xs).map .tup
  | _ => none
def D.nks : List D → Option (List NestedKey)
  | [] => some []
  | x :: xs => match D.nk x, D.nks xs with
    | some k, some ks => some (k :: ks)
    | _, _ => none
end
/-- the entry's hash is the key's -/
def HashIs (w : World) (d : D) (e : DictEntry) : Prop := ∃ k, d.nk = some k ∧ e.hash = k.hash w
/-- the dict at a has the entries es -/
def rawD (a : Addr) (es : List DictEntry) : HO := .ext fun h => (a == sysModules) = false ∧ es.length ≤ sizeLine ∧ ∃ ea ep, h.DictRaw a ea ep ∧ ea.toList = es
mutual
/-- the value v stands for d -/
inductive RV (K : KW) (f : Fm) (n : Nat) (H : Hp) : D → V → Prop
  | non : RV K f n H .non .non
  | bl (b : Bool) : RV K f n H (.bl b) (.bl b)
  | int (i : Int) : RV K f n H (.int i) (.int i)
  | str (x : Str) : RV K f n H (.str x) (.str x)
  | tup {a : Addr} {ds : List D} {vs : List V} (ht : SqT K H a vs) (hs : RVs K f n H ds vs) : RV K f n H (.tup ds) (.ref a)
  | fz {a : Addr} {o : Obj} {ds : List D} {vs : List V} (ht : H a = some (.frz o (.lst vs))) (hs : RVs K f n H ds vs) : RV K f n H (.fz ds) (.ref a)
  | fd {a : Addr} {o : Obj} {ks ds : List D} {us vs : List V} {es : List DictEntry} (ht : H a = some (.frz o (rawD a es))) (hk : RVs K f n H ks us) (hs : RVs K f n H ds vs) (ek : Paired (fun v e => RelV v e.key) us es) (ev : Paired (fun v e => RelV v e.val) vs es) (eh : Paired (HashIs K.w) ks es) (nd : (ks.map D.nk).Nodup) : RV K f n H (.fd ks ds) (.ref a)
  | fi {a : Addr} {o : Obj} {c : Nat} {ns : List String} {ds : List D} {vs : List V} {dx : Addr} {fs : List (Str × V)} (ht : H a = some (.frz o (.ins c dx fs))) (hn : fs = (ns.map nmS).zip vs) (hl : ns.length = vs.length) (hs : RVs K f n H ds vs) : RV K f n H (.fi c ns ds) (.ref a)
  | ref {i : Nat} (hi : i < n) : RV K f n H (.ref i) (.ref (f i))
inductive RVs (K : KW) (f : Fm) (n : Nat) (H : Hp) : List D → List V → Prop
  | nil : RVs K f n H [] []
  | cons {d : D} {v : V} {ds : List D} {vs : List V} (h : RV K f n H d v) (t : RVs K f n H ds vs) : RVs K f n H (d :: ds) (v :: vs)
end
/-- attributes -/
abbrev RFs (K : KW) (f : Fm) (n : Nat) (H : Hp) : List (String × D) → List (Str × V) → Prop := Paired fun p q => q.1 = nmS p.1 ∧ RV K f n H p.2 q.2
/-- an entry of a dict -/
structure REn (K : KW) (f : Fm) (n : Nat) (H : Hp) (p : D × D) (e : DictEntry) : Prop where
  key : ∃ v, RV K f n H p.1 v ∧ RelV v e.key
  val : ∃ v, RV K f n H p.2 v ∧ RelV v e.val
  hash : HashIs K.w p.1 e
/-- the object at a stands for o -/
def RO (K : KW) (at_ : Cl) (f : Fm) (n : Nat) (H : Hp) (a : Addr) : O → Prop
  | .lst ds => ∃ vs, H a = some (.lst vs) ∧ RVs K f n H ds vs
  | .ins k fs => ∃ dx vs, H a = some (.ins (at_ k) dx vs) ∧ RFs K f n H fs vs
  | .dic kvs => ∃ es, H a = some (rawD a es) ∧ Paired (REn K f n H) kvs es ∧ (kvs.map fun p => p.1.nk).Nodup
structure Sm (K : KW) (at_ : Cl) (f : Fm) (h : Hh) (H : Hp) : Prop where
  inj : ∀ i j, i < h.length → j < h.length → f i = f j → i = j
  obj : ∀ i o, h[i]? = some o → RO K at_ f h.length H (f i) o
/-- what stays from one state to a later one -/
structure Ext (n n' : Nat) (f f' : Fm) (H H' : Hp) : Prop where
  le : n ≤ n'
  agr : ∀ i, i < n → f' i = f i
  kept : ∀ a o, H a = some o → (∀ i, i < n → f i ≠ a) → H' a = some o
  live : ∀ a, H' a = none → H a = none
  new : ∀ i, n ≤ i → i < n' → H (f' i) = none
theorem Ext.refl {n : Nat} {f : Fm} {H : Hp} : Ext n n f f H H := ⟨Nat.le_refl _, fun _ _ => rfl, fun _ _ e _ => e, fun _ h => h, fun i h1 h2 => absurd (Nat.lt_of_lt_of_le h2 h1) (Nat.lt_irrefl _)⟩
theorem Ext.trans {n n' n'' : Nat} {f f' f'' : Fm} {H H' H'' : Hp} (a : Ext n n' f f' H H') (b : Ext n' n'' f' f'' H' H'') : Ext n n'' f f'' H H'' where
  le := Nat.le_trans a.le b.le
  agr := fun i hi => (b.agr i (Nat.lt_of_lt_of_le hi a.le)).trans (a.agr i hi)
  kept := fun p o e ne => b.kept p o (a.kept p o e ne) fun i hi z => by
    by_cases hn : i < n
    · exact ne i hn ((a.agr i hn).symm.trans z)
    · have := a.new i (Nat.le_of_not_lt hn) hi
      rw [z, e] at this
      cases this
  live := fun p h => a.live p (b.live p h)
  new := fun i h1 h2 => by
    by_cases hn : i < n'
    · rw [b.agr i hn]
      exact a.new i h1 hn
    · exact a.live _ (b.new i (Nat.le_of_not_lt hn) h2)

section
variable {K : KW} {at_ : Cl} {f f' : Fm} {n n' : Nat} {H H' : Hp} {h h' : Hh}
/-- what the image's objects never are -/
def Fix : HO → Prop
  | .tup _ => True
  | .frz _ _ => True
  | _ => False
theorem RO.notFix {a : Addr} {o : O} (r : RO K at_ f n H a o) {u : HO} (e : H a = some u) : ¬ Fix u := by
  cases o with
  | lst ds => obtain ⟨vs, q, _⟩ := r; rw [q] at e; cases e; exact id
  | ins k fs => obtain ⟨dx, vs, q, _⟩ := r; rw [q] at e; cases e; exact id
  | dic kvs => obtain ⟨es, q, _⟩ := r; rw [q] at e; cases e; exact id
theorem Sm.off (S : Sm K at_ f h H) {a : Addr} {u : HO} (e : H a = some u) (x : Fix u) : ∀ i, i < h.length → f i ≠ a := fun i hi z => by
  have := S.obj i _ (List.getElem?_eq_getElem hi)
  subst z
  exact this.notFix e x
theorem SqT.keep {a : Addr} {xs : List V} (t : SqT K H a xs) (k : ∀ a o, Fix o → H a = some o → H' a = some o) : SqT K H' a xs := by
  rcases t with t | t
  · rcases t with t | ⟨o, t⟩
    · exact .inl (.inl (k _ _ trivial t))
    · exact .inl (.inr ⟨o, k _ _ trivial t⟩)
  · exact .inr t
mutual
theorem RV.keep (hn : n ≤ n') (ha : ∀ i, i < n → f' i = f i) (k : ∀ a o, Fix o → H a = some o → H' a = some o) : ∀ {d : D} {v : V}, RV K f n H d v → RV K f' n' H' d v
  | _, _, .non => .non
  | _, _, .bl b => .bl b
  | _, _, .int i => .int i
  | _, _, .str x => .str x
  | _, _, .tup t s => .tup (SqT.keep t k) (RVs.keep hn ha k s)
  | _, _, .fz t s => .fz (k _ _ trivial t) (RVs.keep hn ha k s)
  | _, _, .fd t r s e1 e2 e3 e4 => .fd (k _ _ trivial t) (RVs.keep hn ha k r) (RVs.keep hn ha k s) e1 e2 e3 e4
  | _, _, .fi t e1 e2 s => .fi (k _ _ trivial t) e1 e2 (RVs.keep hn ha k s)
  | _, _, .ref hi => by rw [← ha _ hi]; exact .ref (Nat.lt_of_lt_of_le hi hn)
theorem RVs.keep (hn : n ≤ n') (ha : ∀ i, i < n → f' i = f i) (k : ∀ a o, Fix o → H a = some o → H' a = some o) : ∀ {ds : List D} {vs : List V}, RVs K f n H ds vs → RVs K f' n' H' ds vs
  | _, _, .nil => .nil
  | _, _, .cons h t => .cons (RV.keep hn ha k h) (RVs.keep hn ha k t)
end
theorem Ext.fix (S : Sm K at_ f h H) (E : Ext h.length n' f f' H H') : ∀ a o, Fix o → H a = some o → H' a = some o := fun a o x e => E.kept a o e (S.off e x)
theorem RV.ext {d : D} {v : V} (r : RV K f h.length H d v) (S : Sm K at_ f h H) (E : Ext h.length n' f f' H H') : RV K f' n' H' d v := r.keep E.le E.agr (E.fix S)
theorem RVs.ext {d : List D} {v : List V} (r : RVs K f h.length H d v) (S : Sm K at_ f h H) (E : Ext h.length n' f f' H H') : RVs K f' n' H' d v := r.keep E.le E.agr (E.fix S)
theorem RVs.length : ∀ {ds : List D} {vs : List V}, RVs K f n H ds vs → ds.length = vs.length
  | _, _, .nil => rfl
  | _, _, .cons _ t => congrArg (· + 1) (RVs.length t)
theorem RVs.get : ∀ {ds : List D} {vs : List V} {i : Nat} {d : D}, RVs K f n H ds vs → ds[i]? = some d → ∃ v, vs[i]? = some v ∧ RV K f n H d v
  | _, _, _, _, .nil, e => by simp at e
  | _, _, 0, _, .cons r _, e => by simp at e; subst e; exact ⟨_, rfl, r⟩
  | _, _, i + 1, d, .cons _ t, e => by
    obtain ⟨u, h1, h2⟩ := RVs.get (i := i) (d := d) t (by simpa using e)
    exact ⟨u, by simpa using h1, h2⟩
theorem RVs.append : ∀ {ds es : List D} {vs ws : List V}, RVs K f n H ds vs → RVs K f n H es ws → RVs K f n H (ds ++ es) (vs ++ ws)
  | _, _, _, _, .nil, s => s
  | _, _, _, _, .cons r t, s => .cons r (RVs.append t s)
theorem RVs.of_get : ∀ {ds : List D} {vs : List V}, ds.length = vs.length → (∀ (i : Nat) (d : D) (v : V), ds[i]? = some d → vs[i]? = some v → RV K f n H d v) → RVs K f n H ds vs
  | [], [], _, _ => .nil
  | d :: ds, v :: vs, hl, h => .cons (h 0 d v rfl rfl) (RVs.of_get (by simpa using hl) fun i d' v' e1 e2 => h (i + 1) d' v' (by simpa using e1) (by simpa using e2))
  | [], _ :: _, hl, _ => by simp at hl
  | _ :: _, [], hl, _ => by simp at hl
theorem RVs.set {i : Nat} {d : D} {v : V} (r : RV K f n H d v) : ∀ {ds : List D} {vs : List V} (i : Nat), RVs K f n H ds vs → RVs K f n H (ds.set i d) (vs.set i v)
  | _, _, _, .nil => .nil
  | _, _, 0, .cons _ t => .cons r t
  | _, _, i + 1, .cons h t => .cons h (RVs.set (i := i) r i t)
theorem RVs.take : ∀ {ds : List D} {vs : List V} (k : Nat), RVs K f n H ds vs → RVs K f n H (ds.take k) (vs.take k)
  | _, _, 0, _ => .nil
  | _, _, _ + 1, .nil => .nil
  | _, _, k + 1, .cons h t => .cons h (RVs.take k t)
theorem RVs.drop : ∀ {ds : List D} {vs : List V} (k : Nat), RVs K f n H ds vs → RVs K f n H (ds.drop k) (vs.drop k)
  | _, _, 0, r => r
  | _, _, _ + 1, .nil => .nil
  | _, _, k + 1, .cons h t => RVs.drop k t
theorem RVs.reverse : ∀ {ds : List D} {vs : List V}, RVs K f n H ds vs → RVs K f n H ds.reverse vs.reverse
  | _, _, .nil => .nil
  | _, _, .cons h t => by
    rw [List.reverse_cons, List.reverse_cons]
    exact (RVs.reverse t).append (.cons h .nil)
theorem pimp {α β : Type} {F G : α → β → Prop} : ∀ {l₁ : List α} {l₂ : List β}, Paired F l₁ l₂ → (∀ a b, F a b → G a b) → Paired G l₁ l₂
  | _, _, .nil, _ => .nil
  | _, _, .cons r t, f => .cons (f _ _ r) (pimp t f)
theorem RFs.keep (hn : n ≤ n') (ha : ∀ i, i < n → f' i = f i) (k : ∀ a o, Fix o → H a = some o → H' a = some o) {ds : List (String × D)} {vs : List (Str × V)} (r : RFs K f n H ds vs) : RFs K f' n' H' ds vs := pimp r fun _ _ q => ⟨q.1, q.2.keep hn ha k⟩
theorem REn.keep (hn : n ≤ n') (ha : ∀ i, i < n → f' i = f i) (k : ∀ a o, Fix o → H a = some o → H' a = some o) {p : D × D} {e : DictEntry} (r : REn K f n H p e) : REn K f' n' H' p e :=
  ⟨let ⟨v, a, b⟩ := r.key; ⟨v, a.keep hn ha k, b⟩, let ⟨v, a, b⟩ := r.val; ⟨v, a.keep hn ha k, b⟩, r.hash⟩
/-- an object that stays as it is -/
theorem RO.keep (hn : n ≤ n') (ha : ∀ i, i < n → f' i = f i) (k : ∀ a o, Fix o → H a = some o → H' a = some o) {a : Addr} {o : O} (r : RO K at_ f n H a o) (e : H' a = H a) : RO K at_ f' n' H' a o := by
  cases o with
  | lst ds => obtain ⟨vs, q, r⟩ := r; exact ⟨vs, e.trans q, r.keep hn ha k⟩
  | ins c fs => obtain ⟨dx, vs, q, r⟩ := r; exact ⟨dx, vs, e.trans q, r.keep hn ha k⟩
  | dic kvs => obtain ⟨es, q, r, nd⟩ := r; exact ⟨es, e.trans q, pimp r fun _ _ z => z.keep hn ha k, nd⟩
theorem RO.some {a : Addr} {o : O} (r : RO K at_ f n H a o) : ∃ u, H a = some u := by
  cases o with
  | lst ds => obtain ⟨vs, q, _⟩ := r; exact ⟨_, q⟩
  | ins c fs => obtain ⟨dx, vs, q, _⟩ := r; exact ⟨_, q⟩
  | dic kvs => obtain ⟨es, q, _⟩ := r; exact ⟨_, q⟩
theorem Sm.tracked (S : Sm K at_ f h H) {i : Nat} (hi : i < h.length) : ∃ u, H (f i) = some u := (S.obj i _ (List.getElem?_eq_getElem hi)).some
/-! ### steps of the heap -/
/-- a fresh object, untold -/
theorem Ext.fresh {p : Addr} {o : HO} (hp : H p = none) : Ext n n f f H (upd H p o) where
  le := Nat.le_refl _
  agr := fun _ _ => rfl
  kept := fun a u e _ => by rw [upd_ne (ne_of_none e hp)]; exact e
  live := fun a e => by
    by_cases z : a = p
    · subst z; exact hp
    · rw [upd_ne z] at e; exact e
  new := fun i h1 h2 => absurd (Nat.lt_of_lt_of_le h2 h1) (Nat.lt_irrefl _)
theorem Sm.fresh (S : Sm K at_ f h H) {p : Addr} {o : HO} (hp : H p = none) : Sm K at_ f h (upd H p o) where
  inj := S.inj
  obj := fun i u e => by
    have r := S.obj i u e
    obtain ⟨z, hz⟩ := r.some
    have ne : f i ≠ p := ne_of_none hz hp
    exact r.keep (Nat.le_refl _) (fun _ _ => rfl) (fun a o _ q => by rw [upd_ne (ne_of_none q hp)]; exact q) (upd_ne ne)
/-- a fresh object, told as the heap's last -/
def ext1 (f : Fm) (n : Nat) (p : Addr) : Fm := fun i => if i = n then p else f i
theorem ext1_lt {p : Addr} {i : Nat} (hi : i < n) : ext1 f n p i = f i := by unfold ext1; rw [if_neg (Nat.ne_of_lt hi)]
theorem ext1_eq {p : Addr} : ext1 f n p n = p := by unfold ext1; rw [if_pos rfl]
theorem Ext.push {p : Addr} {o : HO} (hp : H p = none) : Ext n (n + 1) f (ext1 f n p) H (upd H p o) where
  le := Nat.le_succ _
  agr := fun i hi => ext1_lt hi
  kept := fun a u e _ => by rw [upd_ne (ne_of_none e hp)]; exact e
  live := fun a e => by
    by_cases z : a = p
    · subst z; exact hp
    · rw [upd_ne z] at e; exact e
  new := fun i h1 h2 => by
    have : i = n := by omega
    subst this
    rw [ext1_eq]; exact hp
theorem Sm.push (S : Sm K at_ f h H) {p : Addr} {u : HO} {o : O} (hp : H p = none) (r : RO K at_ (ext1 f h.length p) (h.length + 1) (upd H p u) p o) : Sm K at_ (ext1 f h.length p) (h ++ [o]) (upd H p u) where
  inj := fun i j hi hj e => by
    rw [List.length_append, List.length_singleton] at hi hj
    by_cases h1 : i = h.length
    · by_cases h2 : j = h.length
      · rw [h1, h2]
      · subst h1
        rw [ext1_eq, ext1_lt (by omega)] at e
        obtain ⟨z, hz⟩ := S.tracked (i := j) (by omega)
        rw [← e, hp] at hz; cases hz
    · by_cases h2 : j = h.length
      · subst h2
        rw [ext1_eq, ext1_lt (by omega)] at e
        obtain ⟨z, hz⟩ := S.tracked (i := i) (by omega)
        rw [e, hp] at hz; cases hz
      · rw [ext1_lt (by omega), ext1_lt (by omega)] at e
        exact S.inj i j (by omega) (by omega) e
  obj := fun i q e => by
    rw [List.length_append, List.length_singleton]
    by_cases h1 : i < h.length
    · rw [List.getElem?_append_left h1] at e
      have r := S.obj i q e
      obtain ⟨z, hz⟩ := r.some
      have ne : f i ≠ p := ne_of_none hz hp
      rw [ext1_lt h1]
      exact r.keep (Nat.le_succ _) (fun j hj => ext1_lt hj) (fun a o _ q => by rw [upd_ne (ne_of_none q hp)]; exact q) (upd_ne ne)
    · have hi : i = h.length := by
        have := (List.getElem?_eq_some_iff.mp e).1
        rw [List.length_append, List.length_singleton] at this
        omega
      subst hi
      rw [List.getElem?_append_right (Nat.le_refl _)] at e
      simp at e
      subst e
      rw [ext1_eq]
      exact r
/-- an object of the image is written -/
theorem Ext.write {i : Nat} {u : HO} (hi : i < n) : Ext n n f f H (upd H (f i) u) where
  le := Nat.le_refl _
  agr := fun _ _ => rfl
  kept := fun a v e ne => by rw [upd_ne (fun z => ne i hi z.symm)]; exact e
  live := fun a e => by
    by_cases z : a = f i
    · subst z; rw [upd_same] at e; cases e
    · rw [upd_ne z] at e; exact e
  new := fun j h1 h2 => absurd (Nat.lt_of_lt_of_le h2 h1) (Nat.lt_irrefl _)
theorem Sm.write (S : Sm K at_ f h H) {i : Nat} {u : HO} {o : O} (hi : i < h.length) (r : RO K at_ f h.length (upd H (f i) u) (f i) o) : Sm K at_ f (h.set i o) (upd H (f i) u) where
  inj := fun j k hj hk e => S.inj j k (by simpa using hj) (by simpa using hk) e
  obj := fun j q e => by
    rw [List.length_set]
    by_cases z : j = i
    · subst z
      rw [List.getElem?_set_self hi] at e
      cases e
      exact r
    · rw [List.getElem?_set_ne (Ne.symm z)] at e
      have hj : j < h.length := (List.getElem?_eq_some_iff.mp e).1
      have r := S.obj j q e
      refine r.keep (Nat.le_refl _) (fun _ _ => rfl) (fun a o x q => ?_) (upd_ne fun z' => z (S.inj j i hj hi z'))
      rw [upd_ne fun z' => S.off q x i hi z'.symm]; exact q
/-- the fixed things stay where an object of the image is written -/
theorem Sm.fixW (S : Sm K at_ f h H) {i : Nat} {u : HO} (hi : i < h.length) : ∀ a o, Fix o → H a = some o → (upd H (f i) u) a = some o := fun a o x q => by
  rw [upd_ne fun z' => S.off q x i hi z'.symm]; exact q
end
end PV
set_option Elab.async false
set_option linter.all false
set_option autoImplicit false
set_option maxRecDepth 100000
set_option maxHeartbeats 2000000
/-! PVJ: the judgements, and the plain rules. -/
namespace PV
open PySem PySem.Spec PyProof.Rows L2
/-- the slots -/
def REnv (K : KW) (f : Fm) (n : Nat) (H : Hp) (S : Sg) (σ : L2.St) : Prop :=
  S.length = σ.length ∧ ∀ (i : Nat) (d : D), S[i]? = some (some d) → ∃ v, σ[i]? = some (some v) ∧ RV K f n H d v
/-- a raised exception -/
def RX (K : KW) (at_ : Cl) (f : Fm) (n : Nat) (H : Hp) (c : Nat) (fs : List (String × D)) (cls : Value) (dx : Option Addr) : Prop :=
  cls = .ref (at_ c) ∧ match dx with
    | none => fs = []
    | some d => ∃ vs, H d = some (.xd vs) ∧ RFs K f n H fs vs
/-- what is wanted behind r -/
def Post {α β : Type} (K : KW) (at_ : Cl) (W : WX) (rel : Hp → Fm → Nat → Hp → α → β → Prop) (n : Nat) (f : Fm) (H : Hp) (σ : L2.St) (r : R α) (Q : β → Hp → Prop) : Prop :=
  match r with
  | .ok a h' => ∀ (f' : Fm) (H' : Hp) (b : β), Ext n h'.length f f' H H' → Sm K at_ f' h' H' → rel H f' h'.length H' a b → Q b H'
  | .exc c fs h' => ∀ (f' : Fm) (H' : Hp) (cls : Value) (dx : Option Addr), Ext n h'.length f f' H H' → Sm K at_ f' h' H' → RX K at_ f' h'.length H' c fs cls dx → W cls dx σ H'
  | .bad => False
/-- a reading does as m says -/
def Snd {α β : Type} (K : KW) (at_ : Cl) (W : WX) (rel : Hp → Fm → Nat → Hp → α → β → Prop) (t : L2.St → Hp → (β → Hp → Prop) → Prop) (m : Sg → Hh → R α) : Prop :=
  ∀ (f : Fm) (h : Hh) (H : Hp) (S : Sg) (σ : L2.St), Sm K at_ f h H → REnv K f h.length H S σ → ∀ Q : β → Hp → Prop, Post K at_ W rel h.length f H σ (m S h) Q → t σ H Q
/-- a row of values stands at a -/
def LV (K : KW) (f : Fm) (n : Nat) (H : Hp) (p : Lv) (a : Addr) : Prop :=
  ∃ vs, RVs K f n H p.1 vs ∧ ((p.2 = [] ∧ (SqT K H a vs ∨ (∃ o, H a = some (.frz o (.lst vs))) ∨ (H a = some (.lst vs) ∧ ∀ i, i < n → f i ≠ a))) ∨ ∃ k, p.2 = [(k, .lst p.1)] ∧ k < n ∧ a = f k ∧ H a = some (.lst vs))
abbrev relV (K : KW) : Hp → Fm → Nat → Hp → D → V → Prop := fun _ => RV K
abbrev relA (K : KW) : Hp → Fm → Nat → Hp → List D → List V → Prop := fun _ => RVs K
abbrev relB : Hp → Fm → Nat → Hp → Bool → Bool → Prop := fun _ _ _ _ a b => a = b
abbrev relU {β : Type} : Hp → Fm → Nat → Hp → Unit → β → Prop := fun _ _ _ _ _ _ => True
abbrev relL (K : KW) : Hp → Fm → Nat → Hp → Lv → V → Prop := fun _ f n H p v => ∃ a, v = .ref a ∧ LV K f n H p a
/-- a new list, untold -/
abbrev relF (K : KW) : Hp → Fm → Nat → Hp → List D → V → Prop := fun H0 f n H ds v => ∃ a vs, v = .ref a ∧ H0 a = none ∧ H a = some (.lst vs) ∧ (∀ i, i < n → f i ≠ a) ∧ RVs K f n H ds vs
class RelOk {α β : Type} (rel : Hp → Fm → Nat → Hp → α → β → Prop) : Prop where
  back : ∀ (H H' : Hp) (f : Fm) (n : Nat) (H'' : Hp) (a : α) (b : β), (∀ p, H' p = none → H p = none) → rel H' f n H'' a b → rel H f n H'' a b
instance {K : KW} : RelOk (relV K) := ⟨fun _ _ _ _ _ _ _ _ r => r⟩
instance {K : KW} : RelOk (relA K) := ⟨fun _ _ _ _ _ _ _ _ r => r⟩
instance : RelOk relB := ⟨fun _ _ _ _ _ _ _ _ r => r⟩
instance {β : Type} : RelOk (relU (β := β)) := ⟨fun _ _ _ _ _ _ _ _ r => r⟩
instance {K : KW} : RelOk (relL K) := ⟨fun _ _ _ _ _ _ _ _ r => r⟩
instance {K : KW} : RelOk (relF K) := ⟨fun _ _ _ _ _ _ _ hb ⟨a, vs, h1, h2, h3⟩ => ⟨a, vs, h1, hb a h2, h3⟩⟩

section
variable {α β γ δ : Type} {K : KW} {at_ : Cl} {W : WX} {rel : Hp → Fm → Nat → Hp → α → β → Prop} {rel2 : Hp → Fm → Nat → Hp → γ → δ → Prop} {n n' : Nat} {f f' : Fm} {H H' : Hp} {σ σ' : L2.St} {S : Sg} {h h' : Hh}
theorem Post.rebase [RelOk rel] {r : R α} {Q : β → Hp → Prop} (P : Post K at_ W rel n f H σ r Q) (E : Ext n n' f f' H H') : Post K at_ W rel n' f' H' σ r Q := by
  cases r with
  | ok a h' => exact fun f'' H'' b E' S' r' => P f'' H'' b (E.trans E') S' (RelOk.back _ _ _ _ _ _ _ E.live r')
  | exc c fs h' => exact fun f'' H'' cls dx E' => P f'' H'' cls dx (E.trans E')
  | bad => exact P
/-- the first part of a chain -/
theorem Post.step [RelOk rel] {r : R γ} {k : γ → Hh → R α} {Q : β → Hp → Prop} {Q' : δ → Hp → Prop} (P : Post K at_ W rel n f H σ (r.bind k) Q)
    (hQ : ∀ (a : γ) (h' : Hh) (f' : Fm) (H' : Hp) (b : δ), Ext n h'.length f f' H H' → Sm K at_ f' h' H' → rel2 H f' h'.length H' a b → Post K at_ W rel h'.length f' H' σ (k a h') Q → Q' b H') : Post K at_ W rel2 n f H σ r Q' := by
  cases r with
  | ok a h' => exact fun f'' H'' b E' S' r' => hQ a h' f'' H'' b E' S' r' (Post.rebase (r := k a h') P E')
  | exc c fs h' => exact P
  | bad => exact P
theorem Post.ok {a : α} {Q : β → Hp → Prop} {b : β} (P : Post K at_ W rel h.length f H σ (.ok a h) Q) (S : Sm K at_ f h H) (r : rel H f h.length H a b) : Q b H := P f H b Ext.refl S r
theorem REnv.keep (e : REnv K f n H S σ) (hn : n ≤ n') (ha : ∀ i, i < n → f' i = f i) (k : ∀ a o, Fix o → H a = some o → H' a = some o) : REnv K f' n' H' S σ :=
  ⟨e.1, fun i d q => let ⟨v, h1, h2⟩ := e.2 i d q; ⟨v, h1, h2.keep hn ha k⟩⟩
theorem REnv.ext (e : REnv K f h.length H S σ) (M : Sm K at_ f h H) (E : Ext h.length n' f f' H H') : REnv K f' n' H' S σ := e.keep E.le E.agr (E.fix M)
theorem REnv.set {i : Nat} {d : D} {v : V} (e : REnv K f n H S σ) (r : RV K f n H d v) : REnv K f n H (S.set i (some d)) (σ.set i (some v)) := by
  refine ⟨by rw [List.length_set, List.length_set]; exact e.1, fun j d' q => ?_⟩
  by_cases z : j = i
  · subst z
    by_cases hj : j < S.length
    · rw [List.getElem?_set_self hj] at q
      cases q
      exact ⟨v, List.getElem?_set_self (by rw [← e.1]; exact hj), r⟩
    · rw [List.getElem?_eq_none (by rw [List.length_set]; omega)] at q
      cases q
  · rw [List.getElem?_set_ne (Ne.symm z)] at q
    obtain ⟨v', h1, h2⟩ := e.2 j d' q
    exact ⟨v', by rw [List.getElem?_set_ne (Ne.symm z)]; exact h1, h2⟩
theorem REnv.wipe (e : REnv K f n H S σ) : ∀ vs : List Nat, REnv K f n H (PV.wipe S vs) (L2.wipe σ vs)
  | [] => e
  | v :: vs => by
    have ih := REnv.wipe e vs
    refine ⟨by unfold PV.wipe L2.wipe; rw [List.length_set, List.length_set]; exact ih.1, fun j d q => ?_⟩
    unfold PV.wipe at q
    by_cases z : j = v
    · subst z
      by_cases hj : j < (PV.wipe S vs).length
      · rw [List.getElem?_set_self hj] at q; cases q
      · rw [List.getElem?_eq_none (by rw [List.length_set]; omega)] at q; cases q
    · rw [List.getElem?_set_ne (Ne.symm z)] at q
      obtain ⟨w, h1, h2⟩ := ih.2 j d q
      exact ⟨w, by unfold L2.wipe; rw [List.getElem?_set_ne (Ne.symm z)]; exact h1, h2⟩
end

/-! ### the judgements -/
structure SE (X : Cx) (at_ : Cl) (W : WX) (e : Expr) (m : Ex) : Prop where
  ex : ∃ t, PE X e t ∧ Snd X.KW at_ W (relV X.KW) t m
structure ST (X : Cx) (at_ : Cl) (W : WX) (e : Expr) (m : Tt) : Prop where
  ex : ∃ t, PT X e t ∧ Snd X.KW at_ W relB t m
structure SW (X : Cx) (at_ : Cl) (W : WX) (e : Expr) (m : Tt) : Prop where
  ex : ∃ t, PW X e t ∧ Snd X.KW at_ W relB t m
structure SA (X : Cx) (at_ : Cl) (W : WX) (es : List Expr) (m : As) : Prop where
  ex : ∃ t, PA X es t ∧ Snd X.KW at_ W (relA X.KW) t m
structure SF (X : Cx) (at_ : Cl) (W : WX) (e : Expr) (m : As) : Prop where
  ex : ∃ t, PE X e t ∧ Snd X.KW at_ W (relF X.KW) t m
structure SL (X : Cx) (at_ : Cl) (W : WX) (e : Expr) (m : Ls) : Prop where
  ex : ∃ t, PE X e t ∧ Snd X.KW at_ W (relL X.KW) t m
/-- a two-place operation on values -/
structure O2 (X : Cx) (at_ : Cl) (o : Value → Value → Sem Value) (g : D → D → Hh → R D) : Prop where
  ex : ∃ r : R2, OpR X o r ∧ ∀ (W : WX) (f : Fm) (h : Hh) (H : Hp) (σ : L2.St) (dx dy : D) (x y : V), Sm X.KW at_ f h H → RV X.KW f h.length H dx x → RV X.KW f h.length H dy y →
    ∀ Q : VK, Post X.KW at_ W (relV X.KW) h.length f H σ (g dx dy h) Q → r x y H Q
/-- a one-place operation -/
structure O1 (X : Cx) (at_ : Cl) (o : Value → Sem Value) (g : D → Hh → R D) : Prop where
  ex : ∃ r : V → Hp → VK → Prop, UnR X o r ∧ ∀ (W : WX) (f : Fm) (h : Hh) (H : Hp) (σ : L2.St) (dx : D) (x : V), Sm X.KW at_ f h H → RV X.KW f h.length H dx x →
    ∀ Q : VK, Post X.KW at_ W (relV X.KW) h.length f H σ (g dx h) Q → r x H Q
/-- a call of a known value with values -/
structure OC (X : Cx) (at_ : Cl) (F : Value) (g : List D → Hh → R D) : Prop where
  ex : ∃ r : List V → Hp → VK → Prop, CallR X F r ∧ ∀ (W : WX) (f : Fm) (h : Hh) (H : Hp) (σ : L2.St) (ds : List D) (vs : List V), Sm X.KW at_ f h H → RVs X.KW f h.length H ds vs →
    ∀ Q : VK, Post X.KW at_ W (relV X.KW) h.length f H σ (g ds h) Q → r vs H Q
/-- statements -/
def PostS (K : KW) (at_ : Cl) (W : WX) (n : Nat) (f : Fm) (H : Hp) (r : RS) (D : Ends) : Prop :=
  match r with
  | .nx S' h' => ∀ (f' : Fm) (H' : Hp) (σ' : L2.St), Ext n h'.length f f' H H' → Sm K at_ f' h' H' → REnv K f' h'.length H' S' σ' → D.nx σ' H'
  | .rt d h' => ∀ (f' : Fm) (H' : Hp) (v : V), Ext n h'.length f f' H H' → Sm K at_ f' h' H' → RV K f' h'.length H' d v → D.rt v H'
  | .exc c fs S' h' => ∀ (f' : Fm) (H' : Hp) (σ' : L2.St) (cls : Value) (dx : Option Addr), Ext n h'.length f f' H H' → Sm K at_ f' h' H' → REnv K f' h'.length H' S' σ' → RX K at_ f' h'.length H' c fs cls dx → W cls dx σ' H'
  | .bad => False
def SndS (K : KW) (at_ : Cl) (W : WX) (t : TS) (m : St) : Prop :=
  ∀ (f : Fm) (h : Hh) (H : Hp) (S : Sg) (σ : L2.St), Sm K at_ f h H → REnv K f h.length H S σ → ∀ D : Ends, PostS K at_ W h.length f H (m S h) D → t D σ H
structure SS (X : Cx) (at_ : Cl) (W : WX) (s : Stmt) (m : St) : Prop where
  ex : ∃ t, PS X s t ∧ SndS X.KW at_ W t m
structure SB (X : Cx) (at_ : Cl) (W : WX) (s : List Stmt) (m : St) : Prop where
  ex : ∃ t, PSs X s t ∧ SndS X.KW at_ W t m
/-- targets: names, tuples of such; vs: the slots that are stored -/
structure SG (X : Cx) (tg : Expr) (g : Tg) (vs : List Nat) : Prop where
  ex : ∃ t : TG, PG X tg t ∧ ∀ (f : Fm) (n : Nat) (h : Hh) (H : Hp) (S : Sg) (σ : L2.St) (d : D) (v : V) (S' : Sg) (h' : Hh), REnv X.KW f n H S σ → RV X.KW f n H d v → g d S h = .nx S' h' →
    ∀ Q : L2.St → Hp → Prop, (∀ σ', REnv X.KW f n H S' σ' → (∀ ws, (∀ i ∈ vs, i ∈ ws) → L2.wipe σ' ws = L2.wipe σ ws) → Q σ' H) → t v σ H Q
  no : ∀ d S h, (∃ S', g d S h = .nx S' h) ∨ g d S h = .bad
structure SGs (X : Cx) (ts : List Expr) (g : Tgs) (vs : List Nat) : Prop where
  ex : ∃ t : TGs, PGs X ts t ∧ ∀ (f : Fm) (n : Nat) (h : Hh) (H : Hp) (S : Sg) (σ : L2.St) (ds : List D) (us : List V) (S' : Sg) (h' : Hh), REnv X.KW f n H S σ → RVs X.KW f n H ds us → g ds S h = .nx S' h' →
    ∀ Q : L2.St → Hp → Prop, (∀ σ', REnv X.KW f n H S' σ' → (∀ ws, (∀ i ∈ vs, i ∈ ws) → L2.wipe σ' ws = L2.wipe σ ws) → Q σ' H) → t us σ H Q
  no : ∀ ds S h, (∃ S', g ds S h = .nx S' h) ∨ g ds S h = .bad

section
variable {X : Cx} {at_ : Cl} {W : WX} {a b c : Expr} {ma mb mc : Ex} {ta tb : Tt} {es : List Expr} {as : As} {pos : Pos}
/-! ### names, constants, operators -/
theorem se_var {i : Nat} {x : Str} (hN : X.N[i]? = some x := by rfl) (hv : Vis X.env.scope x := by first | exact Or.inl rfl | exact Or.inr (Or.inl rfl) | exact Or.inr (Or.inr rfl)) (hd : (x == ("__debug__" : Str)) = false := by decide)
    (hcd : (x == ("__classdict__" : Str)) = false := by decide) : SE X at_ W (.Name x pos) (eV i) := ⟨⟨_, pe_var hN hv hd hcd, fun f h H S σ M e Q P => by
  unfold eV at P
  cases q : S[i]? with
  | none => rw [q] at P; exact False.elim P
  | some o =>
    cases o with
    | none => rw [q] at P; exact False.elim P
    | some d =>
      rw [q] at P
      obtain ⟨v, h1, h2⟩ := e.2 i d q
      exact ⟨v, h1, P.ok M h2⟩⟩⟩
theorem se_int {i j} : SE X at_ W (.Constant (.int i) j pos) (eC (.int i)) := ⟨⟨_, pe_int, fun f h H S σ M e Q P => P.ok M (.int i)⟩⟩
theorem se_bl {i j} : SE X at_ W (.Constant (.bool i) j pos) (eC (.bl i)) := ⟨⟨_, pe_bl, fun f h H S σ M e Q P => P.ok M (.bl i)⟩⟩
theorem se_non {j} : SE X at_ W (.Constant .none j pos) (eC .non) := ⟨⟨_, pe_non, fun f h H S σ M e Q P => P.ok M .non⟩⟩
theorem se_str {x j} : SE X at_ W (.Constant (.str x) j pos) (eC (.str x)) := ⟨⟨_, pe_str, fun f h H S σ M e Q P => P.ok M (.str x)⟩⟩
/-- a constant of the module -/
theorem se_glob {x : Str} {v : V} {u : Value} {d : D} (hg : Gl X x) (hm : X.mg x = some u) (r : RelV v u) (rv : ∀ f n H, RV X.KW f n H d v) (hd : (x == ("__debug__" : Str)) = false := by decide) : SE X at_ W (.Name x pos) (eC d) :=
  ⟨⟨_, pe_glob hg hm r hd, fun f h H S σ M e Q P => P.ok M (rv _ _ _)⟩⟩
theorem se_bin {op : Operator} {g : D → D → Hh → R D} (ho : O2 X at_ (binaryOp op) g) (ha : SE X at_ W a ma) (hb : SE X at_ W b mb) : SE X at_ W (.BinOp a op b pos) (e2 g ma mb) := by
  obtain ⟨r, hr, hq⟩ := ho.ex
  obtain ⟨t1, p1, q1⟩ := ha.ex
  obtain ⟨t2, p2, q2⟩ := hb.ex
  refine ⟨⟨_, pe_op hr p1 p2, fun f h H S σ M e Q P => ?_⟩⟩
  refine q1 f h H S σ M e _ (Post.step P fun x h1 f1 H1 v1 E1 M1 r1 P1 => ?_)
  refine q2 f1 h1 H1 S σ M1 (e.ext M E1) _ (Post.step P1 fun y h2 f2 H2 v2 E2 M2 r2 P2 => ?_)
  exact hq W f2 h2 H2 σ x y v1 v2 M2 (r1.ext M1 E2) r2 Q P2
theorem se_un {op : UnaryOp} {g : D → Hh → R D} (ho : O1 X at_ (unaryOp op) g) (ha : SE X at_ W a ma) : SE X at_ W (.UnaryOp op a pos) (e1 g ma) := by
  obtain ⟨r, hr, hq⟩ := ho.ex
  obtain ⟨t1, p1, q1⟩ := ha.ex
  refine ⟨⟨_, pe_un hr p1, fun f h H S σ M e Q P => ?_⟩⟩
  exact q1 f h H S σ M e _ (Post.step P fun x h1 f1 H1 v1 E1 M1 r1 P1 => hq W f1 h1 H1 σ x v1 M1 r1 Q P1)
theorem se_cmp {op : CmpOp} {g : D → D → Hh → R D} (ho : O2 X at_ (compareOp op) g) (ha : SE X at_ W a ma) (hb : SE X at_ W b mb) (hm : behindInMarks op b = false := by first | exact nomark _ | rfl) : SE X at_ W (.Compare a [op] [b] pos) (e2 g ma mb) := by
  obtain ⟨r, hr, hq⟩ := ho.ex
  obtain ⟨t1, p1, q1⟩ := ha.ex
  obtain ⟨t2, p2, q2⟩ := hb.ex
  refine ⟨⟨_, pe_cmpR hr p1 p2 hm, fun f h H S σ M e Q P => ?_⟩⟩
  refine q1 f h H S σ M e _ (Post.step P fun x h1 f1 H1 v1 E1 M1 r1 P1 => ?_)
  refine q2 f1 h1 H1 S σ M1 (e.ext M E1) _ (Post.step P1 fun y h2 f2 H2 v2 E2 M2 r2 P2 => ?_)
  exact hq W f2 h2 H2 σ x y v1 v2 M2 (r1.ext M1 E2) r2 Q P2
theorem isB_step {n : Nat} {f : Fm} {H : Hp} {σ : L2.St} {h : Hh} {d : D} {v : V} {α β : Type} {rel : Hp → Fm → Nat → Hp → α → β → Prop} {k : Bool → Hh → R α} {Q : β → Hp → Prop} (P : Post X.KW at_ W rel h.length f H σ ((isB d h).bind k) Q) (r : RV X.KW f n H d v) :
    ∃ z, v = .bl z ∧ Post X.KW at_ W rel h.length f H σ (k z h) Q := by
  cases r with
  | bl b => exact ⟨b, rfl, P⟩
  | _ => exact False.elim P
theorem isB_fin {n : Nat} {f : Fm} {H : Hp} {σ : L2.St} {h : Hh} {d : D} {v : V} {Q : Bool → Hp → Prop} (P : Post X.KW at_ W relB h.length f H σ (isB d h) Q) (M : Sm X.KW at_ f h H) (r : RV X.KW f n H d v) : ∃ z, v = .bl z ∧ Q z H := by
  cases r with
  | bl b => exact ⟨b, rfl, P.ok M rfl⟩
  | _ => exact False.elim P
theorem st_cmp {op : CmpOp} {g : D → D → Hh → R D} (ho : O2 X at_ (compareOp op) g) (ha : SE X at_ W a ma) (hb : SE X at_ W b mb) (hm : behindInMarks op b = false := by first | exact nomark _ | rfl) : ST X at_ W (.Compare a [op] [b] pos) (tV (e2 g ma mb)) := by
  obtain ⟨r, hr, hq⟩ := ho.ex
  obtain ⟨t1, p1, q1⟩ := ha.ex
  obtain ⟨t2, p2, q2⟩ := hb.ex
  refine ⟨⟨_, pt_cmpR hr p1 p2 hm, fun f h H S σ M e Q P => ?_⟩⟩
  have P : Post X.KW at_ W relB h.length f H σ ((ma S h).bind fun x h1 => ((mb S h1).bind fun y h2 => (g x y h2).bind isB)) Q := by
    unfold tV e2 at P
    cases z : ma S h with
    | ok x h1 =>
      rw [z] at P
      simp only [R.bind_ok] at P ⊢
      cases z2 : mb S h1 with
      | ok y h2 => rw [z2] at P; exact P
      | exc c fs h2 => rw [z2] at P; exact P
      | bad => rw [z2] at P; exact P
    | exc c fs h1 => rw [z] at P; exact P
    | bad => rw [z] at P; exact P
  refine q1 f h H S σ M e _ (Post.step P fun x h1 f1 H1 v1 E1 M1 r1 P1 => ?_)
  refine q2 f1 h1 H1 S σ M1 (e.ext M E1) _ (Post.step P1 fun y h2 f2 H2 v2 E2 M2 r2 P2 => ?_)
  exact hq W f2 h2 H2 σ x y v1 v2 M2 (r1.ext M1 E2) r2 _ (Post.step P2 fun z h3 f3 H3 v3 E3 M3 r3 P3 => isB_fin P3 M3 r3)
theorem chain_eq (g g' : D → D → Hh → R D) (ma mb mc : Ex) (S : Sg) (h : Hh) : ((eCh g g' ma mb mc) S h) = (ma S h).bind fun x h1 => (mb S h1).bind fun y h2 => (g x y h2).bind fun z h3 => (isB z h3).bind fun k h4 => if k = true then (mc S h4).bind fun w h5 => g' y w h5 else .ok (.bl false) h4 := rfl
theorem se_chain {op op' : CmpOp} {g g' : D → D → Hh → R D} (ho : O2 X at_ (compareOp op) g) (ho' : O2 X at_ (compareOp op') g') (ha : SE X at_ W a ma) (hb : SE X at_ W b mb) (hc : SE X at_ W c mc)
    (hm : lastMarks [op, op'] [b, c] = false := by with_unfolding_all rfl) : SE X at_ W (.Compare a [op, op'] [b, c] pos) (eCh g g' ma mb mc) := by
  obtain ⟨r, hr, hq⟩ := ho.ex
  obtain ⟨r', hr', hq'⟩ := ho'.ex
  obtain ⟨t1, p1, q1⟩ := ha.ex
  obtain ⟨t2, p2, q2⟩ := hb.ex
  obtain ⟨t3, p3, q3⟩ := hc.ex
  refine ⟨⟨_, pe_chain hr hr' p1 p2 p3 hm, fun f h H S σ M e Q P => ?_⟩⟩
  refine q1 f h H S σ M e _ (Post.step P fun x h1 f1 H1 v1 E1 M1 r1 P1 => ?_)
  refine q2 f1 h1 H1 S σ M1 (e.ext M E1) _ (Post.step P1 fun y h2 f2 H2 v2 E2 M2 r2 P2 => ?_)
  refine hq W f2 h2 H2 σ x y v1 v2 M2 (r1.ext M1 E2) r2 _ (Post.step P2 fun z h3 f3 H3 v3 E3 M3 r3 P3 => ?_)
  obtain ⟨k, e1, P4⟩ := isB_step P3 r3
  refine ⟨k, e1, ?_⟩
  cases k with
  | false => exact P4.ok M3 (.bl false)
  | true =>
    have eE := ((e.ext M E1).ext M1 E2).ext M2 E3
    exact q3 f3 h3 H3 S σ M3 eE _ (Post.step P4 fun w h5 f5 H5 v5 E5 M5 r5 P5 => hq' W f5 h5 H5 σ y w v2 v5 M5 ((r2.ext M2 E3).ext M3 E5) r5 Q P5)
theorem st_chain {op op' : CmpOp} {g g' : D → D → Hh → R D} (ho : O2 X at_ (compareOp op) g) (ho' : O2 X at_ (compareOp op') g') (ha : SE X at_ W a ma) (hb : SE X at_ W b mb) (hc : SE X at_ W c mc)
    (hm : lastMarks [op, op'] [b, c] = false := by with_unfolding_all rfl) : ST X at_ W (.Compare a [op, op'] [b, c] pos) (tV (eCh g g' ma mb mc)) := by
  obtain ⟨r, hr, hq⟩ := ho.ex
  obtain ⟨r', hr', hq'⟩ := ho'.ex
  obtain ⟨t1, p1, q1⟩ := ha.ex
  obtain ⟨t2, p2, q2⟩ := hb.ex
  obtain ⟨t3, p3, q3⟩ := hc.ex
  refine ⟨⟨_, pt_chain hr hr' p1 p2 p3 hm, fun f h H S σ M e Q P => ?_⟩⟩
  have assoc : ∀ {α β γ : Type} (r : R α) (k : α → Hh → R β) (k2 : β → Hh → R γ), (r.bind k).bind k2 = r.bind fun x h1 => (k x h1).bind k2 := fun r k k2 => by cases r <;> rfl
  have P : Post X.KW at_ W relB h.length f H σ ((ma S h).bind fun x h1 => (mb S h1).bind fun y h2 => (g x y h2).bind fun z h3 => (isB z h3).bind fun k h4 => (if k = true then (mc S h4).bind fun w h5 => g' y w h5 else .ok (.bl false) h4 : R D).bind isB) Q := by
    unfold tV at P
    rw [chain_eq] at P
    simp only [assoc] at P
    exact P
  refine q1 f h H S σ M e _ (Post.step P fun x h1 f1 H1 v1 E1 M1 r1 P1 => ?_)
  refine q2 f1 h1 H1 S σ M1 (e.ext M E1) _ (Post.step P1 fun y h2 f2 H2 v2 E2 M2 r2 P2 => ?_)
  refine hq W f2 h2 H2 σ x y v1 v2 M2 (r1.ext M1 E2) r2 _ (Post.step P2 fun z h3 f3 H3 v3 E3 M3 r3 P3 => ?_)
  obtain ⟨k, e1, P4⟩ := isB_step P3 r3
  refine ⟨k, e1, ?_⟩
  cases k with
  | false => exact ⟨false, rfl, P4.ok M3 rfl⟩
  | true =>
    have eE := ((e.ext M E1).ext M1 E2).ext M2 E3
    simp only [if_true, assoc] at P4
    exact q3 f3 h3 H3 S σ M3 eE _ (Post.step P4 fun w h5 f5 H5 v5 E5 M5 r5 P5 => hq' W f5 h5 H5 σ y w v2 v5 M5 ((r2.ext M2 E3).ext M3 E5) r5 _ (Post.step P5 fun z h6 f6 H6 v6 E6 M6 r6 P6 => isB_fin P6 M6 r6))
/-! ### tests -/
theorem st_val (ha : SE X at_ W a ma) (he : ∀ whole, isTrue a X.env whole = (do let v ← whole; standAt a.pos; holding [v] (truthy v)) := by intro _; rfl) : ST X at_ W a (tV ma) := by
  obtain ⟨t1, p1, q1⟩ := ha.ex
  refine ⟨⟨_, pt_val p1 he, fun f h H S σ M e Q P => ?_⟩⟩
  exact q1 f h H S σ M e _ (Post.step P fun x h1 f1 H1 v1 E1 M1 r1 P1 => isB_fin P1 M1 r1)
theorem sw_and1 (ha : ST X at_ W a ta) : SW X at_ W (.BoolOp .And [a] pos) ta := let ⟨t, p, q⟩ := ha.ex; ⟨⟨t, pw_and1 p, q⟩⟩
theorem sw_or1 (ha : ST X at_ W a ta) : SW X at_ W (.BoolOp .Or [a] pos) ta := let ⟨t, p, q⟩ := ha.ex; ⟨⟨t, pw_or1 p, q⟩⟩
theorem sw_and {rest : List Expr} (ha : ST X at_ W a ta) (hb : SW X at_ W (.BoolOp .And (b :: rest) pos) tb) : SW X at_ W (.BoolOp .And (a :: b :: rest) pos) (tAnd ta tb) := by
  obtain ⟨t1, p1, q1⟩ := ha.ex
  obtain ⟨t2, p2, q2⟩ := hb.ex
  refine ⟨⟨_, pw_and p1 p2, fun f h H S σ M e Q P => ?_⟩⟩
  refine q1 f h H S σ M e _ (Post.step P fun k h1 f1 H1 v1 E1 M1 r1 P1 => ?_)
  cases r1
  cases k with
  | true => exact q2 f1 h1 H1 S σ M1 (e.ext M E1) Q P1
  | false => exact P1.ok M1 rfl
theorem sw_or {rest : List Expr} (ha : ST X at_ W a ta) (hb : SW X at_ W (.BoolOp .Or (b :: rest) pos) tb) : SW X at_ W (.BoolOp .Or (a :: b :: rest) pos) (tOr ta tb) := by
  obtain ⟨t1, p1, q1⟩ := ha.ex
  obtain ⟨t2, p2, q2⟩ := hb.ex
  refine ⟨⟨_, pw_or p1 p2, fun f h H S σ M e Q P => ?_⟩⟩
  refine q1 f h H S σ M e _ (Post.step P fun k h1 f1 H1 v1 E1 M1 r1 P1 => ?_)
  cases r1
  cases k with
  | false => exact q2 f1 h1 H1 S σ M1 (e.ext M E1) Q P1
  | true => exact P1.ok M1 rfl
theorem st_w (ha : SW X at_ W a ta) : ST X at_ W a ta := let ⟨t, p, q⟩ := ha.ex; ⟨⟨t, p.pt, q⟩⟩
theorem st_not (ha : ST X at_ W a ta) : ST X at_ W (.UnaryOp .Not a pos) (tNot ta) := by
  obtain ⟨t1, p1, q1⟩ := ha.ex
  refine ⟨⟨_, pt_not p1, fun f h H S σ M e Q P => ?_⟩⟩
  refine q1 f h H S σ M e _ (Post.step P fun k h1 f1 H1 v1 E1 M1 r1 P1 => ?_)
  cases r1
  exact P1.ok M1 rfl
end
end PV
set_option Elab.async false
set_option linter.all false
set_option autoImplicit false
set_option maxRecDepth 100000
set_option maxHeartbeats 2000000
/-! PVK: values of tests, displays, statements, loops, comprehensions. -/
namespace PV
open PySem PySem.Spec PyProof.Rows L2
section
variable {X : Cx} {at_ : Cl} {W : WX} {a b c : Expr} {ma mb mc : Ex} {ta tb : Tt} {es : List Expr} {as : As} {pos : Pos} {la : Ls}
theorem se_one {op} (ha : SE X at_ W a ma) : SE X at_ W (.BoolOp op [a] pos) ma := let ⟨t, p, q⟩ := ha.ex; ⟨⟨t, pe_one p, q⟩⟩
theorem se_and {rest : List Expr} (ha : SE X at_ W a ma) (hb : SE X at_ W (.BoolOp .And (b :: rest) pos) mb) : SE X at_ W (.BoolOp .And (a :: b :: rest) pos) (eAnd ma mb) := by
  obtain ⟨t1, p1, q1⟩ := ha.ex
  obtain ⟨t2, p2, q2⟩ := hb.ex
  refine ⟨⟨_, pe_and p1 p2, fun f h H S σ M e Q P => ?_⟩⟩
  refine q1 f h H S σ M e _ (Post.step P fun x h1 f1 H1 v1 E1 M1 r1 P1 => ?_)
  obtain ⟨k, e1, P2⟩ := isB_step P1 r1
  refine ⟨k, e1, ?_⟩
  cases k with
  | true => exact q2 f1 h1 H1 S σ M1 (e.ext M E1) Q P2
  | false => exact P2.ok M1 (.bl false)
theorem se_or {rest : List Expr} (ha : SE X at_ W a ma) (hb : SE X at_ W (.BoolOp .Or (b :: rest) pos) mb) : SE X at_ W (.BoolOp .Or (a :: b :: rest) pos) (eOr ma mb) := by
  obtain ⟨t1, p1, q1⟩ := ha.ex
  obtain ⟨t2, p2, q2⟩ := hb.ex
  refine ⟨⟨_, pe_or p1 p2, fun f h H S σ M e Q P => ?_⟩⟩
  refine q1 f h H S σ M e _ (Post.step P fun x h1 f1 H1 v1 E1 M1 r1 P1 => ?_)
  obtain ⟨k, e1, P2⟩ := isB_step P1 r1
  refine ⟨k, e1, ?_⟩
  cases k with
  | false => exact q2 f1 h1 H1 S σ M1 (e.ext M E1) Q P2
  | true => exact P2.ok M1 (.bl true)
theorem se_not (ha : SE X at_ W a ma) : SE X at_ W (.UnaryOp .Not a pos) (eNot ma) := by
  obtain ⟨t1, p1, q1⟩ := ha.ex
  refine ⟨⟨_, pe_not p1, fun f h H S σ M e Q P => ?_⟩⟩
  refine q1 f h H S σ M e _ (Post.step P fun x h1 f1 H1 v1 E1 M1 r1 P1 => ?_)
  obtain ⟨k, e1, P2⟩ := isB_step P1 r1
  exact ⟨k, e1, P2.ok M1 (.bl (!k))⟩
theorem se_if {t : Expr} (ht : ST X at_ W t ta) (ha : SE X at_ W a ma) (hb : SE X at_ W b mb) : SE X at_ W (.IfExp t a b pos) (eIf ta ma mb) := by
  obtain ⟨t0, p0, q0⟩ := ht.ex
  obtain ⟨t1, p1, q1⟩ := ha.ex
  obtain ⟨t2, p2, q2⟩ := hb.ex
  refine ⟨⟨_, pe_ifExp p0 p1 p2, fun f h H S σ M e Q P => ?_⟩⟩
  refine q0 f h H S σ M e _ (Post.step P fun k h1 f1 H1 v1 E1 M1 r1 P1 => ?_)
  cases r1
  cases k with
  | true => exact q1 f1 h1 H1 S σ M1 (e.ext M E1) Q P1
  | false => exact q2 f1 h1 H1 S σ M1 (e.ext M E1) Q P1
/-! ### argument lists, displays -/
theorem sa_nil : SA X at_ W [] aN := ⟨⟨_, pa_nil, fun f h H S σ M e Q P => P.ok M .nil⟩⟩
theorem sa_cons (ha : SE X at_ W a ma) (hr : SA X at_ W es as) (hs : starEach (a :: es) X.env = (false, eval a X.env) :: starEach es X.env := by rfl) : SA X at_ W (a :: es) (aC ma as) := by
  obtain ⟨t1, p1, q1⟩ := ha.ex
  obtain ⟨t2, p2, q2⟩ := hr.ex
  refine ⟨⟨_, pa_cons p1 p2 hs, fun f h H S σ M e Q P => ?_⟩⟩
  refine q1 f h H S σ M e _ (Post.step P fun x h1 f1 H1 v1 E1 M1 r1 P1 => ?_)
  refine q2 f1 h1 H1 S σ M1 (e.ext M E1) _ (Post.step P1 fun xs h2 f2 H2 vs E2 M2 r2 P2 => ?_)
  exact P2.ok M2 (.cons (r1.ext M1 E2) r2)
theorem big_line {n : Nat} : n ≤ big ↔ n ≤ sizeLine := by rw [sizeLine_eq]
theorem se_tup {k : Nat} (ha : SA X at_ W es as) : SE X at_ W (.Tuple es k pos) (eTup as) := by
  obtain ⟨t1, p1, q1⟩ := ha.ex
  refine ⟨⟨_, pe_tup p1, fun f h H S σ M e Q P => ?_⟩⟩
  refine q1 f h H S σ M e _ (Post.step P fun xs h1 f1 H1 vs E1 M1 r1 P1 => ?_)
  by_cases hz : xs.length ≤ big
  · rw [if_pos hz] at P1
    refine ⟨by rw [← r1.length]; exact big_line.mp hz, fun p hp => ?_⟩
    have M2 := M1.fresh (o := HO.tup vs) hp
    refine P1 _ _ _ (Ext.fresh hp) M2 ?_
    exact .tup (.inl (.inl upd_same)) (r1.ext M1 (Ext.fresh hp))
  · rw [if_neg hz] at P1
    exact False.elim P1
/-- a display as a new list -/
theorem sf_disp (ha : SA X at_ W es as) : SF X at_ W (.List es pos) (lD as) := by
  obtain ⟨t1, p1, q1⟩ := ha.ex
  refine ⟨⟨_, pe_lst p1, fun f h H S σ M e Q P => ?_⟩⟩
  refine q1 f h H S σ M e _ (Post.step P fun xs h1 f1 H1 vs E1 M1 r1 P1 => ?_)
  by_cases hz : xs.length ≤ big
  · rw [if_pos hz] at P1
    refine ⟨by rw [← r1.length]; exact big_line.mp hz, fun p hp => ?_⟩
    have M2 := M1.fresh (o := HO.lst vs) hp
    refine P1 _ _ _ (Ext.fresh hp) M2 ⟨p, vs, rfl, hp, upd_same, fun i hi z => ?_, r1.ext M1 (Ext.fresh hp)⟩
    obtain ⟨u, hu⟩ := M1.tracked hi
    rw [z, hp] at hu; cases hu
  · rw [if_neg hz] at P1
    exact False.elim P1
/-- an untold object is told as the heap's last -/
theorem Ext.tell {n n' : Nat} {f f' : Fm} {H H' : Hp} {q : Addr} (E : Ext n n' f f' H H') (h0 : H q = none) (hq : ∀ i, i < n' → f' i ≠ q) : Ext n (n' + 1) f (ext1 f' n' q) H H' where
  le := Nat.le_trans E.le (Nat.le_succ _)
  agr := fun i hi => (ext1_lt (Nat.lt_of_lt_of_le hi E.le)).trans (E.agr i hi)
  kept := E.kept
  live := E.live
  new := fun i h1 h2 => by
    by_cases z : i = n'
    · subst z; rw [ext1_eq]; exact h0
    · rw [ext1_lt (by omega)]; exact E.new i h1 (by omega)
theorem Sm.tell {K : KW} {f : Fm} {h : Hh} {H : Hp} {q : Addr} {o : O} (M : Sm K at_ f h H) (hq : ∀ i, i < h.length → f i ≠ q) (r : RO K at_ f h.length H q o) : Sm K at_ (ext1 f h.length q) (h ++ [o]) H where
  inj := fun i j hi hj e => by
    rw [List.length_append, List.length_singleton] at hi hj
    by_cases h1 : i = h.length
    · by_cases h2 : j = h.length
      · rw [h1, h2]
      · subst h1
        rw [ext1_eq, ext1_lt (by omega)] at e
        exact absurd e.symm (hq j (by omega))
    · by_cases h2 : j = h.length
      · subst h2
        rw [ext1_eq, ext1_lt (by omega)] at e
        exact absurd e (hq i (by omega))
      · rw [ext1_lt (by omega), ext1_lt (by omega)] at e
        exact M.inj i j (by omega) (by omega) e
  obj := fun i u e => by
    rw [List.length_append, List.length_singleton]
    by_cases h1 : i < h.length
    · rw [List.getElem?_append_left h1] at e
      rw [ext1_lt h1]
      exact (M.obj i u e).keep (Nat.le_succ _) (fun j hj => ext1_lt hj) (fun _ _ _ q => q) rfl
    · have hi : i = h.length := by
        have := (List.getElem?_eq_some_iff.mp e).1
        rw [List.length_append, List.length_singleton] at this
        omega
      subst hi
      rw [List.getElem?_append_right (Nat.le_refl _)] at e
      simp at e
      subst e
      rw [ext1_eq]
      exact r.keep (Nat.le_succ _) (fun j hj => ext1_lt hj) (fun _ _ _ q => q) rfl
/-- a new list as a value -/
theorem se_list {lf : As} (ha : SF X at_ W a lf) : SE X at_ W a (eL lf) := by
  obtain ⟨t1, p1, q1⟩ := ha.ex
  refine ⟨⟨_, p1, fun f h H S σ M e Q P => ?_⟩⟩
  refine q1 f h H S σ M e _ ?_
  unfold eL at P
  cases z : lf S h with
  | bad => rw [z] at P; exact P
  | exc c fs h1 => rw [z] at P; exact P
  | ok ds h1 =>
    rw [z] at P
    intro f1 H1 v E1 M1 r1
    obtain ⟨q, vs, rfl, h0, hq, hn, rv⟩ := r1
    have M2 := M1.tell (o := O.lst ds) hn ⟨vs, hq, rv⟩
    have E2 := E1.tell h0 hn
    refine P _ _ _ (by rw [List.length_append, List.length_singleton]; exact E2) M2 ?_
    rw [List.length_append, List.length_singleton]
    have e1 : ext1 f1 h1.length q h1.length = q := ext1_eq
    have r : RV X.KW (ext1 f1 h1.length q) (h1.length + 1) H1 (.ref h1.length) (.ref (ext1 f1 h1.length q h1.length)) := RV.ref (Nat.lt_succ_self _)
    rw [e1] at r
    exact r
/-- .. as a row -/
theorem sl_new {lf : As} (ha : SF X at_ W a lf) : SL X at_ W a (lF lf) := by
  obtain ⟨t1, p1, q1⟩ := ha.ex
  refine ⟨⟨_, p1, fun f h H S σ M e Q P => ?_⟩⟩
  refine q1 f h H S σ M e _ (Post.step (rel2 := relF X.KW) P fun ds h1 f1 H1 v E1 M1 r1 P1 => ?_)
  obtain ⟨q, vs, rfl, h0, hq, hn, rv⟩ := r1
  exact P1.ok M1 ⟨q, rfl, vs, rv, .inl ⟨rfl, .inr (.inr ⟨hq, hn⟩)⟩⟩
/-- a value as a row -/
theorem sl_val (ha : SE X at_ W a ma) : SL X at_ W a (lE ma) := by
  obtain ⟨t1, p1, q1⟩ := ha.ex
  refine ⟨⟨_, p1, fun f h H S σ M e Q P => ?_⟩⟩
  refine q1 f h H S σ M e _ (Post.step P fun d h1 f1 H1 v E1 M1 r1 P1 => ?_)
  cases r1 with
  | tup ht hs => exact P1.ok M1 ⟨_, rfl, _, hs, .inl ⟨rfl, .inl ht⟩⟩
  | fz ht hs => exact P1.ok M1 ⟨_, rfl, _, hs, .inl ⟨rfl, .inr (.inl ⟨_, ht⟩)⟩⟩
  | ref hi =>
    rename_i i
    rw [itD_ref] at P1
    cases z : h1[i]? with
    | none => rw [z] at P1; exact False.elim P1
    | some o =>
      cases o with
      | lst xs =>
        rw [z] at P1
        obtain ⟨vs, h2, h3⟩ := M1.obj i _ z
        exact P1.ok M1 ⟨_, rfl, vs, h3, .inr ⟨i, rfl, hi, rfl, h2⟩⟩
      | _ => rw [z] at P1; exact False.elim P1
  | _ => exact False.elim P1
end
end PV
set_option Elab.async false
set_option linter.all false
set_option autoImplicit false
set_option maxRecDepth 100000
set_option maxHeartbeats 2000000
/-! PVS: statements, loops, comprehensions. -/
namespace PV
open PySem PySem.Spec PyProof.Rows L2
section
variable {γ δ : Type} {K : KW} {at_ : Cl} {W : WX} {rel2 : Hp → Fm → Nat → Hp → γ → δ → Prop} {n n' : Nat} {f f' : Fm} {H H' : Hp} {σ : L2.St} {S : Sg} {h : Hh} {D : Ends}
theorem PostS.rebase {r : RS} (P : PostS K at_ W n f H r D) (E : Ext n n' f f' H H') : PostS K at_ W n' f' H' r D := by
  cases r with
  | nx S' h' => exact fun f'' H'' σ' E' => P f'' H'' σ' (E.trans E')
  | rt d h' => exact fun f'' H'' v E' => P f'' H'' v (E.trans E')
  | exc c fs S' h' => exact fun f'' H'' σ' cls dx E' => P f'' H'' σ' cls dx (E.trans E')
  | bad => exact P
theorem PostS.into {r : R γ} {k : γ → Hh → RS} {Q' : δ → Hp → Prop} (P : PostS K at_ W h.length f H (r.into S k) D) (M : Sm K at_ f h H) (e : REnv K f h.length H S σ)
    (hQ : ∀ (a : γ) (h' : Hh) (f' : Fm) (H' : Hp) (b : δ), Ext h.length h'.length f f' H H' → Sm K at_ f' h' H' → REnv K f' h'.length H' S σ → rel2 H f' h'.length H' a b → PostS K at_ W h'.length f' H' (k a h') D → Q' b H') : Post K at_ W rel2 h.length f H σ r Q' := by
  cases r with
  | ok a h' => exact fun f'' H'' b E' M' r' => hQ a h' f'' H'' b E' M' (e.ext M E') r' (PostS.rebase (r := k a h') P E')
  | exc c fs h' => exact fun f'' H'' cls dx E' M' x => P f'' H'' σ cls dx E' M' (e.ext M E') x
  | bad => exact P
/-- a statement ahead of others -/
theorem PostS.seq {r : RS} {k : Sg → Hh → RS} {D' : Ends} (P : PostS K at_ W n f H (r.bind k) D)
    (hn : ∀ (S' : Sg) (h' : Hh) (f' : Fm) (H' : Hp) (σ' : L2.St), Ext n h'.length f f' H H' → Sm K at_ f' h' H' → REnv K f' h'.length H' S' σ' → PostS K at_ W h'.length f' H' (k S' h') D → D'.nx σ' H') (hr : D'.rt = D.rt) : PostS K at_ W n f H r D' := by
  cases r with
  | nx S' h' => exact fun f'' H'' σ' E' M' e' => hn S' h' f'' H'' σ' E' M' e' (PostS.rebase (r := k S' h') P E')
  | rt d h' =>
    intro f'' H'' v E' M' r'
    rw [hr]
    exact P f'' H'' v E' M' r'
  | exc c fs S' h' => exact P
  | bad => exact P
end
section
variable {X : Cx} {at_ : Cl} {W : WX} {a b c : Expr} {ma mb mc : Ex} {ta tb : Tt} {es : List Expr} {as : As} {pos : Pos} {la : Ls} {s : Stmt} {ss s1 s2 : List Stmt} {m1 m2 : PV.St}
theorem sb_nil : SB X at_ W [] sNil := ⟨⟨_, pss_nil, fun f h H S σ M e D P => P f H σ Ext.refl M e⟩⟩
theorem sb_one (h1 : SS X at_ W s m1) : SB X at_ W [s] m1 := let ⟨t, p, q⟩ := h1.ex; ⟨⟨t, pss_one p, q⟩⟩
theorem sb_cons (h1 : SS X at_ W s m1) (h2 : SB X at_ W ss m2) : SB X at_ W (s :: ss) (sSeq m1 m2) := by
  obtain ⟨t1, p1, q1⟩ := h1.ex
  obtain ⟨t2, p2, q2⟩ := h2.ex
  refine ⟨⟨_, pss_cons p1 p2, fun f h H S σ M e D P => ?_⟩⟩
  exact q1 f h H S σ M e _ (PostS.seq P (fun S' h' f' H' σ' E' M' e' P' => q2 f' h' H' S' σ' M' e' D P') rfl)
theorem ss_ret (ha : SE X at_ W a ma) : SS X at_ W (.Return (some a) pos) (sRet ma) := by
  obtain ⟨t1, p1, q1⟩ := ha.ex
  refine ⟨⟨_, ps_ret p1, fun f h H S σ M e D P => ?_⟩⟩
  exact q1 f h H S σ M e _ (PostS.into P M e fun d h1 f1 H1 v1 E1 M1 e1 r1 P1 => P1 f1 H1 v1 Ext.refl M1 r1)
theorem ss_retN : SS X at_ W (.Return none pos) sRetN := ⟨⟨_, ps_retN, fun f h H S σ M e D P => P f H .non Ext.refl M .non⟩⟩
theorem ss_pass : SS X at_ W (.Pass pos) sNil := ⟨⟨_, ps_pass, fun f h H S σ M e D P => P f H σ Ext.refl M e⟩⟩
theorem ss_bad : SS X at_ W s sBad := ⟨⟨_, ps_never, fun f h H S σ M e D P => P⟩⟩
theorem sb_bad : SB X at_ W ss sBad := ⟨⟨_, pss_never, fun f h H S σ M e D P => P⟩⟩
theorem ss_if (ht : ST X at_ W c ta) (h1 : SB X at_ W s1 m1) (h2 : SB X at_ W s2 m2) : SS X at_ W (.If c s1 s2 pos) (sIf ta m1 m2) := by
  obtain ⟨t0, p0, q0⟩ := ht.ex
  obtain ⟨t1, p1, q1⟩ := h1.ex
  obtain ⟨t2, p2, q2⟩ := h2.ex
  refine ⟨⟨_, ps_if p0 p1 p2, fun f h H S σ M e D P => ?_⟩⟩
  refine q0 f h H S σ M e _ (PostS.into P M e fun k h1 f1 H1 v1 E1 M1 e1 r1 P1 => ?_)
  cases r1
  cases k with
  | true => exact q1 f1 h1 H1 S σ M1 e1 D P1
  | false => exact q2 f1 h1 H1 S σ M1 e1 D P1
theorem ss_expr (ha : SE X at_ W a ma) (hs : swapsWith a none pos.line X.env = pure false := by rfl) : SS X at_ W (.Expr a pos) (sDrop ma) := by
  obtain ⟨t1, p1, q1⟩ := ha.ex
  refine ⟨⟨_, ps_expr p1 hs, fun f h H S σ M e D P => ?_⟩⟩
  exact q1 f h H S σ M e _ (PostS.into P M e fun d h1 f1 H1 v1 E1 M1 e1 r1 P1 => P1 f1 H1 σ Ext.refl M1 e1)
theorem ss_set {i : Nat} {x : Str} {pos' : Pos} (hN : X.N.Nodup) (ha : SE X at_ W a ma) (hi : X.N[i]? = some x := by rfl) (hx : Loc X.env.scope x := by first | exact Or.inl rfl | exact Or.inr rfl) (hs : swapsWith a (some (.Name x pos')) pos.line X.env = pure false := by rfl)
    (hf : X.fn x = true ∨ X.env.scope.names.lookup x = some .local := by first | exact .inl rfl | exact .inr rfl | assumption) : SS X at_ W (.Assign [.Name x pos'] a pos) (sSet i ma) := by
  obtain ⟨t1, p1, q1⟩ := ha.ex
  refine ⟨⟨_, ps_set hN hi hx p1 hs hf, fun f h H S σ M e D P => ?_⟩⟩
  exact q1 f h H S σ M e _ (PostS.into P M e fun d h1 f1 H1 v1 E1 M1 e1 r1 P1 => P1 f1 H1 _ Ext.refl M1 (e1.set r1))
/-! ### targets -/
theorem wipe_set {σ : L2.St} {i : Nat} {v : Option V} : ∀ {ws : List Nat}, i ∈ ws → L2.wipe (σ.set i v) ws = L2.wipe σ ws
  | [], h => by simp at h
  | w :: ws, h => by
    unfold L2.wipe
    by_cases z : i ∈ ws
    · rw [wipe_set z]
    · have e : i = w := by
        rcases List.mem_cons.mp h with e | e
        · exact e
        · exact absurd e z
      subst e
      have key : ∀ (us : List Nat), i ∉ us → (L2.wipe (σ.set i v) us) = (L2.wipe σ us).set i v := by
        intro us
        induction us with
        | nil => intro _; rfl
        | cons u us ih =>
          intro hu
          unfold L2.wipe
          rw [ih fun q => hu (List.mem_cons_of_mem _ q), List.set_comm _ _ (fun q => hu (by rw [q]; exact List.mem_cons_self))]
      rw [key ws z, List.set_set]
theorem sg_name {i : Nat} {x : Str} (hN : X.N.Nodup) (hi : X.N[i]? = some x := by rfl) (hx : Loc X.env.scope x := by first | exact Or.inl rfl | exact Or.inr rfl) (hf : X.fn x = true ∨ X.env.scope.names.lookup x = some .local := by first | exact .inl rfl | exact .inr rfl | assumption) : SG X (.Name x pos) (gV i) [i] where
  ex := ⟨_, pg_name hN hi hx hf, fun f n h H S σ d v S' h' e r q => by
    cases q
    exact fun Q hQ => hQ _ (e.set r) fun ws hw => wipe_set (hw i (by simp))⟩
  no := fun d S h => .inl ⟨_, rfl⟩
theorem sgs_nil : SGs X [] gN [] where
  ex := ⟨_, pgs_nil, fun f n h H S σ ds us S' h' e r q => by
    cases r with
    | nil => cases q; exact fun Q hQ => ⟨rfl, hQ _ e fun _ _ => rfl⟩
    | cons _ _ => cases q⟩
  no := fun ds S h => by
    cases ds with
    | nil => exact .inl ⟨_, rfl⟩
    | cons _ _ => exact .inr rfl
theorem gC_eq (g : Tg) (gs : Tgs) (d : D) (ds : List D) (S : Sg) (h : Hh) : gC g gs (d :: ds) S h = (g d S h).bind fun S1 h1 => gs ds S1 h1 := rfl
theorem sgs_cons {g : Tg} {gs : Tgs} {v1 v2 : List Nat} (h1 : SG X a g v1) (h2 : SGs X es gs v2) (hs : (assignEach (a :: es) X.env).map (·.2) = assign a X.env :: (assignEach es X.env).map (·.2) := by rfl) : SGs X (a :: es) (gC g gs) (v1 ++ v2) where
  ex := by
    obtain ⟨t1, p1, q1⟩ := h1.ex
    obtain ⟨t2, p2, q2⟩ := h2.ex
    refine ⟨_, pgs_cons p1 p2 hs, fun f n h H S σ ds us S' h' e r q => ?_⟩
    cases r with
    | nil => cases q
    | cons r rs =>
      rename_i d u ds us
      rw [gC_eq] at q
      rcases h1.no d S h with ⟨S1, z⟩ | z
      · rw [z] at q
        have q : gs ds S1 h = .nx S' h' := q
        intro Q hQ
        refine ⟨u, us, rfl, q1 f n h H S σ d u S1 h e r z _ fun σ1 e1 w1 => ?_⟩
        exact q2 f n h H S1 σ1 ds us S' h' e1 rs q Q fun σ2 e2 w2 => hQ σ2 e2 fun ws hw => (w2 ws fun i hi => hw i (List.mem_append_right _ hi)).trans (w1 ws fun i hi => hw i (List.mem_append_left _ hi))
      · rw [z] at q; cases q
  no := fun ds S h => by
    cases ds with
    | nil => exact .inr rfl
    | cons d ds =>
      rw [gC_eq]
      rcases h1.no d S h with ⟨S1, z⟩ | z
      · rw [z]; exact h2.no ds S1 h
      · rw [z]; exact .inr rfl
theorem gT_eq (n : Nat) (gs : Tgs) (xs : List D) (S : Sg) (h : Hh) : gT n gs (.tup xs) S h = if xs.length = n then gs xs S h else .bad := rfl
theorem sg_tup {gs : Tgs} {vs : List Nat} {k n : Nat} (hc : X.calm = true) (h1 : SGs X es gs vs) (hn : (assignEach es X.env).length = n := by rfl) (hst : (assignEach es X.env).findIdx? (·.1) = none := by rfl) : SG X (.Tuple es k pos) (gT n gs) vs where
  ex := by
    obtain ⟨t1, p1, q1⟩ := h1.ex
    refine ⟨_, pg_tup hc p1 hn hst, fun f m h H S σ d v S' h' e r q => ?_⟩
    cases r with
    | tup ht hs =>
      rename_i a ds us
      rw [gT_eq] at q
      by_cases hl : ds.length = n
      · rw [if_pos hl] at q
        exact fun Q hQ => ⟨a, us, rfl, ht, by rw [← hs.length]; exact hl, q1 f m h H S σ ds us S' h' e hs q Q hQ⟩
      · rw [if_neg hl] at q; cases q
    | _ => cases q
  no := fun d S h => by
    cases d with
    | tup xs =>
      rw [gT_eq]
      by_cases hl : xs.length = n
      · rw [if_pos hl]; exact h1.no xs S h
      · rw [if_neg hl]; exact .inr rfl
    | _ => exact .inr rfl
theorem ss_asg {g : Tg} {vs : List Nat} {tg : Expr} (ha : SE X at_ W a ma) (hg : SG X tg g vs) (hs : swapsWithSole [tg] a pos.line X.env = pure false := by rfl) (hw : swappedStores [tg] a X.env = pure none := by rfl)
    (h1 : (assignEach [tg] X.env).map (·.2) = [assign tg X.env] := by rfl) : SS X at_ W (.Assign [tg] a pos) (sAsg ma g) := by
  obtain ⟨t1, p1, q1⟩ := ha.ex
  obtain ⟨t2, p2, q2⟩ := hg.ex
  refine ⟨⟨_, ps_asg p1 p2 hs hw h1, fun f h H S σ M e D P => ?_⟩⟩
  refine q1 f h H S σ M e _ (PostS.into P M e fun d h1 f1 H1 v1 E1 M1 e1 r1 P1 => ?_)
  rcases hg.no d S h1 with ⟨S1, z⟩ | z
  · rw [z] at P1
    exact q2 f1 h1.length h1 H1 S σ d v1 S1 h1 e1 r1 z _ fun σ' e' _ => P1 f1 H1 σ' Ext.refl M1 e'
  · rw [z] at P1; exact False.elim P1
/-- a, b = x, y -/
theorem ss_par {i j : Nat} {x y : Str} {px py pt : Pos} {kt k2 pt2} (hc : X.calm = true) (hN : X.N.Nodup) (ha : SE X at_ W a ma) (hb : SE X at_ W b mb) (hi : X.N[i]? = some x := by rfl) (hj : X.N[j]? = some y := by rfl) (hij : i ≠ j := by decide)
    (hx : X.env.scope.names.lookup x = some .local := by rfl) (hy : X.env.scope.names.lookup y = some .local := by rfl)
    (hw : swappedStores [.Tuple [.Name x px, .Name y py] kt pt] (.Tuple [a, b] k2 pt2) X.env = pure (some [x, y]) := by rfl)
    (hs : swapsWithSole [.Tuple [.Name x px, .Name y py] kt pt] (.Tuple [a, b] k2 pt2) pos.line X.env = pure false := by rfl)
    (h2 : starEach (a :: [b]) X.env = (false, eval a X.env) :: starEach [b] X.env := by rfl) (h3 : starEach (b :: []) X.env = (false, eval b X.env) :: starEach [] X.env := by rfl) :
    SS X at_ W (.Assign [.Tuple [.Name x px, .Name y py] kt pt] (.Tuple [a, b] k2 pt2) pos) (sPar i j ma mb) := by
  obtain ⟨t1, p1, q1⟩ := ha.ex
  obtain ⟨t2, p2, q2⟩ := hb.ex
  refine ⟨⟨_, ps_par hc hN hi hj hij hx hy (pa_cons p1 (pa_cons p2 pa_nil h3) h2) hw hs, fun f h H S σ M e D P => ?_⟩⟩
  refine q1 f h H S σ M e _ (PostS.into P M e fun d h1 f1 H1 v1 E1 M1 e1 r1 P1 => ?_)
  refine q2 f1 h1 H1 S σ M1 e1 _ (PostS.into P1 M1 e1 fun d2 h2 f2 H2 v2 E2 M2 e2 r2 P2 => ?_)
  exact ⟨v1, v2, rfl, P2 f2 H2 _ Ext.refl M2 ((e2.set (r1.ext M1 E2)).set r2)⟩
end
end PV
set_option Elab.async false
set_option linter.all false
set_option autoImplicit false
set_option maxRecDepth 100000
set_option maxHeartbeats 2000000
/-! PVL: what is walked, for, while, comprehensions. -/
namespace PV
open PySem PySem.Spec PyProof.Rows L2
/-- the iterator gives the row p from the state (f, n, H) on, as long as what is walked stays -/
def ItOk (K : KW) (at_ : Cl) (J : It) (p : Lv) (n : Nat) (f : Fm) (H : Hp) : Prop :=
  ∀ (f2 : Fm) (h2 : Hh) (H2 : Hp), Ext n h2.length f f2 H H2 → Sm K at_ f2 h2 H2 → still p.2 h2 →
    (∀ i, i < p.1.length → J.go i H2) ∧ J.stop p.1.length H2 ∧ ∀ (i : Nat) (d : D) (x : V) (H3 : Hp), p.1[i]? = some d → J.yld i H2 x H3 → Ext h2.length h2.length f2 f2 H2 H3 ∧ Sm K at_ f2 h2 H3 ∧ RV K f2 h2.length H3 d x
def SndI (K : KW) (at_ : Cl) (W : WX) (wi : TI) (m : Ls) : Prop :=
  ∀ (f : Fm) (h : Hh) (H : Hp) (S : Sg) (σ : L2.St), Sm K at_ f h H → REnv K f h.length H S σ → ∀ R : It → Hp → Prop,
    Post K at_ W (fun _ f' n' H' (p : Lv) (J : It) => ItOk K at_ J p n' f' H') h.length f H σ (m S h) R → wi σ H R
instance {K : KW} {at_ : Cl} : RelOk (fun (_ : Hp) f' n' H' (p : Lv) (J : It) => ItOk K at_ J p n' f' H') := ⟨fun _ _ _ _ _ _ _ _ r => r⟩
structure SI (X : Cx) (at_ : Cl) (W : WX) (tg e : Expr) (m : Ls) : Prop where
  ex : ∃ wi, PI X tg e wi ∧ SndI X.KW at_ W wi m

section
variable {X : Cx} {at_ : Cl} {W : WX} {a b c tg : Expr} {ma mb mc : Ex} {ta tb : Tt} {es : List Expr} {as : As} {pos : Pos} {la : Ls} {s : Stmt} {ss s1 s2 : List Stmt} {m1 m2 : PV.St} {g : Tg} {gv : List Nat}
theorem forM_nil (src : Src) (g : Tg) (m : PV.St) (S : Sg) (h : Hh) (st : still src h) : forM src g m [] S h = .nx S h := by rw [forM, if_pos st]
theorem forM_cons (src : Src) (g : Tg) (m : PV.St) (x : D) (xs : List D) (S : Sg) (h : Hh) (st : still src h) : forM src g m (x :: xs) S h = (g x S h).bind fun S1 h1 => (m S1 h1).bind fun S2 h2 => forM src g m xs S2 h2 := by rw [forM, if_pos st]
theorem forM_still {src : Src} {g : Tg} {m : PV.St} {xs : List D} {S : Sg} {h : Hh} {K : KW} {n : Nat} {f : Fm} {H : Hp} {D : Ends} (P : PostS K at_ W n f H (forM src g m xs S h) D) : still src h := by
  cases xs with
  | nil =>
    by_cases st : still src h
    · exact st
    · rw [forM, if_neg st] at P; exact False.elim P
  | cons x xs =>
    by_cases st : still src h
    · exact st
    · rw [forM, if_neg st] at P; exact False.elim P
theorem ss_for (hp : PassesOwn (model X.prog X.w) X.A X.env X.xe) (hc : X.calm = true) (hi : SI X at_ W tg a la) (hg : SG X tg g gv) (hb : SB X at_ W ss m1) (hs : ∀ x, foldedSetIterable a X.env x = pure x := by intro _; rfl) :
    SS X at_ W (.For tg a ss [] pos) (sFor la g m1) := by
  obtain ⟨wi, p1, q1⟩ := hi.ex
  obtain ⟨t2, p2, q2⟩ := hg.ex
  obtain ⟨t3, p3, q3⟩ := hb.ex
  refine ⟨⟨_, ps_for hp hc p1 p2 p3 hs, fun f h H S σ M e D P => ?_⟩⟩
  refine q1 f h H S σ M e _ (PostS.into P M e fun p h1 f1 H1 J E1 M1 e1 it P1 => ?_)
  refine ⟨fun i m σ2 H2 => m = p.1.length - i ∧ i ≤ p.1.length ∧ ∃ (f2 : Fm) (h2 : Hh) (S2 : Sg), Ext h1.length h2.length f1 f2 H1 H2 ∧ Sm X.KW at_ f2 h2 H2 ∧ REnv X.KW f2 h2.length H2 S2 σ2 ∧ PostS X.KW at_ W h2.length f2 H2 (forM p.2 g m1 (p.1.drop i) S2 h2) D,
    ⟨p.1.length, by simp, Nat.zero_le _, f1, h1, S, Ext.refl, M1, e1, by simpa using P1⟩, ?_⟩
  rintro i m σ2 H2 ⟨rfl, hi, f2, h2, S2, E2, M2, e2, P2⟩
  have st := forM_still P2
  obtain ⟨go, stop, yld⟩ := it f2 h2 H2 E2 M2 st
  by_cases hlt : i < p.1.length
  · have hd : p.1.drop i = p.1[i] :: p.1.drop (i + 1) := List.drop_eq_getElem_cons hlt
    rw [hd, forM_cons _ _ _ _ _ _ _ st] at P2
    refine .inr ⟨go i hlt, fun σ' H' => p.1.length - (i + 1) = p.1.length - (i + 1) ∧ i + 1 ≤ p.1.length ∧ ∃ (f2 : Fm) (h2 : Hh) (S2 : Sg), Ext h1.length h2.length f1 f2 H1 H' ∧ Sm X.KW at_ f2 h2 H' ∧ REnv X.KW f2 h2.length H' S2 σ' ∧ PostS X.KW at_ W h2.length f2 H' (forM p.2 g m1 (p.1.drop (i + 1)) S2 h2) D,
      fun σ' H' q => ⟨p.1.length - (i + 1), by omega, q⟩, fun x H3 y => ?_⟩
    obtain ⟨E3, M3, r3⟩ := yld i _ x H3 (List.getElem?_eq_getElem hlt) y
    rcases hg.no p.1[i] S2 h2 with ⟨S3, z⟩ | z
    · rw [z] at P2
      have e3 : REnv X.KW f2 h2.length H3 S2 σ2 := e2.ext M2 E3
      refine q2 f2 h2.length h2 H3 S2 σ2 _ x S3 h2 e3 r3 z _ fun σ4 e4 _ => ?_
      refine q3 f2 h2 H3 S3 σ4 M3 e4 _ (PostS.seq (PostS.rebase (r := (m1 S3 h2).bind fun S2 h2 => forM p.2 g m1 (p.1.drop (i + 1)) S2 h2) P2 E3) (fun S5 h5 f5 H5 σ5 E5 M5 e5 P5 => ?_) rfl)
      exact ⟨rfl, hlt, f5, h5, S5, (E2.trans E3).trans E5, M5, e5, P5⟩
    · rw [z] at P2; exact False.elim P2
  · have hi' : i = p.1.length := by omega
    subst hi'
    rw [List.drop_length, forM_nil _ _ _ _ _ st] at P2
    exact .inl ⟨stop, P2 f2 H2 σ2 Ext.refl M2 e2⟩
theorem whileM_succ (c : Tt) (m : PV.St) (n : Nat) (S : Sg) (h : Hh) : whileM c m (n + 1) S h = (c S h).into S fun k h1 => if k = true then (m S h1).bind fun S2 h2 => whileM c m n S2 h2 else .nx S h1 := rfl
theorem ss_while {N : Nat} (hp : PassesOwn (model X.prog X.w) X.A X.env X.xe) (ht : ST X at_ W c ta) (hb : SB X at_ W ss m1) : SS X at_ W (.While c ss [] pos) (sWhile N ta m1) := by
  obtain ⟨t1, p1, q1⟩ := ht.ex
  obtain ⟨t2, p2, q2⟩ := hb.ex
  refine ⟨⟨_, ps_while hp p1 p2, fun f h H S σ M e D P => ?_⟩⟩
  refine ⟨fun m σ2 H2 => ∃ (f2 : Fm) (h2 : Hh) (S2 : Sg), Sm X.KW at_ f2 h2 H2 ∧ REnv X.KW f2 h2.length H2 S2 σ2 ∧ PostS X.KW at_ W h2.length f2 H2 (whileM ta m1 m S2 h2) D, ⟨N, f, h, S, M, e, P⟩, ?_⟩
  rintro m σ2 H2 ⟨f2, h2, S2, M2, e2, P2⟩
  cases m with
  | zero => exact False.elim P2
  | succ m =>
    rw [whileM_succ] at P2
    refine q1 f2 h2 H2 S2 σ2 M2 e2 _ (PostS.into P2 M2 e2 fun k h3 f3 H3 v3 E3 M3 e3 r3 P3 => ?_)
    cases r3
    cases k with
    | true =>
      simp only [if_true] at P3 ⊢
      refine ⟨_, fun σ' H' q => ⟨m, Nat.lt_succ_self _, q⟩, ?_⟩
      exact q2 f3 h3 H3 S2 σ2 M3 e3 _ (PostS.seq P3 (fun S5 h5 f5 H5 σ5 E5 M5 e5 P5 => ⟨f5, h5, S5, M5, e5, P5⟩) rfl)
    | false =>
      simp only [Bool.false_eq_true, if_false] at P3 ⊢
      exact P3 f3 H3 σ2 Ext.refl M3 e3
/-! ### comprehensions -/
abbrev W0 : WX := fun _ _ _ _ => False
theorem wipe_wipe (σ : L2.St) : ∀ (ws : List Nat), L2.wipe (L2.wipe σ ws) ws = L2.wipe σ ws := by
  have key : ∀ (us ws : List Nat), (∀ i ∈ us, i ∈ ws) → L2.wipe (L2.wipe σ us) ws = L2.wipe σ ws := by
    intro us
    induction us with
    | nil => intro ws _; rfl
    | cons u us ih =>
      intro ws hu
      show L2.wipe ((L2.wipe σ us).set u none) ws = _
      rw [wipe_set (hu u List.mem_cons_self), ih ws fun i hi => hu i (List.mem_cons_of_mem _ hi)]
  exact fun ws => key ws ws fun _ h => h
/-- a side object, untold, is written -/
theorem Ext.side {n n' : Nat} {f f' : Fm} {H H' : Hp} {q : Addr} {u : HO} (E : Ext n n' f f' H H') (h0 : H q = none) : Ext n n' f f' H (upd H' q u) where
  le := E.le
  agr := E.agr
  kept := fun a o e ne => by rw [upd_ne (ne_of_none e h0)]; exact E.kept a o e ne
  live := fun a e => by
    by_cases z : a = q
    · subst z; exact h0
    · rw [upd_ne z] at e; exact E.live a e
  new := E.new
theorem fix_side {H : Hp} {q : Addr} {xs : List V} {u : HO} (hq : H q = some (.lst xs)) : ∀ a o, Fix o → H a = some o → (upd H q u) a = some o := fun a o x e => by
  rw [upd_ne (fun z => by subst z; rw [hq] at e; cases e; exact x)]; exact e
theorem Sm.side {K : KW} {f : Fm} {h : Hh} {H : Hp} {q : Addr} {xs : List V} {u : HO} (M : Sm K at_ f h H) (hq : H q = some (.lst xs)) (hn : ∀ i, i < h.length → f i ≠ q) : Sm K at_ f h (upd H q u) where
  inj := M.inj
  obj := fun i o e => (M.obj i o e).keep (Nat.le_refl _) (fun _ _ => rfl) (fix_side hq) (upd_ne (hn i (List.getElem?_eq_some_iff.mp e).1))
theorem Post.calmed {α β γ δ : Type} {K : KW} {rel : Hp → Fm → Nat → Hp → α → β → Prop} {rel2 : Hp → Fm → Nat → Hp → γ → δ → Prop} {n n' : Nat} {f f' : Fm} {H H' : Hp} {σ σ' : L2.St} {r : R γ} {k : γ → Hh → R α} {Q : β → Hp → Prop} {Q' : δ → Hp → Prop}
    (P : Post K at_ W rel n f H σ (r.calm.bind k) Q) (hQ : ∀ (a : γ) (h' : Hh) (f2 : Fm) (H2 : Hp) (b : δ), Ext n' h'.length f' f2 H' H2 → Sm K at_ f2 h' H2 → rel2 H' f2 h'.length H2 a b → Post K at_ W rel n f H σ (k a h') Q → Q' b H2) : Post K at_ W0 rel2 n' f' H' σ' r Q' := by
  cases r with
  | ok a h' => exact fun f2 H2 b E2 M2 r2 => hQ a h' f2 H2 b E2 M2 r2 P
  | exc c fs h' => exact False.elim P
  | bad => exact P
theorem lcM_still {src : Src} {vs : List Nat} {t : Tt} {el : Ex} {S : Sg} {xs : List D} {h : Hh} {acc : List D} {K : KW} {α : Type} {rel : Hp → Fm → Nat → Hp → List D → α → Prop} {n : Nat} {f : Fm} {H : Hp} {σ : L2.St} {Q : α → Hp → Prop} (P : Post K at_ W rel n f H σ (lcM src vs g t el S xs h acc) Q) : still src h := by
  by_cases st : still src h
  · exact st
  · cases xs with
    | nil => rw [lcM, if_neg st] at P; exact False.elim P
    | cons x xs => rw [lcM, if_neg st] at P; exact False.elim P
theorem lcM_cons (src : Src) (vs : List Nat) (g : Tg) (t : Tt) (el : Ex) (S : Sg) (x : D) (xs : List D) (h : Hh) (acc : List D) (st : still src h) {S1 : Sg} {h1 : Hh} (z : g x (PV.wipe S vs) h = .nx S1 h1) :
    lcM src vs g t el S (x :: xs) h acc = (t S1 h1).calm.bind fun k h2 => if k = true then (el S1 h2).calm.bind fun d h3 => if acc.length < big then lcM src vs g t el S xs h3 (acc ++ [d]) else .bad else lcM src vs g t el S xs h2 acc := by
  rw [lcM, if_pos st, z]
theorem big_lt {n : Nat} : n < big ↔ n < sizeLine := by rw [sizeLine_eq]
/-- the tests of a comprehension -/
structure SPt (X : Cx) (at_ : Cl) (W : WX) (ifs : List Expr) (m : Tt) : Prop where
  ex : ∃ t, PTs X ifs t ∧ Snd X.KW at_ W relB t m
theorem spt_nil : SPt X at_ W [] tY := ⟨⟨_, pts_nil, fun f h H S σ M e Q P => P.ok M rfl⟩⟩
theorem spt_one (h : ST X at_ W c ta) : SPt X at_ W [c] ta := let ⟨t, p, q⟩ := h.ex; ⟨⟨t, pts_one p, q⟩⟩
/-- the core: the reading of a comprehension -/
theorem lc_snd {K : KW} {wi : TI} {t2 : TG} {tt : TT} {te : TE} {ws : List Nat} {t : Tt} {el : Ex} (q1 : SndI K at_ W wi la)
    (q2 : ∀ (f : Fm) (n : Nat) (h : Hh) (H : Hp) (S : Sg) (σ : L2.St) (d : D) (v : V) (S' : Sg) (h' : Hh), REnv K f n H S σ → RV K f n H d v → g d S h = .nx S' h' →
      ∀ Q : L2.St → Hp → Prop, (∀ σ', REnv K f n H S' σ' → (∀ ws, (∀ i ∈ gv, i ∈ ws) → L2.wipe σ' ws = L2.wipe σ ws) → Q σ' H) → t2 v σ H Q)
    (gn : ∀ d S h, (∃ S', g d S h = .nx S' h) ∨ g d S h = .bad) (hw : ∀ i ∈ gv, i ∈ ws) (q3 : Snd K at_ W0 relB tt t) (q4 : Snd K at_ W0 (relV K) te el) : Snd K at_ W (relF K) (tLc wi t2 tt te ws) (lLc la ws g t el) := by
  intro f h H S σ M e Q P
  refine q1 f h H S σ M e _ (Post.step P fun p h1 f1 H1 J E1 M1 it P1 => ?_)
  have e1 := e.ext M E1
  intro D hD
  have M1' : Sm K at_ f1 h1 (upd H1 D (.lst [])) := M1.fresh hD
  refine ⟨fun i m H2 => m = p.1.length - i ∧ i ≤ p.1.length ∧ ∃ (f2 : Fm) (h2 : Hh) (accD : List PV.D) (accV : List V), Ext h1.length h2.length f1 f2 H1 H2 ∧ Sm K at_ f2 h2 H2 ∧ H2 D = some (.lst accV) ∧ (∀ j, j < h2.length → f2 j ≠ D) ∧ RVs K f2 h2.length H2 accD accV ∧ REnv K f2 h2.length H2 S σ ∧
      Post K at_ W (relF K) h1.length f1 H1 σ (lcM p.2 ws g t el S (p.1.drop i) h2 accD) Q,
    ⟨p.1.length, by simp, Nat.zero_le _, f1, h1, [], [], Ext.fresh hD, M1', upd_same, fun j hj z => ?_, .nil, e1.ext M1 (Ext.fresh hD), by simpa using P1⟩, ?_⟩
  · obtain ⟨u, hu⟩ := M1.tracked hj
    rw [z, hD] at hu; cases hu
  rintro i m H2 ⟨rfl, hi, f2, h2, accD, accV, E2, M2, hL, hn, rs, e2, P2⟩
  have st := lcM_still P2
  obtain ⟨go, stop, yld⟩ := it f2 h2 H2 E2 M2 st
  by_cases hlt : i < p.1.length
  · have hd : p.1.drop i = p.1[i] :: p.1.drop (i + 1) := List.drop_eq_getElem_cons hlt
    rw [hd] at P2
    refine .inr ⟨go i hlt, fun H' => p.1.length - (i + 1) = p.1.length - (i + 1) ∧ i + 1 ≤ p.1.length ∧ ∃ (f2 : Fm) (h2 : Hh) (accD : List PV.D) (accV : List V), Ext h1.length h2.length f1 f2 H1 H' ∧ Sm K at_ f2 h2 H' ∧ H' D = some (.lst accV) ∧ (∀ j, j < h2.length → f2 j ≠ D) ∧ RVs K f2 h2.length H' accD accV ∧ REnv K f2 h2.length H' S σ ∧
      Post K at_ W (relF K) h1.length f1 H1 σ (lcM p.2 ws g t el S (p.1.drop (i + 1)) h2 accD) Q, fun H' q => ⟨p.1.length - (i + 1), by omega, q⟩, fun x H3 y => ?_⟩
    obtain ⟨E3, M3, r3⟩ := yld i _ x H3 (List.getElem?_eq_getElem hlt) y
    rcases gn p.1[i] (PV.wipe S ws) h2 with ⟨S3, z⟩ | z
    · rw [lcM_cons _ _ _ _ _ _ _ _ _ _ st z] at P2
      have e3 : REnv K f2 h2.length H3 (PV.wipe S ws) (L2.wipe σ ws) := (e2.ext M2 E3).wipe ws
      have off : ∀ {f5 : Fm} {h5 : Hh} {H5 : Hp}, Ext h2.length h5.length f2 f5 H3 H5 → H5 D = some (.lst accV) ∧ ∀ j, j < h5.length → f5 j ≠ D := fun {f5 h5 H5} E5 => by
        have k3 : H3 D = some (.lst accV) := E3.kept D _ hL hn
        refine ⟨E5.kept D _ k3 hn, fun j hj z => ?_⟩
        by_cases hj2 : j < h2.length
        · rw [E5.agr j hj2] at z; exact hn j hj2 z
        · have := E5.new j (Nat.le_of_not_lt hj2) hj
          rw [z, k3] at this; cases this
      refine q2 f2 h2.length h2 H3 _ _ _ x S3 h2 e3 r3 z _ fun σ4 e4 w4 => ⟨?_, ?_⟩
      · rw [w4 ws hw, wipe_wipe]
      refine q3 f2 h2 H3 S3 σ4 M3 e4 _ (Post.calmed P2 fun k h5 f5 H5 b5 E5 M5 r5 P5 => ?_)
      cases r5
      cases k with
      | false =>
        simp only [Bool.false_eq_true, if_false] at P5 ⊢
        obtain ⟨k1, k2⟩ := off E5
        exact ⟨trivial, hlt, f5, h5, accD, accV, (E2.trans E3).trans E5, M5, k1, k2, (rs.ext M2 E3).ext M3 E5, (e2.ext M2 E3).ext M3 E5, P5⟩
      | true =>
        simp only [if_true] at P5 ⊢
        refine q4 f5 h5 H5 S3 σ4 M5 (e4.ext M3 E5) _ (Post.calmed P5 fun d h6 f6 H6 v6 E6 M6 r6 P6 => ?_)
        obtain ⟨k1, k2⟩ := off (E5.trans E6)
        have rs6 := ((rs.ext M2 E3).ext M3 E5).ext M5 E6
        by_cases hz : accD.length < big
        · rw [if_pos hz] at P6
          refine ⟨accV, k1, by rw [← rs6.length]; exact big_lt.mp hz, trivial, hlt, f6, h6, accD ++ [d], accV ++ [v6], ((((E2.trans E3).trans E5).trans E6).side hD), M6.side k1 k2, upd_same, k2, ?_, ?_, P6⟩
          · exact (rs6.keep (Nat.le_refl _) (fun _ _ => rfl) (fix_side k1)).append (.cons (r6.keep (Nat.le_refl _) (fun _ _ => rfl) (fix_side k1)) .nil)
          · exact (((e2.ext M2 E3).ext M3 E5).ext M5 E6).keep (Nat.le_refl _) (fun _ _ => rfl) (fix_side k1)
        · rw [if_neg hz] at P6; exact False.elim P6
    · rw [lcM, if_pos st, z] at P2; exact False.elim P2
  · have hi' : i = p.1.length := by omega
    subst hi'
    rw [List.drop_length, lcM, if_pos st] at P2
    exact .inl ⟨stop, P2 f2 H2 _ E2 M2 ⟨D, accV, rfl, hD, hL, hn, rs⟩⟩
/-! ### targets come to slots, or to nothing -/
class TgOk (g : Tg) : Prop where
  no : ∀ d S h, (∃ S', g d S h = .nx S' h) ∨ g d S h = .bad
class TgsOk (g : Tgs) : Prop where
  no : ∀ d S h, (∃ S', g d S h = .nx S' h) ∨ g d S h = .bad
instance {i : Nat} : TgOk (gV i) := ⟨fun _ _ _ => .inl ⟨_, rfl⟩⟩
instance : TgsOk gN := ⟨fun ds _ _ => by
  cases ds with
  | nil => exact .inl ⟨_, rfl⟩
  | cons _ _ => exact .inr rfl⟩
instance {t : Tg} {r : Tgs} [a : TgOk t] [b : TgsOk r] : TgsOk (gC t r) := ⟨fun ds S h => by
  cases ds with
  | nil => exact .inr rfl
  | cons d ds =>
    rw [gC_eq]
    rcases a.no d S h with ⟨S1, z⟩ | z
    · rw [z]; exact b.no ds S1 h
    · rw [z]; exact .inr rfl⟩
instance {n : Nat} {r : Tgs} [b : TgsOk r] : TgOk (gT n r) := ⟨fun d S h => by
  cases d with
  | tup xs =>
    rw [gT_eq]
    by_cases hl : xs.length = n
    · rw [if_pos hl]; exact b.no xs S h
    · rw [if_neg hl]; exact .inr rfl
  | _ => exact .inr rfl⟩
/-! ### one reading for all contexts -/
def can {α β : Type} (K : KW) (at_ : Cl) (W : WX) (rel : Hp → Fm → Nat → Hp → α → β → Prop) (m : Sg → Hh → R α) : L2.St → Hp → (β → Hp → Prop) → Prop := fun σ H Q =>
  ∃ (f : Fm) (h : Hh) (S : Sg), Sm K at_ f h H ∧ REnv K f h.length H S σ ∧ Post K at_ W rel h.length f H σ (m S h) Q
theorem can_snd {α β : Type} {K : KW} {rel : Hp → Fm → Nat → Hp → α → β → Prop} {m : Sg → Hh → R α} : Snd K at_ W rel (can K at_ W rel m) m := fun f h H S σ M e Q P => ⟨f, h, S, M, e, P⟩
theorem SE.can (he : SE X at_ W a ma) : PE X a (PV.can X.KW at_ W (relV X.KW) ma) := by
  obtain ⟨t, p, q⟩ := he.ex
  exact ⟨fun pins s σ H Q I ⟨f, h, S, M, e, P⟩ => p.run pins s σ H Q I (q f h H S σ M e Q P)⟩
theorem SPt.can {ifs : List Expr} (he : SPt X at_ W ifs ta) : PTs X ifs (PV.can X.KW at_ W relB ta) := by
  obtain ⟨t, p, q⟩ := he.ex
  exact ⟨fun pins s σ H Q I ⟨f, h, S, M, e, P⟩ => p.run pins s σ H Q I (q f h H S σ M e Q P)⟩
def canG (K : KW) (g : Tg) (gv : List Nat) : TG := fun v σ H Q =>
  ∃ (f : Fm) (n : Nat) (h : Hh) (S : Sg) (d : D) (S' : Sg) (h' : Hh), REnv K f n H S σ ∧ RV K f n H d v ∧ g d S h = .nx S' h' ∧ (∀ σ', REnv K f n H S' σ' → (∀ ws, (∀ i ∈ gv, i ∈ ws) → L2.wipe σ' ws = L2.wipe σ ws) → Q σ' H)
theorem SG.can (hg : SG X tg g gv) : PG X tg (canG X.KW g gv) := by
  obtain ⟨t, p, q⟩ := hg.ex
  exact ⟨fun pins s σ H v u Q I r ⟨f, n, h, S, d, S', h', e, rv, z, k⟩ => p.run pins s σ H v u Q I r (q f n h H S σ d v S' h' e rv z Q k)⟩
theorem sf_lc {elt iter : Expr} {ifs : List Expr} {scope : Scope} {own : List (Str × Nat)} {t : Tt} {el : Ex} [TgOk g] (hc : X.calm = true) (hN : X.N.Nodup) (hi : SI X at_ W tg iter la) (ok : BlkOk X.N X.env.scope scope own)
    (hg : ∀ (s : Shared) (H : Hp) (C : Addr) (cl : List (Str × Addr)) (fp : List Addr), SG (X.blk s H scope (compEnvC scope cl C X.env) fp) tg g gv) (ht : ∀ (s : Shared) (H : Hp) (C : Addr) (cl : List (Str × Addr)) (fp : List Addr), SPt (X.blk s H scope (compEnvC scope cl C X.env) fp) at_ W0 ifs t)
    (he : ∀ (s : Shared) (H : Hp) (C : Addr) (cl : List (Str × Addr)) (fp : List Addr), SE (X.blk s H scope (compEnvC scope cl C X.env) fp) at_ W0 elt el) (hw : ∀ i ∈ gv, i ∈ own.map (·.2) := by decide) (hs : ∀ x, foldedSetIterable iter X.env x = pure x := by intro _; rfl) :
    SF X at_ W (.ListComp elt [⟨tg, iter, ifs, 0⟩] scope pos) (lLc la (own.map (·.2)) g t el) := by
  obtain ⟨wi, p1, q1⟩ := hi.ex
  refine ⟨⟨_, pe_lc (g := canG X.KW g gv) (tt := PV.can X.KW at_ W0 relB t) (te := PV.can X.KW at_ W0 (relV X.KW) el) hc hN p1 ok (fun s H C cl fp => (hg s H C cl fp).can) (fun s H C cl fp => (ht s H C cl fp).can) (fun s H C cl fp => (he s H C cl fp).can) hs, ?_⟩⟩
  exact lc_snd q1 (fun f n h H S σ d v S' h' e r z Q k => ⟨f, n, h, S, d, S', h', e, r, z, k⟩) TgOk.no hw can_snd can_snd
/-- name = [..] on one line, the name a local -/
theorem ss_setLc {i : Nat} {y : Str} {py spos : Pos} {elt iter : Expr} {ifs : List Expr} {scope : Scope} {own : List (Str × Nat)} {t : Tt} {el : Ex} [TgOk g] (hc : X.calm = true) (hN : X.N.Nodup) (hi : SI X at_ W tg iter la) (ok : BlkOk X.N X.env.scope scope own)
    (hg : ∀ (s : Shared) (H : Hp) (C : Addr) (cl : List (Str × Addr)) (fp : List Addr), SG (X.blk s H scope (compEnvC scope cl C X.env) fp) tg g gv) (ht : ∀ (s : Shared) (H : Hp) (C : Addr) (cl : List (Str × Addr)) (fp : List Addr), SPt (X.blk s H scope (compEnvC scope cl C X.env) fp) at_ W0 ifs t)
    (he : ∀ (s : Shared) (H : Hp) (C : Addr) (cl : List (Str × Addr)) (fp : List Addr), SE (X.blk s H scope (compEnvC scope cl C X.env) fp) at_ W0 elt el) (hw : ∀ i ∈ gv, i ∈ own.map (·.2) := by decide)
    (hy : X.N[i]? = some y := by rfl) (hyl : X.env.scope.names.lookup y = some .local := by rfl) (hk : X.env.scope.kind = .function := by rfl) (hl : (py.line == pos.line) = true := by rfl) (ha : (scope.names.any fun (n, k) => n == y && (k == .local || k == .cell)) = false := by decide +kernel)
    (hs : ∀ x, foldedSetIterable iter X.env x = pure x := by intro _; rfl) :
    SS X at_ W (.Assign [.Name y py] (.ListComp elt [⟨tg, iter, ifs, 0⟩] scope pos) spos) (sSet i (eL (lLc la (own.map (·.2)) g t el))) := by
  obtain ⟨wi, p1, q1⟩ := hi.ex
  refine ⟨⟨_, ps_setLc (g := canG X.KW g gv) (tt := PV.can X.KW at_ W0 relB t) (te := PV.can X.KW at_ W0 (relV X.KW) el) hc hN hy hyl (sw_true hk hyl hl ha) p1 ok (fun s H C cl fp => (hg s H C cl fp).can) (fun s H C cl fp => (ht s H C cl fp).can) (fun s H C cl fp => (he s H C cl fp).can) hs, ?_⟩⟩
  have core : Snd X.KW at_ W (relF X.KW) (tLc wi (canG X.KW g gv) (PV.can X.KW at_ W0 relB t) (PV.can X.KW at_ W0 (relV X.KW) el) (own.map (·.2))) (lLc la (own.map (·.2)) g t el) := lc_snd q1 (fun f n h H S σ d v S' h' e r z Q k => (⟨f, n, h, S, d, S', h', e, r, z, k⟩ : canG X.KW g gv v σ H Q)) TgOk.no hw can_snd can_snd
  intro f h H S σ M e D P
  refine core f h H S σ M e _ ?_
  unfold sSet eL at P
  cases z : lLc la (own.map (·.2)) g t el S h with
  | bad => rw [z] at P; exact P
  | exc c fs h1 =>
    rw [z] at P
    exact fun f1 H1 cls dx E1 M1 x => P f1 H1 σ cls dx E1 M1 (e.ext M E1) x
  | ok ds h1 =>
    rw [z] at P
    intro f1 H1 v E1 M1 r1
    obtain ⟨q, vs, rfl, h0, hq, hn, rv⟩ := r1
    have M2 := M1.tell (o := O.lst ds) hn ⟨vs, hq, rv⟩
    have E2 := E1.tell h0 hn
    refine P _ _ _ (by rw [List.length_append, List.length_singleton]; exact E2) M2 ?_
    rw [List.length_append, List.length_singleton]
    have e1 : ext1 f1 h1.length q h1.length = q := ext1_eq
    have r : RV X.KW (ext1 f1 h1.length q) (h1.length + 1) H1 (.ref h1.length) (.ref (ext1 f1 h1.length q h1.length)) := RV.ref (Nat.lt_succ_self _)
    rw [e1] at r
    exact (e.ext M E2).set r
end
end PV
set_option Elab.async false
set_option linter.all false
set_option autoImplicit false
set_option maxRecDepth 100000
set_option maxHeartbeats 2000000
/-! PVF: defs and their calls. -/
namespace PV
open PySem PySem.Spec PyProof.Rows L2
section
variable {K : KW} {at_ : Cl} {f f' : Fm} {n n' : Nat} {H H' : Hp} {h h' : Hh}
mutual
theorem RV.bel : ∀ {d : D} {v : V}, RV K f n H d v → d.bel n
  | _, _, .non => trivial
  | _, _, .bl b => trivial
  | _, _, .int i => trivial
  | _, _, .str x => trivial
  | _, _, .tup _ s => RVs.bel s
  | _, _, .fz _ s => RVs.bel s
  | _, _, .fd _ r s _ _ _ _ => ⟨RVs.bel r, RVs.bel s⟩
  | _, _, .fi _ _ _ s => RVs.bel s
  | _, _, .ref hi => hi
theorem RVs.bel : ∀ {ds : List D} {vs : List V}, RVs K f n H ds vs → D.bels n ds
  | _, _, .nil => trivial
  | _, _, .cons h t => ⟨RV.bel h, RVs.bel t⟩
end
mutual
theorem RV.cut (hle : n ≤ n') (ha : ∀ i, i < n → f' i = f i) : ∀ {d : D} {v : V}, RV K f' n' H d v → d.bel n → RV K f n H d v
  | _, _, .non, _ => .non
  | _, _, .bl b, _ => .bl b
  | _, _, .int i, _ => .int i
  | _, _, .str x, _ => .str x
  | _, _, .tup t s, hb => .tup t (RVs.cut hle ha s hb)
  | _, _, .fz t s, hb => .fz t (RVs.cut hle ha s hb)
  | _, _, .fd t r s e1 e2 e3 e4, hb => .fd t (RVs.cut hle ha r hb.1) (RVs.cut hle ha s hb.2) e1 e2 e3 e4
  | _, _, .fi t e1 e2 s, hb => .fi t e1 e2 (RVs.cut hle ha s hb)
  | _, _, .ref _, hb => by rw [ha _ hb]; exact .ref hb
theorem RVs.cut (hle : n ≤ n') (ha : ∀ i, i < n → f' i = f i) : ∀ {ds : List D} {vs : List V}, RVs K f' n' H ds vs → D.bels n ds → RVs K f n H ds vs
  | _, _, .nil, _ => .nil
  | _, _, .cons h t, hb => .cons (RV.cut hle ha h hb.1) (RVs.cut hle ha t hb.2)
end
theorem paired_mem {α β : Type} {F G : α → β → Prop} : ∀ {l : List α} {l' : List β}, Paired F l l' → (∀ a b, a ∈ l → F a b → G a b) → Paired G l l'
  | _, _, .nil, _ => .nil
  | _, _, .cons r t, k => .cons (k _ _ List.mem_cons_self r) (paired_mem t fun a b ha => k a b (List.mem_cons_of_mem _ ha))
theorem paired_all {α β : Type} {F : α → β → Prop} {G : α → Prop} (k : ∀ a b, F a b → G a) : ∀ {l : List α} {l' : List β}, Paired F l l' → ∀ a ∈ l, G a
  | _, _, .nil, _, ha => by simp at ha
  | _, _, .cons r t, a, ha => by
    rcases List.mem_cons.mp ha with e | e
    · rw [e]; exact k _ _ r
    · exact paired_all k t a e
theorem RO.bel {a : Addr} {o : O} (r : RO K at_ f n H a o) : o.bel n := by
  cases o with
  | lst ds => obtain ⟨vs, _, q⟩ := r; exact q.bel
  | ins c fs =>
    obtain ⟨dx, vs, _, q⟩ := r
    exact paired_all (G := fun p => p.2.bel n) (fun _ _ z => z.2.bel) q
  | dic kvs =>
    obtain ⟨es, _, q, _⟩ := r
    refine paired_all (G := fun p => p.1.bel n ∧ p.2.bel n) (fun a b z => ?_) q
    obtain ⟨v, k1, _⟩ := z.key
    obtain ⟨u, k2, _⟩ := z.val
    exact ⟨k1.bel, k2.bel⟩
theorem RO.cut (hle : n ≤ n') (ha : ∀ i, i < n → f' i = f i) {a : Addr} {o : O} (r : RO K at_ f' n' H a o) (hb : o.bel n) : RO K at_ f n H a o := by
  cases o with
  | lst ds => obtain ⟨vs, e, q⟩ := r; exact ⟨vs, e, q.cut hle ha hb⟩
  | ins c fs =>
    obtain ⟨dx, vs, e, q⟩ := r
    exact ⟨dx, vs, e, paired_mem q fun p _ hp z => ⟨z.1, z.2.cut hle ha (hb p hp)⟩⟩
  | dic kvs =>
    obtain ⟨es, e, q, nd⟩ := r
    refine ⟨es, e, paired_mem q fun p _ hp z => ⟨?_, ?_, z.hash⟩, nd⟩
    · obtain ⟨v, k1, k2⟩ := z.key; exact ⟨v, k1.cut hle ha (hb p hp).1, k2⟩
    · obtain ⟨v, k1, k2⟩ := z.val; exact ⟨v, k1.cut hle ha (hb p hp).2, k2⟩
theorem Ext.cut (E : Ext n n' f f' H H') : Ext n n f f' H H' := ⟨Nat.le_refl _, E.agr, E.kept, E.live, fun i h1 h2 => absurd (Nat.lt_of_lt_of_le h2 h1) (Nat.lt_irrefl _)⟩
theorem Sm.cut (M0 : Sm K at_ f h H) (E : Ext h.length h'.length f f' H H') (M : Sm K at_ f' h' H') (t : tidyOk h h') : Sm K at_ f' (h'.take h.length) H' where
  inj := fun i j hi hj e => M.inj i j (by rw [List.length_take] at hi; omega) (by rw [List.length_take] at hj; omega) e
  obj := fun i o e => by
    have hl : (h'.take h.length).length = h.length := by rw [List.length_take]; exact Nat.min_eq_left t.1
    have hi : i < h.length := by rw [← hl]; exact (List.getElem?_eq_some_iff.mp e).1
    rw [List.getElem?_take_of_lt hi] at e
    rw [hl]
    have hb : o.bel h.length := by
      rcases t.2 i o hi e with z | z
      · exact (M0.obj i o z).bel
      · exact z
    exact (M.obj i o e).cut t.1 (fun _ _ => rfl) hb
theorem take_len (t : tidyOk h h') : (h'.take h.length).length = h.length := by rw [List.length_take]; exact Nat.min_eq_left t.1
theorem RX.cut {c : Nat} {fs : List (String × D)} {cls : Value} {dx : Option Addr} (hle : n ≤ n') (ha : ∀ i, i < n → f' i = f i) (x : RX K at_ f' n' H c fs cls dx) (hb : ∀ p ∈ fs, p.2.bel n) : RX K at_ f n H c fs cls dx := by
  obtain ⟨e, x⟩ := x
  refine ⟨e, ?_⟩
  cases dx with
  | none => exact x
  | some d =>
    obtain ⟨vs, k, q⟩ := x
    exact ⟨vs, k, paired_mem q fun p _ hp z => ⟨z.1, z.2.cut hle ha (hb p hp)⟩⟩
/-- what is wanted behind the tidied result is wanted behind the result -/
theorem Post.tidy {W : WX} {σ : L2.St} {r : R D} {Q : VK} (M0 : Sm K at_ f h H) (P : Post K at_ W (relV K) h.length f H σ (PV.tidy h r) Q) : Post K at_ W (relV K) h.length f H σ r Q := by
  cases r with
  | bad => exact P
  | exc c fs h' =>
    unfold PV.tidy at P
    dsimp only at P
    split at P
    · rename_i t
      intro f' H' cls dx E M x
      refine P f' H' cls dx (by rw [take_len t.1]; exact E.cut) (M0.cut E M t.1) ?_
      rw [take_len t.1]
      exact x.cut t.1.1 (fun _ _ => rfl) t.2
    · exact P
  | ok d h' =>
    unfold PV.tidy at P
    dsimp only at P
    split at P
    · rename_i t
      split at P
      · rename_i hb
        intro f' H' v E M rv
        refine P f' H' v (by rw [take_len t]; exact E.cut) (M0.cut E M t) ?_
        rw [take_len t]
        exact RV.cut t.1 (fun _ _ => rfl) rv hb
      · rename_i hb
        split at P
        · rename_i k
          split at P
          · rename_i o ho
            split at P
            · rename_i ob
              intro f' H' v E M rv
              have hk : k < h'.length := (List.getElem?_eq_some_iff.mp ho).1
              have hnk : h.length ≤ k := Nat.le_of_not_lt fun z => hb z
              have M1 := M0.cut E M t
              have hoff : ∀ i, i < h.length → f' i ≠ f' k := fun i hi z => absurd (M.inj i k (by omega) hk z) (by omega)
              have ro : RO K at_ f' h.length H' (f' k) o := (M.obj k o ho).cut t.1 (fun _ _ => rfl) ob
              have hl := take_len t
              have M2 := M1.tell (o := o) (q := f' k) (by rw [hl]; exact hoff) (by rw [hl]; exact ro)
              have E2 : Ext h.length (h.length + 1) f (ext1 f' h.length (f' k)) H H' := (E.cut).tell (E.new k hnk hk) hoff
              rw [hl] at M2
              cases rv with
              | ref _ =>
                refine P _ H' _ (by rw [List.length_append, hl]; exact E2) M2 ?_
                rw [List.length_append, hl]
                have e1 : ext1 f' h.length (f' k) h.length = f' k := ext1_eq
                have r : RV K (ext1 f' h.length (f' k)) (h.length + 1) H' (.ref h.length) (.ref (ext1 f' h.length (f' k) h.length)) := RV.ref (Nat.lt_succ_self _)
                rw [e1] at r
                exact r
            · exact P
          · exact P
        · exact P
    · exact P
end
/-! ### what a def keeps to -/
structure FnS (P : Program) (w : World) (K : Frag) (mg : Str → Option Value) (base : Heap) (at_ : Cl) (k : Nat) (g : Addr) (fd : FuncData) (ps : List Str) (F : List D → Hh → R D) : Prop where
  run : ∀ (A : Around) (outer : List Env) (s : Shared) (H : Hp) (args : Args) (us : List Value) (vs : List V) (Q : VK) (E : XK) (f : Fm) (h : Hh) (ds : List D), Room k A → A.guards = some [] → Env0 P w K mg base A outer s H → BindsTo s fd args (ps.zip us) → Vals vs us →
    Sm ⟨K, w⟩ at_ f h H → RVs ⟨K, w⟩ f h.length H ds vs → Post ⟨K, w⟩ at_ (fun c d _ H => E c d H) (relV ⟨K, w⟩) h.length f H [] (F ds h) Q → codeAny (model P w) A (.call (.ref g) args) (CR (L2.CX P w) outer P w H s Q E) s
  len : ∀ ds h, ds.length ≠ ps.length → F ds h = .bad
theorem FnS.mono {P : Program} {w : World} {K : Frag} {mg : Str → Option Value} {base : Heap} {at_ : Cl} {j k : Nat} {g : Addr} {fd : FuncData} {ps : List Str} {F : List D → Hh → R D} (x : FnS P w K mg base at_ j g fd ps F) (hjk : j ≤ k) : FnS P w K mg base at_ k g fd ps F :=
  ⟨fun A outer s H args us vs Q E f h ds hr => x.run A outer s H args us vs Q E f h ds (hr.mono hjk), x.len⟩
/-- the room that a body has -/
structure Rm (X : Cx) (k : Nat) : Prop where
  room : Room k X.A
  gd : X.A.guards = some []
theorem Rm.mono {X : Cx} {j k : Nat} (r : Rm X k) (h : j ≤ k) : Rm X j := ⟨r.room.mono h, r.gd⟩
abbrev WE0 (E : XK) : WX := fun c d _ H => E c d H
section
variable {P : Program} {w : World} {K : Frag} {mg : Str → Option Value} {base : Heap} {at_ : Cl}
theorem sg_env {K : KW} {f : Fm} {n : Nat} {H : Hp} {N : List Str} {ds : List D} {vs : List V} (r : RVs K f n H ds vs) : REnv K f n H (sg N.length ds) (L2.start N vs) := by
  refine ⟨?_, fun i d q => ?_⟩
  · unfold sg L2.start
    simp only [List.length_append, List.length_map, List.length_replicate, r.length]
  · unfold sg at q
    by_cases hi : i < ds.length
    · rw [List.getElem?_append_left (by simpa using hi), List.getElem?_map] at q
      cases e : ds[i]? with
      | none => rw [e] at q; cases q
      | some d' =>
        rw [e] at q
        cases q
        obtain ⟨v, h1, h2⟩ := r.get e
        refine ⟨v, ?_, h2⟩
        unfold L2.start
        rw [List.getElem?_append_left (by rw [List.length_map, ← r.length]; exact hi), List.getElem?_map, h1]
        rfl
    · rw [List.getElem?_append_right (by simpa using Nat.le_of_not_lt hi), List.getElem?_replicate] at q
      split at q <;> cases q
/-- THE RULE for a def, by its body -/
theorem fnS_of {k : Nat} {g : Addr} {x qual : Str} {st : Stmt} {fd : FuncData} {N ps : List Str} {m : PV.St} (F : Fun K x qual st g fd) (S : FnScope N ps (defScope st))
    (body : ∀ (cdv : Value) (A : Around) (outer : List Env) (s : Shared) (H : Hp) (E : XK), Rm (cxOf (L2.CX P w) P w K mg base N qual (defScope st) g cdv A outer s H E) k → SB (cxOf (L2.CX P w) P w K mg base N qual (defScope st) g cdv A outer s H E) at_ (WE0 E) (defBody st) m) :
    FnS P w K mg base at_ (k + 1) g fd ps (fn N.length ps.length m) := by
  obtain ⟨oc, od, kV, doc, pm, an, cdv, ct, osl, rfl, lk, hcd⟩ := F.ex
  refine ⟨fun A outer s H args us vs Q E f h ds hr hgd e0 hbind rv M rs post => ?_, fun ds h hl => by unfold fn; rw [if_neg hl]⟩
  have hlen : ds.length = ps.length := Decidable.byContradiction fun z => by
    unfold fn at post
    rw [if_neg z] at post
    exact post
  have hvl : vs.length = ps.length := by rw [← rs.length]; exact hlen
  have inK : K.In s.heap := e0.mod.kin.keeps fun b o e => (e0.bs b o e).1
  have noLim : s.heap.NoLimit := e0.mod.nolimit.keeps fun b o e => (e0.bs b o e).1
  have kinds : ∀ y ∈ ps.zip us, (defScope st).names.lookup y.1 = some .local ∨ ((defScope st).names.lookup y.1 = some .cell ∧ ((cellsFrom (s.heap.objs.size + 1) (defScope st).names []).lookup y.1).isSome = true) := by
    rintro ⟨nm, v⟩ hy
    rcases S.par nm (List.of_mem_zip hy).1 with q | q
    · exact .inl q
    · exact .inr ⟨q, PySem.W.cellsFrom_some _ _ _ (.inl q)⟩
  refine codeAny_call_function hr.depth (inK _ _ lk) rfl S.co S.gen rfl (PySem.W.codeRec_of inK hcd) (hbind _ _ _ _ ?_)
  refine wpAny_newFunctionEnv_cells S.kind kinds fun env he s1 y => ?_
  subst he
  refine ⟨noLim.keeps y.toInCall.keep, codeAny_func ?_⟩
  obtain ⟨t, ht, hq⟩ := (body cdv A outer s H E ⟨hr.deeper _, hgd⟩).ex
  have I := inv_start (CX := L2.CX P w) (E := E) S hr.hd e0 hvl rv y
  have post' : Post ⟨K, w⟩ at_ (fun c d _ H => E c d H) (relV ⟨K, w⟩) h.length f H [] (runB m (sg N.length ds) h) Q := by
    unfold fn at post
    rw [if_pos hlen] at post
    exact post.tidy M
  have hS : PostS ⟨K, w⟩ at_ (WE0 E) h.length f H (m (sg N.length ds) h) { nx := fun _ H' => Q .non H', rt := Q } := by
    unfold runB at post'
    cases z : m (sg N.length ds) h with
    | nx S' h' => rw [z] at post'; exact fun f' H' _ E' M' _ => post' f' H' .non E' M' .non
    | rt d h' => rw [z] at post'; exact post'
    | exc c fs S' h' => rw [z] at post'; exact fun f' H' _ cls dx E' M' _ xx => post' f' H' cls dx E' M' xx
    | bad => rw [z] at post'; exact post'
  refine wpAny_mono (ht.run [] s1 (L2.start N vs) H _ I (hq f h H _ _ M (sg_env rs) _ hS)) (fun fl s' hs => ?_) fun e s' hs => hs
  cases fl with
  | ret u =>
    obtain ⟨v, σ', H', J, rv', q⟩ := hs
    exact ⟨v, H', J.os, J.bare, J.base, J.hok, rv', q⟩
  | next =>
    obtain ⟨σ', H', J, q⟩ := hs
    exact ⟨.non, H', J.os, J.bare, J.base, J.hok, rfl, q⟩
  | brk => obtain ⟨_, _, _, q⟩ := hs; exact False.elim q
  | cont => obtain ⟨_, _, _, q⟩ := hs; exact False.elim q
end
/-! ### calls -/
section
variable {X : Cx} {at_ : Cl} {W : WX} {k : Nat} {g : Addr} {fd : FuncData} {ps : List Str} {F : List D → Hh → R D} {x : Str} {p pos apos : Pos} {e : Expr} {es : List Expr} {as : As} {ds : List Value} {dvs : List D}
theorem run_fnS' {pins : List (Addr × Obj)} {σ : L2.St} {H : Hp} {s : Shared} {Q : VK} {us : List Value} {vs : List V} {f : Fm} {h : Hh} {xs : List D} (G : FnS X.prog X.w X.K X.mg X.base at_ k g fd ps F) (hr : Rm X k) (hb : Binds X.K fd ps []) (tk : Takes X W)
    (I : Inv X pins σ H s) (r : Vals vs us) (M : Sm X.KW at_ f h H) (rs : RVs X.KW f h.length H xs vs) (post : Post X.KW at_ W (relV X.KW) h.length f H σ (F xs h) Q) : wpAny (model X.prog X.w) X.A (call (.ref g) us) (EP X pins σ Q) X.xe s := by
  have hl : xs.length = ps.length := Decidable.byContradiction fun z => by
    rw [G.len xs h z] at post
    exact post
  have hul : us.length = ps.length := by rw [← r.length, ← rs.length]; exact hl
  have bt := hb s us I.kIn (by rw [List.append_nil]; exact hul)
  rw [List.append_nil] at bt
  have post' : Post X.KW at_ (fun c d _ H => WE W σ c d H) (relV X.KW) h.length f H [] (F xs h) Q := by
    cases z : F xs h with
    | ok a h' => rw [z] at post; exact post
    | exc c fs h' => rw [z] at post; exact post
    | bad => rw [z] at post; exact post
  refine wpAny_call (codeAny_mono (G.run X.A X.stack s H ⟨us, []⟩ us vs Q (WE W σ) f h xs hr.room hr.gd I.env0 bt r M rs post') fun fl s' hq => ?_)
  cases fl with
  | error ex => exact passAt tk σ pins H s ex s' I hq
  | ok fl =>
    cases fl with
    | ret u => exact I.after hq
    | next => exact False.elim hq
    | brk => exact False.elim hq
    | cont => exact False.elim hq
/-- the reading of a call: what the arguments come to, then what the def comes to -/
def tFn (K : KW) (at_ : Cl) (W : WX) (F : List D → Hh → R D) (ta : TA) : TE := fun σ H Q => ta σ H fun vs H1 => ∃ (f : Fm) (h : Hh) (xs : List D), Sm K at_ f h H1 ∧ RVs K f h.length H1 xs vs ∧ Post K at_ W (relV K) h.length f H1 σ (F xs h) Q
theorem tFn_snd {K : KW} {ta : TA} (q1 : Snd K at_ W (relA K) ta as) : Snd K at_ W (relV K) (tFn K at_ W F ta) (eF F as) := fun f h H S σ M e0 Q P =>
  q1 f h H S σ M e0 _ (Post.step P fun xs h1 f1 H1 vs E1 M1 r1 P1 => ⟨f1, h1, xs, M1, r1, P1⟩)
theorem se_call (G : FnS X.prog X.w X.K X.mg X.base at_ k g fd ps F) (hr : Rm X k) (hm : X.mg x = some (.ref g)) (hk : PySem.W.keepIn X.K (.ref g) = true) (hb : Binds X.K fd ps []) (tk : Takes X W) (ha : SA X at_ W (e :: es) as)
    (hg : Gl X x := by rfl) (hdb : (x == ("__debug__" : Str)) = false := by decide)
    (he : starEach (e :: es) X.env = (false, eval e X.env) :: starEach es X.env := by rfl) (hpl : (backTo pos (starEach es X.env)).any (·.1) = false := by rfl) : SE X at_ W (.Call (.Name x p) (e :: es) [] pos) (eF F as) := by
  obtain ⟨t1, p1, q1⟩ := ha.ex
  refine ⟨⟨tFn X.KW at_ W F t1, ⟨fun pins s σ H Q I hq => ?_⟩, tFn_snd q1⟩⟩
  refine wpAny_Call_Name_kw (ld_glob I hg hm ?_ hdb)
  refine PySem.W.callWith_K (h₀ := X.base) I.ok.mod.kin hk (thn (p1.run pos pins s σ H _ I hq) fun us s1 hh => ?_) he hpl
  obtain ⟨vs, H1, I1, r, f, h, xs, M, rs, post⟩ := hh
  exact ⟨I1.kIn, run_fnS' G hr hb tk I1 r M rs post⟩
theorem se_call0 (G : FnS X.prog X.w X.K X.mg X.base at_ k g fd ps F) (hr : Rm X k) (hm : X.mg x = some (.ref g)) (hk : PySem.W.keepIn X.K (.ref g) = true) (hb : Binds X.K fd ps []) (tk : Takes X W)
    (hg : Gl X x := by rfl) (hdb : (x == ("__debug__" : Str)) = false := by decide) : SE X at_ W (.Call (.Name x p) [] [] pos) (eF F aN) :=
  ⟨⟨tFn X.KW at_ W F tNil, ⟨fun pins s σ H Q I hh => by
    obtain ⟨f, h, xs, M, rs, post⟩ := hh
    exact wpAny_Call_Name_kw (ld_glob I hg hm (PySem.W.callWith_K0 I.kIn hk (run_fnS' (us := []) G hr hb tk I .nil M rs post)) hdb)⟩, tFn_snd fun f h H S σ M e Q P => P.ok M .nil⟩⟩
end
end PV
set_option Elab.async false
set_option linter.all false
set_option autoImplicit false
set_option maxRecDepth 100000
set_option maxHeartbeats 2000000
/-! PVO: operators keep to what the mirror says. -/
namespace PV
open PySem PySem.Spec PyProof.Rows L2
section
variable {X : Cx} {at_ : Cl}
/-- an operation on two ints -/
theorem o2_int {o : Value → Value → Sem Value} {C : Int → Int → Prop} [∀ i j, Decidable (C i j)] {v : Int → Int → V} {d : Int → Int → D} {g : D → D → Hh → R D} (h : OpR X o (rI C v)) (hv : ∀ i j f n H, RV X.KW f n H (d i j) (v i j))
    (hg : ∀ i j h, g (.int i) (.int j) h = if C i j then .ok (d i j) h else .bad) (hb : ∀ x y h, (∀ i j, ¬ (x = .int i ∧ y = .int j)) → g x y h = .bad) : O2 X at_ o g := by
  refine ⟨⟨_, h, fun W f h H σ dx dy x y M rx ry Q P => ?_⟩⟩
  by_cases hxy : ∃ i j, dx = .int i ∧ dy = .int j
  · obtain ⟨i, j, rfl, rfl⟩ := hxy
    cases rx
    cases ry
    rw [hg] at P
    by_cases c : C i j
    · rw [if_pos c] at P
      exact ⟨i, j, rfl, rfl, c, P.ok M (hv i j _ _ _)⟩
    · rw [if_neg c] at P; exact False.elim P
  · rw [hb dx dy h fun i j z => hxy ⟨i, j, z⟩] at P
    exact False.elim P
theorem o2_int0 {o : Value → Value → Sem Value} {v : Int → Int → V} {d : Int → Int → D} {g : D → D → Hh → R D} (h : OpR X o (rI0 v)) (hv : ∀ i j f n H, RV X.KW f n H (d i j) (v i j))
    (hg : ∀ i j h, g (.int i) (.int j) h = .ok (d i j) h) (hb : ∀ x y h, (∀ i j, ¬ (x = .int i ∧ y = .int j)) → g x y h = .bad) : O2 X at_ o g := by
  refine ⟨⟨_, h, fun W f h H σ dx dy x y M rx ry Q P => ?_⟩⟩
  by_cases hxy : ∃ i j, dx = .int i ∧ dy = .int j
  · obtain ⟨i, j, rfl, rfl⟩ := hxy
    cases rx
    cases ry
    rw [hg] at P
    exact ⟨i, j, rfl, rfl, P.ok M (hv i j _ _ _)⟩
  · rw [hb dx dy h fun i j z => hxy ⟨i, j, z⟩] at P
    exact False.elim P
instance {i j : Int} : Decidable (CMul i j) := inferInstanceAs (Decidable ((-(2 ^ 64) < i ∧ i < 2 ^ 64) ∨ (-(2 ^ 64) < j ∧ j < 2 ^ 64)))
instance {i j : Int} : Decidable (CDiv i j) := inferInstanceAs (Decidable (0 < j ∧ j < 1073741824))
instance {i j : Int} : Decidable (CPow i j) := inferInstanceAs (Decidable (0 ≤ j ∧ j ≤ 1000000 ∧ i.natAbs < 2 ^ 64))
theorem o2_sub : O2 X at_ (binaryOp .Sub) subD := o2_int0 op_sub (fun i j _ _ _ => .int _) (fun _ _ _ => rfl) (fun x y h z => by unfold subD; split <;> first | rfl | exact absurd ⟨rfl, rfl⟩ (z _ _))
theorem o2_fdiv : O2 X at_ (binaryOp .FloorDiv) fdivD := o2_int (C := CDiv) op_fdiv (fun i j _ _ _ => .int _) (fun i j h => rfl) (fun x y h z => by unfold fdivD; split <;> first | rfl | exact absurd ⟨rfl, rfl⟩ (z _ _))
theorem o2_mod : O2 X at_ (binaryOp .Mod) modD := o2_int (C := fun _ j => 0 < j) op_mod (fun i j _ _ _ => .int _) (fun i j h => rfl) (fun x y h z => by unfold modD; split <;> first | rfl | exact absurd ⟨rfl, rfl⟩ (z _ _))
theorem o2_pow : O2 X at_ (binaryOp .Pow) powD := o2_int (C := CPow) op_pow (fun i j _ _ _ => .int _) (fun i j h => rfl) (fun x y h z => by unfold powD; split <;> first | rfl | exact absurd ⟨rfl, rfl⟩ (z _ _))
theorem o2_shl : O2 X at_ (binaryOp .LShift) shlD := o2_int (C := CPow) op_shl (fun i j _ _ _ => .int _) (fun i j h => rfl) (fun x y h z => by unfold shlD; split <;> first | rfl | exact absurd ⟨rfl, rfl⟩ (z _ _))
theorem o2_shr : O2 X at_ (binaryOp .RShift) shrD := o2_int (C := fun _ j => 0 ≤ j) op_shr (fun i j _ _ _ => .int _) (fun i j h => rfl) (fun x y h z => by unfold shrD; split <;> first | rfl | exact absurd ⟨rfl, rfl⟩ (z _ _))
theorem o2_band : O2 X at_ (binaryOp .BitAnd) andD := o2_int0 op_and (fun i j _ _ _ => .int _) (fun _ _ _ => rfl) (fun x y h z => by unfold andD; split <;> first | rfl | exact absurd ⟨rfl, rfl⟩ (z _ _))
theorem o2_bor : O2 X at_ (binaryOp .BitOr) orD := o2_int0 op_or (fun i j _ _ _ => .int _) (fun _ _ _ => rfl) (fun x y h z => by unfold orD; split <;> first | rfl | exact absurd ⟨rfl, rfl⟩ (z _ _))
theorem o2_bxor : O2 X at_ (binaryOp .BitXor) xorD := o2_int0 op_xor (fun i j _ _ _ => .int _) (fun _ _ _ => rfl) (fun x y h z => by unfold xorD; split <;> first | rfl | exact absurd ⟨rfl, rfl⟩ (z _ _))
theorem o2_lt : O2 X at_ (compareOp .Lt) ltD := o2_int0 op_lt (fun i j _ _ _ => .bl _) (fun _ _ _ => rfl) (fun x y h z => by unfold ltD; split <;> first | rfl | exact absurd ⟨rfl, rfl⟩ (z _ _))
theorem o2_le : O2 X at_ (compareOp .LtE) leD := o2_int0 op_le (fun i j _ _ _ => .bl _) (fun _ _ _ => rfl) (fun x y h z => by unfold leD; split <;> first | rfl | exact absurd ⟨rfl, rfl⟩ (z _ _))
theorem o2_gt : O2 X at_ (compareOp .Gt) gtD := o2_int0 op_gt (fun i j _ _ _ => .bl _) (fun _ _ _ => rfl) (fun x y h z => by unfold gtD; split <;> first | rfl | exact absurd ⟨rfl, rfl⟩ (z _ _))
theorem o2_ge : O2 X at_ (compareOp .GtE) geD := o2_int0 op_ge (fun i j _ _ _ => .bl _) (fun _ _ _ => rfl) (fun x y h z => by unfold geD; split <;> first | rfl | exact absurd ⟨rfl, rfl⟩ (z _ _))
/-! ### + -/
theorem app_nil {α : Type} {xs : List α} (h : ¬ xs ≠ []) : xs = [] := Decidable.byContradiction fun z => h (by intro q; exact z q)
theorem o1_neg : O1 X at_ (unaryOp .USub) negD := ⟨⟨_, un_neg, fun W f h H σ dx x M rx Q P => by
  cases rx with
  | int i => exact ⟨i, rfl, P.ok M (.int _)⟩
  | _ => exact False.elim P⟩⟩
/-! ### is None -/
theorem o2_isN : O2 X at_ (compareOp .Is) isNonD := ⟨⟨_, op_isN, fun W f h H σ dx dy x y M rx ry Q P => by
  cases ry with
  | non =>
    refine ⟨rfl, ?_⟩
    cases rx with
    | non => exact P.ok M (.bl _)
    | _ => exact P.ok M (.bl _)
  | _ => cases dx <;> exact False.elim P⟩⟩
theorem o2_notN : O2 X at_ (compareOp .IsNot) isNotNonD := ⟨⟨_, op_notN, fun W f h H σ dx dy x y M rx ry Q P => by
  cases ry with
  | non =>
    refine ⟨rfl, ?_⟩
    cases rx with
    | non => exact P.ok M (.bl _)
    | _ => exact P.ok M (.bl _)
  | _ => cases dx <;> exact False.elim P⟩⟩
/-! ### == of data -/
mutual
theorem RV.dp {K : KW} {f : Fm} {n : Nat} {H : Hp} : ∀ {d : D} {v : V} {p : PyData}, RV K f n H d v → d.py = some p → Dp K H v p
  | _, _, _, .non, e => by cases e; exact .non
  | _, _, _, .bl b, e => by cases e; exact .bl b
  | _, _, _, .int i, e => by cases e; exact .int i
  | _, _, _, .str x, e => by cases e; exact .str x
  | _, _, _, .tup t s, e => by
    unfold D.py at e
    obtain ⟨ps, h1, h2⟩ := Option.map_eq_some_iff.mp e
    subst h2
    exact .tup t (RVs.dp s h1)
  | _, _, _, .fz t s, e => by
    unfold D.py at e
    obtain ⟨ps, h1, h2⟩ := Option.map_eq_some_iff.mp e
    subst h2
    exact .lst (.inl (.inr ⟨_, t⟩)) (RVs.dp s h1)
  | _, _, _, .fd _ _ _ _ _ _ _, e => by cases e
  | _, _, _, .fi _ _ _ _, e => by cases e
  | _, _, _, .ref hi, e => by cases e
theorem RVs.dp {K : KW} {f : Fm} {n : Nat} {H : Hp} : ∀ {ds : List D} {vs : List V} {ps : List PyData}, RVs K f n H ds vs → D.pys ds = some ps → DpAll K H vs ps
  | _, _, _, .nil, e => by cases e; exact .nil
  | _, _, _, .cons (d := d) (ds := ds) h t, e => by
    unfold D.pys at e
    cases h1 : d.py with
    | none => rw [h1] at e; cases e
    | some p =>
      cases h2 : D.pys ds with
      | none => rw [h1, h2] at e; cases e
      | some ps => rw [h1, h2] at e; cases e; exact .cons (RV.dp h h1) (RVs.dp t h2)
end
theorem dp_H {f : Fm} {h : Hh} {H : Hp} {d : D} {v : V} {p : PyData} (M : Sm X.KW at_ f h H) (r : RV X.KW f h.length H d v) (e : pyH h d = some p) : Dp X.K H v p := by
  cases r with
  | ref hi =>
    rename_i k
    have e : (match h[k]? with
      | some (.lst xs) => (D.pys xs).map PyData.list
      | _ => none) = some p := e
    cases z : h[k]? with
    | none => rw [z] at e; cases e
    | some o =>
      cases o with
      | lst xs =>
        rw [z] at e
        obtain ⟨ps, h1, h2⟩ := Option.map_eq_some_iff.mp e
        subst h2
        obtain ⟨vs, k1, k2⟩ := M.obj k _ z
        exact .lst (.inl (.inl k1)) (k2.dp h1)
      | _ => rw [z] at e; cases e
  | non => exact RV.dp (K := X.KW) (H := H) (f := f) (n := h.length) .non e
  | bl b => exact RV.dp (K := X.KW) (H := H) (f := f) (n := h.length) (.bl b) e
  | int i => exact RV.dp (K := X.KW) (H := H) (f := f) (n := h.length) (.int i) e
  | str x => exact RV.dp (K := X.KW) (H := H) (f := f) (n := h.length) (.str x) e
  | tup t s => exact RV.dp (.tup t s) e
  | fz t s => exact RV.dp (.fz t s) e
  | fd t r s e1 e2 e3 e4 => exact RV.dp (.fd t r s e1 e2 e3 e4) e
  | fi t e1 e2 s => exact RV.dp (.fi t e1 e2 s) e
theorem o2_eq {k : Nat} (hr : Rm X k) : O2 X at_ (compareOp .Eq) eqD := ⟨⟨_, op_eqD hr.room.units, fun W f h H σ dx dy x y M rx ry Q P => by
  unfold eqD at P
  cases e1 : pyH h dx with
  | none => rw [e1] at P; exact False.elim P
  | some p =>
    cases e2 : pyH h dy with
    | none => rw [e1, e2] at P; exact False.elim P
    | some q =>
      rw [e1, e2] at P
      dsimp only at P
      split at P
      · rename_i c
        exact ⟨p, q, dp_H M rx e1, dp_H M ry e2, c.1, c.2, P.ok M (.bl _)⟩
      · exact False.elim P⟩⟩
theorem o2_ne {k : Nat} (hr : Rm X k) : O2 X at_ (compareOp .NotEq) neD := ⟨⟨_, op_neD hr.room.units, fun W f h H σ dx dy x y M rx ry Q P => by
  unfold neD at P
  cases e1 : pyH h dx with
  | none => rw [e1] at P; exact False.elim P
  | some p =>
    cases e2 : pyH h dy with
    | none => rw [e1, e2] at P; exact False.elim P
    | some q =>
      rw [e1, e2] at P
      dsimp only at P
      split at P
      · rename_i c
        exact ⟨p, q, dp_H M rx e1, dp_H M ry e2, c.1, c.2, P.ok M (.bl _)⟩
      · exact False.elim P⟩⟩
/-! ### places -/
theorem atI_rel {f : Fm} {n : Nat} {H : Hp} {ds : List D} {vs : List V} {i : Int} {d : D} (r : RVs X.KW f n H ds vs) (e : atI ds i = some d) : ∃ v, atI vs i = some v ∧ RV X.KW f n H d v := by
  unfold atI at e ⊢
  rw [← r.length]
  cases z : ixN ds.length i with
  | none => rw [z] at e; cases e
  | some j =>
    rw [z] at e
    exact r.get e
variable {W : WX} {a b c : Expr} {ma mb mc : Ex} {pos : Pos}
theorem ix_post {f2 : Fm} {h2 : Hh} {H2 : Hp} {σ : L2.St} {x y : D} {v1 v2 : V} {Q : VK} (M2 : Sm X.KW at_ f2 h2 H2) (r1 : RV X.KW f2 h2.length H2 x v1) (r2 : RV X.KW f2 h2.length H2 y v2) (P2 : Post X.KW at_ W (relV X.KW) h2.length f2 H2 σ (ixD x y h2) Q) :
    rIxL X.K v1 v2 H2 Q ∨ rIxT X.K v1 v2 H2 Q ∨ rIxS v1 v2 H2 Q := by
  cases r2 with
  | int i =>
    cases r1 with
    | tup ht hs =>
      rename_i p ds vs
      have P2 : Post X.KW at_ W (relV X.KW) h2.length f2 H2 σ (match atI ds i with
        | some d => .ok d h2
        | none => .bad) Q := P2
      cases z : atI ds i with
      | none => rw [z] at P2; exact False.elim P2
      | some d =>
        rw [z] at P2
        obtain ⟨v, k1, k2⟩ := atI_rel hs z
        exact .inr (.inl ⟨p, vs, i, v, rfl, rfl, ht, k1, P2.ok M2 k2⟩)
    | fz ht hs =>
      rename_i p o ds vs
      have P2 : Post X.KW at_ W (relV X.KW) h2.length f2 H2 σ (match atI ds i with
        | some d => .ok d h2
        | none => .bad) Q := P2
      cases z : atI ds i with
      | none => rw [z] at P2; exact False.elim P2
      | some d =>
        rw [z] at P2
        obtain ⟨v, k1, k2⟩ := atI_rel hs z
        exact .inl ⟨p, vs, i, v, rfl, rfl, .inl (.inr ⟨_, ht⟩), k1, P2.ok M2 k2⟩
    | str s =>
      have P2 : Post X.KW at_ W (relV X.KW) h2.length f2 H2 σ (if s.length ≤ big then match atI s.cps.toList i with
        | some c => .ok (.str ⟨#[c]⟩) h2
        | none => .bad
      else .bad) Q := P2
      by_cases c : s.length ≤ big
      · rw [if_pos c] at P2
        cases z : atI s.cps.toList i with
        | none => rw [z] at P2; exact False.elim P2
        | some d =>
          rw [z] at P2
          exact .inr (.inr ⟨s, i, d, rfl, rfl, big_line.mp c, z, P2.ok M2 (.str _)⟩)
      · rw [if_neg c] at P2; exact False.elim P2
    | ref hi =>
      rename_i k
      have P2 : Post X.KW at_ W (relV X.KW) h2.length f2 H2 σ (match h2[k]? with
        | some (.lst xs) => match atI xs i with
          | some d => .ok d h2
          | none => .bad
        | _ => .bad) Q := P2
      cases z : h2[k]? with
      | none => rw [z] at P2; exact False.elim P2
      | some o =>
        cases o with
        | lst xs =>
          rw [z] at P2
          dsimp only at P2
          obtain ⟨vs, k1, k2⟩ := M2.obj k _ z
          cases z2 : atI xs i with
          | none => rw [z2] at P2; exact False.elim P2
          | some d =>
            rw [z2] at P2
            obtain ⟨v, k3, k4⟩ := atI_rel k2 z2
            exact .inl ⟨f2 k, vs, i, v, rfl, rfl, SqL.of k1, k3, P2.ok M2 k4⟩
        | _ => rw [z] at P2; exact False.elim P2
    | _ => exact False.elim P2
  | _ => cases x <;> exact False.elim P2
theorem se_ix (ha : SE X at_ W a ma) (hb : SE X at_ W b mb) (hs : PlainIx b := by exact fun _ _ => rfl) : SE X at_ W (.Subscript a b pos) (e2 ixD ma mb) := by
  obtain ⟨t1, p1, q1⟩ := ha.ex
  obtain ⟨t2, p2, q2⟩ := hb.ex
  refine ⟨⟨_, pe_ix ix_seq p1 p2 hs, fun f h H S σ M e Q P => ?_⟩⟩
  refine q1 f h H S σ M e _ (Post.step P fun x h1 f1 H1 v1 E1 M1 r1 P1 => ?_)
  refine q2 f1 h1 H1 S σ M1 (e.ext M E1) _ (Post.step P1 fun y h2 f2 H2 v2 E2 M2 r2 P2 => ?_)
  exact ix_post M2 (r1.ext M1 E2) r2 P2
end
end PV
set_option Elab.async false
set_option linter.all false
set_option autoImplicit false
set_option maxRecDepth 100000
set_option maxHeartbeats 2000000
/-! PVB: stores, slices, built-in functions. -/
namespace PV
open PySem PySem.Spec PyProof.Rows L2
/-- a store o[i] = v -/
structure OS (X : Cx) (at_ : Cl) (g : D → D → D → Hh → R Unit) : Prop where
  ex : ∃ t : TSet, PSet X t ∧ ∀ (W : WX) (f : Fm) (h : Hh) (H : Hp) (σ : L2.St) (o i v : D) (ov iv vv : V), Sm X.KW at_ f h H → RV X.KW f h.length H o ov → RV X.KW f h.length H i iv → RV X.KW f h.length H v vv →
    ∀ Q : Hp → Prop, Post X.KW at_ W (relU (β := Unit)) h.length f H σ (g o i v h) (fun _ => Q) → t ov iv vv H Q
/-- a built-in call with a new list -/
structure OF (X : Cx) (at_ : Cl) (B : Value) (g : List D → Hh → R D) : Prop where
  ex : ∃ r : List V → Hp → VK → Prop, CallR X B r ∧ ∀ (W : WX) (f : Fm) (h : Hh) (H : Hp) (σ : L2.St) (ds : List D) (a : Addr) (vs : List V), Sm X.KW at_ f h H → H a = some (.lst vs) → (∀ i, i < h.length → f i ≠ a) → RVs X.KW f h.length H ds vs →
    ∀ Q : VK, Post X.KW at_ W (relV X.KW) h.length f H σ (g ds h) Q → r [.ref a] H Q
/-- .. with a row -/
structure OU (X : Cx) (at_ : Cl) (B : Value) (g : List D → Hh → R D) : Prop where
  ex : ∃ r : List V → Hp → VK → Prop, CallR X B r ∧ ∀ (W : WX) (f : Fm) (h : Hh) (H : Hp) (σ : L2.St) (p : Lv) (a : Addr), Sm X.KW at_ f h H → LV X.KW f h.length H p a →
    ∀ Q : VK, Post X.KW at_ W (relV X.KW) h.length f H σ (g p.1 h) Q → r [.ref a] H Q
section
variable {X : Cx} {at_ : Cl} {W : WX} {a b c o e : Expr} {ma mb mc : Ex} {es : List Expr} {as : As} {pos p apos cpos : Pos} {la : Ls} {lf : As} {x : Str} {id T : String} {g : List D → Hh → R D}
theorem ss_sub {g : D → D → D → Hh → R Unit} {p' : Pos} (hc : SE X at_ W c mc) (ho : SE X at_ W a ma) (hi : SE X at_ W b mb) (st : OS X at_ g)
    (hass : ∀ v, assign (.Subscript a b p') X.env v = (do
      let ov ← holding [v] (eval a X.env)
      let iv ← holding [v, ov] (eval b X.env)
      standAt p'
      holding [v, ov, iv] (setItem ov iv v)
      release [v, ov, iv] []) := by intro _; rfl) (hs : swapsWithSole [.Subscript a b p'] c pos.line X.env = pure false := by rfl) (hw : swappedStores [.Subscript a b p'] c X.env = pure none := by rfl)
    (h1 : (assignEach [.Subscript a b p'] X.env).map (·.2) = [assign (.Subscript a b p') X.env] := by rfl) : SS X at_ W (.Assign [.Subscript a b p'] c pos) (sSub g ma mb mc) := by
  obtain ⟨t0, p0, q0⟩ := hc.ex
  obtain ⟨t1, p1, q1⟩ := ho.ex
  obtain ⟨t2, p2, q2⟩ := hi.ex
  obtain ⟨t, ht, hq⟩ := st.ex
  refine ⟨⟨_, ps_asg p0 (pg_sub p1 p2 ht hass) hs hw h1, fun f h H S σ M e D P => ?_⟩⟩
  refine q0 f h H S σ M e _ (PostS.into P M e fun z h1 f1 H1 v1 E1 M1 e1 r1 P1 => ?_)
  refine q1 f1 h1 H1 S σ M1 e1 _ (PostS.into P1 M1 e1 fun y h2 f2 H2 v2 E2 M2 e2 r2 P2 => ?_)
  refine q2 f2 h2 H2 S σ M2 e2 _ (PostS.into P2 M2 e2 fun w h3 f3 H3 v3 E3 M3 e3 r3 P3 => ?_)
  refine hq W f3 h3 H3 σ y w z v2 v3 v1 M3 (r2.ext M2 E3) r3 ((r1.ext M1 E2).ext M2 E3) _ (PostS.into (rel2 := relU (β := Unit)) P3 M3 e3 fun _ h4 f4 H4 _ E4 M4 e4 _ P4 => ?_)
  exact P4 f4 H4 σ Ext.refl M4 e4
theorem set_post {f : Fm} {h : Hh} {H : Hp} {σ : L2.St} {o i v : D} {ov iv vv : V} {Q : Hp → Prop} (M : Sm X.KW at_ f h H) (ro : RV X.KW f h.length H o ov) (ri : RV X.KW f h.length H i iv) (rv : RV X.KW f h.length H v vv)
    (P : Post X.KW at_ W (relU (β := Unit)) h.length f H σ (setD o i v h) (fun _ => Q)) : rSetL ov iv vv H Q := by
  cases ro with
  | ref hk =>
    rename_i k
    cases ri with
    | int j =>
      have P : Post X.KW at_ W (relU (β := Unit)) h.length f H σ (match h[k]? with
        | some (.lst xs) => match ixN xs.length j with
          | some m => .ok () (h.set k (.lst (xs.set m v)))
          | none => .bad
        | _ => .bad) (fun _ => Q) := P
      cases z : h[k]? with
      | none => rw [z] at P; exact False.elim P
      | some u =>
        cases u with
        | lst xs =>
          rw [z] at P
          dsimp only at P
          obtain ⟨vs, k1, k2⟩ := M.obj k _ z
          cases z2 : ixN xs.length j with
          | none => rw [z2] at P; exact False.elim P
          | some m =>
            rw [z2] at P
            refine ⟨f k, vs, j, m, rfl, rfl, k1, by rw [← k2.length]; exact z2, ?_⟩
            refine P _ _ () (by rw [List.length_set]; exact Ext.write hk) (M.write hk ⟨_, upd_same, ?_⟩) trivial
            exact (k2.keep (Nat.le_refl _) (fun _ _ => rfl) (M.fixW hk)).set (i := m) (rv.keep (Nat.le_refl _) (fun _ _ => rfl) (M.fixW hk)) m
        | _ => rw [z] at P; exact False.elim P
    | _ => exact False.elim P
  | _ => exact False.elim P
theorem os_list : OS X at_ setD := ⟨⟨_, set_list, fun W f h H σ o i v ov iv vv M ro ri rv Q P => set_post M ro ri rv P⟩⟩
/-! ### built-in functions -/
theorem se_callB (hc : OC X at_ (.builtin id) g) (hm : X.mg x = none) (hv : bootBuiltins x = some (.builtin id)) (ha : SA X at_ W (e :: es) as) (hg : Gl X x := by rfl) (hn : x ≠ "__name__" := by decide) (hdb : (x == ("__debug__" : Str)) = false := by decide)
    (he : starEach (e :: es) X.env = (false, eval e X.env) :: starEach es X.env := by rfl) (hpl : (backTo pos (starEach es X.env)).any (·.1) = false := by rfl) : SE X at_ W (.Call (.Name x p) (e :: es) [] pos) (eF g as) := by
  obtain ⟨r, hr, hq⟩ := hc.ex
  obtain ⟨t1, p1, q1⟩ := ha.ex
  refine ⟨⟨_, pe_callB hr hg hm hv p1 hn hdb he hpl, fun f h H S σ M e0 Q P => ?_⟩⟩
  exact q1 f h H S σ M e0 _ (Post.step P fun xs h1 f1 H1 vs E1 M1 r1 P1 => hq W f1 h1 H1 σ xs vs M1 r1 Q P1)
theorem se_callTy (hc : OC X at_ (.type T) g) (hm : X.mg x = none) (hv : bootBuiltins x = some (.type T)) (ha : SA X at_ W (e :: es) as) (hg : Gl X x := by rfl) (hn : x ≠ "__name__" := by decide) (hdb : (x == ("__debug__" : Str)) = false := by decide)
    (he : starEach (e :: es) X.env = (false, eval e X.env) :: starEach es X.env := by rfl) (hpl : (backTo pos (starEach es X.env)).any (·.1) = false := by rfl) : SE X at_ W (.Call (.Name x p) (e :: es) [] pos) (eF g as) := by
  obtain ⟨r, hr, hq⟩ := hc.ex
  obtain ⟨t1, p1, q1⟩ := ha.ex
  refine ⟨⟨_, pe_callTy hr hg hm hv p1 hn hdb he hpl, fun f h H S σ M e0 Q P => ?_⟩⟩
  exact q1 f h H S σ M e0 _ (Post.step P fun xs h1 f1 H1 vs E1 M1 r1 P1 => hq W f1 h1 H1 σ xs vs M1 r1 Q P1)
/-- of a new list -/
theorem se_callFB (hc : OF X at_ (.builtin id) g) (hm : X.mg x = none) (hv : bootBuiltins x = some (.builtin id)) (ha : SF X at_ W e lf) (hg : Gl X x := by rfl) (hn : x ≠ "__name__" := by decide) (hdb : (x == ("__debug__" : Str)) = false := by decide)
    (he : starEach (e :: []) X.env = (false, eval e X.env) :: starEach [] X.env := by rfl) (hpl : (backTo pos (starEach [] X.env)).any (·.1) = false := by rfl) : SE X at_ W (.Call (.Name x p) [e] [] pos) (eUF g lf) := by
  obtain ⟨r, hr, hq⟩ := hc.ex
  obtain ⟨t1, p1, q1⟩ := ha.ex
  refine ⟨⟨_, pe_callB hr hg hm hv (pa_cons p1 pa_nil he) hn hdb he hpl, fun f h H S σ M e0 Q P => ?_⟩⟩
  refine q1 f h H S σ M e0 _ (Post.step (rel2 := relF X.KW) P fun xs h1 f1 H1 v E1 M1 r1 P1 => ?_)
  obtain ⟨q, vs, rfl, h0, hq', hn', rv⟩ := r1
  exact hq W f1 h1 H1 σ xs q vs M1 hq' hn' rv Q P1
theorem se_callFTy (hc : OF X at_ (.type T) g) (hm : X.mg x = none) (hv : bootBuiltins x = some (.type T)) (ha : SF X at_ W e lf) (hg : Gl X x := by rfl) (hn : x ≠ "__name__" := by decide) (hdb : (x == ("__debug__" : Str)) = false := by decide)
    (he : starEach (e :: []) X.env = (false, eval e X.env) :: starEach [] X.env := by rfl) (hpl : (backTo pos (starEach [] X.env)).any (·.1) = false := by rfl) : SE X at_ W (.Call (.Name x p) [e] [] pos) (eUF g lf) := by
  obtain ⟨r, hr, hq⟩ := hc.ex
  obtain ⟨t1, p1, q1⟩ := ha.ex
  refine ⟨⟨_, pe_callTy hr hg hm hv (pa_cons p1 pa_nil he) hn hdb he hpl, fun f h H S σ M e0 Q P => ?_⟩⟩
  refine q1 f h H S σ M e0 _ (Post.step (rel2 := relF X.KW) P fun xs h1 f1 H1 v E1 M1 r1 P1 => ?_)
  obtain ⟨q, vs, rfl, h0, hq', hn', rv⟩ := r1
  exact hq W f1 h1 H1 σ xs q vs M1 hq' hn' rv Q P1
/-- of a row -/
theorem se_callUB (hc : OU X at_ (.builtin id) g) (hm : X.mg x = none) (hv : bootBuiltins x = some (.builtin id)) (ha : SL X at_ W e la) (hg : Gl X x := by rfl) (hn : x ≠ "__name__" := by decide) (hdb : (x == ("__debug__" : Str)) = false := by decide)
    (he : starEach (e :: []) X.env = (false, eval e X.env) :: starEach [] X.env := by rfl) (hpl : (backTo pos (starEach [] X.env)).any (·.1) = false := by rfl) : SE X at_ W (.Call (.Name x p) [e] [] pos) (eU g la) := by
  obtain ⟨r, hr, hq⟩ := hc.ex
  obtain ⟨t1, p1, q1⟩ := ha.ex
  refine ⟨⟨_, pe_callB hr hg hm hv (pa_cons p1 pa_nil he) hn hdb he hpl, fun f h H S σ M e0 Q P => ?_⟩⟩
  refine q1 f h H S σ M e0 _ (Post.step (rel2 := relL X.KW) P fun xs h1 f1 H1 v E1 M1 r1 P1 => ?_)
  obtain ⟨q, rfl, lv⟩ := r1
  exact hq W f1 h1 H1 σ xs q M1 lv Q P1
theorem se_callUTy (hc : OU X at_ (.type T) g) (hm : X.mg x = none) (hv : bootBuiltins x = some (.type T)) (ha : SL X at_ W e la) (hg : Gl X x := by rfl) (hn : x ≠ "__name__" := by decide) (hdb : (x == ("__debug__" : Str)) = false := by decide)
    (he : starEach (e :: []) X.env = (false, eval e X.env) :: starEach [] X.env := by rfl) (hpl : (backTo pos (starEach [] X.env)).any (·.1) = false := by rfl) : SE X at_ W (.Call (.Name x p) [e] [] pos) (eU g la) := by
  obtain ⟨r, hr, hq⟩ := hc.ex
  obtain ⟨t1, p1, q1⟩ := ha.ex
  refine ⟨⟨_, pe_callTy hr hg hm hv (pa_cons p1 pa_nil he) hn hdb he hpl, fun f h H S σ M e0 Q P => ?_⟩⟩
  refine q1 f h H S σ M e0 _ (Post.step (rel2 := relL X.KW) P fun xs h1 f1 H1 v E1 M1 r1 P1 => ?_)
  obtain ⟨q, rfl, lv⟩ := r1
  exact hq W f1 h1 H1 σ xs q M1 lv Q P1
theorem oc_abs : OC X at_ (.builtin "abs") absD := ⟨⟨_, call_abs, fun W f h H σ ds vs M rs Q P => by
  cases rs with
  | nil => exact False.elim P
  | cons r rs =>
    cases rs with
    | nil =>
      cases r with
      | int i => exact ⟨i, rfl, P.ok M (.int _)⟩
      | _ => exact False.elim P
    | cons _ _ => cases r <;> exact False.elim P⟩⟩
theorem oc_int : OC X at_ (.type "int") intD := ⟨⟨_, call_int1, fun W f h H σ ds vs M rs Q P => by
  cases rs with
  | nil => exact False.elim P
  | cons r rs =>
    cases rs with
    | nil =>
      cases r with
      | int i => exact .inl ⟨i, rfl, P.ok M (.int _)⟩
      | bl k => exact .inr ⟨k, rfl, P.ok M (.int _)⟩
      | _ => exact False.elim P
    | cons _ _ => cases r <;> exact False.elim P⟩⟩
theorem intsI_vals {K : KW} {f : Fm} {n : Nat} {H : Hp} : ∀ {ds : List D} {vs : List V} {ns : List Int}, RVs K f n H ds vs → intsI ds = some ns → vs = ns.map V.int
  | _, _, _, .nil, e => by cases e; rfl
  | _, _, _, .cons (d := d) (ds := ds) r t, e => by
    cases r with
    | int i =>
      rw [intsI] at e
      obtain ⟨ms, h1, h2⟩ := Option.map_eq_some_iff.mp e
      subst h2
      rw [List.map_cons, intsI_vals t h1]
    | _ => cases e
theorem boolsD_vals {K : KW} {f : Fm} {n : Nat} {H : Hp} : ∀ {ds : List D} {vs : List V} {bs : List Bool}, RVs K f n H ds vs → boolsD ds = some bs → vs = bs.map V.bl
  | _, _, _, .nil, e => by cases e; rfl
  | _, _, _, .cons (d := d) (ds := ds) r t, e => by
    cases r with
    | bl i =>
      rw [boolsD] at e
      obtain ⟨ms, h1, h2⟩ := Option.map_eq_some_iff.mp e
      subst h2
      rw [List.map_cons, boolsD_vals t h1]
    | _ => cases e
theorem of_sum (hc : X.calm = true) : OF X at_ (.builtin "sum") sumL := ⟨⟨_, cr_sum hc, fun W f h H σ ds a vs M ha hn rs Q P => by
  unfold sumL at P
  cases z : intsI ds with
  | none => rw [z] at P; exact False.elim P
  | some ns =>
    rw [z] at P
    have e := intsI_vals rs z
    subst e
    exact ⟨a, ns, rfl, SqL.of ha, P.ok M (.int _)⟩⟩⟩
theorem of_all (hc : X.calm = true) : OF X at_ (.builtin "all") allL := ⟨⟨_, cr_all hc, fun W f h H σ ds a vs M ha hn rs Q P => by
  unfold allL at P
  cases z : boolsD ds with
  | none => rw [z] at P; exact False.elim P
  | some ns =>
    rw [z] at P
    have e := boolsD_vals rs z
    subst e
    exact ⟨a, ns, rfl, SqL.of ha, P.ok M (.bl _)⟩⟩⟩
theorem of_any (hc : X.calm = true) : OF X at_ (.builtin "any") anyL := ⟨⟨_, cr_any hc, fun W f h H σ ds a vs M ha hn rs Q P => by
  unfold anyL at P
  cases z : boolsD ds with
  | none => rw [z] at P; exact False.elim P
  | some ns =>
    rw [z] at P
    have e := boolsD_vals rs z
    subst e
    exact ⟨a, ns, rfl, SqL.of ha, P.ok M (.bl _)⟩⟩⟩
theorem side_new {f : Fm} {h : Hh} {H : Hp} {q : Addr} (M : Sm X.KW at_ f h H) (hq : H q = none) : ∀ i, i < h.length → f i ≠ q := fun i hi z => by
  obtain ⟨u, hu⟩ := M.tracked hi
  rw [z, hq] at hu; cases hu
theorem of_tuple : OF X at_ (.type "tuple") tupL := ⟨⟨_, call_tuple_of, fun W f h H σ ds a vs M ha hn rs Q P => by
  refine ⟨a, vs, rfl, .inl ⟨SqL.of ha, fun l hl => ?_⟩⟩
  exact P _ _ _ (Ext.fresh hl) (M.fresh hl) (.tup (.inl (.inl upd_same)) (rs.ext M (Ext.fresh hl)))⟩⟩
theorem ou_tuple : OU X at_ (.type "tuple") tupL := ⟨⟨_, call_tuple_of, fun W f h H σ p a M lv Q P => by
  obtain ⟨vs, rs, lv⟩ := lv
  have fresh : SqL X.K H a vs → (SqL X.K H a vs ∧ ∀ l, H l = none → Q (.ref l) (upd H l (.tup vs))) := fun hl => ⟨hl, fun l hl => P _ _ _ (Ext.fresh hl) (M.fresh hl) (.tup (.inl (.inl upd_same)) (rs.ext M (Ext.fresh hl)))⟩
  refine ⟨a, vs, rfl, ?_⟩
  rcases lv with ⟨_, ht | ⟨o, hf⟩ | ⟨hl, _⟩⟩ | ⟨k, _, _, _, hl⟩
  · exact .inr ⟨ht, P.ok M (.tup ht rs)⟩
  · exact .inl (fresh (.inl (.inr ⟨o, hf⟩)))
  · exact .inl (fresh (SqL.of hl))
  · exact .inl (fresh (SqL.of hl))⟩⟩
theorem LV.sq {f : Fm} {n : Nat} {H : Hp} {p : Lv} {a : Addr} (lv : LV X.KW f n H p a) : ∃ vs, RVs X.KW f n H p.1 vs ∧ (SqL X.K H a vs ∨ SqT X.K H a vs) := by
  obtain ⟨vs, rs, lv⟩ := lv
  refine ⟨vs, rs, ?_⟩
  rcases lv with ⟨_, ht | ⟨o, hf⟩ | ⟨hl, _⟩⟩ | ⟨k, _, _, _, hl⟩
  · exact .inr ht
  · exact .inl (.inl (.inr ⟨o, hf⟩))
  · exact .inl (SqL.of hl)
  · exact .inl (SqL.of hl)
theorem ou_len : OU X at_ (.builtin "len") lenL := ⟨⟨_, call_len_seq, fun W f h H σ p a M lv Q P => by
  obtain ⟨vs, rs, hs⟩ := lv.sq
  refine ⟨a, vs, rfl, hs, ?_⟩
  rw [← rs.length]
  exact P.ok M (.int _)⟩⟩
end
/-! ### slices -/
section
variable {X : Cx} {at_ : Cl} {W : WX} {a : Expr} {ma mb : Ex} {pos p2 : Pos} {la : Ls} {lf : As} {lo hi : Option Expr} {ol oh : Os}
structure SO (X : Cx) (at_ : Cl) (W : WX) (e : Option Expr) (m : Os) : Prop where
  ex : ∃ t, PO X e t ∧ Snd X.KW at_ W (fun _ _ _ _ (a b : Option Int) => a = b) t m
instance : RelOk (fun (_ : Hp) (_ : Fm) (_ : Nat) (_ : Hp) (a b : Option Int) => a = b) := ⟨fun _ _ _ _ _ _ _ _ r => r⟩
theorem so_none : SO X at_ W none oN := ⟨⟨_, po_none, fun f h H S σ M e Q P => P.ok M rfl⟩⟩
theorem so_some (ha : SE X at_ W a ma) : SO X at_ W (some a) (oS ma) := by
  obtain ⟨t1, p1, q1⟩ := ha.ex
  refine ⟨⟨_, po_some p1, fun f h H S σ M e Q P => ?_⟩⟩
  refine q1 f h H S σ M e _ (Post.step P fun d h1 f1 H1 v1 E1 M1 r1 P1 => ?_)
  cases r1 with
  | int i => exact ⟨i, rfl, P1.ok M1 rfl⟩
  | _ => exact False.elim P1
theorem cut_rel {f : Fm} {n : Nat} {H : Hp} {ds : List D} {vs : List V} (r : RVs X.KW f n H ds vs) (l u : Option Int) : RVs X.KW f n H (cut ds l u) (cutV vs l u) := by
  unfold cut cutV
  rw [← r.length]
  exact (r.drop _).take _
end
end PV
set_option Elab.async false
set_option linter.all false
set_option autoImplicit false
set_option maxRecDepth 100000
set_option maxHeartbeats 2000000
/-! PVZ: what is new and never changed again is told by content. -/
namespace PV
open PySem PySem.Spec PyProof.Rows L2
/-- an object by content -/
def O.fz : O → D
  | .lst xs => .fz xs
  | .dic kvs => .fd (kvs.map (·.1)) (kvs.map (·.2))
  | .ins c fs => .fi c (fs.map (·.1)) (fs.map (·.2))
/-- a new list by content -/
def eZ (l : As) : Ex := fun S h => (l S h).bind fun ds h1 => .ok (.fz ds) h1
section
open Classical
/-- what a def hands back, by content if it is new -/
noncomputable def tidyZ (h : Hh) (r : R D) : R D :=
  match r with
  | .ok d h' => if tidyOk h h' then
      if d.bel h.length then .ok d (h'.take h.length)
      else match d with
        | .ref k => match h'[k]? with
          | some o => if o.bel h.length then .ok o.fz (h'.take h.length) else .ok d h'
          | none => .ok d h'
        | _ => .ok d h'
    else .ok d h'
  | .exc c fs h' => if tidyOk h h' ∧ ∀ p ∈ fs, p.2.bel h.length then .exc c fs (h'.take h.length) else .exc c fs h'
  | .bad => .bad
end
noncomputable def fnZ (n k : Nat) (m : St) : List D → Hh → R D := fun ds h => if ds.length = k then tidyZ h (runB m (sg n ds) h) else .bad

section
variable {X : Cx} {at_ : Cl} {W : WX} {pins : List (Addr × Obj)} {σ : L2.St} {H H' : Hp} {s : Shared} {f f' : Fm} {h h' : Hh} {n n' : Nat}
theorem Inv.freeze {a : Addr} {u : HO} (I : Inv X pins σ H s) (e : H a = some u) (mu : Mut (some u)) : ∃ o, Inv X pins σ (upd H a (.frz o u)) s := by
  have ho : ∃ o, s.heap.get? a = some o := by
    have x := I.hok a u e
    cases u with
    | lst xs => obtain ⟨_, _, _, _, q⟩ := x; exact ⟨_, q⟩
    | dK kvs => obtain ⟨_, _, _, _, o, _, _, q, _⟩ := x; exact ⟨_, q⟩
    | dT kvs => obtain ⟨_, _, _, _, o, _, _, q, _⟩ := x; exact ⟨_, q⟩
    | set S n => obtain ⟨o, _, _, _, q, _⟩ := x; exact ⟨_, q⟩
    | ins C dx fs => obtain ⟨_, _, _, q, _⟩ := x; exact ⟨_, q⟩
    | ext φ => obtain ⟨_, ⟨_, q⟩, _⟩ := x; exact ⟨_, q⟩
    | _ => exact False.elim mu
  obtain ⟨o, ho⟩ := ho
  have nem : ∀ b v, H b = some v → ¬ Mut (some v) → b ≠ a := fun b v q nm z => by subst z; rw [e] at q; cases q; exact nm mu
  refine ⟨o, I.un (h' := s.heap) (t' := s.toks) ⟨fun b ob q _ _ _ => q, fun b ob q _ _ _ => ⟨ob.slots, q⟩, fun b ob q n _ => by rw [upd_ne (fun z => by subst z; rw [e] at n; cases n)]; exact n, fun b ob q _ => ⟨ob, q⟩,
    fun b xs q => by rw [upd_ne (nem b _ q fun z => z)]; exact q, fun b ob u q => by rw [upd_ne (nem b _ q fun z => z)]; exact q, fun b ps q => ⟨#[], by rw [upd_ne (nem b _ q fun z => z), q]; simp⟩⟩ ?_⟩
  intro b v q
  have st : ∀ v, ObjOk X.prog X.w H s.heap b v → ObjOk X.prog X.w (upd H a (.frz o u)) s.heap b v := fun v x =>
    x.stay (fun _ _ _ q => q) (fun c q => by rw [upd_ne (nem c _ q fun z => z)]; exact q) fun c xs q => by rw [upd_ne (nem c _ q fun z => z)]; exact q
  by_cases hb : b = a
  · subst hb
    rw [upd_same] at q
    cases q
    exact ⟨ho, st u (I.hok b u e)⟩
  · rw [upd_ne hb] at q
    exact st v (I.hok b v q)
/-- behind a result: it, or what it is as a frozen thing -/
def FrzQ (Q : VK) : VK := fun v H => Q v H ∨ ∃ a u, v = .ref a ∧ H a = some u ∧ Mut (some u) ∧ ∀ o, Q v (upd H a (.frz o u))
theorem pe_frz {e : Expr} {t : TE} (h : PE X e t) : PE X e (fun σ H Q => t σ H (FrzQ Q)) := ⟨fun pins s σ H Q I q => by
  refine thn (h.run pins s σ H _ I q) fun v s1 hh => ?_
  obtain ⟨x, H1, I1, r, q1⟩ := hh
  rcases q1 with q1 | ⟨a, u, rfl, e1, mu, q1⟩
  · exact ⟨x, H1, I1, r, q1⟩
  · obtain ⟨o, I2⟩ := Inv.freeze I1 e1 mu
    exact ⟨_, _, I2, r, q1 o⟩⟩
theorem fix_off {q : Addr} {v u : HO} (hq : H q = some v) (nf : ¬ Fix v) : ∀ a o, Fix o → H a = some o → (upd H q u) a = some o := fun a o x e => by
  rw [upd_ne (fun z => by subst z; rw [hq] at e; cases e; exact nf x)]; exact e
theorem Sm.off1 {K : KW} {q : Addr} {v u : HO} (M : Sm K at_ f h H) (hq : H q = some v) (nf : ¬ Fix v) (hn : ∀ i, i < h.length → f i ≠ q) : Sm K at_ f h (upd H q u) where
  inj := M.inj
  obj := fun i o e => (M.obj i o e).keep (Nat.le_refl _) (fun _ _ => rfl) (fix_off hq nf) (upd_ne (hn i (List.getElem?_eq_some_iff.mp e).1))
/-- a new list by content -/
theorem se_eZ {a : Expr} {lf : As} (ha : SF X at_ W a lf) : SE X at_ W a (eZ lf) := by
  obtain ⟨t1, p1, q1⟩ := ha.ex
  refine ⟨⟨_, pe_frz p1, fun f h H S σ M e Q P => ?_⟩⟩
  refine q1 f h H S σ M e _ ?_
  unfold eZ at P
  cases z : lf S h with
  | bad => rw [z] at P; exact P
  | exc c fs h1 => rw [z] at P; exact P
  | ok ds h1 =>
    rw [z] at P
    intro f1 H1 v E1 M1 r1
    obtain ⟨q, vs, rfl, h0, hq, hn, rv⟩ := r1
    refine .inr ⟨q, _, rfl, hq, trivial, fun o => ?_⟩
    exact P f1 _ _ (E1.side h0) (M1.off1 hq (fun z => z) hn) (.fz upd_same (rv.keep (Nat.le_refl _) (fun _ _ => rfl) (fix_off hq fun z => z)))
theorem ren_split {K : KW} : ∀ {kvs : List (D × D)} {es : List DictEntry}, Paired (REn K f n H) kvs es → ∃ us vs, RVs K f n H (kvs.map (·.1)) us ∧ RVs K f n H (kvs.map (·.2)) vs ∧ Paired (fun v e => RelV v e.key) us es ∧ Paired (fun v e => RelV v e.val) vs es ∧ Paired (HashIs K.w) (kvs.map (·.1)) es
  | _, _, .nil => ⟨[], [], .nil, .nil, .nil, .nil, .nil⟩
  | _, _, .cons r t => by
    obtain ⟨us, vs, h1, h2, h3, h4, h5⟩ := ren_split t
    obtain ⟨u, k1, k2⟩ := r.key
    obtain ⟨v, k3, k4⟩ := r.val
    exact ⟨u :: us, v :: vs, .cons k1 h1, .cons k3 h2, .cons k2 h3, .cons k4 h4, .cons r.hash h5⟩
theorem ren_join {K : KW} {ks ds : List D} {us vs : List V} {es : List DictEntry} (r1 : RVs K f n H ks us) (r2 : RVs K f n H ds vs) (p1 : Paired (fun v e => RelV v e.key) us es) (p2 : Paired (fun v e => RelV v e.val) vs es) (p3 : Paired (HashIs K.w) ks es) : ks.length = ds.length ∧ Paired (REn K f n H) (ks.zip ds) es := by
    induction p1 generalizing ks ds vs with
    | nil =>
      cases p2
      cases r1
      cases r2
      exact ⟨rfl, .nil⟩
    | cons b1 s1 ih =>
      cases p2 with
      | cons b2 s2 =>
       cases p3 with
       | cons b3 s3 =>
        cases r1 with
        | cons a1 t1 =>
          cases r2 with
          | cons a2 t2 =>
            obtain ⟨e, p⟩ := ih t1 t2 s2 s3
            exact ⟨congrArg (· + 1) e, .cons ⟨⟨_, a1, b1⟩, ⟨_, a2, b2⟩, b3⟩ p⟩
theorem rfs_split {K : KW} : ∀ {fs : List (String × D)} {gs : List (Str × V)}, RFs K f n H fs gs → ∃ vs, gs = ((fs.map (·.1)).map nmS).zip vs ∧ (fs.map (·.1)).length = vs.length ∧ RVs K f n H (fs.map (·.2)) vs
  | _, _, .nil => ⟨[], rfl, rfl, .nil⟩
  | _, _, .cons (b := g) r t => by
    obtain ⟨vs, h1, h2, h3⟩ := rfs_split t
    refine ⟨g.2 :: vs, ?_, congrArg (· + 1) h2, .cons r.2 h3⟩
    rw [List.map_cons, List.map_cons, List.zip_cons_cons, ← h1, ← r.1]
theorem rfs_join {K : KW} : ∀ {ns : List String} {ds : List D} {vs : List V}, ns.length = vs.length → RVs K f n H ds vs → RFs K f n H (ns.zip ds) ((ns.map nmS).zip vs)
  | [], _, _, _, _ => .nil
  | _ :: _, _, _, h, .nil => by cases h
  | a :: ns, _, _, h, .cons r t => .cons ⟨rfl, r⟩ (rfs_join (Nat.succ.inj h) t)
theorem ro_ice {K : KW} {a : Addr} {o : O} (hat : ∀ c, at_ c = c) (r : RO K at_ f n H a o) : ∃ u, H a = some u ∧ Mut (some u) ∧ ¬ Fix u ∧ ∀ (H2 : Hp) (ob : Obj), H2 a = some (.frz ob u) → (∀ a o, Fix o → H a = some o → H2 a = some o) → RV K f n H2 o.fz (.ref a) := by
  cases o with
  | lst ds =>
    obtain ⟨vs, e, r⟩ := r
    exact ⟨_, e, trivial, fun z => z, fun H2 ob e2 k => .fz e2 (r.keep (Nat.le_refl _) (fun _ _ => rfl) k)⟩
  | dic kvs =>
    obtain ⟨es, e, r, nd⟩ := r
    obtain ⟨us, vs, h1, h2, h3, h4, h5⟩ := ren_split r
    exact ⟨_, e, trivial, fun z => z, fun H2 ob e2 k => .fd e2 (h1.keep (Nat.le_refl _) (fun _ _ => rfl) k) (h2.keep (Nat.le_refl _) (fun _ _ => rfl) k) h3 h4 h5 (by rw [List.map_map]; exact nd)⟩
  | ins c fs =>
    obtain ⟨dx, gs, e, r⟩ := r
    obtain ⟨vs, h1, h2, h3⟩ := rfs_split r
    rw [hat] at e
    exact ⟨_, e, trivial, fun z => z, fun H2 ob e2 k => .fi e2 h1 h2 (h3.keep (Nat.le_refl _) (fun _ _ => rfl) k)⟩
theorem Post.frz {α β : Type} {K : KW} {rel : Hp → Fm → Nat → Hp → α → β → Prop} {r : R α} {Q Q' : β → Hp → Prop} (P : Post K at_ W rel n f H σ r Q) (h : ∀ b H, Q b H → Q' b H) : Post K at_ W rel n f H σ r Q' := by
  cases r with
  | ok a h' => exact fun f' H' b E M x => h _ _ (P f' H' b E M x)
  | exc c fs h' => exact P
  | bad => exact P
theorem Post.tidyZ {K : KW} {r : R D} {Q : VK} (hat : ∀ c, at_ c = c) (M0 : Sm K at_ f h H) (P : Post K at_ W (relV K) h.length f H σ (PV.tidyZ h r) Q) : Post K at_ W (relV K) h.length f H σ r (FrzQ Q) := by
  have old : ∀ {r}, Post K at_ W (relV K) h.length f H σ r Q → Post K at_ W (relV K) h.length f H σ r (FrzQ Q) := fun P => P.frz fun _ _ q => .inl q
  cases r with
  | bad => exact P
  | exc c fs h' =>
    unfold PV.tidyZ at P
    dsimp only at P
    split at P
    · rename_i t
      intro f' H' cls dx E M x
      refine P f' H' cls dx (by rw [take_len t.1]; exact E.cut) (M0.cut E M t.1) ?_
      rw [take_len t.1]
      exact x.cut t.1.1 (fun _ _ => rfl) t.2
    · exact P
  | ok d h' =>
    unfold PV.tidyZ at P
    dsimp only at P
    split at P
    · rename_i t
      split at P
      · rename_i hb
        intro f' H' v E M rv
        refine .inl (P f' H' v (by rw [take_len t]; exact E.cut) (M0.cut E M t) ?_)
        rw [take_len t]
        exact RV.cut t.1 (fun _ _ => rfl) rv hb
      · rename_i hb
        split at P
        · rename_i k
          split at P
          · rename_i o ho
            split at P
            · rename_i ob
              intro f' H' v E M rv
              have hk : k < h'.length := (List.getElem?_eq_some_iff.mp ho).1
              have hnk : h.length ≤ k := Nat.le_of_not_lt fun z => hb z
              have M1 := M0.cut E M t
              have hoff : ∀ i, i < h.length → f' i ≠ f' k := fun i hi z => absurd (M.inj i k (by omega) hk z) (by omega)
              have ro : RO K at_ f' h.length H' (f' k) o := (M.obj k o ho).cut t.1 (fun _ _ => rfl) ob
              have hl := take_len t
              obtain ⟨u, e1, mu, nf, hrv⟩ := ro_ice hat ro
              cases rv with
              | ref _ =>
                refine .inr ⟨f' k, u, rfl, e1, mu, fun o2 => ?_⟩
                refine P f' _ _ (by rw [hl]; exact E.cut.side (E.new k hnk hk)) (M1.off1 e1 nf (by rw [hl]; exact hoff)) ?_
                rw [hl]
                exact hrv _ o2 upd_same (fix_off e1 nf)
            · exact old P
          · exact old P
        · exact old P
    · exact old P
end
section
variable {P : Program} {w : World} {K : Frag} {mg : Str → Option Value} {base : Heap} {at_ : Cl}
/-- THE RULE for a def whose result is told by content -/
theorem fnS_ofZ {k : Nat} {g : Addr} {x qual : Str} {st : Stmt} {fd : FuncData} {N ps : List Str} {m : PV.St} (hat : ∀ c, at_ c = c) (F : Fun K x qual st g fd) (S : FnScope N ps (defScope st))
    (body : ∀ (cdv : Value) (A : Around) (outer : List Env) (s : Shared) (H : Hp) (E : XK), Rm (cxOf (L2.CX P w) P w K mg base N qual (defScope st) g cdv A outer s H E) k → SB (cxOf (L2.CX P w) P w K mg base N qual (defScope st) g cdv A outer s H E) at_ (WE0 E) (defBody st) m) :
    FnS P w K mg base at_ (k + 1) g fd ps (fnZ N.length ps.length m) := by
  obtain ⟨oc, od, kV, doc, pm, an, cdv, ct, osl, rfl, lk, hcd⟩ := F.ex
  refine ⟨fun A outer s H args us vs Q E f h ds hr hgd e0 hbind rv M rs post => ?_, fun ds h hl => by unfold fnZ; rw [if_neg hl]⟩
  have hlen : ds.length = ps.length := Decidable.byContradiction fun z => by
    unfold fnZ at post
    rw [if_neg z] at post
    exact post
  have hvl : vs.length = ps.length := by rw [← rs.length]; exact hlen
  have inK : K.In s.heap := e0.mod.kin.keeps fun b o e => (e0.bs b o e).1
  have noLim : s.heap.NoLimit := e0.mod.nolimit.keeps fun b o e => (e0.bs b o e).1
  have kinds : ∀ y ∈ ps.zip us, (defScope st).names.lookup y.1 = some .local ∨ ((defScope st).names.lookup y.1 = some .cell ∧ ((cellsFrom (s.heap.objs.size + 1) (defScope st).names []).lookup y.1).isSome = true) := by
    rintro ⟨nm, v⟩ hy
    rcases S.par nm (List.of_mem_zip hy).1 with q | q
    · exact .inl q
    · exact .inr ⟨q, PySem.W.cellsFrom_some _ _ _ (.inl q)⟩
  refine codeAny_call_function hr.depth (inK _ _ lk) rfl S.co S.gen rfl (PySem.W.codeRec_of inK hcd) (hbind _ _ _ _ ?_)
  refine wpAny_newFunctionEnv_cells S.kind kinds fun env he s1 y => ?_
  subst he
  refine ⟨noLim.keeps y.toInCall.keep, codeAny_func ?_⟩
  obtain ⟨t, ht, hq⟩ := (body cdv A outer s H E ⟨hr.deeper _, hgd⟩).ex
  have I := inv_start (CX := L2.CX P w) (E := E) S hr.hd e0 hvl rv y
  have post' : Post ⟨K, w⟩ at_ (fun c d _ H => E c d H) (relV ⟨K, w⟩) h.length f H [] (runB m (sg N.length ds) h) (FrzQ Q) := by
    unfold fnZ at post
    rw [if_pos hlen] at post
    exact Post.tidyZ hat M post
  have hS : PostS ⟨K, w⟩ at_ (WE0 E) h.length f H (m (sg N.length ds) h) { nx := fun _ H' => FrzQ Q .non H', rt := FrzQ Q } := by
    unfold runB at post'
    cases z : m (sg N.length ds) h with
    | nx S' h' => rw [z] at post'; exact fun f' H' _ E' M' _ => post' f' H' .non E' M' .non
    | rt d h' => rw [z] at post'; exact post'
    | exc c fs S' h' => rw [z] at post'; exact fun f' H' _ cls dx E' M' _ xx => post' f' H' cls dx E' M' xx
    | bad => rw [z] at post'; exact post'
  refine wpAny_mono (ht.run [] s1 (L2.start N vs) H _ I (hq f h H _ _ M (sg_env rs) _ hS)) (fun fl s' hs => ?_) fun e s' hs => hs
  cases fl with
  | ret u =>
    obtain ⟨v, σ', H', J, rv', q⟩ := hs
    rcases q with q | ⟨a, u, rfl, e1, mu, q⟩
    · exact ⟨v, H', J.os, J.bare, J.base, J.hok, rv', q⟩
    · obtain ⟨o, J2⟩ := Inv.freeze J e1 mu
      exact ⟨_, _, J2.os, J2.bare, J2.base, J2.hok, rv', q o⟩
  | next =>
    obtain ⟨σ', H', J, q⟩ := hs
    rcases q with q | ⟨a, u, z, _⟩
    · exact ⟨.non, H', J.os, J.bare, J.base, J.hok, rfl, q⟩
    · cases z
  | brk => obtain ⟨_, _, _, q⟩ := hs; exact False.elim q
  | cont => obtain ⟨_, _, _, q⟩ := hs; exact False.elim q
end
end PV
set_option Elab.async false
set_option linter.all false
set_option autoImplicit false
set_option maxRecDepth 100000
set_option maxHeartbeats 2000000
/-! PVM: lists that are told by content, attributes, methods. -/
namespace PV
open PySem PySem.Spec PyProof.Rows L2
section
variable {X : Cx} {at_ : Cl} {W : WX} {pins : List (Addr × Obj)} {σ : L2.St} {H : Hp} {s : Shared} {f : Fm} {h : Hh} {n : Nat}
theorem lstR {l : Addr} {xs : List V} (I : Inv X pins σ H s) (q : Rd H l (.lst xs)) : xs.length ≤ sizeLine ∧ ∃ (its : List Value) (n : Nat), Vals xs its ∧ xs.length = its.length ∧ s.heap.get? l = some { cls := .type "list", data := .seq its.toArray n } := by
  obtain ⟨hz, its, m, rv, e⟩ := q.ok I.hok
  exact ⟨hz, its, m, rv, rv.length, e⟩
/-- list + list -/
def rCatR : R2 := fun x y H Q => ∃ l b xs zs, x = .ref l ∧ y = .ref b ∧ Rd H l (.lst xs) ∧ Rd H b (.lst zs) ∧ xs.length + zs.length ≤ sizeLine ∧ ∀ p, H p = none → Q (.ref p) (upd H p (.lst (xs ++ zs)))
theorem op_catR : OpR X (binaryOp .Add) rCatR := by
  intro pins s σ H x y v u Q I rx ry hh
  obtain ⟨l, b, xs, zs, rfl, rfl, k1, k2, hle, q⟩ := hh
  cases rx
  cases ry
  obtain ⟨_, i1, n1, r1, l1, g1⟩ := lstR I k1
  obtain ⟨_, i2, n2, r2, l2, g2⟩ := lstR I k2
  refine PySem.P.add_list g1 g2 ?_ (by simp only [List.size_toArray]; omega)
  rw [show i1.toArray ++ i2.toArray = (i1 ++ i2).toArray by simp]
  exact ⟨.ref _, _, I.lnew (t' := s.toks) (r1.append r2) (by rw [List.length_append]; exact hle), rfl, q _ I.fresh⟩
/-- the rows of lists -/
theorem ls_rd {d : D} {v : V} {xs : List D} (M : Sm X.KW at_ f h H) (r : RV X.KW f h.length H d v) (e : lsD d h = some xs) : ∃ a vs, v = .ref a ∧ Rd H a (.lst vs) ∧ RVs X.KW f h.length H xs vs := by
  cases r with
  | fz ht hs => cases e; exact ⟨_, _, rfl, .inr ⟨_, ht⟩, hs⟩
  | ref hi =>
    rename_i k
    have e : (match h[k]? with
      | some (.lst xs) => some xs
      | _ => none) = some xs := e
    cases z : h[k]? with
    | none => rw [z] at e; cases e
    | some o =>
      cases o with
      | lst ys =>
        rw [z] at e
        cases e
        obtain ⟨vs, q1, q2⟩ := M.obj k _ z
        exact ⟨_, vs, rfl, .inl q1, q2⟩
      | _ => rw [z] at e; cases e
  | _ => cases e
/-- a new list behind an operation, by content -/
theorem new_fz {ds : List D} {vs : List V} {Q : VK} {p : Addr} (M : Sm X.KW at_ f h H) (rs : RVs X.KW f h.length H ds vs) (hp : H p = none) (P : Post X.KW at_ W (relV X.KW) h.length f H σ (.ok (.fz ds) h) Q) : FrzQ Q (.ref p) (upd H p (.lst vs)) := by
  have M1 : Sm X.KW at_ f h (upd H p (.lst vs)) := M.fresh hp
  refine .inr ⟨p, _, rfl, upd_same, trivial, fun o => P f _ _ ((Ext.fresh hp).side hp) (M1.off1 (v := .lst vs) upd_same (fun z => z) (side_new M hp)) (.fz upd_same ?_)⟩
  exact (rs.ext M (Ext.fresh hp)).keep (Nat.le_refl _) (fun _ _ => rfl) (fix_off (v := .lst vs) upd_same fun z => z)
/-- .. told by nothing -/
theorem new_sf {ds : List D} {vs : List V} {Q : VK} {p : Addr} {H0 : Hp} (M : Sm X.KW at_ f h H) (rs : RVs X.KW f h.length H ds vs) (hp : H p = none) (P : Post X.KW at_ W (relF X.KW) h.length f H σ (.ok ds h) Q) : Q (.ref p) (upd H p (.lst vs)) :=
  P f _ _ (Ext.fresh hp) (M.fresh hp) ⟨p, vs, rfl, hp, upd_same, side_new M hp, rs.ext M (Ext.fresh hp)⟩
end
section
variable {X : Cx} {at_ : Cl} {W : WX} {a b : Expr} {ma mb : Ex} {pos p2 : Pos} {lo hi : Option Expr} {ol oh : Os}
/-- t[lo:hi] -/
theorem se_slice (ha : SE X at_ W a ma) (hl : SO X at_ W lo ol) (hu : SO X at_ W hi oh) : SE X at_ W (.Subscript a (.Slice lo hi none p2) pos) (eSl ma ol oh) := by
  obtain ⟨t1, p1, q1⟩ := ha.ex
  obtain ⟨t2, p2, q2⟩ := hl.ex
  obtain ⟨t3, p3, q3⟩ := hu.ex
  refine ⟨⟨_, pe_frz (pe_slice (sl_list.or (sl_tupA.or sl_str)) p1 p2 p3), fun f h H S σ M e Q P => ?_⟩⟩
  refine q1 f h H S σ M e _ (Post.step P fun d h1 f1 H1 v1 E1 M1 r1 P1 => ?_)
  refine q2 f1 h1 H1 S σ M1 (e.ext M E1) _ (Post.step (rel2 := fun _ _ _ _ (a b : Option Int) => a = b) P1 fun l h2 f2 H2 v2 E2 M2 r2 P2 => ?_)
  refine q3 f2 h2 H2 S σ M2 ((e.ext M E1).ext M1 E2) _ (Post.step (rel2 := fun _ _ _ _ (a b : Option Int) => a = b) P2 fun u h3 f3 H3 v3 E3 M3 r3 P3 => ?_)
  cases r2
  cases r3
  have r1 := (r1.ext M1 E2).ext M2 E3
  cases r1 with
  | tup ht hs =>
    rename_i q ds vs
    have P3 : Post X.KW at_ W (relV X.KW) h3.length f3 H3 σ (.ok (.tup (cut ds l u)) h3) Q := P3
    refine .inr (.inl ⟨q, vs, rfl, ht, fun hw => ?_, fun _ p hp => ?_⟩)
    · refine .inl (P3.ok M3 ?_)
      have e1 : cut ds l u = ds := by
        unfold cut
        rw [hs.length, hw.1, hw.2, List.drop_zero, Nat.sub_zero, ← hs.length, List.take_length]
      rw [e1]
      exact .tup ht hs
    · exact .inl (P3 _ _ _ (Ext.fresh hp) (M3.fresh hp) (.tup (.inl (.inl upd_same)) ((cut_rel hs l u).ext M3 (Ext.fresh hp))))
  | str z =>
    have P3 : Post X.KW at_ W (relV X.KW) h3.length f3 H3 σ (if z.length ≤ big then .ok (.str (cutS z l u)) h3 else .bad) Q := P3
    by_cases c : z.length ≤ big
    · rw [if_pos c] at P3
      exact .inr (.inr ⟨z, rfl, big_line.mp c, .inl (P3.ok M3 (.str _))⟩)
    · rw [if_neg c] at P3; exact False.elim P3
  | fz ht hs =>
    exact .inl ⟨_, _, rfl, .inl (.inr ⟨_, ht⟩), fun p hp => new_fz M3 (cut_rel hs l u) hp P3⟩
  | ref hi =>
    rename_i k
    have P3 : Post X.KW at_ W (relV X.KW) h3.length f3 H3 σ (match h3[k]? with
      | some (.lst xs) => .ok (.fz (cut xs l u)) h3
      | _ => .bad) Q := P3
    cases z : h3[k]? with
    | none => rw [z] at P3; exact False.elim P3
    | some o =>
      cases o with
      | lst xs =>
        rw [z] at P3
        obtain ⟨vs, k1, k2⟩ := M3.obj k _ z
        exact .inl ⟨_, _, rfl, SqL.of k1, fun p hp => new_fz M3 (cut_rel k2 l u) hp P3⟩
      | _ => rw [z] at P3; exact False.elim P3
  | _ => exact False.elim P3
/-- a list's part as a new list -/
theorem sf_slice (ha : SE X at_ W a ma) (hl : SO X at_ W lo ol) (hu : SO X at_ W hi oh) : SF X at_ W (.Subscript a (.Slice lo hi none p2) pos) (aSl ma ol oh) := by
  obtain ⟨t1, p1, q1⟩ := ha.ex
  obtain ⟨t2, p2, q2⟩ := hl.ex
  obtain ⟨t3, p3, q3⟩ := hu.ex
  refine ⟨⟨_, pe_slice sl_list p1 p2 p3, fun f h H S σ M e Q P => ?_⟩⟩
  refine q1 f h H S σ M e _ (Post.step P fun d h1 f1 H1 v1 E1 M1 r1 P1 => ?_)
  refine q2 f1 h1 H1 S σ M1 (e.ext M E1) _ (Post.step (rel2 := fun _ _ _ _ (a b : Option Int) => a = b) P1 fun l h2 f2 H2 v2 E2 M2 r2 P2 => ?_)
  refine q3 f2 h2 H2 S σ M2 ((e.ext M E1).ext M1 E2) _ (Post.step (rel2 := fun _ _ _ _ (a b : Option Int) => a = b) P2 fun u h3 f3 H3 v3 E3 M3 r3 P3 => ?_)
  cases r2
  cases r3
  cases z : lsD d h3 with
  | none => rw [z] at P3; exact False.elim P3
  | some xs =>
    rw [z] at P3
    obtain ⟨a, vs, rfl, k1, k2⟩ := ls_rd M3 ((r1.ext M1 E2).ext M2 E3) z
    exact ⟨_, _, rfl, .inl k1, fun p hp => new_sf (H0 := H3) M3 (cut_rel k2 l u) hp P3⟩
/-- list + list as a new list -/
theorem sf_cat (ha : SE X at_ W a ma) (hb : SE X at_ W b mb) : SF X at_ W (.BinOp a .Add b pos) (aCat ma mb) := by
  obtain ⟨t1, p1, q1⟩ := ha.ex
  obtain ⟨t2, p2, q2⟩ := hb.ex
  refine ⟨⟨_, pe_op op_catR p1 p2, fun f h H S σ M e Q P => ?_⟩⟩
  refine q1 f h H S σ M e _ (Post.step P fun x h1 f1 H1 v1 E1 M1 r1 P1 => ?_)
  refine q2 f1 h1 H1 S σ M1 (e.ext M E1) _ (Post.step P1 fun y h2 f2 H2 v2 E2 M2 r2 P2 => ?_)
  cases z : lsD x h2 with
  | none => rw [z] at P2; exact False.elim P2
  | some xs =>
    cases z2 : lsD y h2 with
    | none => rw [z, z2] at P2; exact False.elim P2
    | some ys =>
      rw [z, z2] at P2
      dsimp only at P2
      obtain ⟨l, vs, rfl, k1, k2⟩ := ls_rd M2 (r1.ext M1 E2) z
      obtain ⟨b, ws, rfl, k3, k4⟩ := ls_rd M2 r2 z2
      by_cases c : xs.length + ys.length ≤ big
      · rw [if_pos c] at P2
        exact ⟨l, b, vs, ws, rfl, rfl, k1, k3, by rw [← k2.length, ← k4.length]; exact big_line.mp c, fun p hp => new_sf (H0 := H2) M2 (k2.append k4) hp P2⟩
      · rw [if_neg c] at P2; exact False.elim P2
end

section
variable {X : Cx} {at_ : Cl} {W : WX} {a b : Expr} {ma mb : Ex} {pos : Pos}
theorem op_frz {o : Value → Value → Sem Value} {r : R2} (hr : OpR X o r) : OpR X o (fun x y H Q => r x y H (FrzQ Q)) := by
  intro pins s σ H x y v u Q I rx ry q
  refine thn (hr pins s σ H x y v u _ I rx ry q) fun w s1 hh => ?_
  obtain ⟨z, H1, I1, rz, q1⟩ := hh
  rcases q1 with q1 | ⟨l, ob, rfl, e1, mu, q1⟩
  · exact ⟨z, H1, I1, rz, q1⟩
  · obtain ⟨oo, I2⟩ := Inv.freeze I1 e1 mu
    exact ⟨_, _, I2, rz, q1 oo⟩
theorem two_ls {f : Fm} {h : Hh} {H : Hp} {σ : L2.St} {dx dy : D} {x y : V} {Q : VK} (M : Sm X.KW at_ f h H) (rx : RV X.KW f h.length H dx x) (ry : RV X.KW f h.length H dy y)
    (P : Post X.KW at_ W (relV X.KW) h.length f H σ (match lsD dx h, lsD dy h with
      | some xs, some ys => if xs.length + ys.length ≤ big then .ok (.fz (xs ++ ys)) h else .bad
      | _, _ => .bad) Q) : rCatR x y H (FrzQ Q) := by
  cases z : lsD dx h with
  | none => rw [z] at P; exact False.elim P
  | some xs =>
    cases z2 : lsD dy h with
    | none => rw [z, z2] at P; exact False.elim P
    | some ys =>
      rw [z, z2] at P
      dsimp only at P
      obtain ⟨l, vs, rfl, k1, k2⟩ := ls_rd M rx z
      obtain ⟨b, ws, rfl, k3, k4⟩ := ls_rd M ry z2
      by_cases c : xs.length + ys.length ≤ big
      · rw [if_pos c] at P
        exact ⟨l, b, vs, ws, rfl, rfl, k1, k3, by rw [← k2.length, ← k4.length]; exact big_line.mp c, fun p hp => new_fz M (k2.append k4) hp P⟩
      · rw [if_neg c] at P; exact False.elim P
theorem o2_add : O2 X at_ (binaryOp .Add) addD := by
  refine ⟨⟨_, (op_add.or (op_add_ib.or (op_add_str.or (op_catA.or (op_frz op_catR))))), fun W f h H σ dx dy x y M rx ry Q P => ?_⟩⟩
  cases rx with
  | int i =>
    cases ry with
    | int j => exact .inl ⟨i, j, rfl, rfl, P.ok M (.int _)⟩
    | bl k => exact .inr (.inl ⟨i, k, rfl, rfl, by
        have e : (i + b2i k) = i + (if k = true then 1 else 0) := by cases k <;> rfl
        rw [e]
        exact P.ok M (.int _)⟩)
    | _ => exact False.elim P
  | str a =>
    cases ry with
    | str b =>
      have P : Post X.KW at_ W (relV X.KW) h.length f H σ (if a.length + b.length ≤ big then .ok (.str (a ++ b)) h else .bad) Q := P
      by_cases c : a.length + b.length ≤ big
      · rw [if_pos c] at P
        exact .inr (.inr (.inl ⟨a, b, rfl, rfl, big_line.mp c, P.ok M (.str _)⟩))
      · rw [if_neg c] at P; exact False.elim P
    | _ => exact False.elim P
  | tup ht hs =>
    rename_i p ds vs
    cases ry with
    | tup ht2 hs2 =>
      rename_i q es ws
      have P : Post X.KW at_ W (relV X.KW) h.length f H σ (if ds.length + es.length ≤ big then .ok (.tup (ds ++ es)) h else .bad) Q := P
      by_cases c : ds.length + es.length ≤ big
      · rw [if_pos c] at P
        refine .inr (.inr (.inr (.inl ⟨p, q, vs, ws, rfl, rfl, ht, ht2, by rw [← hs.length, ← hs2.length]; exact big_line.mp c, fun z => ?_, fun z z2 => ?_, fun z z2 p hp => ?_⟩)))
        · subst z
          cases hs
          exact P.ok M (.tup ht2 hs2)
        · subst z2
          cases hs2
          rw [List.append_nil] at P
          exact P.ok M (.tup ht hs)
        · refine P _ _ _ (Ext.fresh hp) (M.fresh hp) (.tup (.inl (.inl upd_same)) ?_)
          exact (hs.ext M (Ext.fresh hp)).append (hs2.ext M (Ext.fresh hp))
      · rw [if_neg c] at P; exact False.elim P
    | _ => exact False.elim P
  | fz ht hs => exact .inr (.inr (.inr (.inr (two_ls M (.fz ht hs) ry P))))
  | ref hi => exact .inr (.inr (.inr (.inr (two_ls M (.ref hi) ry P))))
  | _ => exact False.elim P
theorem op_repR : OpR X (binaryOp .Mult) (fun x y H Q => ∃ l k xs, x = .ref l ∧ y = .int k ∧ Rd H l (.lst xs) ∧ -(2 ^ 63) ≤ k ∧ k < 2 ^ 63 ∧ xs.length * k.toNat ≤ sizeLine ∧ ∀ p, H p = none → Q (.ref p) (upd H p (.lst (List.replicate k.toNat xs).flatten))) := by
  intro pins s σ H x y v u Q I rx ry hh
  obtain ⟨l, k, xs, rfl, rfl, k1, lo, hi, hz, q⟩ := hh
  cases rx
  obtain ⟨tk, rfl⟩ := ry
  obtain ⟨_, its, m, rv, len, g⟩ := lstR I k1
  have c1 : its.toArray.size * k.toNat ≤ sizeLine := by simp only [List.size_toArray]; rw [← len]; exact hz
  have c2 : ¬ its.toArray.size * k.toNat > (2 ^ 63 - 1) / 8 := by
    have : (sizeLine : Nat) ≤ (2 ^ 63 - 1) / 8 := by decide
    omega
  have c3 : ¬ (!Builtin.List.listFitsIndex k) = true := by rw [fitsIndex_both lo hi]; simp
  have c4 : ¬ Builtin.List.listTooLong (its.toArray.size * k.toNat) = true := by rw [notLongL c1]; simp
  have made : List.foldl (fun x1 x2 => x1 ++ x2) #[] (List.replicate (if its.toArray.isEmpty = true then 0 else k.toNat) its.toArray) = (List.replicate k.toNat its).flatten.toArray := by
    have all : ∀ m : Nat, List.foldl (fun x1 x2 => x1 ++ x2) #[] (List.replicate m its.toArray) = (List.replicate m its).flatten.toArray := fun m => by simpa using foldl_rep its m []
    rw [all]
    cases its with
    | nil => simp
    | cons a r' => rw [if_neg (by simp)]
  refine wpAny_binaryOp_repeat_ref (T := "list") (U := "int") (by decide) ⟨_, g, rfl⟩ (fun s' => typeIs_int s' k tk) noFill_list_mul F.fills_int_mul F.slot_int_rmul repeat_list F.slot_int_index.lookup ?_
  refine call_meets F.slot_int_rmul (typeIs_int s k tk) F.entry_int_rmul (F.args_int_rmul_2 _ _) (int___rmul___int_list k tk l its.toArray m) ⟨g, rfl, ⟨_, g, rfl⟩, ?_⟩
  refine call_meets F.slot_list_mul ⟨_, g, rfl⟩ F.entry_list_mul (F.args_list_mul_2 _ _) (AutoListH.list___mul___list_int_3 l its.toArray m k tk c3 c2 c4) ⟨g, ?_⟩
  rw [made]
  exact ⟨.ref _, _, I.lnew (t' := s.toks) (rv.rep k.toNat) (by rw [PyProof.Rows.lm_len_rep_flat, Nat.mul_comm]; exact hz), rfl, q _ I.fresh⟩
theorem rvs_rep {f : Fm} {n : Nat} {H : Hp} {ds : List D} {vs : List V} (r : RVs X.KW f n H ds vs) : ∀ k : Nat, RVs X.KW f n H (List.replicate k ds).flatten (List.replicate k vs).flatten
  | 0 => .nil
  | k + 1 => by
    rw [List.replicate_succ, List.replicate_succ, List.flatten_cons, List.flatten_cons]
    exact r.append (rvs_rep r k)
theorem mulD_ls {x y : D} {h : Hh} {xs : List D} (hx : lsD x h = some xs) : mulD x y h = (match y with
  | .int k => if -(2 ^ 63) ≤ k ∧ k < 2 ^ 63 ∧ xs.length * k.toNat ≤ big then R.ok (D.fz (List.replicate k.toNat xs).flatten) h else .bad
  | _ => .bad) := by
  cases x <;> first | cases hx | skip
  · cases y <;> rfl
  · rename_i k
    cases y with
    | int j =>
      show (match lsD (.ref k) h with
        | some xs => if -(2 ^ 63) ≤ j ∧ j < 2 ^ 63 ∧ xs.length * j.toNat ≤ big then R.ok (D.fz (List.replicate j.toNat xs).flatten) h else .bad
        | none => .bad) = _
      rw [hx]
    | _ => rfl
theorem o2_mul : O2 X at_ (binaryOp .Mult) mulD := by
  refine ⟨⟨_, op_mul.or (op_frz op_repR), fun W f h H σ dx dy x y M rx ry Q P => ?_⟩⟩
  cases z : lsD dx h with
  | some xs =>
    rw [mulD_ls z] at P
    obtain ⟨l, vs, rfl, k1, k2⟩ := ls_rd M rx z
    cases ry with
    | int k =>
      dsimp only at P
      by_cases c : -(2 ^ 63) ≤ k ∧ k < 2 ^ 63 ∧ xs.length * k.toNat ≤ big
      · rw [if_pos c] at P
        exact .inr ⟨l, k, vs, rfl, rfl, k1, c.1, c.2.1, by rw [← k2.length]; exact big_line.mp c.2.2, fun p hp => new_fz M (rvs_rep k2 k.toNat) hp P⟩
      · rw [if_neg c] at P; exact False.elim P
    | _ => exact False.elim P
  | none =>
    cases rx with
    | int i =>
      cases ry with
      | int j =>
        have P : Post X.KW at_ W (relV X.KW) h.length f H σ (if (-(2 ^ 64) < i ∧ i < 2 ^ 64) ∨ (-(2 ^ 64) < j ∧ j < 2 ^ 64) then .ok (.int (i * j)) h else .bad) Q := P
        by_cases c : (-(2 ^ 64) < i ∧ i < 2 ^ 64) ∨ (-(2 ^ 64) < j ∧ j < 2 ^ 64)
        · rw [if_pos c] at P
          exact .inl ⟨i, j, rfl, rfl, c, P.ok M (.int _)⟩
        · rw [if_neg c] at P; exact False.elim P
      | _ => exact False.elim P
    | fz _ _ => cases z
    | ref hi =>
      rename_i k
      cases ry with
      | int j =>
        have P : Post X.KW at_ W (relV X.KW) h.length f H σ (match lsD (.ref k) h with
          | some xs => if -(2 ^ 63) ≤ j ∧ j < 2 ^ 63 ∧ xs.length * j.toNat ≤ big then R.ok (.fz (List.replicate j.toNat xs).flatten) h else .bad
          | none => .bad) Q := P
        rw [z] at P
        exact False.elim P
      | _ => exact False.elim P
    | _ => cases ry <;> exact False.elim P
theorem sf_rep (ha : SE X at_ W a ma) (hb : SE X at_ W b mb) : SF X at_ W (.BinOp a .Mult b pos) (aRep ma mb) := by
  obtain ⟨t1, p1, q1⟩ := ha.ex
  obtain ⟨t2, p2, q2⟩ := hb.ex
  refine ⟨⟨_, pe_op op_repR p1 p2, fun f h H S σ M e Q P => ?_⟩⟩
  refine q1 f h H S σ M e _ (Post.step P fun x h1 f1 H1 v1 E1 M1 r1 P1 => ?_)
  refine q2 f1 h1 H1 S σ M1 (e.ext M E1) _ (Post.step P1 fun y h2 f2 H2 v2 E2 M2 r2 P2 => ?_)
  cases z : lsD x h2 with
  | none => rw [z] at P2; exact False.elim P2
  | some xs =>
    rw [z] at P2
    obtain ⟨l, vs, rfl, k1, k2⟩ := ls_rd M2 (r1.ext M1 E2) z
    cases r2 with
    | int k =>
      dsimp only at P2
      by_cases c : -(2 ^ 63) ≤ k ∧ k < 2 ^ 63 ∧ xs.length * k.toNat ≤ big
      · rw [if_pos c] at P2
        exact ⟨l, k, vs, rfl, rfl, k1, c.1, c.2.1, by rw [← k2.length]; exact big_line.mp c.2.2, fun p hp => new_sf (H0 := H2) M2 (rvs_rep k2 k.toNat) hp P2⟩
      · rw [if_neg c] at P2; exact False.elim P2
    | _ => exact False.elim P2
end
end PV
set_option Elab.async false
set_option linter.all false
set_option autoImplicit false
set_option maxRecDepth 100000
set_option maxHeartbeats 2000000
/-! PVA: attributes of instances, instances that are made. -/
namespace PV
open PySem PySem.Spec PyProof.Rows L2
theorem map_inj {α β : Type} {g : α → β} (hg : ∀ a b, g a = g b → a = b) : ∀ {l m : List α}, l.map g = m.map g → l = m
  | [], [], _ => rfl
  | [], _ :: _, h => by simp at h
  | _ :: _, [], h => by simp at h
  | a :: l, b :: m, h => by
    rw [List.map_cons, List.map_cons, List.cons.injEq] at h
    rw [hg _ _ h.1, map_inj hg h.2]
theorem nmS_inj {s t : String} (h : nmS s = nmS t) : s = t := by
  unfold nmS at h
  rw [Str.ofString_eq_toList, Str.ofString_eq_toList] at h
  have h1 : s.toList.map Char.toNat = t.toList.map Char.toNat := by
    injection h with h
    exact congrArg Array.toList h
  have h2 : s.toList = t.toList := map_inj (fun a b e => Char.ext (UInt32.toNat_inj.mp e)) h1
  exact String.toList_inj.mp h2
section
variable {X : Cx} {at_ : Cl} {W : WX} {pins : List (Addr × Obj)} {σ : L2.St} {H : Hp} {s : Shared} {f : Fm} {h : Hh} {n : Nat}
/-- an attribute of an instance, known or not -/
theorem fld_rd {a C dx : Addr} {fs : List (Str × V)} {g : Str} {v : V} {b : Bool} {A : Around} {E : Value → Shared → Prop} {Q : Value → Shared → Prop} (I : Inv X pins σ H s) (e : Rd H a (.ins C dx fs)) (c : Cls X.K C) (na : NoAttr X.K C g) (lk : fs.lookup g = some v)
    (fin : ∀ u s', Inv X pins σ H s' → RelV v u → Q u s') : wpAny (model X.prog X.w) A (getAttr (.ref a) g b) Q E s := by
  obtain ⟨_, _, ne, ob, mA, ns, rel, _⟩ := (show ObjOk X.prog X.w H s.heap a (.ins C dx fs) from e.ok I.hok)
  obtain ⟨u, hu, ru⟩ := RelO.some_of (v := v) (o := mA g) (by rw [← lk]; exact rel g)
  exact get_map I.kIn ⟨ob, ns, ne⟩ (c.get g) c.hd na hu (handed_of ru) (fin u _ (I.tok _) ru)
def tFldR (K : Frag) (ta : TE) (g : Str) : TE := fun σ H Q => ta σ H fun x H1 => ∃ a C dx fs v, x = .ref a ∧ Rd H1 a (.ins C dx fs) ∧ Cls K C ∧ NoAttr K C g ∧ fs.lookup g = some v ∧ Q v H1
theorem pe_fldR {e : Expr} {ta : TE} {g : Str} {pos : Pos} (he : PE X e ta) (hb : attributeBase e g X.env (eval e X.env) = eval e X.env) : PE X (.Attribute e g pos) (tFldR X.K ta g) := by
  refine ⟨fun pins s σ H Q I hh => attr_of hb (thn (he.run pins s σ H _ I hh) fun u s1 got => ?_)⟩
  obtain ⟨x, H1, I1, rx, a, C, dx, fs, v, rfl, ea, c, na, lk, q⟩ := got
  cases rx
  exact fld_rd I1 ea c na lk fun w s2 I2 rw' => ⟨v, H1, I2, rw', q⟩
theorem lk_zip {K : KW} {g : String} : ∀ {ns : List String} {ds : List D} {vs : List V} {d : D}, RVs K f n H ds vs → lkF g ns ds = some d → ∃ v, ((ns.map nmS).zip vs).lookup (nmS g) = some v ∧ RV K f n H d v
  | [], _, _, _, _, e => by cases e
  | a :: ns, _, _, _, .nil, e => by cases e
  | a :: ns, _, _, d, .cons (v := v) r t, e => by
    rw [List.map_cons, List.zip_cons_cons, List.lookup_cons]
    unfold lkF at e
    by_cases z : a = g
    · rw [if_pos z] at e
      cases e
      subst z
      exact ⟨v, by simp, r⟩
    · rw [if_neg z] at e
      obtain ⟨u, h1, h2⟩ := lk_zip t e
      refine ⟨u, ?_, h2⟩
      have : (nmS g == nmS a) = false := by
        apply beq_false_of_ne
        exact fun q => z (nmS_inj q).symm
      rw [this]
      exact h1
theorem lk_rfs {K : KW} {g : String} : ∀ {fs : List (String × D)} {gs : List (Str × V)} {d : D}, RFs K f n H fs gs → fs.lookup g = some d → ∃ v, gs.lookup (nmS g) = some v ∧ RV K f n H d v
  | _, _, _, .nil, e => by cases e
  | _, _, d, .cons (a := p) (b := q) (l₁ := ps) (l₂ := qs) r t, e => by
    obtain ⟨x, y⟩ := p
    obtain ⟨x', y'⟩ := q
    obtain ⟨r1, r2⟩ := r
    dsimp only at r1 r2
    subst r1
    rw [List.lookup_cons] at e ⊢
    by_cases z : g = x
    · subst z
      simp at e
      subst e
      exact ⟨y', by simp, r2⟩
    · rw [show (g == x) = false from beq_false_of_ne z] at e
      rw [show (nmS g == nmS x) = false from beq_false_of_ne fun q => z (nmS_inj q)]
      exact lk_rfs t e
end
section
variable {X : Cx} {at_ : Cl} {W : WX} {a b : Expr} {ma mb : Ex} {pos p2 : Pos}
/-- what is asked of the classes -/
def FldOk (K : Frag) (cs : List Nat) (g : Str) : Prop := ∀ c, cs.contains c = true → Cls K c ∧ NoAttr K c g
theorem se_fld {cs : List Nat} {g : String} {gs : Str} (hat : ∀ c, at_ c = c) (ha : SE X at_ W a ma) (hc : FldOk X.K cs gs) (hg : gs = nmS g := by rfl) (hb : attributeBase a gs X.env (eval a X.env) = eval a X.env := by rfl) : SE X at_ W (.Attribute a gs pos) (e1 (fldD cs g) ma) := by
  subst hg
  obtain ⟨t1, p1, q1⟩ := ha.ex
  refine ⟨⟨_, pe_fldR p1 hb, fun f h H S σ M e Q P => ?_⟩⟩
  refine q1 f h H S σ M e _ (Post.step P fun d h1 f1 H1 v1 E1 M1 r1 P1 => ?_)
  cases r1 with
  | fi ht hn hl hs =>
    rename_i p o c ns ds vs dx fs
    have P1 : Post X.KW at_ W (relV X.KW) h1.length f1 H1 σ (if cs.contains c = true then match lkF g ns ds with
      | some v => .ok v h1
      | none => .bad
    else .bad) Q := P1
    by_cases z : cs.contains c = true
    · rw [if_pos z] at P1
      cases z2 : lkF g ns ds with
      | none => rw [z2] at P1; exact False.elim P1
      | some d =>
        rw [z2] at P1
        obtain ⟨v, k1, k2⟩ := lk_zip hs z2
        obtain ⟨c1, c2⟩ := hc c z
        exact ⟨p, c, dx, fs, v, rfl, .inr ⟨o, ht⟩, c1, c2, by rw [hn]; exact k1, P1.ok M1 k2⟩
    · rw [if_neg z] at P1; exact False.elim P1
  | ref hi =>
    rename_i k
    have P1 : Post X.KW at_ W (relV X.KW) h1.length f1 H1 σ (match h1[k]? with
      | some (.ins c fs) => if cs.contains c = true then match fs.lookup g with
          | some v => .ok v h1
          | none => .bad
        else .bad
      | _ => .bad) Q := P1
    cases z : h1[k]? with
    | none => rw [z] at P1; exact False.elim P1
    | some o =>
      cases o with
      | ins c fs =>
        rw [z] at P1
        dsimp only at P1
        obtain ⟨dx, gs, k1, k2⟩ := M1.obj k _ z
        rw [hat] at k1
        by_cases z : cs.contains c = true
        · rw [if_pos z] at P1
          cases z2 : fs.lookup g with
          | none => rw [z2] at P1; exact False.elim P1
          | some d =>
            rw [z2] at P1
            obtain ⟨v, k3, k4⟩ := lk_rfs k2 z2
            obtain ⟨c1, c2⟩ := hc c z
            exact ⟨_, c, dx, gs, v, rfl, .inl k1, c1, c2, k3, P1.ok M1 k4⟩
        · rw [if_neg z] at P1; exact False.elim P1
      | _ => rw [z] at P1; exact False.elim P1
  | _ => exact False.elim P1
theorem putF_rfs {K : KW} {f : Fm} {n : Nat} {H : Hp} {g : String} {d : D} {v : V} (r : RV K f n H d v) : ∀ {fs : List (String × D)} {gs : List (Str × V)}, RFs K f n H fs gs → RFs K f n H (putFD g d fs) (putF (nmS g) v gs)
  | _, _, .nil => .cons ⟨rfl, r⟩ .nil
  | _, _, .cons (a := p) (b := q) r1 t => by
    obtain ⟨x, y⟩ := p
    obtain ⟨x', y'⟩ := q
    obtain ⟨e1, e2⟩ := r1
    dsimp only at e1 e2
    subst e1
    unfold putFD putF
    by_cases z : x = g
    · subst z
      rw [if_pos rfl, if_pos (by simp)]
      exact .cons ⟨rfl, r⟩ t
    · rw [if_neg z, if_neg (by simpa using fun q => z (nmS_inj q))]
      exact .cons ⟨rfl, e2⟩ (putF_rfs r t)
theorem rfs_len {K : KW} {f : Fm} {n : Nat} {H : Hp} : ∀ {fs : List (String × D)} {gs : List (Str × V)}, RFs K f n H fs gs → fs.length = gs.length
  | _, _, .nil => rfl
  | _, _, .cons _ t => congrArg (· + 1) (rfs_len t)
/-- o.g = v -/
theorem ss_fld {cs : List Nat} {g : String} {gs : Str} {p' : Pos} (hat : ∀ c, at_ c = c) (ha : SE X at_ W a ma) (hb : SE X at_ W b mb) (hc : FldOk X.K cs gs) (hg : gs = nmS g := by rfl) (hs : swapsWith b (some (.Attribute a gs p')) pos.line X.env = pure false := by rfl) :
    SS X at_ W (.Assign [.Attribute a gs p'] b pos) (sFld cs g ma mb) := by
  subst hg
  obtain ⟨t1, p1, q1⟩ := ha.ex
  obtain ⟨t2, p2, q2⟩ := hb.ex
  refine ⟨⟨_, ps_fld p1 p2 hs, fun f h H S σ M e D P => ?_⟩⟩
  refine q2 f h H S σ M e _ (PostS.into P M e fun z h1 f1 H1 v1 E1 M1 e1 r1 P1 => ?_)
  refine q1 f1 h1 H1 S σ M1 e1 _ (PostS.into P1 M1 e1 fun x h2 f2 H2 v2 E2 M2 e2 r2 P2 => ?_)
  cases r2 with
  | ref hi =>
    rename_i k
    have P2 : PostS X.KW at_ W h2.length f2 H2 (match h2[k]? with
      | some (.ins c fs) => if cs.contains c = true ∧ fs.length < 1000 then .nx S (h2.set k (.ins c (putFD g z fs))) else .bad
      | _ => .bad) D := P2
    cases w : h2[k]? with
    | none => rw [w] at P2; exact False.elim P2
    | some o =>
      cases o with
      | ins c fs =>
        rw [w] at P2
        dsimp only at P2
        by_cases y : cs.contains c = true ∧ fs.length < 1000
        · rw [if_pos y] at P2
          obtain ⟨dx, gs, k1, k2⟩ := M2.obj k _ w
          rw [hat] at k1
          obtain ⟨c1, c2⟩ := hc c y.1
          refine ⟨_, c, dx, gs, rfl, k1, c1, c2, by rw [← rfs_len k2]; exact y.2, ?_⟩
          refine P2 _ _ σ (by rw [List.length_set]; exact Ext.write hi) (M2.write hi ⟨dx, _, by rw [hat]; exact upd_same, ?_⟩) ?_
          · exact putF_rfs ((r1.ext M1 E2).keep (Nat.le_refl _) (fun _ _ => rfl) (M2.fixW hi)) (k2.keep (Nat.le_refl _) (fun _ _ => rfl) (M2.fixW hi))
          · rw [List.length_set]
            exact e2.keep (Nat.le_refl _) (fun _ _ => rfl) (M2.fixW hi)
        · rw [if_neg y] at P2; exact False.elim P2
      | _ => rw [w] at P2; exact False.elim P2
  | _ => exact False.elim P2
/-! ### instances that are made -/
section
variable {k : Nat} {g C : Addr} {fd : FuncData} {ps : List Str} {F : List D → Hh → R D} {x : Str} {p : Pos} {e : Expr} {es : List Expr} {as : As}
theorem run_mkS {pins : List (Addr × Obj)} {σ : L2.St} {H : Hp} {s : Shared} {Q : VK} {us : List Value} {vs : List V} {f : Fm} {h : Hh} {xs : List D} (hat : ∀ c, at_ c = c) (mk : Mk X.K C g) (G : FnS X.prog X.w X.K X.mg X.base at_ k g fd ps F) (hr : Rm X (k + 1)) (hb : Binds X.K fd ps []) (tk : Takes X W)
    (I : Inv X pins σ H s) (r : Vals vs us) (M : Sm X.KW at_ f h H) (rs : RVs X.KW f h.length H xs vs) (post : Post X.KW at_ W (relV X.KW) h.length f H σ (mkD C F xs h) Q) : wpAny (model X.prog X.w) X.A (call (.ref C) us) (EP X pins σ Q) X.xe s := by
  have I2 := Inv.made (C := C) I
  have hx0 : H (s.heap.objs.size + 1) = none := I.hok.fresh (Nat.le_succ _)
  have hd0 : H s.heap.objs.size = none := I.hok.fresh (Nat.le_refl _)
  have ne : s.heap.objs.size ≠ s.heap.objs.size + 1 := Nat.ne_of_lt (Nat.lt_succ_self _)
  have hx1 : (upd H s.heap.objs.size (.own (s.heap.objs.size + 1))) (s.heap.objs.size + 1) = none := by rw [upd_ne (Ne.symm ne)]; exact hx0
  have Ma : Sm X.KW at_ f h (upd H s.heap.objs.size (.own (s.heap.objs.size + 1))) := M.fresh hd0
  have Mb := Ma.push (o := .ins C []) (u := .ins C s.heap.objs.size []) hx1 ⟨s.heap.objs.size, [], by rw [hat]; exact upd_same, .nil⟩
  have Eb : Ext h.length (h.length + 1) f (ext1 f h.length (s.heap.objs.size + 1)) H _ := (Ext.fresh hd0).trans (Ext.push (o := .ins C s.heap.objs.size []) hx1)
  have self : RV X.KW (ext1 f h.length (s.heap.objs.size + 1)) (h.length + 1) (upd (upd H s.heap.objs.size (.own (s.heap.objs.size + 1))) (s.heap.objs.size + 1) (.ins C s.heap.objs.size [])) (.ref h.length) (.ref (s.heap.objs.size + 1)) := by
    have := RV.ref (K := X.KW) (f := ext1 f h.length (s.heap.objs.size + 1)) (n := h.length + 1) (H := upd (upd H s.heap.objs.size (.own (s.heap.objs.size + 1))) (s.heap.objs.size + 1) (.ins C s.heap.objs.size [])) (i := h.length) (Nat.lt_succ_self _)
    rw [ext1_eq] at this
    exact this
  have rs2 := RVs.cons self (rs.ext M Eb)
  have hlen1 : (h ++ [O.ins C []]).length = h.length + 1 := by simp
  have hl : (D.ref h.length :: xs).length = ps.length := Decidable.byContradiction fun z => by
    unfold mkD at post
    rw [G.len _ _ z] at post
    exact post
  have hul : (Value.ref (s.heap.objs.size + 1) :: us).length = ps.length := by
    rw [← hl, List.length_cons, List.length_cons, ← r.length, ← rs.length]
  have bt := hb _ (Value.ref (s.heap.objs.size + 1) :: us) I2.kIn (by rw [List.append_nil]; exact hul)
  rw [List.append_nil] at bt
  have post' : Post X.KW at_ (fun c d _ H => WE W σ c d H) (relV X.KW) (h ++ [O.ins C []]).length (ext1 f h.length (s.heap.objs.size + 1)) (upd (upd H s.heap.objs.size (.own (s.heap.objs.size + 1))) (s.heap.objs.size + 1) (.ins C s.heap.objs.size [])) []
      (F (D.ref h.length :: xs) (h ++ [O.ins C []])) (fun v H2 => v = .non ∧ Q (.ref (s.heap.objs.size + 1)) H2) := by
    unfold mkD at post
    rw [hlen1]
    cases z : F (D.ref h.length :: xs) (h ++ [O.ins C []]) with
    | ok d h' =>
      rw [z] at post
      cases d with
      | non =>
        intro f' H' b E' M' rb
        cases rb
        refine ⟨rfl, post f' H' _ (Eb.trans E') M' ?_⟩
        have hn : h.length < h'.length := Nat.lt_of_lt_of_le (Nat.lt_succ_self _) E'.le
        have := RV.ref (K := X.KW) (f := f') (n := h'.length) (H := H') (i := h.length) hn
        rw [E'.agr _ (Nat.lt_succ_self _), ext1_eq] at this
        exact this
      | _ => exact False.elim post
    | exc c fs h' =>
      rw [z] at post
      exact fun f' H' cls dx E' M' xx => post f' H' cls dx (Eb.trans E') M' xx
    | bad => rw [z] at post; exact post
  have gd : (X.A.under (.builtin "type.__call__" ⟨.ref C :: us, []⟩)).guards = some [] := by
    have := hr.gd
    first | exact this | (simpa [Around.under, Code.isGuard, guardIds] using this)
  refine wpAny_call (make_map (f := g) I.kIn mk.makes mk.init (beq_iff_eq.mp mk.fn) (codeAny_mono (G.run _ X.stack _ _ ⟨Value.ref (s.heap.objs.size + 1) :: us, []⟩ (Value.ref (s.heap.objs.size + 1) :: us) (V.ref (s.heap.objs.size + 1) :: vs) _ (WE W σ) _ _ _ (hr.room.make C us []) gd
    (I2.env0.make C us []) bt (.cons rfl r) Mb (by rw [hlen1]; exact rs2) post') fun fl s' hq => ?_))
  cases fl with
  | error ex => exact passAt tk σ pins _ _ ex s' I2 hq
  | ok fl =>
    cases fl with
    | ret u =>
      obtain ⟨v, H', I3, rv, ev, q3⟩ := I2.after hq
      subst ev
      exact ⟨rv, ⟨V.ref (s.heap.objs.size + 1), H', I3, rfl, q3⟩⟩
    | next => exact False.elim hq
    | brk => exact False.elim hq
    | cont => exact False.elim hq
/-- C(..), by content -/
noncomputable def mkZ (c : Nat) (F : List D → Hh → R D) : List D → Hh → R D := fun ds h => tidyZ h (mkD c F ds h)
theorem pe_mkS (hat : ∀ c, at_ c = c) (mk : Mk X.K C g) (G : FnS X.prog X.w X.K X.mg X.base at_ k g fd ps F) (hr : Rm X (k + 1)) (hm : X.mg x = some (.ref C)) (hb : Binds X.K fd ps []) (tk : Takes X W) {t1 : TA} (p1 : PA X (e :: es) t1)
    (hg : Gl X x) (hdb : (x == ("__debug__" : Str)) = false)
    (he : starEach (e :: es) X.env = (false, eval e X.env) :: starEach es X.env) (hpl : (backTo pos (starEach es X.env)).any (·.1) = false) : PE X (.Call (.Name x p) (e :: es) [] pos) (tFn X.KW at_ W (mkD C F) t1) := ⟨fun pins s σ H Q I hq => by
  refine wpAny_Call_Name_kw (ld_glob I hg hm ?_ hdb)
  refine PySem.W.callWith_K (h₀ := X.base) I.ok.mod.kin mk.kp (thn (p1.run pos pins s σ H _ I hq) fun us s1 hh => ?_) he hpl
  obtain ⟨vs, H1, I1, r, f, h, xs, M, rs, post⟩ := hh
  exact ⟨I1.kIn, run_mkS hat mk G hr hb tk I1 r M rs post⟩⟩
theorem se_make (hat : ∀ c, at_ c = c) (mk : Mk X.K C g) (G : FnS X.prog X.w X.K X.mg X.base at_ k g fd ps F) (hr : Rm X (k + 1)) (hm : X.mg x = some (.ref C)) (hb : Binds X.K fd ps []) (tk : Takes X W) (ha : SA X at_ W (e :: es) as)
    (hg : Gl X x := by rfl) (hdb : (x == ("__debug__" : Str)) = false := by decide)
    (he : starEach (e :: es) X.env = (false, eval e X.env) :: starEach es X.env := by rfl) (hpl : (backTo pos (starEach es X.env)).any (·.1) = false := by rfl) : SE X at_ W (.Call (.Name x p) (e :: es) [] pos) (eF (mkD C F) as) := by
  obtain ⟨t1, p1, q1⟩ := ha.ex
  exact ⟨⟨_, pe_mkS hat mk G hr hm hb tk p1 hg hdb he hpl, tFn_snd q1⟩⟩
theorem se_makeZ (hat : ∀ c, at_ c = c) (mk : Mk X.K C g) (G : FnS X.prog X.w X.K X.mg X.base at_ k g fd ps F) (hr : Rm X (k + 1)) (hm : X.mg x = some (.ref C)) (hb : Binds X.K fd ps []) (tk : Takes X W) (ha : SA X at_ W (e :: es) as)
    (hg : Gl X x := by rfl) (hdb : (x == ("__debug__" : Str)) = false := by decide)
    (he : starEach (e :: es) X.env = (false, eval e X.env) :: starEach es X.env := by rfl) (hpl : (backTo pos (starEach es X.env)).any (·.1) = false := by rfl) : SE X at_ W (.Call (.Name x p) (e :: es) [] pos) (eF (mkZ C F) as) := by
  obtain ⟨t1, p1, q1⟩ := ha.ex
  refine ⟨⟨_, pe_frz (pe_mkS hat mk G hr hm hb tk p1 hg hdb he hpl), fun f h H S σ M e Q P => ?_⟩⟩
  refine q1 f h H S σ M e _ (Post.step P fun xs h1 f1 H1 vs E1 M1 r1 P1 => ?_)
  exact ⟨f1, h1, xs, M1, r1, Post.tidyZ hat M1 P1⟩
end
end
end PV
set_option Elab.async false
set_option linter.all false
set_option autoImplicit false
set_option maxRecDepth 100000
set_option maxHeartbeats 2000000
/-! PVT: types: isinstance. -/
namespace PV
open PySem PySem.Spec PyProof.Rows L2
def Tk.v : Tk → Value
  | .bi n => .type n
  | .own c => .ref c
abbrev builtTypes : List String := ["NoneType", "bool", "int", "str", "tuple", "list", "dict"]
/-- what is asked of an own class, to be looked at by isinstance -/
structure ClsI (K : Frag) (C : Nat) : Prop where
  cl : Cls K C
  at_ : PySem.W.findIn K (.ref C) "__class__" = some (some (.builtin "object.__class__"))
  get : PySem.W.specialIn K (.builtin "object.__class__") "__get__" = some (some (.builtin "getset_descriptor.__get__"))
  take : PySem.W.takesIn K (.builtin "object.__class__") = some true
  mro : PySem.W.mroIn K C (.type "object") = some true
structure IsiOk (K : Frag) (cs : List Nat) (t : Tk) : Prop where
  bi : ∀ a ∈ builtTypes, PySem.W.kitOne K (.type a) t.v = some (tkIs t (.bi a))
  own : ∀ c, cs.contains c = true → ClsI K c ∧ PySem.W.kitOne K (.ref c) t.v = some (tkIs t (.own c))
section
variable {X : Cx} {at_ : Cl} {W : WX} {pins : List (Addr × Obj)} {σ : L2.St} {H : Hp} {s : Shared} {f : Fm} {h : Hh} {n : Nat}
theorem raw_at {a : Addr} {es : List DictEntry} {w : World} {P : Program} (x : ObjOk P w H s.heap a (rawD a es)) : PySem.W.KitAt a "dict" s.heap := by
  obtain ⟨⟨_, _, ea, ep, ⟨o, ho, hc, _⟩, _⟩, _⟩ := x
  exact ⟨o, ho, hc.1⟩
theorem tk_bi {d : D} {v : V} {m : String} (r : RV X.KW f n H d v) (M : Sm X.KW at_ f h H) (hn : n = h.length) (e : tkOf h d = some (.bi m)) : m ∈ builtTypes := by
  cases r with
  | ref hi =>
    rename_i k
    have e : (match h[k]? with
      | some (.lst _) => some (.bi "list")
      | some (.dic _) => some (.bi "dict")
      | some (.ins c _) => some (.own c)
      | none => none) = some (Tk.bi m) := e
    cases z : h[k]? with
    | none => rw [z] at e; cases e
    | some o => cases o <;> (rw [z] at e; cases e) <;> decide
  | fi => cases e
  | _ => cases e; decide
/-- what the isinstance rules ask of such a value -/
theorem kit_rv {d : D} {x : V} {u : Value} {t : Tk} (hat : ∀ c, at_ c = c) (I : Inv X pins σ H s) (M : Sm X.KW at_ f h H) (r : RV X.KW f h.length H d x) (rx : RelV x u) (ht : tkOf h d = some t) (hc : ∀ c, t = .own c → ClsI X.K c) :
    ∃ P : Heap → Prop, PySem.W.KitX X.K u t.v P ∧ P s.heap ∧ u ≠ .builtin "__main__.__loader__#opaque" := by
  have inst : ∀ {a C dx : Addr} {fs : List (Str × V)}, Rd H a (.ins C dx fs) → ClsI X.K C → ∃ P : Heap → Prop, PySem.W.KitX X.K (.ref a) (.ref C) P ∧ P s.heap ∧ (Value.ref a) ≠ .builtin "__main__.__loader__#opaque" := by
    intro a C dx fs e c
    obtain ⟨_, _, ne, ob, mA, ns, _⟩ := (show ObjOk X.prog X.w H s.heap a (.ins C dx fs) from e.ok I.hok)
    obtain ⟨od, J, _⟩ := (⟨ob, ns, ne⟩ : ObjM s.heap a dx C mA).look
    exact ⟨_, PySem.W.kitx_own (c.cl.get _) c.cl.hd c.at_ c.get c.take c.mro, J, fun z => nomatch z⟩
  have lst : ∀ {a : Addr} {xs : List V}, Rd H a (.lst xs) → ∃ P : Heap → Prop, PySem.W.KitX X.K (.ref a) (.type "list") P ∧ P s.heap ∧ (Value.ref a) ≠ .builtin "__main__.__loader__#opaque" := by
    intro a xs e
    obtain ⟨_, its, m, _, q⟩ := e.ok I.hok
    exact ⟨_, PySem.W.kitx_list, ⟨_, q, rfl⟩, fun z => nomatch z⟩
  cases r with
  | non => cases ht; cases (show u = Value.none from rx); exact ⟨_, PySem.W.kitx_none, True.intro, fun z => nomatch z⟩
  | bl y => cases ht; cases (show u = Value.bool y from rx); exact ⟨_, PySem.W.kitx_bool, True.intro, fun z => nomatch z⟩
  | int i => cases ht; obtain ⟨t, q⟩ := (show ∃ t, u = Value.int i t from rx); cases q; exact ⟨_, PySem.W.kitx_int, True.intro, fun z => nomatch z⟩
  | str y => cases ht; obtain ⟨t, q⟩ := (show ∃ t, u = Value.str y t from rx); cases q; exact ⟨_, PySem.W.kitx_str, True.intro, fun z => nomatch z⟩
  | tup hq hs =>
    cases ht
    cases rx
    obtain ⟨_, _, ⟨o, h1, h2, _⟩, _⟩ := I.tuple hq
    exact ⟨_, PySem.W.kitx_tuple, ⟨o, h1, h2⟩, fun z => nomatch z⟩
  | fz hq hs => cases ht; cases rx; exact lst (.inr ⟨_, hq⟩)
  | fd hq _ _ _ _ _ _ =>
    cases ht
    cases rx
    obtain ⟨_, q⟩ := (show ObjOk X.prog X.w H s.heap _ (.frz _ _) from I.hok _ _ hq)
    exact ⟨_, PySem.W.kitx_dict, raw_at q, fun z => nomatch z⟩
  | fi hq _ _ _ => cases ht; cases rx; exact inst (.inr ⟨_, hq⟩) (hc _ rfl)
  | ref hi =>
    rename_i k
    cases rx
    have e : (match h[k]? with
      | some (.lst _) => some (.bi "list")
      | some (.dic _) => some (.bi "dict")
      | some (.ins c _) => some (.own c)
      | none => none) = some t := ht
    cases z : h[k]? with
    | none => rw [z] at e; cases e
    | some o =>
      have ro := M.obj k o z
      cases o with
      | lst xs =>
        rw [z] at e; cases e
        obtain ⟨vs, q, _⟩ := ro
        exact lst (.inl q)
      | dic kvs =>
        rw [z] at e; cases e
        obtain ⟨es, q, _⟩ := ro
        exact ⟨_, PySem.W.kitx_dict, raw_at (I.hok _ _ q), fun z => nomatch z⟩
      | ins c fs =>
        rw [z] at e; cases e
        obtain ⟨dx, gs, q, _⟩ := ro
        rw [hat] at q
        exact inst (.inl q) (hc _ rfl)
def rIsP (X : Cx) (at_ : Cl) : List V → Hp → VK → Prop := fun xs H Q => ∃ (x c : V) (t : Tk) (b : Bool) (f : Fm) (h : Hh) (d : D), xs = [x, c] ∧ ClsV c t.v ∧ Sm X.KW at_ f h H ∧ RV X.KW f h.length H d x ∧ (∃ a, tkOf h d = some a ∧ (∀ c, a = .own c → ClsI X.K c) ∧ PySem.W.kitOne X.K a.v t.v = some b) ∧ Q (.bl b) H
theorem call_isP (hat : ∀ c, at_ c = c) : CallR X (.builtin "isinstance") (rIsP X at_) := by
  intro pins s σ H xs us Q I r hh
  obtain ⟨x, c, t, b, f, h, d, rfl, k, M, rd, ⟨a, e1, e2, e3⟩, q⟩ := hh
  obtain ⟨u1, u2, rfl, r1, r2⟩ := vals2 r
  have e4 := k.eq r2
  subst e4
  obtain ⟨P, Z, p, hx⟩ := kit_rv hat I M rd r1 e1 e2
  exact PySem.W.kia_one Z I.kIn p e3 hx fun tk => ⟨.bl b, H, I.tok tk, rfl, q⟩
variable {a b : Expr} {ma mb : Ex} {pos p p2 : Pos}
theorem isi_snd {cs : List Nat} {t : Tk} {cv : V} {t1 t2 : TE} (hk : IsiOk X.K cs t) (hv : ClsV cv t.v) (q1 : Snd X.KW at_ W (relV X.KW) t1 ma) :
    Snd X.KW at_ W (relV X.KW) (tCB (rIsP X at_) (tCons t1 (tCons (tC cv) tNil))) (e1 (isiD cs t) ma) := by
  intro f h H S σ M e Q P
  refine q1 f h H S σ M e _ (Post.step P fun d h1 f1 H1 v1 E1 M1 r1 P1 => ?_)
  unfold isiD at P1
  show rIsP X at_ [v1, cv] H1 Q
  cases z : tkOf h1 d with
  | none => rw [z] at P1; exact False.elim P1
  | some a =>
    rw [z] at P1
    cases a with
    | bi n =>
      exact ⟨v1, cv, t, _, f1, h1, d, rfl, hv, M1, r1, ⟨.bi n, z, (fun c z => nomatch z), hk.bi n (tk_bi r1 M1 rfl z)⟩, P1.ok M1 (.bl _)⟩
    | own c =>
      dsimp only at P1
      by_cases y : cs.contains c = true
      · rw [if_pos y] at P1
        obtain ⟨k1, k2⟩ := hk.own c y
        exact ⟨v1, cv, t, _, f1, h1, d, rfl, hv, M1, r1, ⟨.own c, z, (fun c' e => by cases e; exact k1), k2⟩, P1.ok M1 (.bl _)⟩
      · rw [if_neg y] at P1; exact False.elim P1
/-- isinstance(a, T) of a built-in type -/
theorem se_isiB {cs : List Nat} {T : String} {x : Str} (hat : ∀ c, at_ c = c) (hk : IsiOk X.K cs (.bi T)) (ha : SE X at_ W a ma) (hm0 : X.mg "isinstance" = none) (hmx : X.mg x = none) (hb : bootBuiltins x = some (.type T) := by rfl)
    (hg0 : Gl X "isinstance" := by rfl) (hg : Gl X x := by rfl) (hn : x ≠ "__name__" := by decide) (hd : (x == ("__debug__" : Str)) = false := by decide)
    (he : starEach (a :: [.Name x p2]) X.env = (false, eval a X.env) :: starEach [.Name x p2] X.env := by rfl) (he2 : starEach [.Name x p2] X.env = (false, eval (.Name x p2) X.env) :: starEach [] X.env := by rfl) (hpl : (backTo pos (starEach [.Name x p2] X.env)).any (·.1) = false := by rfl) :
    SE X at_ W (.Call (.Name "isinstance" p) [a, .Name x p2] [] pos) (e1 (isiD cs (.bi T)) ma) := by
  obtain ⟨t1, p1, q1⟩ := ha.ex
  exact ⟨⟨_, pe_callB (call_isP (at_ := at_) hat) hg0 hm0 (by rfl) (pa_cons p1 (pa_cons (pe_bltn (pos := p2) hg hmx hb (v := .ty T) rfl hn hd) pa_nil he2) he) (by decide) (by decide) he hpl, isi_snd (t2 := t1) hk (.ty T) q1⟩⟩
/-- .. of a class of the text -/
theorem se_isiC {cs : List Nat} {C : Nat} {x : Str} (hat : ∀ c, at_ c = c) (hk : IsiOk X.K cs (.own C)) (ha : SE X at_ W a ma) (hm0 : X.mg "isinstance" = none) (hmx : X.mg x = some (.ref C))
    (hg0 : Gl X "isinstance" := by rfl) (hg : Gl X x := by rfl) (hd : (x == ("__debug__" : Str)) = false := by decide)
    (he : starEach (a :: [.Name x p2]) X.env = (false, eval a X.env) :: starEach [.Name x p2] X.env := by rfl) (he2 : starEach [.Name x p2] X.env = (false, eval (.Name x p2) X.env) :: starEach [] X.env := by rfl) (hpl : (backTo pos (starEach [.Name x p2] X.env)).any (·.1) = false := by rfl) :
    SE X at_ W (.Call (.Name "isinstance" p) [a, .Name x p2] [] pos) (e1 (isiD cs (.own C)) ma) := by
  obtain ⟨t1, p1, q1⟩ := ha.ex
  exact ⟨⟨_, pe_callB (call_isP (at_ := at_) hat) hg0 hm0 (by rfl) (pa_cons p1 (pa_cons (pe_glob (pos := p2) hg hmx (v := .ref C) rfl hd) pa_nil he2) he) (by decide) (by decide) he hpl, isi_snd (t2 := t1) hk (.own C) q1⟩⟩
end
end PV
set_option Elab.async false
set_option linter.all false
set_option autoImplicit false
set_option maxRecDepth 100000
set_option maxHeartbeats 2000000
/-! PVI: what a for statement and a comprehension walk. -/
namespace PV
open PySem PySem.Spec PyProof.Rows L2
/-! ### lists and tuples alike -/
def sq (K : Frag) (H : Hp) (t : Bool) (a : Addr) (xs : List V) : Prop := if t = true then SqT K H a xs else SqL K H a xs
def itr (h : Heap) (t : Bool) (it a : Addr) (i : Nat) : Prop := if t = true then h.IsTupleIter it a i else h.IsListIter it a i
def cont (h : Heap) (t : Bool) (a : Addr) (items : Array Value) : Prop := if t = true then h.IsTuple a items else h.IsList a items
def itO (t : Bool) (a : Addr) : Obj := { cls := .type (if t = true then "tuple_iterator" else "list_iterator"), data := .fields #[.ref a, .int 0 0] }
section
variable {X : Cx} {at_ : Cl} {W : WX} {pins : List (Addr × Obj)} {σ : L2.St} {H : Hp} {s : Shared} {t : Bool} {a it : Addr} {xs ys : List V} {h h' : Heap}
theorem sq_at (I : Inv X pins σ H s) (q : sq X.K H t a xs) : ∃ its : List Value, Vals xs its ∧ cont s.heap t a its.toArray ∧ xs.length ≤ sizeLine := by
  cases t with
  | true => exact I.tuple q
  | false =>
    obtain ⟨its, r, p, z⟩ := I.list q
    exact ⟨its, r, p.isList, z⟩
theorem sq_inj (I : Inv X pins σ H s) (q : sq X.K H t a xs) (q2 : sq X.K H t a ys) : xs = ys := by
  cases t with
  | true => exact I.tuple_inj q q2
  | false => exact I.list_inj q q2
theorem itr_obj {i : Nat} (x : itr h t it a i) : ∃ o, h.get? it = some o ∧ o.cls = .type (if t = true then "tuple_iterator" else "list_iterator") ∧ ∀ v, o.data ≠ .cell v := by
  cases t with
  | true => obtain ⟨o, e, c, d⟩ := x; exact ⟨o, e, c, fun v z => by rw [d] at z; cases z⟩
  | false => obtain ⟨o, e, c, d⟩ := x; exact ⟨o, e, c, fun v z => by rw [d] at z; cases z⟩
theorem itr_at {i : Nat} (x : itr h t it a i) (k : ∀ o, h.get? it = some o → h'.get? it = some o) : itr h' t it a i := by
  cases t with
  | true => exact Heap.IsTupleIter.at x k
  | false => exact Heap.IsListIter.at x k
theorem cont_obj {items : Array Value} (x : cont h t a items) : ∃ o, h.get? a = some o ∧ o.cls = .type (if t = true then "tuple" else "list") := by
  cases t with
  | true => obtain ⟨o, e, c, _⟩ := x; exact ⟨o, e, c⟩
  | false => obtain ⟨o, e, c, _⟩ := x; exact ⟨o, e, c⟩
theorem apart {i : Nat} {items : Array Value} (x : itr h t it a i) (y : cont h t a items) : a ≠ it := fun z => by
  obtain ⟨o, e, c, _⟩ := itr_obj x
  obtain ⟨o', e', c'⟩ := cont_obj y
  rw [z, e] at e'
  cases e'
  rw [c] at c'
  cases t <;> simp at c'
theorem draws_sq {prog : Program} {w : World} {A : Around} (hh : A.handled = none) (hne : a ≠ it) (items : Array Value) : Draws prog w A it [it, a] items.size (fun i v => items[i]? = some v) (fun i h => itr h t it a i ∧ cont h t a items) := by
  cases t with
  | true => exact Draws.tuple hh it a hne items
  | false => exact Draws.list hh it a hne items
theorem begins_sq (items : Array Value) : Begins (.ref a) (itO t a) fun h => cont h t a items := by
  cases t with
  | true => exact begins_tuple a items
  | false => exact begins_list a items
theorem itr_new (k : h.get? it = some (itO t a)) : itr h t it a 0 := by
  cases t with
  | true => exact ⟨_, k, rfl, rfl⟩
  | false => exact ⟨_, k, rfl, rfl⟩
end
/-- enumerate of a list, a tuple -/
def ItEn (K : Frag) (t : Bool) (a : Addr) : It where
  go i H := ∃ (xs : List V) (x : V), sq K H t a xs ∧ xs[i]? = some x
  yld i H v H' := ∃ T x, v = .ref T ∧ H T = none ∧ H' = upd H T (.tup [.int (i : Nat), x]) ∧ ∀ xs, sq K H t a xs → xs[i]? = some x
  stop i H := ∃ xs : List V, sq K H t a xs ∧ xs.length = i
theorem turn_en {P : Program} {w : World} {K : Frag} {elts : List Expr} {kk : Nat} {tpos : Pos} {t : Bool} (a e it : Addr) :
    Turn P w K (.Tuple elts kk tpos) (ItEn K t a) [e, it] e (fun i h => (∃ old, IsEnum h e it ((i : Nat) : Int) old) ∧ itr h t it a i ∧ e ≠ it) where
  mem := by simp
  obj i h st b hb := by
    obtain ⟨⟨old, he⟩, hi, _⟩ := st
    rcases (show b = e ∨ b = it by simpa using hb) with rfl | rfl
    · exact ⟨_, he, fun v q => nomatch q⟩
    · obtain ⟨o, h1, _, h2⟩ := itr_obj hi; exact ⟨o, h1, h2⟩
  keep i h h' st k := let ⟨⟨old, he⟩, hi, hne⟩ := st; ⟨⟨old, k e (by simp) _ he⟩, itr_at hi fun o q => k it (by simp) o q, hne⟩
  item := by
    intro X hP hw hK hc i pins s σ H E I hf st hg
    subst hP hw hK
    obtain ⟨⟨old, he⟩, hit, hne⟩ := st
    obtain ⟨xs, x, hq, hx⟩ := hg
    obtain ⟨its, rv, p, _⟩ := sq_at I hq
    obtain ⟨u, hu, ru⟩ := rv.get hx
    have hel : e < s.heap.objs.size := Heap.lt_size he
    have hil : it < s.heap.objs.size := let ⟨_, q, _⟩ := itr_obj hit; Heap.lt_size q
    have hlt : i < its.toArray.size := by rw [List.size_toArray, ← rv.length]; exact (List.getElem?_eq_some_iff.mp hx).1
    have hea : e ∉ [it, a] := fun hm => by
      rcases (show e = it ∨ e = a by simpa using hm) with z | z
      · exact hne z
      · obtain ⟨o, h1, h2⟩ := cont_obj p
        rw [← z, he] at h1
        cases h1
        cases t <;> simp at h2
    refine wpAny_pyNext_enum_itemC (draws_sq (t := t) (A := X.A.in1) (I.ok.hd hc) (apart hit p) its.toArray) he ⟨hit, p⟩ hlt hne hea fun y h' tk hy ho st' hT hsz hk => ?_
    have eyu : y = u := by
      have hu' : its.toArray[i]? = some u := by simpa using hu
      rw [hu'] at hy
      exact (Option.some.inj hy).symm
    subst eyu
    refine ⟨_, rfl, wpAny_letOwnedTupleGo_enum (s := { s with heap := h', toks := tk + 1 }) ho fun h'' he' sb => ?_⟩
    have hT2 : h''.get? s.heap.objs.size = some { cls := .type "tuple", data := .seq #[.int i tk, y] } := (sb.2 _ (Nat.ne_of_gt hel)).trans hT
    have new : ObjOk X.prog X.w (upd H s.heap.objs.size (.tup [.int (i : Nat), x])) h'' s.heap.objs.size (.tup [.int (i : Nat), x]) :=
      ⟨by show 2 ≤ sizeLine; decide, [.int i tk, y], .cons ⟨_, rfl⟩ (.cons ru .nil), ⟨_, hT2, rfl, _, rfl⟩⟩
    have I1 : Inv X pins σ (upd H s.heap.objs.size (.tup [.int (i : Nat), x])) { s with heap := h'', toks := tk + 1 } :=
      I.turnedNew (ch := [e, it]) (fun b ob hb q => (sb.2 b (fun z => hb (by simp [z]))).trans (hk b ob (fun z => hb (by simp [z])) (fun z => hb (by simp [z])) q)) hf (Nat.le_refl _) new
    refine ⟨.ref s.heap.objs.size, _, I1, rfl, ⟨_, x, rfl, I.hok.fresh (Nat.le_refl _), rfl, fun ys hy => by rw [sq_inj I hy hq]; exact hx⟩, ⟨⟨y, ?_⟩, itr_at st'.1 fun o q => (sb.2 it (Ne.symm hne)).trans q, hne⟩, fun b hb => ?_⟩
    · rw [show ((i + 1 : Nat) : Int) = (i : Int) + 1 by omega]; exact he'
    · have hb' : b < s.heap.objs.size := by
        rcases (show b = e ∨ b = it by simpa using hb) with z | z
        · rw [z]; exact hel
        · rw [z]; exact hil
      rw [upd_ne (Nat.ne_of_lt hb')]
      exact (hf b hb).1
  done := by
    intro X hP hw hK hc i pins s σ H E I hf st hg
    subst hP hw hK
    obtain ⟨⟨old, he⟩, hit, hne⟩ := st
    obtain ⟨xs, hq, hx⟩ := hg
    obtain ⟨its, rv, p, _⟩ := sq_at I hq
    obtain ⟨f0, f1, f2, f3, f4, f5⟩ := hf it (by simp)
    have hn : its.toArray.size = i := by rw [List.size_toArray, ← rv.length]; exact hx
    exact wpAny_pyNext_enum_endD (draws_sq (t := t) (A := X.A.in1) (I.ok.hd hc) (apart hit p) its.toArray) he ⟨by rw [hn]; exact hit, p⟩ fun h' eb => ⟨rfl, I.turned (t' := s.toks) (fun b o hb q => eb b o hb q) f0 f1 f3 f4 f5⟩
  self A i s Q E st h := let ⟨⟨_, he⟩, _⟩ := st; wpAny_pyIter_enum he h
/-- zip of two, each a list or a tuple -/
def ItZz (K : Frag) (t u : Bool) (a b : Addr) : It where
  go i H := ∃ (xs ys : List V) (x y : V), sq K H t a xs ∧ sq K H u b ys ∧ xs[i]? = some x ∧ ys[i]? = some y
  yld i H v H' := ∃ T x y, v = .ref T ∧ H T = none ∧ H' = upd H T (.tup [x, y]) ∧ (∀ xs, sq K H t a xs → xs[i]? = some x) ∧ ∀ ys, sq K H u b ys → ys[i]? = some y
  stop i H := ∃ xs ys : List V, sq K H t a xs ∧ sq K H u b ys ∧ i = min xs.length ys.length
structure ZzOk (z TI TO i1 i2 : Addr) : Prop where
  nd : [z, TI, TO, i1, i2].Nodup
/-- the cells lie apart -/
theorem zz_sep {h : Heap} {z TI TO i1 i2 a b : Addr} {t u : Bool} {i : Nat} {xs ys : Array Value} {a1 a2 : Value} (D : ZzOk z TI TO i1 i2) (hz : IsZip h z TI TO .none) (hO : IsTupOf2 h TO a1 a2) (h1 : itr h t i1 a i) (h2 : itr h u i2 b i) (p1 : cont h t a xs) (p2 : cont h u b ys)
    (oT : TO ≠ a) (oU : TO ≠ b) : ZipSep2 z TI TO i1 i2 [i1, a] [i2, b] := by
  have nd := D.nd
  simp only [List.nodup_cons, List.mem_cons, List.not_mem_nil, or_false, not_or, List.nodup_nil, and_true, not_false_eq_true] at nd
  obtain ⟨⟨n1, n2, n3, n4⟩, ⟨n5, n6, n7⟩, ⟨n8, n9⟩, n10⟩ := nd
  have ne : ∀ {q c : Addr} {v : Bool} {its : Array Value}, (∃ o, h.get? q = some o ∧ o.cls ≠ .type "list" ∧ o.cls ≠ .type "tuple") → cont h v c its → q ≠ c := fun {q c v its} ⟨o, e, k1, k2⟩ y z => by
    obtain ⟨o', e', c'⟩ := cont_obj y
    subst z
    rw [e] at e'
    cases e'
    cases v
    · exact k1 (by simpa using c')
    · exact k2 (by simpa using c')
  have zo : ∃ o, h.get? z = some o ∧ o.cls ≠ .type "list" ∧ o.cls ≠ .type "tuple" := ⟨_, hz, by simp, by simp⟩
  have io : ∀ {q c : Addr} {v : Bool}, itr h v q c i → ∃ o, h.get? q = some o ∧ o.cls ≠ .type "list" ∧ o.cls ≠ .type "tuple" := fun {q c v} x => by
    obtain ⟨o, e, k, _⟩ := itr_obj x
    refine ⟨o, e, ?_, ?_⟩ <;> (rw [k]; cases v <;> simp)
  refine ⟨?_, ?_, ?_, ?_, ?_, ?_, ?_, ?_, ?_, ?_, ?_, ?_, ?_⟩ <;> first
    | exact Ne.symm n1 | exact Ne.symm n2 | exact n5 | exact n6 | exact n7
    | (simp; done)
    | (simp only [List.mem_cons, List.not_mem_nil, or_false, not_or]; first
        | exact ⟨n3, ne zo p1⟩ | exact ⟨n4, ne zo p2⟩ | exact ⟨n8, oT⟩ | exact ⟨n9, oU⟩ | exact ⟨n10, ne (io h1) p2⟩ | exact ⟨Ne.symm n10, ne (io h2) p1⟩)
theorem fp_ne {X : Cx} {pins : List (Addr × Obj)} {σ : L2.St} {H : Hp} {s : Shared} {t : Bool} {a b : Addr} {xs : List V} (I : Inv X pins σ H s) (q : sq X.K H t a xs) (f : FpOk X pins H b) : b ≠ a := fun z => by
  subst z
  obtain ⟨f0, _, _, f3, _, _⟩ := f
  have inK : ∀ o, X.K.lookup b = some o → False := fun o hk => by
    have e := I.ok.mod.kin b o hk
    rcases f3 with z | z
    · exact I.ok.noex b o e z
    · exact absurd (Nat.lt_of_lt_of_le (Nat.lt_of_lt_of_le (Heap.lt_size e) I.ok.bsz) z) (Nat.lt_irrefl _)
  have inH : ∀ u, Rd H b u → False := fun u r => by
    rcases r with r | ⟨o, r⟩ <;> (rw [f0] at r; cases r)
  cases t with
  | true =>
    rcases q with q | ⟨o, _, _, hk, _⟩
    · exact inH _ q
    · exact inK o hk
  | false =>
    rcases q with q | ⟨o, _, _, hk, _⟩
    · exact inH _ q
    · exact inK o hk
theorem turn_zz {P : Program} {w : World} {K : Frag} {elts : List Expr} {kk : Nat} {tpos : Pos} {t u : Bool} {a b z TI TO i1 i2 : Addr} (D : ZzOk z TI TO i1 i2) :
    Turn P w K (.Tuple elts kk tpos) (ItZz K t u a b) [z, TI, TO, i1, i2] z (fun i h => IsZip h z TI TO .none ∧ IsTupOf2 h TI (.ref i1) (.ref i2) ∧ (∃ x y, IsTupOf2 h TO x y) ∧ itr h t i1 a i ∧ itr h u i2 b i) where
  mem := by simp
  obj i h st c hc := by
    obtain ⟨hz, hTI, ⟨x, y, hTO⟩, h1, h2⟩ := st
    rcases (show c = z ∨ c = TI ∨ c = TO ∨ c = i1 ∨ c = i2 by simpa using hc) with rfl | rfl | rfl | rfl | rfl
    · exact ⟨_, hz, fun v q => nomatch q⟩
    · exact ⟨_, hTI, fun v q => nomatch q⟩
    · exact ⟨_, hTO, fun v q => nomatch q⟩
    · obtain ⟨o, q1, _, q2⟩ := itr_obj h1; exact ⟨o, q1, q2⟩
    · obtain ⟨o, q1, _, q2⟩ := itr_obj h2; exact ⟨o, q1, q2⟩
  keep i h h' st k := by
    obtain ⟨hz, hTI, ⟨x, y, hTO⟩, h1, h2⟩ := st
    exact ⟨k z (by simp) _ hz, k TI (by simp) _ hTI, ⟨x, y, k TO (by simp) _ hTO⟩, itr_at h1 fun o q => k i1 (by simp) o q, itr_at h2 fun o q => k i2 (by simp) o q⟩
  item := by
    intro X hP hw hK hc i pins s σ H E I hf st hg
    subst hP hw hK
    obtain ⟨hz, hTI, ⟨x0, y0, hTO⟩, h1, h2⟩ := st
    obtain ⟨xs, ys, x, y, qx, qy, hx, hy⟩ := hg
    obtain ⟨its, rv, p, _⟩ := sq_at I qx
    obtain ⟨its2, rv2, p2, _⟩ := sq_at I qy
    obtain ⟨v, hv, rv1⟩ := rv.get hx
    obtain ⟨v2, hv2, rv3⟩ := rv2.get hy
    have hzl : z < s.heap.objs.size := Heap.lt_size hz
    have hlt1 : i < its.toArray.size := by rw [List.size_toArray, ← rv.length]; exact (List.getElem?_eq_some_iff.mp hx).1
    have hlt2 : i < its2.toArray.size := by rw [List.size_toArray, ← rv2.length]; exact (List.getElem?_eq_some_iff.mp hy).1
    have sep := zz_sep D hz hTO h1 h2 p p2 (fp_ne I qx (hf TO (by simp))) (fp_ne I qy (hf TO (by simp)))
    refine wpAny_pyNext_zipD2_item sep (draws_sq (t := t) (A := X.A.in1) (I.ok.hd hc) (apart h1 p) its.toArray) (draws_sq (t := u) (A := X.A.in1) (I.ok.hd hc) (apart h2 p2) its2.toArray) hz hTI hTO ⟨h1, p⟩ ⟨h2, p2⟩ hlt1 hlt2 fun w1 w2 h' tk e1 e2 z' TO' st1 st2 hT hsz hk => ?_
    have ew1 : w1 = v := by
      have hu : its.toArray[i]? = some v := by simpa using hv
      rw [hu] at e1
      exact (Option.some.inj e1).symm
    have ew2 : w2 = v2 := by
      have hu : its2.toArray[i]? = some v2 := by simpa using hv2
      rw [hu] at e2
      exact (Option.some.inj e2).symm
    subst ew1 ew2
    refine ⟨_, rfl, wpAny_letOwnedTupleGo_zip (s := { s with heap := h', toks := tk }) z' fun h'' z'' sb => ?_⟩
    have hT2 : h''.get? s.heap.objs.size = some { cls := .type "tuple", data := .seq #[w1, w2] } := (sb.2 _ (Nat.ne_of_gt hzl)).trans hT
    have new : ObjOk X.prog X.w (upd H s.heap.objs.size (.tup [x, y])) h'' s.heap.objs.size (.tup [x, y]) :=
      ⟨by show 2 ≤ sizeLine; decide, [w1, w2], .cons rv1 (.cons rv3 .nil), ⟨_, hT2, rfl, _, rfl⟩⟩
    have I1 : Inv X pins σ (upd H s.heap.objs.size (.tup [x, y])) { s with heap := h'', toks := tk } :=
      I.turnedNew (ch := [z, TI, TO, i1, i2]) (fun c o hb q => (sb.2 c (fun q' => hb (by simp [q']))).trans (hk c o (fun q' => hb (by simp [q'])) (fun q' => hb (by simp [q'])) (fun q' => hb (by simp [q'])) (fun q' => hb (by simp [q'])) q)) hf (Nat.le_refl _) new
    refine ⟨.ref s.heap.objs.size, _, I1, rfl, ⟨_, x, y, rfl, I.hok.fresh (Nat.le_refl _), rfl, fun l hl => by rw [sq_inj I hl qx]; exact hx, fun l hl => by rw [sq_inj I hl qy]; exact hy⟩, ⟨z'', ?_, ⟨w1, w2, ?_⟩, ?_, ?_⟩, fun c hcm => ?_⟩
    · exact (sb.2 _ sep.TIz).trans (hk _ _ sep.TIz sep.TITO sep.TIi1 sep.TIi2 hTI)
    · exact (sb.2 _ sep.TOz).trans TO'
    · exact itr_at st1.1 fun o q => (sb.2 _ (Ne.symm sep.zi1)).trans q
    · exact itr_at st2.1 fun o q => (sb.2 _ (Ne.symm sep.zi2)).trans q
    · have hlt : c < s.heap.objs.size := by
        rcases (show c = z ∨ c = TI ∨ c = TO ∨ c = i1 ∨ c = i2 by simpa using hcm) with q | q | q | q | q
        · rw [q]; exact hzl
        · rw [q]; exact Heap.lt_size hTI
        · rw [q]; exact Heap.lt_size hTO
        · rw [q]; obtain ⟨_, q1, _⟩ := itr_obj h1; exact Heap.lt_size q1
        · rw [q]; obtain ⟨_, q1, _⟩ := itr_obj h2; exact Heap.lt_size q1
      rw [upd_ne (Nat.ne_of_lt hlt)]
      exact (hf c hcm).1
  done := by
    intro X hP hw hK hc i pins s σ H E I hf st hg
    subst hP hw hK
    obtain ⟨hz, hTI, ⟨x0, y0, hTO⟩, h1, h2⟩ := st
    obtain ⟨xs, ys, qx, qy, hend⟩ := hg
    obtain ⟨its, rv, p, _⟩ := sq_at I qx
    obtain ⟨its2, rv2, p2, _⟩ := sq_at I qy
    have l1 : its.toArray.size = xs.length := by rw [List.size_toArray, ← rv.length]
    have l2 : its2.toArray.size = ys.length := by rw [List.size_toArray, ← rv2.length]
    have sep := zz_sep D hz hTO h1 h2 p p2 (fp_ne I qx (hf TO (by simp))) (fp_ne I qy (hf TO (by simp)))
    refine wpAny_pyNext_zipD2_end sep (draws_sq (t := t) (A := X.A.in1) (I.ok.hd hc) (apart h1 p) its.toArray) (draws_sq (t := u) (A := X.A.in1) (I.ok.hd hc) (apart h2 p2) its2.toArray) hz hTI hTO ⟨h1, p⟩ ⟨h2, p2⟩ (by omega) (by omega) (by omega) fun h' tk hk => ⟨rfl, ?_⟩
    exact I.turnedL (t' := tk) (ch := [z, TI, TO, i1, i2]) (fun c o hb q => hk c o (fun q' => hb (by simp [q'])) (fun q' => hb (by simp [q'])) (fun q' => hb (by simp [q'])) (fun q' => hb (by simp [q'])) q) hf
  self A i s Q E st h := wpAny_pyIter_zip st.1 h
set_option maxHeartbeats 4000000 in
theorem meets_en1 {v : Value} {o : Obj} {Hp : Heap → Prop} (B : Begins v o Hp) :
    Meets (Builtin.«enumerate.__new__» ⟨[.type "enumerate", v], []⟩) (fun _ R s => Hp s.heap ∧
      R (.ok (.ret (.ref (s.heap.push o).objs.size))) { s with heap := (s.heap.push o).push { cls := .type "enumerate", data := .fields #[.none, .bool false, .ref s.heap.objs.size, rawInt 0, .none, .none] } }) :=
  .of_wp fun prog w A R s q => by
    obtain ⟨hp, g, d, tk, os⟩ := s
    obtain ⟨k1, q⟩ := q
    have sb := sub_enumerate
    have begun : ∀ {A' : Around} {E : Value → Shared → Prop} {Q : Value → Shared → Prop}, Q (.ref hp.objs.size) ⟨hp.push o, g, d, tk, os⟩ → wpAny (model prog w) A' (pyIter v) Q E ⟨hp, g, d, tk, os⟩ :=
      fun z => B.iter prog w _ _ ⟨hp, g, d, tk, os⟩ _ k1 z
    wp_walk using begun
    refine wpAny_stack_any fun st => wpAny_pure ?_
    split
    · rename_i c _ _ _ _ _
      cases (c == Value.type "enumerate") <;> (wp_walk using begun; exact ⟨_, rfl, q⟩)
    · wp_walk using begun
      exact ⟨_, rfl, q⟩
theorem enum1 {prog : Program} {w : World} {A : Around} {E : Value → Shared → Prop} {s : Shared} {v : Value} {o : Obj} {Hp : Heap → Prop} {Q : Value → Shared → Prop} (B : Begins v o Hp) (h1 : Hp s.heap)
    (fin : ∀ h', IsEnum h' (s.heap.objs.size + 1) s.heap.objs.size 0 .none → h'.get? s.heap.objs.size = some o → (∀ b o, s.heap.get? b = some o → h'.get? b = some o) → Q (.ref (s.heap.objs.size + 1)) { s with heap := h' }) :
    wpAny (model prog w) A (call (.type "enumerate") [v]) Q E s := by
  refine callType_new F.called_enumerate (by decide) (F.typeCall_enumerate_1 _) (F.newCall_enumerate_1 _) (fun obj => F.args_object_init_2 obj _) F.entry_enumerate_new (meets_en1 B) ⟨h1, ?_⟩
  have hz : (s.heap.push o).objs.size = s.heap.objs.size + 1 := Heap.size_push ..
  show _ ∧ _
  rw [hz]
  have he : IsEnum ((s.heap.push o).push { cls := .type "enumerate", data := .fields #[.none, .bool false, .ref s.heap.objs.size, rawInt 0, .none, .none] }) (s.heap.objs.size + 1) s.heap.objs.size 0 .none := by
    have q := Heap.get?_push_size (s.heap.push o) (o := { cls := .type "enumerate", data := .fields #[.none, .bool false, .ref s.heap.objs.size, rawInt 0, .none, .none] }) rfl
    rwa [hz] at q
  exact ⟨⟨_, he, rfl⟩, fin _ he (Heap.get?_push_of_some _ (Heap.get?_push_size _ B.free)) fun b o x => Heap.get?_push_of_some _ (Heap.get?_push_of_some _ x)⟩
/-! ### the rules -/
/-- a list, a tuple by itself -/
def ItSq (K : Frag) (t : Bool) (a : Addr) : It := if t = true then Itt K a else Itl K a
theorem turn_sq {P : Program} {w : World} {K : Frag} {tg : Expr} {t : Bool} (a it : Addr) : Turn P w K tg (ItSq K t a) [it] it (fun i h => itr h t it a i) := by
  cases t with
  | true => exact turn_tuple a it
  | false => exact turn_list a it
section
variable {X : Cx} {at_ : Cl} {W : WX} {a b tg : Expr} {ma mb : Ex} {la lb : Ls} {pos p : Pos}
/-- a row stays as long as what is walked is as it was -/
theorem lv_walk {f : Fm} {h : Hh} {H : Hp} {p : Lv} {q : Addr} (lv : LV X.KW f h.length H p q) (M : Sm X.KW at_ f h H) : ∃ t vs0, sq X.K H t q vs0 ∧
    ∀ (f2 : Fm) (h2 : Hh) (H2 : Hp), Ext h.length h2.length f f2 H H2 → Sm X.KW at_ f2 h2 H2 → still p.2 h2 → ∃ vs, RVs X.KW f2 h2.length H2 p.1 vs ∧ sq X.K H2 t q vs := by
  obtain ⟨ds, src⟩ := p
  obtain ⟨vs, rs, lv⟩ := lv
  rcases lv with ⟨e, ht | ⟨o, hf⟩ | ⟨hl, off⟩⟩ | ⟨k, e, hk, ea, hl⟩
  · exact ⟨true, vs, ht, fun f2 h2 H2 E M2 st => ⟨vs, rs.ext M E, SqT.keep ht (E.fix M)⟩⟩
  · exact ⟨false, vs, .inl (.inr ⟨o, hf⟩), fun f2 h2 H2 E M2 st => ⟨vs, rs.ext M E, .inl (.inr ⟨o, E.fix M _ _ trivial hf⟩)⟩⟩
  · exact ⟨false, vs, SqL.of hl, fun f2 h2 H2 E M2 st => ⟨vs, rs.ext M E, SqL.of (E.kept _ _ hl off)⟩⟩
  · refine ⟨false, vs, SqL.of hl, fun f2 h2 H2 E M2 st => ?_⟩
    dsimp only at e st
    subst e
    rw [still_cons] at st
    obtain ⟨vs2, q1, q2⟩ := M2.obj k _ st.1
    rw [E.agr k hk, ← ea] at q1
    exact ⟨vs2, q2, SqL.of q1⟩
/-- the step of a rule: what a row's expression comes to, begun -/
theorem pi_sq {l : Expr} {tl : TE} (hl : PE X l tl) : PI X tg l (fun σ H R => tl σ H fun x H1 => ∃ q t vs, x = .ref q ∧ sq X.K H1 t q vs ∧ R (ItSq X.K t q) H1) := by
  refine ⟨fun pins s σ H R I hh => thn (hl.run pins s σ H _ I hh) fun v s1 got => ?_⟩
  obtain ⟨x, H1, I1, r1, q, t, vs, rfl, hq, fin⟩ := got
  cases r1
  obtain ⟨its, rv, p, _⟩ := sq_at I1 hq
  refine (begins_sq its.toArray).iter _ _ _ _ _ _ p ?_
  exact pi_one (tk := s1.toks) I1 (itO t q) (turn_sq q _) (itr_new (Heap.get?_push_size _ rfl)) fin
theorem itOk_sq {f : Fm} {h : Hh} {H : Hp} {p : Lv} {q : Addr} {t : Bool} (w : ∀ (f2 : Fm) (h2 : Hh) (H2 : Hp), Ext h.length h2.length f f2 H H2 → Sm X.KW at_ f2 h2 H2 → still p.2 h2 → ∃ vs, RVs X.KW f2 h2.length H2 p.1 vs ∧ sq X.K H2 t q vs) :
    ItOk X.KW at_ (ItSq X.K t q) p h.length f H := by
  intro f2 h2 H2 E M2 st
  obtain ⟨vs, rs, hq⟩ := w f2 h2 H2 E M2 st
  have get : ∀ i, i < p.1.length → ∃ x, vs[i]? = some x := fun i hi => ⟨vs[i]'(by rw [← rs.length]; exact hi), List.getElem?_eq_getElem _⟩
  have yl : ∀ (i : Nat) (d : D) (x : V) (H3 : Hp), p.1[i]? = some d → (H3 = H2 ∧ ∀ xs, sq X.K H2 t q xs → xs[i]? = some x) → Ext h2.length h2.length f2 f2 H2 H3 ∧ Sm X.KW at_ f2 h2 H3 ∧ RV X.KW f2 h2.length H3 d x := fun i d x H3 e y => by
    obtain ⟨rfl, y⟩ := y
    obtain ⟨v, k1, k2⟩ := rs.get e
    rw [y vs hq] at k1
    cases k1
    exact ⟨Ext.refl, M2, k2⟩
  cases t with
  | true => exact ⟨fun i hi => let ⟨x, hx⟩ := get i hi; ⟨vs, x, hq, hx⟩, ⟨vs, hq, by rw [← rs.length]; exact Nat.le_refl _⟩, yl⟩
  | false => exact ⟨fun i hi => let ⟨x, hx⟩ := get i hi; ⟨vs, x, hq, hx⟩, ⟨vs, hq, by rw [← rs.length]; exact Nat.le_refl _⟩, yl⟩
theorem Post.via {α β δ : Type} {K : KW} {rel : Hp → Fm → Nat → Hp → α → β → Prop} {rel2 : Hp → Fm → Nat → Hp → α → δ → Prop} {n : Nat} {f : Fm} {H : Hp} {σ : L2.St} {r : R α} {Q : β → Hp → Prop} {Q' : δ → Hp → Prop} (P : Post K at_ W rel n f H σ r Q)
    (hQ : ∀ (a : α) (h' : Hh) (f' : Fm) (H' : Hp) (b : δ), Ext n h'.length f f' H H' → Sm K at_ f' h' H' → rel2 H f' h'.length H' a b → (∀ c, rel H f' h'.length H' a c → Q c H') → Q' b H') : Post K at_ W rel2 n f H σ r Q' := by
  cases r with
  | ok a h' => exact fun f' H' b E M x => hQ a h' f' H' b E M x fun c y => P f' H' c E M y
  | exc c fs h' => exact P
  | bad => exact P
/-- for x in a list, a tuple -/
theorem si_row (ha : SL X at_ W a la) : SI X at_ W tg a la := by
  obtain ⟨t1, p1, q1⟩ := ha.ex
  refine ⟨⟨_, pi_sq p1, fun f h H S σ M e R P => ?_⟩⟩
  refine q1 f h H S σ M e _ (Post.via (rel2 := relL X.KW) P fun d h1 f1 H1 v1 E1 M1 r1 P1 => ?_)
  obtain ⟨q, rfl, lv⟩ := r1
  obtain ⟨t, vs0, k1, k2⟩ := lv_walk lv M1
  exact ⟨q, t, vs0, rfl, k1, P1 _ (itOk_sq k2)⟩
/-! ### range -/
theorem itOk_rng {f : Fm} {n : Nat} {H : Hp} {lo : Int} {m : Nat} {ds : List D} (hd : ds = (List.range m).map fun i => D.int (lo + (i : Nat))) : ItOk X.KW at_ (Itr lo m) (ds, []) n f H := by
  subst hd
  intro f2 h2 H2 E M2 st
  refine ⟨fun i hi => by show i < m; simpa using hi, by show m ≤ _; simp, fun i d x H3 e y => ?_⟩
  obtain ⟨rfl, rfl⟩ := y
  rw [List.getElem?_map] at e
  by_cases hi : i < m
  · rw [List.getElem?_range hi] at e
    cases e
    exact ⟨Ext.refl, M2, .int _⟩
  · rw [List.getElem?_eq_none (by simpa using hi)] at e
    cases e
theorem pi_en {e : Expr} {te : TE} {elts : List Expr} {kk : Nat} {tpos : Pos} (hg : Gl X "enumerate") (hm : X.mg "enumerate" = none) (he : PE X e te) (hs : starEach [e] X.env = [(false, eval e X.env)]) :
    PI X (.Tuple elts kk tpos) (.Call (.Name "enumerate" p) [e] [] pos) (fun σ H R => te σ H fun x H1 => ∃ q t vs, x = .ref q ∧ sq X.K H1 t q vs ∧ R (ItEn X.K t q) H1) := by
  refine ⟨fun pins s σ H R I hh => ?_⟩
  refine Call_ (ld_blt I hg hm boot_enumerate (PyProof.Rows.callWith_type1 (thn ((pa_cons he pa_nil hs).run pos pins s σ H (fun vs H1 => ∃ q t ws, vs = [.ref q] ∧ sq X.K H1 t q ws ∧ R (ItEn X.K t q) H1) I ?_) fun us s1 got => ?_) hs rfl))
  · refine Eq.mpr ?_ hh
    show tCons te tNil σ H _ = _
    unfold tCons tNil
    congr 1
    funext x H1
    simp
  obtain ⟨vs, H1, I1, r1, q, t, ws, rfl, hq, fin⟩ := got
  obtain ⟨u, rfl, ru⟩ := r1.one
  cases ru
  obtain ⟨its, rv, p, _⟩ := sq_at I1 hq
  refine enum1 (begins_sq (t := t) its.toArray) p fun h' he hit hk => wpAny_pyIter_enum he ?_
  have I2 : Inv X pins σ H1 { s1 with heap := h' } := I1.kept (t' := s1.toks) hk
  refine ⟨s1.heap.objs.size + 1, [s1.heap.objs.size + 1, s1.heap.objs.size], _, _, H1, rfl, I2, turn_en q (s1.heap.objs.size + 1) s1.heap.objs.size, ⟨⟨.none, he⟩, itr_new hit, Nat.succ_ne_self _⟩, fun b hb => ?_, fin⟩
  have hle : s1.heap.objs.size ≤ b := by
    rcases (show b = s1.heap.objs.size + 1 ∨ b = s1.heap.objs.size by simpa using hb) with z | z
    · rw [z]; exact Nat.le_add_right _ _
    · rw [z]; exact Nat.le_refl _
  exact I1.fpOk hle (I1.hok.fresh hle)
theorem enumL_get : ∀ {ds : List D} {k i : Nat} {d : D}, ds[i]? = some d → (enumL k ds)[i]? = some (.tup [.int ((k + i : Nat) : Int), d])
  | [], _, _, _, e => by simp at e
  | x :: xs, k, 0, d, e => by simp at e; subst e; rfl
  | x :: xs, k, i + 1, d, e => by
    have := enumL_get (k := k + 1) (i := i) (d := d) (ds := xs) (by simpa using e)
    rw [enumL, List.getElem?_cons_succ, this]
    rw [show k + 1 + i = k + (i + 1) by omega]
theorem enumL_len : ∀ (ds : List D) (k : Nat), (enumL k ds).length = ds.length
  | [], _ => rfl
  | x :: xs, k => congrArg (· + 1) (enumL_len xs (k + 1))
theorem enumL_back {ds : List D} {i : Nat} {d : D} (e : (enumL 0 ds)[i]? = some d) : ∃ d0, ds[i]? = some d0 ∧ d = .tup [.int (i : Nat), d0] := by
  have hi : i < ds.length := by rw [← enumL_len ds 0]; exact (List.getElem?_eq_some_iff.mp e).1
  refine ⟨ds[i], List.getElem?_eq_getElem hi, ?_⟩
  have := enumL_get (k := 0) (List.getElem?_eq_getElem hi)
  rw [e] at this
  rw [Option.some.inj this, Nat.zero_add]
/-- for i, x in enumerate(row) -/
theorem si_enum {elts : List Expr} {kk : Nat} {tpos : Pos} (ha : SL X at_ W a la) (hm : X.mg "enumerate" = none) (hg : Gl X "enumerate" := by rfl) (hs : starEach [a] X.env = [(false, eval a X.env)] := by rfl) :
    SI X at_ W (.Tuple elts kk tpos) (.Call (.Name "enumerate" p) [a] [] pos) (lEn la) := by
  obtain ⟨t1, p1, q1⟩ := ha.ex
  refine ⟨⟨_, pi_en hg hm p1 hs, fun f h H S σ M e R P => ?_⟩⟩
  refine q1 f h H S σ M e _ (Post.step (rel2 := relL X.KW) P fun d h1 f1 H1 v1 E1 M1 r1 P1 => ?_)
  obtain ⟨q, rfl, lv⟩ := r1
  obtain ⟨t, vs0, k1, k2⟩ := lv_walk lv M1
  refine ⟨q, t, vs0, rfl, k1, P1.ok M1 fun f2 h2 H2 E2 M2 st => ?_⟩
  obtain ⟨vs, rs, hq⟩ := k2 f2 h2 H2 E2 M2 st
  refine ⟨fun i hi => ?_, ⟨vs, hq, ?_⟩, fun i d x H3 e y => ?_⟩
  · have hi : i < vs.length := by rw [← rs.length, ← enumL_len d.1 0]; exact hi
    exact ⟨vs, _, hq, List.getElem?_eq_getElem hi⟩
  · show vs.length = (enumL 0 d.1).length
    rw [enumL_len, rs.length]
  · obtain ⟨T, x0, rfl, hT, rfl, y⟩ := y
    obtain ⟨d0, e0, rfl⟩ := enumL_back e
    obtain ⟨v, k3, k4⟩ := rs.get e0
    rw [y vs hq] at k3
    cases k3
    exact ⟨Ext.fresh hT, M2.fresh hT, .tup (.inl (.inl upd_same)) (.cons (.int _) (.cons (k4.ext M2 (Ext.fresh hT)) .nil))⟩
theorem si_range1 (ha : SE X at_ W a ma) (hm : X.mg "range" = none) (hg : Gl X "range" := by rfl) (hs : starEach [a] X.env = [(false, eval a X.env)] := by rfl) : SI X at_ W tg (.Call (.Name "range" p) [a] [] pos) (lR1 ma) := by
  obtain ⟨t1, p1, q1⟩ := ha.ex
  refine ⟨⟨_, pi_range1 hg hm (pa_cons p1 pa_nil hs) hs, fun f h H S σ M e R P => ?_⟩⟩
  refine q1 f h H S σ M e _ (Post.step P fun d h1 f1 H1 v1 E1 M1 r1 P1 => ?_)
  cases r1 with
  | int j =>
    have P1 : Post X.KW at_ W (fun _ f' n' H' (p : Lv) (J : It) => ItOk X.KW at_ J p n' f' H') h1.length f1 H1 σ (if -(2 ^ 62) ≤ j ∧ j < 2 ^ 62 then .ok ((List.range j.toNat).map fun i => D.int (i : Nat), []) h1 else .bad) R := P1
    by_cases c : -(2 ^ 62) ≤ j ∧ j < 2 ^ 62
    · rw [if_pos c] at P1
      exact ⟨j, rfl, c.1, c.2, P1.ok M1 (itOk_rng (by simp))⟩
    · rw [if_neg c] at P1; exact False.elim P1
  | _ => exact False.elim P1
theorem si_range2 (ha : SE X at_ W a ma) (hb : SE X at_ W b mb) (hm : X.mg "range" = none) (hg : Gl X "range" := by rfl) (hs : starEach [a, b] X.env = [(false, eval a X.env), (false, eval b X.env)] := by rfl) (hs2 : starEach [b] X.env = [(false, eval b X.env)] := by rfl) :
    SI X at_ W tg (.Call (.Name "range" p) [a, b] [] pos) (lR2 ma mb) := by
  obtain ⟨t1, p1, q1⟩ := ha.ex
  obtain ⟨t2, p2, q2⟩ := hb.ex
  refine ⟨⟨_, pi_range2 hg hm (pa_cons p1 (pa_cons p2 pa_nil hs2) (by rw [hs, hs2])) hs hs2, fun f h H S σ M e R P => ?_⟩⟩
  refine q1 f h H S σ M e _ (Post.step P fun d h1 f1 H1 v1 E1 M1 r1 P1 => ?_)
  refine q2 f1 h1 H1 S σ M1 (e.ext M E1) _ (Post.step P1 fun d2 h2 f2 H2 v2 E2 M2 r2 P2 => ?_)
  cases r1 with
  | int i =>
    cases r2 with
    | int j =>
      have P2 : Post X.KW at_ W (fun _ f' n' H' (p : Lv) (J : It) => ItOk X.KW at_ J p n' f' H') h2.length f2 H2 σ (if (-(2 ^ 62) ≤ i ∧ i < 2 ^ 62) ∧ -(2 ^ 62) ≤ j ∧ j < 2 ^ 62 then .ok ((List.range (j - i).toNat).map fun t => D.int (i + (t : Nat)), []) h2 else .bad) R := P2
      by_cases c : (-(2 ^ 62) ≤ i ∧ i < 2 ^ 62) ∧ -(2 ^ 62) ≤ j ∧ j < 2 ^ 62
      · rw [if_pos c] at P2
        exact ⟨i, j, rfl, ⟨c.1.1, c.1.2, c.2.1, c.2.2⟩, P2.ok M2 (itOk_rng rfl)⟩
      · rw [if_neg c] at P2; exact False.elim P2
    | _ => exact False.elim P2
  | _ => exact False.elim P2
theorem pi_zz {e e2 : Expr} {t1 t2 : TE} {elts : List Expr} {kk : Nat} {tpos : Pos} (hg : Gl X "zip") (hm : X.mg "zip" = none) (h1 : PE X e t1) (h2 : PE X e2 t2)
    (hs : starEach [e, e2] X.env = (false, eval e X.env) :: starEach [e2] X.env) (hs2 : starEach [e2] X.env = (false, eval e2 X.env) :: starEach [] X.env) (hpl : (backTo pos (starEach [e2] X.env)).any (·.1) = false) :
    PI X (.Tuple elts kk tpos) (.Call (.Name "zip" p) [e, e2] [] pos) (fun σ H R => t1 σ H fun x H1 => t2 σ H1 fun y H2 => ∃ qa ta xs qb tb ys, x = .ref qa ∧ y = .ref qb ∧ sq X.K H2 ta qa xs ∧ sq X.K H2 tb qb ys ∧ R (ItZz X.K ta tb qa qb) H2) := by
  refine ⟨fun pins s σ H R I hh => ?_⟩
  refine Call_ (ld_blt I hg hm PyProof.Rows.boot_zip (PyProof.Rows.callWith_type1 (thn ((pa_cons h1 (pa_cons h2 pa_nil hs2) hs).run pos pins s σ H (fun vs H2 => ∃ qa ta xs qb tb ys, vs = [.ref qa, .ref qb] ∧ sq X.K H2 ta qa xs ∧ sq X.K H2 tb qb ys ∧ R (ItZz X.K ta tb qa qb) H2) I ?_) fun us s1 got => ?_) hs hpl))
  · refine Eq.mpr ?_ hh
    show tCons t1 (tCons t2 tNil) σ H _ = _
    unfold tCons tNil
    congr 1
    funext x H1
    congr 1
    funext y H2
    simp [and_assoc]
  obtain ⟨vs, H1, I1, r1, qa, ta, xs, qb, tb, ys, rfl, hq, hq2, fin⟩ := got
  obtain ⟨u1, u2, rfl, ru1, ru2⟩ := vals2 r1
  cases ru1
  cases ru2
  obtain ⟨its, rv, p1, _⟩ := sq_at I1 hq
  obtain ⟨its2, rv2, p2, _⟩ := sq_at I1 hq2
  refine zip_begins2 (begins_sq (t := ta) its.toArray) (begins_sq (t := tb) its2.toArray) p1 p2 fun h' hz hT hO hi1 hi2 hsz hk => wpAny_pyIter_zip hz ?_
  have I2 : Inv X pins σ H1 { s1 with heap := h' } := I1.kept (t' := s1.toks) hk
  have D : ZzOk (s1.heap.objs.size + 4) (s1.heap.objs.size + 2) (s1.heap.objs.size + 3) s1.heap.objs.size (s1.heap.objs.size + 1) := ⟨by
    have : ∀ n : Nat, [n + 4, n + 2, n + 3, n, n + 1].Nodup := fun n => by simp
    exact this _⟩
  refine ⟨s1.heap.objs.size + 4, [s1.heap.objs.size + 4, s1.heap.objs.size + 2, s1.heap.objs.size + 3, s1.heap.objs.size, s1.heap.objs.size + 1], _, _, H1, rfl, I2, turn_zz D, ⟨hz, hT, ⟨_, _, hO⟩, itr_new hi1, itr_new hi2⟩, fun b hb => ?_, fin⟩
  have hle : s1.heap.objs.size ≤ b := by
    rcases (show b = s1.heap.objs.size + 4 ∨ b = s1.heap.objs.size + 2 ∨ b = s1.heap.objs.size + 3 ∨ b = s1.heap.objs.size ∨ b = s1.heap.objs.size + 1 by simpa using hb) with z | z | z | z | z <;> rw [z]
    · exact Nat.le_add_right _ _
    · exact Nat.le_add_right _ _
    · exact Nat.le_add_right _ _
    · exact Nat.le_refl _
    · exact Nat.le_add_right _ _
  exact I1.fpOk hle (I1.hok.fresh hle)
theorem zipL_len : ∀ (xs ys : List D), (zipL xs ys).length = min xs.length ys.length
  | [], _ => by simp [zipL]
  | _ :: _, [] => by simp [zipL]
  | x :: xs, y :: ys => by
    rw [zipL, List.length_cons, zipL_len xs ys, List.length_cons, List.length_cons]
    omega
theorem zipL_back : ∀ {xs ys : List D} {i : Nat} {d : D}, (zipL xs ys)[i]? = some d → ∃ a b, xs[i]? = some a ∧ ys[i]? = some b ∧ d = .tup [a, b]
  | [], _, _, _, e => by simp [zipL] at e
  | _ :: _, [], _, _, e => by simp [zipL] at e
  | x :: xs, y :: ys, 0, d, e => by simp [zipL] at e; subst e; exact ⟨x, y, rfl, rfl, rfl⟩
  | x :: xs, y :: ys, i + 1, d, e => by
    obtain ⟨a, b, h1, h2, h3⟩ := zipL_back (xs := xs) (ys := ys) (i := i) (d := d) (by simpa [zipL] using e)
    exact ⟨a, b, by simpa using h1, by simpa using h2, h3⟩
theorem still_app : ∀ {p q : Src} {h : Hh}, still (p ++ q) h ↔ still p h ∧ still q h
  | [], q, h => by simp
  | (k, o) :: p, q, h => by rw [List.cons_append, still_cons, still_cons, still_app, and_assoc]
/-- for x, y in zip(row, row) -/
theorem si_zip {elts : List Expr} {kk : Nat} {tpos : Pos} (ha : SL X at_ W a la) (hb : SL X at_ W b lb) (hm : X.mg "zip" = none) (hg : Gl X "zip" := by rfl) (hs : starEach [a, b] X.env = (false, eval a X.env) :: starEach [b] X.env := by rfl)
    (hs2 : starEach [b] X.env = (false, eval b X.env) :: starEach [] X.env := by rfl) (hpl : (backTo pos (starEach [b] X.env)).any (·.1) = false := by rfl) :
    SI X at_ W (.Tuple elts kk tpos) (.Call (.Name "zip" p) [a, b] [] pos) (lZip la lb) := by
  obtain ⟨t1, p1, q1⟩ := ha.ex
  obtain ⟨t2, p2, q2⟩ := hb.ex
  refine ⟨⟨_, pi_zz hg hm p1 p2 hs hs2 hpl, fun f h H S σ M e R P => ?_⟩⟩
  refine q1 f h H S σ M e _ (Post.step (rel2 := relL X.KW) P fun d h1 f1 H1 v1 E1 M1 r1 P1 => ?_)
  refine q2 f1 h1 H1 S σ M1 (e.ext M E1) _ (Post.step (rel2 := relL X.KW) P1 fun d2 h2 f2 H2 v2 E2 M2 r2 P2 => ?_)
  obtain ⟨qa, rfl, lv⟩ := r1
  obtain ⟨qb, rfl, lv2⟩ := r2
  by_cases st : still d.2 h2
  · rw [if_pos st] at P2
    obtain ⟨t, vs0, k1, k2⟩ := lv_walk lv M1
    obtain ⟨vs1, _, k3⟩ := k2 f2 h2 H2 E2 M2 st
    obtain ⟨u, ws0, k4, k5⟩ := lv_walk lv2 M2
    refine ⟨qa, t, vs1, qb, u, ws0, rfl, rfl, k3, k4, P2.ok M2 fun f3 h3 H3 E3 M3 st3 => ?_⟩
    obtain ⟨st1, st2⟩ := still_app.mp st3
    obtain ⟨vs, rs, hq⟩ := k2 f3 h3 H3 (E2.trans E3) M3 st1
    obtain ⟨ws, rs2, hq2⟩ := k5 f3 h3 H3 E3 M3 st2
    refine ⟨fun i hi => ?_, ⟨vs, ws, hq, hq2, ?_⟩, fun i d x H4 e y => ?_⟩
    · have hi : i < min vs.length ws.length := by
        rw [← rs.length, ← rs2.length, ← zipL_len]
        exact hi
      exact ⟨vs, ws, _, _, hq, hq2, List.getElem?_eq_getElem (by omega), List.getElem?_eq_getElem (by omega)⟩
    · show (zipL d.1 d2.1).length = _
      rw [zipL_len, rs.length, rs2.length]
    · obtain ⟨T, x0, y0, rfl, hT, rfl, y1, y2⟩ := y
      obtain ⟨a0, b0, e1, e2, rfl⟩ := zipL_back e
      obtain ⟨v, k6, k7⟩ := rs.get e1
      obtain ⟨w, k8, k9⟩ := rs2.get e2
      rw [y1 vs hq] at k6
      rw [y2 ws hq2] at k8
      cases k6
      cases k8
      exact ⟨Ext.fresh hT, M3.fresh hT, .tup (.inl (.inl upd_same)) (.cons (k7.ext M3 (Ext.fresh hT)) (.cons (k9.ext M3 (Ext.fresh hT)) .nil))⟩
  · rw [if_neg st] at P2; exact False.elim P2
end
end PV
set_option autoImplicit false
/-! PVDo: what the operations of dicts come to. -/
namespace PV
open PySem (Str PyData NestedKey)
/-- the kind of a key: 1 an int, 2 a text, 3 a tuple; 0 what is no key here -/
def D.kd : D → Nat
  | .int _ => 1
  | .str _ => 2
  | .tup xs => match (D.tup xs).nk with
    | some k => if k.depth ≤ 8 then 3 else 0
    | none => 0
  | _ => 0
def getK (k : D) : List (D × D) → Option D
  | [] => none
  | p :: r => if p.1.nk = k.nk then some p.2 else getK k r
def putK (k v : D) (kvs : List (D × D)) : List (D × D) := if (getK k kvs).isSome = true then kvs.map (fun p => if p.1.nk = k.nk then (p.1, v) else p) else kvs ++ [(k, v)]
def fitK (k : D) (kvs : List (D × D)) : Bool := k.kd != 0 && kvs.all fun p => p.1.kd == k.kd
/-- the entries of a dict -/
def dicOf : D → Hh → Option (List (D × D))
  | .fd ks vs, _ => some (ks.zip vs)
  | .ref k, h => match h[k]? with
    | some (.dic kvs) => some kvs
    | _ => none
  | _, _ => none
/-- x[i] -/
def ixA (x y : D) (h : Hh) : R D := match dicOf x h with
  | some kvs => if fitK y kvs = true then match getK y kvs with
      | some v => .ok v h
      | none => .bad
    else .bad
  | none => ixD x y h
/-- x[i] = v -/
def setA (o i v : D) (h : Hh) : R Unit := match o with
  | .ref k => match h[k]? with
    | some (.dic kvs) => if fitK i kvs = true ∧ kvs.length < big then .ok () (h.set k (.dic (putK i v kvs))) else .bad
    | _ => setD o i v h
  | _ => setD o i v h
/-- k in d -/
def inK (x y : D) (h : Hh) : R D := match dicOf y h with
  | some kvs => if fitK x kvs = true then .ok (.bl (getK x kvs).isSome) h else .bad
  | none => .bad
def ninK (x y : D) (h : Hh) : R D := match dicOf y h with
  | some kvs => if fitK x kvs = true then .ok (.bl (!(getK x kvs).isSome)) h else .bad
  | none => .bad
/-- {} -/
def eD0 : Ex := fun _ h => .ok (.ref h.length) (h ++ [.dic []])
def putAll (kvs more : List (D × D)) : List (D × D) := more.foldl (fun acc p => putK p.1 p.2 acc) kvs
end PV
set_option Elab.async false
set_option linter.all false
set_option autoImplicit false
set_option maxRecDepth 100000
set_option maxHeartbeats 2000000
/-! PVD: dicts. -/
namespace PV
open PySem PySem.Spec PyProof.Rows L2
/-! ### keys -/
/-- a kind of keys that are told by value -/
structure BK (P : Program) (w : World) (κ : Type) [DecidableEq κ] where
  knd : PySem.KeyKind P w κ
  d : κ → D
  v : κ → V
  n : κ → NestedKey
  inj : ∀ a b, n a = n b → a = b
  nk : ∀ k, (d k).nk = some (n k)
  isv : ∀ k u, knd.is k u = true ↔ RelV (v k) u
  hash : ∀ k, knd.hash k = (n k).hash w
  rv : ∀ (K : KW) f m H k x, RV K f m H (d k) x ↔ x = v k
def bkI (P : Program) (w : World) : BK P w Int where
  knd := PySem.intKind P w
  d := .int
  v := .int
  n := .num
  inj a b h := by cases h; rfl
  nk k := rfl
  isv k u := ⟨fun h => by obtain ⟨t, rfl⟩ := Value.isInt_shape h; exact ⟨t, rfl⟩, fun h => by obtain ⟨t, rfl⟩ := h; simp [PySem.intKind, Value.isInt]⟩
  hash k := rfl
  rv K f m H k x := ⟨fun h => by cases h; rfl, fun h => by subst h; exact .int k⟩
def bkS (P : Program) (w : World) : BK P w Str where
  knd := PySem.strKind P w
  d := .str
  v := .str
  n := .text
  inj a b h := by cases h; rfl
  nk k := rfl
  isv k u := ⟨fun h => by obtain ⟨t, rfl⟩ := Value.isStrOf_shape h; exact ⟨t, rfl⟩, fun h => by obtain ⟨t, rfl⟩ := h; simp [PySem.strKind, Value.isStrOf]⟩
  hash k := rfl
  rv K f m H k x := ⟨fun h => by cases h; rfl, fun h => by subst h; exact .str k⟩

section
variable {X : Cx} {at_ : Cl} {W : WX} {pins : List (Addr × Obj)} {σ : L2.St} {H : Hp} {s : Shared} {f : Fm} {h : Hh} {n : Nat} {a : Addr} {es : List DictEntry} {kvs : List (D × D)} {κ : Type} [DecidableEq κ]
/-! ### kinds told by value -/
abbrev PB (B : BK X.prog X.w κ) (f : Fm) (n : Nat) (H : Hp) : D × D → κ × Value → Prop := fun p q => p.1 = B.d q.1 ∧ ∃ v, RV X.KW f n H p.2 v ∧ RelV v q.2
theorem raw_obj {w : World} {P : Program} {hp : Heap} (x : ObjOk P w H hp a (rawD a es)) : (a == sysModules) = false ∧ es.length ≤ sizeLine ∧ ∃ o ea ep, hp.get? a = some o ∧ o.ExactDict ∧ o.data = .dict ea ep ∧ ea.toList = es := by
  obtain ⟨⟨h1, h2, ea, ep, ⟨o, ho, hc, hd⟩, e⟩, _⟩ := x
  exact ⟨h1, h2, o, ea, ep, ho, hc, hd, e⟩
theorem raw_ok {w : World} {P : Program} {hp : Heap} {o : Obj} {ea : Array DictEntry} {ep : Nat} (h1 : (a == sysModules) = false) (h2 : es.length ≤ sizeLine) (ho : hp.get? a = some o) (hc : o.ExactDict) (hd : o.data = .dict ea ep) (e : ea.toList = es) : ObjOk P w H hp a (rawD a es) :=
  ⟨⟨h1, h2, ea, ep, ⟨o, ho, hc, hd⟩, e⟩, ⟨o, ho⟩, fun h1 h2 q k => by
    obtain ⟨q1, q2, ea, ep, q3, q4⟩ := q
    exact ⟨q1, q2, ea, ep, q3.at k, q4⟩⟩
theorem bk_pairs (B : BK X.prog X.w κ) : ∀ {kvs : List (D × D)} {es : List DictEntry}, Paired (REn X.KW f n H) kvs es → (∀ p ∈ kvs, ∃ k, p.1 = B.d k) →
    ∃ ps, Pairs B.knd es ps ∧ Paired (PB B f n H) kvs ps ∧ ∀ e ∈ es, ∃ k, B.knd.is k e.key = true ∧ e.hash = B.knd.hash k
  | _, _, .nil, _ => ⟨[], .nil, .nil, fun e he => by simp at he⟩
  | _, _, .cons (a := p) (b := e) r t, hk => by
    obtain ⟨ps, h1, h2, h3⟩ := bk_pairs B t fun p hp => hk p (List.mem_cons_of_mem _ hp)
    obtain ⟨k, ek⟩ := hk p List.mem_cons_self
    obtain ⟨v, k1, k2⟩ := r.key
    obtain ⟨u, k3, k4⟩ := r.val
    obtain ⟨q, k5, k6⟩ := r.hash
    rw [ek] at k1 k5
    rw [B.rv] at k1
    subst k1
    rw [B.nk] at k5
    cases k5
    have is : B.knd.is k e.key = true := (B.isv k e.key).mpr k2
    refine ⟨(k, e.val) :: ps, .cons is rfl h1, .cons ⟨ek, u, k3, k4⟩ h2, fun e' he => ?_⟩
    rcases List.mem_cons.mp he with z | z
    · subst z; exact ⟨k, is, k6.trans (B.hash k).symm⟩
    · exact h3 e' z
theorem pb_nodup (B : BK X.prog X.w κ) : ∀ {kvs : List (D × D)} {ps : List (κ × Value)}, Paired (PB B f n H) kvs ps → (kvs.map fun p => p.1.nk) = ps.map fun q => some (B.n q.1)
  | _, _, .nil => rfl
  | _, _, .cons r t => by
    rw [List.map_cons, List.map_cons, pb_nodup B t, r.1, B.nk]
theorem nodup_of_map {α β : Type} (g : α → β) : ∀ {l : List α}, (l.map g).Nodup → l.Nodup
  | [], _ => List.nodup_nil
  | a :: l, h => by
    rw [List.map_cons, List.nodup_cons] at h
    exact List.nodup_cons.mpr ⟨fun q => h.1 (List.mem_map_of_mem q), nodup_of_map g h.2⟩
theorem pb_nd (B : BK X.prog X.w κ) {kvs : List (D × D)} {ps : List (κ × Value)} (hp : Paired (PB B f n H) kvs ps) (nd : (kvs.map fun p => p.1.nk).Nodup) : (ps.map (·.1)).Nodup := by
  rw [pb_nodup B hp] at nd
  refine nodup_of_map (fun k => some (B.n k)) ?_
  rw [List.map_map]
  exact nd
theorem paired_len {α β : Type} {F : α → β → Prop} : ∀ {l : List α} {m : List β}, Paired F l m → l.length = m.length
  | _, _, .nil => rfl
  | _, _, .cons _ t => congrArg (· + 1) (paired_len t)
theorem bk_open (B : BK X.prog X.w κ) (I : Inv X pins σ H s) (e : Rd H a (rawD a es)) (rs : Paired (REn X.KW f n H) kvs es) (nd : (kvs.map fun p => p.1.nk).Nodup) (hk : ∀ p ∈ kvs, ∃ k, p.1 = B.d k) :
    ∃ ps, s.heap.DictOf B.knd a ps ∧ Paired (PB B f n H) kvs ps ∧ (a == sysModules) = false ∧ ps.length ≤ sizeLine := by
  obtain ⟨h1, h2, o, ea, ep, ho, hc, hd, rfl⟩ := raw_obj (e.ok I.hok)
  obtain ⟨ps, k1, k2, k3⟩ := bk_pairs B rs hk
  refine ⟨ps, ⟨o, ea, ep, ho, hc, hd, fun e he => k3 e (Array.mem_def.mp he), k1, pb_nd B k2 nd⟩, k2, h1, ?_⟩
  rw [← paired_len k2, paired_len rs]
  exact h2
theorem bk_ents (B : BK X.prog X.w κ) : ∀ {kvs : List (D × D)} {ps : List (κ × Value)} {es : List DictEntry}, Paired (PB B f n H) kvs ps → Pairs B.knd es ps → (∀ e ∈ es, ∃ k, B.knd.is k e.key = true ∧ e.hash = B.knd.hash k) → Paired (REn X.KW f n H) kvs es
  | _, _, _, .nil, .nil, _ => .nil
  | _, _, _, .cons (a := p) (b := q) r t, .cons (e := e) (es := es) h1 h2 h3, hk => by
    refine .cons ?_ (bk_ents B t h3 fun e he => hk e (List.mem_cons_of_mem _ he))
    obtain ⟨k, k1, k2⟩ := hk e List.mem_cons_self
    have ek : k = q.1 := B.knd.inj _ _ _ k1 h1
    subst ek
    obtain ⟨ep, v, r1, r2⟩ := r
    refine ⟨⟨B.v q.1, by rw [ep, B.rv], (B.isv _ _).mp h1⟩, ⟨v, r1, by rw [h2]; exact r2⟩, B.n q.1, by rw [ep, B.nk], by rw [k2, B.hash]⟩
theorem bk_close (B : BK X.prog X.w κ) {hp : Heap} {ps : List (κ × Value)} {H' : Hp} (dd : hp.DictOf B.knd a ps) (rs : Paired (PB B f n H) kvs ps) (hs : (a == sysModules) = false) (hl : ps.length ≤ sizeLine) :
    ∃ es, ObjOk X.prog X.w H' hp a (rawD a es) ∧ Paired (REn X.KW f n H) kvs es := by
  obtain ⟨o, ea, ep, ho, hc, hd, hk, hp', _⟩ := dd
  refine ⟨ea.toList, raw_ok hs (by rw [hp'.length]; exact hl) ho hc hd rfl, bk_ents B rs hp' fun e he => hk e (Array.mem_def.mpr he)⟩
/-! ### tuples -/
mutual
theorem nest_of (I : Inv X pins σ H s) : ∀ {d : D} {v : V} {u : Value} {k : NestedKey}, RV X.KW f n H d v → RelV v u → d.nk = some k → NestedIs s.heap k u
  | _, _, _, _, .non, r, e => by cases e; cases r; exact .none
  | _, _, _, _, .bl b, r, e => by cases e; cases r; exact .bool rfl
  | _, _, _, _, .int i, r, e => by cases e; obtain ⟨t, rfl⟩ := r; exact .int _ _
  | _, _, _, _, .str x, r, e => by cases e; obtain ⟨t, rfl⟩ := r; exact .text _ _
  | _, _, _, _, .tup ht hs, r, e => by
    unfold D.nk at e
    obtain ⟨ks, h1, h2⟩ := Option.map_eq_some_iff.mp e
    subst h2
    cases r
    obtain ⟨its, rv, ⟨o, h3, h4, m, h5⟩, _⟩ := I.tuple ht
    exact .tup h3 h4 h5 (nest_all I hs rv h1)
  | _, _, _, _, .fz _ _, _, e => by cases e
  | _, _, _, _, .fd _ _ _ _ _ _ _, _, e => by cases e
  | _, _, _, _, .fi _ _ _ _, _, e => by cases e
  | _, _, _, _, .ref _, _, e => by cases e
theorem nest_all (I : Inv X pins σ H s) : ∀ {ds : List D} {vs : List V} {us : List Value} {ks : List NestedKey}, RVs X.KW f n H ds vs → Vals vs us → D.nks ds = some ks → NestedAll s.heap ks us
  | _, _, _, _, .nil, .nil, e => by cases e; exact .nil
  | _, _, _, _, .cons (d := d) (ds := ds) h t, .cons r q, e => by
    unfold D.nks at e
    cases h1 : d.nk with
    | none => rw [h1] at e; cases e
    | some k =>
      cases h2 : D.nks ds with
      | none => rw [h1, h2] at e; cases e
      | some ks => rw [h1, h2] at e; cases e; exact .cons (nest_of I h r h1) (nest_all I t q h2)
end
abbrev PTu (f : Fm) (n : Nat) (H : Hp) : D × D → NestedKey × Addr × Value → Prop := fun p x => p.1.nk = some x.1 ∧ RV X.KW f n H p.1 (.ref x.2.1) ∧ ∃ v, RV X.KW f n H p.2 v ∧ RelV v x.2.2
theorem kd3 {d : D} (e : d.kd = 3) : ∃ xs k, d = .tup xs ∧ d.nk = some k ∧ k.depth ≤ 8 := by
  cases d with
  | tup xs =>
    unfold D.kd at e
    dsimp only at e
    cases z : (D.tup xs).nk with
    | none => rw [z] at e; cases e
    | some k =>
      rw [z] at e
      dsimp only at e
      by_cases c : k.depth ≤ 8
      · exact ⟨xs, k, rfl, rfl, c⟩
      · rw [if_neg c] at e; cases e
  | _ => cases e
theorem tk_ents (I : Inv X pins σ H s) : ∀ {kvs : List (D × D)} {es : List DictEntry}, Paired (REn X.KW f n H) kvs es → (∀ p ∈ kvs, p.1.kd = 3) → ∃ xs, es = xs.map (entryOfKey (nestedKind X.prog X.w)) ∧ Paired (PTu (X := X) f n H) kvs xs ∧ ∀ x ∈ xs, (nestedKind X.prog X.w).is s.heap x.1 x.2.1
  | _, _, .nil, _ => ⟨[], rfl, .nil, fun x hx => by simp at hx⟩
  | _, _, .cons (a := p) (b := e) r t, hk => by
    obtain ⟨xs, h1, h2, h3⟩ := tk_ents I t fun p hp => hk p (List.mem_cons_of_mem _ hp)
    obtain ⟨ds, k, e1, e2, e3⟩ := kd3 (hk p List.mem_cons_self)
    obtain ⟨v, k1, k2⟩ := r.key
    obtain ⟨u, k3, k4⟩ := r.val
    obtain ⟨q, k5, k6⟩ := r.hash
    rw [e2] at k5
    cases k5
    have k1' := k1
    rw [e1] at k1
    cases k1 with
    | tup ht hs =>
      rename_i b vs
      have ek : e.key = .ref b := k2
      refine ⟨(k, b, e.val) :: xs, ?_, .cons ⟨e2, k1', u, k3, k4⟩ h2, fun x hx => ?_⟩
      · rw [List.map_cons, h1]
        congr 1
        unfold entryOfKey
        obtain ⟨eh, ekk, ev⟩ := e
        dsimp only at ek k6 ⊢
        rw [ek, k6]
        rfl
      · rcases List.mem_cons.mp hx with z | z
        · subst z
          exact ⟨nest_of I k1' (show RelV (.ref b) (.ref b) from rfl) e2, e3⟩
        · exact h3 x z
theorem pt_nk : ∀ {kvs : List (D × D)} {xs : List (NestedKey × Addr × Value)}, Paired (PTu (X := X) f n H) kvs xs → (kvs.map fun p => p.1.nk) = xs.map fun x => some x.1
  | _, _, .nil => rfl
  | _, _, .cons r t => by rw [List.map_cons, List.map_cons, pt_nk t, r.1]
theorem tk_open (I : Inv X pins σ H s) (e : Rd H a (rawD a es)) (rs : Paired (REn X.KW f n H) kvs es) (nd : (kvs.map fun p => p.1.nk).Nodup) (hk : ∀ p ∈ kvs, p.1.kd = 3) :
    ∃ xs, s.heap.DictOfH (nestedKind X.prog X.w) a xs ∧ Paired (PTu (X := X) f n H) kvs xs ∧ (a == sysModules) = false ∧ xs.length ≤ sizeLine := by
  obtain ⟨h1, h2, o, ea, ep, ho, hc, hd, rfl⟩ := raw_obj (e.ok I.hok)
  obtain ⟨xs, k1, k2, k3⟩ := tk_ents I rs hk
  refine ⟨xs, ⟨o, ea, ep, ho, hc, hd, k1, k3, ?_⟩, k2, h1, ?_⟩
  · rw [pt_nk k2] at nd
    refine nodup_of_map some ?_
    rw [List.map_map]
    exact nd
  · rw [← paired_len k2, paired_len rs]
    exact h2
theorem tk_close {hp : Heap} {xs : List (NestedKey × Addr × Value)} {H' : Hp} (dd : hp.DictOfH (nestedKind X.prog X.w) a xs) (rs : Paired (PTu (X := X) f n H) kvs xs) (hs : (a == sysModules) = false) (hl : xs.length ≤ sizeLine) :
    ∃ es, ObjOk X.prog X.w H' hp a (rawD a es) ∧ Paired (REn X.KW f n H) kvs es := by
  obtain ⟨o, ea, ep, ho, hc, hd, he, x1, x2⟩ := dd
  refine ⟨ea.toList, raw_ok hs (by rw [he, List.length_map]; exact hl) ho hc hd rfl, ?_⟩
  rw [he]
  clear he hd hl x1 x2
  induction rs with
  | nil => exact .nil
  | cons r t ih =>
    obtain ⟨r1, r2, v, r3, r4⟩ := r
    exact .cons ⟨⟨_, r2, rfl⟩, ⟨v, r3, r4⟩, _, r1, rfl⟩ ih
/-! ### the mirror's entries and the dict's -/
theorem paired_app {α β : Type} {F : α → β → Prop} : ∀ {l l2 : List α} {m m2 : List β}, Paired F l m → Paired F l2 m2 → Paired F (l ++ l2) (m ++ m2)
  | _, _, _, _, .nil, q => q
  | _, _, _, _, .cons r t, q => .cons r (paired_app t q)
theorem pb_any (B : BK X.prog X.w κ) (k : κ) : ∀ {kvs : List (D × D)} {ps : List (κ × Value)}, Paired (PB B f n H) kvs ps → (getK (B.d k) kvs).isSome = ps.any (fun q => decide (q.1 = k)) ∧
    (∀ d, getK (B.d k) kvs = some d → ∃ v w, RV X.KW f n H d v ∧ RelV v w ∧ valueAt ps k = some w) ∧ (getK (B.d k) kvs = none → valueAt ps k = none)
  | _, _, .nil => ⟨rfl, fun d e => by (cases e), fun _ => rfl⟩
  | _, _, .cons (a := p) (b := q) r t => by
    obtain ⟨h1, h2, h3⟩ := pb_any B k t
    obtain ⟨r1, v, r2, r3⟩ := r
    have cmp : (p.1.nk = (B.d k).nk) ↔ q.1 = k := by
      rw [r1, B.nk, B.nk]
      exact ⟨fun z => B.inj _ _ (Option.some.inj z), fun z => by rw [z]⟩
    unfold getK valueAt
    rw [List.any_cons, List.find?_cons]
    by_cases z : q.1 = k
    · rw [if_pos (cmp.mpr z)]
      refine ⟨by simp [z], fun d e => ?_, fun e => by cases e⟩
      cases e
      exact ⟨v, q.2, r2, r3, by simp [z]⟩
    · rw [if_neg fun w => z (cmp.mp w)]
      simp only [z, decide_false, Bool.false_or]
      exact ⟨h1, h2, h3⟩
theorem pb_put (B : BK X.prog X.w κ) {k : κ} {vd : D} {vx : V} {vu : Value} (rv : RV X.KW f n H vd vx) (ru : RelV vx vu) {kvs : List (D × D)} {ps : List (κ × Value)} (hp : Paired (PB B f n H) kvs ps) : Paired (PB B f n H) (putK (B.d k) vd kvs) (stored ps k vu) := by
  unfold putK stored
  rw [(pb_any B k hp).1]
  by_cases c : (ps.any fun q => decide (q.1 = k)) = true
  · rw [if_pos c, if_pos c]
    clear c
    induction hp with
    | nil => exact .nil
    | cons r t ih =>
      rename_i p q l₁ l₂
      obtain ⟨r1, v, r2, r3⟩ := r
      have cmp : (p.1.nk = (B.d k).nk) ↔ q.1 = k := by
        rw [r1, B.nk, B.nk]
        exact ⟨fun z => B.inj _ _ (Option.some.inj z), fun z => by rw [z]⟩
      rw [List.map_cons, List.map_cons]
      refine .cons ?_ ih
      by_cases z : q.1 = k
      · rw [if_pos (cmp.mpr z), if_pos z]
        exact ⟨r1, vx, rv, ru⟩
      · rw [if_neg fun w => z (cmp.mp w), if_neg z]
        exact ⟨r1, v, r2, r3⟩
  · rw [if_neg c, if_neg c]
    exact paired_app hp (.cons ⟨rfl, vx, rv, ru⟩ .nil)
theorem pt_at {kd : D} {k : NestedKey} (ek : kd.nk = some k) : ∀ {kvs : List (D × D)} {xs : List (NestedKey × Addr × Value)}, Paired (PTu (X := X) f n H) kvs xs →
    ((getK kd kvs).isSome = (atKey xs k).isSome) ∧ (∀ d, getK kd kvs = some d → ∃ v p, RV X.KW f n H d v ∧ RelV v p.2 ∧ atKey xs k = some p)
  | _, _, .nil => ⟨rfl, fun d e => by (cases e)⟩
  | _, _, .cons (a := p) (b := x) r t => by
    obtain ⟨h1, h2⟩ := pt_at ek t
    obtain ⟨r1, r2, v, r3, r4⟩ := r
    have cmp : (p.1.nk = kd.nk) ↔ x.1 = k := by
      rw [r1, ek]
      exact ⟨fun z => Option.some.inj z, fun z => by rw [z]⟩
    unfold getK atKey
    rw [List.find?_cons]
    by_cases z : x.1 = k
    · rw [if_pos (cmp.mpr z)]
      refine ⟨by simp [z], fun d e => ?_⟩
      cases e
      exact ⟨v, x.2, r3, r4, by simp [z]⟩
    · rw [if_neg fun w => z (cmp.mp w)]
      simp only [z, decide_false]
      exact ⟨h1, h2⟩
theorem pt_put {kd : D} {k : NestedKey} {b : Addr} {vd : D} {vx : V} {vu : Value} (ek : kd.nk = some k) (rk : RV X.KW f n H kd (.ref b)) (rv : RV X.KW f n H vd vx) (ru : RelV vx vu) {kvs : List (D × D)} {xs : List (NestedKey × Addr × Value)} (hp : Paired (PTu (X := X) f n H) kvs xs) :
    Paired (PTu (X := X) f n H) (putK kd vd kvs) (storedH xs k b vu) := by
  unfold putK storedH
  rw [(pt_at ek hp).1]
  by_cases c : (atKey xs k).isSome = true
  · rw [if_pos c, if_pos c]
    clear c
    induction hp with
    | nil => exact .nil
    | cons r t ih =>
      rename_i p x l₁ l₂
      obtain ⟨r1, r2, v, r3, r4⟩ := r
      have cmp : (p.1.nk = kd.nk) ↔ x.1 = k := by
        rw [r1, ek]
        exact ⟨fun z => Option.some.inj z, fun z => by rw [z]⟩
      rw [List.map_cons, List.map_cons]
      refine .cons ?_ ih
      unfold putAt
      by_cases z : x.1 = k
      · rw [if_pos (cmp.mpr z), if_pos z]
        exact ⟨r1, r2, vx, rv, ru⟩
      · rw [if_neg fun w => z (cmp.mp w), if_neg z]
        exact ⟨r1, r2, v, r3, r4⟩
  · rw [if_neg c, if_neg c]
    exact paired_app hp (.cons ⟨ek, rk, vx, rv, ru⟩ .nil)
theorem putK_nd {kd vd : D} {kvs : List (D × D)} (nd : (kvs.map fun p => p.1.nk).Nodup) : ((putK kd vd kvs).map fun p => p.1.nk).Nodup := by
  unfold putK
  by_cases c : (getK kd kvs).isSome = true
  · rw [if_pos c, List.map_map]
    have : ((fun p : D × D => p.1.nk) ∘ fun p => if p.1.nk = kd.nk then (p.1, vd) else p) = fun p : D × D => p.1.nk := by
      funext p
      show (if p.1.nk = kd.nk then (p.1, vd) else p).1.nk = p.1.nk
      split <;> rfl
    rw [this]
    exact nd
  · rw [if_neg c, List.map_append]
    refine List.nodup_append.mpr ⟨nd, by simp, fun x hx y hy z => ?_⟩
    simp at hy
    subst hy
    obtain ⟨p, hp, e⟩ := List.mem_map.mp hx
    apply c
    clear c nd hx
    induction kvs with
    | nil => simp at hp
    | cons q r ih =>
      unfold getK
      by_cases w : q.1.nk = kd.nk
      · rw [if_pos w]; rfl
      · rw [if_neg w]
        rcases List.mem_cons.mp hp with u | u
        · subst u; exact absurd (e.trans z) w
        · exact ih u
theorem putK_len {kd vd : D} {kvs : List (D × D)} : (putK kd vd kvs).length ≤ kvs.length + 1 := by
  unfold putK
  split <;> simp
theorem kd1 {d : D} (e : d.kd = 1) : ∃ i, d = .int i := by
  cases d with
  | int i => exact ⟨i, rfl⟩
  | tup xs => unfold D.kd at e; dsimp only at e; split at e <;> first | (split at e <;> cases e) | cases e
  | _ => cases e
theorem kd2 {d : D} (e : d.kd = 2) : ∃ x, d = .str x := by
  cases d with
  | str i => exact ⟨i, rfl⟩
  | tup xs => unfold D.kd at e; dsimp only at e; split at e <;> first | (split at e <;> cases e) | cases e
  | _ => cases e
theorem kd_or {d : D} (e : d.kd ≠ 0) : d.kd = 1 ∨ d.kd = 2 ∨ d.kd = 3 := by
  cases d with
  | int i => exact .inl rfl
  | str i => exact .inr (.inl rfl)
  | tup xs =>
    unfold D.kd at e ⊢
    dsimp only at e ⊢
    split
    · split
      · exact .inr (.inr rfl)
      · rename_i h1 h2
        rw [h1] at e
        dsimp only at e
        rw [if_neg h2] at e
        exact absurd rfl e
    · rename_i h1
      rw [h1] at e
      exact absurd rfl e
  | _ => exact absurd rfl e
theorem fit_of {k : D} {kvs : List (D × D)} (e : fitK k kvs = true) : k.kd ≠ 0 ∧ ∀ p ∈ kvs, p.1.kd = k.kd := by
  unfold fitK at e
  rw [Bool.and_eq_true, List.all_eq_true] at e
  exact ⟨by simpa using e.1, fun p hp => by simpa using e.2 p hp⟩
theorem room_in1 {k : Nat} (hr : Rm X k) : (nestedKind X.prog X.w).room X.A.in1 := by
  have := hr.room.units
  show X.A.units + 1 + 8 < cLine
  omega
section
variable {kd vd : D} {kx vx : V} {ku vu : Value} {k : Nat}
/-- d[k] = v -/
theorem raw_set {Q : Shared → Prop} (hr : Rm X k) (I : Inv X pins σ H s) (e : H a = some (rawD a es)) (rs : Paired (REn X.KW f n H) kvs es) (nd : (kvs.map fun p => p.1.nk).Nodup) (fit : fitK kd kvs = true) (hz : kvs.length < big)
    (rk : RV X.KW f n H kd kx) (rku : RelV kx ku) (rv : RV X.KW f n H vd vx) (rvu : RelV vx vu)
    (fin : ∀ es' s', Inv X pins σ (upd H a (rawD a es')) s' → Paired (REn X.KW f n H) (putK kd vd kvs) es' → Q s') : wpAny (model X.prog X.w) X.A (setItem (.ref a) ku vu) (fun _ s' => Q s') X.xe s := by
  obtain ⟨f1, f2⟩ := fit_of fit
  have hl : (putK kd vd kvs).length ≤ sizeLine := by
    have h1 := putK_len (kd := kd) (vd := vd) (kvs := kvs)
    have h2 := big_line.mp (show kvs.length + 1 ≤ big by omega)
    omega
  have byv : ∀ {κ : Type} [DecidableEq κ] (B : BK X.prog X.w κ) (q : κ), kd = B.d q → (∀ p ∈ kvs, ∃ q, p.1 = B.d q) → wpAny (model X.prog X.w) X.A (setItem (.ref a) ku vu) (fun _ s' => Q s') X.xe s := by
    intro κ _ B q eq hq
    obtain ⟨ps, dd, hp, hs, hl0⟩ := bk_open B I (.inl e) rs nd hq
    subst eq
    rw [B.rv] at rk
    subst rk
    refine wpAny_setItem_pairs ((B.isv _ _).mpr rku) dd (fun h' dd' sb => ?_) hl0
    have hp' := pb_put B (k := q) rv rvu hp
    obtain ⟨es', new, ren⟩ := bk_close (H' := upd H a (rawD a es)) B dd' hp' hs (by rw [← paired_len hp']; exact hl)
    obtain ⟨es2, new2, ren2⟩ := bk_close (H' := upd H a (rawD a es')) B dd' hp' hs (by rw [← paired_len hp']; exact hl)
    have e12 : es' = es2 := by
      obtain ⟨_, _, o, ea, ep, q1, _, q2, q3⟩ := raw_obj new
      obtain ⟨_, _, o2, ea2, ep2, q4, _, q5, q6⟩ := raw_obj new2
      rw [q1] at q4; cases q4
      rw [q2] at q5; cases q5
      rw [← q3, ← q6]
    subst e12
    refine fin es' _ (I.write (x := a) (e := a) (t' := s.toks + 1) (by rw [e]; exact trivial) (.inl rfl) (fun b u hb hu => (sb.2 b hb).trans hu) ?_ new2) ren
    obtain ⟨_, _, o, _, _, q1, _⟩ := raw_obj new
    exact ⟨o, q1⟩
  rcases kd_or f1 with z | z | z
  · obtain ⟨i, ei⟩ := kd1 z
    exact byv (bkI X.prog X.w) i ei fun p hp => kd1 ((f2 p hp).trans z)
  · obtain ⟨i, ei⟩ := kd2 z
    exact byv (bkS X.prog X.w) i ei fun p hp => kd2 ((f2 p hp).trans z)
  · obtain ⟨xs, dd, hp, hs, hl0⟩ := tk_open I (.inl e) rs nd fun p hp => (f2 p hp).trans z
    obtain ⟨ds, q, e1, e2, e3⟩ := kd3 z
    have rk0 := rk
    rw [e1] at rk
    cases rk with
    | tup ht hs' =>
      rename_i b us
      have eku : ku = .ref b := rku
      subst eku
      refine wpAny_setItem_heap (room_in1 hr) ⟨nest_of I rk0 rku e2, e3⟩ dd (fun h' dd' sb => ?_) hl0
      have hp' := pt_put e2 rk0 rv rvu hp
      obtain ⟨es', new, ren⟩ := tk_close (H' := upd H a (rawD a es)) dd' hp' hs (by rw [← paired_len hp']; exact hl)
      obtain ⟨es2, new2, ren2⟩ := tk_close (H' := upd H a (rawD a es')) dd' hp' hs (by rw [← paired_len hp']; exact hl)
      have e12 : es' = es2 := by
        obtain ⟨_, _, o, ea, ep, q1, _, q2, q3⟩ := raw_obj new
        obtain ⟨_, _, o2, ea2, ep2, q4, _, q5, q6⟩ := raw_obj new2
        rw [q1] at q4; cases q4
        rw [q2] at q5; cases q5
        rw [← q3, ← q6]
      subst e12
      refine fin es' _ (I.write (x := a) (e := a) (t' := s.toks + (nestedKind X.prog X.w).draws q) (by rw [e]; exact trivial) (.inl rfl) (fun b u hb hu => (sb.2 b hb).trans hu) ?_ new2) ren
      obtain ⟨_, _, o, _, _, q1, _⟩ := raw_obj new
      exact ⟨o, q1⟩
/-- d[k] -/
theorem raw_get {Q : Value → Shared → Prop} {rd : D} (hr : Rm X k) (I : Inv X pins σ H s) (e : Rd H a (rawD a es)) (rs : Paired (REn X.KW f n H) kvs es) (nd : (kvs.map fun p => p.1.nk).Nodup) (fit : fitK kd kvs = true)
    (rk : RV X.KW f n H kd kx) (rku : RelV kx ku) (got : getK kd kvs = some rd) (fin : ∀ v w s', Inv X pins σ H s' → RV X.KW f n H rd v → RelV v w → Q w s') : wpAny (model X.prog X.w) X.A (getItem (.ref a) ku) Q X.xe s := by
  obtain ⟨f1, f2⟩ := fit_of fit
  have byv : ∀ {κ : Type} [DecidableEq κ] (B : BK X.prog X.w κ) (q : κ), kd = B.d q → (∀ p ∈ kvs, ∃ q, p.1 = B.d q) → wpAny (model X.prog X.w) X.A (getItem (.ref a) ku) Q X.xe s := by
    intro κ _ B q eq hq
    obtain ⟨ps, dd, hp, hs, hl0⟩ := bk_open B I e rs nd hq
    subst eq
    rw [B.rv] at rk
    subst rk
    obtain ⟨v, w, k1, k2, k3⟩ := (pb_any B q hp).2.1 rd got
    exact wpAny_getItem_of ((B.isv _ _).mpr rku) dd.mapOf k3 (fin v w _ (I.tok _) k1 k2)
  rcases kd_or f1 with z | z | z
  · obtain ⟨i, ei⟩ := kd1 z
    exact byv (bkI X.prog X.w) i ei fun p hp => kd1 ((f2 p hp).trans z)
  · obtain ⟨i, ei⟩ := kd2 z
    exact byv (bkS X.prog X.w) i ei fun p hp => kd2 ((f2 p hp).trans z)
  · obtain ⟨xs, dd, hp, hs, hl0⟩ := tk_open I e rs nd fun p hp => (f2 p hp).trans z
    obtain ⟨ds, q, e1, e2, e3⟩ := kd3 z
    have rk0 := rk
    rw [e1] at rk
    cases rk with
    | tup ht hs' =>
      rename_i b us
      have eku : ku = .ref b := rku
      subst eku
      obtain ⟨v, p, k1, k2, k3⟩ := (pt_at e2 hp).2 rd got
      exact wpAny_getItem_heap (room_in1 hr) ⟨nest_of I rk0 rku e2, e3⟩ dd k3 (fin v p.2 _ (I.tok _) k1 k2)
/-- k in d -/
theorem raw_in {Q : Value → Shared → Prop} (hr : Rm X k) (I : Inv X pins σ H s) (e : Rd H a (rawD a es)) (rs : Paired (REn X.KW f n H) kvs es) (nd : (kvs.map fun p => p.1.nk).Nodup) (fit : fitK kd kvs = true)
    (rk : RV X.KW f n H kd kx) (rku : RelV kx ku) (fin : ∀ s', Inv X pins σ H s' → Q (.bool (getK kd kvs).isSome) s') : wpAny (model X.prog X.w) X.A (compareOp .In ku (.ref a)) Q X.xe s := by
  obtain ⟨f1, f2⟩ := fit_of fit
  have byv : ∀ {κ : Type} [DecidableEq κ] (B : BK X.prog X.w κ) (q : κ), kd = B.d q → (∀ p ∈ kvs, ∃ q, p.1 = B.d q) → wpAny (model X.prog X.w) X.A (compareOp .In ku (.ref a)) Q X.xe s := by
    intro κ _ B q eq hq
    obtain ⟨ps, dd, hp, hs, hl0⟩ := bk_open B I e rs nd hq
    subst eq
    rw [B.rv] at rk
    subst rk
    obtain ⟨k1, k2, k3⟩ := pb_any B q hp
    refine wpAny_in_of ((B.isv _ _).mpr rku) hs dd.mapOf ?_
    have ev : (valueAt ps q).isSome = (getK (B.d q) kvs).isSome := by
      cases z : getK (B.d q) kvs with
      | none => rw [k3 z]; rfl
      | some d => obtain ⟨v, w, _, _, y⟩ := k2 d z; rw [y]; rfl
    rw [ev]
    exact fin _ (I.tok _)
  rcases kd_or f1 with z | z | z
  · obtain ⟨i, ei⟩ := kd1 z
    exact byv (bkI X.prog X.w) i ei fun p hp => kd1 ((f2 p hp).trans z)
  · obtain ⟨i, ei⟩ := kd2 z
    exact byv (bkS X.prog X.w) i ei fun p hp => kd2 ((f2 p hp).trans z)
  · obtain ⟨xs, dd, hp, hs, hl0⟩ := tk_open I e rs nd fun p hp => (f2 p hp).trans z
    obtain ⟨ds, q, e1, e2, e3⟩ := kd3 z
    have rk0 := rk
    rw [e1] at rk
    cases rk with
    | tup ht hs' =>
      rename_i b us
      have eku : ku = .ref b := rku
      subst eku
      refine wpAny_in_heap (room_in1 hr) ⟨nest_of I rk0 rku e2, e3⟩ hs dd ?_
      rw [← (pt_at e2 hp).1]
      exact fin _ (I.tok _)
end
end
end PV
set_option Elab.async false
set_option linter.all false
set_option autoImplicit false
set_option maxRecDepth 100000
set_option maxHeartbeats 2000000
/-! PVE: the rules for dicts; methods of built-in types. -/
namespace PV
open PySem PySem.Spec PyProof.Rows L2
section
variable {X : Cx} {at_ : Cl} {W : WX} {k : Nat} {pos p : Pos} {a b c : Expr} {ma mb mc : Ex}
/-- a dict as a value -/
theorem dic_rd {f : Fm} {h : Hh} {H : Hp} {d : D} {v : V} {kvs : List (D × D)} (M : Sm X.KW at_ f h H) (r : RV X.KW f h.length H d v) (e : dicOf d h = some kvs) :
    ∃ q es, v = .ref q ∧ Rd H q (rawD q es) ∧ Paired (REn X.KW f h.length H) kvs es ∧ (kvs.map fun p => p.1.nk).Nodup := by
  cases r with
  | fd ht hk hs e1 e2 e3 nd =>
    cases e
    obtain ⟨l, pr⟩ := ren_join hk hs e1 e2 e3
    refine ⟨_, _, rfl, .inr ⟨_, ht⟩, pr, ?_⟩
    rw [show (fun p : D × D => p.1.nk) = D.nk ∘ Prod.fst from rfl, ← List.map_map, List.map_fst_zip (Nat.le_of_eq l)]
    exact nd
  | ref hi =>
    rename_i i
    have e : (match h[i]? with
      | some (.dic kvs) => some kvs
      | _ => none) = some kvs := e
    cases z : h[i]? with
    | none => rw [z] at e; cases e
    | some o =>
      cases o with
      | dic ys =>
        rw [z] at e
        cases e
        obtain ⟨es, q1, q2, q3⟩ := M.obj i _ z
        exact ⟨_, es, rfl, .inl q1, q2, q3⟩
      | _ => rw [z] at e; cases e
  | _ => cases e
/-! ### x[i] -/
def rIxD (X : Cx) : R2 := fun x y H Q => ∃ q es f n kvs kd rd, x = .ref q ∧ Rd H q (rawD q es) ∧ Paired (REn X.KW f n H) kvs es ∧ (kvs.map fun p => p.1.nk).Nodup ∧ fitK kd kvs = true ∧ RV X.KW f n H kd y ∧ getK kd kvs = some rd ∧ ∀ v, RV X.KW f n H rd v → Q v H
theorem raw_ty {H : Hp} {s : Shared} {q : Addr} {es : List DictEntry} {pins : List (Addr × Obj)} {σ : L2.St} (I : Inv X pins σ H s) (e : Rd H q (rawD q es)) : s.TypeIs (.ref q) "dict" ∧ ∃ ob, s.heap.get? q = some ob ∧ ob.dict = none := by
  obtain ⟨_, _, o, _, _, ho, hc, _⟩ := raw_obj (e.ok I.hok)
  exact ⟨⟨o, ho, hc.1⟩, o, ho, hc.2.1⟩
theorem ix_dic (hr : Rm X k) : IxR X (rIxD X) := by
  intro value slice pins s σ H x y v u Q I rx ry hh hs
  obtain ⟨q, es, f, n, kvs, kd, rd, rfl, e, rs, nd, fit, rk, got, fin⟩ := hh
  cases rx
  exact tail_any (ops := [.ref q, u]) (raw_ty I e).1 slot_dict_getitem.lookup (raw_get hr I e rs nd fit rk ry got fun w u s' I' r1 r2 => ⟨w, H, I', r2, fin w r1⟩) hs
theorem se_ixA (hr : Rm X k) (ha : SE X at_ W a ma) (hb : SE X at_ W b mb) (hs : PlainIx b := by exact fun _ _ => rfl) : SE X at_ W (.Subscript a b pos) (e2 ixA ma mb) := by
  obtain ⟨t1, p1, q1⟩ := ha.ex
  obtain ⟨t2, p2, q2⟩ := hb.ex
  refine ⟨⟨_, pe_ix (ix_seq.or (ix_dic hr)) p1 p2 hs, fun f h H S σ M e Q P => ?_⟩⟩
  refine q1 f h H S σ M e _ (Post.step P fun x h1 f1 H1 v1 E1 M1 r1 P1 => ?_)
  refine q2 f1 h1 H1 S σ M1 (e.ext M E1) _ (Post.step P1 fun y h2 f2 H2 v2 E2 M2 r2 P2 => ?_)
  have r1 := r1.ext M1 E2
  unfold ixA at P2
  cases z : dicOf x h2 with
  | none => rw [z] at P2; exact .inl (ix_post M2 r1 r2 P2)
  | some kvs =>
    rw [z] at P2
    dsimp only at P2
    by_cases c : fitK y kvs = true
    · rw [if_pos c] at P2
      cases z2 : getK y kvs with
      | none => rw [z2] at P2; exact False.elim P2
      | some rd =>
        rw [z2] at P2
        obtain ⟨q, es, rfl, k1, k2, k3⟩ := dic_rd M2 r1 z
        exact .inr ⟨q, es, f2, h2.length, kvs, y, rd, rfl, k1, k2, k3, c, r2, z2, fun v r => P2.ok M2 r⟩
    · rw [if_neg c] at P2; exact False.elim P2
/-! ### x[i] = v -/
def rSetA (X : Cx) : TSet := fun o i v H Q => rSetL o i v H Q ∨ ∃ q es f n kvs kd vd, o = .ref q ∧ H q = some (rawD q es) ∧ Paired (REn X.KW f n H) kvs es ∧ (kvs.map fun p => p.1.nk).Nodup ∧ fitK kd kvs = true ∧ kvs.length < big ∧ RV X.KW f n H kd i ∧ RV X.KW f n H vd v ∧
  ∀ es', Paired (REn X.KW f n H) (putK kd vd kvs) es' → Q (upd H q (rawD q es'))
theorem set_any (hr : Rm X k) : PSet X (rSetA X) := by
  intro pins s σ H o i v ov iv u Q I ro ri rv hh
  rcases hh with hh | ⟨q, es, f, n, kvs, kd, vd, rfl, e, rs, nd, fit, hz, rk, rvd, fin⟩
  · exact set_list pins s σ H o i v ov iv u Q I ro ri rv hh
  · cases ro
    exact raw_set (Q := fun s' => ∃ H', Inv X pins σ H' s' ∧ Q H') hr I e rs nd fit hz rk ri rvd rv fun es' s' I' rs' => ⟨_, I', fin es' rs'⟩
theorem os_any (hr : Rm X k) : OS X at_ setA := ⟨⟨_, set_any hr, fun W f h H σ o i v ov iv vv M ro ri rv Q P => by
  have old : Post X.KW at_ W (relU (β := Unit)) h.length f H σ (setD o i v h) (fun _ => Q) → rSetA X ov iv vv H Q := fun P => .inl (set_post M ro ri rv P)
  unfold setA at P
  cases ro with
  | ref hk =>
    rename_i j
    dsimp only at P
    cases z : h[j]? with
    | none => rw [z] at P; exact old P
    | some u =>
      cases u with
      | dic kvs =>
        rw [z] at P
        dsimp only at P
        by_cases c : fitK i kvs = true ∧ kvs.length < big
        · rw [if_pos c] at P
          obtain ⟨es, q1, q2, q3⟩ := M.obj j _ z
          refine .inr ⟨f j, es, f, h.length, kvs, i, v, rfl, q1, q2, q3, c.1, c.2, ri, rv, fun es' rs' => ?_⟩
          refine P _ _ () (by rw [List.length_set]; exact Ext.write hk) (M.write hk ⟨es', upd_same, ?_, putK_nd q3⟩) trivial
          exact pimp rs' fun _ _ z => z.keep (Nat.le_refl _) (fun _ _ => rfl) (M.fixW hk)
        · rw [if_neg c] at P; exact False.elim P
      | _ => rw [z] at P; exact old P
  | _ => exact old P⟩⟩
/-! ### k in d -/
def rInD (X : Cx) (g : Bool → Bool) : R2 := fun x y H Q => ∃ q es f n kvs kd, y = .ref q ∧ Rd H q (rawD q es) ∧ Paired (REn X.KW f n H) kvs es ∧ (kvs.map fun p => p.1.nk).Nodup ∧ fitK kd kvs = true ∧ RV X.KW f n H kd x ∧ Q (.bl (g (getK kd kvs).isSome)) H
theorem op_inD (hr : Rm X k) : OpR X (compareOp .In) (rInD X id) := by
  intro pins s σ H x y v u Q I rx ry hh
  obtain ⟨q, es, f, n, kvs, kd, rfl, e, rs, nd, fit, rk, fin⟩ := hh
  cases ry
  exact raw_in hr I e rs nd fit rk rx fun s' I' => ⟨.bl (getK kd kvs).isSome, H, I', rfl, fin⟩
theorem o2_inD (hr : Rm X k) : O2 X at_ (compareOp .In) inK := ⟨⟨_, op_inD hr, fun W f h H σ dx dy x y M rx ry Q P => by
  unfold inK at P
  cases z : dicOf dy h with
  | none => rw [z] at P; exact False.elim P
  | some kvs =>
    rw [z] at P
    dsimp only at P
    by_cases c : fitK dx kvs = true
    · rw [if_pos c] at P
      obtain ⟨q, es, rfl, k1, k2, k3⟩ := dic_rd M ry z
      exact ⟨q, es, f, h.length, kvs, dx, rfl, k1, k2, k3, c, rx, P.ok M (.bl _)⟩
    · rw [if_neg c] at P; exact False.elim P⟩⟩
/-! ### methods of built-in types -/
def TyM (X : Cx) (T : String) (x : V) (H : Hp) : Prop := ∀ (pins : List (Addr × Obj)) (σ : L2.St) (s : Shared) (v : Value), Inv X pins σ H s → RelV x v → s.TypeIs v T ∧ ∀ q, v = .ref q → ∃ ob, s.heap.get? q = some ob ∧ ob.dict = none
theorem tyM_of {f : Fm} {h : Hh} {H : Hp} {d : D} {x : V} {T : String} (M : Sm X.KW at_ f h H) (r : RV X.KW f h.length H d x) (e : tkOf h d = some (.bi T)) (hT : T = "list" ∨ T = "dict" ∨ T = "str") : TyM X T x H := by
  intro pins σ s v I rx
  have lst : ∀ {q : Addr} {xs : List V}, Rd H q (.lst xs) → s.TypeIs (.ref q) "list" ∧ ∀ q', Value.ref q = .ref q' → ∃ ob, s.heap.get? q' = some ob ∧ ob.dict = none := fun {q xs} e => by
    obtain ⟨_, its, m, _, _, g⟩ := lstR I e
    exact ⟨⟨_, g, rfl⟩, fun q' z => by cases z; exact ⟨_, g, rfl⟩⟩
  have dic : ∀ {q : Addr} {es : List DictEntry}, Rd H q (rawD q es) → s.TypeIs (.ref q) "dict" ∧ ∀ q', Value.ref q = .ref q' → ∃ ob, s.heap.get? q' = some ob ∧ ob.dict = none := fun {q es} e => by
    obtain ⟨k1, ob, k2, k3⟩ := raw_ty I e
    exact ⟨k1, fun q' z => by cases z; exact ⟨ob, k2, k3⟩⟩
  cases r with
  | str z => cases e; obtain ⟨t, rfl⟩ := rx; exact ⟨typeIs_str s z t, fun _ z => nomatch z⟩
  | fz ht hs => cases e; cases rx; exact lst (.inr ⟨_, ht⟩)
  | fd ht _ _ _ _ _ _ => cases e; cases rx; exact dic (.inr ⟨_, ht⟩)
  | ref hi =>
    rename_i k
    cases rx
    have e : (match h[k]? with
      | some (.lst _) => some (.bi "list")
      | some (.dic _) => some (.bi "dict")
      | some (.ins c _) => some (.own c)
      | none => none) = some (Tk.bi T) := e
    cases z : h[k]? with
    | none => rw [z] at e; cases e
    | some o =>
      have ro := M.obj k o z
      cases o with
      | lst xs => rw [z] at e; cases e; obtain ⟨vs, q, _⟩ := ro; exact lst (.inl q)
      | dic kvs => rw [z] at e; cases e; obtain ⟨es, q, _⟩ := ro; exact dic (.inl q)
      | ins c fs => rw [z] at e; cases e
  | non => cases e; exact absurd hT (by decide)
  | bl b => cases e; exact absurd hT (by decide)
  | int b => cases e; exact absurd hT (by decide)
  | tup _ _ => cases e; exact absurd hT (by decide)
  | fi _ _ _ _ => cases e
structure OM (X : Cx) (at_ : Cl) (id : String) (g : D → List D → Hh → R D) : Prop where
  ex : ∃ r : V → List V → Hp → VK → Prop, MtR X id r ∧ ∀ (W : WX) (f : Fm) (h : Hh) (H : Hp) (σ : L2.St) (d : D) (ds : List D) (x : V) (vs : List V), Sm X.KW at_ f h H → RV X.KW f h.length H d x → RVs X.KW f h.length H ds vs →
    ∀ Q : VK, Post X.KW at_ W (relV X.KW) h.length f H σ (g d ds h) Q → r x vs H Q
end
open Classical in
/-- o.m(..), o of the type T -/
noncomputable def eM (T : String) (g : D → List D → Hh → R D) (o : Ex) (as : As) : Ex := fun S h => (o S h).bind fun d h1 => if tkOf h1 d = some (.bi T) then (as S h1).bind fun ds h2 => g d ds h2 else .bad
section
variable {X : Cx} {at_ : Cl} {W : WX} {k : Nat} {apos cpos : Pos} {o e : Expr} {es : List Expr} {mo ma : Ex} {as : As} {T id : String} {g : D → List D → Hh → R D} {name : Str}
theorem se_bm (pa : PlainAttrs T) (slot : Slot T name id) (hty : typeOf (.builtin id) = pure (.type "method_descriptor")) (hm : OM X at_ id g) (ho : SE X at_ W o mo) (ha : SA X at_ W (e :: es) as) (hT : T = "list" ∨ T = "dict" ∨ T = "str" := by decide)
    (hbase : attributeBase o name X.env (eval o X.env) = eval o X.env := by rfl)
    (hfew : ((backTo cpos (starEach (e :: es) X.env)).all (fun x => !x.1) && (backToKw cpos (keywordEach [] X.env)).all (fun x => x.1.isSome) && decide ((e :: es).length + ([] : List Keyword).length + (if ([] : List Keyword).isEmpty then 0 else 1) < 30)) = true := by rfl)
    (hline : (apos.endLine == cpos.line) = true := by rfl) (hs : starEach (e :: es) X.env = (false, eval e X.env) :: starEach es X.env := by rfl) (hplain : (backTo cpos (starEach es X.env)).any (·.1) = false := by rfl) :
    SE X at_ W (.Call (.Attribute o name apos) (e :: es) [] cpos) (eM T g mo as) := by
  obtain ⟨r, hr, hq⟩ := hm.ex
  obtain ⟨t1, p1, q1⟩ := ho.ex
  obtain ⟨t2, p2, q2⟩ := ha.ex
  refine ⟨⟨fun σ H Q => t1 σ H fun x H1 => TyM X T x H1 ∧ t2 σ H1 fun xs H2 => r x xs H2 Q, ⟨fun pins s σ H Q I hh => ?_⟩, fun f h H S σ M e Q P => ?_⟩⟩
  · refine wpAny_Call_method_late hbase hfew hline rfl (thn (p1.run pins s σ H _ I hh) fun v s1 got => ?_)
    obtain ⟨x, H1, I1, r1, ty, q⟩ := got
    obtain ⟨h1, h2⟩ := ty pins σ s1 v I1 r1
    refine ⟨T, id, pa, slot, hty, h1, h2, ?_⟩
    have hA := p2.run cpos pins s1 σ H1 _ I1 q
    rw [hs] at hA ⊢
    refine Calls.callWith_builtin (by show (false || (backTo cpos (starEach es X.env)).any (·.1)) = false; rw [hplain]; rfl) (Calls.evalArgs_plain ?_)
    refine thn hA fun us s2 got => ?_
    obtain ⟨vs, H2, I2, r2, q3⟩ := got
    exact hr pins s2 σ H2 x vs v us Q I2 r1 r2 q3
  · refine q1 f h H S σ M e _ (Post.step P fun x h1 f1 H1 v1 E1 M1 r1 P1 => ?_)
    by_cases c : tkOf h1 x = some (.bi T)
    · rw [if_pos c] at P1
      refine ⟨tyM_of M1 r1 c hT, q2 f1 h1 H1 S σ M1 (e.ext M E1) _ (Post.step P1 fun y h2 f2 H2 v2 E2 M2 r2 P2 => ?_)⟩
      exact hq W f2 h2 H2 σ x y v1 v2 M2 (r1.ext M1 E2) r2 Q P2
    · rw [if_neg c] at P1; exact False.elim P1
theorem om_append : OM X at_ "list.append" appD := ⟨⟨_, mt_append, fun W f h H σ d ds x vs M r rs Q P => by
  cases r with
  | ref hi =>
    rename_i i
    cases rs with
    | nil => exact False.elim P
    | cons rv rs =>
      rename_i dv v ds vs
      cases rs with
      | cons _ _ => exact False.elim P
      | nil =>
        have P : Post X.KW at_ W (relV X.KW) h.length f H σ (match h[i]? with
          | some (.lst xs) => if xs.length < big then .ok .non (h.set i (.lst (xs ++ [dv]))) else .bad
          | _ => .bad) Q := P
        cases z : h[i]? with
        | none => rw [z] at P; exact False.elim P
        | some u =>
          cases u with
          | lst xs =>
            rw [z] at P
            dsimp only at P
            by_cases c : xs.length < big
            · rw [if_pos c] at P
              obtain ⟨ws, q1, q2⟩ := M.obj i _ z
              refine ⟨f i, ws, v, rfl, rfl, q1, by rw [← q2.length]; exact big_lt.mp c, ?_⟩
              refine P _ _ _ (by rw [List.length_set]; exact Ext.write hi) (M.write hi ⟨_, upd_same, ?_⟩) .non
              exact (q2.keep (Nat.le_refl _) (fun _ _ => rfl) (M.fixW hi)).append (.cons (rv.keep (Nat.le_refl _) (fun _ _ => rfl) (M.fixW hi)) .nil)
            · rw [if_neg c] at P; exact False.elim P
          | _ => rw [z] at P; exact False.elim P
  | _ => exact False.elim P⟩⟩
/-- xs.append(v) -/
theorem se_append (ho : SE X at_ W o mo) (ha : SE X at_ W e ma) (hbase : attributeBase o "append" X.env (eval o X.env) = eval o X.env := by rfl)
    (hfew : ((backTo cpos (starEach [e] X.env)).all (fun x => !x.1) && (backToKw cpos (keywordEach [] X.env)).all (fun x => x.1.isSome) && decide ([e].length + ([] : List Keyword).length + (if ([] : List Keyword).isEmpty then 0 else 1) < 30)) = true := by rfl)
    (hline : (apos.endLine == cpos.line) = true := by rfl) (hs : starEach (e :: []) X.env = (false, eval e X.env) :: starEach [] X.env := by rfl) (hplain : (backTo cpos (starEach [] X.env)).any (·.1) = false := by rfl) :
    SE X at_ W (.Call (.Attribute o "append" apos) [e] [] cpos) (eM "list" appD mo (aC ma aN)) := se_bm PySem.F.plainAttrs_list PySem.F.slot_list_append PySem.F.type_list_append om_append ho (sa_cons ha sa_nil hs) (by decide) hbase hfew hline hs hplain
end
end PV
set_option Elab.async false
set_option linter.all false
set_option autoImplicit false
set_option maxRecDepth 100000
set_option maxHeartbeats 2000000
/-! PVR: sorted. -/
namespace PV
open PySem PySem.Spec PyProof.Rows L2
/-! ### what is sorted -/
def encD (d : D) : PyData := d.py.getD .none
def dle (a b : D) : Bool := PySem.W.dataLe false encD a b
/-- the items of a list, a tuple; the keys of a dict -/
def rowV (d : D) (h : Hh) : Option (List D) := match lsD d h with
  | some xs => some xs
  | none => match d with
    | .tup xs => some xs
    | _ => (dicOf d h).map fun kvs => kvs.map (·.1)
def sortOk (ds : List D) : Prop := (∀ d ∈ ds, ∃ p, d.py = some p ∧ p.depth ≤ 30) ∧ PySem.W.AllAlike (ds.map encD) ∧ PySem.W.Sortable (ds.map encD)
open Classical in
/-- sorted(x), as a new list -/
noncomputable def aSort (a : Ex) : As := fun S h => (a S h).bind fun d h1 => match rowV d h1 with
  | some xs => if sortOk xs then .ok (xs.mergeSort dle) h1 else .bad
  | none => .bad
section
variable {X : Cx} {at_ : Cl} {W : WX} {pins : List (Addr × Obj)} {σ : L2.St} {H : Hp} {s : Shared} {f : Fm} {h : Hh} {n : Nat}
/-- the items come -/
def Col (P : Program) (w : World) (s : Shared) (v : Value) (vs : List Value) : Prop := ∀ (A : Around) (E : Value → Shared → Prop) (R : List Value → Shared → Prop), A.handled = none →
  (∀ h' tk, (∀ b o, s.heap.get? b = some o → h'.get? b = some o) → R vs { s with heap := h', toks := tk }) → wpAny (model P w) A (collect v) R E s
theorem col_sq {t : Bool} {a : Addr} {items : Array Value} {P : Program} {w : World} (hc : cont s.heap t a items) (hz : items.size ≤ sizeLine) : Col P w s (.ref a) items.toList := by
  intro A E R hh fin
  have h1 : ∃ o m, s.heap.get? a = some o ∧ o.cls = .type (if t = true then "tuple" else "list") ∧ o.data = .seq items m := by
    cases t with
    | true => obtain ⟨o, e, c, m, d⟩ := hc; exact ⟨o, m, e, c, d⟩
    | false => obtain ⟨o, e, c, m, d⟩ := hc; exact ⟨o, m, e, c, d⟩
  obtain ⟨o, m, e, c, d⟩ := h1
  exact wpAny_collect_seq a (T := if t = true then "tuple" else "list") (by cases t <;> simp) e c d (fun h' k => fin h' s.toks k) hz
theorem col_raw {a : Addr} {ea : Array DictEntry} {ep : Nat} {P : Program} {w : World} (hd : s.heap.DictRaw a ea ep) (lo : (a == sysModules) = false) (hz : ea.size ≤ sizeLine) : Col P w s (.ref a) (ea.toList.map (·.key)) := by
  intro A E R hh fin
  refine PySem.W.kdu_collect (PySem.KdlSrc.rawDict lo) hh hd hz fun h' tk acc k it => ?_
  have e : acc.toList = ea.toList.map (·.key) := by
    refine List.ext_getElem? fun i => ?_
    obtain ⟨h1, h2⟩ := it
    by_cases hi : i < acc.size
    · obtain ⟨hi', e⟩ := h2 i acc[i] (Array.getElem?_eq_getElem hi)
      rw [List.getElem?_map, Array.getElem?_toList, Array.getElem?_toList, Array.getElem?_eq_getElem hi, Array.getElem?_eq_getElem hi', e]
      rfl
    · rw [List.getElem?_eq_none (by rw [Array.length_toList]; omega), List.getElem?_eq_none (by rw [List.length_map, Array.length_toList]; omega)]
  rw [e]
  exact fin h' tk k
mutual
theorem reads_live {h : Heap} : ∀ (d : PyData) (v : Value) (as : List Addr), PySem.W.alike d d = true → Reads h v d as → ∀ x ∈ as, ∃ o, h.get? x = some o
  | .none, _, _, _, r, x, hx => by cases r; simp at hx
  | .bool _, _, _, _, r, x, hx => by cases r; simp at hx
  | .int _, _, _, _, r, x, hx => by cases r; simp at hx
  | .str _, _, _, _, r, x, hx => by cases r; simp at hx
  | .list xs, _, _, hal, r, x, hx => by
    cases r with
    | list h1 h2 h3 h4 =>
      rcases List.mem_cons.mp hx with e | hx
      · subst e; exact ⟨_, h1⟩
      · exact readsAll_live xs _ _ (by simpa [PySem.W.alike] using hal) h4 x hx
  | .tuple xs, _, _, hal, r, x, hx => by
    cases r with
    | tuple h1 h2 h3 h4 => exact readsAll_live xs _ _ (by simpa [PySem.W.alike] using hal) h4 x hx
  | .dict _, _, _, hal, _, _, _ => absurd hal (by simp [PySem.W.alike])
theorem readsAll_live {h : Heap} : ∀ (ds : List PyData) (vs : List Value) (as : List Addr), PySem.W.alikeAll ds ds = true → ReadsAll h vs ds as → ∀ x ∈ as, ∃ o, h.get? x = some o
  | [], _, _, _, r, x, hx => by cases r; simp at hx
  | d :: ds, _, _, hal, r, x, hx => by
    rw [PySem.W.alikeAll, Bool.and_eq_true] at hal
    cases r with
    | cons h1 h2 =>
      rcases List.mem_append.mp hx with hx | hx
      · exact reads_live d _ _ hal.1 h1 x hx
      · exact readsAll_live ds _ _ hal.2 h2 x hx
end
/-- sorted(v) where the items come -/
theorem sorted_col {β : Type} {v : Value} {vs : List Value} {bs : List β} {enc : β → PyData} {R : Value → β → Prop} {A : Around} {E : Value → Shared → Prop} {P : Program} {w : World} {Q : Value → Shared → Prop} (hc : Col P w s v vs) (hh : A.handled = none)
    (e : PySem.W.EachIs R vs bs) (er : PySem.W.EachIs (fun v b => ∃ as, Reads s.heap v (enc b) as) vs bs) (hal : PySem.W.AllAlike (bs.map enc)) (hk : PySem.W.Sortable (bs.map enc)) (hL : bs.length ≤ sizeLine) (hu : ∀ b, b ∈ bs → A.units + 2 + (enc b).depth < cLine)
    (fin : ∀ (h' : Heap) (tk : Nat) (D : Addr) (m : Nat) (out : List Value), (∀ b o, s.heap.get? b = some o → h'.get? b = some o) → (∀ b o, s.heap.get? b = some o → b ≠ D) → h'.get? D = some { cls := .type "list", data := .seq out.toArray m } → out.length = bs.length →
      PySem.W.EachIs R out (bs.mergeSort (PySem.W.dataLe false enc)) → Q (.ref D) { s with heap := h', toks := tk }) :
    wpAny (model P w) A (call (.builtin "sorted") [v]) Q E s := by
  refine PySem.Calls.call_function_entry kind_sorted plain_sorted entry_sorted (args_sorted1 _) ?_
  unfold Builtin.«sorted»
  refine wpAny_bind (m := checkCount "sorted" 1 1 _) (wpAny_pure ?_)
  refine wpAny_bind (hc A.in1 _ _ hh fun h' tk kp => ?_)
  have hl : vs.length = bs.length := e.length
  refine wpAny_bind (wpAny_newList ?_ (by rw [hl]; exact hL))
  have hnew : (h'.push { cls := .type "list", data := .seq vs.toArray }).get? h'.objs.size = some { cls := .type "list", data := .seq vs.toArray } := Heap.get?_push_size _ rfl
  have er2 : PySem.W.EachIs (fun v b => ∃ as, Reads (h'.push { cls := .type "list", data := .seq vs.toArray }) v (enc b) as ∧ h'.objs.size ∉ as) vs bs := by
    refine (PySem.W.each_mem er).mono fun u b ⟨⟨as, r⟩, hb⟩ => ⟨as, PyProof.Rows.Reads.keeps (fun b o q => Heap.get?_push_of_some _ (kp b o q)) r, fun hm => ?_⟩
    obtain ⟨o, ho⟩ := reads_live _ _ _ (hal _ (List.mem_map_of_mem hb) _ (List.mem_map_of_mem hb)) r _ hm
    exact absurd (Heap.lt_size (kp _ _ ho)) (Nat.lt_irrefl _)
  have key := PySem.W.list_sort_data (prog := P) (w := w) (A := A.in1) (E := E) (s := { s with heap := h'.push { cls := .type "list", data := .seq vs.toArray }, toks := tk }) (a := h'.objs.size) (n := 0) (Q := fun _ s' => Q (.ref h'.objs.size) s') hnew e er2 hal hk hL
    (fun b hb => by have := hu b hb; show A.units + 1 + 1 + _ < cLine; omega) (fun out ho eo => by
      obtain ⟨m, hm⟩ := sortedHeap_at (out := out.toArray) hnew
      refine fin _ _ h'.objs.size m out (fun b o q => ?_) (fun b o q => Nat.ne_of_lt (Heap.lt_size (kp b o q))) hm ho eo
      have hb := Heap.lt_size (kp b o q)
      rw [sortedHeap_old (Nat.ne_of_lt hb) (by rw [Heap.size_push]; exact Nat.lt_succ_of_lt hb)]
      exact Heap.get?_push_of_some _ (kp b o q))
  refine wpAny_bind (wpAny_holding (wpAny_mono key (fun _ s' x => ?_) fun _ _ e => e))
  exact wpAny_pure ⟨_, rfl, x⟩
/-- a new object is laid anywhere that was free -/
theorem laidN {D : Addr} {o : HO} {h' : Heap} {t' : Nat} (I : Inv X pins σ H s) (k : ∀ b u, s.heap.get? b = some u → h'.get? b = some u) (off : ∀ b u, s.heap.get? b = some u → b ≠ D) (new : ObjOk X.prog X.w (upd H D o) h' D o) :
    H D = none ∧ Inv X pins σ (upd H D o) { s with heap := h', toks := t' } := by
  have hn : H D = none := by
    cases z : H D with
    | none => rfl
    | some u =>
      have x := I.hok D u z
      have lv : ∃ ob, s.heap.get? D = some ob := by
        have hlt := I.hok.lt z
        cases q : s.heap.get? D with
        | some ob => exact ⟨ob, rfl⟩
        | none =>
          exfalso
          cases u with
          | lst xs => obtain ⟨_, _, _, _, e⟩ := x; rw [q] at e; cases e
          | tup xs => obtain ⟨_, _, _, o, e, _⟩ := x; rw [q] at e; cases e
          | dK kvs => obtain ⟨_, _, _, _, o, _, _, e, _⟩ := x; rw [q] at e; cases e
          | dT kvs => obtain ⟨_, _, _, _, o, _, _, e, _⟩ := x; rw [q] at e; cases e
          | set S n => obtain ⟨o, _, _, _, e, _⟩ := x; rw [q] at e; cases e
          | ins C dx fs => obtain ⟨_, _, _, e, _⟩ := x; rw [q] at e; cases e
          | own y => obtain ⟨_, e⟩ := x; rw [q] at e; cases e
          | xd fs => obtain ⟨_, ⟨_, _, _, e, _⟩, _⟩ := x; rw [q] at e; cases e
          | rng lo hi => obtain ⟨_, _, _, e⟩ := x; rw [q] at e; cases e
          | frz ob u => obtain ⟨e, _⟩ := x; rw [q] at e; cases e
          | tbl ps => rw [show s.heap.get? D = some _ from x] at q; cases q
          | met f y => rw [show s.heap.get? D = some _ from x] at q; cases q
          | ext φ => obtain ⟨_, ⟨_, e⟩, _⟩ := x; rw [q] at e; cases e
      obtain ⟨ob, e⟩ := lv
      exact absurd rfl (off D ob e)
  refine ⟨hn, I.un (t' := t') ⟨fun b u q _ _ _ => k b u q, fun b u q _ _ _ => ⟨u.slots, k b u q⟩, fun b u q m _ => by rw [upd_ne (off b u q)]; exact m, fun b u q _ => ⟨u, k b u q⟩,
    fun b xs q => by rw [upd_ne (ne_of_none q hn)]; exact q, fun b u xs q => by rw [upd_ne (ne_of_none q hn)]; exact q, fun b ps q => ⟨#[], by rw [upd_ne (ne_of_none q hn), q]; simp⟩⟩ fun b u e => ?_⟩
  by_cases hb : b = D
  · subst hb; rw [upd_same] at e; cases e; exact new
  · rw [upd_ne hb] at e
    exact (I.hok b u e).stay (fun c v _ q => k c v q) (fun c q => by rw [upd_ne (ne_of_none q hn)]; exact q) fun c xs q => by rw [upd_ne (ne_of_none q hn)]; exact q
/-! ### the rule -/
theorem each_rv {ds : List D} {vs : List V} {us : List Value} (rs : RVs X.KW f n H ds vs) (r : Vals vs us) : PySem.W.EachIs (fun u d => ∃ v, RV X.KW f n H d v ∧ RelV v u) us ds := by
  induction r generalizing ds with
  | nil => cases rs; exact .nil
  | cons r t ih =>
    cases rs with
    | cons a b => exact .cons ⟨_, a, r⟩ (ih b)
theorem rv_each {ds : List D} {us : List Value} (e : PySem.W.EachIs (fun u d => ∃ v, RV X.KW f n H d v ∧ RelV v u) us ds) : ∃ vs, RVs X.KW f n H ds vs ∧ Vals vs us := by
  induction e with
  | nil => exact ⟨[], .nil, .nil⟩
  | cons r t ih =>
    obtain ⟨v, a, b⟩ := r
    obtain ⟨vs, k1, k2⟩ := ih
    exact ⟨v :: vs, .cons a k1, .cons b k2⟩
/-- sorted of a value whose items come -/
def rSortV (X : Cx) : List V → Hp → VK → Prop := fun vs H Q => ∃ (x : V) (f : Fm) (n : Nat) (ds : List D), vs = [x] ∧ sortOk ds ∧
  (∀ (pins : List (Addr × Obj)) (σ : L2.St) (s : Shared) (u : Value), Inv X pins σ H s → RelV x u → ∃ (xs : List V) (its : List Value), RVs X.KW f n H ds xs ∧ Vals xs its ∧ xs.length ≤ sizeLine ∧ Col X.prog X.w s u its) ∧
  ∀ p ys, H p = none → RVs X.KW f n H (ds.mergeSort dle) ys → Q (.ref p) (upd H p (.lst ys))
theorem call_sortV {k : Nat} (hr : Rm X k) (hc : X.calm = true) : CallR X (.builtin "sorted") (rSortV X) := by
  intro pins s σ H vs us Q I r hh
  obtain ⟨x, f, n, ds, rfl, ⟨c1, c2, c3⟩, items, fin⟩ := hh
  obtain ⟨u, rfl, ru⟩ := r.one
  obtain ⟨xs, its, rs, rv, hl, col⟩ := items pins σ s u I ru
  rw [← rs.length] at hl
  have e := each_rv rs rv
  have er : PySem.W.EachIs (fun v d => ∃ as, Reads s.heap v (encD d) as) its ds := by
    refine (PySem.W.each_mem e).mono fun v d ⟨⟨z, a, b⟩, hd⟩ => ?_
    obtain ⟨p, hp, _⟩ := c1 d hd
    unfold encD
    rw [hp]
    exact Dp.reads I p z v (RV.dp a hp) b
  have dep : ∀ d ∈ ds, (encD d).depth ≤ 30 := fun d hd => by
    obtain ⟨p, hp, h2⟩ := c1 d hd
    unfold encD
    rw [hp]
    exact h2
  have un := hr.room.units
  refine sorted_col col (I.ok.hd hc) e er c2 c3 hl (fun b hb => by have := dep b hb; omega) fun h' tk D m out kp off g ho eo => ?_
  obtain ⟨ys, k1, k2⟩ := rv_each eo
  have hz : ys.length ≤ sizeLine := by
    rw [← k1.length, List.length_mergeSort]
    exact hl
  obtain ⟨hn, I2⟩ := laidN (t' := tk) (o := .lst ys) I kp off ⟨hz, out, m, k2, g⟩
  exact ⟨.ref D, _, I2, rfl, fin D ys hn k1⟩
end
section
variable {X : Cx} {at_ : Cl} {W : WX} {k : Nat} {a : Expr} {ma : Ex} {p pos : Pos}
theorem row_items {f : Fm} {h : Hh} {H : Hp} {d : D} {v : V} {ds : List D} (M : Sm X.KW at_ f h H) (r : RV X.KW f h.length H d v) (e : rowV d h = some ds) :
    (∃ q t vs, v = .ref q ∧ sq X.K H t q vs ∧ RVs X.KW f h.length H ds vs) ∨ ∃ q es kvs, v = .ref q ∧ Rd H q (rawD q es) ∧ Paired (REn X.KW f h.length H) kvs es ∧ ds = kvs.map (·.1) := by
  unfold rowV at e
  cases z : lsD d h with
  | some xs =>
    rw [z] at e
    cases e
    obtain ⟨q, vs, rfl, k1, k2⟩ := ls_rd M r z
    exact .inl ⟨q, false, vs, rfl, .inl k1, k2⟩
  | none =>
    rw [z] at e
    cases r with
    | tup ht hs => cases e; exact .inl ⟨_, true, _, rfl, ht, hs⟩
    | fd ht hk hs e1 e2 e3 e4 =>
      obtain ⟨kvs, z2, z3⟩ := Option.map_eq_some_iff.mp e
      obtain ⟨q, es, k1, k2, k3, k4⟩ := dic_rd M (.fd ht hk hs e1 e2 e3 e4) z2
      exact .inr ⟨q, es, kvs, k1, k2, k3, z3.symm⟩
    | ref hi =>
      obtain ⟨kvs, z2, z3⟩ := Option.map_eq_some_iff.mp e
      obtain ⟨q, es, k1, k2, k3, k4⟩ := dic_rd M (.ref hi) z2
      exact .inr ⟨q, es, kvs, k1, k2, k3, z3.symm⟩
    | _ => cases e
theorem ren_keys {K : KW} {f : Fm} {n : Nat} {H : Hp} : ∀ {kvs : List (D × D)} {es : List DictEntry}, Paired (REn K f n H) kvs es → ∃ vs, RVs K f n H (kvs.map (·.1)) vs ∧ Vals vs (es.map (·.key))
  | _, _, .nil => ⟨[], .nil, .nil⟩
  | _, _, .cons r t => by
    obtain ⟨vs, k1, k2⟩ := ren_keys t
    obtain ⟨v, k3, k4⟩ := r.key
    exact ⟨v :: vs, .cons k3 k1, .cons k4 k2⟩
/-- sorted(x) as a new list -/
theorem sf_sorted (hr : Rm X k) (hc : X.calm = true) (ha : SE X at_ W a ma) (hm : X.mg "sorted" = none) (hg : Gl X "sorted" := by rfl) (he : starEach (a :: []) X.env = (false, eval a X.env) :: starEach [] X.env := by rfl) (hpl : (backTo pos (starEach [] X.env)).any (·.1) = false := by rfl) :
    SF X at_ W (.Call (.Name "sorted" p) [a] [] pos) (aSort ma) := by
  obtain ⟨t1, p1, q1⟩ := ha.ex
  refine ⟨⟨_, pe_callB (call_sortV hr hc) hg hm (by rfl) (pa_cons p1 pa_nil he) (by decide) (by decide) he hpl, fun f h H S σ M e Q P => ?_⟩⟩
  refine q1 f h H S σ M e _ (Post.step P fun d h1 f1 H1 v1 E1 M1 r1 P1 => ?_)
  show rSortV X [v1] H1 Q
  cases z : rowV d h1 with
  | none => rw [z] at P1; exact False.elim P1
  | some xs =>
    rw [z] at P1
    dsimp only at P1
    by_cases c : sortOk xs
    · rw [if_pos c] at P1
      have fin : ∀ p ys, H1 p = none → RVs X.KW f1 h1.length H1 (xs.mergeSort dle) ys → Q (.ref p) (upd H1 p (.lst ys)) := fun p ys hp rs => new_sf (H0 := H1) M1 rs hp P1
      rcases row_items M1 r1 z with ⟨q, t, vs, rfl, k1, k2⟩ | ⟨q, es, kvs, rfl, k1, k2, rfl⟩
      · refine ⟨_, f1, h1.length, xs, rfl, c, fun pins σ s u I ru => ?_, fin⟩
        cases ru
        obtain ⟨its, rv, pc, hz⟩ := sq_at I k1
        refine ⟨vs, its, k2, rv, hz, ?_⟩
        have := col_sq (P := X.prog) (w := X.w) pc (by rw [List.size_toArray, ← rv.length]; exact hz)
        simpa using this
      · obtain ⟨vs, k3, k4⟩ := ren_keys k2
        refine ⟨_, f1, h1.length, _, rfl, c, fun pins σ s u I ru => ?_, fin⟩
        cases ru
        obtain ⟨lo, hz, o, ea, ep, ho, hc', hd, rfl⟩ := raw_obj (k1.ok I.hok)
        exact ⟨vs, _, k3, k4, by rw [k4.length, List.length_map]; exact hz, col_raw ⟨o, ho, hc', hd⟩ lo (by simpa using hz)⟩
    · rw [if_neg c] at P1; exact False.elim P1
end
end PV
set_option Elab.async false
set_option linter.all false
set_option autoImplicit false
set_option maxRecDepth 100000
set_option maxHeartbeats 2000000
/-! PVG: new dicts: displays, comprehensions, dict(..); update, len. -/
namespace PV
open PySem PySem.Spec PyProof.Rows L2
section
variable {X : Cx} {at_ : Cl} {W : WX} {pins : List (Addr × Obj)} {σ : L2.St} {H : Hp} {s : Shared} {f : Fm} {h : Hh} {n : Nat} {a : Addr} {es : List DictEntry} {kvs : List (D × D)}
theorem room_in0 {k : Nat} (hr : Room k X.A) : (nestedKind X.prog X.w).room X.A := by
  have := hr.units
  show X.A.units + 8 < cLine
  omega
section
variable {kd vd : D} {kx vx : V} {ku vu : Value} {k : Nat}
/-- d[k] = v of a comprehension -/
theorem raw_dset {Q : Shared → Prop} (hr : Room k X.A) {E : Value → Shared → Prop} (I : Inv X pins σ H s) (e : H a = some (rawD a es)) (rs : Paired (REn X.KW f n H) kvs es) (nd : (kvs.map fun p => p.1.nk).Nodup) (fit : fitK kd kvs = true) (hz : kvs.length < big)
    (rk : RV X.KW f n H kd kx) (rku : RelV kx ku) (rv : RV X.KW f n H vd vx) (rvu : RelV vx vu)
    (fin : ∀ es' s', Inv X pins σ (upd H a (rawD a es')) s' → Paired (REn X.KW f n H) (putK kd vd kvs) es' → Q s') : wpAny (model X.prog X.w) X.A (dictSet a ku vu) (fun _ s' => Q s') E s := by
  obtain ⟨f1, f2⟩ := fit_of fit
  have hl : (putK kd vd kvs).length ≤ sizeLine := by
    have h1 := putK_len (kd := kd) (vd := vd) (kvs := kvs)
    have h2 := big_line.mp (show kvs.length + 1 ≤ big by omega)
    omega
  have byv : ∀ {κ : Type} [DecidableEq κ] (B : BK X.prog X.w κ) (q : κ), kd = B.d q → (∀ p ∈ kvs, ∃ q, p.1 = B.d q) → wpAny (model X.prog X.w) X.A (dictSet a ku vu) (fun _ s' => Q s') E s := by
    intro κ _ B q eq hq
    obtain ⟨ps, dd, hp, hs, hl0⟩ := bk_open B I (.inl e) rs nd hq
    subst eq
    rw [B.rv] at rk
    subst rk
    refine wpAny_dictSet_pairs ((B.isv _ _).mpr rku) dd (fun h' dd' sb => ?_) hl0
    have hp' := pb_put B (k := q) rv rvu hp
    obtain ⟨es', new, ren⟩ := bk_close (H' := upd H a (rawD a es)) B dd' hp' hs (by rw [← paired_len hp']; exact hl)
    obtain ⟨es2, new2, ren2⟩ := bk_close (H' := upd H a (rawD a es')) B dd' hp' hs (by rw [← paired_len hp']; exact hl)
    have e12 : es' = es2 := by
      obtain ⟨_, _, o, ea, ep, q1, _, q2, q3⟩ := raw_obj new
      obtain ⟨_, _, o2, ea2, ep2, q4, _, q5, q6⟩ := raw_obj new2
      rw [q1] at q4; cases q4
      rw [q2] at q5; cases q5
      rw [← q3, ← q6]
    subst e12
    refine fin es' _ (I.write (x := a) (e := a) (t' := s.toks + 1) (by rw [e]; exact trivial) (.inl rfl) (fun b u hb hu => (sb.2 b hb).trans hu) ?_ new2) ren
    obtain ⟨_, _, o, _, _, q1, _⟩ := raw_obj new
    exact ⟨o, q1⟩
  rcases kd_or f1 with z | z | z
  · obtain ⟨i, ei⟩ := kd1 z
    exact byv (bkI X.prog X.w) i ei fun p hp => kd1 ((f2 p hp).trans z)
  · obtain ⟨i, ei⟩ := kd2 z
    exact byv (bkS X.prog X.w) i ei fun p hp => kd2 ((f2 p hp).trans z)
  · obtain ⟨xs, dd, hp, hs, hl0⟩ := tk_open I (.inl e) rs nd fun p hp => (f2 p hp).trans z
    obtain ⟨ds, q, e1, e2, e3⟩ := kd3 z
    have rk0 := rk
    rw [e1] at rk
    cases rk with
    | tup ht hs' =>
      rename_i b us
      have eku : ku = .ref b := rku
      subst eku
      refine wpAny_dictSet_heap (room_in0 hr) ⟨nest_of I rk0 rku e2, e3⟩ dd (fun h' dd' sb => ?_) hl0
      have hp' := pt_put e2 rk0 rv rvu hp
      obtain ⟨es', new, ren⟩ := tk_close (H' := upd H a (rawD a es)) dd' hp' hs (by rw [← paired_len hp']; exact hl)
      obtain ⟨es2, new2, ren2⟩ := tk_close (H' := upd H a (rawD a es')) dd' hp' hs (by rw [← paired_len hp']; exact hl)
      have e12 : es' = es2 := by
        obtain ⟨_, _, o, ea, ep, q1, _, q2, q3⟩ := raw_obj new
        obtain ⟨_, _, o2, ea2, ep2, q4, _, q5, q6⟩ := raw_obj new2
        rw [q1] at q4; cases q4
        rw [q2] at q5; cases q5
        rw [← q3, ← q6]
      subst e12
      refine fin es' _ (I.write (x := a) (e := a) (t' := s.toks + (nestedKind X.prog X.w).draws q) (by rw [e]; exact trivial) (.inl rfl) (fun b u hb hu => (sb.2 b hb).trans hu) ?_ new2) ren
      obtain ⟨_, _, o, _, _, q1, _⟩ := raw_obj new
      exact ⟨o, q1⟩
end
theorem raw_new (I : Inv X pins σ H s) {hp : Heap} (q : hp.get? s.heap.objs.size = some { cls := .type "dict", data := .dict #[] }) {H' : Hp} : ObjOk X.prog X.w H' hp s.heap.objs.size (rawD s.heap.objs.size []) :=
  raw_ok (beq_eq_false_iff_ne.mpr (Ne.symm (Nat.ne_of_lt I.big))) (Nat.zero_le _) q ⟨rfl, rfl, rfl⟩ rfl rfl
end
/-! ### a new dict, untold -/
abbrev Ad := Sg → Hh → R (List (D × D))
abbrev relDic (K : KW) : Hp → Fm → Nat → Hp → List (D × D) → V → Prop := fun H0 f n H kvs v => ∃ a es, v = .ref a ∧ H0 a = none ∧ H a = some (rawD a es) ∧ (∀ i, i < n → f i ≠ a) ∧ Paired (REn K f n H) kvs es ∧ (kvs.map fun p => p.1.nk).Nodup
instance {K : KW} : RelOk (relDic K) := ⟨fun _ _ _ _ _ _ _ hb ⟨a, es, h1, h2, h3⟩ => ⟨a, es, h1, hb a h2, h3⟩⟩
structure SFD (X : Cx) (at_ : Cl) (W : WX) (e : Expr) (m : Ad) : Prop where
  ex : ∃ t, PE X e t ∧ Snd X.KW at_ W (relDic X.KW) t m
/-- a new dict laid into the heap -/
def eDL (l : Ad) : Ex := fun S h => (l S h).bind fun kvs h1 => .ok (.ref h1.length) (h1 ++ [.dic kvs])
/-- a new dict by content -/
def eDZ (l : Ad) : Ex := fun S h => (l S h).bind fun kvs h1 => .ok (.fd (kvs.map (·.1)) (kvs.map (·.2))) h1
/-- {} -/
def aD0 : Ad := fun _ h => .ok [] h
section
variable {X : Cx} {at_ : Cl} {W : WX} {a : Expr} {pos : Pos} {lf : Ad}
theorem se_dic (ha : SFD X at_ W a lf) : SE X at_ W a (eDL lf) := by
  obtain ⟨t1, p1, q1⟩ := ha.ex
  refine ⟨⟨_, p1, fun f h H S σ M e Q P => ?_⟩⟩
  refine q1 f h H S σ M e _ ?_
  unfold eDL at P
  cases z : lf S h with
  | bad => rw [z] at P; exact P
  | exc c fs h1 => rw [z] at P; exact P
  | ok kvs h1 =>
    rw [z] at P
    intro f1 H1 v E1 M1 r1
    obtain ⟨q, es, rfl, h0, hq, hn, rv, nd⟩ := r1
    have M2 := M1.tell (o := O.dic kvs) hn ⟨es, hq, rv, nd⟩
    refine P _ _ _ (by rw [List.length_append, List.length_singleton]; exact E1.tell h0 hn) M2 ?_
    rw [List.length_append, List.length_singleton]
    have r : RV X.KW (ext1 f1 h1.length q) (h1.length + 1) H1 (.ref h1.length) (.ref (ext1 f1 h1.length q h1.length)) := RV.ref (Nat.lt_succ_self _)
    rw [ext1_eq] at r
    exact r
theorem se_dicZ (ha : SFD X at_ W a lf) : SE X at_ W a (eDZ lf) := by
  obtain ⟨t1, p1, q1⟩ := ha.ex
  refine ⟨⟨_, pe_frz p1, fun f h H S σ M e Q P => ?_⟩⟩
  refine q1 f h H S σ M e _ ?_
  unfold eDZ at P
  cases z : lf S h with
  | bad => rw [z] at P; exact P
  | exc c fs h1 => rw [z] at P; exact P
  | ok kvs h1 =>
    rw [z] at P
    intro f1 H1 v E1 M1 r1
    obtain ⟨q, es, rfl, h0, hq, hn, rv, nd⟩ := r1
    refine .inr ⟨q, _, rfl, hq, trivial, fun o => ?_⟩
    obtain ⟨us, vs, k1, k2, k3, k4, k5⟩ := ren_split rv
    have kp : ∀ a o', Fix o' → H1 a = some o' → (upd H1 q (.frz o (rawD q es))) a = some o' := fix_off hq fun z => z
    refine P f1 _ _ (E1.side h0) (M1.off1 hq (fun z => z) hn) (.fd upd_same (k1.keep (Nat.le_refl _) (fun _ _ => rfl) kp) (k2.keep (Nat.le_refl _) (fun _ _ => rfl) kp) k3 k4 k5 ?_)
    rw [List.map_map]
    exact nd
theorem sfd_new : SFD X at_ W (.Dict [] [] pos) aD0 := ⟨⟨fun σ H Q => ∀ p, H p = none → Q (.ref p) (upd H p (rawD p [])), ⟨fun pins s σ H Q I hh =>
    wpAny_Dict_empty ⟨.ref s.heap.objs.size, _, I.laid (a := s.heap.objs.size) (o := rawD s.heap.objs.size []) (t' := s.toks) (fun _ _ q => Heap.get?_push_of_some _ q) (Nat.le_refl _) (raw_new I (Heap.get?_push_size _ rfl)), rfl, hh _ (I.hok.fresh (Nat.le_refl _))⟩⟩,
  fun f h H S σ M e Q P p hp => P f _ _ (Ext.fresh hp) (M.fresh hp) ⟨p, [], rfl, hp, upd_same, side_new M hp, .nil, List.nodup_nil⟩⟩⟩
end
end PV
set_option Elab.async false
set_option linter.all false
set_option autoImplicit false
set_option maxRecDepth 100000
set_option maxHeartbeats 4000000
/-! PVH: dict comprehensions. -/
namespace PV
open PySem PySem.Spec PyProof.Rows L2
/-- what is stored by a turn -/
def Sto (X : Cx) (D : Addr) (y z : V) (H : Hp) (Nx : Hp → Prop) : Prop := ∃ f n kvs es kd vd, H D = some (rawD D es) ∧ Paired (REn X.KW f n H) kvs es ∧ (kvs.map fun p => p.1.nk).Nodup ∧ fitK kd kvs = true ∧ kvs.length < big ∧ RV X.KW f n H kd y ∧ RV X.KW f n H vd z ∧
  ∀ es', Paired (REn X.KW f n H) (putK kd vd kvs) es' → Nx (upd H D (rawD D es'))
/-- {k: v for target in iter if ..}: D the new dict -/
def tDcR (X : Cx) (wi : TI) (g : TG) (tt : TT) (tk tv : TE) (vs : List Nat) : TE := fun σ H Q => wi σ H fun J H1 => ∀ D, H1 D = none → ∃ W : Nat → Nat → Hp → Prop, (∃ m, W 0 m (upd H1 D (rawD D []))) ∧ ∀ i m H, W i m H →
  (J.stop i H ∧ Q (.ref D) H) ∨ (J.go i H ∧ ∃ Nx : Hp → Prop, (∀ H', Nx H' → ∃ m', m' < m ∧ W (i + 1) m' H') ∧ ∀ x H', J.yld i H x H' → g x (L2.wipe σ vs) H' fun σ2 H2 => L2.wipe σ2 vs = L2.wipe σ vs ∧ tt σ2 H2 fun b H3 =>
    if b = true then tk σ2 H3 fun y H4 => tv σ2 H4 fun z H5 => Sto X D y z H5 Nx else Nx H3)
section
variable {X : Cx}
theorem pe_dcR {k : Nat} {kx vx tg iter : Expr} {ifs : List Expr} {scope : Scope} {own : List (Str × Nat)} {pos : Pos} {wi : TI} {g : TG} {tt : TT} {tk tv : TE} (hr : Room k X.A) (hc : X.calm = true) (hN : X.N.Nodup) (hi : PI X tg iter wi) (ok : BlkOk X.N X.env.scope scope own)
    (hg : ∀ (s : Shared) (H : Hp) (C : Addr) (cl : List (Str × Addr)) (fp : List Addr), PG (X.blk s H scope (compEnvC scope cl C X.env) fp) tg g) (ht : ∀ (s : Shared) (H : Hp) (C : Addr) (cl : List (Str × Addr)) (fp : List Addr), PTs (X.blk s H scope (compEnvC scope cl C X.env) fp) ifs tt)
    (hk : ∀ (s : Shared) (H : Hp) (C : Addr) (cl : List (Str × Addr)) (fp : List Addr), PE (X.blk s H scope (compEnvC scope cl C X.env) fp) kx tk)
    (he : ∀ (s : Shared) (H : Hp) (C : Addr) (cl : List (Str × Addr)) (fp : List Addr), PE (X.blk s H scope (compEnvC scope cl C X.env) fp) vx tv) (hs : ∀ x, foldedSetIterable iter X.env x = pure x := by intro _; rfl) :
    PE X (.DictComp kx vx [⟨tg, iter, ifs, 0⟩] scope pos) (tDcR X wi g tt tk tv (own.map (·.2))) := by
  refine ⟨fun pins s σ H Q I hq => ?_⟩
  rw [arm_eval_DictComp]
  have closed : ∀ y ∈ scope.names, y.2 = .free → ∃ c, X.env.cells.lookup y.1 = some c := fun y hy e => I.ok.has _ ((ok.free y hy e).elim (fun z => .inl z) fun z => .inr z)
  refine wpAny_comprehension_free (use := none) rfl hs (closure_ok closed) ok.kind (fun y hy e => by rw [ok.uniq y hy, e]) (thn (hi.run pins s σ H _ I hq) fun xv s1 hx => thn hx fun itv s2 begun => ?_)
  obtain ⟨it, fp, tn, J, H2, rfl, I2, T, st2, f2, q⟩ := begun
  refine wpAny_newObj_type (newEnv_comp ?_)
  have free : H2 s2.heap.objs.size = none := I2.hok.fresh (Nat.le_refl _)
  obtain ⟨W, ⟨m0, w0⟩, turn⟩ := q _ free
  have I3 : Inv X pins σ (upd H2 s2.heap.objs.size (rawD s2.heap.objs.size [])) { s2 with heap := s2.heap.push { cls := .type "dict", data := .dict #[] } } :=
    I2.laid (t' := s2.toks) (fun b o e => Heap.get?_push_of_some _ e) (Nat.le_refl _) (raw_new I2 (Heap.get?_push_size _ rfl))
  have below : ∀ b ∈ fp, b < s2.heap.objs.size := fun b hb => let ⟨o, e, _⟩ := T.obj _ _ st2 b hb; Heap.lt_size e
  generalize hD : s2.heap.objs.size = D at *
  generalize hs3 : ({ s2 with heap := s2.heap.push { cls := .type "dict", data := .dict #[] } } : Shared) = s3 at I3
  have hp3 : s3.heap = s2.heap.push { cls := .type "dict", data := .dict #[] } := by rw [← hs3]
  have f3 : ∀ b ∈ fp, FpOk X pins (upd H2 D (rawD D [])) b ∧ b < s3.heap.objs.size := fun b hb => by
    have hlt := below b hb
    refine ⟨⟨?_, (f2 b hb).2⟩, by rw [hp3, Heap.size_push, hD]; exact Nat.lt_succ_of_lt hlt⟩
    rw [upd_ne (Nat.ne_of_lt hlt)]
    exact (f2 b hb).1
  have st3 : tn 0 s3.heap := T.keep _ _ _ st2 fun b _ o e => by rw [hp3]; exact Heap.get?_push_of_some _ e
  have I4 := block_start I3 ok hN f3
  have pg := hg s3 (upd H2 D (rawD D [])) s3.heap.objs.size (cellsFrom (s3.heap.objs.size + 1) scope.names (cloFrom X.env.cells scope.names [])) fp
  have pt := ht s3 (upd H2 D (rawD D [])) s3.heap.objs.size (cellsFrom (s3.heap.objs.size + 1) scope.names (cloFrom X.env.cells scope.names [])) fp
  have pk := hk s3 (upd H2 D (rawD D [])) s3.heap.objs.size (cellsFrom (s3.heap.objs.size + 1) scope.names (cloFrom X.env.cells scope.names [])) fp
  have pe := he s3 (upd H2 D (rawD D [])) s3.heap.objs.size (cellsFrom (s3.heap.objs.size + 1) scope.names (cloFrom X.env.cells scope.names [])) fp
  have none3 : ∀ b ∈ fp, (upd H2 D (rawD D [])) b = none := fun b hb => (f3 b hb).1.1
  show codeAny _ _ (.compStart (.DictComp kx vx [⟨tg, iter, ifs, 0⟩] scope pos) 0 (.ref it) (.ref D) (compEnvC scope (cellsFrom (s3.heap.objs.size + 1) scope.names (cloFrom X.env.cells scope.names [])) s3.heap.objs.size X.env)) (compPost (model X.prog X.w) X.A X.xe none (EP X pins σ Q) (.ref D) s3.heap.objs.size)
    { s3 with heap := pushCells (s3.heap.push { cls := .type "dict", data := .dict #[] }) scope.names }
  generalize hce : compEnvC scope (cellsFrom (s3.heap.objs.size + 1) scope.names (cloFrom X.env.cells scope.names [])) s3.heap.objs.size X.env = ce at I4 pg pt pk pe ⊢
  have atL : ce.locals = s3.heap.objs.size := by subst hce; rfl
  generalize hH3 : upd H2 D (rawD D []) = H3 at I3 I4 pg pt pk pe w0 none3 f3
  generalize hs4 : ({ s3 with heap := pushCells (s3.heap.push { cls := .type "dict", data := .dict #[] }) scope.names } : Shared) = s4 at I4 ⊢
  have st4 : tn 0 s4.heap := T.keep _ _ _ st3 fun b _ o e => by rw [← hs4]; exact pushCells_keeps _ _ _ _ (Heap.get?_push_of_some _ e)
  have still : ∀ {σ' : L2.St} {H' : Hp} {s' : Shared}, Inv (X.blk s3 H3 scope ce fp) [] σ' H' s' → (∀ b ∈ fp, H' b = none) → ∀ b ∈ fp, FpOk (X.blk s3 H3 scope ce fp) [] H' b := fun {σ' H' s'} I' hn b hb =>
    ⟨hn b hb, (I'.ok.exf b hb).1, I'.ok.exfs b hb, .inl hb, fun x c e => (I'.ok.exf b hb).2 x c e, fun p hp => absurd (show p ∈ ([] : List (Addr × Obj)) ++ [] from hp) (by simp)⟩
  have loop : codeAny (model X.prog X.w) X.A (.compLoop (.DictComp kx vx [⟨tg, iter, ifs, 0⟩] scope pos) 0 (.ref it) (.ref D) ce) (compPost (model X.prog X.w) X.A X.xe none (EP X pins σ Q) (.ref D) s3.heap.objs.size) s4 := by
    refine compLoop_anyD (fun m s' => ∃ i H', Inv (X.blk s3 H3 scope ce fp) [] (L2.wipe σ (own.map (·.2))) H' s' ∧ tn i s'.heap ∧ (∀ b ∈ fp, H' b = none) ∧ W i m H') ?_ m0 ⟨0, H3, I4, st4, none3, w0⟩
    rintro m s5 ⟨i, H5, I5, st5, n5, w5⟩
    rcases turn i m H5 w5 with ⟨stop, fin⟩ | ⟨go, Nx, less, step⟩
    · refine thnF (T.done (X.blk s3 H3 scope ce fp) rfl rfl rfl hc i [] s5 _ H5 (fun _ _ => False) I5 (still I5 n5) st5 stop) fun r s6 got => ?_
      obtain ⟨rfl, I6⟩ := got
      have I7 : Inv X pins σ H5 s6 := I3.call' (ch := fp) I6.os I6.base I6.hok I6.bare fun b hb => ⟨(f3 b hb).1.2.2.2.1, (f3 b hb).1.2.1, (f3 b hb).1.2.2.2.2.1, (f3 b hb).1.2.2.2.2.2⟩
      have off : H5 s3.heap.objs.size = none := by rw [← atL]; exact I6.free
      obtain ⟨m', ns, _⟩ := I6.loc
      have ns : s6.heap.Ns ce.locals m' := ns
      rw [atL] at ns
      obtain ⟨g0, g1, g2, g3, g4, g5⟩ := I3.fpOk (H' := H5) (Nat.le_refl _) off
      exact ⟨m', ns, fun h'' sb => ⟨.ref D, H5, I7.turned (t' := s6.toks) (fun b o hb e => (sb.2 b hb).trans e) g0 g1 g3 g4 g5, rfl, fin⟩⟩
    · refine thnF (T.item (X.blk s3 H3 scope ce fp) rfl rfl rfl hc i [] s5 _ H5 (fun _ _ => False) I5 (still I5 n5) st5 go) fun r s6 got => ?_
      obtain ⟨u, rfl, h6⟩ := got
      refine thnF h6 fun _ s7 got => ?_
      obtain ⟨x, H7, I7, r7, y7, st7, n7⟩ := got
      refine thnF (pg.run _ s7 _ H7 x u _ (I7.pinned (still I7 n7) (T.obj _ _ st7)) r7 (step x H7 y7)) fun _ s8 got => ?_
      obtain ⟨σ8, H8, I8, w8, q8⟩ := got
      refine thnF (pt.run _ s8 σ8 H8 _ I8 q8) fun b s9 got => ?_
      obtain ⟨H9, I9, q9⟩ := got
      have again : ∀ {s' : Shared} {H' : Hp}, Inv (X.blk s3 H3 scope ce fp) ([] ++ pinsAt fp s7.heap) σ8 H' s' → Nx H' → ∃ m', m' < m ∧ ∃ i H', Inv (X.blk s3 H3 scope ce fp) [] (L2.wipe σ (own.map (·.2))) H' s' ∧ tn i s'.heap ∧ (∀ b ∈ fp, H' b = none) ∧ W i m' H' := fun {s' H'} I' nx => by
        obtain ⟨m', lt, w'⟩ := less H' nx
        have pinned : ∀ b ∈ fp, ∀ o, s7.heap.get? b = some o → s'.heap.get? b = some o ∧ H' b = none := fun b hb o e =>
          let z := I'.pin (b, o) (List.mem_append_right _ (List.mem_append_right _ (mem_pinsAt hb e)))
          ⟨z.1, z.2.1⟩
        refine ⟨m', lt, i + 1, H', (I'.unpinned (pins := [])).weak (by rw [← w8, wipe_length]) (fun j v e => ?_), T.keep _ _ _ st7 fun b hb o e => (pinned b hb o e).1, fun b hb => ?_, w'⟩
        · rw [← w8] at e
          exact (wipe_some e).1
        · obtain ⟨o, e, _⟩ := T.obj _ _ st7 b hb
          exact (pinned b hb o e).2
      cases b with
      | false =>
        simp only [Bool.false_eq_true, if_false] at q9 ⊢
        exact again I9 q9
      | true =>
        simp only [if_true] at q9 ⊢
        refine thnF (pk.run _ s9 σ8 H9 _ I9 q9) fun z s10 got => ?_
        obtain ⟨yk, H10, I10, r10, q10⟩ := got
        refine thnF (pe.run _ s10 σ8 H10 _ I10 q10) fun z2 s11 got => ?_
        obtain ⟨yv, H11, I11, r11, f, n, kvs, es, kd, vd, hD11, ren, nd, fit, lt, rk, rv, nx⟩ := got
        exact raw_dset (X := X.blk s3 H3 scope ce fp) (k := k) hr I11 hD11 ren nd fit lt rk r10 rv r11 fun es' s12 I12 ren' => again I12 (nx es' ren')
  exact codeAny_compStart_dict loop (T.self X.A 0 _ _ _ st4 loop)
end
section
open Classical
/-- {k: v for g in .. if t} -/
noncomputable def dcM (src : Src) (vs : List Nat) (g : Tg) (t : Tt) (ek ev : Ex) (S : Sg) : List D → Hh → List (D × D) → R (List (D × D))
  | [], h, acc => if still src h then .ok acc h else .bad
  | x :: xs, h, acc => if still src h then match g x (PV.wipe S vs) h with
    | .nx S1 h1 => (t S1 h1).calm.bind fun k h2 => if k = true then (ek S1 h2).calm.bind fun kd h3 => (ev S1 h3).calm.bind fun vd h4 => if fitK kd acc = true ∧ acc.length < big then dcM src vs g t ek ev S xs h4 (putK kd vd acc) else .bad else dcM src vs g t ek ev S xs h2 acc
    | _ => .bad
    else .bad
noncomputable def aDc (it : Ls) (vs : List Nat) (g : Tg) (t : Tt) (ek ev : Ex) : Ad := fun S h => (it S h).bind fun p h1 => dcM p.2 vs g t ek ev S p.1 h1 []
end
theorem dcM_still {at_ : Cl} {W : WX} {src : Src} {vs : List Nat} {g : Tg} {t : Tt} {ek ev : Ex} {S : Sg} {xs : List D} {h : Hh} {acc : List (D × D)} {K : KW} {α : Type} {rel : Hp → Fm → Nat → Hp → List (D × D) → α → Prop} {n : Nat} {f : Fm} {H : Hp} {σ : L2.St} {Q : α → Hp → Prop} (P : Post K at_ W rel n f H σ (dcM src vs g t ek ev S xs h acc) Q) : still src h := by
  by_cases st : still src h
  · exact st
  · cases xs with
    | nil => rw [dcM, if_neg st] at P; exact False.elim P
    | cons x xs => rw [dcM, if_neg st] at P; exact False.elim P
theorem dcM_cons (src : Src) (vs : List Nat) (g : Tg) (t : Tt) (ek ev : Ex) (S : Sg) (x : D) (xs : List D) (h : Hh) (acc : List (D × D)) (st : still src h) {S1 : Sg} {h1 : Hh} (z : g x (PV.wipe S vs) h = .nx S1 h1) :
    dcM src vs g t ek ev S (x :: xs) h acc = (t S1 h1).calm.bind fun k h2 => if k = true then (ek S1 h2).calm.bind fun kd h3 => (ev S1 h3).calm.bind fun vd h4 => if fitK kd acc = true ∧ acc.length < big then dcM src vs g t ek ev S xs h4 (putK kd vd acc) else .bad else dcM src vs g t ek ev S xs h2 acc := by
  rw [dcM, if_pos st, z]
section
variable {X : Cx} {at_ : Cl} {W : WX} {la : Ls} {g : Tg} {gv : List Nat}
theorem dc_snd {wi : TI} {t2 : TG} {tt : TT} {tk tv : TE} {ws : List Nat} {t : Tt} {ek ev : Ex} (q1 : SndI X.KW at_ W wi la)
    (q2 : ∀ (f : Fm) (n : Nat) (h : Hh) (H : Hp) (S : Sg) (σ : L2.St) (d : D) (v : V) (S' : Sg) (h' : Hh), REnv X.KW f n H S σ → RV X.KW f n H d v → g d S h = .nx S' h' →
      ∀ Q : L2.St → Hp → Prop, (∀ σ', REnv X.KW f n H S' σ' → (∀ ws, (∀ i ∈ gv, i ∈ ws) → L2.wipe σ' ws = L2.wipe σ ws) → Q σ' H) → t2 v σ H Q)
    (gn : ∀ d S h, (∃ S', g d S h = .nx S' h) ∨ g d S h = .bad) (hw : ∀ i ∈ gv, i ∈ ws) (q3 : Snd X.KW at_ W0 relB tt t) (q4 : Snd X.KW at_ W0 (relV X.KW) tk ek) (q5 : Snd X.KW at_ W0 (relV X.KW) tv ev) : Snd X.KW at_ W (relDic X.KW) (tDcR X wi t2 tt tk tv ws) (aDc la ws g t ek ev) := by
  intro f h H S σ M e Q P
  refine q1 f h H S σ M e _ (Post.step P fun p h1 f1 H1 J E1 M1 it P1 => ?_)
  have e1 := e.ext M E1
  intro D hD
  have M1' : Sm X.KW at_ f1 h1 (upd H1 D (rawD D [])) := M1.fresh hD
  refine ⟨fun i m H2 => m = p.1.length - i ∧ i ≤ p.1.length ∧ ∃ (f2 : Fm) (h2 : Hh) (acc : List (PV.D × PV.D)) (es : List DictEntry), Ext h1.length h2.length f1 f2 H1 H2 ∧ Sm X.KW at_ f2 h2 H2 ∧ H2 D = some (rawD D es) ∧ (∀ j, j < h2.length → f2 j ≠ D) ∧ Paired (REn X.KW f2 h2.length H2) acc es ∧
      (acc.map fun p => p.1.nk).Nodup ∧ REnv X.KW f2 h2.length H2 S σ ∧ Post X.KW at_ W (relDic X.KW) h1.length f1 H1 σ (dcM p.2 ws g t ek ev S (p.1.drop i) h2 acc) Q,
    ⟨p.1.length, by simp, Nat.zero_le _, f1, h1, [], [], Ext.fresh hD, M1', upd_same, side_new M1 hD, .nil, List.nodup_nil, e1.ext M1 (Ext.fresh hD), by simpa using P1⟩, ?_⟩
  rintro i m H2 ⟨rfl, hi, f2, h2, acc, es, E2, M2, hL, hn, rs, nd, e2, P2⟩
  have st := dcM_still P2
  obtain ⟨go, stop, yld⟩ := it f2 h2 H2 E2 M2 st
  by_cases hlt : i < p.1.length
  · rw [List.drop_eq_getElem_cons hlt] at P2
    refine .inr ⟨go i hlt, fun H' => p.1.length - (i + 1) = p.1.length - (i + 1) ∧ i + 1 ≤ p.1.length ∧ ∃ (f2 : Fm) (h2 : Hh) (acc : List (PV.D × PV.D)) (es : List DictEntry), Ext h1.length h2.length f1 f2 H1 H' ∧ Sm X.KW at_ f2 h2 H' ∧ H' D = some (rawD D es) ∧ (∀ j, j < h2.length → f2 j ≠ D) ∧ Paired (REn X.KW f2 h2.length H') acc es ∧
      (acc.map fun p => p.1.nk).Nodup ∧ REnv X.KW f2 h2.length H' S σ ∧ Post X.KW at_ W (relDic X.KW) h1.length f1 H1 σ (dcM p.2 ws g t ek ev S (p.1.drop (i + 1)) h2 acc) Q, fun H' q => ⟨p.1.length - (i + 1), by omega, q⟩, fun x H3 y => ?_⟩
    obtain ⟨E3, M3, r3⟩ := yld i _ x H3 (List.getElem?_eq_getElem hlt) y
    rcases gn p.1[i] (PV.wipe S ws) h2 with ⟨S3, z⟩ | z
    · rw [dcM_cons _ _ _ _ _ _ _ _ _ _ _ st z] at P2
      have e3 : REnv X.KW f2 h2.length H3 (PV.wipe S ws) (L2.wipe σ ws) := (e2.ext M2 E3).wipe ws
      have off : ∀ {f5 : Fm} {h5 : Hh} {H5 : Hp}, Ext h2.length h5.length f2 f5 H3 H5 → H5 D = some (rawD D es) ∧ ∀ j, j < h5.length → f5 j ≠ D := fun {f5 h5 H5} E5 => by
        have k3 : H3 D = some (rawD D es) := E3.kept D _ hL hn
        refine ⟨E5.kept D _ k3 hn, fun j hj z => ?_⟩
        by_cases hj2 : j < h2.length
        · rw [E5.agr j hj2] at z; exact hn j hj2 z
        · have := E5.new j (Nat.le_of_not_lt hj2) hj
          rw [z, k3] at this; cases this
      have rsE : ∀ {f5 : Fm} {h5 : Hh} {H5 : Hp}, Ext h2.length h5.length f2 f5 H3 H5 → Paired (REn X.KW f5 h5.length H5) acc es := fun {f5 h5 H5} E5 =>
        pimp rs fun _ _ q => (q.keep E3.le E3.agr (E3.fix M2)).keep E5.le E5.agr (E5.fix M3)
      refine q2 f2 h2.length h2 H3 _ _ _ x S3 h2 e3 r3 z _ fun σ4 e4 w4 => ⟨?_, ?_⟩
      · rw [w4 ws hw, wipe_wipe]
      refine q3 f2 h2 H3 S3 σ4 M3 e4 _ (Post.calmed P2 fun k h5 f5 H5 b5 E5 M5 r5 P5 => ?_)
      cases r5
      cases k with
      | false =>
        simp only [Bool.false_eq_true, if_false] at P5 ⊢
        obtain ⟨k1, k2⟩ := off E5
        exact ⟨trivial, hlt, f5, h5, acc, es, (E2.trans E3).trans E5, M5, k1, k2, rsE E5, nd, (e2.ext M2 E3).ext M3 E5, P5⟩
      | true =>
        simp only [if_true] at P5 ⊢
        refine q4 f5 h5 H5 S3 σ4 M5 (e4.ext M3 E5) _ (Post.calmed P5 fun kd h6 f6 H6 v6 E6 M6 r6 P6 => ?_)
        refine q5 f6 h6 H6 S3 σ4 M6 ((e4.ext M3 E5).ext M5 E6) _ (Post.calmed P6 fun vd h7 f7 H7 v7 E7 M7 r7 P7 => ?_)
        obtain ⟨k1, k2⟩ := off ((E5.trans E6).trans E7)
        by_cases c : fitK kd acc = true ∧ acc.length < big
        · rw [if_pos c] at P7
          refine ⟨f7, h7.length, acc, es, kd, vd, k1, rsE ((E5.trans E6).trans E7), nd, c.1, c.2, r6.ext M6 E7, r7, fun es' ren => ?_⟩
          have kp : ∀ a o, Fix o → H7 a = some o → (upd H7 D (rawD D es')) a = some o := fix_off k1 fun z => z
          refine ⟨trivial, hlt, f7, h7, putK kd vd acc, es', (((((E2.trans E3).trans E5).trans E6).trans E7).side hD), M7.off1 k1 (fun z => z) k2, upd_same, k2, ?_, putK_nd nd, ?_, P7⟩
          · exact pimp ren fun _ _ q => q.keep (Nat.le_refl _) (fun _ _ => rfl) kp
          · exact ((((e2.ext M2 E3).ext M3 E5).ext M5 E6).ext M6 E7).keep (Nat.le_refl _) (fun _ _ => rfl) kp
        · rw [if_neg c] at P7; exact False.elim P7
    · rw [dcM, if_pos st, z] at P2; exact False.elim P2
  · have hi' : i = p.1.length := by omega
    subst hi'
    rw [List.drop_length, dcM, if_pos st] at P2
    exact .inl ⟨stop, P2 f2 H2 _ E2 M2 ⟨D, es, rfl, hD, hL, hn, rs, nd⟩⟩
theorem sfd_dc {k : Nat} {kx vx tg iter : Expr} {ifs : List Expr} {scope : Scope} {own : List (Str × Nat)} {pos : Pos} {t : Tt} {ek ev : Ex} [TgOk g] (hr : Rm X k) (hc : X.calm = true) (hN : X.N.Nodup) (hi : SI X at_ W tg iter la) (ok : BlkOk X.N X.env.scope scope own)
    (hg : ∀ (s : Shared) (H : Hp) (C : Addr) (cl : List (Str × Addr)) (fp : List Addr), SG (X.blk s H scope (compEnvC scope cl C X.env) fp) tg g gv) (ht : ∀ (s : Shared) (H : Hp) (C : Addr) (cl : List (Str × Addr)) (fp : List Addr), SPt (X.blk s H scope (compEnvC scope cl C X.env) fp) at_ W0 ifs t)
    (hk : ∀ (s : Shared) (H : Hp) (C : Addr) (cl : List (Str × Addr)) (fp : List Addr), SE (X.blk s H scope (compEnvC scope cl C X.env) fp) at_ W0 kx ek) (he : ∀ (s : Shared) (H : Hp) (C : Addr) (cl : List (Str × Addr)) (fp : List Addr), SE (X.blk s H scope (compEnvC scope cl C X.env) fp) at_ W0 vx ev)
    (hw : ∀ i ∈ gv, i ∈ own.map (·.2) := by decide) (hs : ∀ x, foldedSetIterable iter X.env x = pure x := by intro _; rfl) : SFD X at_ W (.DictComp kx vx [⟨tg, iter, ifs, 0⟩] scope pos) (aDc la (own.map (·.2)) g t ek ev) := by
  obtain ⟨wi, p1, q1⟩ := hi.ex
  refine ⟨⟨_, pe_dcR (g := canG X.KW g gv) (tt := PV.can X.KW at_ W0 relB t) (tk := PV.can X.KW at_ W0 (relV X.KW) ek) (tv := PV.can X.KW at_ W0 (relV X.KW) ev) hr.room hc hN p1 ok (fun s H C cl fp => (hg s H C cl fp).can) (fun s H C cl fp => (ht s H C cl fp).can) (fun s H C cl fp => (hk s H C cl fp).can) (fun s H C cl fp => (he s H C cl fp).can) hs, ?_⟩⟩
  exact dc_snd q1 (fun f n h H S σ d v S' h' e r z Q k => ⟨f, n, h, S, d, S', h', e, r, z, k⟩) TgOk.no hw can_snd can_snd can_snd
end
end PV
set_option Elab.async false
set_option linter.all false
set_option autoImplicit false
set_option maxRecDepth 100000
/-! PVSet: set of a tuple of ints. -/
namespace PV
open PySem PySem.Spec
theorem sub_tup_set : isSubtype (.type "tuple") (.type "set") = pure false := by rw [isSubtype_type]; kernel_rfl
theorem sub_tup_frozen : isSubtype (.type "tuple") (.type "frozenset") = pure false := by rw [isSubtype_type]; kernel_rfl
section
variable {prog : Program} {w : World} {A : Around} {E : Value → Shared → Prop} {s : Shared}
abbrev newSet (led : Bool) : Obj := { cls := .type "set", dict := none, data := .set #[] 0 (.fresh 0 0 led) }
set_option maxHeartbeats 3200000 in
theorem set_tupI {l : Addr} {items : Array Value} {ns : List Int} {Q : Value → Shared → Prop} (hh : A.handled = none) (hl : s.heap.IsTuple l items) (hi : PyProof.Rows.IntsAre items.toList ns) (hb : items.size + 1 < scanBound)
    (fin : ∀ (h' : Heap) (tk : Nat), h'.SetOf (intKind prog w) s.heap.objs.size (fun k => (PyProof.Rows.firstMet (fun i => ns.getD i 0) items.size).any (· == k)) (PyProof.Rows.firstMet (fun i => ns.getD i 0) items.size).length →
      (∀ b o, b < s.heap.objs.size → s.heap.get? b = some o → h'.get? b = some o) → Q (.ref s.heap.objs.size) { s with heap := h', toks := tk }) :
    wpAny (model prog w) A (call (.type "set") [.ref l]) Q E s := by
  obtain ⟨c, tl, hmro⟩ := F.called_set.mro
  have made := F.called_set.made
  have sub := F.called_set.sub
  refine wpAny_call (codeAny_of_tree ?_)
  show wpAny _ _ (callAny (.type "set") _) _ _ _
  refine wpAny_pure ⟨Code.quiet_builtin _ (by decide +kernel), codeAny_builtin F.entry_type_call ?_⟩
  rw [Around.under_plain (weight_type_call_type "set" [.ref l] []) rfl]
  have n1 := F.called_set.notType
  have n2 := F.called_set.canCreate
  have n3 := F.typeCall_set_1 (.ref l)
  repeat (any_goals (first | assumption | wp_step))
  refine codeAny_mono (code_set_new_1 (.ref l) (E := E) (Q₁ := fun obj s₁ => ∃ led : Bool, obj = .ref s.heap.objs.size ∧ s₁ = { s with heap := s.heap.push (newSet led) }) fun led => ⟨led, rfl, rfl⟩) fun r s₁ hr => ?_
  cases r with
  | error e => exact hr
  | ok fl =>
    cases fl with
    | ret obj =>
      obtain ⟨led, rfl, rfl⟩ := hr
      have at0 : (s.heap.push (newSet led)).get? s.heap.objs.size = some (newSet led) := Heap.get?_push_size _ rfl
      have ty : Shared.TypeIs { s with heap := s.heap.push (newSet led) } (.ref s.heap.objs.size) "set" := ⟨_, at0, rfl⟩
      have i1 := F.called_set.init.lookup
      have i2 := F.called_set.init.bind (.ref s.heap.objs.size)
      repeat (any_goals (first | assumption | wp_step))
      refine codeAny_mono (codeAny_call_builtin (R := wants (fun r s₂ => r = .none ∧ ∃ h' tk, s₂ = { s with heap := h', toks := tk } ∧
          h'.SetOf (intKind prog w) s.heap.objs.size (fun k => (PyProof.Rows.firstMet (fun i => ns.getD i 0) items.size).any (· == k)) (PyProof.Rows.firstMet (fun i => ns.getD i 0) items.size).length ∧
          (∀ b o, b < s.heap.objs.size → s.heap.get? b = some o → h'.get? b = some o)) E) F.called_set.init.plain F.entry_set_init (check_set_init_1 ty ?_)) fun r₂ s₂ hr₂ => ?_
      · obtain ⟨ol, hol, hcl, nl, hdl⟩ := hl
        obtain ⟨ocls, odict, odata, oslots⟩ := ol
        simp only at hcl hdl
        subst hcl; subst hdl
        have hol' : (s.heap.push (newSet led)).get? l = some { cls := .type "tuple", dict := odict, data := .seq items nl, slots := oslots } := Heap.get?_push_of_some _ hol
        have u1 := sub_tup_set
        have u2 := sub_tup_frozen
        have u3 : (Value.type "tuple" == Value.type "dict") = false := by decide
        have hl1 : (s.heap.push (newSet led)).IsTuple l items := ⟨_, hol', rfl, nl, rfl⟩
        unfold Builtin.«set.__init__» noKeywords Builtin.Frozenset.updateFrom
        generalize hPI : pyIter = PI
        wp_walk
        subst hPI
        refine wpAny_pyIter_tuple hl1 ?_
        refine wpAny_bind (wpAny_runValue ?_)
        have hlS : l < s.heap.objs.size := Heap.lt_size hol
        have hz : (s.heap.push (newSet led)).objs.size = s.heap.objs.size + 1 := Heap.size_push ..
        have hne : l ≠ (s.heap.push (newSet led)).objs.size := by rw [hz]; exact Nat.ne_of_lt (Nat.lt_succ_of_lt hlS)
        have hSf : s.heap.objs.size ∉ [(s.heap.push (newSet led)).objs.size, l] := by
          rw [hz]
          simp only [List.mem_cons, List.not_mem_nil, or_false, not_or]
          exact ⟨Nat.ne_of_lt (Nat.lt_succ_self _), Nat.ne_of_gt hlS⟩
        have hval : ∀ (i : Nat) (v : Value), items[i]? = some v → ∃ t, v = .int ((fun i => ns.getD i 0) i) t := fun i v hv => PyProof.Rows.IntsAre.int_at hi i v (by rw [Array.getElem?_toList]; exact hv)
        refine PyProof.Rows.codeAny_set_update_loopS ((Walks.tuple (A := A.in1.in1.in1) (by simp [hh]) _ l hne items).toS) s.heap.objs.size hSf (fun i => ns.getD i 0) hval hb (items.size - 0) 0 _ (by omega) (Nat.zero_le _)
          ⟨⟨_, Heap.get?_push_size _ rfl, rfl, rfl⟩, ⟨_, Heap.get?_push_of_some _ hol', rfl, nl, rfl⟩⟩ ?first ?last
        case first =>
          exact PyProof.Rows.SetOf_congr ((PyProof.Rows.setObjOf_fresh (knd := intKind prog w) led).setOf (Heap.get?_push_of_some _ at0) (by unfold scanBound; omega)) (fun _ => rfl) rfl
        case last =>
          intro s' hm hS'
          obtain ⟨h', g', d', tk', os'⟩ := s'
          obtain rfl : g' = s.gens := hm.gens
          obtain rfl : d' = s.drawn := hm.drawn
          obtain rfl : os' = s.os := hm.os
          show wpAny _ _ _ _ _ _
          refine wpAny_pure ?_
          show wpAny _ _ (ret Value.none) _ _ _
          refine wpAny_pure ⟨rfl, h', tk', rfl, hS', fun b o hb e => hm.heap b o ?_ (Heap.get?_push_of_some _ (Heap.get?_push_of_some _ e))⟩
          rw [hz]
          simp only [List.mem_cons, List.not_mem_nil, or_false, not_or]
          exact ⟨Nat.ne_of_lt hb, Nat.ne_of_lt (Nat.lt_succ_of_lt hb)⟩
      · cases r₂ with
        | error e => exact hr₂
        | ok fl₂ =>
          cases fl₂ with
          | ret r =>
            obtain ⟨rfl, h', tk, rfl, hS', kp⟩ := hr₂
            repeat (any_goals (first | assumption | wp_step))
            exact fin _ _ hS' kp
          | _ => exact hr₂.elim
    | _ => exact hr.elim
end
end PV
set_option Elab.async false
set_option linter.all false
set_option autoImplicit false
set_option maxRecDepth 100000
set_option maxHeartbeats 2000000
/-! PVN: x[::-1], repr, len of any, set lengths. -/
namespace PV
open PySem PySem.Spec PyProof.Rows L2
/-! ### x[::-1] -/
def revD (d : D) (h : Hh) : R D := match d with
  | .tup xs => .ok (.tup xs.reverse) h
  | d => match lsD d h with
    | some xs => .ok (.fz xs.reverse) h
    | none => .bad
section
variable {prog : Program} {w : World} {A : Around} {E : Value → Shared → Prop} {s : Shared}
theorem sliceApplied_rev {sl : Addr} {vl vu vk : Value} {n : Nat} {Q : Int × Int × Nat → Shared → Prop} (hs : s.heap.IsSliceOf sl vl vu vk) (pl : IsPart vl none) (pu : IsPart vu none) (pk : IsPart vk (some (-1)))
    (h : Q ((n : Int) - 1, -1, n) s) : wpAny (model prog w) A (Builtin.Slice.sliceApplied (.ref sl) (pure (n : Int))) Q E s := by
  obtain ⟨os, hos, hcs, hds⟩ := id hs
  unfold Builtin.Slice.sliceApplied Builtin.Slice.sliceFields
  refine wpAny_bind (wpAny_bind (wpAny_field hos hds (x := vl) rfl (wpAny_bind (wpAny_field hos hds (x := vu) rfl (wpAny_bind (wpAny_field hos hds (x := vk) rfl (wpAny_pure ?_)))))))
  refine wpAny_bind (HT.slicePart_ pk ?_)
  show wpAny _ _ (if ((-1 : Int) == 0) = true then _ else _) _ _ s
  rw [if_neg (by decide)]
  refine wpAny_bind (HT.slicePart_ pl (wpAny_bind (HT.slicePart_ pu (wpAny_bind (wpAny_pure ?_)))))
  show wpAny _ _ (pure ((n : Int) - 1, (-1 : Int), Builtin.Slice.slicePlaces ((n : Int) - 1) (-1) (-1))) _ _ s
  have e : Builtin.Slice.slicePlaces ((n : Int) - 1) (-1) (-1) = n := by
    unfold Builtin.Slice.slicePlaces
    rw [if_neg (by decide)]
    by_cases c : (n : Int) - 1 > -1
    · rw [if_pos c, show (-(-1) : Int) = 1 by decide, Int.ediv_one]
      omega
    · rw [if_neg c]
      omega
  rw [e]
  exact wpAny_pure h
theorem fm_congr {α β : Type} {p q : α → Option β} : ∀ {l : List α}, (∀ a ∈ l, p a = q a) → l.filterMap p = l.filterMap q
  | [], _ => rfl
  | a :: l, h => by
    rw [List.filterMap_cons, List.filterMap_cons, h a List.mem_cons_self, fm_congr fun b hb => h b (List.mem_cons_of_mem _ hb)]
theorem rev_pick (xs : Array Value) : ((List.range xs.size).filterMap fun (m : Nat) => xs[(((xs.size : Int) - 1) + (m : Int) * (-1)).toNat]?) = xs.toList.reverse := by
  have e1 : ∀ m ∈ List.range xs.size, xs[(((xs.size : Int) - 1) + (m : Int) * (-1)).toNat]? = xs.toList.reverse[m]? := fun m hm => by
    have hm := List.mem_range.mp hm
    have : (((xs.size : Int) - 1) + (m : Int) * (-1)).toNat = xs.size - 1 - m := by omega
    rw [this, List.getElem?_reverse (by rw [Array.length_toList]; exact hm), Array.getElem?_toList, Array.length_toList]
  have key : ∀ (l : List Value) , (List.range l.length).filterMap (fun m => l[m]?) = l := by
    intro l
    refine List.ext_getElem? fun i => ?_
    have e2 : (List.range l.length).filterMap (fun m => l[m]?) = (List.range l.length).map fun m => l.getD m .none := by
      rw [← List.filterMap_eq_map]
      refine fm_congr fun m hm => ?_
      have hm := List.mem_range.mp hm
      rw [List.getElem?_eq_getElem hm]
      simp [hm]
    rw [e2, List.getElem?_map]
    by_cases hi : i < l.length
    · rw [List.getElem?_range hi]
      simp [hi]
    · rw [List.getElem?_eq_none (by simpa using hi), List.getElem?_eq_none (by simpa using hi)]
      rfl
  have e3 := key xs.toList.reverse
  rw [List.length_reverse, Array.length_toList] at e3
  rw [fm_congr e1]
  exact e3
theorem getItem_tup_rev {t sl : Addr} {items : Array Value} {vl vu vk : Value} {Q : Value → Shared → Prop} (ht : IsTup s.heap t items) (hs : s.heap.IsSliceOf sl vl vu vk) (pl : IsPart vl none) (pu : IsPart vu none) (pk : IsPart vk (some (-1)))
    (h : Q (.ref s.heap.objs.size) { s with heap := s.heap.push { cls := .type "tuple", data := .seq items.toList.reverse.toArray } }) (hsz : items.size ≤ sizeLine) : wpAny (model prog w) A (getItem (.ref t) (.ref sl)) Q E s := by
  have small : sizeOk (.seq items.toList.reverse.toArray) := by
    show items.toList.reverse.toArray.size ≤ sizeLine
    rw [List.size_toArray, List.length_reverse, Array.length_toList]
    exact hsz
  obtain ⟨os, hos, hcs, hds⟩ := id hs
  have hTs : s.TypeIs (.ref sl) "slice" := ⟨os, hos, hcs⟩
  unfold getItem
  try with_reducible refine wpAny_holding ?_
  first | refine wpAny_bind (wpAny_pure ?_) | skip
  refine wpAny_bind (wpAny_sequenceKey ht.typeIs (by decide) ?_)
  refine wpAny_bind (wpAny_callSpecial?_slot (name := Str.ofString "__getitem__") ht.typeIs PyProof.Rows.slot_tuple_getitem
    (wpAny_call_entry PyProof.Rows.slot_tuple_getitem ht.typeIs entry_tuple_getitem ?_ (args_tuple_getitem _ _)))
  show wpAny _ _ (Builtin.Tuple.tupleItemsOf (.ref t) >>= _) _ _ s
  refine wpAny_bind (tupleItemsOf_ ht ?_)
  refine wpAny_bind (wpAny_typeOf hTs ?_)
  rw [if_pos (by decide)]
  refine wpAny_bind (sliceApplied_rev hs pl pu pk ?_)
  show wpAny _ _ (if (((items.size : Int) - 1 == 0) && ((-1 : Int) == 1) && (items.size == items.size)) = true then _ else _) _ _ s
  rw [if_neg (by rw [show ((-1 : Int) == 1) = false from rfl, Bool.and_false, Bool.false_and]; exact Bool.false_ne_true), rev_pick]
  first
    | exact wpAny_bind (m := Builtin.Tuple.tupleExact _) (wpAny_newObj_type (wpAny_pure ⟨_, rfl, wpAny_pure h⟩) small)
    | exact wpAny_bind (m := Builtin.Tuple.tupleExact _) (wpAny_newObj_type (wpAny_bind (wpAny_pure (wpAny_pure ⟨_, rfl, wpAny_pure h⟩))) small)
    | exact wpAny_bind (wpAny_bind (m := Builtin.Tuple.tupleExact _) (wpAny_newObj_type (wpAny_pure (wpAny_pure ⟨_, rfl, wpAny_pure h⟩)) small))
    | exact wpAny_bind (wpAny_bind (m := Builtin.Tuple.tupleExact _) (wpAny_newObj_type (wpAny_pure ⟨_, rfl, wpAny_pure h⟩) small))
end
section
variable {X : Cx} {at_ : Cl} {W : WX} {k : Nat} {a b : Expr} {ma mb : Ex} {p pos p1 p2 p3 q : Pos}
/-- x[::-1] -/
def tRevA (X : Cx) (te : TE) : TE := fun σ H Q => te σ H fun x H1 => ∃ q t xs, x = .ref q ∧ sq X.K H1 t q xs ∧ ∀ p, H1 p = none → Q (.ref p) (upd H1 p (if t = true then .tup xs.reverse else .lst xs.reverse))
theorem pe_revA {e : Expr} {te : TE} {kk : Nat} (he : PE X e te) : PE X (.Subscript e (.Slice none none (some (.UnaryOp .USub (.Constant (.int 1) kk p1) p2)) p3) pos) (tRevA X te) := by
  refine ⟨fun pins s σ H Q I hh => Subscript_ (thn (he.run pins s σ H _ I hh) fun v s1 got => ?_)⟩
  obtain ⟨x, H1, I1, r1, q, t, xs, rfl, hq, fin⟩ := got
  cases r1
  have step : PO X (some (.UnaryOp .USub (.Constant (.int 1) kk p1) p2)) (tPart (tUn (rU fun i => .int (-i)) (tC (.int 1)))) := po_some (pe_un un_neg pe_int)
  refine wpAny_Slice (thn (po_none.run pins s1 σ H1 (fun o H2 => o = none ∧ H2 = H1) I1 ⟨rfl, rfl⟩) fun vl s2 got => ?_)
  obtain ⟨l, H2, I2, pl, rfl, rfl⟩ := got
  refine thn (po_none.run pins s2 σ H2 (fun o H3 => o = none ∧ H3 = H2) I2 ⟨rfl, rfl⟩) fun vu s3 got => ?_
  obtain ⟨u, H3, I3, pu, rfl, rfl⟩ := got
  refine thn (step.run pins s3 σ H3 (fun o H4 => o = some (-1) ∧ H4 = H3) I3 ⟨1, rfl, -1, rfl, rfl, rfl⟩) fun vs s4 got => ?_
  obtain ⟨o, H4, I4, ps, rfl, rfl⟩ := got
  have I5 : Inv X pins σ H4 { s4 with heap := s4.heap.push { cls := .type "slice", data := .fields #[vl, vu, vs] } } := I4.kept (t' := s4.toks) fun b ob q => Heap.get?_push_of_some _ q
  show wpAny (model X.prog X.w) X.A (subscriptTail e (.Slice none none (some (.UnaryOp .USub (.Constant (.int 1) kk p1) p2)) p3) (.ref q) (.ref s4.heap.objs.size)) (EP X pins σ Q) X.xe { s4 with heap := s4.heap.push { cls := .type "slice", data := .fields #[vl, vu, vs] } }
  cases t with
  | false =>
    obtain ⟨its, r, ht, hz⟩ := I5.list hq
    refine tail_any (ops := [.ref q, .ref s4.heap.objs.size]) ht.isList.typeIs (PySem.slot_list_getitem.lookup) ?_ (by with_unfolding_all rfl)
    refine wpAny_getItem_list_slice ht.isList (Heap.IsSliceOf.new _ vl vu vs) pl pu ps (by decide) ?_ (by rw [List.size_toArray, ← r.length]; exact hz)
    rw [PySem.W.krv_pick]
    refine ⟨.ref _, _, I5.laid (t' := s4.toks) (o := .lst xs.reverse) (fun b ob q => Heap.get?_push_of_some _ q) (Nat.le_refl _) ?_, rfl, fin _ (I5.hok.fresh (Nat.le_refl _))⟩
    exact ⟨by rw [List.length_reverse]; exact hz, _, 0, r.reverse, Heap.get?_push_size _ rfl⟩
  | true =>
    obtain ⟨its, r, ht, hz⟩ := I5.tuple hq
    refine tail_any (ops := [.ref q, .ref s4.heap.objs.size]) ht.typeIs (PyProof.Rows.slot_tuple_getitem.lookup) ?_ (by with_unfolding_all rfl)
    refine getItem_tup_rev ht (Heap.IsSliceOf.new _ vl vu vs) pl pu ps ?_ (by rw [List.size_toArray, ← r.length]; exact hz)
    refine ⟨.ref _, _, I5.laid (t' := s4.toks) (o := .tup xs.reverse) (fun b ob q => Heap.get?_push_of_some _ q) (Nat.le_refl _) ?_, rfl, fin _ (I5.hok.fresh (Nat.le_refl _))⟩
    exact ⟨by rw [List.length_reverse]; exact hz, _, r.reverse, IsTup.new _ _⟩
theorem se_rev {kk : Nat} (ha : SE X at_ W a ma) : SE X at_ W (.Subscript a (.Slice none none (some (.UnaryOp .USub (.Constant (.int 1) kk p1) p2)) p3) pos) (e1 revD ma) := by
  obtain ⟨t1, q1, s1⟩ := ha.ex
  refine ⟨⟨_, pe_frz (pe_revA q1), fun f h H S σ M e Q P => ?_⟩⟩
  refine s1 f h H S σ M e _ (Post.step P fun d h1 f1 H1 v1 E1 M1 r1 P1 => ?_)
  cases z : lsD d h1 with
  | some xs =>
    obtain ⟨q, vs, rfl, k1, k2⟩ := ls_rd M1 r1 z
    refine ⟨q, false, vs, rfl, .inl k1, fun p hp => new_fz (W := W) (σ := σ) M1 k2.reverse hp ?_⟩
    cases r1 with
    | fz _ _ => cases z; exact P1
    | ref hi =>
      unfold revD at P1
      dsimp only at P1
      rw [z] at P1
      exact P1
    | _ => cases z
  | none =>
    cases r1 with
    | tup ht hs =>
      exact ⟨_, true, _, rfl, ht, fun p hp => .inl (P1 _ _ _ (Ext.fresh hp) (M1.fresh hp) (.tup (.inl (.inl upd_same)) (hs.reverse.ext M1 (Ext.fresh hp))))⟩
    | fz _ _ => cases z
    | ref hi =>
      unfold revD at P1
      dsimp only at P1
      rw [z] at P1
      exact False.elim P1
    | _ => exact False.elim P1
/-! ### repr -/
def rRepr (X : Cx) : List V → Hp → VK → Prop := fun vs H Q => ∃ x p, vs = [x] ∧ Dp X.K H x p ∧ p.showable = true ∧ p.hasDict = false ∧ p.depth ≤ 50 ∧ p.shown.length ≤ sizeLine ∧ Q (.str p.shown) H
theorem call_repr (hr : Rm X k) : CallR X (.builtin "repr") (rRepr X) := by
  intro pins s σ H vs us Q I r hh
  obtain ⟨x, p, rfl, dp, c1, c2, c3, c4, fin⟩ := hh
  obtain ⟨u, rfl, ru⟩ := r.one
  have big : ∀ {q : Addr}, u = .ref q → wpAny (model X.prog X.w) X.A (call (.builtin "repr") [u]) (EP X pins σ Q) X.xe s := by
    rintro q rfl
    obtain ⟨as, rd⟩ := dp.reads I _ _ _ ru
    refine repr_of_reads' rd c1 (PyData.noDict_hsm c2) hr.gd (by have := hr.room.units; omega) (fun _ _ e => e) (fun h' t tk kp => ?_) c4
    exact ⟨.str p.shown, H, I.kept (t' := tk) kp, ⟨t, rfl⟩, fin⟩
  cases dp with
  | non => cases ru; exact PySem.P.repr_of_none ⟨.str _, H, I.tok _, ⟨_, rfl⟩, fin⟩
  | bl b => cases ru; exact PySem.P.repr_of_bool ⟨.str _, H, I.tok _, ⟨_, rfl⟩, fin⟩
  | int i => obtain ⟨t, rfl⟩ := ru; exact PySem.P.repr_of_int (by simpa [PyData.showable] using c1) ⟨.str _, H, I.tok _, ⟨_, rfl⟩, fin⟩
  | str z => obtain ⟨t, rfl⟩ := ru; exact PySem.P.repr_of_str ⟨.str _, H, I.tok _, ⟨_, rfl⟩, fin⟩ c4
  | lst _ _ => cases ru; exact big rfl
  | tup _ _ => cases ru; exact big rfl
theorem oc_repr (hr : Rm X k) : OC X at_ (.builtin "repr") reprD := ⟨⟨_, call_repr hr, fun W f h H σ ds vs M rs Q P => by
  cases rs with
  | nil => exact False.elim P
  | cons r rs =>
    rename_i d v ds vs
    cases rs with
    | cons _ _ => exact False.elim P
    | nil =>
      have P : Post X.KW at_ W (relV X.KW) h.length f H σ (match pyH h d with
        | some p => if p.showable = true ∧ p.hasDict = false ∧ p.depth ≤ 50 ∧ p.shown.length ≤ big then .ok (.str p.shown) h else .bad
        | none => .bad) Q := P
      cases z : pyH h d with
      | none => rw [z] at P; exact False.elim P
      | some p =>
        rw [z] at P
        dsimp only at P
        by_cases c : p.showable = true ∧ p.hasDict = false ∧ p.depth ≤ 50 ∧ p.shown.length ≤ big
        · rw [if_pos c] at P
          exact ⟨v, p, rfl, dp_H M r z, c.1, c.2.1, c.2.2.1, big_line.mp c.2.2.2, P.ok M (.str _)⟩
        · rw [if_neg c] at P; exact False.elim P⟩⟩
/-! ### len -/
theorem len_raw {A : Around} {E : Value → Shared → Prop} {s : Shared} {d : Addr} {ea : Array DictEntry} {ep : Nat} {Q : Value → Shared → Prop} {P : Program} {w : World} (lo : (d == sysModules) = false) (hm : s.heap.DictRaw d ea ep) (hz : ea.size ≤ sizeLine)
    (fin : ∀ t tk, Q (.int ea.size t) { s with toks := tk }) : wpAny (model P w) A (call (.builtin "len") [.ref d]) Q E s := by
  have hl := line63
  refine PySem.Calls.call_function_entry kind_len plain_len entry_len (args_len1 _) ?_
  unfold Builtin.«len»
  refine wpAny_bind (m := oneArg "len" _) (wpAny_pure ?_)
  refine wpAny_bind (m := callSpecial? (.ref d) (Str.ofString "__len__")) (wpAny_callSpecial?_slot (name := Str.ofString "__len__") hm.typeIs PySem.F.slot_dict_len (call_len_raw lo hm ?_))
  refine wpAny_bind (wpAny_holding (wpAny_pure ?_))
  refine wpAny_bind (wpAny_letGo ?_)
  show wpAny _ _ (if ((ea.size : Nat) : Int) < 0 then _ else _) _ _ _
  rw [if_neg (by omega)]
  show wpAny _ _ (if ((ea.size : Nat) : Int) ≥ 2 ^ 63 then _ else _) _ _ _
  rw [if_neg (by omega)]
  exact wpAny_bind (wpAny_mkInt (wpAny_pure ⟨_, rfl, fin _ _⟩))
theorem call_lenD : CallR X (.builtin "len") (fun xs H Q => ∃ q es, xs = [.ref q] ∧ Rd H q (rawD q es) ∧ Q (.int es.length) H) := by
  intro pins s σ H vs us Q I r hh
  obtain ⟨q, es, rfl, e, fin⟩ := hh
  obtain ⟨u, rfl, ru⟩ := r.one
  cases ru
  obtain ⟨lo, hz, o, ea, ep, ho, hc, hd, rfl⟩ := raw_obj (e.ok I.hok)
  refine len_raw lo ⟨o, ho, hc, hd⟩ (by simpa using hz) fun t tk => ⟨.int _, H, I.tok tk, ⟨t, ?_⟩, fin⟩
  rw [Array.length_toList]
theorem oc_len : OC X at_ (.builtin "len") lenD := ⟨⟨_, call_len_seq.or (call_len_str.or call_lenD), fun W f h H σ ds vs M rs Q P => by
  cases rs with
  | nil => exact False.elim P
  | cons r rs =>
    rename_i d v ds vs
    cases rs with
    | cons _ _ => cases d <;> exact False.elim P
    | nil =>
      cases r with
      | tup ht hs => exact .inl ⟨_, _, rfl, .inr ht, by rw [← hs.length]; exact P.ok M (.int _)⟩
      | fz ht hs => exact .inl ⟨_, _, rfl, .inl (.inl (.inr ⟨_, ht⟩)), by rw [← hs.length]; exact P.ok M (.int _)⟩
      | fd ht hk hs e1 e2 e3 nd =>
        obtain ⟨l, pr⟩ := ren_join hk hs e1 e2 e3
        refine .inr (.inr ⟨_, _, rfl, .inr ⟨_, ht⟩, ?_⟩)
        rw [← paired_len pr, List.length_zip, ← l, Nat.min_self]
        exact P.ok M (.int _)
      | str z =>
        have P : Post X.KW at_ W (relV X.KW) h.length f H σ (if z.length ≤ big then .ok (.int z.length) h else .bad) Q := P
        by_cases c : z.length ≤ big
        · rw [if_pos c] at P
          exact .inr (.inl ⟨z, rfl, big_line.mp c, P.ok M (.int _)⟩)
        · rw [if_neg c] at P; exact False.elim P
      | ref hi =>
        rename_i i
        have P : Post X.KW at_ W (relV X.KW) h.length f H σ (match h[i]? with
          | some (.lst xs) => .ok (.int xs.length) h
          | some (.dic kvs) => .ok (.int kvs.length) h
          | _ => .bad) Q := P
        cases z : h[i]? with
        | none => rw [z] at P; exact False.elim P
        | some o =>
          have ro := M.obj i o z
          cases o with
          | lst xs =>
            rw [z] at P
            obtain ⟨ws, q1, q2⟩ := ro
            exact .inl ⟨_, _, rfl, .inl (SqL.of q1), by rw [← q2.length]; exact P.ok M (.int _)⟩
          | dic kvs =>
            rw [z] at P
            obtain ⟨es, q1, q2, _⟩ := ro
            exact .inr (.inr ⟨_, es, rfl, .inl q1, by rw [← paired_len q2]; exact P.ok M (.int _)⟩)
          | ins _ _ => rw [z] at P; exact False.elim P
      | _ => exact False.elim P⟩⟩
end
end PV
set_option Elab.async false
set_option linter.all false
set_option autoImplicit false
set_option maxRecDepth 100000
set_option maxHeartbeats 2000000
/-! PVU: set lengths, update, dict of pairs, name = [..] by content. -/
namespace PV
open PySem PySem.Spec PyProof.Rows L2
/-! ### len(set(x)) -/
def nub {α : Type} [DecidableEq α] (xs : List α) : List α := xs.foldl (fun acc x => if x ∈ acc then acc else acc ++ [x]) []
def intsT : D → Option (List Int)
  | .tup xs => intsI xs
  | _ => none
def tupsI : List D → Option (List (List Int))
  | [] => some []
  | x :: xs => match intsT x, tupsI xs with
    | some a, some r => some (a :: r)
    | _, _ => none
/-- the items of a list, a tuple -/
def seqV (d : D) (h : Hh) : Option (Bool × List D) := match d with
  | .tup xs => some (true, xs)
  | d => (lsD d h).map fun xs => (false, xs)
def lsetD (d : D) (h : Hh) : R D := match seqV d h with
  | some (t, xs) => match intsI xs with
    | some ns => if ns.length + 1 < 4096 then .ok (.int (nub ns).length) h else .bad
    | none => match t, tupsI xs with
      | false, some ks => if ks.length < 64 then .ok (.int (nub ks).length) h else .bad
      | _, _ => .bad
  | none => .bad
theorem nub_go {α : Type} [DecidableEq α] : ∀ (xs acc : List α), acc.Nodup → (xs.foldl (fun acc x => if x ∈ acc then acc else acc ++ [x]) acc).Nodup ∧ ∀ y, y ∈ xs.foldl (fun acc x => if x ∈ acc then acc else acc ++ [x]) acc ↔ y ∈ acc ∨ y ∈ xs
  | [], acc, h => ⟨h, fun y => by simp⟩
  | x :: xs, acc, h => by
    rw [List.foldl_cons]
    by_cases c : x ∈ acc
    · rw [if_pos c]
      obtain ⟨h1, h2⟩ := nub_go xs acc h
      refine ⟨h1, fun y => ?_⟩
      rw [h2, List.mem_cons]
      constructor
      · rintro (z | z)
        · exact .inl z
        · exact .inr (.inr z)
      · rintro (z | z | z)
        · exact .inl z
        · rw [z]; exact .inl c
        · exact .inr z
    · rw [if_neg c]
      obtain ⟨h1, h2⟩ := nub_go xs (acc ++ [x]) (List.nodup_append.mpr ⟨h, by simp, fun a ha b hb z => by simp at hb; subst hb; subst z; exact c ha⟩)
      refine ⟨h1, fun y => ?_⟩
      rw [h2, List.mem_append, List.mem_singleton, List.mem_cons, or_assoc]
theorem nub_nodup {α : Type} [DecidableEq α] (xs : List α) : (nub xs).Nodup := (nub_go xs [] List.nodup_nil).1
theorem mem_nub {α : Type} [DecidableEq α] {xs : List α} {y : α} : y ∈ nub xs ↔ y ∈ xs := by
  have := (nub_go xs [] List.nodup_nil).2 y
  unfold nub
  simpa using this
theorem firstMet_nub (ns : List Int) : PyProof.Rows.firstMet (fun i => ns.getD i 0) ns.length = nub ns := by
  unfold PyProof.Rows.firstMet nub
  have e : (List.range ns.length).map (fun i => ns.getD i 0) = ns := by
    refine List.ext_getElem? fun i => ?_
    rw [List.getElem?_map]
    by_cases hi : i < ns.length
    · rw [List.getElem?_range hi]
      simp [hi]
    · rw [List.getElem?_eq_none (by simpa using hi), List.getElem?_eq_none (by simpa using hi)]
      rfl
  rw [e]
  congr 1
  funext acc x
  unfold PyProof.Rows.step_dedup
  by_cases c : x ∈ acc
  · rw [if_pos c, if_pos (by rw [List.any_eq_true]; exact ⟨x, c, by simp⟩)]
  · rw [if_neg c, if_neg]
    rw [List.any_eq_true]
    rintro ⟨y, hy, e⟩
    exact c (by rw [← eq_of_beq e]; exact hy)
section
variable {X : Cx} {at_ : Cl} {W : WX} {k : Nat} {a b : Expr} {ma mb : Ex} {p pos p1 p2 p3 q : Pos}
/-- the reading -/
def tLenSet (X : Cx) (ta : TE) : TE := fun σ H Q => ta σ H fun x H1 => ∃ (l : Addr) (t : Bool) (xs : List V), x = .ref l ∧ sq X.K H1 t l xs ∧
  ((∃ ns : List Int, xs = ns.map V.int ∧ ns.length + 1 < 4096 ∧ Q (.int (nub ns).length) H1) ∨
    ∃ ks : List (Addr × List Int), t = false ∧ xs = ks.map (fun p => V.ref p.1) ∧ (∀ p ∈ ks, SqT X.K H1 p.1 (p.2.map V.int)) ∧ ks.length < 64 ∧ Q (.int (nub (ks.map (·.2))).length) H1)
theorem pe_lenSet {e : Expr} {ta : TE} (hr : Rm X k) (hc : X.calm = true) (hm : X.mg "len" = none) (hm2 : X.mg "set" = none) (ha : PE X e ta) (hg : Gl X "len") (hg2 : Gl X "set")
    (na : starEach [e] X.env = (false, eval e X.env) :: starEach [] X.env) : PE X (.Call (.Name "len" p) [.Call (.Name "set" p2) [e] [] q] [] pos) (tLenSet X ta) := by
  refine ⟨fun pins s σ H Q I hh => ?_⟩
  refine Call_ (ld_blt I hg hm boot_len ?_)
  refine PyProof.Rows.callWith_builtin1 (PyProof.Rows.args_cons ?_ rfl) rfl rfl
  refine Call_ (ld_blt I hg2 hm2 boot_set ?_)
  refine PyProof.Rows.callWith_type1 (PyProof.Rows.args_cons (thn (ha.run pins s σ H _ I hh) fun v s1 got => PyProof.Rows.args_nil ?_) na) na rfl
  obtain ⟨x, H1, I1, r1, l, t, xs, rfl, hq, fin⟩ := got
  cases r1
  rcases fin with ⟨ns, rfl, hl, fin⟩ | ⟨ks, rfl, rfl, hk, hl, fin⟩
  · obtain ⟨its, r, pl, hz⟩ := sq_at I1 hq
    have hlen : its.toArray.size = ns.length := by rw [List.size_toArray, ← r.length, List.length_map]
    have core : ∀ (h' : Heap) (tk : Nat), h'.SetOf (intKind X.prog X.w) s1.heap.objs.size (fun k' => (PyProof.Rows.firstMet (fun i => ns.getD i 0) its.toArray.size).any (· == k')) (PyProof.Rows.firstMet (fun i => ns.getD i 0) its.toArray.size).length →
        (∀ b o, b < s1.heap.objs.size → s1.heap.get? b = some o → h'.get? b = some o) →
        wpAny (model X.prog X.w) X.A (call (.builtin "len") [.ref s1.heap.objs.size]) (EP X pins σ Q) X.xe { s1 with heap := h', toks := tk } := fun h' tk hS hk => by
      rw [hlen, firstMet_nub] at hS
      obtain ⟨o, es, ep, t, ho, hex, hd, _, _, _, hf, hn⟩ := hS
      have I2 : Inv X pins σ H1 { s1 with heap := h', toks := tk } := I1.kept fun b o e => hk b o (Heap.lt_size e) e
      have le : (nub ns).length ≤ ns.length := by
        rw [← firstMet_nub]
        exact PyProof.Rows.firstMet_length_le _ _
      exact call_len_set ho hex hd hf (by rw [hn]; omega) ⟨.int (nub ns).length, H1, I2.tok _, ⟨_, by rw [hn]⟩, fin⟩
    have hi : PyProof.Rows.IntsAre its.toArray.toList ns := by simpa using RZ.intsAre_vals r
    cases t with
    | false => exact call_set_list (I1.ok.hd hc) pl hi (by rw [hlen]; unfold scanBound; omega) fun h' tk hS hk => PyProof.Rows.args_nil (core h' tk hS hk)
    | true => exact set_tupI (I1.ok.hd hc) pl hi (by rw [hlen]; unfold scanBound; omega) fun h' tk hS hk => PyProof.Rows.args_nil (core h' tk hS hk)
  · obtain ⟨its, rv, pl, hz⟩ := I1.list hq
    refine call_set_tups (P := X.prog) (w := X.w) ks (I1.ok.hd hc) pl.isList (by simpa using refs_of_vals rv) (fun p hp => Inv.isT I1 (hk p hp)) hl (by have := hr.room.units; omega) fun h' tk L es ep t R g kp => PyProof.Rows.args_nil ?_
    obtain ⟨o, ho, hex, hd⟩ := R.ob
    have I2 : Inv X pins σ H1 { s1 with heap := h', toks := tk } := I1.kept kp
    have hsz : es.size = L.length := SetTR.size (s := { s1 with heap := h' }) R
    have hfit : t.fits es.size = true := SetTR.fits (s := { s1 with heap := h' }) R
    have eL : L.length = (nub (ks.map (·.2))).length := by
      rw [← List.length_map (f := fun p : Addr × List Int => p.2)]
      refine List.Perm.length_eq ((List.perm_ext_iff_of_nodup R.nd (nub_nodup _)).mpr fun x => ?_)
      rw [mem_nub]
      constructor
      · intro hx
        obtain ⟨p, hp, e⟩ := List.mem_map.mp hx
        have := g.sub p hp
        rw [List.take_length] at this
        exact List.mem_map.mpr ⟨p, this, e⟩
      · intro hx
        obtain ⟨p, hp, e⟩ := List.mem_map.mp hx
        rw [← e]
        exact g.all p (by rw [List.take_length]; exact hp)
    refine call_len_set ho hex hd hfit (by rw [hsz]; have := R.few; omega) ⟨.int (nub (ks.map (·.2))).length, H1, I2.tok _, ⟨_, by rw [hsz, eL]⟩, fin⟩
theorem intsT_vals {f : Fm} {n : Nat} {H : Hp} {d : D} {v : V} {ns : List Int} (r : RV X.KW f n H d v) (e : intsT d = some ns) : ∃ q, v = .ref q ∧ SqT X.K H q (ns.map V.int) := by
  cases r with
  | tup ht hs =>
    have e2 := intsI_vals hs e
    exact ⟨_, rfl, by rw [← e2]; exact ht⟩
  | _ => cases e
theorem tupsI_vals {f : Fm} {n : Nat} {H : Hp} : ∀ {ds : List D} {vs : List V} {ks : List (List Int)}, RVs X.KW f n H ds vs → tupsI ds = some ks → ∃ ps : List (Addr × List Int), vs = ps.map (fun p => V.ref p.1) ∧ ps.map (·.2) = ks ∧ ∀ p ∈ ps, SqT X.K H p.1 (p.2.map V.int)
  | _, _, _, .nil, e => by cases e; exact ⟨[], rfl, rfl, fun p hp => by simp at hp⟩
  | _, _, _, .cons (d := d) (ds := ds) r t, e => by
    unfold tupsI at e
    cases z : intsT d with
    | none => rw [z] at e; cases e
    | some a =>
      cases z2 : tupsI ds with
      | none => rw [z, z2] at e; cases e
      | some ks =>
        rw [z, z2] at e
        cases e
        obtain ⟨q, rfl, k1⟩ := intsT_vals r z
        obtain ⟨ps, rfl, k2, k3⟩ := tupsI_vals t z2
        refine ⟨(q, a) :: ps, rfl, by rw [List.map_cons, k2], fun p hp => ?_⟩
        rcases List.mem_cons.mp hp with e | hp
        · subst e; exact k1
        · exact k3 p hp
theorem se_lenSet (hr : Rm X k) (hc : X.calm = true) (ha : SE X at_ W a ma) (hm : X.mg "len" = none) (hm2 : X.mg "set" = none) (hg : Gl X "len" := by rfl) (hg2 : Gl X "set" := by rfl)
    (na : starEach [a] X.env = (false, eval a X.env) :: starEach [] X.env := by rfl) : SE X at_ W (.Call (.Name "len" p) [.Call (.Name "set" p2) [a] [] q] [] pos) (e1 lsetD ma) := by
  obtain ⟨t1, q1, s1⟩ := ha.ex
  refine ⟨⟨_, pe_lenSet hr hc hm hm2 q1 hg hg2 na, fun f h H S σ M e Q P => ?_⟩⟩
  refine s1 f h H S σ M e _ (Post.step P fun d h1 f1 H1 v1 E1 M1 r1 P1 => ?_)
  have core : ∀ (t : Bool) (l : Addr) (xs : List D) (vs : List V), v1 = .ref l → sq X.K H1 t l vs → RVs X.KW f1 h1.length H1 xs vs → seqV d h1 = some (t, xs) → ∃ (l : Addr) (t : Bool) (xs : List V), v1 = .ref l ∧ sq X.K H1 t l xs ∧
      ((∃ ns : List Int, xs = ns.map V.int ∧ ns.length + 1 < 4096 ∧ Q (.int (nub ns).length) H1) ∨ ∃ ks : List (Addr × List Int), t = false ∧ xs = ks.map (fun p => V.ref p.1) ∧ (∀ p ∈ ks, SqT X.K H1 p.1 (p.2.map V.int)) ∧ ks.length < 64 ∧ Q (.int (nub (ks.map (·.2))).length) H1) := by
    intro t l xs vs ev hq rs z
    refine ⟨l, t, vs, ev, hq, ?_⟩
    unfold lsetD at P1
    rw [z] at P1
    dsimp only at P1
    cases y : intsI xs with
    | some ns =>
      rw [y] at P1
      dsimp only at P1
      by_cases c : ns.length + 1 < 4096
      · rw [if_pos c] at P1
        exact .inl ⟨ns, intsI_vals rs y, c, P1.ok M1 (.int _)⟩
      · rw [if_neg c] at P1; exact False.elim P1
    | none =>
      rw [y] at P1
      dsimp only at P1
      cases t with
      | true => exact False.elim P1
      | false =>
        cases y2 : tupsI xs with
        | none => rw [y2] at P1; exact False.elim P1
        | some ks =>
          rw [y2] at P1
          dsimp only at P1
          obtain ⟨ps, k1, k2, k3⟩ := tupsI_vals rs y2
          by_cases c : ks.length < 64
          · rw [if_pos c] at P1
            exact .inr ⟨ps, rfl, k1, k3, by rw [← List.length_map (f := fun p : Addr × List Int => p.2), k2]; exact c, by rw [k2]; exact P1.ok M1 (.int _)⟩
          · rw [if_neg c] at P1; exact False.elim P1
  cases z : lsD d h1 with
  | some xs =>
    obtain ⟨l, vs, rfl, k1, k2⟩ := ls_rd M1 r1 z
    refine core false l xs vs rfl (.inl k1) k2 ?_
    cases d with
    | tup _ => cases z
    | _ => unfold seqV; dsimp only; rw [z]; rfl
  | none =>
    cases r1 with
    | tup ht hs => exact core true _ _ _ rfl ht hs rfl
    | fz _ _ => cases z
    | ref hi =>
      unfold lsetD seqV at P1
      dsimp only at P1
      rw [z] at P1
      exact False.elim P1
    | _ => exact False.elim P1
end
end PV
set_option Elab.async false
set_option linter.all false
set_option autoImplicit false
set_option maxRecDepth 100000
set_option maxHeartbeats 2000000
/-! PVW: dict(pairs), update: keys tuples. -/
namespace PV
open PySem PySem.Spec PyProof.Rows L2
/-- (key, value) pairs -/
def pairsV : List D → Option (List (D × D))
  | [] => some []
  | .tup [k, v] :: r => (pairsV r).map ((k, v) :: ·)
  | _ => none
/-- dict(list of pairs) -/
def aDictP (a : Ex) : Ad := fun S h => (a S h).bind fun d h1 => match lsD d h1 with
  | some xs => match pairsV xs with
    | some ps => if (ps.all fun p => p.1.kd == 3) = true then .ok (putAll [] ps) h1 else .bad
    | none => .bad
  | none => .bad
section
open Classical
/-- d.update(e), keys tuples -/
noncomputable def updT (d : D) (ds : List D) (h : Hh) : R D := match d, ds with
  | .ref k, [e] => match h[k]?, dicOf e h with
    | some (.dic kvs), some more => if ((kvs ++ more).all fun p => p.1.kd == 3) = true ∧ (kvs ≠ [] ∨ ∀ w, (more.map fun p => p.1.nk.map (·.hash w)).Nodup) ∧ kvs.length + more.length ≤ big ∧ (∀ j, e = .ref j → j ≠ k) then .ok .non (h.set k (.dic (putAll kvs more))) else .bad
    | _, _ => .bad
  | _, _ => .bad
end
section
variable {X : Cx} {at_ : Cl} {W : WX} {pins : List (Addr × Obj)} {σ : L2.St} {H : Hp} {s : Shared} {f : Fm} {h : Hh} {n : Nat}
theorem putAll_len : ∀ (more kvs : List (D × D)), (putAll kvs more).length ≤ kvs.length + more.length
  | [], kvs => Nat.le_refl _
  | p :: more, kvs => by
    have h1 := putAll_len more (putK p.1 p.2 kvs)
    have h2 := putK_len (kd := p.1) (vd := p.2) (kvs := kvs)
    show (putAll (putK p.1 p.2 kvs) more).length ≤ _
    rw [List.length_cons]
    omega
theorem putAll_nd : ∀ (more kvs : List (D × D)), (kvs.map fun p => p.1.nk).Nodup → ((putAll kvs more).map fun p => p.1.nk).Nodup
  | [], kvs, h => h
  | p :: more, kvs, h => putAll_nd more (putK p.1 p.2 kvs) (putK_nd h)
theorem pt_all : ∀ {more : List (D × D)} {ys : List (NestedKey × Addr × Value)}, Paired (PTu (X := X) f n H) more ys → ∀ {kvs : List (D × D)} {xs : List (NestedKey × Addr × Value)}, Paired (PTu (X := X) f n H) kvs xs → Paired (PTu (X := X) f n H) (putAll kvs more) (storedAllH xs ys)
  | _, _, .nil, _, _, q => q
  | _, _, .cons (a := p) (b := y) r t, kvs, xs, q => by
    obtain ⟨r1, r2, v, r3, r4⟩ := r
    exact pt_all t (pt_put r1 r2 r3 r4 q)
theorem pt_hash : ∀ {more : List (D × D)} {ys : List (NestedKey × Addr × Value)}, Paired (PTu (X := X) f n H) more ys → (more.map fun p => p.1.nk.map (·.hash X.w)) = (ys.map fun y => (nestedKind X.prog X.w).hash y.1).map some
  | _, _, .nil => rfl
  | _, _, .cons r t => by rw [List.map_cons, List.map_cons, List.map_cons, pt_hash t, r.1]; rfl
/-- the pairs as they stand -/
theorem pairs_open (I : Inv X pins σ H s) : ∀ {xs : List D} {vs : List V} {us : List Value} {ps : List (D × D)}, RVs X.KW f n H xs vs → Vals vs us → pairsV xs = some ps → (∀ p ∈ ps, p.1.kd = 3) →
    ∃ (ys : List (NestedKey × Addr × Value)) (Ts : List Addr), us = Ts.map Value.ref ∧ Paired (PTu (X := X) f n H) ps ys ∧ Paired (fun T y => PairAt s.heap T (.ref y.2.1) y.2.2) Ts ys ∧ ∀ y ∈ ys, (nestedKind X.prog X.w).is s.heap y.1 y.2.1
  | _, _, _, _, .nil, .nil, e, _ => by cases e; exact ⟨[], [], rfl, .nil, .nil, fun y hy => by simp at hy⟩
  | _, _, _, _, .cons (d := d) (ds := ds) h t, .cons r q, e, hk => by
    cases h with
    | tup ht hs =>
      cases hs with
      | nil => cases e
      | cons h1 t1 =>
        cases t1 with
        | nil => cases e
        | cons h2 t2 =>
          cases t2 with
          | cons _ _ => cases e
          | nil =>
            rename_i T kd kv vd vv
            have e : (pairsV ds).map ((kd, vd) :: ·) = _ := e
            obtain ⟨ps', e1, e2⟩ := Option.map_eq_some_iff.mp e
            subst e2
            cases r
            obtain ⟨ys, Ts, k1, k2, k3, k4⟩ := pairs_open I t q e1 fun p hp => hk p (List.mem_cons_of_mem _ hp)
            obtain ⟨xs, nk, e3, e4, e5⟩ := kd3 (hk (kd, vd) List.mem_cons_self)
            obtain ⟨its, rv, tp, _⟩ := I.tuple ht
            obtain ⟨u1, u2, rfl, ru1, ru2⟩ := vals2 rv
            have h1' := h1
            dsimp only at e3
            rw [e3] at h1
            cases h1 with
            | @tup b _ us' hb hbs =>
              have eb : u1 = .ref b := ru1
              subst eb
              refine ⟨(nk, b, u2) :: ys, T :: Ts, by rw [k1]; rfl, .cons ⟨e4, h1', vv, h2, ru2⟩ k2, .cons (.inl tp) k3, fun y hy => ?_⟩
              rcases List.mem_cons.mp hy with z | z
              · subst z; exact ⟨nest_of I h1' ru1 e4, e5⟩
              · exact k4 y z
    | _ => cases e
theorem paired_at {α β : Type} {F : α → β → Prop} : ∀ {l : List α} {m : List β}, Paired F l m → ∀ (i : Nat) (b : β), m[i]? = some b → ∃ a, l[i]? = some a ∧ F a b
  | _, _, .nil, i, b, e => by simp at e
  | _, _, .cons r t, 0, b, e => by simp at e; subst e; exact ⟨_, rfl, r⟩
  | _, _, .cons r t, i + 1, b, e => by
    obtain ⟨a, h1, h2⟩ := paired_at t i b (by simpa using e)
    exact ⟨a, by simpa using h1, h2⟩
def rDictP (X : Cx) : List V → Hp → VK → Prop := fun xs H Q => ∃ q vs f n ds ps, xs = [.ref q] ∧ SqL X.K H q vs ∧ RVs X.KW f n H ds vs ∧ pairsV ds = some ps ∧ (∀ p ∈ ps, p.1.kd = 3) ∧ ∀ p es, H p = none → Paired (REn X.KW f n H) (putAll [] ps) es → Q (.ref p) (upd H p (rawD p es))
theorem call_dictPT {k : Nat} (hr : Rm X k) (hc : X.calm = true) : CallR X (.type "dict") (rDictP X) := by
  intro pins s σ H xs us Q I r hh
  obtain ⟨q, vs, f, n, ds, ps, rfl, hq, rs, e, hk, fin⟩ := hh
  obtain ⟨u, rfl, ru⟩ := r.one
  cases ru
  obtain ⟨its, rv, pl, hz⟩ := I.list hq
  obtain ⟨ys, Ts, rfl, k2, k3, k4⟩ := pairs_open I rs rv e hk
  obtain ⟨o, m, ho, hcl, hd, hdat⟩ := pl
  have lT : Ts.length = ys.length := paired_len k3
  have lys : ys.length ≤ sizeLine := by
    rw [← lT]
    have := rv.length
    rw [List.length_map] at this
    rw [← this]
    exact hz
  have items : PairItems s.heap (Ts.map Value.ref).toArray (fun j => Ts.getD j 0) (ys.map fun y => (Value.ref y.2.1, y.2.2)) := by
    refine ⟨by simp [lT], fun j kk vv hj => ?_⟩
    rw [List.getElem?_map] at hj
    obtain ⟨y, hy, e⟩ := Option.map_eq_some_iff.mp hj
    cases e
    obtain ⟨T, hT, hp⟩ := paired_at k3 j y hy
    have eT : Ts.getD j 0 = T := by rw [List.getD_eq_getElem?_getD, hT]; rfl
    refine ⟨by simp [hT], ?_⟩
    show PairAt s.heap (Ts.getD j 0) _ _
    rw [eT]
    exact hp
  refine call_dict_pairsH (knd := nestedKind X.prog X.w) (ps := ys) (PairArg.list q (Ts.map Value.ref).toArray (fun j => Ts.getD j 0) (ys.map fun y => (Value.ref y.2.1, y.2.2))) (I.ok.hd hc) (by have := hr.room.units; show X.A.units + 1 + 1 + 8 < cLine; omega) ⟨⟨o, m, ho, hcl, hd, hdat⟩, items⟩
    ⟨by simp, fun i key v hrel => ?_⟩ (fun h' kp y hy => nestedKind_stays.stays (fun b ob vs' m' hb hc' => kp b ob (Nat.ne_of_lt (Heap.lt_size hb)) (by simp) hb) (k4 y hy)) (by simpa using lys) fun h' tk dd kp => ?_
  · have hrel : (ys.map fun y => (Value.ref y.2.1, y.2.2))[i]? = some (key, v) := hrel
    rw [List.getElem?_map] at hrel
    obtain ⟨y, hy, e⟩ := Option.map_eq_some_iff.mp hrel
    cases e
    exact ⟨y.1, y.2.1, hy, rfl⟩
  · have hp := pt_all k2 (kvs := []) (xs := []) .nil
    have hlen : (storedAllH [] ys).length ≤ sizeLine := by
      rw [← paired_len hp]
      have := putAll_len ps []
      rw [paired_len k2] at this
      simp at this
      omega
    have hs : (s.heap.objs.size == sysModules) = false := beq_eq_false_iff_ne.mpr (Ne.symm (Nat.ne_of_lt I.big))
    obtain ⟨es, new, ren⟩ := tk_close (H' := upd H s.heap.objs.size (rawD s.heap.objs.size [])) dd hp hs hlen
    have new2 : ObjOk X.prog X.w (upd H s.heap.objs.size (rawD s.heap.objs.size es)) h' s.heap.objs.size (rawD s.heap.objs.size es) := by
      obtain ⟨a1, a2, o, ea, ep, a3, a4, a5, a6⟩ := raw_obj new
      exact raw_ok a1 a2 a3 a4 a5 a6
    exact ⟨.ref _, _, I.laid (t' := tk) (fun b ob e => kp b ob (by simp) e) (Nat.le_refl _) new2, rfl, fin _ es (I.hok.fresh (Nat.le_refl _)) ren⟩
end
section
variable {X : Cx} {at_ : Cl} {W : WX} {k : Nat} {a : Expr} {ma : Ex} {p pos : Pos}
theorem sfd_dict (hr : Rm X k) (hc : X.calm = true) (ha : SE X at_ W a ma) (hm : X.mg "dict" = none) (hg : Gl X "dict" := by rfl) (he : starEach (a :: []) X.env = (false, eval a X.env) :: starEach [] X.env := by rfl) (hpl : (backTo pos (starEach [] X.env)).any (·.1) = false := by rfl) :
    SFD X at_ W (.Call (.Name "dict" p) [a] [] pos) (aDictP ma) := by
  obtain ⟨t1, p1, q1⟩ := ha.ex
  refine ⟨⟨_, pe_callTy (call_dictPT hr hc) hg hm (by rfl) (pa_cons p1 pa_nil he) (by decide) (by decide) he hpl, fun f h H S σ M e Q P => ?_⟩⟩
  refine q1 f h H S σ M e _ (Post.step P fun d h1 f1 H1 v1 E1 M1 r1 P1 => ?_)
  show rDictP X [v1] H1 Q
  cases z : lsD d h1 with
  | none => rw [z] at P1; exact False.elim P1
  | some xs =>
    rw [z] at P1
    dsimp only at P1
    cases y : pairsV xs with
    | none => rw [y] at P1; exact False.elim P1
    | some ps =>
      rw [y] at P1
      dsimp only at P1
      by_cases c : (ps.all fun p => p.1.kd == 3) = true
      · rw [if_pos c] at P1
        obtain ⟨q, vs, rfl, k1, k2⟩ := ls_rd M1 r1 z
        refine ⟨q, vs, f1, h1.length, xs, ps, rfl, .inl k1, k2, y, fun p hp => by simpa using List.all_eq_true.mp c p hp, fun p es hp ren => ?_⟩
        refine P1 _ _ _ (Ext.fresh hp) (M1.fresh hp) ⟨p, es, rfl, hp, upd_same, side_new M1 hp, ?_, putAll_nd _ _ List.nodup_nil⟩
        exact pimp ren fun _ _ q => q.keep (Nat.le_refl _) (fun _ _ => rfl) ((Ext.fresh hp).fix M1)
      · rw [if_neg c] at P1; exact False.elim P1
/-! ### update -/
def rUpdT (X : Cx) : V → List V → Hp → VK → Prop := fun x vs H Q => ∃ q es f n kvs o eo more, x = .ref q ∧ vs = [.ref o] ∧ H q = some (rawD q es) ∧ Paired (REn X.KW f n H) kvs es ∧ (kvs.map fun p => p.1.nk).Nodup ∧ Rd H o (rawD o eo) ∧ Paired (REn X.KW f n H) more eo ∧ (more.map fun p => p.1.nk).Nodup ∧
  (∀ p ∈ kvs, p.1.kd = 3) ∧ (∀ p ∈ more, p.1.kd = 3) ∧ (kvs ≠ [] ∨ ∀ w, (more.map fun p => p.1.nk.map (·.hash w)).Nodup) ∧ kvs.length + more.length ≤ big ∧ q ≠ o ∧ ∀ es', Paired (REn X.KW f n H) (putAll kvs more) es' → Q .non (upd H q (rawD q es'))
theorem mt_updT (hr : Rm X k) : MtR X "dict.update" (rUpdT X) := by
  intro pins s σ H x vs v us Q I rx rv hh
  obtain ⟨q, es, f, n, kvs, o, eo, more, rfl, rfl, e, rs, nd, e2, rs2, nd2, hk, hk2, hap, hz, hne, fin⟩ := hh
  cases rx
  obtain ⟨u, rfl, ru⟩ := rv.one
  cases ru
  obtain ⟨xs, dd, hp, hs, hl⟩ := tk_open I (.inl e) rs nd hk
  obtain ⟨ys, dd2, hp2, hs2, hl2⟩ := tk_open I e2 rs2 nd2 hk2
  have hz' := big_line.mp hz
  refine call_update_dictH (room_in1 hr) hne hs2 dd dd2 ?_ (by rw [← paired_len hp, ← paired_len hp2]; exact hz') fun h' dd' _ sb => ?_
  · rcases hap with z | z
    · refine .inl fun y => z ?_
      have := paired_len hp
      rw [y] at this
      exact List.length_eq_zero_iff.mp this
    · refine .inr ⟨keyed_apart nestedKind_stays dd2, ?_⟩
      have z := z X.w
      have em := pt_hash hp2
      rw [em] at z
      exact nodup_of_map some z
  · have hpp := pt_all hp2 hp
    have hlen : (storedAllH xs ys).length ≤ sizeLine := by
      rw [← paired_len hpp]
      exact Nat.le_trans (putAll_len more kvs) hz'
    obtain ⟨es', new, ren⟩ := tk_close (H' := H) dd' hpp hs hlen
    have new2 : ObjOk X.prog X.w (upd H q (rawD q es')) h' q (rawD q es') := by
      obtain ⟨a1, a2, o, ea, ep, a3, a4, a5, a6⟩ := raw_obj new
      exact raw_ok a1 a2 a3 a4 a5 a6
    refine ⟨.non, _, I.write (x := q) (e := q) (t' := s.toks) (by rw [e]; exact trivial) (.inl rfl) (fun b u hb hu => (sb.2 b hb).trans hu) ?_ new2, rfl, fin es' ren⟩
    obtain ⟨_, _, o, _, _, q1, _⟩ := raw_obj new
    exact ⟨o, q1⟩
open Classical in
theorem om_updT (hr : Rm X k) : OM X at_ "dict.update" updT := ⟨⟨_, mt_updT hr, fun W f h H σ d ds x vs M r rs Q P => by
  cases r with
  | ref hi =>
    rename_i i
    cases rs with
    | nil => exact False.elim P
    | cons r2 rs =>
      rename_i dv v ds vs
      cases rs with
      | cons _ _ => exact False.elim P
      | nil =>
        have P : Post X.KW at_ W (relV X.KW) h.length f H σ (match h[i]?, dicOf dv h with
          | some (.dic kvs), some more => if ((kvs ++ more).all fun p => p.1.kd == 3) = true ∧ (kvs ≠ [] ∨ ∀ w, (more.map fun p => p.1.nk.map (·.hash w)).Nodup) ∧ kvs.length + more.length ≤ big ∧ (∀ j, dv = .ref j → j ≠ i) then .ok .non (h.set i (.dic (putAll kvs more))) else .bad
          | _, _ => .bad) Q := P
        cases z : h[i]? with
        | none => rw [z] at P; exact False.elim P
        | some u =>
          cases u with
          | dic kvs =>
            cases z2 : dicOf dv h with
            | none => rw [z, z2] at P; exact False.elim P
            | some more =>
              rw [z, z2] at P
              dsimp only at P
              by_cases c : ((kvs ++ more).all fun p => p.1.kd == 3) = true ∧ (kvs ≠ [] ∨ ∀ w, (more.map fun p => p.1.nk.map (·.hash w)).Nodup) ∧ kvs.length + more.length ≤ big ∧ (∀ j, dv = .ref j → j ≠ i)
              · rw [if_pos c] at P
                obtain ⟨es, q1, q2, q3⟩ := M.obj i _ z
                obtain ⟨o, eo, rfl, k1, k2, k3⟩ := dic_rd M r2 z2
                have all3 : ∀ p ∈ kvs ++ more, p.1.kd = 3 := fun p hp => by simpa using List.all_eq_true.mp c.1 p hp
                have ne : f i ≠ o := by
                  intro zz
                  cases r2 with
                  | ref hj =>
                    rename_i j
                    exact c.2.2.2 j rfl (M.inj j i hj hi zz.symm)
                  | tup ht _ => cases z2
                  | fz ht _ => cases z2
                  | fi ht _ _ _ => cases z2
                  | fd ht _ _ _ _ _ _ => exact M.off ht trivial i hi zz
                refine ⟨f i, es, f, h.length, kvs, o, eo, more, rfl, rfl, q1, q2, q3, k1, k2, k3, fun p hp => all3 p (List.mem_append_left _ hp), fun p hp => all3 p (List.mem_append_right _ hp), c.2.1, c.2.2.1, ne, fun es' ren => ?_⟩
                refine P _ _ _ (by rw [List.length_set]; exact Ext.write hi) (M.write hi ⟨es', upd_same, ?_, putAll_nd _ _ q3⟩) .non
                exact pimp ren fun _ _ z => z.keep (Nat.le_refl _) (fun _ _ => rfl) (M.fixW hi)
              · rw [if_neg c] at P; exact False.elim P
          | _ => rw [z] at P; exact False.elim P
  | _ => exact False.elim P⟩⟩
end
end PV
set_option Elab.async false
set_option linter.all false
set_option autoImplicit false
set_option maxRecDepth 100000
set_option maxHeartbeats 2000000
/-! PVEnd: from a law's def to the law. -/
namespace PV
open PySem PySem.Spec PyProof.Rows L2
def idCl : Cl := fun c => c
theorem rvs_ints {K : KW} {f : Fm} {n : Nat} {H : Hp} : ∀ ns : List Int, RVs K f n H (ns.map D.int) (ns.map V.int)
  | [] => .nil
  | i :: ns => .cons (.int i) (rvs_ints ns)
/-- no list stands in the written part -/
def NoList (K : Frag) : Bool := K.all fun p => !(p.2.cls == .type "list")
theorem noList_at {K : Frag} (h : NoList K = true) {a : Addr} {o : Obj} (e : K.lookup a = some o) : o.cls ≠ .type "list" := by
  have m : (a, o) ∈ K := by
    have key : ∀ l : List (Addr × Obj), l.lookup a = some o → (a, o) ∈ l := by
      intro l
      induction l with
      | nil => intro h; cases h
      | cons p r ih =>
        intro h
        obtain ⟨b, q⟩ := p
        rw [List.lookup_cons] at h
        by_cases z : a = b
        · subst z
          simp at h
          subst h
          exact List.mem_cons_self
        · rw [show (a == b) = false from beq_false_of_ne z] at h
          exact List.mem_cons_of_mem _ (ih h)
    exact key K e
  have := List.all_eq_true.mp h _ m
  intro z
  dsimp only at this
  rw [z] at this
  exact absurd this (by decide)
theorem law_callS {P : Program} {w : World} {K : Frag} {mg mb : Str → Option Value} {k : Nat} {fa a : Addr} {fd : FuncData} {x : Str} {F : List D → Hh → R D} {s₁ : Shared} {vs : List Value} {ns : List Int}
    (KX : K.In s₁.heap) (hns : s₁.heap.Ns mainGlobals mg) (hb : s₁.heap.Ns builtinsNs mb) (hbb : ∀ x : Str, x ≠ "__name__" → mb x = bootBuiltins x) (hlim : s₁.heap.NoLimit) (hg : s₁.gens = #[])
    (ha : s₁.heap.get? a = some { cls := .type "list", data := .seq vs.toArray }) (hi : IntsAre vs ns) (hl : ns.length ≤ sizeLine) (hr : Room k callerA) (hgd : callerA.guards = some []) (hno : NoList K = true)
    (G : ∀ base : Heap, K.In base → base.Ns mainGlobals mg → FnS P w K mg base idCl k fa fd [x] F) (hbind : ∀ (s : Shared) (u : Value), BindsTo s fd ⟨[u], []⟩ [(x, u)])
    (law : ∃ h', F [.fz (ns.map D.int)] [] = .ok (.bl true) h') :
    codeAny (model P w) callerA (.call (.ref fa) ⟨[.ref a], []⟩) (fun r s' => r = .ok (.ret (.bool true)) ∧ OldK s₁.heap s'.heap ∧ s'.os = s₁.os ∧ AllBare s'.gens) s₁ := by
  have rv := vals_ints hi
  have lenV := hi.length
  have nK : K.lookup a = none := by
    cases z : K.lookup a with
    | none => rfl
    | some o =>
      have e := KX a o z
      rw [ha] at e
      cases e
      exact absurd rfl (noList_at hno z)
  let ob : Obj := { cls := .type "list", data := .seq vs.toArray }
  let H : Hp := fun b => if b = a then some (.frz ob (.lst (ns.map V.int))) else none
  have Ha : H a = some (.frz ob (.lst (ns.map V.int))) := if_pos rfl
  have Hn : ∀ {b : Addr}, b ≠ a → H b = none := fun {b} z => if_neg z
  have only : ∀ {b : Addr} {u : HO}, H b = some u → b = a ∧ u = .frz ob (.lst (ns.map V.int)) := fun {b u} e => by
    by_cases z : b = a
    · subst z; rw [Ha] at e; cases e; exact ⟨rfl, rfl⟩
    · rw [Hn z] at e; cases e
  have ok : HOk P w H s₁.heap := fun b u e => by
    obtain ⟨rfl, rfl⟩ := only e
    exact ⟨ha, by rw [List.length_map]; exact hl, vs, _, rv, ha⟩
  have noA : ∀ {b : Addr} {o : Obj} {es : Array DictEntry} {ep : Nat}, s₁.heap.get? b = some o → o.data = .dict es ep → H b = none := fun {b o es ep} e d => Hn fun z => by
    subst z
    rw [ha] at e
    cases e
    cases (show Data.seq vs.toArray _ = Data.dict es ep from d)
  have nsK : ∀ {b : Addr} {m : Str → Option Value}, s₁.heap.Ns b m → (hidT s₁.heap H).Ns b m := fun {b m} ⟨o, es, ep, e, d, r⟩ => ⟨o, es, ep, hidT_get e (noA e d), d, r⟩
  have hKb : K.In (hidT s₁.heap H) := fun b o e => hidT_get (KX b o e) (Hn fun z => by subst z; rw [nK] at e; cases e)
  have hM : Mod K mg (hidT s₁.heap H) := ⟨hKb, nsK hns, ⟨mb, nsK hb, hbb⟩, let ⟨mc, h1, h2⟩ := hlim; ⟨mc, nsK h1, h2⟩⟩
  have e0 : Env0 P w K mg (hidT s₁.heap H) callerA [] s₁ H := ⟨rfl, hM, fun b o e => of_hidT e, Nat.le_of_eq (hidT_size _ _), trivial, fun b hb => absurd (show b ∈ ([] : List Addr) from hb) (by simp), ok, .of_eq hg⟩
  obtain ⟨h', law⟩ := law
  have M : Sm ⟨K, w⟩ idCl (fun _ => 0) [] H := ⟨fun i j hi => absurd hi (Nat.not_lt_zero _), fun i o e => by simp at e⟩
  have rs : RVs ⟨K, w⟩ (fun _ => 0) ([] : Hh).length H [.fz (ns.map D.int)] [.ref a] := .cons (.fz Ha (rvs_ints ns)) .nil
  have post : Post ⟨K, w⟩ idCl (fun c d _ H => (fun _ _ _ => False : XK) c d H) (relV ⟨K, w⟩) ([] : Hh).length (fun _ => 0) H [] (F [.fz (ns.map D.int)] []) (fun v _ => v = .bl true) := by
    rw [law]
    intro f' H' b E' M' r
    cases r
    rfl
  refine codeAny_mono ((G _ hKb (nsK hns)).run callerA [] s₁ H ⟨[.ref a], []⟩ [.ref a] [.ref a] (fun v _ => v = .bl true) (fun _ _ _ => False) (fun _ => 0) [] [.fz (ns.map D.int)] hr hgd e0 (hbind s₁ (.ref a)) (.cons rfl .nil) M rs post) fun r s' hq => ?_
  cases r with
  | error e =>
    obtain ⟨_, _, _, _, _, _, _, _, _, _, q⟩ := hq
    exact False.elim (by first | exact q | exact q.2 | exact q.2.2 | exact q.2.2.2 | exact q.1)
  | ok fl =>
    cases fl with
    | next => exact False.elim hq
    | brk => exact False.elim hq
    | cont => exact False.elim hq
    | ret u =>
      obtain ⟨v, H', os, bare, un, hok', r', q⟩ := hq
      have q : v = .bl true := q
      subst q
      obtain rfl : u = Value.bool true := r'
      refine ⟨rfl, OldK.of_keep fun b o e => ?_, os, bare⟩
      by_cases z : b = a
      · subst z
        obtain ⟨e1, _⟩ := ok b _ Ha
        obtain ⟨e2, _⟩ := hok' b _ (un.frzs b ob _ Ha)
        rw [e] at e1
        cases e1
        exact e2
      · exact un.keep b o e (Hn z) (by intro y; exact absurd (show b ∈ ([] : List Addr) from y) (by simp)) (by simp)
/-- the goal that the head leaves -/
theorem walkS {l : PySem.W.OpenLaw} {n k : Nat} {q : Program} {loose : List Str} {XP : (Str → Option Value) → Heap → Prop} {YP : World → Heap → Prop} {d : DefRec} {K : Params → Frag} {F : List D → Hh → R D} {x : Str}
    (hn : l.most = some n) (hn2 : n ≤ sizeLine) (hdf : d.params.defaults = []) (hr : Room k callerA) (hgd : callerA.guards = some []) (hY : ∀ (w : World) (h : Heap), YP w h → (K w.params).In h)
    (G : ∀ (w : World) (mg : Str → Option Value) (fa : Addr) (h : Heap), (K w.params).In h → h.Ns mainGlobals mg → mg d.name = some (.ref fa) →
      ∃ fd : FuncData, NoList (K w.params) = true ∧ (∀ (s : Shared) (u : Value), BindsTo s fd ⟨[u], []⟩ [(x, u)]) ∧ ∀ base : Heap, (K w.params).In base → base.Ns mainGlobals mg → FnS l.prog w (K w.params) mg base idCl k fa fd [x] F)
    (law : ∀ ns : List Int, ns.length ≤ n → ∃ h', F [.fz (ns.map D.int)] [] = .ok (.bl true) h') : PySem.W.WalkO q loose XP YP l.row.toRowW d [] (fun f vs => PySem.call f vs) := by
  refine Att.attach_call hn hdf fun w s₀ s₁ mg mb fa o pm cd doc a vs ns G' Y ho hd hcd hmg hobj hints hlen hg => ?_
  have KX := hY w _ Y
  obtain ⟨fd, hno, hb, hF⟩ := G w mg fa _ KX G'.T.g hmg
  exact law_callS KX G'.T.g G'.T.b G'.T.builtins G'.T.nolimit hg hobj hints (Nat.le_trans hlen hn2) hr hgd hno hF hb (law ns hlen)
end PV
set_option Elab.async false
set_option linter.all false
set_option autoImplicit false
set_option maxRecDepth 100000
set_option maxHeartbeats 2000000
/-! PVQ: == and != of instances by their class's __eq__. -/
namespace PV
open PySem PySem.Spec PyProof.Rows L2
section
variable {prog : Program} {w : World} {A : Around} {E : Value → Shared → Prop} {s : Shared} {K : Frag} {x y C f : Addr} {ox oy : Obj} {od od' : Option Obj}
theorem bound_ne {M : Model} {args : List Value} {Q : Option Value → Shared → Prop} (X : K.In s.heap) (I : PySem.W.InstAt s.heap x ox C od) (hn : PySem.W.findIn K (.ref C) "__ne__" = some (some (.builtin "object.__ne__")))
    (h : wpAny M A (call (.builtin "object.__ne__") (.ref x :: args)) (fun v => Q (some v)) E s) : wpAny M A (callSpecialIfBound? (.ref x) "__ne__" args) Q E s := by
  simp only [callSpecialIfBound?, bindSpecialIfBound?]
  refine wpAny_holding (wpAny_bind (wpAny_bind (wpAny_bind (I.type.here ((PySem.W.looks_findIn X hn).here ?_)))))
  refine wpAny_bind (wpAny_askSetting (wpAny_ite ?_))
  have last : wpAny M A (call (.builtin "object.__ne__") ([.ref x] ++ args) >>= fun v => pure (some v)) Q E s := wpAny_bind (wpAny_mono h (fun v s' q => wpAny_pure q) fun _ _ q => q)
  have bnd : PySem.W.Looks M s.heap (bindSpecial (.builtin "object.__ne__") (.ref x)) (.builtin "object.__ne__", [.ref x]) := PySem.W.Looks.of_pure (PySem.F.cmp_object.ne.bind _)
  split
  · exact wpAny_bind (bnd.here (wpAny_pure (by exact last)))
  · exact wpAny_tryCatch (wpAny_bind (bnd.here (wpAny_pure (by exact last))))
theorem ne_own {Q : Value → Shared → Prop} (X : K.In s.heap) (I : PySem.W.InstAt s.heap x ox C od) (J : PySem.W.InstAt s.heap y oy C od') (hu : A.units + 8 < cLine) (he : PySem.W.findIn K (.ref C) "__eq__" = some (some (.ref f))) (hf : PySem.W.isFn K (.ref f) = true)
    (hn : PySem.W.findIn K (.ref C) "__ne__" = some (some (.builtin "object.__ne__"))) (hm : PySem.W.mroIn K C (.type "object") = some true)
    (hcall : wpAny (model prog w) A.in1 (call (.ref f) [.ref x, .ref y]) (fun v s' => ∃ b, v = .bool b ∧ Q (.bool (!b)) s') E s) : wpAny (model prog w) A (compareOp .NotEq (.ref x) (.ref y)) Q E s := by
  have body : wpAny (model prog w) A.in1 (Builtin.«object.__ne__» ⟨[.ref x, .ref y], []⟩) (fun fin s' => ∃ b, fin = .done (.ret (.bool b)) ∧ Q (.bool b) s') E s := by
    unfold Builtin.«object.__ne__»
    refine wpAny_bind (m := slotArgs "__ne__" 1 _) (wpAny_pure ?_)
    refine wpAny_bind (wpAny_cRoomFor (by show A.units + 1 < cLine; omega) ?_)
    refine wpAny_bind (m := callSpecialIfBound? (.ref x) (Str.ofString "__eq__") [.ref y]) (PySem.W.ifBound_K X I he hf (wpAny_mono hcall (fun v s' q => ?_) fun _ _ q => q))
    obtain ⟨b, rfl, q⟩ := q
    show wpAny _ _ (truthy (.bool b) >>= _) _ _ _
    exact wpAny_bind (wpAny_truthy_bool (wpAny_pure ⟨_, rfl, q⟩))
  have one : wpAny (model prog w) A (tryCompare (.ref x) "__ne__" (.ref y)) (fun r s' => ∃ b, r = some (.bool b) ∧ Q (.bool b) s') E s := by
    unfold tryCompare
    refine wpAny_bind (bound_ne X I hn (wpAny_call (codeAny_call_builtin PySem.F.cmp_object.ne.plain PySem.F.cmpEntry_ne ?_)))
    refine PySem.W.check_slot PySem.F.cmpKind_ne PySem.F.cmpSplit_ne (I.type.andThen (PySem.W.looks_mroIn X hm)) (PySem.F.cmpArgs_ne _ _) ?_
    refine wpAny_mono body (fun fin s' q => ?_) fun _ _ q => q
    obtain ⟨b, rfl, q⟩ := q
    exact wpAny_pure ⟨b, rfl, q⟩
  unfold compareOp richCompare
  simp only [oneThing_ref]
  refine wpAny_holding (wpAny_bind (wpAny_cRoomFor (by omega) ?_))
  refine wpAny_bind (I.type.here (wpAny_bind (J.type.here ?_)))
  rw [show (Value.ref C != Value.ref C) = false by simp]
  simp only [Bool.false_eq_true, if_false]
  refine wpAny_bind (wpAny_pure ?_)
  simp only [Bool.false_eq_true, if_false]
  refine wpAny_bind (wpAny_mono one (fun r s' z => ?_) fun _ _ e => e)
  obtain ⟨b, rfl, q⟩ := z
  exact wpAny_pure q
end
/-! ### a def by its address -/
structure FnX (P : Program) (w : World) (K : Frag) (mg : Str → Option Value) (base : Heap) (at_ : Cl) (k : Nat) (g : Addr) (ps : List Str) (F : List D → Hh → R D) : Prop where
  ex : ∃ fd, FnS P w K mg base at_ k g fd ps F ∧ Binds K fd ps []
  kp : PySem.W.keepIn K (.ref g) = true
theorem FnX.mono {P : Program} {w : World} {K : Frag} {mg : Str → Option Value} {base : Heap} {at_ : Cl} {j k : Nat} {g : Addr} {ps : List Str} {F : List D → Hh → R D} (x : FnX P w K mg base at_ j g ps F) (h : j ≤ k) : FnX P w K mg base at_ k g ps F :=
  ⟨let ⟨fd, a, b⟩ := x.ex; ⟨fd, a.mono h, b⟩, x.kp⟩
/-- where a def of the text stands -/
structure DefT (K : Frag) (name qual : Str) (st : Stmt) (g : Addr) (ps : List Str) : Prop where
  ex : ∃ fd, Fun K name qual st g fd ∧ Binds K fd ps []
  kp : PySem.W.keepIn K (.ref g) = true
section
variable {P : Program} {w : World} {K : Frag} {mg : Str → Option Value} {base : Heap} {at_ : Cl}
theorem fnX_of {k : Nat} {g : Addr} {x qual : Str} {st : Stmt} {N ps : List Str} {m : PV.St} (F : DefT K x qual st g ps) (S : FnScope N ps (defScope st))
    (body : ∀ (cdv : Value) (A : Around) (outer : List Env) (s : Shared) (H : Hp) (E : XK), Rm (cxOf (L2.CX P w) P w K mg base N qual (defScope st) g cdv A outer s H E) k → SB (cxOf (L2.CX P w) P w K mg base N qual (defScope st) g cdv A outer s H E) at_ (WE0 E) (defBody st) m) :
    FnX P w K mg base at_ (k + 1) g ps (fn N.length ps.length m) := ⟨let ⟨fd, a, b⟩ := F.ex; ⟨fd, fnS_of a S body, b⟩, F.kp⟩
theorem fnX_ofZ {k : Nat} {g : Addr} {x qual : Str} {st : Stmt} {N ps : List Str} {m : PV.St} (hat : ∀ c, at_ c = c) (F : DefT K x qual st g ps) (S : FnScope N ps (defScope st))
    (body : ∀ (cdv : Value) (A : Around) (outer : List Env) (s : Shared) (H : Hp) (E : XK), Rm (cxOf (L2.CX P w) P w K mg base N qual (defScope st) g cdv A outer s H E) k → SB (cxOf (L2.CX P w) P w K mg base N qual (defScope st) g cdv A outer s H E) at_ (WE0 E) (defBody st) m) :
    FnX P w K mg base at_ (k + 1) g ps (fnZ N.length ps.length m) := ⟨let ⟨fd, a, b⟩ := F.ex; ⟨fd, fnS_ofZ hat a S body, b⟩, F.kp⟩
end
section
variable {X : Cx} {at_ : Cl} {W : WX} {k : Nat} {g C : Addr} {ps : List Str} {F : List D → Hh → R D} {x : Str} {p pos : Pos} {e : Expr} {es : List Expr} {as : As}
theorem se_callX (G : FnX X.prog X.w X.K X.mg X.base at_ k g ps F) (hr : Rm X k) (hm : X.mg x = some (.ref g)) (tk : Takes X W) (ha : SA X at_ W (e :: es) as)
    (hg : Gl X x := by rfl) (hdb : (x == ("__debug__" : Str)) = false := by decide)
    (he : starEach (e :: es) X.env = (false, eval e X.env) :: starEach es X.env := by rfl) (hpl : (backTo pos (starEach es X.env)).any (·.1) = false := by rfl) : SE X at_ W (.Call (.Name x p) (e :: es) [] pos) (eF F as) := by
  obtain ⟨fd, a, b⟩ := G.ex
  exact se_call a hr hm G.kp b tk ha hg hdb he hpl
theorem se_callX0 (G : FnX X.prog X.w X.K X.mg X.base at_ k g ps F) (hr : Rm X k) (hm : X.mg x = some (.ref g)) (tk : Takes X W) (hg : Gl X x := by rfl) (hdb : (x == ("__debug__" : Str)) = false := by decide) : SE X at_ W (.Call (.Name x p) [] [] pos) (eF F aN) := by
  obtain ⟨fd, a, b⟩ := G.ex
  exact se_call0 a hr hm G.kp b tk hg hdb
theorem se_makeX (hat : ∀ c, at_ c = c) (mk : Mk X.K C g) (G : FnX X.prog X.w X.K X.mg X.base at_ k g ps F) (hr : Rm X (k + 1)) (hm : X.mg x = some (.ref C)) (tk : Takes X W) (ha : SA X at_ W (e :: es) as)
    (hg : Gl X x := by rfl) (hdb : (x == ("__debug__" : Str)) = false := by decide)
    (he : starEach (e :: es) X.env = (false, eval e X.env) :: starEach es X.env := by rfl) (hpl : (backTo pos (starEach es X.env)).any (·.1) = false := by rfl) : SE X at_ W (.Call (.Name x p) (e :: es) [] pos) (eF (mkD C F) as) := by
  obtain ⟨fd, a, b⟩ := G.ex
  exact se_make hat mk a hr hm b tk ha hg hdb he hpl
theorem se_makeXZ (hat : ∀ c, at_ c = c) (mk : Mk X.K C g) (G : FnX X.prog X.w X.K X.mg X.base at_ k g ps F) (hr : Rm X (k + 1)) (hm : X.mg x = some (.ref C)) (tk : Takes X W) (ha : SA X at_ W (e :: es) as)
    (hg : Gl X x := by rfl) (hdb : (x == ("__debug__" : Str)) = false := by decide)
    (he : starEach (e :: es) X.env = (false, eval e X.env) :: starEach es X.env := by rfl) (hpl : (backTo pos (starEach es X.env)).any (·.1) = false := by rfl) : SE X at_ W (.Call (.Name x p) (e :: es) [] pos) (eF (mkZ C F) as) := by
  obtain ⟨fd, a, b⟩ := G.ex
  exact se_makeZ hat mk a hr hm b tk ha hg hdb he hpl
/-! ### != of instances -/
/-- what a class with __eq__ must have -/
structure EqC (K : Frag) (C f : Addr) : Prop where
  cl : Cls K C
  eq : PySem.W.findIn K (.ref C) "__eq__" = some (some (.ref f))
  fn : PySem.W.isFn K (.ref f) = true
  ne : PySem.W.findIn K (.ref C) "__ne__" = some (some (.builtin "object.__ne__"))
  mro : PySem.W.mroIn K C (.type "object") = some true
def neOwn (c : Nat) (F : List D → Hh → R D) (x y : D) (h : Hh) : R D := match tkOf h x, tkOf h y with
  | some (.own a), some (.own b) => if a = c ∧ b = c then (F [x, y] h).calm.bind fun r h1 => (isB r h1).bind fun k h2 => .ok (.bl (!k)) h2 else .bad
  | _, _ => neD x y h
theorem own_rd {f : Fm} {h : Hh} {H : Hp} {d : D} {v : V} {c : Nat} (hat : ∀ c, at_ c = c) (M : Sm X.KW at_ f h H) (r : RV X.KW f h.length H d v) (e : tkOf h d = some (.own c)) : ∃ q dx fs, v = .ref q ∧ Rd H q (.ins c dx fs) := by
  cases r with
  | fi ht _ _ _ => cases e; exact ⟨_, _, _, rfl, .inr ⟨_, ht⟩⟩
  | ref hi =>
    rename_i k
    have e : (match h[k]? with
      | some (.lst _) => some (.bi "list")
      | some (.dic _) => some (.bi "dict")
      | some (.ins c _) => some (.own c)
      | none => none) = some (Tk.own c) := e
    cases z : h[k]? with
    | none => rw [z] at e; cases e
    | some o =>
      have ro := M.obj k o z
      cases o with
      | ins c' fs =>
        rw [z] at e
        cases e
        obtain ⟨dx, gs, q, _⟩ := ro
        rw [hat] at q
        exact ⟨_, dx, gs, rfl, .inl q⟩
      | _ => rw [z] at e; cases e
  | _ => cases e
def rNeOwn (X : Cx) (at_ : Cl) (C : Nat) (F : List D → Hh → R D) : R2 := fun x y H Q => ∃ a b dx dy fs gs f h d e, x = .ref a ∧ y = .ref b ∧ Rd H a (.ins C dx fs) ∧ Rd H b (.ins C dy gs) ∧ Sm X.KW at_ f h H ∧ RVs X.KW f h.length H [d, e] [x, y] ∧
  Post X.KW at_ (fun _ _ _ _ => False) (relV X.KW) h.length f H [] (F [d, e] h) (fun v H' => ∃ k, v = .bl k ∧ Q (.bl (!k)) H')
theorem op_neOwn (ec : EqC X.K C g) (G : FnX X.prog X.w X.K X.mg X.base at_ k g ps F) (hr : Rm X (k + 1)) : OpR X (compareOp .NotEq) (rNeOwn X at_ C F) := by
  intro pins s σ H x y v u Q I rx ry hh
  obtain ⟨a, b, dx, dy, fs, gs, f, h, d, e, rfl, rfl, ea, eb, M, rs, post⟩ := hh
  cases rx
  cases ry
  obtain ⟨fd, Gr, hb⟩ := G.ex
  obtain ⟨_, _, n1, o1, m1, s1, _⟩ := (show ObjOk X.prog X.w H s.heap a (.ins C dx fs) from ea.ok I.hok)
  obtain ⟨_, _, n2, o2, m2, s2, _⟩ := (show ObjOk X.prog X.w H s.heap b (.ins C dy gs) from eb.ok I.hok)
  obtain ⟨od, J1, _⟩ := (⟨o1, s1, n1⟩ : ObjM s.heap a dx C m1).look
  obtain ⟨od', J2, _⟩ := (⟨o2, s2, n2⟩ : ObjM s.heap b dy C m2).look
  have un := hr.room.units
  refine ne_own I.kIn J1 J2 (by omega) ec.eq ec.fn ec.ne ec.mro ?_
  have hl : ([d, e] : List D).length = ps.length := Decidable.byContradiction fun z => by
    rw [Gr.len _ h z] at post
    exact post
  have bt := hb s [.ref a, .ref b] I.kIn (by rw [List.append_nil]; exact hl)
  rw [List.append_nil] at bt
  refine wpAny_call (codeAny_mono (Gr.run X.A.in1 X.stack s H ⟨[.ref a, .ref b], []⟩ [.ref a, .ref b] [.ref a, .ref b] _ (fun _ _ _ => False) f h [d, e] hr.room.in1 hr.gd (I.env0.in1) bt (.cons rfl (.cons rfl .nil)) M rs post) fun fl s' hq => ?_)
  cases fl with
  | error e =>
    obtain ⟨_, _, _, _, _, _, _, _, _, _, q⟩ := hq
    exact False.elim (by first | exact q | exact q.2 | exact q.2.2)
  | ok fl =>
    cases fl with
    | next => exact False.elim hq
    | brk => exact False.elim hq
    | cont => exact False.elim hq
    | ret w =>
      obtain ⟨z, H', I', rz, kk, rfl, fin⟩ := I.after hq
      cases rz
      exact ⟨kk, rfl, .bl (!kk), H', I', rfl, fin⟩
theorem o2_neOwn (hat : ∀ c, at_ c = c) (ec : EqC X.K C g) (G : FnX X.prog X.w X.K X.mg X.base at_ k g ps F) (hr : Rm X (k + 1)) : O2 X at_ (compareOp .NotEq) (neOwn C F) := by
  obtain ⟨r0, hr0, hq0⟩ := (o2_ne (at_ := at_) hr).ex
  refine ⟨⟨_, hr0.or (op_neOwn ec G hr), fun W f h H σ dx dy x y M rx ry Q P => ?_⟩⟩
  unfold neOwn at P
  have data : Post X.KW at_ W (relV X.KW) h.length f H σ (neD dx dy h) Q → r0 x y H Q ∨ rNeOwn X at_ C F x y H Q := fun P => .inl (hq0 W f h H σ dx dy x y M rx ry Q P)
  cases z1 : tkOf h dx with
  | none => rw [z1] at P; exact data P
  | some t1 =>
    cases t1 with
    | bi _ => rw [z1] at P; exact data P
    | own c1 =>
      cases z2 : tkOf h dy with
      | none => rw [z1, z2] at P; exact data P
      | some t2 =>
        cases t2 with
        | bi _ => rw [z1, z2] at P; exact data P
        | own c2 =>
          rw [z1, z2] at P
          dsimp only at P
          by_cases c : c1 = C ∧ c2 = C
          · rw [if_pos c] at P
            obtain ⟨rfl, rfl⟩ := c
            obtain ⟨a, dx', fs, rfl, ka⟩ := own_rd hat M rx z1
            obtain ⟨b, dy', gs, rfl, kb⟩ := own_rd hat M ry z2
            refine .inr ⟨a, b, dx', dy', fs, gs, f, h, dx, dy, rfl, rfl, ka, kb, M, .cons rx (.cons ry .nil), ?_⟩
            exact Post.calmed (n' := h.length) (f' := f) (H' := H) (σ' := []) P fun r h1 f1 H1 v1 E1 M1 r1 P1 => by
              obtain ⟨k, e1, P2⟩ := isB_step (P1.rebase E1) r1
              exact ⟨k, e1, P2.ok M1 (.bl _)⟩
          · rw [if_neg c] at P; exact False.elim P
end
end PV
set_option Elab.async false
set_option linter.all false
set_option autoImplicit false
set_option maxRecDepth 100000
set_option maxHeartbeats 2000000
/-! PVX: defs by their names; what generated walks want. -/
namespace PV
open PySem PySem.Spec PyProof.Rows L2
/-- a def that a name of the module holds -/
def FnG (P : Program) (w : World) (K : Frag) (mg : Str → Option Value) (base : Heap) (at_ : Cl) (k : Nat) (x : Str) (ps : List Str) (F : List D → Hh → R D) : Prop := ∃ g, mg x = some (.ref g) ∧ FnX P w K mg base at_ k g ps F
/-- where a def of the module stands -/
def DefG (K : Frag) (mg : Str → Option Value) (x qual : Str) (st : Stmt) (ps : List Str) : Prop := ∃ g, mg x = some (.ref g) ∧ DefT K x qual st g ps
/-- a method of a class -/
def DefM (K : Frag) (C : Nat) (m qual : Str) (st : Stmt) (ps : List Str) : Prop := ∃ g, Meth K C m g ∧ DefT K m qual st g ps
def FnM (P : Program) (w : World) (K : Frag) (mg : Str → Option Value) (base : Heap) (at_ : Cl) (k : Nat) (C : Nat) (m : Str) (ps : List Str) (F : List D → Hh → R D) : Prop := ∃ g, Meth K C m g ∧ FnX P w K mg base at_ k g ps F
section
variable {P : Program} {w : World} {K : Frag} {mg : Str → Option Value} {base : Heap} {at_ : Cl} {k : Nat} {x qual : Str} {st : Stmt} {N ps : List Str} {m : PV.St} {C : Nat}
theorem fnG_of (F : DefG K mg x qual st ps) (S : FnScope N ps (defScope st))
    (body : ∀ (g : Addr) (cdv : Value) (A : Around) (outer : List Env) (s : Shared) (H : Hp) (E : XK), Rm (cxOf (L2.CX P w) P w K mg base N qual (defScope st) g cdv A outer s H E) k → SB (cxOf (L2.CX P w) P w K mg base N qual (defScope st) g cdv A outer s H E) at_ (WE0 E) (defBody st) m) :
    FnG P w K mg base at_ (k + 1) x ps (fn N.length ps.length m) := let ⟨g, a, b⟩ := F; ⟨g, a, fnX_of b S (body g)⟩
theorem fnG_ofZ (hat : ∀ c, at_ c = c) (F : DefG K mg x qual st ps) (S : FnScope N ps (defScope st))
    (body : ∀ (g : Addr) (cdv : Value) (A : Around) (outer : List Env) (s : Shared) (H : Hp) (E : XK), Rm (cxOf (L2.CX P w) P w K mg base N qual (defScope st) g cdv A outer s H E) k → SB (cxOf (L2.CX P w) P w K mg base N qual (defScope st) g cdv A outer s H E) at_ (WE0 E) (defBody st) m) :
    FnG P w K mg base at_ (k + 1) x ps (fnZ N.length ps.length m) := let ⟨g, a, b⟩ := F; ⟨g, a, fnX_ofZ hat b S (body g)⟩
theorem fnM_of (F : DefM K C x qual st ps) (S : FnScope N ps (defScope st))
    (body : ∀ (g : Addr) (cdv : Value) (A : Around) (outer : List Env) (s : Shared) (H : Hp) (E : XK), Rm (cxOf (L2.CX P w) P w K mg base N qual (defScope st) g cdv A outer s H E) k → SB (cxOf (L2.CX P w) P w K mg base N qual (defScope st) g cdv A outer s H E) at_ (WE0 E) (defBody st) m) :
    FnM P w K mg base at_ (k + 1) C x ps (fn N.length ps.length m) := let ⟨g, a, b⟩ := F; ⟨g, a, fnX_of b S (body g)⟩
theorem fnM_ofZ (hat : ∀ c, at_ c = c) (F : DefM K C x qual st ps) (S : FnScope N ps (defScope st))
    (body : ∀ (g : Addr) (cdv : Value) (A : Around) (outer : List Env) (s : Shared) (H : Hp) (E : XK), Rm (cxOf (L2.CX P w) P w K mg base N qual (defScope st) g cdv A outer s H E) k → SB (cxOf (L2.CX P w) P w K mg base N qual (defScope st) g cdv A outer s H E) at_ (WE0 E) (defBody st) m) :
    FnM P w K mg base at_ (k + 1) C x ps (fnZ N.length ps.length m) := let ⟨g, a, b⟩ := F; ⟨g, a, fnX_ofZ hat b S (body g)⟩
end
section
variable {X : Cx} {at_ : Cl} {W : WX} {k : Nat} {C : Nat} {ps : List Str} {F : List D → Hh → R D} {x : Str} {p pos : Pos} {e : Expr} {es : List Expr} {as : As}
theorem se_callG (G : FnG X.prog X.w X.K X.mg X.base at_ k x ps F) (hr : Rm X k) (tk : Takes X W) (ha : SA X at_ W (e :: es) as)
    (hg : Gl X x := by rfl) (hdb : (x == ("__debug__" : Str)) = false := by decide)
    (he : starEach (e :: es) X.env = (false, eval e X.env) :: starEach es X.env := by rfl) (hpl : (backTo pos (starEach es X.env)).any (·.1) = false := by rfl) : SE X at_ W (.Call (.Name x p) (e :: es) [] pos) (eF F as) := by
  obtain ⟨g, a, b⟩ := G
  exact se_callX b hr a tk ha hg hdb he hpl
theorem se_callG0 (G : FnG X.prog X.w X.K X.mg X.base at_ k x ps F) (hr : Rm X k) (tk : Takes X W) (hg : Gl X x := by rfl) (hdb : (x == ("__debug__" : Str)) = false := by decide) : SE X at_ W (.Call (.Name x p) [] [] pos) (eF F aN) := by
  obtain ⟨g, a, b⟩ := G
  exact se_callX0 b hr a tk hg hdb
/-- a class that makes instances -/
structure MkC (K : Frag) (C : Nat) : Prop where
  makes : PySem.W.makesIn K C = true
  kp : PySem.W.keepIn K (Value.ref C) = true
theorem se_makeG (hat : ∀ c, at_ c = c) (mk : MkC X.K C) (G : FnM X.prog X.w X.K X.mg X.base at_ k C "__init__" ps F) (hr : Rm X (k + 1)) (hm : X.mg x = some (.ref C)) (tk : Takes X W) (ha : SA X at_ W (e :: es) as)
    (hg : Gl X x := by rfl) (hdb : (x == ("__debug__" : Str)) = false := by decide)
    (he : starEach (e :: es) X.env = (false, eval e X.env) :: starEach es X.env := by rfl) (hpl : (backTo pos (starEach es X.env)).any (·.1) = false := by rfl) : SE X at_ W (.Call (.Name x p) (e :: es) [] pos) (eF (mkD C F) as) := by
  obtain ⟨g, a, b⟩ := G
  exact se_makeX hat ⟨mk.makes, a.at_, a.fn, mk.kp⟩ b hr hm tk ha hg hdb he hpl
theorem se_makeGZ (hat : ∀ c, at_ c = c) (mk : MkC X.K C) (G : FnM X.prog X.w X.K X.mg X.base at_ k C "__init__" ps F) (hr : Rm X (k + 1)) (hm : X.mg x = some (.ref C)) (tk : Takes X W) (ha : SA X at_ W (e :: es) as)
    (hg : Gl X x := by rfl) (hdb : (x == ("__debug__" : Str)) = false := by decide)
    (he : starEach (e :: es) X.env = (false, eval e X.env) :: starEach es X.env := by rfl) (hpl : (backTo pos (starEach es X.env)).any (·.1) = false := by rfl) : SE X at_ W (.Call (.Name x p) (e :: es) [] pos) (eF (mkZ C F) as) := by
  obtain ⟨g, a, b⟩ := G
  exact se_makeXZ hat ⟨mk.makes, a.at_, a.fn, mk.kp⟩ b hr hm tk ha hg hdb he hpl
/-! ### constants of the module -/
def GlI (mg : Str → Option Value) (x : Str) (i : Int) : Prop := ∃ t, mg x = some (.int i t)
theorem se_gI {i : Int} (hm : GlI X.mg x i) (hg : Gl X x := by rfl) (hd : (x == ("__debug__" : Str)) = false := by decide) : SE X at_ W (.Name x pos) (eC (.int i)) := by
  obtain ⟨t, e⟩ := hm
  exact se_glob (v := .int i) hg e ⟨t, rfl⟩ (fun _ _ _ => .int i) hd
/-- a tuple of numbers -/
def GlT (K : Frag) (mg : Str → Option Value) (x : Str) (ns : List Int) : Prop := ∃ a o its n, mg x = some (.ref a) ∧ List.lookup a K = some o ∧ o.cls = Value.type "tuple" ∧ o.data = Data.seq its n ∧ its.size ≤ sizeLine ∧ Vals (ns.map V.int) its.toList
theorem rvs_gints {K : KW} {f : Fm} {n : Nat} {H : Hp} : ∀ ns : List Int, RVs K f n H (ns.map D.int) (ns.map V.int)
  | [] => .nil
  | i :: ns => .cons (.int i) (rvs_gints ns)
theorem se_gT {ns : List Int} (hm : GlT X.K X.mg x ns) (hg : Gl X x := by rfl) (hd : (x == ("__debug__" : Str)) = false := by decide) : SE X at_ W (.Name x pos) (eC (.tup (ns.map D.int))) := by
  obtain ⟨a, o, its, n, e, h1, h2, h3, h4, h5⟩ := hm
  exact se_glob hg e (v := .ref a) rfl (fun _ _ _ => .tup (.inr ⟨o, its, n, h1, h2, h3, h4, h5⟩) (rvs_gints ns)) hd
/-- a text -/
def GlS (mg : Str → Option Value) (x : Str) (i : Str) : Prop := ∃ t, mg x = some (.str i t)
theorem se_gS {i : Str} (hm : GlS X.mg x i) (hg : Gl X x := by rfl) (hd : (x == ("__debug__" : Str)) = false := by decide) : SE X at_ W (.Name x pos) (eC (.str i)) := by
  obtain ⟨t, e⟩ := hm
  exact se_glob (v := .str i) hg e ⟨t, rfl⟩ (fun _ _ _ => .str i) hd
/-! ### within a comprehension -/
theorem Rm.blk {s : Shared} {H : Hp} {scope : Scope} {cenv : Env} {fp : List Addr} (r : Rm X k) : Rm (X.blk s H scope cenv fp) k := ⟨r.room, r.gd⟩
/-! ### a new list, by content, stored -/
theorem ps_frz {st : Stmt} {t : TS} (h : PS X st t) : PS X st (fun D σ H => t { nx := fun σ' H' => D.nx σ' H' ∨ ∃ a u, H' a = some u ∧ Mut (some u) ∧ ∀ o, D.nx σ' (upd H' a (.frz o u)), rt := D.rt, bk := D.bk, ct := D.ct } σ H) := ⟨fun pins s σ H D I q => by
  refine wpAny_mono (h.run pins s σ H _ I q) (fun fl s1 hh => ?_) fun _ _ q => q
  cases fl with
  | next =>
    obtain ⟨σ', H1, I1, q1⟩ := hh
    rcases q1 with q1 | ⟨a, u, e1, mu, q1⟩
    · exact ⟨σ', H1, I1, q1⟩
    · obtain ⟨o, I2⟩ := Inv.freeze I1 e1 mu
      exact ⟨σ', _, I2, q1 o⟩
  | brk => exact hh
  | cont => exact hh
  | ret u => exact hh⟩
variable {la : Ls} {g : Tg} {gv : List Nat} {tg : Expr}
/-- name = [..] on one line, the name a local, the list told by content -/
theorem ss_setLcZ {i : Nat} {y : Str} {py spos : Pos} {elt iter : Expr} {ifs : List Expr} {scope : Scope} {own : List (Str × Nat)} {t : Tt} {el : Ex} [TgOk g] (hc : X.calm = true) (hN : X.N.Nodup) (hi : SI X at_ W tg iter la) (ok : BlkOk X.N X.env.scope scope own)
    (hg : ∀ (s : Shared) (H : Hp) (C : Addr) (cl : List (Str × Addr)) (fp : List Addr), SG (X.blk s H scope (compEnvC scope cl C X.env) fp) tg g gv) (ht : ∀ (s : Shared) (H : Hp) (C : Addr) (cl : List (Str × Addr)) (fp : List Addr), SPt (X.blk s H scope (compEnvC scope cl C X.env) fp) at_ W0 ifs t)
    (he : ∀ (s : Shared) (H : Hp) (C : Addr) (cl : List (Str × Addr)) (fp : List Addr), SE (X.blk s H scope (compEnvC scope cl C X.env) fp) at_ W0 elt el) (hw : ∀ i ∈ gv, i ∈ own.map (·.2) := by decide)
    (hy : X.N[i]? = some y := by rfl) (hyl : X.env.scope.names.lookup y = some .local := by rfl) (hk : X.env.scope.kind = .function := by rfl) (hl : (py.line == pos.line) = true := by rfl) (ha : (scope.names.any fun (n, k) => n == y && (k == .local || k == .cell)) = false := by decide +kernel)
    (hs : ∀ x, foldedSetIterable iter X.env x = pure x := by intro _; rfl) :
    SS X at_ W (.Assign [.Name y py] (.ListComp elt [⟨tg, iter, ifs, 0⟩] scope pos) spos) (sSet i (eZ (lLc la (own.map (·.2)) g t el))) := by
  obtain ⟨wi, p1, q1⟩ := hi.ex
  refine ⟨⟨_, ps_frz (ps_setLc (g := canG X.KW g gv) (tt := PV.can X.KW at_ W0 relB t) (te := PV.can X.KW at_ W0 (relV X.KW) el) hc hN hy hyl (sw_true hk hyl hl ha) p1 ok (fun s H C cl fp => (hg s H C cl fp).can) (fun s H C cl fp => (ht s H C cl fp).can) (fun s H C cl fp => (he s H C cl fp).can) hs), ?_⟩⟩
  have core : Snd X.KW at_ W (relF X.KW) (tLc wi (canG X.KW g gv) (PV.can X.KW at_ W0 relB t) (PV.can X.KW at_ W0 (relV X.KW) el) (own.map (·.2))) (lLc la (own.map (·.2)) g t el) := lc_snd q1 (fun f n h H S σ d v S' h' e r z Q k => (⟨f, n, h, S, d, S', h', e, r, z, k⟩ : canG X.KW g gv v σ H Q)) TgOk.no hw can_snd can_snd
  intro f h H S σ M e D P
  refine core f h H S σ M e _ ?_
  unfold sSet eZ at P
  cases z : lLc la (own.map (·.2)) g t el S h with
  | bad => rw [z] at P; exact P
  | exc c fs h1 =>
    rw [z] at P
    exact fun f1 H1 cls dx E1 M1 x => P f1 H1 σ cls dx E1 M1 (e.ext M E1) x
  | ok ds h1 =>
    rw [z] at P
    intro f1 H1 v E1 M1 r1
    obtain ⟨q, vs, rfl, h0, hq, hn, rv⟩ := r1
    refine .inr ⟨q, _, hq, trivial, fun o => ?_⟩
    have M2 := M1.off1 (u := .frz o (.lst vs)) hq (fun z => z) hn
    refine P _ _ _ (E1.side h0) M2 ?_
    have e1 := e.ext M (E1.side (u := .frz o (.lst vs)) h0)
    exact e1.set (.fz upd_same (rv.keep (Nat.le_refl _) (fun _ _ => rfl) (fix_off hq fun z => z)))
end
section
variable {P : Program} {w : World} {K : Frag} {mg : Str → Option Value} {base : Heap} {N : List Str} {qual : Str} {sc : Scope} {g : Addr} {cdv : Value} {A : Around} {outer : List Env} {s : Shared} {H : Hp} {E : XK}
theorem tk_def : Takes (cxOf (L2.CX P w) P w K mg base N qual sc g cdv A outer s H E) (WE0 E) := takes_of rfl rfl rfl rfl
theorem hp_def : PassesOwn (model (cxOf (L2.CX P w) P w K mg base N qual sc g cdv A outer s H E).prog (cxOf (L2.CX P w) P w K mg base N qual sc g cdv A outer s H E).w) (cxOf (L2.CX P w) P w K mg base N qual sc g cdv A outer s H E).A (cxOf (L2.CX P w) P w K mg base N qual sc g cdv A outer s H E).env (cxOf (L2.CX P w) P w K mg base N qual sc g cdv A outer s H E).xe := passes_of rfl
theorem glT_of {x : Str} {a : Addr} {od : Option Addr} {its : Array Value} {n : Nat} {sl : Array (Option Value)} {ns : List Int} (e : mg x = some (.ref a)) (h : K.lookup a = some ⟨.type "tuple", od, .seq its n, sl⟩) (v : Vals (ns.map V.int) its.toList) (hl : ns.length ≤ sizeLine) : GlT K mg x ns := by
  refine ⟨a, _, its, n, e, h, rfl, rfl, ?_, v⟩
  have := v.length
  rw [List.length_map] at this
  rw [← Array.length_toList, ← this]
  exact hl
theorem cs_nil {P : Nat → Prop} : ∀ c, ([] : List Nat).contains c = true → P c := fun c h => by simp at h
theorem cs_cons {P : Nat → Prop} {a : Nat} {l : List Nat} (h : P a) (t : ∀ c, l.contains c = true → P c) : ∀ c, (a :: l).contains c = true → P c := fun c hc => by
  rw [List.contains_cons, Bool.or_eq_true] at hc
  rcases hc with z | z
  · rw [beq_iff_eq] at z; subst z; exact h
  · exact t c z
theorem isi_mk {cs : List Nat} {t : Tk} {b1 b2 b3 b4 b5 b6 b7 : Bool} (h1 : PySem.W.kitOne K (.type "NoneType") t.v = some b1) (h2 : PySem.W.kitOne K (.type "bool") t.v = some b2) (h3 : PySem.W.kitOne K (.type "int") t.v = some b3) (h4 : PySem.W.kitOne K (.type "str") t.v = some b4)
    (h5 : PySem.W.kitOne K (.type "tuple") t.v = some b5) (h6 : PySem.W.kitOne K (.type "list") t.v = some b6) (h7 : PySem.W.kitOne K (.type "dict") t.v = some b7) (e : [b1, b2, b3, b4, b5, b6, b7] = builtTypes.map fun a => tkIs t (.bi a))
    (own : ∀ c, cs.contains c = true → ClsI K c ∧ PySem.W.kitOne K (.ref c) t.v = some (tkIs t (.own c))) : IsiOk K cs t := by
  refine ⟨fun a ha => ?_, own⟩
  simp only [builtTypes, List.map_cons, List.map_nil, List.cons.injEq, and_true] at e
  obtain ⟨e1, e2, e3, e4, e5, e6, e7⟩ := e
  simp only [builtTypes, List.mem_cons, List.not_mem_nil, or_false] at ha
  rcases ha with rfl | rfl | rfl | rfl | rfl | rfl | rfl
  · rw [← e1]; exact h1
  · rw [← e2]; exact h2
  · rw [← e3]; exact h3
  · rw [← e4]; exact h4
  · rw [← e5]; exact h5
  · rw [← e6]; exact h6
  · rw [← e7]; exact h7
end
/-- a class with its own __eq__ -/
structure EqG (K : Frag) (C : Nat) : Prop where
  cl : Cls K C
  ne : PySem.W.findIn K (.ref C) "__ne__" = some (some (.builtin "object.__ne__"))
  mro : PySem.W.mroIn K C (.type "object") = some true
theorem o2_neG {X : Cx} {at_ : Cl} {k : Nat} {C : Nat} {ps : List Str} {F : List D → Hh → R D} (hat : ∀ c, at_ c = c) (ec : EqG X.K C) (G : FnM X.prog X.w X.K X.mg X.base at_ k C "__eq__" ps F) (hr : Rm X (k + 1)) : O2 X at_ (compareOp .NotEq) (neOwn C F) := by
  obtain ⟨g, a, b⟩ := G
  exact o2_neOwn hat ⟨ec.cl, a.at_, a.fn, ec.ne, ec.mro⟩ b hr
def relNm (k : ScopeKind) (ns : List (Str × NameKind)) (y : Str × NameKind) : Str × NameKind := if (y.2 == .free && k == .function && ns.lookup y.1 == some .cell) = true then (y.1, .cell) else (y.1, y.2)
theorem relabel_names (scope : Scope) (env : Env) : (relabel scope env).names = scope.names.map (relNm env.scope.kind env.scope.names) := rfl
theorem relabel_kind (scope : Scope) (env : Env) : (relabel scope env).kind = scope.kind := rfl
end PV
set_option Elab.async false
set_option linter.all false
set_option autoImplicit false
set_option maxRecDepth 100000
set_option maxHeartbeats 2000000
/-! PW: what a mirror comes to, in plain words. -/
namespace PV
open PySem (Str PyData)
/-! ### all goes well, and then -/
/-- so that a continuation stays as it is until its value comes -/
structure Dum {α : Sort _} (a : α) : Type where
structure R.wp {α : Type} (r : R α) (Q : α → Hh → Prop) (_ : Dum Q := .mk) : Prop where
  gets : match r with
    | .ok a h => Q a h
    | _ => False
structure RS.wp (r : RS) (nx : Sg → Hh → Prop) (rt : D → Hh → Prop) (_ : Dum nx := .mk) (_ : Dum rt := .mk) : Prop where
  gets : match r with
    | .nx S h => nx S h
    | .rt d h => rt d h
    | _ => False
section
variable {α β : Type} {Q : α → Hh → Prop} {Q2 : β → Hh → Prop} {nx : Sg → Hh → Prop} {rt : D → Hh → Prop}
@[simp ↓] theorem wp_ok (a : α) (h : Hh) : (R.ok a h).wp Q = Q a h := propext ⟨fun w => w.gets, fun w => ⟨w⟩⟩
@[simp ↓] theorem wp_bad : (R.bad : R α).wp Q = False := propext ⟨fun w => w.gets, fun w => ⟨w⟩⟩
@[simp ↓] theorem wp_exc (c : Nat) (fs : List (String × D)) (h : Hh) : (R.exc c fs h : R α).wp Q = False := propext ⟨fun w => w.gets, fun w => ⟨w⟩⟩
@[simp ↓] theorem wp_bind (r : R α) (k : α → Hh → R β) : (r.bind k).wp Q2 = r.wp fun a h => (k a h).wp Q2 := by
  cases r
  · rw [wp_ok]; rfl
  · rw [wp_exc]; exact wp_exc _ _ _
  · rw [wp_bad]; exact wp_bad
@[simp ↓] theorem wp_ite (c : Prop) [Decidable c] (a b : R α) : (if c then a else b).wp Q = if c then a.wp Q else b.wp Q := by split <;> rfl
@[simp ↓] theorem wps_ite (c : Prop) [Decidable c] (a b : RS) : (if c then a else b).wp nx rt = if c then a.wp nx rt else b.wp nx rt := by split <;> rfl
@[simp ↓] theorem wps_nx (S : Sg) (h : Hh) : (RS.nx S h).wp nx rt = nx S h := propext ⟨fun w => w.gets, fun w => ⟨w⟩⟩
@[simp ↓] theorem wps_rt (d : D) (h : Hh) : (RS.rt d h).wp nx rt = rt d h := propext ⟨fun w => w.gets, fun w => ⟨w⟩⟩
@[simp ↓] theorem wps_bad : RS.bad.wp nx rt = False := propext ⟨fun w => w.gets, fun w => ⟨w⟩⟩
@[simp ↓] theorem wps_exc (c : Nat) (fs : List (String × D)) (S : Sg) (h : Hh) : (RS.exc c fs S h).wp nx rt = False := propext ⟨fun w => w.gets, fun w => ⟨w⟩⟩
@[simp ↓] theorem wps_bind (r : RS) (k : Sg → Hh → RS) : (r.bind k).wp nx rt = r.wp (fun S h => (k S h).wp nx rt) rt := by
  cases r
  · rw [wps_nx]; rfl
  · rw [wps_rt]; exact wps_rt _ _
  · rw [wps_exc]; exact wps_exc _ _ _ _
  · rw [wps_bad]; exact wps_bad
@[simp ↓] theorem wps_into (r : R α) (S : Sg) (k : α → Hh → RS) : (r.into S k).wp nx rt = r.wp fun a h => (k a h).wp nx rt := by
  cases r
  · rw [wp_ok]; rfl
  · rw [wp_exc]; exact wps_exc _ _ _ _
  · rw [wp_bad]; exact wps_bad
theorem wp_runB (m : St) (S : Sg) (h : Hh) : (runB m S h).wp rt = (m S h).wp (fun _ h' => rt .non h') rt := by
  unfold runB
  cases m S h
  · rw [wps_nx]; exact wp_ok _ _
  · rw [wps_rt]; exact wp_ok _ _
  · rw [wps_exc]; exact wp_exc _ _ _
  · rw [wps_bad]; exact wp_bad
theorem wp_calm (r : R α) : r.calm.wp Q = r.wp Q := by
  cases r
  · rfl
  · rw [wp_exc]; exact wp_bad
  · rfl
theorem R.wp_mono {r : R α} {Q' : α → Hh → Prop} (w : r.wp Q) (h : ∀ a h, Q a h → Q' a h) : r.wp Q' := by
  cases r with
  | ok a h1 => rw [wp_ok] at w ⊢; exact h a h1 w
  | exc c fs h1 => rw [wp_exc] at w; exact False.elim w
  | bad => rw [wp_bad] at w; exact False.elim w
theorem wp_ext {r : R α} {Q' : α → Hh → Prop} (e : ∀ a h, Q a h = Q' a h) : r.wp Q = r.wp Q' := by
  cases r with
  | ok a h1 => rw [wp_ok, wp_ok]; exact e a h1
  | exc c fs h1 => rw [wp_exc, wp_exc]
  | bad => rw [wp_bad, wp_bad]
theorem R.wp_ex {r : R α} (w : r.wp Q) : ∃ a h, r = .ok a h ∧ Q a h := by
  cases r with
  | ok a h1 => rw [wp_ok] at w; exact ⟨a, h1, rfl, w⟩
  | exc c fs h1 => rw [wp_exc] at w; exact False.elim w
  | bad => rw [wp_bad] at w; exact False.elim w
theorem RS.wp_mono {r : RS} {nx' : Sg → Hh → Prop} {rt' : D → Hh → Prop} (w : r.wp nx rt) (h1 : ∀ S h, nx S h → nx' S h) (h2 : ∀ d h, rt d h → rt' d h) : r.wp nx' rt' := by
  cases r with
  | nx S h => rw [wps_nx] at w ⊢; exact h1 S h w
  | rt d h => rw [wps_rt] at w ⊢; exact h2 d h w
  | exc c fs S h => rw [wps_exc] at w; exact False.elim w
  | bad => rw [wps_bad] at w; exact False.elim w
end
/-! ### the constructs, applied -/
section
variable (S : Sg) (h : Hh) {Q : D → Hh → Prop} {QL : List D → Hh → Prop} {QB : Bool → Hh → Prop} {QV : Lv → Hh → Prop} {QK : List (D × D) → Hh → Prop} {QO : Option Int → Hh → Prop} {QU : Unit → Hh → Prop} {nx : Sg → Hh → Prop} {rt : D → Hh → Prop}
def getV (o : Option (Option D)) (h : Hh) : R D := match o with
  | some (some d) => .ok d h
  | _ => .bad
@[simp] theorem getV_some (d : D) : getV (some (some d)) h = .ok d h := Eq.trans rfl rfl
@[simp ↓] theorem eC_ap (d : D) : (eC d S h).wp Q = Q d h := wp_ok _ _
@[simp ↓] theorem eV_ap (i : Nat) : (eV i S h).wp Q = (getV S[i]? h).wp Q := Eq.trans rfl rfl
@[simp ↓] theorem e1_ap (f : D → Hh → R D) (a : Ex) : (e1 f a S h).wp Q = (a S h).wp fun x h1 => (f x h1).wp Q := by unfold e1; rw [wp_bind]
@[simp ↓] theorem e2_ap (f : D → D → Hh → R D) (a b : Ex) : (e2 f a b S h).wp Q = (a S h).wp fun x h1 => (b S h1).wp fun y h2 => (f x y h2).wp Q := by unfold e2; repeat' first | rfl | (refine wp_ext fun _ _ => ?_) | (simp only [wp_bind, wp_ite, wp_ok, wp_bad, wps_into, wps_ite, wps_nx, wps_bad, wps_rt, wps_bind])
@[simp ↓] theorem aN_ap : (aN S h).wp QL = QL [] h := wp_ok _ _
@[simp ↓] theorem aC_ap (a : Ex) (r : As) : (aC a r S h).wp QL = (a S h).wp fun x h1 => (r S h1).wp fun xs h2 => QL (x :: xs) h2 := by unfold aC; repeat' first | rfl | (refine wp_ext fun _ _ => ?_) | (simp only [wp_bind, wp_ite, wp_ok, wp_bad, wps_into, wps_ite, wps_nx, wps_bad, wps_rt, wps_bind])
@[simp ↓] theorem eF_ap (F : List D → Hh → R D) (a : As) : (eF F a S h).wp Q = (a S h).wp fun xs h1 => (F xs h1).wp Q := by unfold eF; repeat' first | rfl | (refine wp_ext fun _ _ => ?_) | (simp only [wp_bind, wp_ite, wp_ok, wp_bad, wps_into, wps_ite, wps_nx, wps_bad, wps_rt, wps_bind])
@[simp ↓] theorem eTup_ap (a : As) : (eTup a S h).wp Q = (a S h).wp fun xs h1 => xs.length ≤ big ∧ Q (.tup xs) h1 := by
  unfold eTup
  rw [wp_bind]
  refine wp_ext fun xs h1 => ?_
  by_cases c : xs.length ≤ big
  · rw [if_pos c]; simp [c]
  · rw [if_neg c]; simp [c]
@[simp ↓] theorem eIf_ap (c : Tt) (a b : Ex) : (eIf c a b S h).wp Q = (c S h).wp fun k h1 => if k = true then (a S h1).wp Q else (b S h1).wp Q := by unfold eIf; repeat' first | rfl | (refine wp_ext fun _ _ => ?_) | (simp only [wp_bind, wp_ite, wp_ok, wp_bad, wps_into, wps_ite, wps_nx, wps_bad, wps_rt, wps_bind])
@[simp] theorem isB_bl (b : Bool) : isB (.bl b) h = .ok b h := Eq.trans rfl rfl
@[simp ↓] theorem tV_ap (a : Ex) : (tV a S h).wp QB = (a S h).wp fun x h1 => (isB x h1).wp QB := by unfold tV; repeat' first | rfl | (refine wp_ext fun _ _ => ?_) | (simp only [wp_bind, wp_ite, wp_ok, wp_bad, wps_into, wps_ite, wps_nx, wps_bad, wps_rt, wps_bind])
@[simp ↓] theorem tAnd_ap (a b : Tt) : (tAnd a b S h).wp QB = (a S h).wp fun k h1 => if k = true then (b S h1).wp QB else QB false h1 := by unfold tAnd; repeat' first | rfl | (refine wp_ext fun _ _ => ?_) | (simp only [wp_bind, wp_ite, wp_ok, wp_bad, wps_into, wps_ite, wps_nx, wps_bad, wps_rt, wps_bind])
@[simp ↓] theorem tOr_ap (a b : Tt) : (tOr a b S h).wp QB = (a S h).wp fun k h1 => if k = true then QB true h1 else (b S h1).wp QB := by unfold tOr; repeat' first | rfl | (refine wp_ext fun _ _ => ?_) | (simp only [wp_bind, wp_ite, wp_ok, wp_bad, wps_into, wps_ite, wps_nx, wps_bad, wps_rt, wps_bind])
@[simp ↓] theorem tNot_ap (a : Tt) : (tNot a S h).wp QB = (a S h).wp fun k h1 => QB (!k) h1 := by unfold tNot; repeat' first | rfl | (refine wp_ext fun _ _ => ?_) | (simp only [wp_bind, wp_ite, wp_ok, wp_bad, wps_into, wps_ite, wps_nx, wps_bad, wps_rt, wps_bind])
@[simp ↓] theorem tY_ap : (tY S h).wp QB = QB true h := wp_ok _ _
@[simp ↓] theorem eAnd_ap (a b : Ex) : (eAnd a b S h).wp Q = (a S h).wp fun x h1 => (isB x h1).wp fun k h2 => if k = true then (b S h2).wp Q else Q (.bl false) h2 := by unfold eAnd; repeat' first | rfl | (refine wp_ext fun _ _ => ?_) | (simp only [wp_bind, wp_ite, wp_ok, wp_bad, wps_into, wps_ite, wps_nx, wps_bad, wps_rt, wps_bind])
@[simp ↓] theorem eOr_ap (a b : Ex) : (eOr a b S h).wp Q = (a S h).wp fun x h1 => (isB x h1).wp fun k h2 => if k = true then Q (.bl true) h2 else (b S h2).wp Q := by unfold eOr; repeat' first | rfl | (refine wp_ext fun _ _ => ?_) | (simp only [wp_bind, wp_ite, wp_ok, wp_bad, wps_into, wps_ite, wps_nx, wps_bad, wps_rt, wps_bind])
@[simp ↓] theorem eNot_ap (a : Ex) : (eNot a S h).wp Q = (a S h).wp fun x h1 => (isB x h1).wp fun k h2 => Q (.bl (!k)) h2 := by unfold eNot; repeat' first | rfl | (refine wp_ext fun _ _ => ?_) | (simp only [wp_bind, wp_ite, wp_ok, wp_bad, wps_into, wps_ite, wps_nx, wps_bad, wps_rt, wps_bind])
@[simp ↓] theorem eCh_ap (f g : D → D → Hh → R D) (a b c : Ex) : (eCh f g a b c S h).wp Q = (a S h).wp fun x h1 => (b S h1).wp fun y h2 => (f x y h2).wp fun z h3 =>
  (isB z h3).wp fun k h4 => if k = true then (c S h4).wp fun w h5 => (g y w h5).wp Q else Q (.bl false) h4 := by unfold eCh; repeat' first | rfl | (refine wp_ext fun _ _ => ?_) | (simp only [wp_bind, wp_ite, wp_ok, wp_bad, wps_into, wps_ite, wps_nx, wps_bad, wps_rt, wps_bind])
@[simp ↓] theorem sNil_ap : (sNil S h).wp nx rt = nx S h := wps_nx _ _
@[simp ↓] theorem sBad_ap : (sBad S h).wp nx rt = False := wps_bad
@[simp ↓] theorem sSeq_ap (a b : St) : (sSeq a b S h).wp nx rt = (a S h).wp (fun S h => (b S h).wp nx rt) rt := by unfold sSeq; repeat' first | rfl | (refine wp_ext fun _ _ => ?_) | (simp only [wp_bind, wp_ite, wp_ok, wp_bad, wps_into, wps_ite, wps_nx, wps_bad, wps_rt, wps_bind])
@[simp ↓] theorem sRet_ap (a : Ex) : (sRet a S h).wp nx rt = (a S h).wp rt := by unfold sRet; repeat' first | rfl | (refine wp_ext fun _ _ => ?_) | (simp only [wp_bind, wp_ite, wp_ok, wp_bad, wps_into, wps_ite, wps_nx, wps_bad, wps_rt, wps_bind])
@[simp ↓] theorem sRetN_ap : (sRetN S h).wp nx rt = rt .non h := wps_rt _ _
@[simp ↓] theorem sIf_ap (c : Tt) (a b : St) : (sIf c a b S h).wp nx rt = (c S h).wp fun k h1 => if k = true then (a S h1).wp nx rt else (b S h1).wp nx rt := by unfold sIf; repeat' first | rfl | (refine wp_ext fun _ _ => ?_) | (simp only [wp_bind, wp_ite, wp_ok, wp_bad, wps_into, wps_ite, wps_nx, wps_bad, wps_rt, wps_bind])
@[simp ↓] theorem sSet_ap (i : Nat) (a : Ex) : (sSet i a S h).wp nx rt = (a S h).wp fun d h1 => nx (S.set i (some d)) h1 := by unfold sSet; repeat' first | rfl | (refine wp_ext fun _ _ => ?_) | (simp only [wp_bind, wp_ite, wp_ok, wp_bad, wps_into, wps_ite, wps_nx, wps_bad, wps_rt, wps_bind])
@[simp ↓] theorem sDrop_ap (a : Ex) : (sDrop a S h).wp nx rt = (a S h).wp fun _ h1 => nx S h1 := by unfold sDrop; repeat' first | rfl | (refine wp_ext fun _ _ => ?_) | (simp only [wp_bind, wp_ite, wp_ok, wp_bad, wps_into, wps_ite, wps_nx, wps_bad, wps_rt, wps_bind])
@[simp ↓] theorem gV_ap (i : Nat) (d : D) : (gV i d S h).wp nx rt = nx (S.set i (some d)) h := wps_nx _ _
@[simp ↓] theorem gN_ap : (gN [] S h).wp nx rt = nx S h := wps_nx _ _
@[simp ↓] theorem gC_ap (t : Tg) (r : Tgs) (x : D) (xs : List D) : (gC t r (x :: xs) S h).wp nx rt = (t x S h).wp (fun S1 h1 => (r xs S1 h1).wp nx rt) rt := by rw [gC_eq]; repeat' first | rfl | (refine wp_ext fun _ _ => ?_) | (simp only [wp_bind, wp_ite, wp_ok, wp_bad, wps_into, wps_ite, wps_nx, wps_bad, wps_rt, wps_bind])
@[simp ↓] theorem gT_ap (n : Nat) (r : Tgs) (xs : List D) : (gT n r (.tup xs) S h).wp nx rt = if xs.length = n then (r xs S h).wp nx rt else False := by rw [gT_eq]; repeat' first | rfl | (refine wp_ext fun _ _ => ?_) | (simp only [wp_bind, wp_ite, wp_ok, wp_bad, wps_into, wps_ite, wps_nx, wps_bad, wps_rt, wps_bind])
@[simp ↓] theorem sAsg_ap (a : Ex) (t : Tg) : (sAsg a t S h).wp nx rt = (a S h).wp fun d h1 => (t d S h1).wp nx rt := by unfold sAsg; repeat' first | rfl | (refine wp_ext fun _ _ => ?_) | (simp only [wp_bind, wp_ite, wp_ok, wp_bad, wps_into, wps_ite, wps_nx, wps_bad, wps_rt, wps_bind])
@[simp ↓] theorem sPar_ap (i j : Nat) (a b : Ex) : (sPar i j a b S h).wp nx rt = (a S h).wp fun x h1 => (b S h1).wp fun y h2 => nx ((S.set i (some x)).set j (some y)) h2 := by unfold sPar; repeat' first | rfl | (refine wp_ext fun _ _ => ?_) | (simp only [wp_bind, wp_ite, wp_ok, wp_bad, wps_into, wps_ite, wps_nx, wps_bad, wps_rt, wps_bind])
@[simp ↓] theorem sSub_ap (f : D → D → D → Hh → R Unit) (o i v : Ex) : (sSub f o i v S h).wp nx rt = (v S h).wp fun z h1 => (o S h1).wp fun x h2 => (i S h2).wp fun y h3 => (f x y z h3).wp fun _ h4 => nx S h4 := by unfold sSub; repeat' first | rfl | (refine wp_ext fun _ _ => ?_) | (simp only [wp_bind, wp_ite, wp_ok, wp_bad, wps_into, wps_ite, wps_nx, wps_bad, wps_rt, wps_bind])
@[simp ↓] theorem lE_ap (a : Ex) : (lE a S h).wp QV = (a S h).wp fun d h1 => (itD d h1).wp QV := by unfold lE; repeat' first | rfl | (refine wp_ext fun _ _ => ?_) | (simp only [wp_bind, wp_ite, wp_ok, wp_bad, wps_into, wps_ite, wps_nx, wps_bad, wps_rt, wps_bind])
@[simp ↓] theorem lD_ap (a : As) : (lD a S h).wp QL = (a S h).wp fun xs h1 => xs.length ≤ big ∧ QL xs h1 := by
  unfold lD
  rw [wp_bind]
  refine wp_ext fun xs h1 => ?_
  by_cases c : xs.length ≤ big
  · rw [if_pos c]; simp [c]
  · rw [if_neg c]; simp [c]
@[simp ↓] theorem lF_ap (l : As) : (lF l S h).wp QV = (l S h).wp fun ds h1 => QV (ds, []) h1 := by unfold lF; repeat' first | rfl | (refine wp_ext fun _ _ => ?_) | (simp only [wp_bind, wp_ite, wp_ok, wp_bad, wps_into, wps_ite, wps_nx, wps_bad, wps_rt, wps_bind])
@[simp ↓] theorem eL_ap (l : As) : (eL l S h).wp Q = (l S h).wp fun ds h1 => Q (.ref h1.length) (h1 ++ [.lst ds]) := by unfold eL; repeat' first | rfl | (refine wp_ext fun _ _ => ?_) | (simp only [wp_bind, wp_ite, wp_ok, wp_bad, wps_into, wps_ite, wps_nx, wps_bad, wps_rt, wps_bind])
@[simp ↓] theorem eZ_ap (l : As) : (eZ l S h).wp Q = (l S h).wp fun ds h1 => Q (.fz ds) h1 := by unfold eZ; repeat' first | rfl | (refine wp_ext fun _ _ => ?_) | (simp only [wp_bind, wp_ite, wp_ok, wp_bad, wps_into, wps_ite, wps_nx, wps_bad, wps_rt, wps_bind])
@[simp ↓] theorem eU_ap (F : List D → Hh → R D) (l : Ls) : (eU F l S h).wp Q = (l S h).wp fun p h1 => (F p.1 h1).wp Q := by unfold eU; repeat' first | rfl | (refine wp_ext fun _ _ => ?_) | (simp only [wp_bind, wp_ite, wp_ok, wp_bad, wps_into, wps_ite, wps_nx, wps_bad, wps_rt, wps_bind])
@[simp ↓] theorem eUF_ap (F : List D → Hh → R D) (l : As) : (eUF F l S h).wp Q = (l S h).wp fun p h1 => (F p h1).wp Q := by unfold eUF; repeat' first | rfl | (refine wp_ext fun _ _ => ?_) | (simp only [wp_bind, wp_ite, wp_ok, wp_bad, wps_into, wps_ite, wps_nx, wps_bad, wps_rt, wps_bind])
@[simp ↓] theorem eDL_ap (l : Ad) : (eDL l S h).wp Q = (l S h).wp fun kvs h1 => Q (.ref h1.length) (h1 ++ [.dic kvs]) := by unfold eDL; repeat' first | rfl | (refine wp_ext fun _ _ => ?_) | (simp only [wp_bind, wp_ite, wp_ok, wp_bad, wps_into, wps_ite, wps_nx, wps_bad, wps_rt, wps_bind])
@[simp ↓] theorem eDZ_ap (l : Ad) : (eDZ l S h).wp Q = (l S h).wp fun kvs h1 => Q (.fd (kvs.map (·.1)) (kvs.map (·.2))) h1 := by unfold eDZ; repeat' first | rfl | (refine wp_ext fun _ _ => ?_) | (simp only [wp_bind, wp_ite, wp_ok, wp_bad, wps_into, wps_ite, wps_nx, wps_bad, wps_rt, wps_bind])
@[simp ↓] theorem aD0_ap : (aD0 S h).wp QK = QK [] h := wp_ok _ _
@[simp ↓] theorem oN_ap : (oN S h).wp QO = QO none h := wp_ok _ _
@[simp] theorem itD_tup (xs : List D) : itD (.tup xs) h = .ok (xs, []) h := Eq.trans rfl rfl
@[simp] theorem itD_fz (xs : List D) : itD (.fz xs) h = .ok (xs, []) h := Eq.trans rfl rfl
def oI (d : D) (h : Hh) : R (Option Int) := match d with
  | .int i => .ok (some i) h
  | _ => .bad
@[simp] theorem oI_int (i : Int) : oI (.int i) h = .ok (some i) h := Eq.trans rfl rfl
@[simp ↓] theorem oS_ap (a : Ex) : (oS a S h).wp QO = (a S h).wp fun d h1 => (oI d h1).wp QO := by
  show ((a S h).bind oI).wp QO = _
  repeat' first | rfl | (refine wp_ext fun _ _ => ?_) | (simp only [wp_bind, wp_ite, wp_ok, wp_bad, wps_into, wps_ite, wps_nx, wps_bad, wps_rt, wps_bind])
def cutD (d : D) (l u : Option Int) (h3 : Hh) : R D := match d with
  | .tup xs => .ok (.tup (cut xs l u)) h3
  | .str z => if z.length ≤ big then .ok (.str (L2.cutS z l u)) h3 else .bad
  | .fz xs => .ok (.fz (cut xs l u)) h3
  | .ref k => match h3[k]? with
    | some (.lst xs) => .ok (.fz (cut xs l u)) h3
    | _ => .bad
  | _ => .bad
@[simp] theorem cutD_tup (xs : List D) (l u : Option Int) : cutD (.tup xs) l u h = .ok (.tup (cut xs l u)) h := Eq.trans rfl rfl
@[simp] theorem cutD_fz (xs : List D) (l u : Option Int) : cutD (.fz xs) l u h = .ok (.fz (cut xs l u)) h := Eq.trans rfl rfl
@[simp ↓] theorem eSl_ap (a : Ex) (lo hi : Os) : (eSl a lo hi S h).wp Q = (a S h).wp fun d h1 => (lo S h1).wp fun l h2 => (hi S h2).wp fun u h3 => (cutD d l u h3).wp Q := by
  show ((a S h).bind fun d h1 => (lo S h1).bind fun l h2 => (hi S h2).bind fun u h3 => cutD d l u h3).wp Q = _
  repeat' first | rfl | (refine wp_ext fun _ _ => ?_) | (simp only [wp_bind, wp_ite, wp_ok, wp_bad, wps_into, wps_ite, wps_nx, wps_bad, wps_rt, wps_bind])
@[simp ↓] theorem lEn_ap (l : Ls) : (lEn l S h).wp QV = (l S h).wp fun p h1 => QV (enumL 0 p.1, p.2) h1 := by unfold lEn; repeat' first | rfl | (refine wp_ext fun _ _ => ?_) | (simp only [wp_bind, wp_ite, wp_ok, wp_bad, wps_into, wps_ite, wps_nx, wps_bad, wps_rt, wps_bind])
@[simp ↓] theorem eM_ap (T : String) (g : D → List D → Hh → R D) (o : Ex) (as : As) : (eM T g o as S h).wp Q = (o S h).wp fun d h1 => if tkOf h1 d = some (.bi T) then (as S h1).wp fun ds h2 => (g d ds h2).wp Q else False := by unfold eM; repeat' first | rfl | (refine wp_ext fun _ _ => ?_) | (simp only [wp_bind, wp_ite, wp_ok, wp_bad, wps_into, wps_ite, wps_nx, wps_bad, wps_rt, wps_bind])
def rng1 (d : D) (h : Hh) : R Lv := match d with
  | .int j => if -(2 ^ 62) ≤ j ∧ j < 2 ^ 62 then .ok ((List.range j.toNat).map fun i => D.int (i : Nat), []) h else .bad
  | _ => .bad
@[simp ↓] theorem lR1_ap (a : Ex) : (lR1 a S h).wp QV = (a S h).wp fun d h1 => (rng1 d h1).wp QV := by
  show ((a S h).bind rng1).wp QV = _
  repeat' first | rfl | (refine wp_ext fun _ _ => ?_) | (simp only [wp_bind, wp_ite, wp_ok, wp_bad, wps_into, wps_ite, wps_nx, wps_bad, wps_rt, wps_bind])
theorem rng1_nat (n : Nat) (hn : n < 2 ^ 62) : rng1 (.int n) h = .ok ((List.range n).map fun i => D.int (i : Nat), []) h := by
  unfold rng1
  dsimp only
  rw [if_pos ⟨by omega, by omega⟩]
  rfl
def rng2 (x y : D) (h : Hh) : R Lv := match x, y with
  | .int i, .int j => if (-(2 ^ 62) ≤ i ∧ i < 2 ^ 62) ∧ -(2 ^ 62) ≤ j ∧ j < 2 ^ 62 then .ok ((List.range (j - i).toNat).map fun t => D.int (i + (t : Nat)), []) h else .bad
  | _, _ => .bad
@[simp ↓] theorem lR2_ap (a b : Ex) : (lR2 a b S h).wp QV = (a S h).wp fun x h1 => (b S h1).wp fun y h2 => (rng2 x y h2).wp QV := by
  show ((a S h).bind fun x h1 => (b S h1).bind fun y h2 => rng2 x y h2).wp QV = _
  repeat' first | rfl | (refine wp_ext fun _ _ => ?_) | (simp only [wp_bind, wp_ite, wp_ok, wp_bad, wps_into, wps_ite, wps_nx, wps_bad, wps_rt, wps_bind])
open Classical in
theorem lZip_ap (l m : Ls) : (lZip l m S h).wp QV = (l S h).wp fun p h1 => (m S h1).wp fun q h2 => still p.2 h2 ∧ QV (zipL p.1 q.1, p.2 ++ q.2) h2 := by
  unfold lZip
  rw [wp_bind]
  refine wp_ext fun p h1 => ?_
  rw [wp_bind]
  refine wp_ext fun q h2 => ?_
  by_cases c : still p.2 h2
  · rw [if_pos c]; simp [c]
  · rw [if_neg c]; simp [c]
/-! ### operators -/
@[simp] theorem addD_int (i j : Int) : addD (.int i) (.int j) h = .ok (.int (i + j)) h := Eq.trans rfl rfl
@[simp] theorem addD_tup (a b : List D) : addD (.tup a) (.tup b) h = if a.length + b.length ≤ big then .ok (.tup (a ++ b)) h else .bad := Eq.trans rfl rfl
@[simp] theorem addD_fz (a b : List D) : addD (.fz a) (.fz b) h = if a.length + b.length ≤ big then .ok (.fz (a ++ b)) h else .bad := Eq.trans rfl rfl
@[simp] theorem subD_int (i j : Int) : subD (.int i) (.int j) h = .ok (.int (i - j)) h := Eq.trans rfl rfl
@[simp] theorem mulD_l {i j : Int} (c : -(2 ^ 64) < i ∧ i < 2 ^ 64) : mulD (.int i) (.int j) h = .ok (.int (i * j)) h := if_pos (.inl c)
@[simp] theorem mulD_r {i j : Int} (c : -(2 ^ 64) < j ∧ j < 2 ^ 64) : mulD (.int i) (.int j) h = .ok (.int (i * j)) h := if_pos (.inr c)
@[simp] theorem fdivD_ok {i j : Int} (c : 0 < j ∧ j < 1073741824) : fdivD (.int i) (.int j) h = .ok (.int (i / j)) h := if_pos c
@[simp] theorem modD_ok {i j : Int} (c : 0 < j) : modD (.int i) (.int j) h = .ok (.int (i % j)) h := if_pos c
@[simp] theorem powD_ok {i j : Int} (c : 0 ≤ j ∧ j ≤ 1000000 ∧ i.natAbs < 2 ^ 64) : powD (.int i) (.int j) h = .ok (.int (i ^ j.toNat)) h := if_pos c
theorem eqv_int (i j : Int) : PySem.PyData.eqv (.int i) (.int j) = decide (i = j) := rfl
@[simp] theorem eqD_int (i j : Int) : eqD (.int i) (.int j) h = .ok (.bl (decide (i = j))) h := by
  unfold eqD pyH D.py
  dsimp only
  rw [if_pos ⟨rfl, rfl⟩, eqv_int]
@[simp] theorem neD_int (i j : Int) : neD (.int i) (.int j) h = .ok (.bl (!decide (i = j))) h := by
  unfold neD pyH D.py
  dsimp only
  rw [if_pos ⟨rfl, rfl⟩, eqv_int]
@[simp] theorem negD_int (i : Int) : negD (.int i) h = .ok (.int (-i)) h := Eq.trans rfl rfl
@[simp] theorem ltD_int (i j : Int) : ltD (.int i) (.int j) h = .ok (.bl (decide (i < j))) h := Eq.trans rfl rfl
@[simp] theorem leD_int (i j : Int) : leD (.int i) (.int j) h = .ok (.bl (decide (i ≤ j))) h := Eq.trans rfl rfl
@[simp] theorem gtD_int (i j : Int) : gtD (.int i) (.int j) h = .ok (.bl (decide (j < i))) h := Eq.trans rfl rfl
@[simp] theorem geD_int (i j : Int) : geD (.int i) (.int j) h = .ok (.bl (decide (j ≤ i))) h := Eq.trans rfl rfl
@[simp] theorem intD_int (i : Int) : intD [.int i] h = .ok (.int i) h := Eq.trans rfl rfl
@[simp] theorem intD_bl (b : Bool) : intD [.bl b] h = .ok (.int (if b = true then 1 else 0)) h := Eq.trans rfl rfl
@[simp] theorem absD_int (i : Int) : absD [.int i] h = .ok (.int (if i < 0 then -i else i)) h := Eq.trans rfl rfl
@[simp] theorem lenD_tup (xs : List D) : lenD [.tup xs] h = .ok (.int xs.length) h := Eq.trans rfl rfl
@[simp] theorem lenD_fz (xs : List D) : lenD [.fz xs] h = .ok (.int xs.length) h := Eq.trans rfl rfl
@[simp] theorem lenD_fd (ks vs : List D) : lenD [.fd ks vs] h = .ok (.int ks.length) h := Eq.trans rfl rfl
@[simp] theorem tupL_ap (xs : List D) : tupL xs h = .ok (.tup xs) h := Eq.trans rfl rfl
@[simp] theorem revD_tup (xs : List D) : revD (.tup xs) h = .ok (.tup xs.reverse) h := Eq.trans rfl rfl
@[simp] theorem revD_fz (xs : List D) : revD (.fz xs) h = .ok (.fz xs.reverse) h := Eq.trans rfl rfl
theorem ixN_nat {n i : Nat} (e : i < n) : L2.ixN n (i : Int) = some i := by
  unfold L2.ixN
  rw [if_pos (by omega), if_pos (by omega)]
  rfl
theorem atI_nat {xs : List D} {i : Nat} {d : D} (e : xs[i]? = some d) : L2.atI xs (i : Int) = some d := by
  unfold L2.atI
  rw [ixN_nat (List.getElem?_eq_some_iff.mp e).1]
  exact e
theorem ixA_tup {xs : List D} {i : Nat} {d : D} (e : xs[i]? = some d) : ixA (.tup xs) (.int i) h = .ok d h := by
  show (match L2.atI xs (i : Int) with | some d => R.ok d h | none => .bad) = _
  have : L2.atI xs (i : Int) = some d := by
    exact atI_nat e
  rw [this]
theorem ixA_fz {xs : List D} {i : Nat} {d : D} (e : xs[i]? = some d) : ixA (.fz xs) (.int i) h = .ok d h := by
  show (match L2.atI xs (i : Int) with | some d => R.ok d h | none => .bad) = _
  have : L2.atI xs (i : Int) = some d := by
    exact atI_nat e
  rw [this]
theorem ixA_ref {k : Nat} {xs : List D} {i : Nat} {d : D} (q : h[k]? = some (.lst xs)) (e : xs[i]? = some d) : ixA (.ref k) (.int i) h = .ok d h := by
  have : L2.atI xs (i : Int) = some d := by
    exact atI_nat e
  unfold ixA dicOf
  dsimp only
  rw [q]
  dsimp only
  unfold ixD
  dsimp only
  rw [q]
  dsimp only
  rw [this]
theorem setA_ref {k : Nat} {xs : List D} {i : Nat} {v : D} (q : h[k]? = some (.lst xs)) (e : i < xs.length) : setA (.ref k) (.int i) v h = .ok () (h.set k (.lst (xs.set i v))) := by
  have : L2.ixN xs.length (i : Int) = some i := by
    exact ixN_nat e
  unfold setA
  dsimp only
  rw [q]
  dsimp only
  unfold setD
  dsimp only
  rw [q]
  dsimp only
  rw [this]
theorem appD_ref {k : Nat} {xs : List D} {v : D} (q : h[k]? = some (.lst xs)) (e : xs.length < big) : appD (.ref k) [v] h = .ok .non (h.set k (.lst (xs ++ [v]))) := by
  unfold appD
  dsimp only
  rw [q]
  dsimp only
  rw [if_pos e]
end
/-! ### things of the heap -/
section
variable (h : Hh) (k : Nat)
def getI (xs : List D) (i : Int) (h : Hh) : R D := match L2.atI xs i with
  | some d => .ok d h
  | none => .bad
theorem getI_nat {xs : List D} {i : Nat} {d : D} (e : xs[i]? = some d) : getI xs (i : Int) h = .ok d h := by unfold getI; rw [atI_nat e]
@[simp] theorem getI_0 (x : D) (xs : List D) : getI (x :: xs) 0 h = .ok x h := getI_nat h (i := 0) rfl
@[simp] theorem getI_1 (x y : D) (xs : List D) : getI (x :: y :: xs) 1 h = .ok y h := getI_nat h (i := 1) rfl
@[simp] theorem getI_2 (x y z : D) (xs : List D) : getI (x :: y :: z :: xs) 2 h = .ok z h := getI_nat h (i := 2) rfl
@[simp] theorem getI_3 (x y z u : D) (xs : List D) : getI (x :: y :: z :: u :: xs) 3 h = .ok u h := getI_nat h (i := 3) rfl
@[simp] theorem getI_4 (x y z u v : D) (xs : List D) : getI (x :: y :: z :: u :: v :: xs) 4 h = .ok v h := getI_nat h (i := 4) rfl
def getD (kvs : List (D × D)) (y : D) (h : Hh) : R D := if fitK y kvs = true then match getK y kvs with
      | some v => .ok v h
      | none => .bad
    else .bad
def ixO (o : Option O) (y : D) (h : Hh) : R D := match o with
  | some (.lst xs) => match y with
    | .int i => getI xs i h
    | _ => .bad
  | some (.dic kvs) => getD kvs y h
  | _ => .bad
@[simp] theorem ixO_lst (xs : List D) (i : Int) : ixO (some (.lst xs)) (.int i) h = getI xs i h := Eq.trans rfl rfl
@[simp] theorem ixO_dic (kvs : List (D × D)) (y : D) : ixO (some (.dic kvs)) y h = getD kvs y h := Eq.trans rfl rfl
@[simp] theorem ixA_rf (y : D) : ixA (.ref k) y h = ixO h[k]? y h := by
  unfold ixA dicOf ixO getD
  dsimp only
  cases z : h[k]? with
  | none => cases y <;> simp only [ixD, z]
  | some o => cases o <;> cases y <;> simp only [ixD, z, getI] <;> rfl
@[simp] theorem ixA_tp (xs : List D) (i : Int) : ixA (.tup xs) (.int i) h = getI xs i h := Eq.trans rfl rfl
@[simp] theorem ixA_fr (xs : List D) (i : Int) : ixA (.fz xs) (.int i) h = getI xs i h := Eq.trans rfl rfl
@[simp] theorem ixA_fd (ks vs : List D) (y : D) : ixA (.fd ks vs) y h = getD (ks.zip vs) y h := Eq.trans rfl rfl
def putI (xs : List D) (i : Int) (v : D) (k : Nat) (h : Hh) : R Unit := match L2.ixN xs.length i with
  | some j => .ok () (h.set k (.lst (xs.set j v)))
  | none => .bad
theorem putI_nat {xs : List D} {i : Nat} {v : D} (e : i < xs.length) : putI xs (i : Int) v k h = .ok () (h.set k (.lst (xs.set i v))) := by unfold putI; rw [ixN_nat e]
@[simp] theorem putI_0 (x v : D) (xs : List D) : putI (x :: xs) 0 v k h = .ok () (h.set k (.lst (v :: xs))) := putI_nat h k (i := 0) (by simp)
@[simp] theorem putI_1 (x y v : D) (xs : List D) : putI (x :: y :: xs) 1 v k h = .ok () (h.set k (.lst (x :: v :: xs))) := putI_nat h k (i := 1) (by simp)
@[simp] theorem putI_2 (x y z v : D) (xs : List D) : putI (x :: y :: z :: xs) 2 v k h = .ok () (h.set k (.lst (x :: y :: v :: xs))) := putI_nat h k (i := 2) (by simp)
@[simp] theorem putI_3 (x y z u v : D) (xs : List D) : putI (x :: y :: z :: u :: xs) 3 v k h = .ok () (h.set k (.lst (x :: y :: z :: v :: xs))) := putI_nat h k (i := 3) (by simp)
@[simp] theorem putI_4 (x y z u t v : D) (xs : List D) : putI (x :: y :: z :: u :: t :: xs) 4 v k h = .ok () (h.set k (.lst (x :: y :: z :: u :: v :: xs))) := putI_nat h k (i := 4) (by simp)
def setO (o : Option O) (k : Nat) (i v : D) (h : Hh) : R Unit := match o with
  | some (.lst xs) => match i with
    | .int i => putI xs i v k h
    | _ => .bad
  | some (.dic kvs) => if fitK i kvs = true ∧ kvs.length < big then .ok () (h.set k (.dic (putK i v kvs))) else .bad
  | _ => .bad
@[simp] theorem setO_lst (xs : List D) (i : Int) (v : D) : setO (some (.lst xs)) k (.int i) v h = putI xs i v k h := Eq.trans rfl rfl
@[simp] theorem setO_dic (kvs : List (D × D)) (i v : D) : setO (some (.dic kvs)) k i v h = if fitK i kvs = true ∧ kvs.length < big then .ok () (h.set k (.dic (putK i v kvs))) else .bad := Eq.trans rfl rfl
@[simp] theorem setA_rf (i v : D) : setA (.ref k) i v h = setO h[k]? k i v h := by
  unfold setA setO
  dsimp only
  cases z : h[k]? with
  | none => cases i <;> simp only [setD, z]
  | some o => cases o <;> cases i <;> simp only [setD, z, putI] <;> rfl
def appO (o : Option O) (k : Nat) (v : D) (h : Hh) : R D := match o with
  | some (.lst xs) => if xs.length < big then .ok .non (h.set k (.lst (xs ++ [v]))) else .bad
  | _ => .bad
@[simp] theorem appO_lst (xs : List D) (v : D) : appO (some (.lst xs)) k v h = if xs.length < big then .ok .non (h.set k (.lst (xs ++ [v]))) else .bad := Eq.trans rfl rfl
@[simp] theorem appD_rf (v : D) : appD (.ref k) [v] h = appO h[k]? k v h := Eq.trans rfl rfl
def tkO (o : Option O) : Option Tk := match o with
  | some (.lst _) => some (.bi "list")
  | some (.dic _) => some (.bi "dict")
  | some (.ins c _) => some (.own c)
  | none => none
@[simp] theorem tkO_lst (xs : List D) : tkO (some (.lst xs)) = some (.bi "list") := Eq.trans rfl rfl
@[simp] theorem tkO_dic (xs : List (D × D)) : tkO (some (.dic xs)) = some (.bi "dict") := Eq.trans rfl rfl
@[simp] theorem tkO_ins (c : Nat) (fs : List (String × D)) : tkO (some (.ins c fs)) = some (.own c) := Eq.trans rfl rfl
@[simp] theorem tkOf_rf : tkOf h (.ref k) = tkO h[k]? := Eq.trans rfl rfl
def fldO (cs : List Nat) (g : String) (o : Option O) (h : Hh) : R D := match o with
  | some (.ins c fs) => if cs.contains c = true then match fs.lookup g with
      | some v => .ok v h
      | none => .bad
    else .bad
  | _ => .bad
@[simp] theorem fldO_ins (cs : List Nat) (g : String) (c : Nat) (fs : List (String × D)) : fldO cs g (some (.ins c fs)) h = if cs.contains c = true then match fs.lookup g with
      | some v => .ok v h
      | none => .bad
    else .bad := Eq.trans rfl rfl
@[simp] theorem fldD_rf (cs : List Nat) (g : String) : fldD cs g (.ref k) h = fldO cs g h[k]? h := Eq.trans rfl rfl
@[simp] theorem fldD_fi (cs : List Nat) (g : String) (c : Nat) (ns : List String) (vs : List D) : fldD cs g (.fi c ns vs) h = if cs.contains c = true then match lkF g ns vs with
      | some v => .ok v h
      | none => .bad
    else .bad := Eq.trans rfl rfl
def itRf (o : Option O) (k : Nat) (h : Hh) : R Lv := match o with
  | some (.lst xs) => .ok (xs, [(k, .lst xs)]) h
  | _ => .bad
@[simp] theorem itRf_lst (xs : List D) : itRf (some (.lst xs)) k h = .ok (xs, [(k, .lst xs)]) h := Eq.trans rfl rfl
@[simp] theorem itD_rf : itD (.ref k) h = itRf h[k]? k h := by
  rw [itD_ref]
  cases h[k]? with
  | none => rfl
  | some o => cases o <;> rfl
theorem get_last {l : Hh} {x : O} {n : Nat} (e : l.length = n) : (l ++ [x])[n]? = some x := by subst e; simp
theorem set_last {l : Hh} {x y : O} {n : Nat} (e : l.length = n) : (l ++ [x]).set n y = l ++ [y] := by subst e; simp
theorem getElem?_set_of {o o' : O} (e : h[k]? = some o) : (h.set k o')[k]? = some o' := by
  have hk : k < h.length := (List.getElem?_eq_some_iff.mp e).1
  rw [List.getElem?_set_self hk]
end
theorem set_same {h : Hh} {k : Nat} {o : O} (e : h[k]? = some o) : h.set k o = h := by
  obtain ⟨hk, q⟩ := List.getElem?_eq_some_iff.mp e
  rw [← q, List.set_getElem_self]
theorem seq_wp {a b : St} {S : Sg} {h : Hh} {nx : Sg → Hh → Prop} {rt : D → Hh → Prop} (N : Sg → Hh → Prop) (ha : ∀ M : Sg → Hh → Prop, (∀ S' h', N S' h' → M S' h') → (a S h).wp M rt) (hb : ∀ S' h', N S' h' → (b S' h').wp nx rt) : (sSeq a b S h).wp nx rt := by
  rw [sSeq_ap]
  exact ha _ hb
/-! ### loops -/
theorem for_wp {I : Nat → Sg → Hh → Prop} {la : Ls} {g : Tg} {body : St} {S : Sg} {h h1 : Hh} {xs : List D} {src : Src} {nx : Sg → Hh → Prop} {rt : D → Hh → Prop} (hla : la S h = .ok (xs, src) h1) (st : ∀ i S h, I i S h → still src h) (init : I 0 S h1)
    (step : ∀ i x S h, xs[i]? = some x → I i S h → ∀ M : Sg → Hh → Prop, (∀ S h, I (i + 1) S h → M S h) → (g x S h).wp (fun S1 h1 => (body S1 h1).wp M rt) fun _ _ => False) (fin : ∀ S h, I xs.length S h → nx S h) : (sFor la g body S h).wp nx rt := by
  unfold sFor
  rw [hla]
  show (forM src g body xs S h1).wp nx rt
  have key : ∀ (k : Nat) (S : Sg) (h : Hh), k ≤ xs.length → I k S h → (forM src g body (xs.drop k) S h).wp nx rt := by
    intro k
    induction hm : xs.length - k generalizing k with
    | zero =>
      intro S h hk i
      have : k = xs.length := by omega
      subst this
      rw [List.drop_length, forM, if_pos (st _ _ _ i)]
      rw [wps_nx]
      exact fin _ _ i
    | succ n ih =>
      intro S h hk i
      have hlt : k < xs.length := by omega
      rw [List.drop_eq_getElem_cons hlt, forM, if_pos (st _ _ _ i)]
      have s1 := step k _ S h (List.getElem?_eq_getElem hlt) i _ fun _ _ q => q
      rw [wps_bind]
      cases z : g xs[k] S h with
      | nx S1 h1 =>
        rw [z] at s1
        rw [wps_nx] at s1 ⊢
        rw [wps_bind]
        exact RS.wp_mono s1 (fun S2 h2 j => ih (k + 1) (by omega) S2 h2 hlt j) fun _ _ q => q
      | rt d h1 => rw [z, wps_rt] at s1; exact False.elim s1
      | exc _ _ _ _ => rw [z, wps_exc] at s1; exact False.elim s1
      | bad => rw [z, wps_bad] at s1; exact False.elim s1
  have := key 0 S h1 (Nat.zero_le _) init
  rwa [List.drop_zero] at this
theorem lc_wp {I : Nat → List D → Hh → Prop} {la : Ls} {ws : List Nat} {g : Tg} {t : Tt} {e : Ex} {S : Sg} {h h1 : Hh} {xs : List D} {src : Src} {Q : List D → Hh → Prop} (hla : la S h = .ok (xs, src) h1) (st : ∀ i acc h, I i acc h → still src h) (init : I 0 [] h1)
    (step : ∀ i x acc h, xs[i]? = some x → I i acc h → ∀ M : List D → Hh → Prop, (∀ acc h, I (i + 1) acc h → M acc h) → (g x (wipe S ws) h).wp (fun S1 h2 => (t S1 h2).wp fun k h3 => if k = true then (e S1 h3).wp fun d h4 => acc.length < big ∧ M (acc ++ [d]) h4 else M acc h3) fun _ _ => False)
    (fin : ∀ acc h, I xs.length acc h → Q acc h) : (lLc la ws g t e S h).wp Q := by
  unfold lLc
  rw [hla]
  show (lcM src ws g t e S xs h1 []).wp Q
  have key : ∀ (k : Nat) (acc : List D) (h : Hh), k ≤ xs.length → I k acc h → (lcM src ws g t e S (xs.drop k) h acc).wp Q := by
    intro k
    induction hm : xs.length - k generalizing k with
    | zero =>
      intro acc h hk i
      have : k = xs.length := by omega
      subst this
      rw [List.drop_length, lcM, if_pos (st _ _ _ i)]
      rw [wp_ok]
      exact fin _ _ i
    | succ n ih =>
      intro acc h hk i
      have hlt : k < xs.length := by omega
      have s1 := step k _ acc h (List.getElem?_eq_getElem hlt) i _ fun _ _ q => q
      rw [List.drop_eq_getElem_cons hlt, lcM, if_pos (st _ _ _ i)]
      cases z : g xs[k] (wipe S ws) h with
      | nx S1 h2 =>
        rw [z] at s1
        rw [wps_nx] at s1
        dsimp only
        rw [wp_bind, wp_calm]
        refine R.wp_mono s1 fun b h3 s2 => ?_
        cases b with
        | true =>
          simp only [if_true] at s2 ⊢
          rw [wp_bind, wp_calm]
          refine R.wp_mono s2 fun d h4 s3 => ?_
          rw [if_pos s3.1]
          exact ih (k + 1) (by omega) _ _ hlt s3.2
        | false =>
          simp only [Bool.false_eq_true, if_false] at s2 ⊢
          exact ih (k + 1) (by omega) _ _ hlt s2
      | rt d h2 => rw [z, wps_rt] at s1; exact False.elim s1
      | exc _ _ _ _ => rw [z, wps_exc] at s1; exact False.elim s1
      | bad => rw [z, wps_bad] at s1; exact False.elim s1
  have := key 0 [] h1 (Nat.zero_le _) init
  rwa [List.drop_zero] at this
/-- a comprehension that changes nothing -/
theorem lc_pure {α : Type} {la : Ls} {ws : List Nat} {g : Tg} {t : Tt} {e : Ex} {S : Sg} {h h1 : Hh} (xs : List α) (enc : α → D) (p : α → Bool) (f : α → D) (hla : la S h = .ok (xs.map enc, []) h1) (hl : xs.length ≤ big)
    (step : ∀ x, x ∈ xs → ∀ (M : D → Hh → Prop) (M0 : Hh → Prop), (p x = true → M (f x) h1) → (p x = false → M0 h1) → (g (enc x) (wipe S ws) h1).wp (fun S1 h2 => (t S1 h2).wp fun k h3 => if k = true then (e S1 h3).wp M else M0 h3) fun _ _ => False) : lLc la ws g t e S h = .ok ((xs.filter p).map f) h1 := by
  have w : (lLc la ws g t e S h).wp fun ds h2 => ds = (xs.filter p).map f ∧ h2 = h1 := by
    refine lc_wp (I := fun i acc h2 => i ≤ xs.length ∧ acc = ((xs.take i).filter p).map f ∧ h2 = h1) hla (fun _ _ _ _ => trivial) ⟨Nat.zero_le _, rfl, rfl⟩ ?_ ?_
    · rintro i x acc h2 hx ⟨hi, rfl, rfl⟩ M hM
      rw [List.getElem?_map] at hx
      cases z : xs[i]? with
      | none => rw [z] at hx; cases hx
      | some y =>
        rw [z] at hx
        cases hx
        have hlt : i < xs.length := (List.getElem?_eq_some_iff.mp z).1
        have hy : xs[i] = y := (List.getElem?_eq_some_iff.mp z).2
        have tk : xs.take (i + 1) = xs.take i ++ [y] := by rw [List.take_succ_eq_append_getElem hlt, hy]
        refine step y (List.mem_of_getElem? z) _ _ (fun c => ?_) fun c => ?_
        · refine ⟨?_, hM _ _ ⟨hlt, ?_, rfl⟩⟩
          · rw [List.length_map]
            have := List.length_filter_le p (xs.take i)
            rw [List.length_take] at this
            omega
          · rw [tk, List.filter_append, List.map_append, List.filter_cons_of_pos c]; rfl
        · refine hM _ _ ⟨hlt, ?_, rfl⟩
          rw [tk, List.filter_append, List.filter_cons_of_neg (by simp [c])]
          simp
    · rintro acc h2 ⟨_, rfl, rfl⟩
      rw [List.length_map, List.take_length]
      exact ⟨rfl, rfl⟩
  obtain ⟨a, h2, e1, rfl, rfl⟩ := R.wp_ex w
  exact e1
/-- .. without a test -/
theorem lc_map {α : Type} {la : Ls} {ws : List Nat} {g : Tg} {e : Ex} {S : Sg} {h h1 : Hh} (xs : List α) (enc : α → D) (f : α → D) (hla : la S h = .ok (xs.map enc, []) h1) (hl : xs.length ≤ big)
    (step : ∀ x, x ∈ xs → ∀ M : D → Hh → Prop, M (f x) h1 → (g (enc x) (wipe S ws) h1).wp (fun S1 h2 => (e S1 h2).wp M) fun _ _ => False) : lLc la ws g tY e S h = .ok (xs.map f) h1 := by
  have := lc_pure (t := tY) (e := e) (ws := ws) (g := g) xs enc (fun _ => true) f hla hl fun x hx M M0 hM _ => by
    refine RS.wp_mono (step x hx M (hM rfl)) (fun S1 h2 q => ?_) fun _ _ q => q
    rw [tY_ap, if_pos rfl]
    exact q
  rw [List.filter_eq_self.mpr fun _ _ => rfl] at this
  exact this
/-- a row's reading, by what it comes to -/
theorem of_wp {α : Type} {r : R α} {a : α} {h : Hh} (w : ∀ M : α → Hh → Prop, M a h → r.wp M) : r = .ok a h := by
  obtain ⟨a', h', e, rfl, rfl⟩ := R.wp_ex (w (fun a' h' => a' = a ∧ h' = h) ⟨rfl, rfl⟩)
  exact e
/-! ### defs -/
/-- what stood is kept, but for things that name nothing new -/
def Fr (h h1 : Hh) : Prop := h1.length = h.length ∧ ∀ (i : Nat) (o : O), h1[i]? = some o → h[i]? = some o ∨ o.bel h.length
theorem Fr.refl {h : Hh} : Fr h h := ⟨rfl, fun _ _ e => .inl e⟩
theorem Fr.set {h : Hh} {k : Nat} {o : O} (ho : o.bel h.length) : Fr h (h.set k o) := ⟨by simp, fun i o' e => by
  rw [List.getElem?_set] at e
  split at e
  · split at e
    · cases e; exact .inr ho
    · cases e
  · exact .inl e⟩
theorem Fr.tidy {h h1 ys : Hh} (f : Fr h h1) : tidyOk h (h1 ++ ys) := ⟨by rw [List.length_append, f.1]; exact Nat.le_add_right _ _, fun i o hi e => by
  rw [List.getElem?_append_left (by rw [f.1]; exact hi)] at e
  exact f.2 i o e⟩
theorem Fr.take {h h1 ys : Hh} (f : Fr h h1) : (h1 ++ ys).take h.length = h1 := by rw [← f.1, List.take_left]
theorem tidyZ_ok {h h1 ys : Hh} {d : D} (f : Fr h h1) (hd : d.bel h.length) : tidyZ h (.ok d (h1 ++ ys)) = .ok d h1 := by
  unfold tidyZ
  dsimp only
  rw [if_pos f.tidy, if_pos hd, f.take]
theorem tidyZ_new {h h1 ys : Hh} {o : O} (f : Fr h h1) (ho : o.bel h.length) : tidyZ h (.ok (.ref h.length) (h1 ++ o :: ys)) = .ok o.fz h1 := by
  unfold tidyZ
  dsimp only
  rw [if_pos f.tidy, if_neg (show ¬ (D.ref h.length).bel h.length from Nat.lt_irrefl _)]
  have : (h1 ++ o :: ys)[h.length]? = some o := by rw [← f.1]; simp
  rw [this]
  dsimp only
  rw [if_pos ho, f.take]
theorem tidy_ok {h h1 ys : Hh} {d : D} (f : Fr h h1) (hd : d.bel h.length) : tidy h (.ok d (h1 ++ ys)) = .ok d h1 := by
  unfold tidy
  dsimp only
  rw [if_pos f.tidy, if_pos hd, f.take]
theorem tidy_new {h h1 ys : Hh} {o : O} (f : Fr h h1) (ho : o.bel h.length) : tidy h (.ok (.ref h.length) (h1 ++ o :: ys)) = .ok (.ref h.length) (h1 ++ [o]) := by
  unfold tidy
  dsimp only
  rw [if_pos f.tidy, if_neg (show ¬ (D.ref h.length).bel h.length from Nat.lt_irrefl _)]
  have : (h1 ++ o :: ys)[h.length]? = some o := by rw [← f.1]; simp
  rw [this]
  dsimp only
  rw [if_pos ho, f.take]
/-- a def that hands back d, the heap h1 -/
def Gives (h : Hh) (Q : D → Hh → Prop) (d : D) (h' : Hh) : Prop := (∃ h1 ys, h' = h1 ++ ys ∧ Fr h h1 ∧ d.bel h.length ∧ Q d h1) ∨ ∃ h1 o ys, d = .ref h.length ∧ h' = h1 ++ o :: ys ∧ Fr h h1 ∧ o.bel h.length ∧ Q o.fz h1
theorem fnZ_wp {Q : D → Hh → Prop} {n k : Nat} {m : St} {ds : List D} {h : Hh} (hl : ds.length = k) (H : ∀ G : D → Hh → Prop, (∀ d h', Gives h Q d h' → G d h') → (m (sg n ds) h).wp (fun _ => G .non) G) : (fnZ n k m ds h).wp Q := by
  have H := H _ fun _ _ q => q
  unfold fnZ
  rw [if_pos hl]
  have w : (runB m (sg n ds) h).wp (Gives h Q) := by rw [wp_runB]; exact H
  obtain ⟨d, h', e, g⟩ := R.wp_ex w
  rw [e]
  rcases g with ⟨h1, ys, rfl, f, hd, q⟩ | ⟨h1, o, ys, rfl, rfl, f, ho, q⟩
  · rw [tidyZ_ok f hd, wp_ok]; exact q
  · rw [tidyZ_new f ho, wp_ok]; exact q
/-- a def that changes nothing -/
theorem fnZ_eq {n k : Nat} {m : St} {ds : List D} {h : Hh} {d : D} (hl : ds.length = k) (H : ∀ G : D → Hh → Prop, (∀ ys, G d (h ++ ys)) → (m (sg n ds) h).wp (fun _ => G .non) G) (hd : d.bel h.length) : fnZ n k m ds h = .ok d h := by
  have H := H (fun d' h' => d' = d ∧ ∃ ys, h' = h ++ ys) fun ys => ⟨rfl, ys, rfl⟩
  have w := fnZ_wp (Q := fun d' h' => d' = d ∧ h' = h) hl (m := m) fun G hG => RS.wp_mono H (fun S h' q => hG _ _ ?_) fun d' h' q => hG _ _ ?_
  · obtain ⟨a, h2, e, rfl, rfl⟩ := R.wp_ex w
    exact e
  · obtain ⟨e, ys, rfl⟩ := q
    exact .inl ⟨h, ys, rfl, Fr.refl, trivial, e, rfl⟩
  · obtain ⟨e, ys, rfl⟩ := q
    exact .inl ⟨h, ys, rfl, Fr.refl, by rw [e]; exact hd, e, rfl⟩
/-- .. a new thing that may change -/
def GivesR (h : Hh) (Q : D → Hh → Prop) (d : D) (h' : Hh) : Prop := (∃ h1 ys, h' = h1 ++ ys ∧ Fr h h1 ∧ d.bel h.length ∧ Q d h1) ∨ ∃ h1 o ys, d = .ref h.length ∧ h' = h1 ++ o :: ys ∧ Fr h h1 ∧ o.bel h.length ∧ Q (.ref h.length) (h1 ++ [o])
theorem fn_wp {Q : D → Hh → Prop} {n k : Nat} {m : St} {ds : List D} {h : Hh} (hl : ds.length = k) (H : ∀ G : D → Hh → Prop, (∀ d h', GivesR h Q d h' → G d h') → (m (sg n ds) h).wp (fun _ => G .non) G) : (fn n k m ds h).wp Q := by
  have H := H _ fun _ _ q => q
  unfold fn
  rw [if_pos hl]
  have w : (runB m (sg n ds) h).wp (GivesR h Q) := by rw [wp_runB]; exact H
  obtain ⟨d, h', e, g⟩ := R.wp_ex w
  rw [e]
  rcases g with ⟨h1, ys, rfl, f, hd, q⟩ | ⟨h1, o, ys, rfl, rfl, f, ho, q⟩
  · rw [tidy_ok f hd, wp_ok]; exact q
  · rw [tidy_new f ho, wp_ok]; exact q
/-! ### parts of rows -/
theorem sIx_non (n d : Nat) : HT.sIx n d none = d := rfl
theorem sIx_nt (n d k : Nat) : HT.sIx n d (some (k : Int)) = min k n := by
  unfold HT.sIx
  dsimp only
  rw [if_neg (by omega), Int.toNat_natCast]
theorem cut_take {α : Type} (xs : List α) (n : Nat) : cut xs none (some (n : Int)) = xs.take n := by
  unfold cut
  rw [sIx_non, sIx_nt, List.drop_zero, Nat.sub_zero, List.take_eq_take_iff]
  omega
theorem cut_drop {α : Type} (xs : List α) (n : Nat) : cut xs (some (n : Int)) none = xs.drop n := by
  unfold cut
  rw [sIx_non, sIx_nt]
  by_cases hn : n ≤ xs.length
  · rw [Nat.min_eq_left hn, List.take_of_length_le (by rw [List.length_drop]; exact Nat.le_refl _)]
  · rw [Nat.min_eq_right (by omega), List.drop_eq_nil_of_le (Nat.le_refl _), List.drop_eq_nil_of_le (by omega), List.take_nil]
theorem bels_of {n : Nat} : ∀ {ds : List D}, (∀ d ∈ ds, d.bel n) → D.bels n ds
  | [], _ => trivial
  | d :: ds, h => ⟨h d List.mem_cons_self, bels_of fun x hx => h x (List.mem_cons_of_mem _ hx)⟩
theorem zipL_map {α β : Type} (f : α → D) (g : β → D) : ∀ (xs : List α) (ys : List β), zipL (xs.map f) (ys.map g) = (xs.zip ys).map fun p => .tup [f p.1, g p.2]
  | [], _ => rfl
  | _ :: _, [] => rfl
  | x :: xs, y :: ys => by
    rw [List.map_cons, List.map_cons, zipL, zipL_map f g xs ys, List.zip_cons_cons, List.map_cons]
theorem intsI_map {α : Type} (f : α → Int) : ∀ xs : List α, intsI (xs.map fun x => .int (f x)) = some (xs.map f)
  | [] => rfl
  | x :: xs => by
    rw [List.map_cons, intsI, intsI_map f xs]
    rfl
theorem boolsD_map {α : Type} (f : α → Bool) : ∀ xs : List α, boolsD (xs.map fun x => .bl (f x)) = some (xs.map f)
  | [] => rfl
  | x :: xs => by
    rw [List.map_cons, boolsD, boolsD_map f xs]
    rfl
theorem sumL_map {α : Type} (f : α → Int) (xs : List α) (h : Hh) : sumL (xs.map fun x => .int (f x)) h = .ok (.int (xs.map f).sum) h := by
  unfold sumL
  rw [intsI_map]
theorem allL_map {α : Type} (f : α → Bool) (xs : List α) (h : Hh) : allL (xs.map fun x => .bl (f x)) h = .ok (.bl (xs.all f)) h := by
  unfold allL
  rw [boolsD_map]
  simp [List.all_map, Function.comp_def]
theorem anyL_map {α : Type} (f : α → Bool) (xs : List α) (h : Hh) : anyL (xs.map fun x => .bl (f x)) h = .ok (.bl (xs.any f)) h := by
  unfold anyL
  rw [boolsD_map]
  simp [List.any_map, Function.comp_def]
theorem enumL_map {α : Type} (f : α → D) : ∀ (xs : List α) (k : Nat), enumL k (xs.map f) = (xs.zipIdx k).map fun p => .tup [.int p.2, f p.1]
  | [], _ => rfl
  | x :: xs, k => by
    rw [List.map_cons, enumL, enumL_map f xs (k + 1), List.zipIdx_cons, List.map_cons]
end PV
set_option Elab.async false
set_option linter.all false
set_option autoImplicit false
set_option maxRecDepth 100000
set_option maxHeartbeats 2000000
/-! PY: what a mirror comes to, told by content alone: no heap, no slots, no hand. -/
namespace PV
open PySem (Str PyData)
/-! ### results without a heap -/
abbrev Ec := Nat → List (String × D) → Prop
abbrev Y (α : Type) := (α → Prop) → Ec → Prop
namespace Y
variable {α β γ : Type}
def pure (a : α) : Y α := fun Q _ => Q a
def bind (m : Y α) (k : α → Y β) : Y β := fun Q E => m (fun a => k a Q E) E
def bad : Y α := fun _ _ => False
def exc (c : Nat) (fs : List (String × D)) : Y α := fun _ E => E c fs
def need (p : Prop) (m : Y α) : Y α := fun Q E => p ∧ m Q E
/-- where nothing may be raised -/
def calm (m : Y α) : Y α := fun Q _ => m Q fun _ _ => False
def ofR (r : R α) : Y α := match r with
  | .ok a _ => pure a
  | _ => bad
@[simp] theorem pure_bind (a : α) (k : α → Y β) : (pure a).bind k = k a := Eq.trans rfl rfl
@[simp] theorem bind_pure (m : Y α) : m.bind pure = m := Eq.trans rfl rfl
@[simp] theorem bind_bind (m : Y α) (k : α → Y β) (l : β → Y γ) : (m.bind k).bind l = m.bind fun a => (k a).bind l := Eq.trans rfl rfl
@[simp] theorem bad_bind (k : α → Y β) : (bad : Y α).bind k = bad := Eq.trans rfl rfl
@[simp] theorem exc_bind (c : Nat) (fs : List (String × D)) (k : α → Y β) : (exc c fs : Y α).bind k = exc c fs := Eq.trans rfl rfl
@[simp] theorem ofR_ok (a : α) (h : Hh) : ofR (.ok a h) = pure a := Eq.trans rfl rfl
@[simp] theorem ofR_bad : ofR (.bad : R α) = bad := Eq.trans rfl rfl
@[simp] theorem calm_pure (a : α) : calm (pure a) = pure a := Eq.trans rfl rfl
@[simp] theorem calm_bad : calm (bad : Y α) = bad := Eq.trans rfl rfl
@[simp] theorem calm_bind (m : Y α) (k : α → Y β) : calm (m.bind k) = (calm m).bind fun a => calm (k a) := Eq.trans rfl rfl
@[simp] theorem calm_calm (m : Y α) : calm (calm m) = calm m := Eq.trans rfl rfl
@[simp] theorem ite_bind (c : Prop) [Decidable c] (a b : Y α) (k : α → Y β) : (if c then a else b).bind k = if c then a.bind k else b.bind k := by split <;> rfl
@[simp] theorem calm_ite (c : Prop) [Decidable c] (a b : Y α) : calm (if c then a else b) = if c then calm a else calm b := by split <;> rfl
@[simp] theorem ofR_ite (c : Prop) [Decidable c] (a b : R α) : ofR (if c then a else b) = if c then ofR a else ofR b := by split <;> rfl
theorem need_pos {p : Prop} (h : p) (m : Y α) : need p m = m := by unfold need; funext Q E; simp [h]
@[simp] theorem need_true (m : Y α) : need True m = m := need_pos trivial m
@[simp] theorem need_bind (p : Prop) (m : Y α) (k : α → Y β) : (need p m).bind k = need p (m.bind k) := Eq.trans rfl rfl
@[simp] theorem calm_need (p : Prop) (m : Y α) : calm (need p m) = need p (calm m) := Eq.trans rfl rfl
theorem pure_ap (a : α) (Q : α → Prop) (E : Ec) : pure a Q E = Q a := Eq.trans rfl rfl
theorem bind_ap (m : Y α) (k : α → Y β) (Q : β → Prop) (E : Ec) : (m.bind k) Q E = m (fun a => k a Q E) E := Eq.trans rfl rfl
end Y
abbrev YS (σ : Type) := (σ → Prop) → (D → Prop) → Ec → Prop
namespace YS
variable {σ τ υ α β : Type}
def nx (s : σ) : YS σ := fun N _ _ => N s
def ret (m : Y D) : YS σ := fun _ R E => m R E
def bad : YS σ := fun _ _ _ => False
def exc (c : Nat) (fs : List (String × D)) : YS σ := fun _ _ E => E c fs
def seq (m : YS σ) (k : σ → YS τ) : YS τ := fun N R E => m (fun s => k s N R E) R E
def get (m : Y α) (k : α → YS τ) : YS τ := fun N R E => m (fun a => k a N R E) E
def need (p : Prop) (m : YS σ) : YS σ := fun N R E => p ∧ m N R E
@[simp] theorem nx_seq (s : σ) (k : σ → YS τ) : (nx s).seq k = k s := Eq.trans rfl rfl
@[simp] theorem ret_seq (m : Y D) (k : σ → YS τ) : (ret m).seq k = ret m := Eq.trans rfl rfl
@[simp] theorem bad_seq (k : σ → YS τ) : (bad : YS σ).seq k = bad := Eq.trans rfl rfl
@[simp] theorem exc_seq (c : Nat) (fs : List (String × D)) (k : σ → YS τ) : (exc c fs : YS σ).seq k = exc c fs := Eq.trans rfl rfl
@[simp] theorem seq_seq (m : YS σ) (k : σ → YS τ) (l : τ → YS υ) : (m.seq k).seq l = m.seq fun s => (k s).seq l := Eq.trans rfl rfl
@[simp] theorem get_seq (m : Y α) (k : α → YS σ) (l : σ → YS τ) : (get m k).seq l = get m fun a => (k a).seq l := Eq.trans rfl rfl
@[simp] theorem get_pure (a : α) (k : α → YS τ) : get (Y.pure a) k = k a := Eq.trans rfl rfl
@[simp] theorem get_bad (k : α → YS τ) : get (Y.bad : Y α) k = bad := Eq.trans rfl rfl
@[simp] theorem get_exc (c : Nat) (fs : List (String × D)) (k : α → YS τ) : get (Y.exc c fs : Y α) k = exc c fs := Eq.trans rfl rfl
@[simp] theorem get_bind (m : Y α) (j : α → Y β) (k : β → YS τ) : get (m.bind j) k = get m fun a => get (j a) k := Eq.trans rfl rfl
@[simp] theorem get_need (p : Prop) (m : Y α) (k : α → YS τ) : get (Y.need p m) k = need p (get m k) := Eq.trans rfl rfl
@[simp] theorem ite_seq (c : Prop) [Decidable c] (a b : YS σ) (k : σ → YS τ) : (if c then a else b).seq k = if c then a.seq k else b.seq k := by split <;> rfl
@[simp] theorem get_ite (c : Prop) [Decidable c] (a b : Y α) (k : α → YS τ) : get (if c then a else b) k = if c then get a k else get b k := by split <;> rfl
theorem need_pos {p : Prop} (h : p) (m : YS σ) : need p m = m := by unfold need; funext N R E; simp [h]
@[simp] theorem need_true (m : YS σ) : need True m = m := need_pos trivial m
@[simp] theorem need_seq (p : Prop) (m : YS σ) (k : σ → YS τ) : (need p m).seq k = need p (m.seq k) := Eq.trans rfl rfl
theorem ret_ap (m : Y D) (N : σ → Prop) (R : D → Prop) (E : Ec) : ret m N R E = m R E := Eq.trans rfl rfl
theorem nx_ap (s : σ) (N : σ → Prop) (R : D → Prop) (E : Ec) : nx s N R E = N s := Eq.trans rfl rfl
theorem get_ap (m : Y α) (k : α → YS τ) (N : τ → Prop) (R : D → Prop) (E : Ec) : get m k N R E = m (fun a => k a N R E) E := Eq.trans rfl rfl
theorem seq_ap (m : YS σ) (k : σ → YS τ) (N : τ → Prop) (R : D → Prop) (E : Ec) : m.seq k N R E = m (fun s => k s N R E) R E := Eq.trans rfl rfl
end YS
/-- a def's body -/
def fnY (m : YS Unit) : Y D := fun Q E => m (fun _ => Q .non) Q E
@[simp] theorem fnY_ret (m : Y D) : fnY (YS.ret m) = m := Eq.trans rfl rfl
@[simp] theorem fnY_nx (u : Unit) : fnY (YS.nx u) = Y.pure .non := Eq.trans rfl rfl
@[simp] theorem fnY_bad : fnY YS.bad = Y.bad := Eq.trans rfl rfl
@[simp] theorem fnY_exc (c : Nat) (fs : List (String × D)) : fnY (YS.exc c fs) = Y.exc c fs := Eq.trans rfl rfl
@[simp] theorem fnY_ite (c : Prop) [Decidable c] (a b : YS Unit) : fnY (if c then a else b) = if c then fnY a else fnY b := by split <;> rfl
@[simp] theorem fnY_get {α : Type} (m : Y α) (k : α → YS Unit) : fnY (YS.get m k) = m.bind fun a => fnY (k a) := Eq.trans rfl rfl
@[simp] theorem fnY_need (p : Prop) (m : YS Unit) : fnY (YS.need p m) = Y.need p (fnY m) := Eq.trans rfl rfl
/-- a loop over a row -/
def forY {σ : Type} : List D → σ → (D → σ → YS σ) → YS σ
  | [], s, _ => YS.nx s
  | x :: xs, s, b => (b x s).seq fun s => forY xs s b
@[simp] theorem forY_nil {σ : Type} (s : σ) (b : D → σ → YS σ) : forY [] s b = YS.nx s := Eq.trans rfl rfl
@[simp] theorem forY_cons {σ : Type} (x : D) (xs : List D) (s : σ) (b : D → σ → YS σ) : forY (x :: xs) s b = (b x s).seq fun s => forY xs s b := Eq.trans rfl rfl
def whileY {σ : Type} (t : σ → Y Bool) (b : σ → YS σ) : Nat → σ → YS σ
  | 0, _ => YS.bad
  | n + 1, s => YS.get (t s) fun k => if k = true then (b s).seq fun s => whileY t b n s else YS.nx s
/-- a comprehension -/
def compY : List D → (D → Y (Option D)) → Y (List D)
  | [], _ => Y.pure []
  | x :: xs, f => (f x).bind fun o => (compY xs f).bind fun r => Y.pure (match o with
    | some d => d :: r
    | none => r)
def lcY (xs : List D) (f : D → Y (Option D)) : Y (List D) := Y.need (xs.length ≤ big) (compY xs f)
/-- a value's items -/
def rowY : D → Y (List D)
  | .tup xs => Y.pure xs
  | .fz xs => Y.pure xs
  | _ => Y.bad
@[simp] theorem rowY_tup (xs : List D) : rowY (.tup xs) = Y.pure xs := Eq.trans rfl rfl
@[simp] theorem rowY_fz (xs : List D) : rowY (.fz xs) = Y.pure xs := Eq.trans rfl rfl
def un2 {α : Type} (x : D) (k : D → D → Y α) : Y α := match x with
  | .tup [a, b] => k a b
  | _ => Y.bad
def un3 {α : Type} (x : D) (k : D → D → D → Y α) : Y α := match x with
  | .tup [a, b, c] => k a b c
  | _ => Y.bad
@[simp] theorem un2_tup {α : Type} (a b : D) (k : D → D → Y α) : un2 (.tup [a, b]) k = k a b := Eq.trans rfl rfl
@[simp] theorem un3_tup {α : Type} (a b c : D) (k : D → D → D → Y α) : un3 (.tup [a, b, c]) k = k a b c := Eq.trans rfl rfl
def us2 {α : Type} (x : D) (k : D → D → YS α) : YS α := match x with
  | .tup [a, b] => k a b
  | _ => YS.bad
def us3 {α : Type} (x : D) (k : D → D → D → YS α) : YS α := match x with
  | .tup [a, b, c] => k a b c
  | _ => YS.bad
@[simp] theorem us2_tup {α : Type} (a b : D) (k : D → D → YS α) : us2 (.tup [a, b]) k = k a b := Eq.trans rfl rfl
@[simp] theorem us3_tup {α : Type} (a b c : D) (k : D → D → D → YS α) : us3 (.tup [a, b, c]) k = k a b c := Eq.trans rfl rfl
/-! ### closed values -/
abbrev D.cl (d : D) : Prop := d.bel 0
abbrev cls (xs : List D) : Prop := D.bels 0 xs
abbrev clF (fs : List (String × D)) : Prop := ∀ p ∈ fs, p.2.cl
mutual
theorem D.cl.bel : ∀ {d : D} (n : Nat), d.cl → d.bel n
  | .ref i, _, h => absurd h (Nat.not_lt_zero _)
  | .tup xs, n, h => cls.bels (xs := xs) n h
  | .fz xs, n, h => cls.bels (xs := xs) n h
  | .fd ks vs, n, h => ⟨cls.bels (xs := ks) n h.1, cls.bels (xs := vs) n h.2⟩
  | .fi _ _ vs, n, h => cls.bels (xs := vs) n h
  | .non, _, _ => trivial
  | .bl _, _, _ => trivial
  | .int _, _, _ => trivial
  | .str _, _, _ => trivial
theorem cls.bels : ∀ {xs : List D} (n : Nat), cls xs → D.bels n xs
  | [], _, _ => trivial
  | x :: xs, n, h => ⟨D.cl.bel (d := x) n h.1, cls.bels (xs := xs) n h.2⟩
end
theorem cls_iff : ∀ {xs : List D}, cls xs ↔ ∀ d ∈ xs, d.cl
  | [] => by simp [cls, D.bels]
  | x :: xs => by simp [cls, D.bels, (cls_iff (xs := xs))]
theorem cls.app {xs ys : List D} (a : cls xs) (b : cls ys) : cls (xs ++ ys) := cls_iff.mpr fun d hd => by
  rcases List.mem_append.mp hd with q | q
  · exact cls_iff.mp a d q
  · exact cls_iff.mp b d q
theorem cls.one {x : D} (a : x.cl) : cls [x] := ⟨a, trivial⟩
theorem cls.mem {xs : List D} {x : D} (a : cls xs) (h : x ∈ xs) : x.cl := cls_iff.mp a x h
theorem cls.sub {xs ys : List D} (a : cls xs) (h : ∀ y ∈ ys, y ∈ xs) : cls ys := cls_iff.mpr fun d hd => cls_iff.mp a d (h d hd)
theorem cls.ints {α : Type} (f : α → Int) (xs : List α) : cls (xs.map fun x => .int (f x)) := cls_iff.mpr fun d hd => by
  obtain ⟨x, _, rfl⟩ := List.mem_map.mp hd
  trivial
/-! ### drawing -/
abbrev hand (cells : List Int) (p : Nat) (b s c : Int) : O := .lst [.fz (cells.map .int), .int p, .int b, .int s, .int c]
def HandOk (o : O) : Prop := ∃ (cells : List Int) (p : Nat) (b s c : Int), o = hand cells p b s c
theorem HandOk.bel {o : O} (ho : HandOk o) (n : Nat) : o.bel n := by
  obtain ⟨cells, p, b, s, c, rfl⟩ := ho
  refine ⟨?_, trivial, trivial, trivial, trivial, trivial⟩
  show D.bels n (cells.map .int)
  induction cells with
  | nil => trivial
  | cons x xs ih => exact ⟨trivial, ih⟩
/-- the hand stands -/
def HOk (hd : Option Nat) (h : Hh) : Prop := ∀ k, hd = some k → ∃ o, h[k]? = some o ∧ HandOk o
/-- but the hand nothing has changed -/
structure HR (hd : Option Nat) (h h' : Hh) : Prop where
  len : h'.length = h.length
  same : ∀ i, hd ≠ some i → h'[i]? = h[i]?
  ok : HOk hd h'
theorem HR.refl {hd : Option Nat} {h : Hh} (o : HOk hd h) : HR hd h h := ⟨rfl, fun _ _ => rfl, o⟩
theorem HR.trans {hd : Option Nat} {h h1 h2 : Hh} (a : HR hd h h1) (b : HR hd h1 h2) : HR hd h h2 := ⟨b.len.trans a.len, fun i e => (b.same i e).trans (a.same i e), b.ok⟩
theorem HR.none {h h' : Hh} (a : HR none h h') : h' = h := List.ext_getElem? fun i => a.same i (by simp)
theorem HR.set {k : Nat} {h h' : Hh} (a : HR (some k) h h') (hk : k < h.length) : ∃ o, HandOk o ∧ h' = h.set k o := by
  obtain ⟨o, e, ho⟩ := a.ok k rfl
  refine ⟨o, ho, List.ext_getElem? fun i => ?_⟩
  by_cases c : k = i
  · subst c; rw [List.getElem?_set_self hk, e]
  · rw [List.getElem?_set_ne c, a.same i (by simpa using c)]
theorem HR.of_set {k : Nat} {h : Hh} {o : O} (hk : k < h.length) (ho : HandOk o) : HR (some k) h (h.set k o) := ⟨by simp, fun i e => List.getElem?_set_ne (by simpa using e), fun j e => by cases e; exact ⟨o, List.getElem?_set_self hk, ho⟩⟩
/-! ### values and what they stand for -/
inductive VA (hd : Option Nat) (h : Hh) : D → D → Prop where
  | val {d : D} (c : d.cl) : VA hd h d d
  | lst {k : Nat} {xs : List D} (n : hd ≠ some k) (e : h[k]? = some (.lst xs)) (c : cls xs) : VA hd h (.ref k) (.fz xs)
  | dic {k : Nat} {kvs : List (D × D)} (n : hd ≠ some k) (e : h[k]? = some (.dic kvs)) (c : ∀ p ∈ kvs, p.1.cl ∧ p.2.cl) : VA hd h (.ref k) (.fd (kvs.map (·.1)) (kvs.map (·.2)))
def VB (b : Bool) (hd : Option Nat) (h : Hh) (v d : D) : Prop := match b with
  | true => VA hd h v d
  | false => v = d ∧ d.cl
theorem VA.hr {hd : Option Nat} {h h' : Hh} {v d : D} (a : VA hd h v d) (r : HR hd h h') : VA hd h' v d := by
  cases a with
  | val c => exact .val c
  | lst n e c => exact .lst n (by rw [r.same _ n]; exact e) c
  | dic n e c => exact .dic n (by rw [r.same _ n]; exact e) c
theorem VB.hr {b : Bool} {hd : Option Nat} {h h' : Hh} {v d : D} (a : VB b hd h v d) (r : HR hd h h') : VB b hd h' v d := by
  cases b with
  | true => exact VA.hr a r
  | false => exact a
theorem VB.x {b : Bool} {hd : Option Nat} {h : Hh} {v d : D} (a : VB false hd h v d) : VB b hd h v d := by
  cases b with
  | true => obtain ⟨rfl, c⟩ := a; exact .val c
  | false => exact a
theorem VB.va {b : Bool} {hd : Option Nat} {h : Hh} {v d : D} (a : VB b hd h v d) : VA hd h v d := by
  cases b with
  | true => exact a
  | false => obtain ⟨rfl, c⟩ := a; exact .val c
theorem VA.no {hd : Option Nat} {h : Hh} {v d : D} (a : VA hd h v d) : VA none h v d := by
  cases a with
  | val c => exact .val c
  | lst n e c => exact .lst (by simp) e c
  | dic n e c => exact .dic (by simp) e c
theorem VB.no {b : Bool} {hd : Option Nat} {h : Hh} {v d : D} (a : VB b hd h v d) : VB b none h v d := by
  cases b with
  | true => exact VA.no a
  | false => exact a
theorem cl_fd {kvs : List (D × D)} (c : ∀ p ∈ kvs, p.1.cl ∧ p.2.cl) : (D.fd (kvs.map (·.1)) (kvs.map (·.2))).cl := ⟨cls_iff.mpr fun d hd => by
    obtain ⟨p, hp, rfl⟩ := List.mem_map.mp hd
    exact (c p hp).1, cls_iff.mpr fun d hd => by
    obtain ⟨p, hp, rfl⟩ := List.mem_map.mp hd
    exact (c p hp).2⟩
theorem VA.cl {hd : Option Nat} {h : Hh} {v d : D} (a : VA hd h v d) : d.cl := by
  cases a with
  | val c => exact c
  | lst n e c => exact c
  | dic n e c => exact cl_fd c
/-! ### the judgement -/
def R.wx {α : Type} (r : R α) (Q : α → Hh → Prop) (X : Nat → List (String × D) → Hh → Prop) : Prop := match r with
  | .ok a h => Q a h
  | .exc c fs h => X c fs h
  | .bad => False
def RS.wx (r : RS) (N : Sg → Hh → Prop) (T : D → Hh → Prop) (X : Nat → List (String × D) → Hh → Prop) : Prop := match r with
  | .nx S h => N S h
  | .rt d h => T d h
  | .exc c fs _ h => X c fs h
  | .bad => False
def AE {α β : Type} (hd : Option Nat) (h : Hh) (rel : Hh → α → β → Prop) (r : R α) (y : Y β) : Prop := ∀ Q E, y Q E → r.wx (fun a h' => HR hd h h' ∧ ∃ b, rel h' a b ∧ Q b) fun c fs h' => HR hd h h' ∧ clF fs ∧ E c fs
section
variable {α β γ δ : Type} {hd : Option Nat} {h : Hh} {rel : Hh → α → β → Prop} {rel2 : Hh → γ → δ → Prop} {r : R α} {y : Y β}
theorem AE.bind {k : α → Hh → R γ} {l : β → Y δ} (a : AE hd h rel r y) (b : ∀ x u h', HR hd h h' → rel h' x u → AE hd h' rel2 (k x h') (l u)) : AE hd h rel2 (r.bind k) (y.bind l) := fun Q E w => by
  have q := a _ _ w
  cases r with
  | ok x h1 =>
    obtain ⟨hr, u, rr, q⟩ := q
    have q2 := b x u h1 hr rr _ _ q
    show (k x h1).wx _ _
    cases z : k x h1 with
    | ok x2 h2 => rw [z] at q2; exact ⟨hr.trans q2.1, q2.2⟩
    | exc c fs h2 => rw [z] at q2; exact ⟨hr.trans q2.1, q2.2⟩
    | bad => rw [z] at q2; exact q2
  | exc c fs h1 => exact q
  | bad => exact q
theorem AE.ok {a : α} {b : β} (o : HOk hd h) (e : rel h a b) : AE hd h rel (.ok a h) (Y.pure b) := fun Q E w => ⟨HR.refl o, b, e, w⟩
theorem AE.bad {r : R α} : AE hd h rel r (Y.bad : Y β) := fun Q E w => False.elim w
theorem AE.need {p : Prop} {r : R α} {y : Y β} (a : p → AE hd h rel r y) : AE hd h rel r (Y.need p y) := fun Q E w => a w.1 Q E w.2
theorem AE.calm {r : R α} {y : Y β} (a : AE hd h rel r y) : AE hd h rel r.calm y.calm := fun Q E w => by
  have q := a _ _ w
  cases r with
  | ok x h1 => exact q
  | exc c fs h1 => exact False.elim q.2.2
  | bad => exact q
theorem AE.mono {rel' : Hh → α → β → Prop} {r : R α} {y : Y β} (a : AE hd h rel r y) (f : ∀ h' x u, rel h' x u → rel' h' x u) : AE hd h rel' r y := fun Q E w => by
  have q := a _ _ w
  cases r with
  | ok x h1 => obtain ⟨hr, u, rr, q⟩ := q; exact ⟨hr, u, f _ _ _ rr, q⟩
  | exc c fs h1 => exact q
  | bad => exact q
theorem AE.lift {r : R α} {y : Y β} (o : HOk hd h) (a : AE none h rel r y) : AE hd h rel r y := fun Q E w => by
  have q := a _ _ w
  cases r with
  | ok x h1 => obtain ⟨hr, q⟩ := q; cases hr.none; exact ⟨HR.refl o, q⟩
  | exc c fs h1 => obtain ⟨hr, q⟩ := q; cases hr.none; exact ⟨HR.refl o, q⟩
  | bad => exact q
theorem AE.ofR {b : R β} (o : HOk hd h) (f : ∀ u h2, b = .ok u h2 → ∃ a, r = .ok a h ∧ rel h a u) : AE hd h rel r (Y.ofR b) := fun Q E w => by
  cases b with
  | ok u h2 =>
    obtain ⟨a, rfl, e⟩ := f u h2 rfl
    exact ⟨HR.refl o, u, e, w⟩
  | exc c fs h2 => exact False.elim w
  | bad => exact False.elim w
end
/-! ### where one stands: the hand, the heap at the entry, the things that change -/
structure Ct where
  hd : Option Nat
  h0 : Hh
  ms : List (Nat × O)
structure Fx (hd : Option Nat) (h0 h : Hh) : Prop where
  len : h0.length ≤ h.length
  same : ∀ i, i < h0.length → hd ≠ some i → h[i]? = h0[i]?
  hk : ∀ k, hd = some k → k < h0.length
  ok : HOk hd h
theorem Fx.hr {hd : Option Nat} {h0 h h' : Hh} (f : Fx hd h0 h) (r : HR hd h h') : Fx hd h0 h' := ⟨by rw [r.len]; exact f.len, fun i hi e => (r.same i e).trans (f.same i hi e), f.hk, r.ok⟩
structure HI (c : Ct) (h : Hh) : Prop where
  fx : Fx c.hd c.h0 h
  ge : ∀ p ∈ c.ms, c.h0.length ≤ p.1
  at_ : ∀ p ∈ c.ms, h[p.1]? = some p.2
  nd : (c.ms.map (·.1)).Nodup
theorem HI.ok {c : Ct} {h : Hh} (H : HI c h) : HOk c.hd h := H.fx.ok
theorem HI.ne {c : Ct} {h : Hh} (H : HI c h) {p : Nat × O} (hp : p ∈ c.ms) : c.hd ≠ some p.1 := fun e => absurd (H.fx.hk _ e) (Nat.not_lt.mpr (H.ge p hp))
theorem HI.hr {c : Ct} {h h' : Hh} (H : HI c h) (r : HR c.hd h h') : HI c h' := ⟨H.fx.hr r, H.ge, fun p hp => by rw [r.same _ (H.ne hp)]; exact H.at_ p hp, H.nd⟩
theorem HI.old {c : Ct} {h : Hh} (H : HI c h) {v d : D} (a : VA c.hd c.h0 v d) : VA c.hd h v d := by
  cases a with
  | val c => exact .val c
  | lst n e q => exact .lst n (by rw [H.fx.same _ (List.getElem?_eq_some_iff.mp e).1 n]; exact e) q
  | dic n e q => exact .dic n (by rw [H.fx.same _ (List.getElem?_eq_some_iff.mp e).1 n]; exact e) q
theorem HI.oldB {c : Ct} {h : Hh} (H : HI c h) {b : Bool} {v d : D} (a : VB b c.hd c.h0 v d) : VB b c.hd h v d := by
  cases b with
  | true => exact H.old a
  | false => exact a
theorem HI.push {c : Ct} {h : Hh} (H : HI c h) (o : O) : HI { c with ms := (h.length, o) :: c.ms } (h ++ [o]) := by
  have lt : ∀ p ∈ c.ms, p.1 < h.length := fun p hp => (List.getElem?_eq_some_iff.mp (H.at_ p hp)).1
  refine ⟨⟨by rw [List.length_append]; exact Nat.le_trans H.fx.len (Nat.le_add_right _ _), fun i hi e => ?_, H.fx.hk, fun k e => ?_⟩, fun p hp => ?_, fun p hp => ?_, ?_⟩
  · rw [List.getElem?_append_left (Nat.lt_of_lt_of_le hi H.fx.len)]; exact H.fx.same i hi e
  · obtain ⟨o', e', q⟩ := H.fx.ok k e
    exact ⟨o', by rw [List.getElem?_append_left (List.getElem?_eq_some_iff.mp e').1]; exact e', q⟩
  · rcases List.mem_cons.mp hp with rfl | q
    · exact H.fx.len
    · exact H.ge p q
  · rcases List.mem_cons.mp hp with rfl | q
    · simp
    · rw [List.getElem?_append_left (lt p q)]; exact H.at_ p q
  · show (h.length :: c.ms.map (·.1)).Nodup
    refine List.nodup_cons.mpr ⟨fun m => ?_, H.nd⟩
    obtain ⟨p, hp, e⟩ := List.mem_map.mp m
    exact absurd (lt p hp) (by rw [e]; exact Nat.lt_irrefl _)
theorem HI.set {c : Ct} {h : Hh} (H : HI c h) {j k : Nat} {o o' : O} (e : c.ms[j]? = some (k, o)) : HI { c with ms := c.ms.set j (k, o') } (h.set k o') := by
  have hm : (k, o) ∈ c.ms := List.mem_of_getElem? e
  have hk : k < h.length := (List.getElem?_eq_some_iff.mp (H.at_ _ hm)).1
  have hj : j < c.ms.length := (List.getElem?_eq_some_iff.mp e).1
  have ej : c.ms[j] = (k, o) := (List.getElem?_eq_some_iff.mp e).2
  have ks : (c.ms.set j (k, o')).map (·.1) = c.ms.map (·.1) := by
    rw [List.map_set]
    have : (c.ms.map (·.1))[j]'(by simpa using hj) = k := by simp [ej]
    rw [← this]
    exact List.set_getElem_self _
  have ne : ∀ i, i < c.h0.length → k ≠ i := fun i hi q => absurd (H.ge _ hm) (by rw [show ((k, o) : Nat × O).1 = k from rfl, q]; exact Nat.not_le.mpr hi)
  refine ⟨⟨by rw [List.length_set]; exact H.fx.len, fun i hi q => ?_, H.fx.hk, fun i q => ?_⟩, fun p hp => ?_, fun p hp => ?_, ?_⟩
  · rw [List.getElem?_set_ne (ne i hi)]; exact H.fx.same i hi q
  · obtain ⟨o2, e2, q2⟩ := H.fx.ok i q
    exact ⟨o2, by rw [List.getElem?_set_ne (ne i (H.fx.hk i q))]; exact e2, q2⟩
  · have : p.1 ∈ c.ms.map (·.1) := by rw [← ks]; exact List.mem_map_of_mem hp
    obtain ⟨p', hp', e'⟩ := List.mem_map.mp this
    rw [← e']; exact H.ge p' hp'
  · obtain ⟨i, hi, ei⟩ := List.mem_iff_getElem.mp hp
    rw [List.getElem_set] at ei
    split at ei
    · subst ei; exact List.getElem?_set_self hk
    · rename_i hne
      have hi' : i < c.ms.length := by simpa using hi
      have hp' : p ∈ c.ms := by rw [← ei]; exact List.getElem_mem hi'
      have nk : k ≠ p.1 := fun q => by
        have h1 : (c.ms.map (·.1))[j]'(by simpa using hj) = (c.ms.map (·.1))[i]'(by simpa using hi') := by simp [ej, ei, q]
        exact hne ((List.getElem_inj H.nd).mp h1)
      rw [List.getElem?_set_ne nk]; exact H.at_ p hp'
  · show ((c.ms.set j (k, o')).map (·.1)).Nodup
    rw [ks]; exact H.nd
theorem HI.sub {c : Ct} {h : Hh} (H : HI c h) (ms : List (Nat × O)) (s : List.Sublist ms c.ms) : HI { c with ms := ms } h := ⟨H.fx, fun p hp => H.ge p (s.subset hp), fun p hp => H.at_ p (s.subset hp), H.nd.sublist (s.map _)⟩
end PV
set_option Elab.async false
set_option linter.all false
set_option autoImplicit false
set_option maxRecDepth 100000
set_option maxHeartbeats 2000000
/-! PYE: expressions, rows, comprehensions, told by content. -/
namespace PV
open PySem (Str PyData)
section
variable {hd : Option Nat} {h : Hh} {x u : D}
theorem VA.atom (a : VA hd h x u) (n1 : ∀ xs, u ≠ .fz xs) (n2 : ∀ ks vs, u ≠ .fd ks vs) : x = u := by
  cases a with
  | val c => rfl
  | lst n e c => exact absurd rfl (n1 _)
  | dic n e c => exact absurd rfl (n2 _ _)
theorem VA.int {i : Int} (a : VA hd h x (.int i)) : x = .int i := a.atom (by simp) (by simp)
theorem VA.lsD (a : VA hd h x u) {xs : List D} (e : lsD u [] = some xs) : lsD x h = some xs ∧ cls xs := by
  cases a with
  | val c => cases x with
    | fz ys => cases e; exact ⟨rfl, c⟩
    | ref k => exact absurd c (Nat.not_lt_zero _)
    | _ => cases e
  | lst n q c => cases e; exact ⟨by unfold PV.lsD; dsimp only; rw [q], c⟩
  | dic n q c => cases e
theorem zip_fs {α β : Type} : ∀ kvs : List (α × β), (kvs.map (·.1)).zip (kvs.map (·.2)) = kvs
  | [] => rfl
  | p :: r => by rw [List.map_cons, List.map_cons, List.zip_cons_cons, zip_fs r]
theorem cl_zip {ks vs : List D} (c : (D.fd ks vs).cl) : ∀ p ∈ ks.zip vs, p.1.cl ∧ p.2.cl := fun p hp => ⟨cls.mem c.1 (List.of_mem_zip hp).1, cls.mem c.2 (List.of_mem_zip hp).2⟩
theorem VA.dicOf (a : VA hd h x u) {kvs : List (D × D)} (e : dicOf u [] = some kvs) : dicOf x h = some kvs ∧ ∀ p ∈ kvs, p.1.cl ∧ p.2.cl := by
  cases a with
  | val c => cases x with
    | fd ks vs => cases e; exact ⟨rfl, cl_zip c⟩
    | ref k => exact absurd c (Nat.not_lt_zero _)
    | _ => cases e
  | lst n q c => cases e
  | dic n q c =>
    unfold PV.dicOf at e
    dsimp only at e
    rw [zip_fs] at e
    cases e
    exact ⟨by unfold PV.dicOf; dsimp only; rw [q], c⟩
theorem VA.dicNo (a : VA hd h x u) (e : PV.dicOf u [] = none) : PV.dicOf x h = none := by
  cases a with
  | val c => cases x with
    | fd ks vs => cases e
    | ref k => exact absurd c (Nat.not_lt_zero _)
    | _ => rfl
  | lst n q c => unfold PV.dicOf; dsimp only; rw [q]
  | dic n q c => cases e
theorem VA.py (a : VA hd h x u) {p : PyData} (e : pyH [] u = some p) : pyH h x = some p := by
  cases a with
  | val c => cases x with
    | ref k => exact absurd c (Nat.not_lt_zero _)
    | _ => exact e
  | lst n q c => unfold pyH; dsimp only; rw [q]; exact e
  | dic n q c => cases e
theorem VA.tk (a : VA hd h x u) {t : Tk} (e : tkOf [] u = some t) : tkOf h x = some t := by
  cases a with
  | val c => cases x with
    | ref k => exact absurd c (Nat.not_lt_zero _)
    | _ => exact e
  | lst n q c => unfold tkOf; dsimp only; rw [q]; exact e
  | dic n q c => unfold tkOf; dsimp only; rw [q]; exact e
theorem VA.seqV (a : VA hd h x u) {p : Bool × List D} (e : seqV u [] = some p) : seqV x h = some p := by
  cases a with
  | val c => cases x with
    | ref k => exact absurd c (Nat.not_lt_zero _)
    | _ => exact e
  | lst n q c => cases e; unfold PV.seqV PV.lsD; dsimp only; rw [q]; rfl
  | dic n q c => cases e
theorem VA.rowV (a : VA hd h x u) {xs : List D} (e : rowV u [] = some xs) : rowV x h = some xs ∧ cls xs := by
  cases a with
  | val c => cases x with
    | ref k => exact absurd c (Nat.not_lt_zero _)
    | tup ys => cases e; exact ⟨rfl, c⟩
    | fz ys => cases e; exact ⟨rfl, c⟩
    | fd ks vs =>
      cases e
      refine ⟨rfl, cls_iff.mpr fun d hd => ?_⟩
      obtain ⟨p, hp, rfl⟩ := List.mem_map.mp hd
      exact (cl_zip c p hp).1
    | _ => cases e
  | lst n q c => cases e; exact ⟨by unfold PV.rowV PV.lsD; dsimp only; rw [q], c⟩
  | dic n q c =>
    have : PV.rowV (D.fd _ _) [] = some _ := e
    unfold PV.rowV PV.lsD PV.dicOf at this
    dsimp only [Option.map] at this
    rw [zip_fs] at this
    cases this
    refine ⟨by unfold PV.rowV PV.lsD PV.dicOf; dsimp only; rw [q]; rfl, cls_iff.mpr fun d hd => ?_⟩
    obtain ⟨p, hp, rfl⟩ := List.mem_map.mp hd
    exact (c p hp).1
end
/-! ### operations -/
def Op1 (f : D → Hh → R D) : Prop := ∀ hd h x u, VA hd h x u → ∀ d h2, f u [] = .ok d h2 → f x h = .ok d h ∧ d.cl
def Op2 (f : D → D → Hh → R D) : Prop := ∀ hd h x u y v, VA hd h x u → VA hd h y v → ∀ d h2, f u v [] = .ok d h2 → f x y h = .ok d h ∧ d.cl
/-- of numbers alone -/
theorem op_i1 {f : D → Hh → R D} (hf : ∀ u d h2, f u [] = .ok d h2 → (∃ i, u = .int i) ∧ d.cl ∧ ∀ h, f u h = .ok d h) : Op1 f := fun hd h x u a d h2 e => by
  obtain ⟨⟨i, rfl⟩, c, q⟩ := hf u d h2 e
  rw [a.int]; exact ⟨q h, c⟩
theorem op_i2 {f : D → D → Hh → R D} (hf : ∀ u v d h2, f u v [] = .ok d h2 → (∃ i j, u = .int i ∧ v = .int j) ∧ d.cl ∧ ∀ h, f u v h = .ok d h) : Op2 f := fun hd h x u y v a b d h2 e => by
  obtain ⟨⟨i, j, rfl, rfl⟩, c, q⟩ := hf u v d h2 e
  rw [a.int, b.int]; exact ⟨q h, c⟩
theorem op_sub : Op2 subD := op_i2 fun u v d h2 e => by
  cases u <;> cases v <;> first | (cases e; exact ⟨⟨_, _, rfl, rfl⟩, trivial, fun h => rfl⟩) | cases e
theorem op_fdiv : Op2 fdivD := op_i2 fun u v d h2 e => by
  cases u <;> cases v <;> first | cases e | skip
  unfold fdivD at e ⊢
  dsimp only at e ⊢
  split at e
  · rename_i c; cases e; exact ⟨⟨_, _, rfl, rfl⟩, trivial, fun h => by rw [if_pos c]⟩
  · cases e
theorem op_mod : Op2 modD := op_i2 fun u v d h2 e => by
  cases u <;> cases v <;> first | cases e | skip
  unfold modD at e ⊢
  dsimp only at e ⊢
  split at e
  · rename_i c; cases e; exact ⟨⟨_, _, rfl, rfl⟩, trivial, fun h => by rw [if_pos c]⟩
  · cases e
theorem op_pow : Op2 powD := op_i2 fun u v d h2 e => by
  cases u <;> cases v <;> first | cases e | skip
  unfold powD at e ⊢
  dsimp only at e ⊢
  split at e
  · rename_i c; cases e; exact ⟨⟨_, _, rfl, rfl⟩, trivial, fun h => by rw [if_pos c]⟩
  · cases e
theorem op_shl : Op2 shlD := op_i2 fun u v d h2 e => by
  cases u <;> cases v <;> first | cases e | skip
  unfold shlD at e ⊢
  dsimp only at e ⊢
  split at e
  · rename_i c; cases e; exact ⟨⟨_, _, rfl, rfl⟩, trivial, fun h => by rw [if_pos c]⟩
  · cases e
theorem op_shr : Op2 shrD := op_i2 fun u v d h2 e => by
  cases u <;> cases v <;> first | cases e | skip
  unfold shrD at e ⊢
  dsimp only at e ⊢
  split at e
  · rename_i c; cases e; exact ⟨⟨_, _, rfl, rfl⟩, trivial, fun h => by rw [if_pos c]⟩
  · cases e
theorem op_band : Op2 andD := op_i2 fun u v d h2 e => by
  cases u <;> cases v <;> first | (cases e; exact ⟨⟨_, _, rfl, rfl⟩, trivial, fun h => rfl⟩) | cases e
theorem op_bor : Op2 orD := op_i2 fun u v d h2 e => by
  cases u <;> cases v <;> first | (cases e; exact ⟨⟨_, _, rfl, rfl⟩, trivial, fun h => rfl⟩) | cases e
theorem op_bxor : Op2 xorD := op_i2 fun u v d h2 e => by
  cases u <;> cases v <;> first | (cases e; exact ⟨⟨_, _, rfl, rfl⟩, trivial, fun h => rfl⟩) | cases e
theorem op_lt : Op2 ltD := op_i2 fun u v d h2 e => by
  cases u <;> cases v <;> first | (cases e; exact ⟨⟨_, _, rfl, rfl⟩, trivial, fun h => rfl⟩) | cases e
theorem op_le : Op2 leD := op_i2 fun u v d h2 e => by
  cases u <;> cases v <;> first | (cases e; exact ⟨⟨_, _, rfl, rfl⟩, trivial, fun h => rfl⟩) | cases e
theorem op_gt : Op2 gtD := op_i2 fun u v d h2 e => by
  cases u <;> cases v <;> first | (cases e; exact ⟨⟨_, _, rfl, rfl⟩, trivial, fun h => rfl⟩) | cases e
theorem op_ge : Op2 geD := op_i2 fun u v d h2 e => by
  cases u <;> cases v <;> first | (cases e; exact ⟨⟨_, _, rfl, rfl⟩, trivial, fun h => rfl⟩) | cases e
theorem op_neg : Op1 negD := op_i1 fun u d h2 e => by
  cases u <;> first | (cases e; exact ⟨⟨_, rfl⟩, trivial, fun h => rfl⟩) | cases e
def lists2 (x y : D) (h : Hh) : R D := match lsD x h, lsD y h with
    | some xs, some ys => if xs.length + ys.length ≤ big then .ok (.fz (xs ++ ys)) h else .bad
    | _, _ => .bad
theorem op_lists2 : Op2 lists2 := fun hd h x u y v a b d h2 e => by
  unfold lists2 at e
  cases z : lsD u [] with
  | none => rw [z] at e; cases e
  | some xs =>
    cases z2 : lsD v [] with
    | none => rw [z, z2] at e; cases e
    | some ys =>
      rw [z, z2] at e
      dsimp only at e
      split at e
      · rename_i c
        cases e
        unfold lists2
        rw [(a.lsD z).1, (b.lsD z2).1]
        dsimp only
        rw [if_pos c]
        exact ⟨rfl, (a.lsD z).2.app (b.lsD z2).2⟩
      · cases e
theorem addD_cases (x y : D) (h : Hh) : addD x y h = match x, y with
  | .int i, .int j => .ok (.int (i + j)) h
  | .int i, .bl k => .ok (.int (i + if k = true then 1 else 0)) h
  | .str a, .str b => if a.length + b.length ≤ big then .ok (.str (a ++ b)) h else .bad
  | .tup a, .tup b => if a.length + b.length ≤ big then .ok (.tup (a ++ b)) h else .bad
  | x, y => lists2 x y h := by
  cases x <;> cases y <;> rfl
theorem op_add : Op2 addD := fun hd h x u y v a b d h2 e => by
  by_cases L : ∃ xs ys, lsD u [] = some xs ∧ lsD v [] = some ys
  · obtain ⟨xs, ys, e1, e2⟩ := L
    have ne : ∀ (x y : D) (h : Hh), lsD x h = some xs → lsD y h = some ys → addD x y h = lists2 x y h := fun x y h z1 z2 => by
      rw [addD_cases]
      cases x <;> cases y <;> first | rfl | cases z1 | cases z2
    rw [ne _ _ _ e1 e2] at e
    rw [ne _ _ _ (a.lsD e1).1 (b.lsD e2).1]
    exact op_lists2 hd h x u y v a b d h2 e
  · have e' := e
    rw [addD_cases] at e'
    have nl : ∀ {p q : D}, lists2 u v [] ≠ .ok d h2 := fun {p q} z => by
      unfold lists2 at z
      cases z1 : lsD u [] with
      | none => rw [z1] at z; cases z
      | some xs =>
        cases z2 : lsD v [] with
        | none => rw [z1, z2] at z; cases z
        | some ys => exact L ⟨xs, ys, z1, z2⟩
    cases u <;> cases v <;> first
      | exact absurd e' (nl (p := .non) (q := .non))
      | (have q1 := a.atom (by simp) (by simp)
         have q2 := b.atom (by simp) (by simp)
         subst q1; subst q2
         rw [addD_cases]
         dsimp only at e' ⊢
         first
           | (cases e'; exact ⟨rfl, trivial⟩)
           | (split at e'
              · rename_i cnd
                cases e'
                rw [if_pos cnd]
                first | exact ⟨rfl, trivial⟩ | exact ⟨rfl, cls.app a.cl b.cl⟩
              · cases e'))
theorem op_mul : Op2 mulD := fun hd h x u y v a b d h2 e => by
  cases v with
  | int k =>
    have q2 := b.int
    subst q2
    by_cases L : ∃ xs, lsD u [] = some xs
    · obtain ⟨xs, z⟩ := L
      have ne : ∀ (x : D) (h : Hh), lsD x h = some xs → mulD x (.int k) h = if -(2 ^ 63) ≤ k ∧ k < 2 ^ 63 ∧ xs.length * k.toNat ≤ big then .ok (.fz (List.replicate k.toNat xs).flatten) h else .bad := fun x h z => by
        cases x with
        | fz ys => cases z; rfl
        | ref i =>
          show (match lsD (.ref i) h with
            | some xs => if -(2 ^ 63) ≤ k ∧ k < 2 ^ 63 ∧ xs.length * k.toNat ≤ big then R.ok (D.fz (List.replicate k.toNat xs).flatten) h else .bad
            | none => .bad) = _
          rw [z]
        | _ => cases z
      rw [ne _ _ z] at e
      rw [ne _ _ (a.lsD z).1]
      split at e
      · rename_i c
        cases e
        rw [if_pos c]
        refine ⟨rfl, cls_iff.mpr fun d hd => ?_⟩
        obtain ⟨l, hl, hm⟩ := List.mem_flatten.mp hd
        rw [(List.mem_replicate.mp hl).2] at hm
        exact cls.mem (a.lsD z).2 hm
      · cases e
    · cases u with
      | int i =>
        have q1 := a.int
        subst q1
        unfold mulD at e ⊢
        dsimp only at e ⊢
        split at e
        · rename_i c; cases e; rw [if_pos c]; exact ⟨rfl, trivial⟩
        · cases e
      | fz ys => exact absurd ⟨_, rfl⟩ L
      | _ => cases e
  | _ => cases u <;> cases e
theorem op_isNon : Op2 isNonD := fun hd h x u y v a b d h2 e => by
  cases v with
  | non =>
    have := b.atom (by simp) (by simp)
    subst this
    cases a with
    | val c => cases x <;> (cases e; exact ⟨rfl, trivial⟩)
    | lst n q c => cases e; exact ⟨rfl, trivial⟩
    | dic n q c => cases e; exact ⟨rfl, trivial⟩
  | _ => cases u <;> cases e
theorem op_isNotNon : Op2 isNotNonD := fun hd h x u y v a b d h2 e => by
  cases v with
  | non =>
    have := b.atom (by simp) (by simp)
    subst this
    cases a with
    | val c => cases x <;> (cases e; exact ⟨rfl, trivial⟩)
    | lst n q c => cases e; exact ⟨rfl, trivial⟩
    | dic n q c => cases e; exact ⟨rfl, trivial⟩
  | _ => cases u <;> cases e
theorem op_eq : Op2 eqD := fun hd h x u y v a b d h2 e => by
  unfold eqD at e
  cases z : pyH [] u with
  | none => rw [z] at e; cases e
  | some p => cases z2 : pyH [] v with
    | none => rw [z, z2] at e; cases e
    | some q =>
      rw [z, z2] at e
      dsimp only at e
      unfold eqD
      rw [a.py z, b.py z2]
      dsimp only
      split at e
      · rename_i c; cases e; rw [if_pos c]; exact ⟨rfl, trivial⟩
      · cases e
theorem op_ne : Op2 neD := fun hd h x u y v a b d h2 e => by
  unfold neD at e
  cases z : pyH [] u with
  | none => rw [z] at e; cases e
  | some p => cases z2 : pyH [] v with
    | none => rw [z, z2] at e; cases e
    | some q =>
      rw [z, z2] at e
      dsimp only at e
      unfold neD
      rw [a.py z, b.py z2]
      dsimp only
      split at e
      · rename_i c; cases e; rw [if_pos c]; exact ⟨rfl, trivial⟩
      · cases e
theorem atI_mem {xs : List D} {i : Int} {d : D} (e : L2.atI xs i = some d) : d ∈ xs := by
  unfold L2.atI at e
  cases z : L2.ixN xs.length i with
  | none => rw [z] at e; cases e
  | some j => rw [z] at e; exact List.mem_of_getElem? e
theorem getK_mem {k v : D} : ∀ {kvs : List (D × D)}, getK k kvs = some v → ∃ p ∈ kvs, p.2 = v
  | p :: r, e => by
    unfold getK at e
    split at e
    · cases e; exact ⟨p, List.mem_cons_self, rfl⟩
    · obtain ⟨q, hq, z⟩ := getK_mem e
      exact ⟨q, List.mem_cons_of_mem _ hq, z⟩
theorem fit_atom {hd : Option Nat} {h : Hh} {x u : D} {kvs : List (D × D)} (a : VA hd h x u) (e : fitK u kvs = true) : x = u := by
  have := (fit_of e).1
  refine a.atom (fun xs q => ?_) fun ks vs q => ?_
  · subst q; exact this rfl
  · subst q; exact this rfl
theorem op_ixA : Op2 ixA := fun hd h x u y v a b d h2 e => by
  unfold ixA at e
  cases z : dicOf u [] with
  | some kvs =>
    rw [z] at e
    dsimp only at e
    split at e
    · rename_i c
      have := fit_atom b c
      subst this
      unfold ixA
      rw [(a.dicOf z).1]
      dsimp only
      rw [if_pos c]
      cases w : getK y kvs with
      | none => rw [w] at e; cases e
      | some r =>
        rw [w] at e
        cases e
        obtain ⟨p, hp, rfl⟩ := getK_mem w
        exact ⟨rfl, ((a.dicOf z).2 p hp).2⟩
    · cases e
  | none =>
    rw [z] at e
    dsimp only at e
    unfold ixA
    rw [a.dicNo z]
    dsimp only
    cases a with
    | val c => cases x with
      | tup xs => cases v with
        | int i =>
          have := b.int
          subst this
          unfold ixD at e ⊢
          dsimp only at e ⊢
          split at e
          · rename_i q; cases e; exact ⟨rfl, cls.mem c (atI_mem q)⟩
          · cases e
        | _ => cases e
      | fz xs => cases v with
        | int i =>
          have := b.int
          subst this
          unfold ixD at e ⊢
          dsimp only at e ⊢
          split at e
          · rename_i q; cases e; exact ⟨rfl, cls.mem c (atI_mem q)⟩
          · cases e
        | _ => cases e
      | str zz => cases v with
        | int i =>
          have := b.int
          subst this
          unfold ixD at e ⊢
          dsimp only at e ⊢
          split at e
          · rename_i cc
            rw [if_pos cc]
            split at e
            · rename_i q; cases e; exact ⟨rfl, trivial⟩
            · cases e
          · cases e
        | _ => cases e
      | ref k => exact absurd c (Nat.not_lt_zero _)
      | _ => cases e
    | lst n q c => cases v with
      | int i =>
        have := b.int
        subst this
        unfold ixD at e ⊢
        dsimp only at e ⊢
        rw [q]
        dsimp only
        split at e
        · rename_i q; cases e; exact ⟨rfl, cls.mem c (atI_mem q)⟩
        · cases e
      | _ => cases e
    | dic n q c => cases e
theorem op_in : Op2 inK := fun hd h x u y v a b d h2 e => by
  unfold inK at e
  cases z : dicOf v [] with
  | some kvs =>
    rw [z] at e
    dsimp only at e
    split at e
    · rename_i c
      have := fit_atom a c
      subst this
      cases e
      unfold inK
      rw [(b.dicOf z).1]
      dsimp only
      rw [if_pos c]
      exact ⟨rfl, trivial⟩
    · cases e
  | none => rw [z] at e; cases e
theorem op_nin : Op2 ninK := fun hd h x u y v a b d h2 e => by
  unfold ninK at e
  cases z : dicOf v [] with
  | some kvs =>
    rw [z] at e
    dsimp only at e
    split at e
    · rename_i c
      have := fit_atom a c
      subst this
      cases e
      unfold ninK
      rw [(b.dicOf z).1]
      dsimp only
      rw [if_pos c]
      exact ⟨rfl, trivial⟩
    · cases e
  | none => rw [z] at e; cases e
theorem op_rev : Op1 revD := fun hd h x u a d h2 e => by
  cases a with
  | val c => cases x with
    | tup xs => cases e; exact ⟨rfl, cls.sub c fun y hy => List.mem_reverse.mp hy⟩
    | fz xs => cases e; exact ⟨rfl, cls.sub c fun y hy => List.mem_reverse.mp hy⟩
    | ref k => exact absurd c (Nat.not_lt_zero _)
    | _ => cases e
  | lst n q c => cases e; exact ⟨by unfold revD lsD; dsimp only; rw [q], cls.sub c fun y hy => List.mem_reverse.mp hy⟩
  | dic n q c => cases e
theorem lkF_mem {g : String} {v : D} : ∀ {ns : List String} {vs : List D}, lkF g ns vs = some v → v ∈ vs
  | n :: ns, w :: vs, e => by
    unfold lkF at e
    split at e
    · cases e; exact List.mem_cons_self
    · exact List.mem_cons_of_mem _ (lkF_mem e)
  | [], _, e => by cases e
  | _ :: _, [], e => by cases e
theorem op_fld (cs : List Nat) (g : String) : Op1 (fldD cs g) := fun hd h x u a d h2 e => by
  cases u with
  | fi c ns vs =>
    have := a.atom (by simp) (by simp)
    subst this
    unfold fldD at e ⊢
    dsimp only at e ⊢
    split at e
    · rename_i q
      rw [if_pos q]
      split at e
      · rename_i v w; cases e; exact ⟨rfl, cls.mem a.cl (lkF_mem w)⟩
      · cases e
    · cases e
  | ref k => cases e
  | _ => cases e
theorem op_isi (cs : List Nat) (t : Tk) : Op1 (isiD cs t) := fun hd h x u a d h2 e => by
  unfold isiD at e ⊢
  cases z : tkOf [] u with
  | none => rw [z] at e; cases e
  | some k =>
    rw [z] at e
    rw [a.tk z]
    cases k with
    | bi n => cases e; exact ⟨rfl, trivial⟩
    | own c =>
      dsimp only at e ⊢
      split at e
      · rename_i q; cases e; rw [if_pos q]; exact ⟨rfl, trivial⟩
      · cases e
theorem op_len : Op1 fun d h => lenD [d] h := fun hd h x u a d h2 e => by
  cases a with
  | val c => cases x with
    | tup xs => cases e; exact ⟨rfl, trivial⟩
    | fz xs => cases e; exact ⟨rfl, trivial⟩
    | fd ks vs => cases e; exact ⟨rfl, trivial⟩
    | str z =>
      dsimp only at e ⊢
      unfold lenD at e ⊢
      dsimp only at e ⊢
      split at e
      · rename_i q; cases e; rw [if_pos q]; exact ⟨rfl, trivial⟩
      · cases e
    | ref k => exact absurd c (Nat.not_lt_zero _)
    | _ => cases e
  | lst n q c => cases e; exact ⟨by dsimp only; unfold lenD; dsimp only; rw [q], trivial⟩
  | dic n q c => cases e; exact ⟨by dsimp only; unfold lenD; dsimp only; rw [q, List.length_map], trivial⟩
theorem op_abs : Op1 fun d h => absD [d] h := op_i1 fun u d h2 e => by
  cases u <;> first | (cases e; exact ⟨⟨_, rfl⟩, by first | trivial | (dsimp only; split <;> trivial), fun h => rfl⟩) | cases e
theorem op_int : Op1 fun d h => intD [d] h := fun hd h x u a d h2 e => by
  cases u with
  | int i => rw [a.int]; cases e; exact ⟨rfl, trivial⟩
  | bl b =>
    have := a.atom (by simp) (by simp)
    subst this
    cases e
    exact ⟨rfl, trivial⟩
  | _ => cases e
theorem op_repr : Op1 fun d h => reprD [d] h := fun hd h x u a d h2 e => by
  dsimp only at e ⊢
  unfold reprD at e ⊢
  dsimp only at e ⊢
  cases z : pyH [] u with
  | none => rw [z] at e; cases e
  | some p =>
    rw [z] at e
    rw [a.py z]
    dsimp only at e ⊢
    split at e
    · rename_i c; cases e; rw [if_pos c]; exact ⟨rfl, trivial⟩
    · cases e
theorem op_lset : Op1 lsetD := fun hd h x u a d h2 e => by
  unfold lsetD at e ⊢
  cases z : seqV u [] with
  | none => rw [z] at e; cases e
  | some p =>
    rw [z] at e
    rw [a.seqV z]
    obtain ⟨t, xs⟩ := p
    dsimp only at e ⊢
    cases z2 : intsI xs with
    | some ns =>
      rw [z2] at e
      dsimp only at e ⊢
      split at e
      · rename_i c; cases e; rw [if_pos c]; exact ⟨rfl, trivial⟩
      · cases e
    | none =>
      rw [z2] at e
      dsimp only at e ⊢
      cases t with
      | true => cases e
      | false =>
        cases z3 : tupsI xs with
        | none => rw [z3] at e; cases e
        | some ks =>
          rw [z3] at e
          dsimp only at e ⊢
          split at e
          · rename_i c; cases e; rw [if_pos c]; exact ⟨rfl, trivial⟩
          · cases e
end PV
set_option Elab.async false
set_option linter.all false
set_option autoImplicit false
set_option maxRecDepth 100000
set_option maxHeartbeats 2000000
/-! PYX: the rules of expressions. -/
namespace PV
open PySem (Str PyData)
def XG {α β : Type} (c : Ct) (rel : Hh → α → β → Prop) (S : Sg) (a : Sg → Hh → R α) (A : Y β) : Prop := ∀ h, HI c h → AE c.hd h rel (a S h) A
abbrev XE (b : Bool) (c : Ct) (S : Sg) (a : Ex) (A : Y D) : Prop := XG c (VB b c.hd) S a A
abbrev XL (n : Nat) (c : Ct) (S : Sg) (a : As) (A : Y (List D)) : Prop := XG c (fun _ x u => x = u ∧ cls u ∧ u.length = n) S a A
abbrev XF (c : Ct) (S : Sg) (a : As) (A : Y (List D)) : Prop := XG c (fun _ x u => x = u ∧ cls u) S a A
abbrev XT (c : Ct) (S : Sg) (a : Tt) (A : Y Bool) : Prop := XG c (fun _ x u => x = u) S a A
abbrev XO (c : Ct) (S : Sg) (a : Os) (A : Y (Option Int)) : Prop := XG c (fun _ x u => x = u) S a A
def Wk (wk : List (Nat × O)) (c : Ct) (q : Nat × O) : Prop := q ∈ wk ∨ (q.1 < c.h0.length ∧ c.hd ≠ some q.1 ∧ c.h0[q.1]? = some q.2)
abbrev XR (wk : List (Nat × O)) (c : Ct) (S : Sg) (a : Ls) (A : Y (List D)) : Prop := XG c (fun _ p xs => p.1 = xs ∧ cls xs ∧ ∀ q ∈ p.2, Wk wk c q) S a A
abbrev XKd (c : Ct) (S : Sg) (a : Ad) (A : Y (List (D × D))) : Prop := XG c (fun _ x u => x = u ∧ ∀ p ∈ u, p.1.cl ∧ p.2.cl) S a A
section
variable {c : Ct} {S : Sg} {b b1 b2 b3 b4 b5 : Bool} {wk : List (Nat × O)}
theorem XG.x {a : Ex} {A : Y D} (p : XE false c S a A) : XE b c S a A := fun h H => (p h H).mono fun _ _ _ q => q.x
theorem XL.f {n : Nat} {a : As} {A : Y (List D)} (p : XL n c S a A) : XF c S a A := fun h H => (p h H).mono fun _ _ _ q => ⟨q.1, q.2.1⟩
/-! ### names, constants -/
theorem xe_v {i : Nat} {d : D} (e : S[i]? = some (some d)) (q : d.cl) : XE false c S (eV i) (Y.pure d) := fun h H => by
  show AE c.hd h _ (match S[i]? with
    | some (some d) => R.ok d h
    | _ => .bad) _
  rw [e]
  exact AE.ok H.ok ⟨rfl, q⟩
theorem xe_p {i : Nat} {v d : D} (e : S[i]? = some (some v)) (q : VB b c.hd c.h0 v d) : XE b c S (eV i) (Y.pure d) := fun h H => by
  show AE c.hd h _ (match S[i]? with
    | some (some d) => R.ok d h
    | _ => .bad) _
  rw [e]
  exact AE.ok H.ok (H.oldB q)
theorem xe_ml {i j k : Nat} {xs : List D} (e : S[i]? = some (some (.ref k))) (m : c.ms[j]? = some (k, .lst xs)) (q : cls xs) : XE true c S (eV i) (Y.pure (.fz xs)) := fun h H => by
  show AE c.hd h _ (match S[i]? with
    | some (some d) => R.ok d h
    | _ => .bad) _
  rw [e]
  exact AE.ok H.ok (.lst (H.ne (List.mem_of_getElem? m)) (H.at_ _ (List.mem_of_getElem? m)) q)
theorem xe_md {i j k : Nat} {kvs : List (D × D)} (e : S[i]? = some (some (.ref k))) (m : c.ms[j]? = some (k, .dic kvs)) (q : ∀ p ∈ kvs, p.1.cl ∧ p.2.cl) : XE true c S (eV i) (Y.pure (.fd (kvs.map (·.1)) (kvs.map (·.2)))) := fun h H => by
  show AE c.hd h _ (match S[i]? with
    | some (some d) => R.ok d h
    | _ => .bad) _
  rw [e]
  exact AE.ok H.ok (.dic (H.ne (List.mem_of_getElem? m)) (H.at_ _ (List.mem_of_getElem? m)) q)
theorem xe_c {d : D} (q : d.cl) : XE false c S (eC d) (Y.pure d) := fun h H => AE.ok H.ok ⟨rfl, q⟩
theorem cl_ints (ns : List Int) : (D.tup (ns.map D.int)).cl := cls.ints (fun i => i) ns
/-! ### operations -/
theorem xe_1 {f : D → Hh → R D} {a : Ex} {A : Y D} (o : Op1 f) (p : XE b c S a A) : XE false c S (e1 f a) (A.bind fun x => Y.ofR (f x [])) := fun h H =>
  AE.bind (p h H) fun x u h1 r q => AE.ofR (H.hr r).ok fun d h2 e => ⟨d, (o _ _ _ _ q.va d h2 e).1, rfl, (o _ _ _ _ q.va d h2 e).2⟩
theorem xe_2 {f : D → D → Hh → R D} {a a2 : Ex} {A A2 : Y D} (o : Op2 f) (p : XE b1 c S a A) (p2 : XE b2 c S a2 A2) : XE false c S (e2 f a a2) (A.bind fun x => A2.bind fun y => Y.ofR (f x y [])) := fun h H =>
  AE.bind (p h H) fun x u h1 r q => AE.bind (p2 h1 (H.hr r)) fun y v h2 r2 q2 => AE.ofR ((H.hr r).hr r2).ok fun d h3 e =>
    let z := o _ _ _ _ _ _ (q.hr r2).va q2.va d h3 e
    ⟨d, z.1, rfl, z.2⟩
/-- a built-in function of one argument -/
theorem xe_b {F : List D → Hh → R D} {a : Ex} {A : Y D} (o : Op1 fun d h => F [d] h) (p : XE b c S a A) : XE false c S (eF F (aC a aN)) (A.bind fun x => Y.ofR (F [x] [])) := fun h H => by
  refine AE.bind (rel := fun h' x u => ∃ w z, x = [w] ∧ u = z ∧ VB b c.hd h' w z) (y := A) (fun Q E w => ?_) fun x u h1 r q => ?_
  · have := p h H Q E w
    show ((a S h).bind fun x h1 => (R.ok [] h1).bind fun xs h2 => .ok (x :: xs) h2).wx _ _
    cases z : a S h with
    | ok x h1 => rw [z] at this; obtain ⟨r, u, q, w⟩ := this; exact ⟨r, u, ⟨x, u, rfl, rfl, q⟩, w⟩
    | exc cc fs h1 => rw [z] at this; exact this
    | bad => rw [z] at this; exact this
  · obtain ⟨w, z, rfl, rfl, q⟩ := q
    exact AE.ofR (H.hr r).ok fun d h2 e => ⟨d, (o _ _ _ _ q.va d h2 e).1, rfl, (o _ _ _ _ q.va d h2 e).2⟩
/-! ### displays -/
theorem xl_nil : XL 0 c S aN (Y.pure []) := fun h H => AE.ok H.ok ⟨rfl, trivial, rfl⟩
theorem xl_cons {n : Nat} {a : Ex} {as : As} {A : Y D} {As' : Y (List D)} (p : XE false c S a A) (ps : XL n c S as As') : XL (n + 1) c S (aC a as) (A.bind fun x => As'.bind fun xs => Y.pure (x :: xs)) := fun h H =>
  AE.bind (p h H) fun x u h1 r q => AE.bind (ps h1 (H.hr r)) fun xs us h2 r2 q2 => AE.ok ((H.hr r).hr r2).ok ⟨by rw [q.1, q2.1], ⟨q.2, q2.2.1⟩, by rw [List.length_cons, q2.2.2]⟩
theorem xe_tup {n : Nat} {as : As} {A : Y (List D)} (p : XL n c S as A) (hn : n ≤ 64 := by decide) : XE false c S (eTup as) (A.bind fun xs => Y.pure (.tup xs)) := fun h H =>
  AE.bind (p h H) fun xs us h1 r q => by
    rw [q.1, if_pos (show us.length ≤ 16777216 by rw [q.2.2]; omega)]
    exact AE.ok (H.hr r).ok ⟨rfl, q.2.1⟩
theorem xf_disp {n : Nat} {as : As} {A : Y (List D)} (p : XL n c S as A) (hn : n ≤ 64 := by decide) : XF c S (lD as) A := fun h H => by
  have := AE.bind (rel2 := fun _ x u => x = u ∧ cls u) (p h H) (k := fun xs h1 => if xs.length ≤ big then R.ok xs h1 else .bad) (l := Y.pure) fun xs us h1 r q => by
    rw [q.1, if_pos (show us.length ≤ 16777216 by rw [q.2.2]; omega)]
    exact AE.ok (H.hr r).ok ⟨rfl, q.2.1⟩
  rwa [Y.bind_pure] at this
/-! ### tests, conditionals -/
theorem op_isB {hd : Option Nat} {h : Hh} {x u : D} (a : VA hd h x u) {k : Bool} {h2 : Hh} (e : isB u [] = .ok k h2) : isB x h = .ok k h := by
  cases u with
  | bl v =>
    have := a.atom (by simp) (by simp)
    subst this
    cases e
    rfl
  | _ => cases e
def isY (d : D) : Y Bool := Y.ofR (isB d [])
@[simp] theorem isY_bl (k : Bool) : isY (.bl k) = Y.pure k := Eq.trans rfl rfl
theorem ae_isB {hd : Option Nat} {h : Hh} {x u : D} (o : HOk hd h) (a : VA hd h x u) : AE hd h (fun _ x u => x = u) (isB x h) (isY u) := AE.ofR o fun k h2 e => ⟨k, op_isB a e, rfl⟩
theorem xt_v {a : Ex} {A : Y D} (p : XE b c S a A) : XT c S (tV a) (A.bind isY) := fun h H => AE.bind (p h H) fun x u h1 r q => ae_isB (H.hr r).ok q.va
theorem xt_y : XT c S tY (Y.pure true) := fun h H => AE.ok H.ok rfl
theorem xt_not {a : Tt} {A : Y Bool} (p : XT c S a A) : XT c S (tNot a) (A.bind fun k => Y.pure !k) := fun h H => AE.bind (p h H) fun x u h1 r q => AE.ok (H.hr r).ok (by rw [q])
theorem xt_and {a a2 : Tt} {A A2 : Y Bool} (p : XT c S a A) (p2 : XT c S a2 A2) : XT c S (tAnd a a2) (A.bind fun k => if k = true then A2 else Y.pure false) := fun h H => AE.bind (p h H) fun x u h1 r q => by
  subst q
  cases x with
  | true => exact p2 h1 (H.hr r)
  | false => exact AE.ok (H.hr r).ok rfl
theorem xt_or {a a2 : Tt} {A A2 : Y Bool} (p : XT c S a A) (p2 : XT c S a2 A2) : XT c S (tOr a a2) (A.bind fun k => if k = true then Y.pure true else A2) := fun h H => AE.bind (p h H) fun x u h1 r q => by
  subst q
  cases x with
  | true => exact AE.ok (H.hr r).ok rfl
  | false => exact p2 h1 (H.hr r)
theorem xe_not {a : Ex} {A : Y D} (p : XE b c S a A) : XE false c S (eNot a) (A.bind fun x => (isY x).bind fun k => Y.pure (.bl !k)) := fun h H => AE.bind (p h H) fun x u h1 r q =>
  AE.bind (ae_isB (H.hr r).ok q.va) fun k k' h2 r2 q2 => AE.ok r2.ok ⟨by rw [q2], trivial⟩
theorem xe_and {a a2 : Ex} {A A2 : Y D} (p : XE b1 c S a A) (p2 : XE b c S a2 A2) : XE b c S (eAnd a a2) (A.bind fun x => (isY x).bind fun k => if k = true then A2 else Y.pure (.bl false)) := fun h H => AE.bind (p h H) fun x u h1 r q =>
  AE.bind (ae_isB (H.hr r).ok q.va) fun k k' h2 r2 q2 => by
    subst q2
    cases k with
    | true => exact p2 h2 ((H.hr r).hr r2)
    | false => exact AE.ok r2.ok (VB.x ⟨rfl, trivial⟩)
theorem xe_or {a a2 : Ex} {A A2 : Y D} (p : XE b1 c S a A) (p2 : XE b c S a2 A2) : XE b c S (eOr a a2) (A.bind fun x => (isY x).bind fun k => if k = true then Y.pure (.bl true) else A2) := fun h H => AE.bind (p h H) fun x u h1 r q =>
  AE.bind (ae_isB (H.hr r).ok q.va) fun k k' h2 r2 q2 => by
    subst q2
    cases k with
    | true => exact AE.ok r2.ok (VB.x ⟨rfl, trivial⟩)
    | false => exact p2 h2 ((H.hr r).hr r2)
theorem xe_if {t : Tt} {a a2 : Ex} {T : Y Bool} {A A2 : Y D} (pt : XT c S t T) (p : XE b c S a A) (p2 : XE b c S a2 A2) : XE b c S (eIf t a a2) (T.bind fun k => if k = true then A else A2) := fun h H => AE.bind (pt h H) fun x u h1 r q => by
  subst q
  cases x with
  | true => exact p h1 (H.hr r)
  | false => exact p2 h1 (H.hr r)
theorem xe_ch {f g : D → D → Hh → R D} {a a2 a3 : Ex} {A A2 A3 : Y D} (o : Op2 f) (o2 : Op2 g) (p : XE b1 c S a A) (p2 : XE b2 c S a2 A2) (p3 : XE b3 c S a3 A3) : XE false c S (eCh f g a a2 a3) (A.bind fun x => A2.bind fun y => (Y.ofR (f x y [])).bind fun z => (isY z).bind fun k => if k = true then A3.bind fun w => Y.ofR (g y w []) else Y.pure (.bl false)) := fun h H =>
  AE.bind (p h H) fun x u h1 r q => AE.bind (p2 h1 (H.hr r)) fun y v h2 r2 q2 => AE.bind (rel := VB false c.hd) (AE.ofR ((H.hr r).hr r2).ok fun d h3 e =>
    let z := o _ _ _ _ _ _ (q.hr r2).va q2.va d h3 e
    ⟨d, z.1, rfl, z.2⟩) fun z z' h3 r3 q3 => AE.bind (ae_isB (((H.hr r).hr r2).hr r3).ok q3.va) fun k k' h4 r4 q4 => by
    subst q4
    have H4 := (((H.hr r).hr r2).hr r3).hr r4
    cases k with
    | true =>
      show AE c.hd h4 (VB false c.hd) ((a3 S h4).bind fun w h5 => g y w h5) (A3.bind fun w => Y.ofR (g v w []))
      exact AE.bind (p3 h4 H4) fun w w' h5 r5 q5 => AE.ofR (H4.hr r5).ok fun d h6 e =>
        let z := o2 _ _ _ _ _ _ (((q2.hr r3).hr r4).hr r5).va q5.va d h6 e
        ⟨d, z.1, rfl, z.2⟩
    | false => exact AE.ok H4.ok ⟨rfl, trivial⟩
/-! ### slices -/
def oY (d : D) : Y (Option Int) := match d with
  | .int i => Y.pure (some i)
  | _ => Y.bad
@[simp] theorem oY_int (i : Int) : oY (.int i) = Y.pure (some i) := Eq.trans rfl rfl
theorem xo_n : XO c S oN (Y.pure none) := fun h H => AE.ok H.ok rfl
theorem xo_s {a : Ex} {A : Y D} (p : XE b c S a A) : XO c S (oS a) (A.bind oY) := fun h H => AE.bind (p h H) fun x u h1 r q => by
  cases u with
  | int i => have := q.va.int; subst this; exact AE.ok (H.hr r).ok rfl
  | _ => exact AE.bad
theorem cut_mem {α : Type} {xs : List α} {l u : Option Int} {x : α} (h : x ∈ cut xs l u) : x ∈ xs := List.mem_of_mem_drop (List.mem_of_mem_take h)
def cutY (d : D) (l u : Option Int) : Y D := Y.ofR (cutD d l u [])
@[simp] theorem cutY_tup (xs : List D) (l u : Option Int) : cutY (.tup xs) l u = Y.pure (.tup (cut xs l u)) := Eq.trans rfl rfl
@[simp] theorem cutY_fz (xs : List D) (l u : Option Int) : cutY (.fz xs) l u = Y.pure (.fz (cut xs l u)) := Eq.trans rfl rfl
theorem ae_cut {hd : Option Nat} {h : Hh} {x v : D} {l u : Option Int} (o : HOk hd h) (a : VA hd h x v) : AE hd h (VB false hd) (cutD x l u h) (cutY v l u) := AE.ofR o fun d h2 e => by
  cases a with
  | val q => cases x with
    | tup xs => cases e; exact ⟨_, rfl, rfl, cls.sub q fun y hy => cut_mem hy⟩
    | fz xs => cases e; exact ⟨_, rfl, rfl, cls.sub q fun y hy => cut_mem hy⟩
    | ref k => exact absurd q (Nat.not_lt_zero _)
    | str z =>
      unfold cutD at e ⊢
      dsimp only at e ⊢
      split at e
      · rename_i w; cases e; rw [if_pos w]; exact ⟨_, rfl, rfl, trivial⟩
      · cases e
    | _ => cases e
  | lst n q w => cases e; exact ⟨_, by unfold cutD; dsimp only; rw [q], rfl, cls.sub w fun y hy => cut_mem hy⟩
  | dic n q w => cases e
theorem xe_sl {a : Ex} {lo hi : Os} {A : Y D} {L U : Y (Option Int)} (p : XE b c S a A) (pl : XO c S lo L) (pu : XO c S hi U) : XE false c S (eSl a lo hi) (A.bind fun d => L.bind fun l => U.bind fun u => cutY d l u) := fun h H =>
  AE.bind (p h H) fun x v h1 r q => AE.bind (pl h1 (H.hr r)) fun l l' h2 r2 q2 => AE.bind (pu h2 ((H.hr r).hr r2)) fun u u' h3 r3 q3 => by
    subst q2; subst q3
    exact ae_cut (((H.hr r).hr r2).hr r3).ok (((q.hr r2).hr r3).va)
def itemsY (d : D) : Y (List D) := match lsD d [] with
  | some xs => Y.pure xs
  | none => Y.bad
@[simp] theorem itemsY_fz (xs : List D) : itemsY (.fz xs) = Y.pure xs := Eq.trans rfl rfl
theorem xf_sl {a : Ex} {lo hi : Os} {A : Y D} {L U : Y (Option Int)} (p : XE b c S a A) (pl : XO c S lo L) (pu : XO c S hi U) : XF c S (aSl a lo hi) (A.bind fun d => L.bind fun l => U.bind fun u => (itemsY d).bind fun xs => Y.pure (cut xs l u)) := fun h H =>
  AE.bind (p h H) fun x v h1 r q => AE.bind (pl h1 (H.hr r)) fun l l' h2 r2 q2 => AE.bind (pu h2 ((H.hr r).hr r2)) fun u u' h3 r3 q3 => by
    subst q2; subst q3
    unfold itemsY
    cases z : lsD v [] with
    | none => exact AE.bad
    | some xs =>
      rw [(((q.hr r2).hr r3).va.lsD z).1]
      exact AE.ok (((H.hr r).hr r2).hr r3).ok ⟨rfl, cls.sub (q.va.lsD z).2 fun y hy => cut_mem hy⟩
theorem xf_cat {a a2 : Ex} {A A2 : Y D} (p : XE b1 c S a A) (p2 : XE b2 c S a2 A2) : XF c S (aCat a a2) (A.bind fun x => A2.bind fun y => (itemsY x).bind fun xs => (itemsY y).bind fun ys => Y.need (xs.length + ys.length ≤ big) (Y.pure (xs ++ ys))) := fun h H =>
  AE.bind (p h H) fun x u h1 r q => AE.bind (p2 h1 (H.hr r)) fun y v h2 r2 q2 => by
    unfold itemsY
    cases z : lsD u [] with
    | none => exact AE.bad
    | some xs =>
      rw [((q.hr r2).va.lsD z).1]
      cases z2 : lsD v [] with
      | none => exact AE.bad
      | some ys =>
        rw [(q2.va.lsD z2).1]
        exact AE.need fun w => by
          dsimp only
          rw [if_pos w]
          exact AE.ok ((H.hr r).hr r2).ok ⟨rfl, (q.va.lsD z).2.app (q2.va.lsD z2).2⟩
def repY (xs : List D) (d : D) : Y (List D) := match d with
  | .int k => Y.need (-(2 ^ 63) ≤ k ∧ k < 2 ^ 63 ∧ xs.length * k.toNat ≤ big) (Y.pure (List.replicate k.toNat xs).flatten)
  | _ => Y.bad
theorem xf_rep {a a2 : Ex} {A A2 : Y D} (p : XE b1 c S a A) (p2 : XE b2 c S a2 A2) : XF c S (aRep a a2) (A.bind fun x => A2.bind fun y => (itemsY x).bind fun xs => repY xs y) := fun h H =>
  AE.bind (p h H) fun x u h1 r q => AE.bind (p2 h1 (H.hr r)) fun y v h2 r2 q2 => by
    unfold itemsY
    cases z : lsD u [] with
    | none => exact AE.bad
    | some xs =>
      rw [((q.hr r2).va.lsD z).1]
      cases v with
      | int k =>
        have := q2.va.int
        subst this
        exact AE.need fun w => by
          dsimp only
          rw [if_pos w]
          refine AE.ok ((H.hr r).hr r2).ok ⟨rfl, cls_iff.mpr fun d hd => ?_⟩
          obtain ⟨l, hl, hm⟩ := List.mem_flatten.mp hd
          rw [(List.mem_replicate.mp hl).2] at hm
          exact cls.mem (q.va.lsD z).2 hm
      | _ => exact AE.bad
def sortY (d : D) : Y (List D) := match rowV d [] with
  | some xs => Y.need (sortOk xs) (Y.pure (xs.mergeSort dle))
  | none => Y.bad
theorem xf_sort {a : Ex} {A : Y D} (p : XE b c S a A) : XF c S (aSort a) (A.bind sortY) := fun h H => AE.bind (p h H) fun x u h1 r q => by
  unfold sortY
  cases z : rowV u [] with
  | none => exact AE.bad
  | some xs =>
    rw [(q.va.rowV z).1]
    exact AE.need fun w => by
      dsimp only
      rw [if_pos w]
      exact AE.ok (H.hr r).ok ⟨rfl, cls.sub (q.va.rowV z).2 fun y hy => List.mem_mergeSort.mp hy⟩
theorem xe_z {l : As} {A : Y (List D)} (p : XF c S l A) : XE false c S (eZ l) (A.bind fun xs => Y.pure (.fz xs)) := fun h H => AE.bind (p h H) fun x u h1 r q => AE.ok (H.hr r).ok ⟨by rw [q.1], q.2⟩
/-! ### uses of rows -/
def OpL (F : List D → Hh → R D) : Prop := ∀ xs h, cls xs → ∀ d h2, F xs [] = .ok d h2 → F xs h = .ok d h ∧ d.cl
theorem ol_tup : OpL tupL := fun xs h q d h2 e => by cases e; exact ⟨rfl, q⟩
theorem ol_sum : OpL sumL := fun xs h q d h2 e => by
  unfold sumL at e ⊢
  cases z : intsI xs with
  | none => rw [z] at e; cases e
  | some ns => rw [z] at e; cases e; exact ⟨rfl, trivial⟩
theorem ol_all : OpL allL := fun xs h q d h2 e => by
  unfold allL at e ⊢
  cases z : boolsD xs with
  | none => rw [z] at e; cases e
  | some ns => rw [z] at e; cases e; exact ⟨rfl, trivial⟩
theorem ol_any : OpL anyL := fun xs h q d h2 e => by
  unfold anyL at e ⊢
  cases z : boolsD xs with
  | none => rw [z] at e; cases e
  | some ns => rw [z] at e; cases e; exact ⟨rfl, trivial⟩
theorem xe_uf {F : List D → Hh → R D} {l : As} {A : Y (List D)} (o : OpL F) (p : XF c S l A) : XE false c S (eUF F l) (A.bind fun xs => Y.ofR (F xs [])) := fun h H => AE.bind (p h H) fun x u h1 r q => by
  rw [q.1]
  exact AE.ofR (H.hr r).ok fun d h2 e => ⟨d, (o _ _ q.2 d h2 e).1, rfl, (o u h1 q.2 d h2 e).2⟩
theorem xe_u {F : List D → Hh → R D} {l : Ls} {A : Y (List D)} (o : OpL F) (p : XR wk c S l A) : XE false c S (eU F l) (A.bind fun xs => Y.ofR (F xs [])) := fun h H => AE.bind (p h H) fun x u h1 r q => by
  rw [q.1]
  exact AE.ofR (H.hr r).ok fun d h2 e => ⟨d, (o _ _ q.2.1 d h2 e).1, rfl, (o u h1 q.2.1 d h2 e).2⟩
/-! ### rows -/
theorem xr_e {a : Ex} {A : Y D} (p : XE false c S a A) : XR wk c S (lE a) (A.bind rowY) := fun h H => AE.bind (p h H) fun x u h1 r q => by
  obtain ⟨rfl, q⟩ := q
  cases x with
  | tup xs => exact AE.ok (H.hr r).ok ⟨rfl, q, fun z hz => by simp at hz⟩
  | fz xs => exact AE.ok (H.hr r).ok ⟨rfl, q, fun z hz => by simp at hz⟩
  | ref k => exact absurd q (Nat.not_lt_zero _)
  | _ => exact AE.bad
/-- a thing that changes -/
theorem xr_m {i j k : Nat} {xs : List D} (e : S[i]? = some (some (.ref k))) (m : c.ms[j]? = some (k, .lst xs)) (q : cls xs) : XR [(k, .lst xs)] c S (lE (eV i)) (Y.pure xs) := fun h H => by
  show AE c.hd h _ ((match S[i]? with
    | some (some d) => R.ok d h
    | _ => .bad).bind itD) _
  rw [e]
  show AE c.hd h _ (itD (.ref k) h) _
  rw [itD_ref, H.at_ _ (List.mem_of_getElem? m)]
  exact AE.ok H.ok ⟨rfl, q, fun z hz => .inl hz⟩
/-- an argument that may be such -/
theorem xr_p {i : Nat} {v d : D} (e : S[i]? = some (some v)) (a : VB b c.hd c.h0 v d) : XR wk c S (lE (eV i)) (rowY d) := fun h H => by
  show AE c.hd h _ ((match S[i]? with
    | some (some d) => R.ok d h
    | _ => .bad).bind itD) _
  rw [e]
  show AE c.hd h _ (itD v h) _
  cases a.va with
  | val q => cases v with
    | tup xs => exact AE.ok H.ok ⟨rfl, q, fun z hz => by simp at hz⟩
    | fz xs => exact AE.ok H.ok ⟨rfl, q, fun z hz => by simp at hz⟩
    | ref k => exact absurd q (Nat.not_lt_zero _)
    | _ => exact AE.bad
  | lst n q w =>
    rename_i k xs
    have hk := (List.getElem?_eq_some_iff.mp q).1
    rw [itD_ref, H.fx.same _ hk n, q]
    exact AE.ok H.ok ⟨rfl, w, fun z hz => by
      rw [List.mem_singleton.mp hz]
      exact .inr ⟨hk, n, q⟩⟩
  | dic n q w => exact AE.bad
theorem xr_f {l : As} {A : Y (List D)} (p : XF c S l A) : XR wk c S (lF l) A := fun h H => by
  have := AE.bind (rel2 := fun _ (p : Lv) xs => p.1 = xs ∧ cls xs ∧ ∀ q ∈ p.2, Wk wk c q) (p h H) (k := fun ds h1 => R.ok (ds, []) h1) (l := Y.pure) fun xs us h1 r q => AE.ok (H.hr r).ok ⟨q.1, q.2, fun z hz => by simp at hz⟩
  rwa [Y.bind_pure] at this
def r1Y (d : D) : Y (List D) := match d with
  | .int j => Y.need (-(2 ^ 62) ≤ j ∧ j < 2 ^ 62) (Y.pure ((List.range j.toNat).map fun i => D.int (i : Nat)))
  | _ => Y.bad
theorem r1Y_nat (n : Nat) (hn : n < 2 ^ 62) : r1Y (.int n) = Y.pure ((List.range n).map fun i => D.int (i : Nat)) := by
  show Y.need _ _ = _
  rw [Y.need_pos ⟨by omega, by omega⟩]
  rfl
theorem xr_r1 {a : Ex} {A : Y D} (p : XE b c S a A) : XR wk c S (lR1 a) (A.bind r1Y) := fun h H => AE.bind (p h H) fun x u h1 r q => by
  cases u with
  | int j =>
    have := q.va.int
    subst this
    exact AE.need fun w => by
      dsimp only
      rw [if_pos w]
      exact AE.ok (H.hr r).ok ⟨rfl, cls.ints _ _, fun z hz => by simp at hz⟩
  | _ => exact AE.bad
def r2Y (d e : D) : Y (List D) := match d, e with
  | .int i, .int j => Y.need ((-(2 ^ 62) ≤ i ∧ i < 2 ^ 62) ∧ -(2 ^ 62) ≤ j ∧ j < 2 ^ 62) (Y.pure ((List.range (j - i).toNat).map fun t => D.int (i + (t : Nat))))
  | _, _ => Y.bad
theorem xr_r2 {a a2 : Ex} {A A2 : Y D} (p : XE b1 c S a A) (p2 : XE b2 c S a2 A2) : XR wk c S (lR2 a a2) (A.bind fun x => A2.bind fun y => r2Y x y) := fun h H => AE.bind (p h H) fun x u h1 r q => AE.bind (p2 h1 (H.hr r)) fun y v h2 r2 q2 => by
  cases u with
  | int i => cases v with
    | int j =>
      have := q.va.int
      subst this
      have := q2.va.int
      subst this
      exact AE.need fun w => by
        dsimp only
        rw [if_pos w]
        exact AE.ok ((H.hr r).hr r2).ok ⟨rfl, cls.ints _ _, fun z hz => by simp at hz⟩
    | _ => exact AE.bad
  | _ => exact AE.bad
theorem cls_enum : ∀ {xs : List D} (k : Nat), cls xs → cls (enumL k xs)
  | [], _, _ => trivial
  | x :: xs, k, h => ⟨⟨trivial, h.1, trivial⟩, cls_enum (k + 1) h.2⟩
theorem cls_zip : ∀ {xs ys : List D}, cls xs → cls ys → cls (zipL xs ys)
  | [], _, _, _ => trivial
  | _ :: _, [], _, _ => trivial
  | x :: xs, y :: ys, h, k => ⟨⟨h.1, k.1, trivial⟩, cls_zip h.2 k.2⟩
theorem xr_en {l : Ls} {A : Y (List D)} (p : XR wk c S l A) : XR wk c S (lEn l) (A.bind fun xs => Y.pure (enumL 0 xs)) := fun h H => AE.bind (p h H) fun x u h1 r q => AE.ok (H.hr r).ok ⟨by rw [q.1], cls_enum 0 q.2.1, q.2.2⟩
theorem Wk.still {wk : List (Nat × O)} {c : Ct} {h : Hh} (f : Fx c.hd c.h0 h) (w : ∀ q ∈ wk, h[q.1]? = some q.2) : ∀ {src : Src}, (∀ q ∈ src, Wk wk c q) → still src h
  | [], _ => trivial
  | p :: r, e => ⟨by
      rcases e p List.mem_cons_self with q | ⟨q1, q2, q3⟩
      · exact w p q
      · rw [f.same _ q1 q2]; exact q3, Wk.still f w fun q hq => e q (List.mem_cons_of_mem _ hq)⟩
theorem xr_zip {l m : Ls} {A A2 : Y (List D)} (hw : ∀ q ∈ wk, q ∈ c.ms) (p : XR wk c S l A) (p2 : XR wk c S m A2) : XR wk c S (lZip l m) (A.bind fun xs => A2.bind fun ys => Y.pure (zipL xs ys)) := fun h H => AE.bind (p h H) fun x u h1 r q => AE.bind (p2 h1 (H.hr r)) fun y v h2 r2 q2 => by
  have H2 := (H.hr r).hr r2
  rw [if_pos (Wk.still H2.fx (fun q hq => H2.at_ q (hw q hq)) q.2.2)]
  exact AE.ok H2.ok ⟨by rw [q.1, q2.1], cls_zip q.2.1 q2.2.1, fun z hz => by
    rcases List.mem_append.mp hz with k | k
    · exact q.2.2 z k
    · exact q2.2.2 z k⟩
/-! ### comprehensions -/
def elR (g : Tg) (t : Tt) (e : Ex) (x : D) : Sg → Hh → R (Option D) := fun S h => match g x S h with
  | .nx S1 h1 => (t S1 h1).calm.bind fun k h2 => if k = true then (e S1 h2).calm.bind fun d h3 => .ok (some d) h3 else .ok none h2
  | _ => .bad
abbrev XEl (c : Ct) (S : Sg) (a : Sg → Hh → R (Option D)) (A : Y (Option D)) : Prop := XG c (fun _ x u => x = u ∧ ∀ d, u = some d → d.cl) S a A
def elY (T : Y Bool) (A : Y D) : Y (Option D) := T.calm.bind fun k => if k = true then A.calm.bind fun d => Y.pure (some d) else Y.pure none
theorem el_v {g : Tg} {t : Tt} {e : Ex} {x : D} {S1 : Sg} {T : Y Bool} {A : Y D} (hg : ∀ h, g x S h = .nx S1 h) (pt : XT c S1 t T) (pe : XE false c S1 e A) : XEl c S (elR g t e x) (elY T A) := fun h H => by
  unfold elR
  rw [hg]
  refine AE.bind (AE.calm (pt h H)) fun k k' h1 r q => ?_
  subst q
  cases k with
  | true =>
    show AE c.hd h1 _ ((e S1 h1).calm.bind fun d h3 => R.ok (some d) h3) (A.calm.bind fun d => Y.pure (some d))
    exact AE.bind (AE.calm (pe h1 (H.hr r))) fun d d' h2 r2 q2 => AE.ok r2.ok ⟨by rw [q2.1], fun z hz => by cases hz; exact q2.2⟩
  | false => exact AE.ok r.ok ⟨rfl, fun z hz => by cases hz⟩
/-- a tuple taken apart -/
theorem xg_un2 {α β : Type} {rel : Hh → α → β → Prop} (r : D → Sg → Hh → R α) {x : D} {k : D → D → Y β} (q : x.cl) (p : ∀ a b, a.cl → b.cl → XG c rel S (r (.tup [a, b])) (k a b)) : XG c rel S (r x) (un2 x k) := fun h H => by
  unfold un2
  split
  · rename_i a b; exact p a b q.1 q.2.1 h H
  · exact AE.bad
theorem xg_un3 {α β : Type} {rel : Hh → α → β → Prop} (r : D → Sg → Hh → R α) {x : D} {k : D → D → D → Y β} (q : x.cl) (p : ∀ a b d, a.cl → b.cl → d.cl → XG c rel S (r (.tup [a, b, d])) (k a b d)) : XG c rel S (r x) (un3 x k) := fun h H => by
  unfold un3
  split
  · rename_i a b d; exact p a b d q.1 q.2.1 q.2.2.1 h H
  · exact AE.bad
theorem lcM_step {src : Src} {vs : List Nat} {g : Tg} {t : Tt} {e : Ex} {x : D} {xs : List D} {h : Hh} {acc : List D} (st : still src h) (hl : acc.length < big) : lcM src vs g t e S (x :: xs) h acc = (elR g t e x (PV.wipe S vs) h).bind fun o h' => lcM src vs g t e S xs h' (match o with
    | some d => acc ++ [d]
    | none => acc) := by
  rw [lcM, if_pos st]
  unfold elR
  cases z : g x (PV.wipe S vs) h with
  | nx S1 h1 =>
    dsimp only
    cases z2 : t S1 h1 with
    | ok k h2 =>
      cases k with
      | true =>
        show (if true = true then (e S1 h2).calm.bind fun d h3 => if acc.length < big then lcM src vs g t e S xs h3 (acc ++ [d]) else .bad else lcM src vs g t e S xs h2 acc) = _
        rw [if_pos rfl]
        cases z3 : e S1 h2 with
        | ok d h3 => 
          show (if acc.length < big then lcM src vs g t e S xs h3 (acc ++ [d]) else .bad) = _
          rw [if_pos hl]
          show _ = ((if true = true then (e S1 h2).calm.bind fun d h3 => R.ok (some d) h3 else R.ok none h2).bind _)
          rw [if_pos rfl, z3]
          rfl
        | exc cc fs h3 =>
          show _ = ((if true = true then (e S1 h2).calm.bind fun d h3 => R.ok (some d) h3 else R.ok none h2).bind _)
          rw [if_pos rfl, z3]
          rfl
        | bad =>
          show _ = ((if true = true then (e S1 h2).calm.bind fun d h3 => R.ok (some d) h3 else R.ok none h2).bind _)
          rw [if_pos rfl, z3]
          rfl
      | false => rfl
    | exc cc fs h2 => rfl
    | bad => rfl
  | _ => rfl
theorem xf_lc {la : Ls} {vs : List Nat} {g : Tg} {t : Tt} {e : Ex} {A : Y (List D)} {f : D → Y (Option D)} (hw : ∀ q ∈ wk, q ∈ c.ms) (p : XR wk c S la A) (pe : ∀ x, x.cl → XEl c (PV.wipe S vs) (elR g t e x) (f x)) : XF c S (lLc la vs g t e) (A.bind fun xs => lcY xs f) := fun h H => AE.bind (p h H) fun x u h1 r q => AE.need fun hl => by
  obtain ⟨xs, src⟩ := x
  obtain ⟨rfl, hc, hs⟩ := q
  dsimp only at hc hs hl ⊢
  have key : ∀ (xs : List D) (acc : List D) (h : Hh), HI c h → cls xs → acc.length + xs.length ≤ big → AE c.hd h (fun _ a b => a = acc ++ b ∧ cls b) (lcM src vs g t e S xs h acc) (compY xs f) := by
    intro xs
    induction xs with
    | nil =>
      intro acc h H _ _
      rw [lcM, if_pos (Wk.still H.fx (fun q hq => H.at_ q (hw q hq)) hs)]
      exact AE.ok H.ok ⟨by simp, trivial⟩
    | cons x xs ih =>
      intro acc h H hc hl
      rw [List.length_cons] at hl
      rw [lcM_step (Wk.still H.fx (fun q hq => H.at_ q (hw q hq)) hs) (by omega)]
      refine AE.bind (pe x hc.1 h H) fun o o' h2 r2 q2 => ?_
      obtain ⟨rfl, q2⟩ := q2
      cases o with
      | some d =>
        have := AE.bind (rel2 := fun _ (a b : List D) => a = acc ++ b ∧ cls b) (ih (acc ++ [d]) h2 (H.hr r2) hc.2 (by rw [List.length_append]; simp; omega)) (k := fun a h => R.ok a h) (l := fun r => Y.pure (d :: r)) fun a b h3 r3 q3 => AE.ok r3.ok ⟨by rw [q3.1]; simp, q2 d rfl, q3.2⟩
        have e : ∀ z : R (List D), z.bind (fun a h => R.ok a h) = z := fun z => by cases z <;> rfl
        rwa [e] at this
      | none =>
        have := ih acc h2 (H.hr r2) hc.2 (by omega)
        have e : (compY xs f).bind (fun r => Y.pure r) = compY xs f := rfl
        dsimp only
        rw [e]
        exact this
  have := key xs [] h1 (H.hr r) hc (by rw [List.length_nil]; omega)
  exact this.mono fun _ a b z => ⟨by rw [z.1]; rfl, z.2⟩
end
end PV
set_option Elab.async false
set_option linter.all false
set_option autoImplicit false
set_option maxRecDepth 100000
set_option maxHeartbeats 2000000
/-! PYS: the rules of statements, defs, calls. -/
namespace PV
open PySem (Str PyData)
def RetV (h0 h : Hh) (v d : D) : Prop := (v = d ∧ d.cl) ∨ ∃ k o, v = .ref k ∧ h0.length ≤ k ∧ h[k]? = some o ∧ o.bel 0 ∧ d = o.fz
def Rt (c : Ct) (v : D) (h : Hh) (R : D → Prop) : Prop := Fx c.hd c.h0 h ∧ ∃ d, RetV c.h0 h v d ∧ R d
def AB {σ : Type} (c : Ct) (K : σ → Sg → Hh → Prop) (r : RS) (w : YS σ) : Prop := ∀ N R E, w N R E → r.wx (fun S' h' => ∃ s, K s S' h' ∧ N s) (fun v h' => Rt c v h' R) fun cc fs h' => Fx c.hd c.h0 h' ∧ clF fs ∧ E cc fs
def XB {σ : Type} (c : Ct) (S : Sg) (K : σ → Sg → Hh → Prop) (b : St) (w : YS σ) : Prop := ∀ h, HI c h → AB c K (b S h) w
section
variable {σ τ α β : Type} {c c' : Ct} {S : Sg} {b b1 b2 b3 : Bool} {wk : List (Nat × O)} {K : σ → Sg → Hh → Prop} {L : τ → Sg → Hh → Prop} {st : St}
theorem into_bind {γ : Type} (r : R γ) (S : Sg) (k : γ → Hh → RS) (l : Sg → Hh → RS) : (r.into S k).bind l = r.into S fun a h => (k a h).bind l := by cases r <;> rfl
theorem AB.get {h : Hh} {rel : Hh → α → β → Prop} {r : R α} {A : Y β} {k : α → Hh → RS} {l : β → YS σ} (H : HI c h) (a : AE c.hd h rel r A) (p : ∀ x u h', HI c h' → rel h' x u → AB c K (k x h') (l u)) : AB c K (r.into S k) (YS.get A l) := fun N R E w => by
  have q := a _ _ w
  cases r with
  | ok x h1 => obtain ⟨hr, u, rr, q⟩ := q; exact p x u h1 (H.hr hr) rr _ _ _ q
  | exc cc fs h1 => exact ⟨H.fx.hr q.1, q.2⟩
  | bad => exact q
theorem AB.need {p : Prop} {r : RS} {w : YS σ} (a : p → AB c K r w) : AB c K r (YS.need p w) := fun N R E q => a q.1 N R E q.2
theorem AB.bad {r : RS} : AB c K r (YS.bad : YS σ) := fun N R E q => False.elim q
theorem xb_one {a : St} {w : YS σ} (p : XB c S K (sSeq a sNil) w) : XB c S K a w := fun h H => by
  have e : sSeq a sNil S h = a S h := by
    show (a S h).bind sNil = _
    cases a S h <;> rfl
  have := p h H
  rwa [e] at this
theorem xb_nx {s : σ} (k : ∀ h, HI c h → K s S h) : XB c S K sNil (YS.nx s) := fun h H N R E w => ⟨s, k h H, w⟩
theorem xb_bad : XB c S K st (YS.bad : YS σ) := fun h H => AB.bad
theorem xb_set {i : Nat} {a : Ex} {A : Y D} {k : D → YS σ} (p : XE false c S a A) (q : ∀ x, x.cl → XB c (S.set i (some x)) K st (k x)) : XB c S K (sSeq (sSet i a) st) (YS.get A k) := fun h H => by
  show AB c K (((a S h).into S fun d h1 => .nx (S.set i (some d)) h1).bind st) _
  rw [into_bind]
  exact AB.get H (p h H) fun x u h1 H1 e => by
    rw [e.1]
    exact q u e.2 h1 H1
theorem xb_drop {a : Ex} {A : Y D} {k : D → YS σ} (p : XE b c S a A) (q : ∀ x, XB c S K st (k x)) : XB c S K (sSeq (sDrop a) st) (YS.get A k) := fun h H => by
  show AB c K (((a S h).into S fun _ h1 => .nx S h1).bind st) _
  rw [into_bind]
  exact AB.get H (p h H) fun x u h1 H1 e => q u h1 H1
/-- a new list, dict that changes -/
theorem xb_setL {i : Nat} {l : As} {A : Y (List D)} {k : List D → YS σ} (p : XF c S l A) (q : ∀ xs n, cls xs → XB { c with ms := (n, .lst xs) :: c.ms } (S.set i (some (.ref n))) K st (k xs)) : XB c S K (sSeq (sSet i (eL l)) st) (YS.get A k) := fun h H => by
  show AB c K ((((l S h).bind fun ds h1 => R.ok (D.ref h1.length) (h1 ++ [O.lst ds])).into S fun d h1 => .nx (S.set i (some d)) h1).bind st) _
  have e : ((((l S h).bind fun ds h1 => R.ok (D.ref h1.length) (h1 ++ [O.lst ds])).into S fun d h1 => RS.nx (S.set i (some d)) h1).bind st) = (l S h).into S fun ds h1 => st (S.set i (some (D.ref h1.length))) (h1 ++ [O.lst ds]) := by cases l S h <;> rfl
  rw [e]
  exact AB.get H (p h H) fun x u h1 H1 e => by
    rw [e.1]
    exact q u h1.length e.2 _ (H1.push _)
theorem xb_setD {i : Nat} {l : Ad} {A : Y (List (D × D))} {k : List (D × D) → YS σ} (p : XKd c S l A) (q : ∀ xs n, (∀ p ∈ xs, p.1.cl ∧ p.2.cl) → XB { c with ms := (n, .dic xs) :: c.ms } (S.set i (some (.ref n))) K st (k xs)) : XB c S K (sSeq (sSet i (eDL l)) st) (YS.get A k) := fun h H => by
  show AB c K ((((l S h).bind fun ds h1 => R.ok (D.ref h1.length) (h1 ++ [O.dic ds])).into S fun d h1 => .nx (S.set i (some d)) h1).bind st) _
  have e : ((((l S h).bind fun ds h1 => R.ok (D.ref h1.length) (h1 ++ [O.dic ds])).into S fun d h1 => RS.nx (S.set i (some d)) h1).bind st) = (l S h).into S fun ds h1 => st (S.set i (some (D.ref h1.length))) (h1 ++ [O.dic ds]) := by cases l S h <;> rfl
  rw [e]
  exact AB.get H (p h H) fun x u h1 H1 e => by
    rw [e.1]
    exact q u h1.length e.2 _ (H1.push _)
theorem eV_at {i : Nat} {S : Sg} {h : Hh} {d : D} (e : S[i]? = some (some d)) : eV i S h = .ok d h := by
  show (match S[i]? with
    | some (some d) => R.ok d h
    | _ => .bad) = _
  rw [e]
/-- xs.append(v) -/
theorem xb_app {i j n : Nat} {xs : List D} {a : Ex} {A : Y D} {k : D → YS σ} (e : S[i]? = some (some (.ref n))) (m : c.ms[j]? = some (n, .lst xs)) (p : XE false c S a A) (q : ∀ x, x.cl → XB { c with ms := c.ms.set j (n, .lst (xs ++ [x])) } S K st (k x)) : XB c S K (sSeq (sDrop (eM "list" appD (eV i) (aC a aN))) st) (YS.get A fun x => YS.need (xs.length < big) (k x)) := fun h H => by
  have hn := H.at_ _ (List.mem_of_getElem? m)
  have z : sSeq (sDrop (eM "list" appD (eV i) (aC a aN))) st S h = (a S h).into S fun d h1 => (appD (.ref n) [d] h1).into S fun _ h2 => st S h2 := by
    show ((((eV i S h).bind fun d h1 => if tkOf h1 d = some (.bi "list") then ((a S h1).bind fun x h1 => (R.ok [] h1).bind fun xs h2 => .ok (x :: xs) h2).bind fun ds h2 => appD d ds h2 else .bad).into S fun _ h1 => .nx S h1).bind st) = _
    rw [eV_at e]
    show (((if tkOf h (.ref n) = some (.bi "list") then ((a S h).bind fun x h1 => (R.ok [] h1).bind fun xs h2 => .ok (x :: xs) h2).bind fun ds h2 => appD (.ref n) ds h2 else R.bad).into S fun _ h1 => RS.nx S h1).bind st) = _
    rw [if_pos (by unfold tkOf; dsimp only; rw [hn])]
    cases a S h with
    | ok d h1 => show ((appD (.ref n) [d] h1).into S fun _ h1 => RS.nx S h1).bind st = (appD (.ref n) [d] h1).into S fun _ h2 => st S h2; cases appD (.ref n) [d] h1 <;> rfl
    | _ => rfl
  rw [z]
  exact AB.get H (p h H) fun x u h1 H1 e1 => AB.need fun hl => by
    obtain ⟨rfl, cx⟩ := e1
    rw [appD_ref h1 (H1.at_ _ (List.mem_of_getElem? m)) hl]
    exact q x cx _ (H1.set m)
/-- xs[i] = v -/
def subY {σ : Type} (xs : List D) (y z : D) (k : List D → YS σ) : YS σ := match y with
  | .int i => match L2.ixN xs.length i with
    | some n => k (xs.set n z)
    | none => YS.bad
  | _ => YS.bad
theorem xb_sub {i j n : Nat} {xs : List D} {a v : Ex} {A V : Y D} {k : List D → YS σ} (e : S[i]? = some (some (.ref n))) (m : c.ms[j]? = some (n, .lst xs)) (cx : cls xs) (pv : XE false c S v V) (p : XE false c S a A) (q : ∀ ys, cls ys → XB { c with ms := c.ms.set j (n, .lst ys) } S K st (k ys)) : XB c S K (sSeq (sSub setA (eV i) a v) st) (YS.get V fun z => YS.get A fun y => subY xs y z k) := fun h H => by
  have z : sSeq (sSub setA (eV i) a v) st S h = (v S h).into S fun z h1 => (a S h1).into S fun y h3 => (setA (.ref n) y z h3).into S fun _ h4 => st S h4 := by
    show (((v S h).into S fun z h1 => (eV i S h1).into S fun x h2 => (a S h2).into S fun y h3 => (setA x y z h3).into S fun _ h4 => .nx S h4).bind st) = _
    cases v S h with
    | ok z h1 =>
      show (((eV i S h1).into S fun x h2 => (a S h2).into S fun y h3 => (setA x y z h3).into S fun _ h4 => .nx S h4).bind st) = _
      rw [eV_at e]
      show (((a S h1).into S fun y h3 => (setA (.ref n) y z h3).into S fun _ h4 => .nx S h4).bind st) = (a S h1).into S fun y h3 => (setA (.ref n) y z h3).into S fun _ h4 => st S h4
      rw [into_bind]
      congr 1
      funext y h3
      rw [into_bind]
      rfl
    | _ => rfl
  rw [z]
  exact AB.get H (pv h H) fun z z' h1 H1 e1 => AB.get H1 (p h1 H1) fun y y' h2 H2 e2 => by
    obtain ⟨rfl, cz⟩ := e1
    obtain ⟨rfl, cy⟩ := e2
    cases y with
    | int i =>
      show AB c K _ (match L2.ixN xs.length i with
        | some n => k (xs.set n z)
        | none => YS.bad)
      cases w : L2.ixN xs.length i with
      | none => exact AB.bad
      | some l =>
        have : setA (.ref n) (.int i) z h2 = .ok () (h2.set n (.lst (xs.set l z))) := by
          unfold setA
          dsimp only
          rw [H2.at_ _ (List.mem_of_getElem? m)]
          dsimp only
          unfold setD
          dsimp only
          rw [H2.at_ _ (List.mem_of_getElem? m)]
          dsimp only
          rw [w]
        rw [this]
        exact q _ (cls_iff.mpr fun d hd => by
          rcases List.mem_or_eq_of_mem_set hd with q | q
          · exact cls.mem cx q
          · rw [q]; exact cz) _ (H2.set m)
    | _ => exact AB.bad
/-- d[k] = v -/
theorem putK_cl {k v : D} {kvs : List (D × D)} (ck : k.cl) (cv : v.cl) (cx : ∀ p ∈ kvs, p.1.cl ∧ p.2.cl) : ∀ p ∈ putK k v kvs, p.1.cl ∧ p.2.cl := fun p hp => by
  unfold putK at hp
  split at hp
  · obtain ⟨q, hq, rfl⟩ := List.mem_map.mp hp
    split
    · exact ⟨(cx q hq).1, cv⟩
    · exact cx q hq
  · rcases List.mem_append.mp hp with q | q
    · exact cx p q
    · rw [List.mem_singleton.mp q]; exact ⟨ck, cv⟩
theorem xb_subD {i j n : Nat} {kvs : List (D × D)} {a v : Ex} {A V : Y D} {k : D → D → YS σ} (e : S[i]? = some (some (.ref n))) (m : c.ms[j]? = some (n, .dic kvs)) (cx : ∀ p ∈ kvs, p.1.cl ∧ p.2.cl) (pv : XE false c S v V) (p : XE false c S a A) (q : ∀ z y, z.cl → y.cl → XB { c with ms := c.ms.set j (n, .dic (putK y z kvs)) } S K st (k z y)) : XB c S K (sSeq (sSub setA (eV i) a v) st) (YS.get V fun z => YS.get A fun y => YS.need (fitK y kvs = true ∧ kvs.length < big) (k z y)) := fun h H => by
  have z : sSeq (sSub setA (eV i) a v) st S h = (v S h).into S fun z h1 => (a S h1).into S fun y h3 => (setA (.ref n) y z h3).into S fun _ h4 => st S h4 := by
    show (((v S h).into S fun z h1 => (eV i S h1).into S fun x h2 => (a S h2).into S fun y h3 => (setA x y z h3).into S fun _ h4 => .nx S h4).bind st) = _
    cases v S h with
    | ok z h1 =>
      show (((eV i S h1).into S fun x h2 => (a S h2).into S fun y h3 => (setA x y z h3).into S fun _ h4 => .nx S h4).bind st) = _
      rw [eV_at e]
      show (((a S h1).into S fun y h3 => (setA (.ref n) y z h3).into S fun _ h4 => .nx S h4).bind st) = (a S h1).into S fun y h3 => (setA (.ref n) y z h3).into S fun _ h4 => st S h4
      rw [into_bind]
      congr 1
      funext y h3
      rw [into_bind]
      rfl
    | _ => rfl
  rw [z]
  exact AB.get H (pv h H) fun z z' h1 H1 e1 => AB.get H1 (p h1 H1) fun y y' h2 H2 e2 => AB.need fun w => by
    obtain ⟨rfl, cz⟩ := e1
    obtain ⟨rfl, cy⟩ := e2
    have : setA (.ref n) y z h2 = .ok () (h2.set n (.dic (putK y z kvs))) := by
      unfold setA
      dsimp only
      rw [H2.at_ _ (List.mem_of_getElem? m)]
      dsimp only
      rw [if_pos w]
    rw [this]
    exact q z y cz cy _ (H2.set m)
/-- d.update(e), keys tuples -/
def updY {σ : Type} (kvs : List (D × D)) (e : D) (k : List (D × D) → YS σ) : YS σ := match dicOf e [] with
  | some more => YS.need (((kvs ++ more).all fun p => p.1.kd == 3) = true ∧ (kvs ≠ [] ∨ ∀ w, (more.map fun p => p.1.nk.map (·.hash w)).Nodup) ∧ kvs.length + more.length ≤ big) (k (putAll kvs more))
  | none => YS.bad
theorem putAll_cl : ∀ {more kvs : List (D × D)}, (∀ p ∈ kvs, p.1.cl ∧ p.2.cl) → (∀ p ∈ more, p.1.cl ∧ p.2.cl) → ∀ p ∈ putAll kvs more, p.1.cl ∧ p.2.cl
  | [], _, h, _ => h
  | m :: more, kvs, h, k => putAll_cl (more := more) (kvs := putK m.1 m.2 kvs) (putK_cl (k m List.mem_cons_self).1 (k m List.mem_cons_self).2 h) fun p hp => k p (List.mem_cons_of_mem _ hp)
theorem xb_upd {i j n : Nat} {kvs : List (D × D)} {a : Ex} {A : Y D} {k : List (D × D) → YS σ} (e : S[i]? = some (some (.ref n))) (m : c.ms[j]? = some (n, .dic kvs)) (cx : ∀ p ∈ kvs, p.1.cl ∧ p.2.cl) (p : XE false c S a A) (q : ∀ ys, (∀ p ∈ ys, p.1.cl ∧ p.2.cl) → XB { c with ms := c.ms.set j (n, .dic ys) } S K st (k ys)) : XB c S K (sSeq (sDrop (eM "dict" updT (eV i) (aC a aN))) st) (YS.get A fun x => updY kvs x k) := fun h H => by
  have hn := H.at_ _ (List.mem_of_getElem? m)
  have z : sSeq (sDrop (eM "dict" updT (eV i) (aC a aN))) st S h = (a S h).into S fun d h1 => (updT (.ref n) [d] h1).into S fun _ h2 => st S h2 := by
    show ((((eV i S h).bind fun d h1 => if tkOf h1 d = some (.bi "dict") then ((a S h1).bind fun x h1 => (R.ok [] h1).bind fun xs h2 => .ok (x :: xs) h2).bind fun ds h2 => updT d ds h2 else .bad).into S fun _ h1 => .nx S h1).bind st) = _
    rw [eV_at e]
    show (((if tkOf h (.ref n) = some (.bi "dict") then ((a S h).bind fun x h1 => (R.ok [] h1).bind fun xs h2 => .ok (x :: xs) h2).bind fun ds h2 => updT (.ref n) ds h2 else R.bad).into S fun _ h1 => RS.nx S h1).bind st) = _
    rw [if_pos (by unfold tkOf; dsimp only; rw [hn])]
    cases a S h with
    | ok d h1 => show ((updT (.ref n) [d] h1).into S fun _ h1 => RS.nx S h1).bind st = (updT (.ref n) [d] h1).into S fun _ h2 => st S h2; cases updT (.ref n) [d] h1 <;> rfl
    | _ => rfl
  rw [z]
  exact AB.get H (p h H) fun x u h1 H1 e1 => by
    obtain ⟨rfl, cx1⟩ := e1
    unfold updY
    cases w : dicOf x [] with
    | none => exact AB.bad
    | some more =>
      refine AB.need fun nd => ?_
      have va : VA c.hd h1 x x := .val cx1
      have nr : ∀ j, x = .ref j → j ≠ n := fun j q => by subst q; exact absurd cx1 (Nat.not_lt_zero _)
      have : updT (.ref n) [x] h1 = .ok .non (h1.set n (.dic (putAll kvs more))) := by
        unfold updT
        dsimp only
        rw [H1.at_ _ (List.mem_of_getElem? m), (va.dicOf w).1]
        dsimp only
        rw [if_pos ⟨nd.1, nd.2.1, nd.2.2, nr⟩]
      rw [this]
      exact q _ (putAll_cl cx (va.dicOf w).2) _ (H1.set m)
/-! ### branches, rows of statements, loops -/
theorem xb_if {t : Tt} {a a2 : St} {T : Y Bool} {w w2 : YS σ} (pt : XT c S t T) (p : XB c S K a w) (p2 : XB c S K a2 w2) : XB c S K (sIf t a a2) (YS.get T fun k => if k = true then w else w2) := fun h H => by
  refine AB.get H (pt h H) fun k k' h1 H1 e => ?_
  subst e
  cases k with
  | true => exact p h1 H1
  | false => exact p2 h1 H1
theorem xb_seq {L : τ → Sg → Hh → Prop} {a : St} {w : YS τ} {k : τ → YS σ} (p : XB c S L a w) (q : ∀ s S' h', L s S' h' → AB c K (st S' h') (k s)) : XB c S K (sSeq a st) (w.seq k) := fun h H N R E z => by
  have r := p h H _ _ _ z
  show ((a S h).bind st).wx _ _ _
  cases e : a S h with
  | nx S1 h1 => rw [e] at r; obtain ⟨s, kk, r⟩ := r; exact q s S1 h1 kk _ _ _ r
  | rt d h1 => rw [e] at r; exact r
  | exc cc fs S1 h1 => rw [e] at r; exact r
  | bad => rw [e] at r; exact r
def bodR (g : Tg) (body : St) (x : D) : Sg → Hh → RS := fun S h => (g x S h).bind body
theorem AB.bind {r : RS} {w : YS τ} {f : Sg → Hh → RS} {k : τ → YS σ} (p : AB c L r w) (q : ∀ s S' h', L s S' h' → AB c K (f S' h') (k s)) : AB c K (r.bind f) (w.seq k) := fun N R E z => by
  have r' := p _ _ _ z
  cases r with
  | nx S1 h1 => obtain ⟨s, kk, r'⟩ := r'; exact q s S1 h1 kk _ _ _ r'
  | rt d h1 => exact r'
  | exc cc fs S1 h1 => exact r'
  | bad => exact r'
theorem xb_for {L : τ → Sg → Hh → Prop} {la : Ls} {g : Tg} {body : St} {A : Y (List D)} {s0 : τ} {bd : D → τ → YS τ} {k : τ → YS σ} (p : XR wk c S la A) (init : ∀ h, HI c h → L s0 S h) (hfx : ∀ s S' h', L s S' h' → Fx c.hd c.h0 h') (hw : ∀ s S' h', L s S' h' → ∀ q ∈ wk, h'[q.1]? = some q.2)
    (pb : ∀ x s S' h', x.cl → L s S' h' → AB c L (bodR g body x S' h') (bd x s)) (q : ∀ s S' h', L s S' h' → AB c K (st S' h') (k s)) : XB c S K (sSeq (sFor la g body) st) (YS.get A fun xs => (forY xs s0 bd).seq k) := fun h H => by
  show AB c K (((la S h).into S fun p h1 => forM p.2 g body p.1 S h1).bind st) _
  rw [into_bind]
  refine AB.get H (p h H) fun x u h1 H1 e => ?_
  obtain ⟨xs, src⟩ := x
  obtain ⟨rfl, hc, hs⟩ := e
  dsimp only at hc hs ⊢
  refine AB.bind (L := L) ?_ q
  have key : ∀ (xs : List D) (s : τ) (S : Sg) (h : Hh), L s S h → cls xs → AB c L (forM src g body xs S h) (forY xs s bd) := by
    intro xs
    induction xs with
    | nil =>
      intro s S h l _ N R E w
      rw [forM, if_pos (Wk.still (hfx _ _ _ l) (hw _ _ _ l) hs)]
      exact ⟨s, l, w⟩
    | cons x xs ih =>
      intro s S h l hc
      rw [forM, if_pos (Wk.still (hfx _ _ _ l) (hw _ _ _ l) hs)]
      have e : (g x S h).bind (fun S1 h1 => (body S1 h1).bind fun S2 h2 => forM src g body xs S2 h2) = (bodR g body x S h).bind fun S2 h2 => forM src g body xs S2 h2 := by
        unfold bodR
        cases g x S h <;> rfl
      rw [e]
      exact AB.bind (pb x s S h hc.1 l) fun s2 S2 h2 l2 => ih s2 S2 h2 l2 hc.2
  exact key xs s0 S h1 (init h1 H1) hc
theorem xb_while {L : τ → Sg → Hh → Prop} {n : Nat} {t : Tt} {body : St} {s0 : τ} {T : τ → Y Bool} {bd : τ → YS τ} {k : τ → YS σ} (init : ∀ h, HI c h → L s0 S h) (hr : ∀ s S' h' h2, L s S' h' → HR c.hd h' h2 → L s S' h2) (hfx : ∀ s S' h', L s S' h' → Fx c.hd c.h0 h') (pt : ∀ s S' h', L s S' h' → AE c.hd h' (fun _ x u => x = u) (t S' h') (T s))
    (pb : ∀ s S' h', L s S' h' → AB c L (body S' h') (bd s)) (q : ∀ s S' h', L s S' h' → AB c K (st S' h') (k s)) : XB c S K (sSeq (sWhile n t body) st) ((whileY T bd n s0).seq k) := fun h H => by
  refine AB.bind (L := L) ?_ q
  have key : ∀ (n : Nat) (s : τ) (S : Sg) (h : Hh), L s S h → AB c L (whileM t body n S h) (whileY T bd n s) := by
    intro n
    induction n with
    | zero => intro s S h l; exact AB.bad
    | succ n ih =>
      intro s S h l N R E w
      have a := pt s S h l _ _ w
      show ((t S h).into S fun k h1 => if k = true then (body S h1).bind fun S2 h2 => whileM t body n S2 h2 else .nx S h1).wx _ _ _
      cases e : t S h with
      | ok kk h1 =>
        rw [e] at a
        obtain ⟨r, k', rfl, a⟩ := a
        have l1 := hr _ _ _ _ l r
        show (if kk = true then (body S h1).bind fun S2 h2 => whileM t body n S2 h2 else RS.nx S h1).wx _ _ _
        cases kk with
        | true => exact AB.bind (pb s S h1 l1) (fun s2 S2 h2 l2 => ih s2 S2 h2 l2) _ _ _ a
        | false => exact ⟨s, l1, a⟩
      | exc cc fs h1 => rw [e] at a; exact ⟨(hfx _ _ _ l).hr a.1, a.2⟩
      | bad => rw [e] at a; exact a
  exact key n s0 S h (init h H)
theorem xb_ret {a : Ex} {A : Y D} (p : XE false c S a A) : XB c S K (sRet a) (YS.ret A) := fun h H => by
  have := AB.get (K := K) (S := S) (l := fun u => YS.ret (Y.pure u)) (k := fun d h1 => RS.rt d h1) H (p h H) fun x u h1 H1 e N R E w => ⟨H1.fx, u, .inl e, w⟩
  exact this
theorem xb_retN : XB c S K sRetN (YS.ret (Y.pure .non)) := fun h H N R E w => ⟨H.fx, _, .inl ⟨rfl, trivial⟩, w⟩
/-- a thing that changed is handed back -/
theorem xb_retL {i j n : Nat} {xs : List D} (e : S[i]? = some (some (.ref n))) (m : c.ms[j]? = some (n, .lst xs)) (cx : cls xs) : XB c S K (sRet (eV i)) (YS.ret (Y.pure (.fz xs))) := fun h H N R E w => by
  show ((eV i S h).into S fun d h1 => RS.rt d h1).wx _ _ _
  rw [eV_at e]
  exact ⟨H.fx, _, .inr ⟨n, _, rfl, H.ge _ (List.mem_of_getElem? m), H.at_ _ (List.mem_of_getElem? m), cx, rfl⟩, w⟩
theorem xb_retD {i j n : Nat} {kvs : List (D × D)} (e : S[i]? = some (some (.ref n))) (m : c.ms[j]? = some (n, .dic kvs)) (cx : ∀ p ∈ kvs, p.1.cl ∧ p.2.cl) : XB c S K (sRet (eV i)) (YS.ret (Y.pure (.fd (kvs.map (·.1)) (kvs.map (·.2))))) := fun h H N R E w => by
  show ((eV i S h).into S fun d h1 => RS.rt d h1).wx _ _ _
  rw [eV_at e]
  exact ⟨H.fx, _, .inr ⟨n, _, rfl, H.ge _ (List.mem_of_getElem? m), H.at_ _ (List.mem_of_getElem? m), cx, rfl⟩, w⟩
/-- targets -/
theorem xb_asg {g : Tg} {a : Ex} {A : Y D} {k : D → YS σ} (p : XE false c S a A) (q : ∀ x, x.cl → XB c S K (bodR g st x) (k x)) : XB c S K (sSeq (sAsg a g) st) (YS.get A k) := fun h H => by
  show AB c K (((a S h).into S fun d h1 => g d S h1).bind st) _
  rw [into_bind]
  exact AB.get H (p h H) fun x u h1 H1 e => by
    rw [e.1]
    exact q u e.2 h1 H1
theorem xb_par {i j : Nat} {a a2 : Ex} {A A2 : Y D} {k : D → D → YS σ} (p : XE false c S a A) (p2 : XE false c S a2 A2) (q : ∀ x y, x.cl → y.cl → XB c ((S.set i (some x)).set j (some y)) K st (k x y)) : XB c S K (sSeq (sPar i j a a2) st) (YS.get A fun x => YS.get A2 fun y => k x y) := fun h H => by
  show AB c K (((a S h).into S fun x h1 => (a2 S h1).into S fun y h2 => .nx ((S.set i (some x)).set j (some y)) h2).bind st) _
  rw [into_bind]
  refine AB.get H (p h H) fun x u h1 H1 e => ?_
  rw [into_bind]
  refine AB.get H1 (p2 h1 H1) fun y v h2 H2 e2 => ?_
  rw [e.1, e2.1]
  exact q u v e.2 e2.2 h2 H2
/-- a tuple taken apart -/
theorem ab_go {g : Tg} {body : St} {x : D} {S1 : Sg} {h : Hh} {w : YS σ} (hg : g x S h = .nx S1 h) (p : AB c K (body S1 h) w) : AB c K (bodR g body x S h) w := by
  unfold bodR
  rw [hg]
  exact p
theorem ab_us2 (r : D → RS) {x : D} {k : D → D → YS σ} (q : x.cl) (p : ∀ a b, a.cl → b.cl → AB c K (r (.tup [a, b])) (k a b)) : AB c K (r x) (us2 x k) := by
  unfold us2
  split
  · rename_i a b; exact p a b q.1 q.2.1
  · exact AB.bad
theorem ab_us3 (r : D → RS) {x : D} {k : D → D → D → YS σ} (q : x.cl) (p : ∀ a b d, a.cl → b.cl → d.cl → AB c K (r (.tup [a, b, d])) (k a b d)) : AB c K (r x) (us3 x k) := by
  unfold us3
  split
  · rename_i a b d; exact p a b d q.1 q.2.1 q.2.2.1
  · exact AB.bad
end
/-! ### defs -/
theorem O.bel_mono {o : O} (n : Nat) (b : o.bel 0) : o.bel n := by
  cases o with
  | lst xs => exact cls.bels n b
  | dic kvs => exact fun p hp => ⟨D.cl.bel n (b p hp).1, D.cl.bel n (b p hp).2⟩
  | ins cc fs => exact fun p hp => D.cl.bel n (b p hp)
theorem O.fz_cl {o : O} (b : o.bel 0) : o.fz.cl := by
  cases o with
  | lst xs => exact b
  | dic kvs => exact cl_fd b
  | ins cc fs =>
    refine cls_iff.mpr fun d hd => ?_
    obtain ⟨p, hp, rfl⟩ := List.mem_map.mp hd
    exact b p hp
theorem Fx.tidy {hd : Option Nat} {h0 h : Hh} (f : Fx hd h0 h) : tidyOk h0 h := ⟨f.len, fun i o hi e => by
  by_cases q : hd = some i
  · obtain ⟨o', e', ho⟩ := f.ok i q
    rw [e'] at e
    cases e
    exact .inr (ho.bel _)
  · rw [f.same i hi q] at e
    exact .inl e⟩
theorem Fx.take {hd : Option Nat} {h0 h : Hh} (f : Fx hd h0 h) : HR hd h0 (h.take h0.length) := by
  refine ⟨by rw [List.length_take, Nat.min_eq_left f.len], fun i q => ?_, fun k e => ?_⟩
  · by_cases hi : i < h0.length
    · rw [List.getElem?_take_of_lt hi]; exact f.same i hi q
    · rw [List.getElem?_eq_none (by rw [List.length_take]; omega), List.getElem?_eq_none (by omega)]
  · obtain ⟨o, e', ho⟩ := f.ok k e
    exact ⟨o, by rw [List.getElem?_take_of_lt (f.hk k e)]; exact e', ho⟩
theorem HI.entry {hd : Option Nat} {h : Hh} (o : HOk hd h) : HI ⟨hd, h, []⟩ h := ⟨⟨Nat.le_refl _, fun _ _ _ => rfl, fun k e => by
  obtain ⟨o, e', _⟩ := o k e
  exact (List.getElem?_eq_some_iff.mp e').1, o⟩, fun p hp => by simp at hp, fun p hp => by simp at hp, List.nodup_nil⟩
theorem fn_of {hd : Option Nat} {h : Hh} {n k : Nat} {m : St} {vs : List D} {w : YS Unit} (o : HOk hd h) (hl : vs.length = k) (p : XB ⟨hd, h, []⟩ (sg n vs) (fun _ _ h' => Fx hd h h') m w) : AE hd h (VB false hd) (fnZ n k m vs h) (fnY w) := fun Q E z => by
  have r := p h (HI.entry o) _ _ _ z
  unfold fnZ
  rw [if_pos hl]
  unfold runB
  cases e : m (sg n vs) h with
  | nx S1 h1 =>
    rw [e] at r
    obtain ⟨_, f, q⟩ := r
    dsimp only
    unfold tidyZ
    dsimp only
    rw [if_pos f.tidy, if_pos (show D.bel h.length .non from trivial)]
    exact ⟨f.take, _, ⟨rfl, trivial⟩, q⟩
  | rt v h1 =>
    rw [e] at r
    obtain ⟨f, d, rv, q⟩ := r
    dsimp only at f rv ⊢
    unfold tidyZ
    dsimp only
    rw [if_pos f.tidy]
    rcases rv with ⟨rfl, cd⟩ | ⟨k, o, rfl, ge, at_, bo, rfl⟩
    · rw [if_pos (cd.bel _)]
      exact ⟨f.take, _, ⟨rfl, cd⟩, q⟩
    · rw [if_neg (show ¬ (D.ref k).bel h.length from Nat.not_lt.mpr ge)]
      dsimp only
      rw [at_]
      dsimp only
      rw [if_pos (O.bel_mono _ bo)]
      exact ⟨f.take, _, ⟨rfl, O.fz_cl bo⟩, q⟩
  | exc cc fs S1 h1 =>
    rw [e] at r
    obtain ⟨f, cf, q⟩ := r
    dsimp only at f ⊢
    unfold tidyZ
    dsimp only
    rw [if_pos ⟨f.tidy, fun p hp => D.cl.bel _ (cf p hp)⟩]
    exact ⟨f.take, cf, q⟩
  | bad => rw [e] at r; exact r
end PV
set_option Elab.async false
set_option linter.all false
set_option autoImplicit false
set_option maxRecDepth 100000
set_option maxHeartbeats 2000000
/-! PYC: calls, new instances, dicts. -/
namespace PV
open PySem (Str PyData)
theorem R.bind_bind {α β γ : Type} (r : R α) (f : α → Hh → R β) (g : β → Hh → R γ) : (r.bind f).bind g = r.bind fun a h => (f a h).bind g := by cases r <;> rfl
theorem AE.down {hd : Option Nat} {h : Hh} {r : R D} {y : Y D} (o : HOk hd h) (a : AE none h (VB false none) r y) : AE hd h (VB false hd) r y := (AE.lift o a).mono fun _ _ _ q => q
section
variable {c : Ct} {S : Sg} {F : List D → Hh → R D}
theorem xe_f0 {y : Y D} (f : ∀ h,  AE none h (VB false none) (F [] h) (y ))  : XE false c S (eF F aN) (y) := fun h H => by
  have e : eF F aN S h = F [] h := by simp only [eF, aC, aN, R.bind_bind, R.bind_ok]
  rw [e]
  exact AE.down H.ok (f h)
theorem xe_f1 {y : D → Y D} {r0 : Bool} {a0 : Ex} {A0 : Y D} (f : ∀ h v0 u0, VB r0 none h v0 u0 → AE none h (VB false none) (F [v0] h) (y u0)) (p0 : XE r0 c S a0 A0) : XE false c S (eF F (aC a0 aN)) (A0.bind fun x0 => y x0) := fun h H => by
  have e : eF F (aC a0 aN) S h = (a0 S h).bind fun x0 h1 => F [x0] h1 := by simp only [eF, aC, aN, R.bind_bind, R.bind_ok]
  rw [e]
  exact AE.bind (p0 h H) fun x0 w0 h1 e0 q0 => AE.down (H.hr e0).ok (f h1 x0 w0 (VB.no q0))
theorem xe_f2 {y : D → D → Y D} {r0 r1 : Bool} {a0 a1 : Ex} {A0 A1 : Y D} (f : ∀ h v0 u0 v1 u1, VB r0 none h v0 u0 → VB r1 none h v1 u1 → AE none h (VB false none) (F [v0, v1] h) (y u0 u1)) (p0 : XE r0 c S a0 A0) (p1 : XE r1 c S a1 A1) : XE false c S (eF F (aC a0 (aC a1 aN))) (A0.bind fun x0 => A1.bind fun x1 => y x0 x1) := fun h H => by
  have e : eF F (aC a0 (aC a1 aN)) S h = (a0 S h).bind fun x0 h1 => (a1 S h1).bind fun x1 h2 => F [x0, x1] h2 := by simp only [eF, aC, aN, R.bind_bind, R.bind_ok]
  rw [e]
  exact AE.bind (p0 h H) fun x0 w0 h1 e0 q0 => AE.bind (p1 h1 (H.hr e0)) fun x1 w1 h2 e1 q1 => AE.down ((H.hr e0).hr e1).ok (f h2 x0 w0 x1 w1 (VB.no (VB.hr q0 e1)) (VB.no q1))
theorem xe_f3 {y : D → D → D → Y D} {r0 r1 r2 : Bool} {a0 a1 a2 : Ex} {A0 A1 A2 : Y D} (f : ∀ h v0 u0 v1 u1 v2 u2, VB r0 none h v0 u0 → VB r1 none h v1 u1 → VB r2 none h v2 u2 → AE none h (VB false none) (F [v0, v1, v2] h) (y u0 u1 u2)) (p0 : XE r0 c S a0 A0) (p1 : XE r1 c S a1 A1) (p2 : XE r2 c S a2 A2) : XE false c S (eF F (aC a0 (aC a1 (aC a2 aN)))) (A0.bind fun x0 => A1.bind fun x1 => A2.bind fun x2 => y x0 x1 x2) := fun h H => by
  have e : eF F (aC a0 (aC a1 (aC a2 aN))) S h = (a0 S h).bind fun x0 h1 => (a1 S h1).bind fun x1 h2 => (a2 S h2).bind fun x2 h3 => F [x0, x1, x2] h3 := by simp only [eF, aC, aN, R.bind_bind, R.bind_ok]
  rw [e]
  exact AE.bind (p0 h H) fun x0 w0 h1 e0 q0 => AE.bind (p1 h1 (H.hr e0)) fun x1 w1 h2 e1 q1 => AE.bind (p2 h2 ((H.hr e0).hr e1)) fun x2 w2 h3 e2 q2 => AE.down (((H.hr e0).hr e1).hr e2).ok (f h3 x0 w0 x1 w1 x2 w2 (VB.no (VB.hr (VB.hr q0 e1) e2)) (VB.no (VB.hr q1 e2)) (VB.no q2))
theorem xe_f4 {y : D → D → D → D → Y D} {r0 r1 r2 r3 : Bool} {a0 a1 a2 a3 : Ex} {A0 A1 A2 A3 : Y D} (f : ∀ h v0 u0 v1 u1 v2 u2 v3 u3, VB r0 none h v0 u0 → VB r1 none h v1 u1 → VB r2 none h v2 u2 → VB r3 none h v3 u3 → AE none h (VB false none) (F [v0, v1, v2, v3] h) (y u0 u1 u2 u3)) (p0 : XE r0 c S a0 A0) (p1 : XE r1 c S a1 A1) (p2 : XE r2 c S a2 A2) (p3 : XE r3 c S a3 A3) : XE false c S (eF F (aC a0 (aC a1 (aC a2 (aC a3 aN))))) (A0.bind fun x0 => A1.bind fun x1 => A2.bind fun x2 => A3.bind fun x3 => y x0 x1 x2 x3) := fun h H => by
  have e : eF F (aC a0 (aC a1 (aC a2 (aC a3 aN)))) S h = (a0 S h).bind fun x0 h1 => (a1 S h1).bind fun x1 h2 => (a2 S h2).bind fun x2 h3 => (a3 S h3).bind fun x3 h4 => F [x0, x1, x2, x3] h4 := by simp only [eF, aC, aN, R.bind_bind, R.bind_ok]
  rw [e]
  exact AE.bind (p0 h H) fun x0 w0 h1 e0 q0 => AE.bind (p1 h1 (H.hr e0)) fun x1 w1 h2 e1 q1 => AE.bind (p2 h2 ((H.hr e0).hr e1)) fun x2 w2 h3 e2 q2 => AE.bind (p3 h3 (((H.hr e0).hr e1).hr e2)) fun x3 w3 h4 e3 q3 => AE.down ((((H.hr e0).hr e1).hr e2).hr e3).ok (f h4 x0 w0 x1 w1 x2 w2 x3 w3 (VB.no (VB.hr (VB.hr (VB.hr q0 e1) e2) e3)) (VB.no (VB.hr (VB.hr q1 e2) e3)) (VB.no (VB.hr q2 e3)) (VB.no q3))
theorem xe_f5 {y : D → D → D → D → D → Y D} {r0 r1 r2 r3 r4 : Bool} {a0 a1 a2 a3 a4 : Ex} {A0 A1 A2 A3 A4 : Y D} (f : ∀ h v0 u0 v1 u1 v2 u2 v3 u3 v4 u4, VB r0 none h v0 u0 → VB r1 none h v1 u1 → VB r2 none h v2 u2 → VB r3 none h v3 u3 → VB r4 none h v4 u4 → AE none h (VB false none) (F [v0, v1, v2, v3, v4] h) (y u0 u1 u2 u3 u4)) (p0 : XE r0 c S a0 A0) (p1 : XE r1 c S a1 A1) (p2 : XE r2 c S a2 A2) (p3 : XE r3 c S a3 A3) (p4 : XE r4 c S a4 A4) : XE false c S (eF F (aC a0 (aC a1 (aC a2 (aC a3 (aC a4 aN)))))) (A0.bind fun x0 => A1.bind fun x1 => A2.bind fun x2 => A3.bind fun x3 => A4.bind fun x4 => y x0 x1 x2 x3 x4) := fun h H => by
  have e : eF F (aC a0 (aC a1 (aC a2 (aC a3 (aC a4 aN))))) S h = (a0 S h).bind fun x0 h1 => (a1 S h1).bind fun x1 h2 => (a2 S h2).bind fun x2 h3 => (a3 S h3).bind fun x3 h4 => (a4 S h4).bind fun x4 h5 => F [x0, x1, x2, x3, x4] h5 := by simp only [eF, aC, aN, R.bind_bind, R.bind_ok]
  rw [e]
  exact AE.bind (p0 h H) fun x0 w0 h1 e0 q0 => AE.bind (p1 h1 (H.hr e0)) fun x1 w1 h2 e1 q1 => AE.bind (p2 h2 ((H.hr e0).hr e1)) fun x2 w2 h3 e2 q2 => AE.bind (p3 h3 (((H.hr e0).hr e1).hr e2)) fun x3 w3 h4 e3 q3 => AE.bind (p4 h4 ((((H.hr e0).hr e1).hr e2).hr e3)) fun x4 w4 h5 e4 q4 => AE.down (((((H.hr e0).hr e1).hr e2).hr e3).hr e4).ok (f h5 x0 w0 x1 w1 x2 w2 x3 w3 x4 w4 (VB.no (VB.hr (VB.hr (VB.hr (VB.hr q0 e1) e2) e3) e4)) (VB.no (VB.hr (VB.hr (VB.hr q1 e2) e3) e4)) (VB.no (VB.hr (VB.hr q2 e3) e4)) (VB.no (VB.hr q3 e4)) (VB.no q4))
theorem xe_f6 {y : D → D → D → D → D → D → Y D} {r0 r1 r2 r3 r4 r5 : Bool} {a0 a1 a2 a3 a4 a5 : Ex} {A0 A1 A2 A3 A4 A5 : Y D} (f : ∀ h v0 u0 v1 u1 v2 u2 v3 u3 v4 u4 v5 u5, VB r0 none h v0 u0 → VB r1 none h v1 u1 → VB r2 none h v2 u2 → VB r3 none h v3 u3 → VB r4 none h v4 u4 → VB r5 none h v5 u5 → AE none h (VB false none) (F [v0, v1, v2, v3, v4, v5] h) (y u0 u1 u2 u3 u4 u5)) (p0 : XE r0 c S a0 A0) (p1 : XE r1 c S a1 A1) (p2 : XE r2 c S a2 A2) (p3 : XE r3 c S a3 A3) (p4 : XE r4 c S a4 A4) (p5 : XE r5 c S a5 A5) : XE false c S (eF F (aC a0 (aC a1 (aC a2 (aC a3 (aC a4 (aC a5 aN))))))) (A0.bind fun x0 => A1.bind fun x1 => A2.bind fun x2 => A3.bind fun x3 => A4.bind fun x4 => A5.bind fun x5 => y x0 x1 x2 x3 x4 x5) := fun h H => by
  have e : eF F (aC a0 (aC a1 (aC a2 (aC a3 (aC a4 (aC a5 aN)))))) S h = (a0 S h).bind fun x0 h1 => (a1 S h1).bind fun x1 h2 => (a2 S h2).bind fun x2 h3 => (a3 S h3).bind fun x3 h4 => (a4 S h4).bind fun x4 h5 => (a5 S h5).bind fun x5 h6 => F [x0, x1, x2, x3, x4, x5] h6 := by simp only [eF, aC, aN, R.bind_bind, R.bind_ok]
  rw [e]
  exact AE.bind (p0 h H) fun x0 w0 h1 e0 q0 => AE.bind (p1 h1 (H.hr e0)) fun x1 w1 h2 e1 q1 => AE.bind (p2 h2 ((H.hr e0).hr e1)) fun x2 w2 h3 e2 q2 => AE.bind (p3 h3 (((H.hr e0).hr e1).hr e2)) fun x3 w3 h4 e3 q3 => AE.bind (p4 h4 ((((H.hr e0).hr e1).hr e2).hr e3)) fun x4 w4 h5 e4 q4 => AE.bind (p5 h5 (((((H.hr e0).hr e1).hr e2).hr e3).hr e4)) fun x5 w5 h6 e5 q5 => AE.down ((((((H.hr e0).hr e1).hr e2).hr e3).hr e4).hr e5).ok (f h6 x0 w0 x1 w1 x2 w2 x3 w3 x4 w4 x5 w5 (VB.no (VB.hr (VB.hr (VB.hr (VB.hr (VB.hr q0 e1) e2) e3) e4) e5)) (VB.no (VB.hr (VB.hr (VB.hr (VB.hr q1 e2) e3) e4) e5)) (VB.no (VB.hr (VB.hr (VB.hr q2 e3) e4) e5)) (VB.no (VB.hr (VB.hr q3 e4) e5)) (VB.no (VB.hr q4 e5)) (VB.no q5))
theorem xe_f7 {y : D → D → D → D → D → D → D → Y D} {r0 r1 r2 r3 r4 r5 r6 : Bool} {a0 a1 a2 a3 a4 a5 a6 : Ex} {A0 A1 A2 A3 A4 A5 A6 : Y D} (f : ∀ h v0 u0 v1 u1 v2 u2 v3 u3 v4 u4 v5 u5 v6 u6, VB r0 none h v0 u0 → VB r1 none h v1 u1 → VB r2 none h v2 u2 → VB r3 none h v3 u3 → VB r4 none h v4 u4 → VB r5 none h v5 u5 → VB r6 none h v6 u6 → AE none h (VB false none) (F [v0, v1, v2, v3, v4, v5, v6] h) (y u0 u1 u2 u3 u4 u5 u6)) (p0 : XE r0 c S a0 A0) (p1 : XE r1 c S a1 A1) (p2 : XE r2 c S a2 A2) (p3 : XE r3 c S a3 A3) (p4 : XE r4 c S a4 A4) (p5 : XE r5 c S a5 A5) (p6 : XE r6 c S a6 A6) : XE false c S (eF F (aC a0 (aC a1 (aC a2 (aC a3 (aC a4 (aC a5 (aC a6 aN)))))))) (A0.bind fun x0 => A1.bind fun x1 => A2.bind fun x2 => A3.bind fun x3 => A4.bind fun x4 => A5.bind fun x5 => A6.bind fun x6 => y x0 x1 x2 x3 x4 x5 x6) := fun h H => by
  have e : eF F (aC a0 (aC a1 (aC a2 (aC a3 (aC a4 (aC a5 (aC a6 aN))))))) S h = (a0 S h).bind fun x0 h1 => (a1 S h1).bind fun x1 h2 => (a2 S h2).bind fun x2 h3 => (a3 S h3).bind fun x3 h4 => (a4 S h4).bind fun x4 h5 => (a5 S h5).bind fun x5 h6 => (a6 S h6).bind fun x6 h7 => F [x0, x1, x2, x3, x4, x5, x6] h7 := by simp only [eF, aC, aN, R.bind_bind, R.bind_ok]
  rw [e]
  exact AE.bind (p0 h H) fun x0 w0 h1 e0 q0 => AE.bind (p1 h1 (H.hr e0)) fun x1 w1 h2 e1 q1 => AE.bind (p2 h2 ((H.hr e0).hr e1)) fun x2 w2 h3 e2 q2 => AE.bind (p3 h3 (((H.hr e0).hr e1).hr e2)) fun x3 w3 h4 e3 q3 => AE.bind (p4 h4 ((((H.hr e0).hr e1).hr e2).hr e3)) fun x4 w4 h5 e4 q4 => AE.bind (p5 h5 (((((H.hr e0).hr e1).hr e2).hr e3).hr e4)) fun x5 w5 h6 e5 q5 => AE.bind (p6 h6 ((((((H.hr e0).hr e1).hr e2).hr e3).hr e4).hr e5)) fun x6 w6 h7 e6 q6 => AE.down (((((((H.hr e0).hr e1).hr e2).hr e3).hr e4).hr e5).hr e6).ok (f h7 x0 w0 x1 w1 x2 w2 x3 w3 x4 w4 x5 w5 x6 w6 (VB.no (VB.hr (VB.hr (VB.hr (VB.hr (VB.hr (VB.hr q0 e1) e2) e3) e4) e5) e6)) (VB.no (VB.hr (VB.hr (VB.hr (VB.hr (VB.hr q1 e2) e3) e4) e5) e6)) (VB.no (VB.hr (VB.hr (VB.hr (VB.hr q2 e3) e4) e5) e6)) (VB.no (VB.hr (VB.hr (VB.hr q3 e4) e5) e6)) (VB.no (VB.hr (VB.hr q4 e5) e6)) (VB.no (VB.hr q5 e6)) (VB.no q6))
theorem xe_h0 {y : Y D} {i k : Nat} (f : ∀ k h, HOk (some k) h →  AE (some k) h (VB false (some k)) (F [.ref k] h) (y )) (e0 : S[i]? = some (some (.ref k)))  (hc : c.hd = some k := by rfl) : XE false c S (eF F (aC (eV i) aN)) (y) := fun h H => by
  have e : eF F (aC (eV i) aN) S h = F [.ref k] h := by simp only [eF, aC, aN, eV_at e0, R.bind_bind, R.bind_ok]
  rw [e]
  exact (by have := f k h (hc ▸ H.ok); rw [← hc] at this; exact this)
theorem xe_h1 {y : D → Y D} {i k : Nat} {r0 : Bool} {a0 : Ex} {A0 : Y D} (f : ∀ k h, HOk (some k) h → ∀ v0 u0, VB r0 (some k) h v0 u0 → AE (some k) h (VB false (some k)) (F [.ref k, v0] h) (y u0)) (e0 : S[i]? = some (some (.ref k))) (p0 : XE r0 c S a0 A0) (hc : c.hd = some k := by rfl) : XE false c S (eF F (aC (eV i) (aC a0 aN))) (A0.bind fun x0 => y x0) := fun h H => by
  have e : eF F (aC (eV i) (aC a0 aN)) S h = (a0 S h).bind fun x0 h1 => F [.ref k, x0] h1 := by simp only [eF, aC, aN, eV_at e0, R.bind_bind, R.bind_ok]
  rw [e]
  exact AE.bind (p0 h H) fun x0 w0 h1 e0 q0 => (by have := f k h1 (hc ▸ (H.hr e0).ok) x0 w0 (hc ▸ q0); rw [← hc] at this; exact this)
theorem xe_h2 {y : D → D → Y D} {i k : Nat} {r0 r1 : Bool} {a0 a1 : Ex} {A0 A1 : Y D} (f : ∀ k h, HOk (some k) h → ∀ v0 u0 v1 u1, VB r0 (some k) h v0 u0 → VB r1 (some k) h v1 u1 → AE (some k) h (VB false (some k)) (F [.ref k, v0, v1] h) (y u0 u1)) (e0 : S[i]? = some (some (.ref k))) (p0 : XE r0 c S a0 A0) (p1 : XE r1 c S a1 A1) (hc : c.hd = some k := by rfl) : XE false c S (eF F (aC (eV i) (aC a0 (aC a1 aN)))) (A0.bind fun x0 => A1.bind fun x1 => y x0 x1) := fun h H => by
  have e : eF F (aC (eV i) (aC a0 (aC a1 aN))) S h = (a0 S h).bind fun x0 h1 => (a1 S h1).bind fun x1 h2 => F [.ref k, x0, x1] h2 := by simp only [eF, aC, aN, eV_at e0, R.bind_bind, R.bind_ok]
  rw [e]
  exact AE.bind (p0 h H) fun x0 w0 h1 e0 q0 => AE.bind (p1 h1 (H.hr e0)) fun x1 w1 h2 e1 q1 => (by have := f k h2 (hc ▸ ((H.hr e0).hr e1).ok) x0 w0 x1 w1 (hc ▸ (VB.hr q0 e1)) (hc ▸ q1); rw [← hc] at this; exact this)
theorem xe_h3 {y : D → D → D → Y D} {i k : Nat} {r0 r1 r2 : Bool} {a0 a1 a2 : Ex} {A0 A1 A2 : Y D} (f : ∀ k h, HOk (some k) h → ∀ v0 u0 v1 u1 v2 u2, VB r0 (some k) h v0 u0 → VB r1 (some k) h v1 u1 → VB r2 (some k) h v2 u2 → AE (some k) h (VB false (some k)) (F [.ref k, v0, v1, v2] h) (y u0 u1 u2)) (e0 : S[i]? = some (some (.ref k))) (p0 : XE r0 c S a0 A0) (p1 : XE r1 c S a1 A1) (p2 : XE r2 c S a2 A2) (hc : c.hd = some k := by rfl) : XE false c S (eF F (aC (eV i) (aC a0 (aC a1 (aC a2 aN))))) (A0.bind fun x0 => A1.bind fun x1 => A2.bind fun x2 => y x0 x1 x2) := fun h H => by
  have e : eF F (aC (eV i) (aC a0 (aC a1 (aC a2 aN)))) S h = (a0 S h).bind fun x0 h1 => (a1 S h1).bind fun x1 h2 => (a2 S h2).bind fun x2 h3 => F [.ref k, x0, x1, x2] h3 := by simp only [eF, aC, aN, eV_at e0, R.bind_bind, R.bind_ok]
  rw [e]
  exact AE.bind (p0 h H) fun x0 w0 h1 e0 q0 => AE.bind (p1 h1 (H.hr e0)) fun x1 w1 h2 e1 q1 => AE.bind (p2 h2 ((H.hr e0).hr e1)) fun x2 w2 h3 e2 q2 => (by have := f k h3 (hc ▸ (((H.hr e0).hr e1).hr e2).ok) x0 w0 x1 w1 x2 w2 (hc ▸ (VB.hr (VB.hr q0 e1) e2)) (hc ▸ (VB.hr q1 e2)) (hc ▸ q2); rw [← hc] at this; exact this)
theorem xe_h4 {y : D → D → D → D → Y D} {i k : Nat} {r0 r1 r2 r3 : Bool} {a0 a1 a2 a3 : Ex} {A0 A1 A2 A3 : Y D} (f : ∀ k h, HOk (some k) h → ∀ v0 u0 v1 u1 v2 u2 v3 u3, VB r0 (some k) h v0 u0 → VB r1 (some k) h v1 u1 → VB r2 (some k) h v2 u2 → VB r3 (some k) h v3 u3 → AE (some k) h (VB false (some k)) (F [.ref k, v0, v1, v2, v3] h) (y u0 u1 u2 u3)) (e0 : S[i]? = some (some (.ref k))) (p0 : XE r0 c S a0 A0) (p1 : XE r1 c S a1 A1) (p2 : XE r2 c S a2 A2) (p3 : XE r3 c S a3 A3) (hc : c.hd = some k := by rfl) : XE false c S (eF F (aC (eV i) (aC a0 (aC a1 (aC a2 (aC a3 aN)))))) (A0.bind fun x0 => A1.bind fun x1 => A2.bind fun x2 => A3.bind fun x3 => y x0 x1 x2 x3) := fun h H => by
  have e : eF F (aC (eV i) (aC a0 (aC a1 (aC a2 (aC a3 aN))))) S h = (a0 S h).bind fun x0 h1 => (a1 S h1).bind fun x1 h2 => (a2 S h2).bind fun x2 h3 => (a3 S h3).bind fun x3 h4 => F [.ref k, x0, x1, x2, x3] h4 := by simp only [eF, aC, aN, eV_at e0, R.bind_bind, R.bind_ok]
  rw [e]
  exact AE.bind (p0 h H) fun x0 w0 h1 e0 q0 => AE.bind (p1 h1 (H.hr e0)) fun x1 w1 h2 e1 q1 => AE.bind (p2 h2 ((H.hr e0).hr e1)) fun x2 w2 h3 e2 q2 => AE.bind (p3 h3 (((H.hr e0).hr e1).hr e2)) fun x3 w3 h4 e3 q3 => (by have := f k h4 (hc ▸ ((((H.hr e0).hr e1).hr e2).hr e3).ok) x0 w0 x1 w1 x2 w2 x3 w3 (hc ▸ (VB.hr (VB.hr (VB.hr q0 e1) e2) e3)) (hc ▸ (VB.hr (VB.hr q1 e2) e3)) (hc ▸ (VB.hr q2 e3)) (hc ▸ q3); rw [← hc] at this; exact this)
theorem xe_h5 {y : D → D → D → D → D → Y D} {i k : Nat} {r0 r1 r2 r3 r4 : Bool} {a0 a1 a2 a3 a4 : Ex} {A0 A1 A2 A3 A4 : Y D} (f : ∀ k h, HOk (some k) h → ∀ v0 u0 v1 u1 v2 u2 v3 u3 v4 u4, VB r0 (some k) h v0 u0 → VB r1 (some k) h v1 u1 → VB r2 (some k) h v2 u2 → VB r3 (some k) h v3 u3 → VB r4 (some k) h v4 u4 → AE (some k) h (VB false (some k)) (F [.ref k, v0, v1, v2, v3, v4] h) (y u0 u1 u2 u3 u4)) (e0 : S[i]? = some (some (.ref k))) (p0 : XE r0 c S a0 A0) (p1 : XE r1 c S a1 A1) (p2 : XE r2 c S a2 A2) (p3 : XE r3 c S a3 A3) (p4 : XE r4 c S a4 A4) (hc : c.hd = some k := by rfl) : XE false c S (eF F (aC (eV i) (aC a0 (aC a1 (aC a2 (aC a3 (aC a4 aN))))))) (A0.bind fun x0 => A1.bind fun x1 => A2.bind fun x2 => A3.bind fun x3 => A4.bind fun x4 => y x0 x1 x2 x3 x4) := fun h H => by
  have e : eF F (aC (eV i) (aC a0 (aC a1 (aC a2 (aC a3 (aC a4 aN)))))) S h = (a0 S h).bind fun x0 h1 => (a1 S h1).bind fun x1 h2 => (a2 S h2).bind fun x2 h3 => (a3 S h3).bind fun x3 h4 => (a4 S h4).bind fun x4 h5 => F [.ref k, x0, x1, x2, x3, x4] h5 := by simp only [eF, aC, aN, eV_at e0, R.bind_bind, R.bind_ok]
  rw [e]
  exact AE.bind (p0 h H) fun x0 w0 h1 e0 q0 => AE.bind (p1 h1 (H.hr e0)) fun x1 w1 h2 e1 q1 => AE.bind (p2 h2 ((H.hr e0).hr e1)) fun x2 w2 h3 e2 q2 => AE.bind (p3 h3 (((H.hr e0).hr e1).hr e2)) fun x3 w3 h4 e3 q3 => AE.bind (p4 h4 ((((H.hr e0).hr e1).hr e2).hr e3)) fun x4 w4 h5 e4 q4 => (by have := f k h5 (hc ▸ (((((H.hr e0).hr e1).hr e2).hr e3).hr e4).ok) x0 w0 x1 w1 x2 w2 x3 w3 x4 w4 (hc ▸ (VB.hr (VB.hr (VB.hr (VB.hr q0 e1) e2) e3) e4)) (hc ▸ (VB.hr (VB.hr (VB.hr q1 e2) e3) e4)) (hc ▸ (VB.hr (VB.hr q2 e3) e4)) (hc ▸ (VB.hr q3 e4)) (hc ▸ q4); rw [← hc] at this; exact this)
theorem xe_h6 {y : D → D → D → D → D → D → Y D} {i k : Nat} {r0 r1 r2 r3 r4 r5 : Bool} {a0 a1 a2 a3 a4 a5 : Ex} {A0 A1 A2 A3 A4 A5 : Y D} (f : ∀ k h, HOk (some k) h → ∀ v0 u0 v1 u1 v2 u2 v3 u3 v4 u4 v5 u5, VB r0 (some k) h v0 u0 → VB r1 (some k) h v1 u1 → VB r2 (some k) h v2 u2 → VB r3 (some k) h v3 u3 → VB r4 (some k) h v4 u4 → VB r5 (some k) h v5 u5 → AE (some k) h (VB false (some k)) (F [.ref k, v0, v1, v2, v3, v4, v5] h) (y u0 u1 u2 u3 u4 u5)) (e0 : S[i]? = some (some (.ref k))) (p0 : XE r0 c S a0 A0) (p1 : XE r1 c S a1 A1) (p2 : XE r2 c S a2 A2) (p3 : XE r3 c S a3 A3) (p4 : XE r4 c S a4 A4) (p5 : XE r5 c S a5 A5) (hc : c.hd = some k := by rfl) : XE false c S (eF F (aC (eV i) (aC a0 (aC a1 (aC a2 (aC a3 (aC a4 (aC a5 aN)))))))) (A0.bind fun x0 => A1.bind fun x1 => A2.bind fun x2 => A3.bind fun x3 => A4.bind fun x4 => A5.bind fun x5 => y x0 x1 x2 x3 x4 x5) := fun h H => by
  have e : eF F (aC (eV i) (aC a0 (aC a1 (aC a2 (aC a3 (aC a4 (aC a5 aN))))))) S h = (a0 S h).bind fun x0 h1 => (a1 S h1).bind fun x1 h2 => (a2 S h2).bind fun x2 h3 => (a3 S h3).bind fun x3 h4 => (a4 S h4).bind fun x4 h5 => (a5 S h5).bind fun x5 h6 => F [.ref k, x0, x1, x2, x3, x4, x5] h6 := by simp only [eF, aC, aN, eV_at e0, R.bind_bind, R.bind_ok]
  rw [e]
  exact AE.bind (p0 h H) fun x0 w0 h1 e0 q0 => AE.bind (p1 h1 (H.hr e0)) fun x1 w1 h2 e1 q1 => AE.bind (p2 h2 ((H.hr e0).hr e1)) fun x2 w2 h3 e2 q2 => AE.bind (p3 h3 (((H.hr e0).hr e1).hr e2)) fun x3 w3 h4 e3 q3 => AE.bind (p4 h4 ((((H.hr e0).hr e1).hr e2).hr e3)) fun x4 w4 h5 e4 q4 => AE.bind (p5 h5 (((((H.hr e0).hr e1).hr e2).hr e3).hr e4)) fun x5 w5 h6 e5 q5 => (by have := f k h6 (hc ▸ ((((((H.hr e0).hr e1).hr e2).hr e3).hr e4).hr e5).ok) x0 w0 x1 w1 x2 w2 x3 w3 x4 w4 x5 w5 (hc ▸ (VB.hr (VB.hr (VB.hr (VB.hr (VB.hr q0 e1) e2) e3) e4) e5)) (hc ▸ (VB.hr (VB.hr (VB.hr (VB.hr q1 e2) e3) e4) e5)) (hc ▸ (VB.hr (VB.hr (VB.hr q2 e3) e4) e5)) (hc ▸ (VB.hr (VB.hr q3 e4) e5)) (hc ▸ (VB.hr q4 e5)) (hc ▸ q5); rw [← hc] at this; exact this)
end
/-! ### dicts -/
section
variable {c : Ct} {S : Sg} {b : Bool} {wk : List (Nat × O)}
theorem xk_0 : XKd c S aD0 (Y.pure []) := fun h H => AE.ok H.ok ⟨rfl, fun p hp => by simp at hp⟩
theorem xe_dz {l : Ad} {A : Y (List (D × D))} (p : XKd c S l A) : XE false c S (eDZ l) (A.bind fun kvs => Y.pure (.fd (kvs.map (·.1)) (kvs.map (·.2)))) := fun h H => AE.bind (p h H) fun x u h1 r q => AE.ok (H.hr r).ok ⟨by rw [q.1], cl_fd q.2⟩
def dictPY (d : D) : Y (List (D × D)) := match lsD d [] with
  | some xs => match pairsV xs with
    | some ps => Y.need ((ps.all fun p => p.1.kd == 3) = true) (Y.pure (putAll [] ps))
    | none => Y.bad
  | none => Y.bad
theorem pairsV_cl : ∀ {xs : List D} {ps : List (D × D)}, cls xs → pairsV xs = some ps → ∀ p ∈ ps, p.1.cl ∧ p.2.cl
  | [], _, _, e => by cases e; intro p hp; simp at hp
  | x :: xs, ps, q, e => by
    unfold pairsV at e
    split at e
    · rename_i e0; cases e0
    · rename_i k v r e0
      cases e0
      cases z : pairsV xs with
      | none => rw [z] at e; cases e
      | some qs =>
        rw [z] at e
        cases e
        intro p hp
        rcases List.mem_cons.mp hp with rfl | hp
        · exact ⟨q.1.1, q.1.2.1⟩
        · exact pairsV_cl q.2 z p hp
    · cases e
theorem xk_p {a : Ex} {A : Y D} (p : XE b c S a A) : XKd c S (aDictP a) (A.bind dictPY) := fun h H => AE.bind (p h H) fun x u h1 r q => by
  unfold dictPY
  cases z : lsD u [] with
  | none => exact AE.bad
  | some xs =>
    rw [(q.va.lsD z).1]
    dsimp only
    cases z2 : pairsV xs with
    | none => exact AE.bad
    | some ps =>
      dsimp only
      exact AE.need fun w => by
        rw [if_pos w]
        exact AE.ok (H.hr r).ok ⟨rfl, putAll_cl (fun p hp => by simp at hp) (pairsV_cl (q.va.lsD z).2 z2)⟩
/-! ### instances -/
/-- a new instance of a class whose instances never change -/
def mkY (c : Nat) (m : YS (List (String × D))) : Y D := fun Q E => m (fun fs => Q (.fi c (fs.map (·.1)) (fs.map (·.2)))) (fun _ => False) E
@[simp] theorem mkY_nx (c : Nat) (fs : List (String × D)) : mkY c (YS.nx fs) = Y.pure (.fi c (fs.map (·.1)) (fs.map (·.2))) := Eq.trans rfl rfl
@[simp] theorem mkY_bad (c : Nat) : mkY c YS.bad = Y.bad := Eq.trans rfl rfl
@[simp] theorem mkY_exc (c cc : Nat) (fs : List (String × D)) : mkY c (YS.exc cc fs) = Y.exc cc fs := Eq.trans rfl rfl
@[simp] theorem mkY_get {α : Type} (c : Nat) (m : Y α) (k : α → YS (List (String × D))) : mkY c (YS.get m k) = m.bind fun a => mkY c (k a) := Eq.trans rfl rfl
@[simp] theorem mkY_ite (c : Nat) (p : Prop) [Decidable p] (a b : YS (List (String × D))) : mkY c (if p then a else b) = if p then mkY c a else mkY c b := by split <;> rfl
@[simp] theorem mkY_need (c : Nat) (p : Prop) (m : YS (List (String × D))) : mkY c (YS.need p m) = Y.need p (mkY c m) := Eq.trans rfl rfl
theorem xb_fld {σ : Type} {K : σ → Sg → Hh → Prop} {st : St} {cs : List Nat} {g : String} {i j n C : Nat} {fs : List (String × D)} {v : Ex} {V : Y D} {k : D → YS σ} (e : S[i]? = some (some (.ref n))) (m : c.ms[j]? = some (n, .ins C fs)) (hc : cs.contains C = true) (hl : decide (fs.length < 1000) = true) (pv : XE false c S v V)
    (q : ∀ x, x.cl → XB { c with ms := c.ms.set j (n, .ins C (putFD g x fs)) } S K st (k x)) : XB c S K (sSeq (sFld cs g (eV i) v) st) (YS.get V k) := fun h H => by
  have z : sSeq (sFld cs g (eV i) v) st S h = (v S h).into S fun z h1 => (match h1[n]? with
    | some (.ins c fs) => if cs.contains c = true ∧ fs.length < 1000 then RS.nx S (h1.set n (.ins c (putFD g z fs))) else .bad
    | _ => .bad).bind st := by
    show (((v S h).into S fun z h1 => (eV i S h1).into S fun x h2 => match x with
      | .ref k => match h2[k]? with
        | some (.ins c fs) => if cs.contains c = true ∧ fs.length < 1000 then RS.nx S (h2.set k (.ins c (putFD g z fs))) else .bad
        | _ => .bad
      | _ => .bad).bind st) = _
    cases v S h with
    | ok z h1 =>
      show (((eV i S h1).into S fun x h2 => match x with
      | .ref k => match h2[k]? with
        | some (.ins c fs) => if cs.contains c = true ∧ fs.length < 1000 then RS.nx S (h2.set k (.ins c (putFD g z fs))) else .bad
        | _ => .bad
      | _ => .bad).bind st) = _
      rw [eV_at e]
      rfl
    | _ => rfl
  rw [z]
  exact AB.get H (pv h H) fun x u h1 H1 e1 => by
    obtain ⟨rfl, cx⟩ := e1
    rw [H1.at_ _ (List.mem_of_getElem? m)]
    dsimp only
    rw [if_pos ⟨hc, of_decide_eq_true hl⟩]
    exact q x cx _ (H1.set m)
theorem mk_of {h : Hh} {C n k : Nat} {m : St} {vs : List D} {w : YS (List (String × D))} (hl : (D.ref 0 :: vs).length = k) (p : ∀ q, XB ⟨none, h, [(q, .ins C [])]⟩ (sg n (.ref q :: vs)) (fun fs _ h' => HI ⟨none, h, [(q, .ins C fs)]⟩ h' ∧ clF fs) m w) : AE none h (VB false none) (mkZ C (fnZ n k m) vs h) (mkY C w) := fun Q E z => by
  have H0 : HI ⟨none, h, [(h.length, .ins C [])]⟩ (h ++ [.ins C []]) := (HI.entry (hd := none) (h := h) fun _ e => by cases e).push _
  have r := p h.length _ H0 _ _ _ z
  unfold mkZ mkD fnZ
  rw [if_pos (show (D.ref h.length :: vs).length = k from hl)]
  unfold runB
  cases e : m (sg n (.ref h.length :: vs)) (h ++ [.ins C []]) with
  | nx S1 h1 =>
    rw [e] at r
    obtain ⟨fs, ⟨H1, cf⟩, q⟩ := r
    have at_ : h1[h.length]? = some (.ins C fs) := H1.at_ _ List.mem_cons_self
    have ln : h.length < h1.length := (List.getElem?_eq_some_iff.mp at_).1
    have bo : ∀ n, (O.ins C fs).bel n := fun n => O.bel_mono n cf
    have t1 : tidyOk (h ++ [.ins C []]) h1 := ⟨by rw [List.length_append]; exact ln, fun i o hi e => by
      by_cases c : i = h.length
      · subst c; rw [at_] at e; cases e; exact .inr (bo _)
      · have : i < h.length := by rw [List.length_append] at hi; simp at hi; omega
        rw [List.getElem?_append_left this]
        rw [H1.fx.same i this (by simp)] at e
        exact .inl e⟩
    have ta : (h1.take (h ++ [O.ins C []]).length)[h.length]? = some (.ins C fs) := by
      rw [List.getElem?_take_of_lt (by simp)]; exact at_
    have t2 : tidyOk h (h1.take (h ++ [O.ins C []]).length) := ⟨by rw [List.length_take, List.length_append]; simp; omega, fun i o hi e => by
      rw [List.getElem?_take_of_lt (by simp; omega), H1.fx.same i hi (by simp)] at e
      exact .inl e⟩
    have tk : ((h1.take (h ++ [O.ins C []]).length).take h.length) = h := by
      refine List.ext_getElem? fun i => ?_
      by_cases hi : i < h.length
      · rw [List.getElem?_take_of_lt hi, List.getElem?_take_of_lt (by simp; omega)]; exact H1.fx.same i hi (by simp)
      · rw [List.getElem?_eq_none (by simp; omega), List.getElem?_eq_none (by omega)]
    have q1 : tidyZ (h ++ [.ins C []]) (.ok .non h1) = .ok .non (h1.take (h ++ [O.ins C []]).length) := by
      unfold tidyZ
      dsimp only
      rw [if_pos t1, if_pos (show D.bel _ .non from trivial)]
    dsimp only
    rw [q1]
    dsimp only
    unfold tidyZ
    dsimp only
    rw [if_pos t2, if_neg (show ¬ (D.ref h.length).bel h.length from Nat.lt_irrefl _), ta]
    dsimp only
    rw [if_pos (bo _), tk]
    exact ⟨HR.refl (fun _ e => by cases e), _, ⟨rfl, O.fz_cl cf⟩, q⟩
  | rt v h1 => rw [e] at r; obtain ⟨_, d, _, q⟩ := r; exact False.elim q
  | exc cc fs S1 h1 =>
    rw [e] at r
    obtain ⟨f, cf, q⟩ := r
    dsimp only at f
    have ok : ∀ h2, HR none h (h2.take h.length) → tidyOk h h2 → ∃ h3, tidyZ h (.exc cc fs h2) = .exc cc fs h3 ∧ HR none h h3 := fun h2 a t => ⟨_, by
      unfold tidyZ
      dsimp only
      rw [if_pos ⟨t, fun p hp => D.cl.bel _ (cf p hp)⟩], a⟩
    have done : ∀ h2, (∃ h3, tidyZ h (.exc cc fs h2) = .exc cc fs h3 ∧ HR none h h3) → (tidyZ h (match (.exc cc fs h2 : R D) with
      | .ok .non h' => .ok (.ref h.length) h'
      | .exc k fs h' => .exc k fs h'
      | _ => .bad)).wx (fun a h' => HR none h h' ∧ ∃ b, VB false none h' a b ∧ Q b) fun cc fs h' => HR none h h' ∧ clF fs ∧ E cc fs := fun h2 ⟨h3, e3, a⟩ => by
      dsimp only
      rw [e3]
      exact ⟨a, cf, q⟩
    dsimp only
    by_cases t : tidyOk (h ++ [.ins C []]) h1 ∧ ∀ p ∈ fs, p.2.bel (h ++ [O.ins C []]).length
    · have q1 : tidyZ (h ++ [.ins C []]) (.exc cc fs h1 : R D) = .exc cc fs (h1.take (h ++ [O.ins C []]).length) := by
        unfold tidyZ
        dsimp only
        rw [if_pos t]
      rw [q1]
      have l1 := t.1.1
      have le : h.length ≤ (h ++ [O.ins C []]).length := by simp
      have tt : (h1.take (h ++ [O.ins C []]).length).take h.length = h1.take h.length := by rw [List.take_take, Nat.min_eq_left le]
      exact done _ (ok _ (by rw [tt]; exact f.take) ⟨by rw [List.length_take]; exact Nat.le_min.mpr ⟨le, Nat.le_trans le l1⟩, fun i o hi e => by
        rw [List.getElem?_take_of_lt (Nat.lt_of_lt_of_le hi le)] at e
        exact f.tidy.2 i o hi e⟩)
    · have q1 : tidyZ (h ++ [.ins C []]) (.exc cc fs h1 : R D) = .exc cc fs h1 := by
        unfold tidyZ
        dsimp only
        rw [if_neg t]
      rw [q1]
      exact done _ (ok _ f.take f.tidy)
  | bad => rw [e] at r; exact r
/-- != of two instances by their own == -/
def neYo (C : Nat) (W : D → D → Y D) (x y : D) : Y D := match tkOf [] x, tkOf [] y with
  | some (.own a), some (.own b) => if a = C ∧ b = C then (W x y).calm.bind fun r => (isY r).bind fun k => Y.pure (.bl !k) else Y.bad
  | _, _ => Y.bad
theorem own_atom {hd : Option Nat} {h : Hh} {x u : D} {C : Nat} (a : VA hd h x u) (e : tkOf [] u = some (.own C)) : x = u ∧ u.cl := by
  refine ⟨a.atom (fun xs q => ?_) fun ks vs q => ?_, a.cl⟩
  · subst q; cases e
  · subst q; cases e
theorem xe_neo {C : Nat} {F : List D → Hh → R D} {W : D → D → Y D} {b1 b2 r1 r2 : Bool} {a a2 : Ex} {A A2 : Y D} (f : ∀ h v1 u1 v2 u2, VB r1 none h v1 u1 → VB r2 none h v2 u2 → AE none h (VB false none) (F [v1, v2] h) (W u1 u2)) (p : XE b1 c S a A) (p2 : XE b2 c S a2 A2) : XE false c S (e2 (neOwn C F) a a2) (A.bind fun x => A2.bind fun y => neYo C W x y) := fun h H =>
  AE.bind (p h H) fun x u h1 r q => AE.bind (p2 h1 (H.hr r)) fun y v h2 r2 q2 => by
    have H2 := (H.hr r).hr r2
    unfold neYo
    cases z : tkOf [] u with
    | none => exact AE.bad
    | some k => cases k with
      | bi _ => exact AE.bad
      | own i =>
        cases z2 : tkOf [] v with
        | none => exact AE.bad
        | some k => cases k with
          | bi _ => exact AE.bad
          | own j =>
            dsimp only
            by_cases cc : i = C ∧ j = C
            · rw [if_pos cc]
              obtain ⟨rfl, cu⟩ := own_atom (q.hr r2).va z
              obtain ⟨rfl, cv⟩ := own_atom q2.va z2
              unfold neOwn
              rw [(VA.val (hd := none) (h := h2) cu).tk z, (VA.val (hd := none) (h := h2) cv).tk z2]
              dsimp only
              rw [if_pos cc]
              exact AE.bind (AE.calm (AE.down H2.ok (f h2 x x y y (VB.x ⟨rfl, cu⟩) (VB.x ⟨rfl, cv⟩)))) fun r r' h3 e3 q3 => AE.bind (ae_isB e3.ok q3.va) fun k k' h4 e4 q4 => AE.ok e4.ok ⟨by rw [q4], trivial⟩
            · rw [if_neg cc]; exact AE.bad
end
/-! ### what is left of the changing things -/
def pickL {α : Type} (ms : List α) (is : List Nat) : List α := is.filterMap fun i => ms[i]?
theorem HI.pick {c : Ct} {h : Hh} (H : HI c h) (is : List Nat) (nd : is.Nodup) : HI { c with ms := pickL c.ms is } h := by
  have mem : ∀ p ∈ pickL c.ms is, p ∈ c.ms := fun p hp => by
    obtain ⟨i, _, e⟩ := List.mem_filterMap.mp hp
    exact List.mem_of_getElem? e
  refine ⟨H.fx, fun p hp => H.ge p (mem p hp), fun p hp => H.at_ p (mem p hp), ?_⟩
  show ((pickL c.ms is).map (·.1)).Nodup
  induction is with
  | nil => exact List.nodup_nil
  | cons i is ih =>
    have ih := ih (List.nodup_cons.mp nd).2 fun p hp => by
      obtain ⟨i, hi, e⟩ := List.mem_filterMap.mp hp
      exact List.mem_of_getElem? e
    unfold pickL at ih ⊢
    rw [List.filterMap_cons]
    cases e : c.ms[i]? with
    | none => exact ih
    | some p =>
      show (p.1 :: _).Nodup
      refine List.nodup_cons.mpr ⟨fun m => ?_, ih⟩
      obtain ⟨q, hq, eq⟩ := List.mem_map.mp m
      obtain ⟨i2, hi2, e2⟩ := List.mem_filterMap.mp hq
      obtain ⟨l1, g1⟩ := List.getElem?_eq_some_iff.mp e
      obtain ⟨l2, g2⟩ := List.getElem?_eq_some_iff.mp e2
      have : i2 = i := (List.getElem_inj (xs := c.ms.map (·.1)) (h₀ := by simpa using l2) (h₁ := by simpa using l1) H.nd).mp (by simp [g1, g2, eq])
      subst this
      exact (List.nodup_cons.mp nd).1 hi2
/-! ### drawing -/
def drawY (u : D) : Y D := match u with
  | .int m => fun Q _ => (0 < m ∧ m < 1073741824) ∧ ∀ i : Nat, (i : Int) < m → Q (.int i)
  | _ => Y.bad
/-- a law, behind the making of its hand -/
theorem law_of {n : Nat} {m rest : St} {sc : D} {Fh : List D → Hh → R D} {hs : Nat} {o : O} {w : YS Unit} (hm : m = sSeq (sSet hs (eF Fh (aC (eV 0) aN))) rest) (cs : sc.cl) (ho : HandOk o) (hh : Fh [sc] [] = .ok (.ref 0) [o]) (hn : (sg n [sc])[0]? = some (some sc)) (p : XB ⟨some 0, [o], []⟩ ((sg n [sc]).set hs (some (.ref 0))) (fun _ _ h' => Fx (some 0) [o] h') rest w)
    (t : fnY w (fun d => d = .bl true) fun _ _ => False) : ∃ h', fnZ n 1 m [sc] [] = .ok (.bl true) h' := by
  have r := p [o] (HI.entry fun k e => by cases e; exact ⟨o, rfl, ho⟩) _ _ _ t
  have e : m (sg n [sc]) [] = rest ((sg n [sc]).set hs (some (.ref 0))) [o] := by
    rw [hm]
    show ((((eF Fh (aC (eV 0) aN)) (sg n [sc]) []).into _ fun d h1 => RS.nx ((sg n [sc]).set hs (some d)) h1).bind rest) = _
    have : eF Fh (aC (eV 0) aN) (sg n [sc]) [] = Fh [sc] [] := by simp only [eF, aC, aN, eV_at hn, R.bind_ok]
    rw [this, hh]
    rfl
  unfold fnZ
  rw [if_pos (show [sc].length = 1 from rfl)]
  unfold runB
  rw [e]
  cases z : rest ((sg n [sc]).set hs (some (.ref 0))) [o] with
  | nx S1 h1 => rw [z] at r; obtain ⟨_, _, q⟩ := r; cases q
  | rt v h1 =>
    rw [z] at r
    obtain ⟨f, d, rv, rfl⟩ := r
    have : v = .bl true := by
      rcases rv with ⟨rfl, _⟩ | ⟨k, o, _, _, _, _, q⟩
      · rfl
      · cases o <;> cases q
    subst this
    dsimp only
    unfold tidyZ
    dsimp only
    rw [if_pos ⟨Nat.zero_le _, fun i o hi => absurd hi (Nat.not_lt_zero _)⟩, if_pos (show (D.bl true).bel _ from trivial)]
    exact ⟨_, rfl⟩
  | exc cc fs S1 h1 => rw [z] at r; exact False.elim r.2.2
  | bad => rw [z] at r; exact False.elim r
end PV
set_option Elab.async false
set_option linter.all false
set_option autoImplicit false
set_option maxRecDepth 100000
set_option maxHeartbeats 2000000
/-! PYV: two at once; dict comprehensions; what the generator leans on. -/
namespace PV
open PySem (Str PyData)
theorem clF_nil : clF [] := fun p hp => by simp at hp
theorem clF_put {g : String} {v : D} : ∀ {fs : List (String × D)}, clF fs → v.cl → clF (putFD g v fs)
  | [], _, c => fun p hp => by
    have : p = (g, v) := by simpa [putFD] using hp
    rw [this]; exact c
  | (k, x) :: r, q, c => by
    unfold putFD
    split
    · intro p hp
      rcases List.mem_cons.mp hp with rfl | hp
      · exact c
      · exact q p (List.mem_cons_of_mem _ hp)
    · intro p hp
      rcases List.mem_cons.mp hp with rfl | hp
      · exact q _ List.mem_cons_self
      · exact clF_put (fs := r) (fun p hp => q p (List.mem_cons_of_mem _ hp)) c p hp
/-- what is stored at a name: a value, or a new thing that changes -/
def XV {β : Type} (c : Ct) (S : Sg) (a : Ex) (A : Y β) (new : β → Nat → List (Nat × O)) (sl : β → Nat → D) (ok : β → Prop) : Prop := ∀ h, HI c h → ∀ Q E, A Q E → (a S h).wx (fun v h' => ∃ x n, v = sl x n ∧ ok x ∧ HI { c with ms := new x n ++ c.ms } h' ∧ Q x) fun cc fs h' => Fx c.hd c.h0 h' ∧ clF fs ∧ E cc fs
section
variable {σ β γ : Type} {c : Ct} {S : Sg} {K : σ → Sg → Hh → Prop} {st : St}
theorem xv_c {a : Ex} {A : Y D} (p : XE false c S a A) : XV c S a A (fun _ _ => []) (fun x _ => x) D.cl := fun h H Q E w => by
  have q := p h H Q E w
  cases e : a S h with
  | ok x h1 => rw [e] at q; obtain ⟨r, u, ⟨rfl, cu⟩, q⟩ := q; exact ⟨x, 0, rfl, cu, H.hr r, q⟩
  | exc cc fs h1 => rw [e] at q; exact ⟨H.fx.hr q.1, q.2⟩
  | bad => rw [e] at q; exact q
theorem xv_l {l : As} {A : Y (List D)} (p : XF c S l A) : XV c S (eL l) A (fun xs n => [(n, .lst xs)]) (fun _ n => .ref n) cls := fun h H Q E w => by
  have q := p h H Q E w
  show ((l S h).bind fun ds h1 => R.ok (D.ref h1.length) (h1 ++ [O.lst ds])).wx _ _
  cases e : l S h with
  | ok x h1 => rw [e] at q; obtain ⟨r, u, ⟨rfl, cu⟩, q⟩ := q; exact ⟨x, h1.length, rfl, cu, (H.hr r).push _, q⟩
  | exc cc fs h1 => rw [e] at q; exact ⟨H.fx.hr q.1, q.2⟩
  | bad => rw [e] at q; exact q
theorem xv_d {l : Ad} {A : Y (List (D × D))} (p : XKd c S l A) : XV c S (eDL l) A (fun xs n => [(n, .dic xs)]) (fun _ n => .ref n) (fun u => ∀ p ∈ u, p.1.cl ∧ p.2.cl) := fun h H Q E w => by
  have q := p h H Q E w
  show ((l S h).bind fun ds h1 => R.ok (D.ref h1.length) (h1 ++ [O.dic ds])).wx _ _
  cases e : l S h with
  | ok x h1 => rw [e] at q; obtain ⟨r, u, ⟨rfl, cu⟩, q⟩ := q; exact ⟨x, h1.length, rfl, cu, (H.hr r).push _, q⟩
  | exc cc fs h1 => rw [e] at q; exact ⟨H.fx.hr q.1, q.2⟩
  | bad => rw [e] at q; exact q
theorem xb_parV {i j : Nat} {a b : Ex} {A : Y β} {B : Y γ} {new : β → Nat → List (Nat × O)} {sl : β → Nat → D} {ok : β → Prop} {new2 : γ → Nat → List (Nat × O)} {sl2 : γ → Nat → D} {ok2 : γ → Prop} {k : β → γ → YS σ} (p : XV c S a A new sl ok) (p2 : ∀ x n, ok x → XV { c with ms := new x n ++ c.ms } S b B new2 sl2 ok2)
    (q : ∀ x n y m, ok x → ok2 y → XB { c with ms := new2 y m ++ (new x n ++ c.ms) } ((S.set i (some (sl x n))).set j (some (sl2 y m))) K st (k x y)) : XB c S K (sSeq (sPar i j a b) st) (YS.get A fun x => YS.get B fun y => k x y) := fun h H N R E w => by
  have r := p h H _ _ w
  show ((((a S h).into S fun x h1 => (b S h1).into S fun y h2 => .nx ((S.set i (some x)).set j (some y)) h2)).bind st).wx _ _ _
  rw [into_bind]
  cases e : a S h with
  | ok x h1 =>
    rw [e] at r
    obtain ⟨u, n, rfl, ou, H1, r⟩ := r
    have r2 := p2 u n ou h1 H1 _ _ r
    show (((b S h1).into S fun y h2 => .nx ((S.set i (some (sl u n))).set j (some y)) h2).bind st).wx _ _ _
    rw [into_bind]
    cases e2 : b S h1 with
    | ok y h2 =>
      rw [e2] at r2
      obtain ⟨v, m, rfl, ov, H2, r2⟩ := r2
      exact q u n v m ou ov h2 H2 _ _ _ r2
    | exc cc fs h2 => rw [e2] at r2; exact r2
    | bad => rw [e2] at r2; exact r2
  | exc cc fs h1 => rw [e] at r; exact r
  | bad => rw [e] at r; exact r
end
/-! ### what comes of an element -/
@[simp] theorem elY_y (A : Y D) : elY (Y.pure true) A = A.calm.bind fun d => Y.pure (some d) := Eq.trans rfl rfl
/-- a row told without fail -/
theorem compY_map {f : D → Y (Option D)} {g : D → D} : ∀ {xs : List D}, (∀ x ∈ xs, f x = Y.pure (some (g x))) → compY xs f = Y.pure (xs.map g)
  | [], _ => rfl
  | x :: xs, h => by
    rw [compY, h x List.mem_cons_self, Y.pure_bind, compY_map fun y hy => h y (List.mem_cons_of_mem _ hy), Y.pure_bind]
    rfl
/-- .. by what the items stand for -/
theorem lcY_map {α : Type} {enc : α → D} {f : D → Y (Option D)} {g : α → D} {xs : List α} (hl : xs.length ≤ big) (h : ∀ x ∈ xs, f (enc x) = Y.pure (some (g x))) : lcY (xs.map enc) f = Y.pure (xs.map g) := by
  unfold lcY
  rw [Y.need_pos (by simpa using hl)]
  clear hl
  induction xs with
  | nil => rfl
  | cons x xs ih =>
    rw [List.map_cons, compY, h x List.mem_cons_self, Y.pure_bind, ih fun y hy => h y (List.mem_cons_of_mem _ hy), Y.pure_bind]
    rfl
theorem lcY_filter {α : Type} {enc : α → D} {f : D → Y (Option D)} {p : α → Bool} {g : α → D} {xs : List α} (hl : xs.length ≤ big) (h : ∀ x ∈ xs, f (enc x) = Y.pure (if p x = true then some (g x) else none)) : lcY (xs.map enc) f = Y.pure ((xs.filter p).map g) := by
  unfold lcY
  rw [Y.need_pos (by simpa using hl)]
  clear hl
  induction xs with
  | nil => rfl
  | cons x xs ih =>
    rw [List.map_cons, compY, h x List.mem_cons_self, Y.pure_bind, ih fun y hy => h y (List.mem_cons_of_mem _ hy), Y.pure_bind]
    by_cases c : p x = true
    · rw [if_pos c, List.filter_cons_of_pos c]; rfl
    · rw [if_neg c, List.filter_cons_of_neg c]
/-- a row of which something is wanted -/
theorem lcY_wp {α : Type} {enc : α → D} {f : D → Y (Option D)} {xs : List α} {Q : List D → Prop} {E : Ec} (I : Nat → List D → Prop) (hl : xs.length ≤ big) (init : I 0 []) (step : ∀ i x acc, xs[i]? = some x → I i acc → f (enc x) (fun o => I (i + 1) (match o with
    | some d => acc ++ [d]
    | none => acc)) E) (fin : ∀ acc, I xs.length acc → Q acc) (mono : ∀ x (Q Q' : Option D → Prop), (∀ o, Q o → Q' o) → f x Q E → f x Q' E) : lcY (xs.map enc) f Q E := by
  refine ⟨by simpa using hl, ?_⟩
  have key : ∀ (k : Nat) (acc : List D), k ≤ xs.length → I k acc → compY ((xs.drop k).map enc) f (fun r => Q (acc ++ r)) E := by
    intro k
    induction hm : xs.length - k generalizing k with
    | zero =>
      intro acc hk i
      have : k = xs.length := by omega
      subst this
      rw [List.drop_length]
      show Q (acc ++ [])
      rw [List.append_nil]
      exact fin _ i
    | succ n ih =>
      intro acc hk i
      have hlt : k < xs.length := by omega
      rw [List.drop_eq_getElem_cons hlt]
      show f (enc xs[k]) (fun o => compY ((xs.drop (k + 1)).map enc) f (fun r => Q (acc ++ (match o with
        | some d => d :: r
        | none => r))) E) E
      refine mono _ _ _ (fun o j => ?_) (step k _ acc (List.getElem?_eq_getElem hlt) i)
      have := ih (k + 1) (by omega) _ hlt j
      cases o with
      | some d => simpa using this
      | none => exact this
  have := key 0 [] (Nat.zero_le _) init
  simpa using this
/-- a loop without fail, no way out of it -/
theorem forY_fold {σ α : Type} {enc : α → D} {f : σ → α → σ} {body : D → σ → YS σ} (I : Nat → σ → Prop) : ∀ {xs : List α} {s : σ} {i : Nat}, I i s → (∀ j x s, xs[j]? = some x → I (i + j) s → body (enc x) s = YS.nx (f s x) ∧ I (i + j + 1) (f s x)) → forY (xs.map enc) s body = YS.nx (xs.foldl f s)
  | [], s, i, _, _ => rfl
  | x :: xs, s, i, h, st => by
    have := st 0 x s rfl h
    rw [List.map_cons, forY, this.1, YS.nx_seq, List.foldl_cons]
    exact forY_fold I (i := i + 1) this.2 fun j y s hy hi => by
      have := st (j + 1) y s (by simpa using hy) (by rw [show i + (j + 1) = i + 1 + j by omega]; exact hi)
      rw [show i + (j + 1) + 1 = i + 1 + j + 1 by omega] at this
      exact this
/-- a loop by what holds -/
theorem forY_wp {σ α : Type} {enc : α → D} {body : D → σ → YS σ} {N : σ → Prop} {R : D → Prop} {E : Ec} (I : Nat → σ → Prop) {xs : List α} {s : σ} (init : I 0 s) (step : ∀ i x s, xs[i]? = some x → I i s → ∀ M : σ → Prop, (∀ s, I (i + 1) s → M s) → body (enc x) s M R E) (fin : ∀ s, I xs.length s → N s) : forY (xs.map enc) s body N R E := by
  have key : ∀ (k : Nat) (s : σ), k ≤ xs.length → I k s → forY ((xs.drop k).map enc) s body N R E := by
    intro k
    induction hm : xs.length - k generalizing k with
    | zero =>
      intro s hk i
      have : k = xs.length := by omega
      subst this
      rw [List.drop_length]
      exact fin _ i
    | succ n ih =>
      intro s hk i
      have hlt : k < xs.length := by omega
      rw [List.drop_eq_getElem_cons hlt]
      show body (enc xs[k]) s (fun s => forY ((xs.drop (k + 1)).map enc) s body N R E) R E
      exact step k _ s (List.getElem?_eq_getElem hlt) i _ fun s j => ih (k + 1) (by omega) s hlt j
  have := key 0 s (Nat.zero_le _) init
  rwa [List.drop_zero] at this
end PV
namespace PV
theorem XB.go {σ : Type} {c c' : Ct} {S : Sg} {K : σ → Sg → Hh → Prop} {st : St} {w : YS σ} {h : Hh} (H : HI c' h) (p : XB c' S K st w) (e1 : c'.hd = c.hd := by rfl) (e2 : c'.h0 = c.h0 := by rfl) : AB c K (st S h) w := fun N R E z => by
  have q := p h H N R E z
  unfold Rt at q
  rw [e1, e2] at q
  exact q
theorem ab_to {σ : Type} {c c' : Ct} {S S1 : Sg} {K : σ → Sg → Hh → Prop} {g : Tg} {body : St} {x : D} {w : YS σ} {h : Hh} (hg : g x S h = .nx S1 h) (H : HI c' h) (p : XB c' S1 K body w) (e1 : c'.hd = c.hd := by rfl) (e2 : c'.h0 = c.h0 := by rfl) : AB c K (bodR g body x S h) w := ab_go hg (XB.go H p e1 e2)
theorem XG.go {α β : Type} {c c' : Ct} {rel : Hh → α → β → Prop} {S : Sg} {a : Sg → Hh → R α} {A : Y β} {h : Hh} (H : HI c' h) (p : XG c' rel S a A) (e1 : c'.hd = c.hd := by rfl) : AE c.hd h rel (a S h) A := e1 ▸ p h H
end PV
--DC
namespace PV
def dcY : List D → List (D × D) → (D → Y (Option (D × D))) → Y (List (D × D))
  | [], acc, _ => Y.pure acc
  | x :: xs, acc, f => (f x).bind fun o => match o with
    | some p => Y.need (fitK p.1 acc = true ∧ acc.length < big) (dcY xs (putK p.1 p.2 acc) f)
    | none => dcY xs acc f
def elKY (T : Y Bool) (A B : Y D) : Y (Option (D × D)) := T.calm.bind fun k => if k = true then A.calm.bind fun d => B.calm.bind fun v => Y.pure (some (d, v)) else Y.pure none
@[simp] theorem elKY_y (A B : Y D) : elKY (Y.pure true) A B = A.calm.bind fun d => B.calm.bind fun v => Y.pure (some (d, v)) := Eq.trans rfl rfl
def elKR (g : Tg) (t : Tt) (ek ev : Ex) (x : D) : Sg → Hh → R (Option (D × D)) := fun S h => match g x S h with
  | .nx S1 h1 => (t S1 h1).calm.bind fun k h2 => if k = true then (ek S1 h2).calm.bind fun d h3 => (ev S1 h3).calm.bind fun v h4 => .ok (some (d, v)) h4 else .ok none h2
  | _ => .bad
abbrev XElK (c : Ct) (S : Sg) (a : Sg → Hh → R (Option (D × D))) (A : Y (Option (D × D))) : Prop := XG c (fun _ x u => x = u ∧ ∀ d, u = some d → d.1.cl ∧ d.2.cl) S a A
section
variable {c : Ct} {S : Sg} {wk : List (Nat × O)}
theorem elk_v {g : Tg} {t : Tt} {ek ev : Ex} {x : D} {S1 : Sg} {T : Y Bool} {A B : Y D} (hg : ∀ h, g x S h = .nx S1 h) (pt : XT c S1 t T) (pk : XE false c S1 ek A) (pv : XE false c S1 ev B) : XElK c S (elKR g t ek ev x) (elKY T A B) := fun h H => by
  unfold elKR
  rw [hg]
  refine AE.bind (AE.calm (pt h H)) fun k k' h1 r q => ?_
  subst q
  cases k with
  | true =>
    show AE c.hd h1 _ ((ek S1 h1).calm.bind fun d h3 => (ev S1 h3).calm.bind fun v h4 => R.ok (some (d, v)) h4) (A.calm.bind fun d => B.calm.bind fun v => Y.pure (some (d, v)))
    exact AE.bind (AE.calm (pk h1 (H.hr r))) fun d d' h2 r2 q2 => AE.bind (AE.calm (pv h2 ((H.hr r).hr r2))) fun v v' h3 r3 q3 => AE.ok r3.ok ⟨by rw [q2.1, q3.1], fun z hz => by cases hz; exact ⟨q2.2, q3.2⟩⟩
  | false => exact AE.ok r.ok ⟨rfl, fun z hz => by cases hz⟩
theorem dcM_step {src : Src} {vs : List Nat} {g : Tg} {t : Tt} {ek ev : Ex} {x : D} {xs : List D} {h : Hh} {acc : List (D × D)} (st : still src h) : dcM src vs g t ek ev S (x :: xs) h acc = (elKR g t ek ev x (PV.wipe S vs) h).bind fun o h' => match o with
    | some p => if fitK p.1 acc = true ∧ acc.length < big then dcM src vs g t ek ev S xs h' (putK p.1 p.2 acc) else .bad
    | none => dcM src vs g t ek ev S xs h' acc := by
  unfold elKR
  cases z : g x (PV.wipe S vs) h with
  | nx S1 h1 =>
    rw [dcM_cons src vs g t ek ev S x xs h acc st z]
    dsimp only
    cases z2 : t S1 h1 with
    | ok k h2 =>
      cases k with
      | true =>
        show (if true = true then (ek S1 h2).calm.bind fun kd h3 => (ev S1 h3).calm.bind fun vd h4 => if fitK kd acc = true ∧ acc.length < big then dcM src vs g t ek ev S xs h4 (putK kd vd acc) else .bad else dcM src vs g t ek ev S xs h2 acc) = ((if true = true then (ek S1 h2).calm.bind fun d h3 => (ev S1 h3).calm.bind fun v h4 => R.ok (some (d, v)) h4 else R.ok none h2).bind _)
        rw [if_pos rfl, if_pos rfl]
        cases ek S1 h2 with
        | ok d h3 =>
          show ((ev S1 h3).calm.bind _) = ((ev S1 h3).calm.bind _).bind _
          cases ev S1 h3 <;> rfl
        | _ => rfl
      | false => rfl
    | _ => rfl
  | rt d h1 => rw [dcM, if_pos st, z]; rfl
  | exc a b d e => rw [dcM, if_pos st, z]; rfl
  | bad => rw [dcM, if_pos st, z]; rfl
theorem xk_dc {la : Ls} {vs : List Nat} {g : Tg} {t : Tt} {ek ev : Ex} {A : Y (List D)} {f : D → Y (Option (D × D))} (hw : ∀ q ∈ wk, q ∈ c.ms) (p : XR wk c S la A) (pe : ∀ x, x.cl → XElK c (PV.wipe S vs) (elKR g t ek ev x) (f x)) : XKd c S (aDc la vs g t ek ev) (A.bind fun xs => dcY xs [] f) := fun h H => AE.bind (p h H) fun x u h1 r q => by
  obtain ⟨xs, src⟩ := x
  obtain ⟨rfl, hc, hs⟩ := q
  dsimp only at hc hs ⊢
  have key : ∀ (xs : List D) (acc : List (D × D)) (h : Hh), HI c h → cls xs → (∀ p ∈ acc, p.1.cl ∧ p.2.cl) → AE c.hd h (fun _ a b => a = b ∧ ∀ p ∈ b, p.1.cl ∧ p.2.cl) (dcM src vs g t ek ev S xs h acc) (dcY xs acc f) := by
    intro xs
    induction xs with
    | nil =>
      intro acc h H _ ca
      rw [dcM, if_pos (Wk.still H.fx (fun q hq => H.at_ q (hw q hq)) hs)]
      exact AE.ok H.ok ⟨rfl, ca⟩
    | cons x xs ih =>
      intro acc h H hc ca
      rw [dcM_step (Wk.still H.fx (fun q hq => H.at_ q (hw q hq)) hs)]
      refine AE.bind (pe x hc.1 h H) fun o o' h2 r2 q2 => ?_
      obtain ⟨rfl, q2⟩ := q2
      cases o with
      | some d =>
        exact AE.need fun w => by
          dsimp only
          rw [if_pos w]
          exact ih _ h2 (H.hr r2) hc.2 (putK_cl (q2 d rfl).1 (q2 d rfl).2 ca)
      | none => exact ih acc h2 (H.hr r2) hc.2 ca
  exact key xs [] h1 (H.hr r) hc fun p hp => by simp at hp
end
end PV
--UN
namespace PV
section
variable {σ : Type} {c : Ct} {S : Sg} {K : σ → Sg → Hh → Prop} {h : Hh} {p q : D}
theorem ab_us2_ {g : Tg} {body : St} {x : D} {k : D → D → YS σ} (w : x.cl) (f : ∀ a b, a.cl → b.cl → AB c K (bodR g body (.tup [a, b]) S h) (k a b)) : AB c K (bodR g body x S h) (us2 x k) :=
  ab_us2 (fun x => bodR g body x S h) w f
theorem xg_un2_ {g : Tg} {t : Tt} {e : Ex} {x : D} {k : D → D → Y (Option D)} (w : x.cl) (f : ∀ a b, a.cl → b.cl → XEl c S (elR g t e (.tup [a, b])) (k a b)) : XEl c S (elR g t e x) (un2 x k) :=
  xg_un2 (fun x => elR g t e x) w f
theorem ab_us3_ {g : Tg} {body : St} {x : D} {k : D → D → D → YS σ} (w : x.cl) (f : ∀ a b d, a.cl → b.cl → d.cl → AB c K (bodR g body (.tup [a, b, d]) S h) (k a b d)) : AB c K (bodR g body x S h) (us3 x k) :=
  ab_us3 (fun x => bodR g body x S h) w f
theorem xg_un3_ {g : Tg} {t : Tt} {e : Ex} {x : D} {k : D → D → D → Y (Option D)} (w : x.cl) (f : ∀ a b d, a.cl → b.cl → d.cl → XEl c S (elR g t e (.tup [a, b, d])) (k a b d)) : XEl c S (elR g t e x) (un3 x k) :=
  xg_un3 (fun x => elR g t e x) w f
theorem ab_us2_22 {g : Tg} {body : St} {x : D} {k : D → D → YS σ} (w : x.cl) (f : ∀ a b, a.cl → b.cl → AB c K (bodR g body (.tup [p, (.tup [a, b])]) S h) (k a b)) : AB c K (bodR g body (.tup [p, x]) S h) (us2 x k) :=
  ab_us2 (fun x => bodR g body (.tup [p, x]) S h) w f
theorem xg_un2_22 {g : Tg} {t : Tt} {e : Ex} {x : D} {k : D → D → Y (Option D)} (w : x.cl) (f : ∀ a b, a.cl → b.cl → XEl c S (elR g t e (.tup [p, (.tup [a, b])])) (k a b)) : XEl c S (elR g t e (.tup [p, x])) (un2 x k) :=
  xg_un2 (fun x => elR g t e (.tup [p, x])) w f
theorem ab_us3_22 {g : Tg} {body : St} {x : D} {k : D → D → D → YS σ} (w : x.cl) (f : ∀ a b d, a.cl → b.cl → d.cl → AB c K (bodR g body (.tup [p, (.tup [a, b, d])]) S h) (k a b d)) : AB c K (bodR g body (.tup [p, x]) S h) (us3 x k) :=
  ab_us3 (fun x => bodR g body (.tup [p, x]) S h) w f
theorem xg_un3_22 {g : Tg} {t : Tt} {e : Ex} {x : D} {k : D → D → D → Y (Option D)} (w : x.cl) (f : ∀ a b d, a.cl → b.cl → d.cl → XEl c S (elR g t e (.tup [p, (.tup [a, b, d])])) (k a b d)) : XEl c S (elR g t e (.tup [p, x])) (un3 x k) :=
  xg_un3 (fun x => elR g t e (.tup [p, x])) w f
theorem ab_us2_21 {g : Tg} {body : St} {x : D} {k : D → D → YS σ} (w : x.cl) (f : ∀ a b, a.cl → b.cl → AB c K (bodR g body (.tup [(.tup [a, b]), p]) S h) (k a b)) : AB c K (bodR g body (.tup [x, p]) S h) (us2 x k) :=
  ab_us2 (fun x => bodR g body (.tup [x, p]) S h) w f
theorem xg_un2_21 {g : Tg} {t : Tt} {e : Ex} {x : D} {k : D → D → Y (Option D)} (w : x.cl) (f : ∀ a b, a.cl → b.cl → XEl c S (elR g t e (.tup [(.tup [a, b]), p])) (k a b)) : XEl c S (elR g t e (.tup [x, p])) (un2 x k) :=
  xg_un2 (fun x => elR g t e (.tup [x, p])) w f
theorem ab_us3_21 {g : Tg} {body : St} {x : D} {k : D → D → D → YS σ} (w : x.cl) (f : ∀ a b d, a.cl → b.cl → d.cl → AB c K (bodR g body (.tup [(.tup [a, b, d]), p]) S h) (k a b d)) : AB c K (bodR g body (.tup [x, p]) S h) (us3 x k) :=
  ab_us3 (fun x => bodR g body (.tup [x, p]) S h) w f
theorem xg_un3_21 {g : Tg} {t : Tt} {e : Ex} {x : D} {k : D → D → D → Y (Option D)} (w : x.cl) (f : ∀ a b d, a.cl → b.cl → d.cl → XEl c S (elR g t e (.tup [(.tup [a, b, d]), p])) (k a b d)) : XEl c S (elR g t e (.tup [x, p])) (un3 x k) :=
  xg_un3 (fun x => elR g t e (.tup [x, p])) w f
theorem ab_us2_33 {g : Tg} {body : St} {x : D} {k : D → D → YS σ} (w : x.cl) (f : ∀ a b, a.cl → b.cl → AB c K (bodR g body (.tup [p, q, (.tup [a, b])]) S h) (k a b)) : AB c K (bodR g body (.tup [p, q, x]) S h) (us2 x k) :=
  ab_us2 (fun x => bodR g body (.tup [p, q, x]) S h) w f
theorem xg_un2_33 {g : Tg} {t : Tt} {e : Ex} {x : D} {k : D → D → Y (Option D)} (w : x.cl) (f : ∀ a b, a.cl → b.cl → XEl c S (elR g t e (.tup [p, q, (.tup [a, b])])) (k a b)) : XEl c S (elR g t e (.tup [p, q, x])) (un2 x k) :=
  xg_un2 (fun x => elR g t e (.tup [p, q, x])) w f
theorem ab_us3_33 {g : Tg} {body : St} {x : D} {k : D → D → D → YS σ} (w : x.cl) (f : ∀ a b d, a.cl → b.cl → d.cl → AB c K (bodR g body (.tup [p, q, (.tup [a, b, d])]) S h) (k a b d)) : AB c K (bodR g body (.tup [p, q, x]) S h) (us3 x k) :=
  ab_us3 (fun x => bodR g body (.tup [p, q, x]) S h) w f
theorem xg_un3_33 {g : Tg} {t : Tt} {e : Ex} {x : D} {k : D → D → D → Y (Option D)} (w : x.cl) (f : ∀ a b d, a.cl → b.cl → d.cl → XEl c S (elR g t e (.tup [p, q, (.tup [a, b, d])])) (k a b d)) : XEl c S (elR g t e (.tup [p, q, x])) (un3 x k) :=
  xg_un3 (fun x => elR g t e (.tup [p, q, x])) w f
theorem ab_us2_32 {g : Tg} {body : St} {x : D} {k : D → D → YS σ} (w : x.cl) (f : ∀ a b, a.cl → b.cl → AB c K (bodR g body (.tup [p, (.tup [a, b]), q]) S h) (k a b)) : AB c K (bodR g body (.tup [p, x, q]) S h) (us2 x k) :=
  ab_us2 (fun x => bodR g body (.tup [p, x, q]) S h) w f
theorem xg_un2_32 {g : Tg} {t : Tt} {e : Ex} {x : D} {k : D → D → Y (Option D)} (w : x.cl) (f : ∀ a b, a.cl → b.cl → XEl c S (elR g t e (.tup [p, (.tup [a, b]), q])) (k a b)) : XEl c S (elR g t e (.tup [p, x, q])) (un2 x k) :=
  xg_un2 (fun x => elR g t e (.tup [p, x, q])) w f
theorem ab_us3_32 {g : Tg} {body : St} {x : D} {k : D → D → D → YS σ} (w : x.cl) (f : ∀ a b d, a.cl → b.cl → d.cl → AB c K (bodR g body (.tup [p, (.tup [a, b, d]), q]) S h) (k a b d)) : AB c K (bodR g body (.tup [p, x, q]) S h) (us3 x k) :=
  ab_us3 (fun x => bodR g body (.tup [p, x, q]) S h) w f
theorem xg_un3_32 {g : Tg} {t : Tt} {e : Ex} {x : D} {k : D → D → D → Y (Option D)} (w : x.cl) (f : ∀ a b d, a.cl → b.cl → d.cl → XEl c S (elR g t e (.tup [p, (.tup [a, b, d]), q])) (k a b d)) : XEl c S (elR g t e (.tup [p, x, q])) (un3 x k) :=
  xg_un3 (fun x => elR g t e (.tup [p, x, q])) w f
theorem ab_us2_31 {g : Tg} {body : St} {x : D} {k : D → D → YS σ} (w : x.cl) (f : ∀ a b, a.cl → b.cl → AB c K (bodR g body (.tup [(.tup [a, b]), p, q]) S h) (k a b)) : AB c K (bodR g body (.tup [x, p, q]) S h) (us2 x k) :=
  ab_us2 (fun x => bodR g body (.tup [x, p, q]) S h) w f
theorem xg_un2_31 {g : Tg} {t : Tt} {e : Ex} {x : D} {k : D → D → Y (Option D)} (w : x.cl) (f : ∀ a b, a.cl → b.cl → XEl c S (elR g t e (.tup [(.tup [a, b]), p, q])) (k a b)) : XEl c S (elR g t e (.tup [x, p, q])) (un2 x k) :=
  xg_un2 (fun x => elR g t e (.tup [x, p, q])) w f
theorem ab_us3_31 {g : Tg} {body : St} {x : D} {k : D → D → D → YS σ} (w : x.cl) (f : ∀ a b d, a.cl → b.cl → d.cl → AB c K (bodR g body (.tup [(.tup [a, b, d]), p, q]) S h) (k a b d)) : AB c K (bodR g body (.tup [x, p, q]) S h) (us3 x k) :=
  ab_us3 (fun x => bodR g body (.tup [x, p, q]) S h) w f
theorem xg_un3_31 {g : Tg} {t : Tt} {e : Ex} {x : D} {k : D → D → D → Y (Option D)} (w : x.cl) (f : ∀ a b d, a.cl → b.cl → d.cl → XEl c S (elR g t e (.tup [(.tup [a, b, d]), p, q])) (k a b d)) : XEl c S (elR g t e (.tup [x, p, q])) (un3 x k) :=
  xg_un3 (fun x => elR g t e (.tup [x, p, q])) w f
theorem xh_un2_ {g : Tg} {t : Tt} {e e2 : Ex} {x : D} {k : D → D → Y (Option (D × D))} (w : x.cl) (f : ∀ a b, a.cl → b.cl → XElK c S (elKR g t e e2 (.tup [a, b])) (k a b)) : XElK c S (elKR g t e e2 x) (un2 x k) :=
  xg_un2 (fun x => elKR g t e e2 x) w f
theorem xh_un3_ {g : Tg} {t : Tt} {e e2 : Ex} {x : D} {k : D → D → D → Y (Option (D × D))} (w : x.cl) (f : ∀ a b d, a.cl → b.cl → d.cl → XElK c S (elKR g t e e2 (.tup [a, b, d])) (k a b d)) : XElK c S (elKR g t e e2 x) (un3 x k) :=
  xg_un3 (fun x => elKR g t e e2 x) w f
theorem xh_un2_22 {g : Tg} {t : Tt} {e e2 : Ex} {x : D} {k : D → D → Y (Option (D × D))} (w : x.cl) (f : ∀ a b, a.cl → b.cl → XElK c S (elKR g t e e2 (.tup [p, (.tup [a, b])])) (k a b)) : XElK c S (elKR g t e e2 (.tup [p, x])) (un2 x k) :=
  xg_un2 (fun x => elKR g t e e2 (.tup [p, x])) w f
theorem xh_un3_22 {g : Tg} {t : Tt} {e e2 : Ex} {x : D} {k : D → D → D → Y (Option (D × D))} (w : x.cl) (f : ∀ a b d, a.cl → b.cl → d.cl → XElK c S (elKR g t e e2 (.tup [p, (.tup [a, b, d])])) (k a b d)) : XElK c S (elKR g t e e2 (.tup [p, x])) (un3 x k) :=
  xg_un3 (fun x => elKR g t e e2 (.tup [p, x])) w f
theorem xh_un2_21 {g : Tg} {t : Tt} {e e2 : Ex} {x : D} {k : D → D → Y (Option (D × D))} (w : x.cl) (f : ∀ a b, a.cl → b.cl → XElK c S (elKR g t e e2 (.tup [(.tup [a, b]), p])) (k a b)) : XElK c S (elKR g t e e2 (.tup [x, p])) (un2 x k) :=
  xg_un2 (fun x => elKR g t e e2 (.tup [x, p])) w f
theorem xh_un3_21 {g : Tg} {t : Tt} {e e2 : Ex} {x : D} {k : D → D → D → Y (Option (D × D))} (w : x.cl) (f : ∀ a b d, a.cl → b.cl → d.cl → XElK c S (elKR g t e e2 (.tup [(.tup [a, b, d]), p])) (k a b d)) : XElK c S (elKR g t e e2 (.tup [x, p])) (un3 x k) :=
  xg_un3 (fun x => elKR g t e e2 (.tup [x, p])) w f
theorem xh_un2_33 {g : Tg} {t : Tt} {e e2 : Ex} {x : D} {k : D → D → Y (Option (D × D))} (w : x.cl) (f : ∀ a b, a.cl → b.cl → XElK c S (elKR g t e e2 (.tup [p, q, (.tup [a, b])])) (k a b)) : XElK c S (elKR g t e e2 (.tup [p, q, x])) (un2 x k) :=
  xg_un2 (fun x => elKR g t e e2 (.tup [p, q, x])) w f
theorem xh_un3_33 {g : Tg} {t : Tt} {e e2 : Ex} {x : D} {k : D → D → D → Y (Option (D × D))} (w : x.cl) (f : ∀ a b d, a.cl → b.cl → d.cl → XElK c S (elKR g t e e2 (.tup [p, q, (.tup [a, b, d])])) (k a b d)) : XElK c S (elKR g t e e2 (.tup [p, q, x])) (un3 x k) :=
  xg_un3 (fun x => elKR g t e e2 (.tup [p, q, x])) w f
theorem xh_un2_32 {g : Tg} {t : Tt} {e e2 : Ex} {x : D} {k : D → D → Y (Option (D × D))} (w : x.cl) (f : ∀ a b, a.cl → b.cl → XElK c S (elKR g t e e2 (.tup [p, (.tup [a, b]), q])) (k a b)) : XElK c S (elKR g t e e2 (.tup [p, x, q])) (un2 x k) :=
  xg_un2 (fun x => elKR g t e e2 (.tup [p, x, q])) w f
theorem xh_un3_32 {g : Tg} {t : Tt} {e e2 : Ex} {x : D} {k : D → D → D → Y (Option (D × D))} (w : x.cl) (f : ∀ a b d, a.cl → b.cl → d.cl → XElK c S (elKR g t e e2 (.tup [p, (.tup [a, b, d]), q])) (k a b d)) : XElK c S (elKR g t e e2 (.tup [p, x, q])) (un3 x k) :=
  xg_un3 (fun x => elKR g t e e2 (.tup [p, x, q])) w f
theorem xh_un2_31 {g : Tg} {t : Tt} {e e2 : Ex} {x : D} {k : D → D → Y (Option (D × D))} (w : x.cl) (f : ∀ a b, a.cl → b.cl → XElK c S (elKR g t e e2 (.tup [(.tup [a, b]), p, q])) (k a b)) : XElK c S (elKR g t e e2 (.tup [x, p, q])) (un2 x k) :=
  xg_un2 (fun x => elKR g t e e2 (.tup [x, p, q])) w f
theorem xh_un3_31 {g : Tg} {t : Tt} {e e2 : Ex} {x : D} {k : D → D → D → Y (Option (D × D))} (w : x.cl) (f : ∀ a b d, a.cl → b.cl → d.cl → XElK c S (elKR g t e e2 (.tup [(.tup [a, b, d]), p, q])) (k a b d)) : XElK c S (elKR g t e e2 (.tup [x, p, q])) (un3 x k) :=
  xg_un3 (fun x => elKR g t e e2 (.tup [x, p, q])) w f
end
end PV
set_option Elab.async false
set_option linter.all false
set_option autoImplicit false
set_option maxRecDepth 100000
set_option maxHeartbeats 2000000
/-! PP: plain facts that all laws share. -/
namespace PV
open PySem (Str PyData NestedKey)
/-! ### loops whose states are told by their number -/
theorem forY_seqs {σ α : Type} {enc : α → D} {body : D → σ → YS σ} (st : Nat → σ) : ∀ {xs : List α} {k : Nat}, (∀ i x, xs[i]? = some x → body (enc x) (st (k + i)) = YS.nx (st (k + i + 1))) → forY (xs.map enc) (st k) body = YS.nx (st (k + xs.length))
  | [], k, _ => rfl
  | x :: xs, k, h => by
    have h0 : body (enc x) (st k) = YS.nx (st (k + 1)) := h 0 x rfl
    have := forY_seqs st (xs := xs) (k := k + 1) (body := body) (enc := enc) fun i y hy => by
      have := h (i + 1) y (by simpa using hy)
      rw [show k + (i + 1) = k + 1 + i by omega] at this
      exact this
    rw [List.map_cons, forY, h0, YS.nx_seq, this, List.length_cons]
    rw [show k + 1 + xs.length = k + (xs.length + 1) by omega]
theorem forY_seq {σ α : Type} {enc : α → D} {body : D → σ → YS σ} {xs : List α} (st : Nat → σ) (h : ∀ i x, xs[i]? = some x → body (enc x) (st i) = YS.nx (st (i + 1))) : forY (xs.map enc) (st 0) body = YS.nx (st xs.length) := by
  have := forY_seqs st (xs := xs) (k := 0) (body := body) (enc := enc) fun i x hx => by simpa using h i x hx
  simpa using this
/-- .. over numbers -/
theorem forY_nat {σ : Type} {body : D → σ → YS σ} {n : Nat} (st : Nat → σ) (h : ∀ i, i < n → body (.int (i : Nat)) (st i) = YS.nx (st (i + 1))) : forY ((List.range n).map fun i => D.int (i : Nat)) (st 0) body = YS.nx (st n) := by
  have := forY_seq (xs := List.range n) (enc := fun i => D.int (i : Nat)) (body := body) st fun i x hx => by
    obtain ⟨hi, e⟩ := List.getElem?_eq_some_iff.mp hx
    have hi' : i < n := by simpa using hi
    have : x = i := by simpa using e.symm
    subst this
    exact h x hi'
  simpa using this
/-! ### data of whole numbers, truth values, None, tuples, lists -/
mutual
def D.ip : D → Prop
  | .non => True
  | .bl _ => True
  | .int i => i.natAbs.log2 < 1920
  | .tup xs => D.ips xs
  | .fz xs => D.ips xs
  | _ => False
def D.ips : List D → Prop
  | [] => True
  | x :: xs => D.ip x ∧ D.ips xs
end
mutual
/-- how long its repr is at most -/
def D.rl : D → Nat
  | .non => 4
  | .bl _ => 5
  | .int i => i.natAbs.log2 + 2
  | .tup xs => D.rls xs + 3
  | .fz xs => D.rls xs + 3
  | _ => 0
def D.rls : List D → Nat
  | [] => 0
  | x :: xs => D.rl x + 2 + D.rls xs
end
mutual
def D.dp : D → Nat
  | .tup xs => D.dps xs + 1
  | .fz xs => D.dps xs + 1
  | _ => 0
def D.dps : List D → Nat
  | [] => 0
  | x :: xs => max (D.dp x) (D.dps xs)
end
theorem ips_iff : ∀ {xs : List D}, D.ips xs ↔ ∀ d ∈ xs, d.ip
  | [] => by simp [D.ips]
  | x :: xs => by simp [D.ips, ips_iff (xs := xs)]
theorem nat_text (n : Nat) : (toString n).length ≤ n.log2 + 1 := by
  rw [Nat.toString_eq_repr]
  refine (Nat.length_repr_le_iff (by omega)).mpr ?_
  exact Nat.lt_of_lt_of_le Nat.lt_log2_self (Nat.pow_le_pow_left (by decide) _)
theorem int_text (i : Int) : (toString i).length ≤ i.natAbs.log2 + 2 := by
  cases i with
  | ofNat n => 
    have := nat_text n
    show (toString n).length ≤ _
    simp only [Int.ofNat_eq_natCast, Int.natAbs_natCast]
    omega
  | negSucc n =>
    have := nat_text (n + 1)
    show ("-" ++ toString (n + 1)).length ≤ _
    rw [String.length_append]
    simp only [Int.natAbs_negSucc]
    have : ("-" : String).length = 1 := rfl
    simp only [Nat.succ_eq_add_one]
    omega
theorem str_text (i : Int) : (Str.ofString (toString i)).length ≤ i.natAbs.log2 + 2 := by
  rw [PySem.ofString_length]
  exact int_text i
def rsum : List Str → Nat
  | [] => 0
  | t :: ts => t.length + 2 + rsum ts
theorem textFrom_le : ∀ (ts : List Str) (k : Nat) (acc : Str), (PySem.textFrom k acc ts).length ≤ acc.length + rsum ts
  | [], k, acc => Nat.le_refl _
  | t :: ts, k, acc => by
    have := textFrom_le ts (k + 1) (acc ++ (if k > 0 then ", " else "" : String) ++ t)
    rw [PySem.textFrom]
    refine Nat.le_trans this ?_
    rw [Str.length_append, Str.length_append, rsum]
    have : (Str.ofString (if k > 0 then ", " else "" : String)).length ≤ 2 := by split <;> decide
    omega
theorem join_le : ∀ ts : List Str, (Str.join ", " ts).length ≤ rsum ts
  | [] => Nat.zero_le _
  | [t] => by show t.length ≤ _; rw [rsum]; omega
  | t :: u :: ts => by
    have := join_le (u :: ts)
    have e : Str.join ", " (t :: u :: ts) = t ++ (Str.ofString ", ") ++ Str.join ", " (u :: ts) := rfl
    rw [e, Str.length_append, Str.length_append, rsum]
    have : (Str.ofString ", ").length = 2 := by decide
    omega
theorem ok_of (s : String) : PyData.strOk (Str.ofString s) = true := by
  rw [Str.ofString_eq_toList]
  unfold PyData.strOk
  simp only [List.all_toArray, List.all_map, List.all_eq_true, Function.comp, decide_eq_true_eq]
  intro c _
  have := c.valid
  rcases this with h | h
  · have : c.toNat < 0xD800 := h
    omega
  · exact h.2
theorem ok_app {a b : Str} (ha : PyData.strOk a = true) (hb : PyData.strOk b = true) : PyData.strOk (a ++ b) = true := by
  unfold PyData.strOk at *
  rw [Str.cps_append, Array.all_append, ha, hb]
  rfl
theorem ok_text : ∀ (ts : List Str) (k : Nat) (acc : Str), PyData.strOk acc = true → (∀ t ∈ ts, PyData.strOk t = true) → PyData.strOk (PySem.textFrom k acc ts) = true
  | [], k, acc, h, _ => h
  | t :: ts, k, acc, h, g => by
    rw [PySem.textFrom]
    exact ok_text ts (k + 1) _ (ok_app (ok_app h (ok_of _)) (g t List.mem_cons_self)) fun t ht => g t (List.mem_cons_of_mem _ ht)
theorem ok_join : ∀ ts : List Str, (∀ t ∈ ts, PyData.strOk t = true) → PyData.strOk (Str.join ", " ts) = true
  | [], _ => by decide +kernel
  | [t], g => g t List.mem_cons_self
  | t :: u :: ts, g => by
    have e : Str.join ", " (t :: u :: ts) = t ++ (Str.ofString ", ") ++ Str.join ", " (u :: ts) := rfl
    rw [e]
    exact ok_app (ok_app (g t List.mem_cons_self) (ok_of _)) (ok_join (u :: ts) fun t ht => g t (List.mem_cons_of_mem _ ht))
mutual
theorem ip_ok : ∀ {d : D}, d.ip → ∀ {p : PyData}, d.py = some p → PyData.strOk p.shown = true
  | .non, _, p, e => by cases e; rw [PyData.shown]; exact ok_of _
  | .bl b, _, p, e => by cases e; rw [PyData.shown]; cases b <;> exact ok_of _
  | .int i, h, p, e => by cases e; rw [PyData.shown]; exact ok_of _
  | .tup xs, h, p, e => by
    rw [D.py] at e
    cases z : D.pys xs with
    | none => rw [z] at e; cases e
    | some ps =>
      rw [z] at e
      cases e
      rw [PyData.shown, PySem.tupleText]
      exact ok_app (ok_app (ok_of _) (ok_join _ (ips_ok (xs := xs) h z))) (ok_of _)
  | .fz xs, h, p, e => by
    rw [D.py] at e
    cases z : D.pys xs with
    | none => rw [z] at e; cases e
    | some ps =>
      rw [z] at e
      cases e
      rw [PyData.shown, PySem.listText]
      exact ok_app (ok_text _ _ _ (ok_of _) (ips_ok (xs := xs) h z)) (ok_of _)
  | .str _, h, _, _ => False.elim h
  | .fd _ _, h, _, _ => False.elim h
  | .fi _ _ _, h, _, _ => False.elim h
  | .ref _, h, _, _ => False.elim h
theorem ips_ok : ∀ {xs : List D}, D.ips xs → ∀ {ps : List PyData}, D.pys xs = some ps → ∀ t ∈ PyData.shownAll ps, PyData.strOk t = true
  | [], _, ps, e => by cases e; intro t ht; rw [PyData.shownAll] at ht; simp at ht
  | x :: xs, h, ps, e => by
    obtain ⟨p, e1⟩ : ∃ p, x.py = some p := by
      rw [D.pys] at e
      cases w : x.py with
      | none => rw [w] at e; cases e
      | some p => exact ⟨p, rfl⟩
    rw [D.pys, e1] at e
    cases z : D.pys xs with
    | none => rw [z] at e; cases e
    | some qs =>
      rw [z] at e
      cases e
      intro t ht
      rw [PyData.shownAll] at ht
      rcases List.mem_cons.mp ht with rfl | ht
      · exact ip_ok (d := x) h.1 e1
      · exact ips_ok (xs := xs) h.2 z t ht
end
mutual
theorem ip_py : ∀ {d : D}, d.ip → ∃ p, d.py = some p ∧ p.showable = true ∧ p.hasDict = false ∧ p.canLay0 = true ∧ p.depth = d.dp ∧ p.shown.length ≤ d.rl ∧ PyData.eqv p p = true
  | .non, _ => ⟨.none, rfl, by simp [PyData.showable], by simp [PyData.hasDict], by simp [PyData.canLay0], by simp [PyData.depth, D.dp], by rw [PyData.shown]; decide, by simp [PyData.eqv]⟩
  | .bl b, _ => ⟨.bool b, rfl, by simp [PyData.showable], by simp [PyData.hasDict], by simp [PyData.canLay0], by simp [PyData.depth, D.dp], by rw [PyData.shown]; cases b <;> decide, by simp [PyData.eqv]⟩
  | .int i, h => ⟨.int i, rfl, by rw [PyData.showable]; exact decide_eq_true h, by simp [PyData.hasDict], by simp [PyData.canLay0], by simp [PyData.depth, D.dp], by rw [PyData.shown]; exact str_text i, by simp [PyData.eqv]⟩
  | .tup xs, h => by
    obtain ⟨ps, e, h1, h2, h3, h4, h5, h6⟩ := ips_py (xs := xs) h
    refine ⟨.tuple ps, by rw [D.py, e]; rfl, by rw [PyData.showable]; exact h1, by rw [PyData.hasDict]; exact h2, by rw [PyData.canLay0]; exact h3, by rw [PyData.depth, D.dp, h4], ?_, by rw [PyData.eqv]; exact h6⟩
    rw [PyData.shown, PySem.tupleText, Str.length_append, Str.length_append, D.rl]
    have := join_le (PyData.shownAll ps)
    have l1 : ("(" : Str).length = 1 := by decide
    have l2 : (Str.ofString (if (PyData.shownAll ps).length == 1 then ",)" else ")" : String)).length ≤ 2 := by split <;> decide
    omega
  | .fz xs, h => by
    obtain ⟨ps, e, h1, h2, h3, h4, h5, h6⟩ := ips_py (xs := xs) h
    refine ⟨.list ps, by rw [D.py, e]; rfl, by rw [PyData.showable]; exact h1, by rw [PyData.hasDict]; exact h2, by rw [PyData.canLay0]; exact h3, by rw [PyData.depth, D.dp, h4], ?_, by rw [PyData.eqv]; exact h6⟩
    rw [PyData.shown, PySem.listText, Str.length_append, D.rl]
    have := textFrom_le (PyData.shownAll ps) 0 "["
    have l1 : ("[" : Str).length = 1 := by decide
    have l2 : ("]" : Str).length = 1 := by decide
    omega
  | .str _, h => False.elim h
  | .fd _ _, h => False.elim h
  | .fi _ _ _, h => False.elim h
  | .ref _, h => False.elim h
theorem ips_py : ∀ {xs : List D}, D.ips xs → ∃ ps, D.pys xs = some ps ∧ PyData.showableAll ps = true ∧ PyData.hasDictAll ps = false ∧ PyData.canLayAll0 ps = true ∧ PyData.depthAll ps = D.dps xs ∧ rsum (PyData.shownAll ps) ≤ D.rls xs ∧ PyData.eqvAll ps ps = true
  | [], _ => ⟨[], rfl, by simp [PyData.showableAll], by simp [PyData.hasDictAll], by simp [PyData.canLayAll0], by simp [PyData.depthAll, D.dps], by rw [PyData.shownAll]; exact Nat.le_refl _, by simp [PyData.eqvAll]⟩
  | x :: xs, h => by
    obtain ⟨p, e, h1, h2, h3, h4, h5, h6⟩ := ip_py (d := x) h.1
    obtain ⟨ps, e', k1, k2, k3, k4, k5, k6⟩ := ips_py (xs := xs) h.2
    refine ⟨p :: ps, by rw [D.pys, e, e'], by rw [PyData.showableAll, h1, k1]; rfl, by rw [PyData.hasDictAll, h2, k2]; rfl, by rw [PyData.canLayAll0, h3, k3]; rfl, by rw [PyData.depthAll, D.dps, h4, k4], ?_, by rw [PyData.eqvAll, h6, k6]; rfl⟩
    rw [PyData.shownAll, rsum, D.rls]
    omega
end
theorem ip_pyH {d : D} (h : d.ip) : pyH [] d = d.py := by
  cases d <;> first | rfl | exact False.elim h
/-- repr of such, twice -/
theorem repr_ip {d : D} (h : d.ip) (h1 : d.dp ≤ 50) (h2 : d.rl ≤ 16777216) : ∃ s : Str, reprD [d] [] = .ok (.str s) [] := by
  obtain ⟨p, e, q1, q2, q3, q4, q5, q6⟩ := ip_py h
  refine ⟨p.shown, ?_⟩
  unfold reprD
  dsimp only
  rw [ip_pyH h, e]
  dsimp only
  rw [if_pos ⟨q1, q2, by omega, Nat.le_trans q5 h2⟩]
theorem eq_ip {d : D} (h : d.ip) (h1 : d.dp ≤ 50) : eqD d d [] = .ok (.bl true) [] := by
  obtain ⟨p, e, q1, q2, q3, q4, q5, q6⟩ := ip_py h
  unfold eqD
  rw [ip_pyH h, e]
  dsimp only
  have : PySem.SeqAt.shaped p = true := by unfold PySem.SeqAt.shaped; rw [q3]; simp; omega
  rw [if_pos ⟨this, this⟩, q6]
theorem ne_ip {d : D} (h : d.ip) (h1 : d.dp ≤ 50) : neD d d [] = .ok (.bl false) [] := by
  obtain ⟨p, e, q1, q2, q3, q4, q5, q6⟩ := ip_py h
  unfold neD
  rw [ip_pyH h, e]
  dsimp only
  have : PySem.SeqAt.shaped p = true := by unfold PySem.SeqAt.shaped; rw [q3]; simp; omega
  rw [if_pos ⟨this, this⟩, q6]
  rfl
theorem ne_str {a : Str} (h : PyData.strOk a = true) : neD (.str a) (.str a) [] = .ok (.bl false) [] := by
  unfold neD pyH D.py
  dsimp only
  have : PySem.SeqAt.shaped (.str a) = true := by unfold PySem.SeqAt.shaped; rw [PyData.canLay0, h]; rw [PyData.depth]; rfl
  rw [if_pos ⟨this, this⟩]
  simp [PyData.eqv]
/-- repr(x) != repr(x) -/
theorem ne_repr {d : D} (h : d.ip) (h1 : d.dp ≤ 50) (h2 : d.rl ≤ 16777216) : ∃ s : Str, reprD [d] [] = .ok (.str s) [] ∧ neD (.str s) (.str s) [] = .ok (.bl false) [] := by
  obtain ⟨p, e, q1, q2, q3, q4, q5, q6⟩ := ip_py h
  refine ⟨p.shown, ?_, ne_str (ip_ok h e)⟩
  unfold reprD
  dsimp only
  rw [ip_pyH h, e]
  dsimp only
  rw [if_pos ⟨q1, q2, by omega, Nat.le_trans q5 h2⟩]
/-! ### dicts by keys that stand for something -/
/-- keys: of one kind, told apart -/
structure KeyE {α : Type} (enc : α → D) : Prop where
  kd : ∃ k, k ≠ 0 ∧ ∀ a, (enc a).kd = k
  inj : ∀ a b, (enc a).nk = (enc b).nk → a = b
section
variable {α : Type} [DecidableEq α] {enc : α → D}
/-- a dict of keys alone, all at True -/
def dset (enc : α → D) (ks : List α) : List (D × D) := ks.map fun a => (enc a, .bl true)
def ins (ks : List α) (a : α) : List α := if a ∈ ks then ks else ks ++ [a]
theorem fit_dset (K : KeyE enc) (a : α) (ks : List α) : fitK (enc a) (dset enc ks) = true := by
  obtain ⟨k, k0, hk⟩ := K.kd
  unfold fitK dset
  simp [hk, k0]
theorem get_dset (K : KeyE enc) (a : α) : ∀ ks : List α, getK (enc a) (dset enc ks) = if a ∈ ks then some (.bl true) else none
  | [] => rfl
  | b :: ks => by
    show (if (enc b).nk = (enc a).nk then some (D.bl true) else getK (enc a) (dset enc ks)) = _
    rw [get_dset K a ks]
    by_cases c : b = a
    · subst c; simp
    · rw [if_neg fun e => c (K.inj _ _ e)]
      have : ¬ a = b := fun e => c e.symm
      simp [this]
theorem put_dset (K : KeyE enc) (a : α) (ks : List α) : putK (enc a) (.bl true) (dset enc ks) = dset enc (ins ks a) := by
  unfold putK
  rw [get_dset K]
  by_cases c : a ∈ ks
  · rw [if_pos c, if_pos (show (some (D.bl true)).isSome = true from rfl)]
    unfold ins
    rw [if_pos c]
    unfold dset
    rw [List.map_map]
    refine List.map_congr_left fun b _ => ?_
    dsimp only [Function.comp]
    split <;> rfl
  · rw [if_neg c, if_neg (by simp)]
    unfold ins
    rw [if_neg c]
    unfold dset
    rw [List.map_append]
    rfl
theorem putAll_dset (K : KeyE enc) : ∀ (more ks : List α), putAll (dset enc ks) (dset enc more) = dset enc (more.foldl ins ks)
  | [], ks => rfl
  | a :: more, ks => by
    show putAll (putK (enc a) (.bl true) (dset enc ks)) (dset enc more) = _
    rw [put_dset K, putAll_dset K more, List.foldl_cons]
theorem ins_nodup {ks : List α} {a : α} (h : ks.Nodup) : (ins ks a).Nodup := by
  unfold ins
  split
  · exact h
  · rename_i c
    exact List.nodup_append.mpr ⟨h, List.nodup_cons.mpr ⟨List.not_mem_nil, List.nodup_nil⟩, fun x hx y hy => by
      rw [List.mem_singleton.mp hy]; rintro rfl; exact c hx⟩
theorem ins_mem {ks : List α} {a b : α} : b ∈ ins ks a ↔ b ∈ ks ∨ b = a := by
  unfold ins
  split
  · rename_i c
    exact ⟨.inl, fun h => h.elim id fun e => e ▸ c⟩
  · simp
theorem insAll_nodup : ∀ {more ks : List α}, ks.Nodup → (more.foldl ins ks).Nodup
  | [], _, h => h
  | _ :: more, _, h => insAll_nodup (more := more) (ins_nodup h)
theorem insAll_mem {b : α} : ∀ {more ks : List α}, b ∈ more.foldl ins ks ↔ b ∈ ks ∨ b ∈ more
  | [], ks => by simp
  | a :: more, ks => by
    rw [List.foldl_cons, insAll_mem (more := more), ins_mem, List.mem_cons, or_assoc]
theorem ins_len {ks : List α} {a : α} : (ins ks a).length ≤ ks.length + 1 := by
  unfold ins; split <;> simp
theorem keys_dset (ks : List α) : (dset enc ks).map (·.1) = ks.map enc := by unfold dset; rw [List.map_map]; rfl
theorem vals_dset (ks : List α) : (dset enc ks).map (·.2) = ks.map fun _ => D.bl true := by unfold dset; rw [List.map_map]; rfl
theorem len_dset (ks : List α) : (dset enc ks).length = ks.length := by unfold dset; rw [List.length_map]
theorem zip_dset (ks : List α) : (ks.map enc).zip (ks.map fun _ => D.bl true) = dset enc ks := by
  unfold dset
  rw [List.zip_map']
end
/-! ### sorting -/
theorem dle_total : PySem.W.TotalLe dle := PySem.W.sortLe_total (PyProof.Rows.listOrd PyProof.Rows.itemOrd) false fun b => PySem.W.keyToks (encD b)
theorem dle_anti {a b : D} (h1 : dle a b = true) (h2 : dle b a = true) : PySem.W.keyToks (encD a) = PySem.W.keyToks (encD b) := by
  have e1 : (!PyProof.Rows.lexLt PyProof.Rows.itemOrd (PySem.W.keyToks (encD b)) (PySem.W.keyToks (encD a))) = true := h1
  have e2 : (!PyProof.Rows.lexLt PyProof.Rows.itemOrd (PySem.W.keyToks (encD a)) (PySem.W.keyToks (encD b))) = true := h2
  exact PyProof.Rows.lex_total _ _ (by simpa using e2) (by simpa using e1)
theorem sort_same {l m : List D} (p : l.Perm m) (inj : ∀ a ∈ l, ∀ b ∈ l, PySem.W.keyToks (encD a) = PySem.W.keyToks (encD b) → a = b) : l.mergeSort dle = m.mergeSort dle := by
  have t := dle_total
  refine List.Perm.eq_of_pairwise (le := fun a b => dle a b = true) (fun a b ha hb h1 h2 => ?_) (PySem.W.sort_pairwise t l) (PySem.W.sort_pairwise t m) (((List.mergeSort_perm l dle).trans p).trans (List.mergeSort_perm m dle).symm)
  exact inj a (List.mem_mergeSort.mp ha) b (p.symm.subset (List.mem_mergeSort.mp hb)) (dle_anti h1 h2)
theorem perm_of_mem {α : Type} [DecidableEq α] {l m : List α} (h1 : l.Nodup) (h2 : m.Nodup) (e : ∀ a, a ∈ l ↔ a ∈ m) : l.Perm m := (List.perm_ext_iff_of_nodup h1 h2).mpr e
/-! ### loops that collect -/
theorem forY_collect {α : Type} {enc : α → D} {body : D → List D → YS (List D)} (c : α → List D) : ∀ {xs : List α} {s : List D}, (∀ x ∈ xs, ∀ s : List D, s.length + (c x).length ≤ 16777216 → body (enc x) s = YS.nx (s ++ c x)) → s.length + (xs.flatMap c).length ≤ 16777216 → forY (xs.map enc) s body = YS.nx (s ++ xs.flatMap c)
  | [], s, _, _ => by simp
  | x :: xs, s, h, l => by
    rw [List.flatMap_cons, List.length_append] at l
    rw [List.map_cons, forY, h x List.mem_cons_self s (by omega), YS.nx_seq, forY_collect c (fun y hy => h y (List.mem_cons_of_mem _ hy)) (by rw [List.length_append]; omega)]
    simp
theorem len_flatMap_le {α β : Type} {c : α → List β} {m : Nat} : ∀ {xs : List α}, (∀ x ∈ xs, (c x).length ≤ m) → (xs.flatMap c).length ≤ xs.length * m
  | [], _ => by simp
  | x :: xs, h => by
    have := len_flatMap_le (c := c) (m := m) (xs := xs) fun y hy => h y (List.mem_cons_of_mem _ hy)
    have := h x List.mem_cons_self
    rw [List.flatMap_cons, List.length_append, List.length_cons, Nat.succ_mul]
    omega
theorem appL_need {xs : List D} (h : xs.length < 16777216) {σ : Type} (m : YS σ) : YS.need (xs.length < big) m = m := YS.need_pos h m
/-- sorted, by what the items stand for -/
theorem sort_map {α : Type} (enc : α → D) (xs : List α) : (xs.map enc).mergeSort dle = (xs.mergeSort fun a b => dle (enc a) (enc b)).map enc := by
  exact (PySem.W.sort_maps (r := fun a b => dle (enc a) (enc b)) (s := dle) enc fun a _ b _ => rfl).symm
theorem forN {σ : Type} {body : D → σ → YS σ} {n : Nat} {s0 : σ} (st : Nat → σ) (e0 : s0 = st 0) (h : ∀ i, i < n → body (.int (i : Nat)) (st i) = YS.nx (st (i + 1))) : forY ((List.range n).map fun i => D.int (i : Nat)) s0 body = YS.nx (st n) := by
  subst e0; exact forY_nat st h
theorem forX {σ α : Type} {enc : α → D} {body : D → σ → YS σ} {xs : List α} {s0 : σ} (st : Nat → σ) (e0 : s0 = st 0) (h : ∀ i x, xs[i]? = some x → body (enc x) (st i) = YS.nx (st (i + 1))) : forY (xs.map enc) s0 body = YS.nx (st xs.length) := by
  subst e0; exact forY_seq st h
/-! ### kinds -/
@[simp] theorem isi_NoneType_non (cs : List Nat)  (h : Hh) : isiD cs (.bi "NoneType") .non h = .ok (.bl true) h := Eq.trans rfl rfl
@[simp] theorem isi_NoneType_bl (cs : List Nat) (b : Bool) (h : Hh) : isiD cs (.bi "NoneType") (.bl b) h = .ok (.bl false) h := Eq.trans rfl rfl
@[simp] theorem isi_NoneType_int (cs : List Nat) (i : Int) (h : Hh) : isiD cs (.bi "NoneType") (.int i) h = .ok (.bl false) h := Eq.trans rfl rfl
@[simp] theorem isi_NoneType_str (cs : List Nat) (z : Str) (h : Hh) : isiD cs (.bi "NoneType") (.str z) h = .ok (.bl false) h := Eq.trans rfl rfl
@[simp] theorem isi_NoneType_tup (cs : List Nat) (xs : List D) (h : Hh) : isiD cs (.bi "NoneType") (.tup xs) h = .ok (.bl false) h := Eq.trans rfl rfl
@[simp] theorem isi_NoneType_fz (cs : List Nat) (xs : List D) (h : Hh) : isiD cs (.bi "NoneType") (.fz xs) h = .ok (.bl false) h := Eq.trans rfl rfl
@[simp] theorem isi_NoneType_fd (cs : List Nat) (ks vs : List D) (h : Hh) : isiD cs (.bi "NoneType") (.fd ks vs) h = .ok (.bl false) h := Eq.trans rfl rfl
@[simp] theorem isi_NoneType_fi (cs : List Nat) (c : Nat) (ns : List String) (vs : List D) (h : Hh) : isiD cs (.bi "NoneType") (.fi c ns vs) h = if cs.contains c = true then .ok (.bl false) h else .bad := by
  show (if cs.contains c = true then R.ok (D.bl (decide (Tk.own c = .bi "NoneType") || (decide (Tk.own c = .bi "bool") && decide (Tk.bi "NoneType" = .bi "int")))) h else .bad) = _
  rw [decide_eq_false (by simp), decide_eq_false (by simp)]
  rfl
@[simp] theorem isi_int_non (cs : List Nat)  (h : Hh) : isiD cs (.bi "int") .non h = .ok (.bl false) h := Eq.trans rfl rfl
@[simp] theorem isi_int_bl (cs : List Nat) (b : Bool) (h : Hh) : isiD cs (.bi "int") (.bl b) h = .ok (.bl true) h := Eq.trans rfl rfl
@[simp] theorem isi_int_int (cs : List Nat) (i : Int) (h : Hh) : isiD cs (.bi "int") (.int i) h = .ok (.bl true) h := Eq.trans rfl rfl
@[simp] theorem isi_int_str (cs : List Nat) (z : Str) (h : Hh) : isiD cs (.bi "int") (.str z) h = .ok (.bl false) h := Eq.trans rfl rfl
@[simp] theorem isi_int_tup (cs : List Nat) (xs : List D) (h : Hh) : isiD cs (.bi "int") (.tup xs) h = .ok (.bl false) h := Eq.trans rfl rfl
@[simp] theorem isi_int_fz (cs : List Nat) (xs : List D) (h : Hh) : isiD cs (.bi "int") (.fz xs) h = .ok (.bl false) h := Eq.trans rfl rfl
@[simp] theorem isi_int_fd (cs : List Nat) (ks vs : List D) (h : Hh) : isiD cs (.bi "int") (.fd ks vs) h = .ok (.bl false) h := Eq.trans rfl rfl
@[simp] theorem isi_int_fi (cs : List Nat) (c : Nat) (ns : List String) (vs : List D) (h : Hh) : isiD cs (.bi "int") (.fi c ns vs) h = if cs.contains c = true then .ok (.bl false) h else .bad := by
  show (if cs.contains c = true then R.ok (D.bl (decide (Tk.own c = .bi "int") || (decide (Tk.own c = .bi "bool") && decide (Tk.bi "int" = .bi "int")))) h else .bad) = _
  rw [decide_eq_false (by simp), decide_eq_false (by simp)]
  rfl
@[simp] theorem isi_bool_non (cs : List Nat)  (h : Hh) : isiD cs (.bi "bool") .non h = .ok (.bl false) h := Eq.trans rfl rfl
@[simp] theorem isi_bool_bl (cs : List Nat) (b : Bool) (h : Hh) : isiD cs (.bi "bool") (.bl b) h = .ok (.bl true) h := Eq.trans rfl rfl
@[simp] theorem isi_bool_int (cs : List Nat) (i : Int) (h : Hh) : isiD cs (.bi "bool") (.int i) h = .ok (.bl false) h := Eq.trans rfl rfl
@[simp] theorem isi_bool_str (cs : List Nat) (z : Str) (h : Hh) : isiD cs (.bi "bool") (.str z) h = .ok (.bl false) h := Eq.trans rfl rfl
@[simp] theorem isi_bool_tup (cs : List Nat) (xs : List D) (h : Hh) : isiD cs (.bi "bool") (.tup xs) h = .ok (.bl false) h := Eq.trans rfl rfl
@[simp] theorem isi_bool_fz (cs : List Nat) (xs : List D) (h : Hh) : isiD cs (.bi "bool") (.fz xs) h = .ok (.bl false) h := Eq.trans rfl rfl
@[simp] theorem isi_bool_fd (cs : List Nat) (ks vs : List D) (h : Hh) : isiD cs (.bi "bool") (.fd ks vs) h = .ok (.bl false) h := Eq.trans rfl rfl
@[simp] theorem isi_bool_fi (cs : List Nat) (c : Nat) (ns : List String) (vs : List D) (h : Hh) : isiD cs (.bi "bool") (.fi c ns vs) h = if cs.contains c = true then .ok (.bl false) h else .bad := by
  show (if cs.contains c = true then R.ok (D.bl (decide (Tk.own c = .bi "bool") || (decide (Tk.own c = .bi "bool") && decide (Tk.bi "bool" = .bi "int")))) h else .bad) = _
  rw [decide_eq_false (by simp), decide_eq_false (by simp)]
  rfl
@[simp] theorem isi_str_non (cs : List Nat)  (h : Hh) : isiD cs (.bi "str") .non h = .ok (.bl false) h := Eq.trans rfl rfl
@[simp] theorem isi_str_bl (cs : List Nat) (b : Bool) (h : Hh) : isiD cs (.bi "str") (.bl b) h = .ok (.bl false) h := Eq.trans rfl rfl
@[simp] theorem isi_str_int (cs : List Nat) (i : Int) (h : Hh) : isiD cs (.bi "str") (.int i) h = .ok (.bl false) h := Eq.trans rfl rfl
@[simp] theorem isi_str_str (cs : List Nat) (z : Str) (h : Hh) : isiD cs (.bi "str") (.str z) h = .ok (.bl true) h := Eq.trans rfl rfl
@[simp] theorem isi_str_tup (cs : List Nat) (xs : List D) (h : Hh) : isiD cs (.bi "str") (.tup xs) h = .ok (.bl false) h := Eq.trans rfl rfl
@[simp] theorem isi_str_fz (cs : List Nat) (xs : List D) (h : Hh) : isiD cs (.bi "str") (.fz xs) h = .ok (.bl false) h := Eq.trans rfl rfl
@[simp] theorem isi_str_fd (cs : List Nat) (ks vs : List D) (h : Hh) : isiD cs (.bi "str") (.fd ks vs) h = .ok (.bl false) h := Eq.trans rfl rfl
@[simp] theorem isi_str_fi (cs : List Nat) (c : Nat) (ns : List String) (vs : List D) (h : Hh) : isiD cs (.bi "str") (.fi c ns vs) h = if cs.contains c = true then .ok (.bl false) h else .bad := by
  show (if cs.contains c = true then R.ok (D.bl (decide (Tk.own c = .bi "str") || (decide (Tk.own c = .bi "bool") && decide (Tk.bi "str" = .bi "int")))) h else .bad) = _
  rw [decide_eq_false (by simp), decide_eq_false (by simp)]
  rfl
@[simp] theorem isi_tuple_non (cs : List Nat)  (h : Hh) : isiD cs (.bi "tuple") .non h = .ok (.bl false) h := Eq.trans rfl rfl
@[simp] theorem isi_tuple_bl (cs : List Nat) (b : Bool) (h : Hh) : isiD cs (.bi "tuple") (.bl b) h = .ok (.bl false) h := Eq.trans rfl rfl
@[simp] theorem isi_tuple_int (cs : List Nat) (i : Int) (h : Hh) : isiD cs (.bi "tuple") (.int i) h = .ok (.bl false) h := Eq.trans rfl rfl
@[simp] theorem isi_tuple_str (cs : List Nat) (z : Str) (h : Hh) : isiD cs (.bi "tuple") (.str z) h = .ok (.bl false) h := Eq.trans rfl rfl
@[simp] theorem isi_tuple_tup (cs : List Nat) (xs : List D) (h : Hh) : isiD cs (.bi "tuple") (.tup xs) h = .ok (.bl true) h := Eq.trans rfl rfl
@[simp] theorem isi_tuple_fz (cs : List Nat) (xs : List D) (h : Hh) : isiD cs (.bi "tuple") (.fz xs) h = .ok (.bl false) h := Eq.trans rfl rfl
@[simp] theorem isi_tuple_fd (cs : List Nat) (ks vs : List D) (h : Hh) : isiD cs (.bi "tuple") (.fd ks vs) h = .ok (.bl false) h := Eq.trans rfl rfl
@[simp] theorem isi_tuple_fi (cs : List Nat) (c : Nat) (ns : List String) (vs : List D) (h : Hh) : isiD cs (.bi "tuple") (.fi c ns vs) h = if cs.contains c = true then .ok (.bl false) h else .bad := by
  show (if cs.contains c = true then R.ok (D.bl (decide (Tk.own c = .bi "tuple") || (decide (Tk.own c = .bi "bool") && decide (Tk.bi "tuple" = .bi "int")))) h else .bad) = _
  rw [decide_eq_false (by simp), decide_eq_false (by simp)]
  rfl
@[simp] theorem isi_list_non (cs : List Nat)  (h : Hh) : isiD cs (.bi "list") .non h = .ok (.bl false) h := Eq.trans rfl rfl
@[simp] theorem isi_list_bl (cs : List Nat) (b : Bool) (h : Hh) : isiD cs (.bi "list") (.bl b) h = .ok (.bl false) h := Eq.trans rfl rfl
@[simp] theorem isi_list_int (cs : List Nat) (i : Int) (h : Hh) : isiD cs (.bi "list") (.int i) h = .ok (.bl false) h := Eq.trans rfl rfl
@[simp] theorem isi_list_str (cs : List Nat) (z : Str) (h : Hh) : isiD cs (.bi "list") (.str z) h = .ok (.bl false) h := Eq.trans rfl rfl
@[simp] theorem isi_list_tup (cs : List Nat) (xs : List D) (h : Hh) : isiD cs (.bi "list") (.tup xs) h = .ok (.bl false) h := Eq.trans rfl rfl
@[simp] theorem isi_list_fz (cs : List Nat) (xs : List D) (h : Hh) : isiD cs (.bi "list") (.fz xs) h = .ok (.bl true) h := Eq.trans rfl rfl
@[simp] theorem isi_list_fd (cs : List Nat) (ks vs : List D) (h : Hh) : isiD cs (.bi "list") (.fd ks vs) h = .ok (.bl false) h := Eq.trans rfl rfl
@[simp] theorem isi_list_fi (cs : List Nat) (c : Nat) (ns : List String) (vs : List D) (h : Hh) : isiD cs (.bi "list") (.fi c ns vs) h = if cs.contains c = true then .ok (.bl false) h else .bad := by
  show (if cs.contains c = true then R.ok (D.bl (decide (Tk.own c = .bi "list") || (decide (Tk.own c = .bi "bool") && decide (Tk.bi "list" = .bi "int")))) h else .bad) = _
  rw [decide_eq_false (by simp), decide_eq_false (by simp)]
  rfl
@[simp] theorem isi_dict_non (cs : List Nat)  (h : Hh) : isiD cs (.bi "dict") .non h = .ok (.bl false) h := Eq.trans rfl rfl
@[simp] theorem isi_dict_bl (cs : List Nat) (b : Bool) (h : Hh) : isiD cs (.bi "dict") (.bl b) h = .ok (.bl false) h := Eq.trans rfl rfl
@[simp] theorem isi_dict_int (cs : List Nat) (i : Int) (h : Hh) : isiD cs (.bi "dict") (.int i) h = .ok (.bl false) h := Eq.trans rfl rfl
@[simp] theorem isi_dict_str (cs : List Nat) (z : Str) (h : Hh) : isiD cs (.bi "dict") (.str z) h = .ok (.bl false) h := Eq.trans rfl rfl
@[simp] theorem isi_dict_tup (cs : List Nat) (xs : List D) (h : Hh) : isiD cs (.bi "dict") (.tup xs) h = .ok (.bl false) h := Eq.trans rfl rfl
@[simp] theorem isi_dict_fz (cs : List Nat) (xs : List D) (h : Hh) : isiD cs (.bi "dict") (.fz xs) h = .ok (.bl false) h := Eq.trans rfl rfl
@[simp] theorem isi_dict_fd (cs : List Nat) (ks vs : List D) (h : Hh) : isiD cs (.bi "dict") (.fd ks vs) h = .ok (.bl true) h := Eq.trans rfl rfl
@[simp] theorem isi_dict_fi (cs : List Nat) (c : Nat) (ns : List String) (vs : List D) (h : Hh) : isiD cs (.bi "dict") (.fi c ns vs) h = if cs.contains c = true then .ok (.bl false) h else .bad := by
  show (if cs.contains c = true then R.ok (D.bl (decide (Tk.own c = .bi "dict") || (decide (Tk.own c = .bi "bool") && decide (Tk.bi "dict" = .bi "int")))) h else .bad) = _
  rw [decide_eq_false (by simp), decide_eq_false (by simp)]
  rfl
@[simp] theorem isi_own_non (cs : List Nat) (k : Nat)  (h : Hh) : isiD cs (.own k) .non h = .ok (.bl false) h := by
  show R.ok (D.bl (decide (Tk.bi "NoneType" = .own k) || (decide (Tk.bi "NoneType" = .bi "bool") && decide (Tk.own k = .bi "int")))) h = _
  rw [decide_eq_false (by simp : ¬ Tk.bi "NoneType" = .own k), decide_eq_false (by simp : ¬ Tk.own k = .bi "int")]
  simp
@[simp] theorem isi_own_bl (cs : List Nat) (k : Nat) (b : Bool) (h : Hh) : isiD cs (.own k) (.bl b) h = .ok (.bl false) h := by
  show R.ok (D.bl (decide (Tk.bi "bool" = .own k) || (decide (Tk.bi "bool" = .bi "bool") && decide (Tk.own k = .bi "int")))) h = _
  rw [decide_eq_false (by simp : ¬ Tk.bi "bool" = .own k), decide_eq_false (by simp : ¬ Tk.own k = .bi "int")]
  simp
@[simp] theorem isi_own_int (cs : List Nat) (k : Nat) (i : Int) (h : Hh) : isiD cs (.own k) (.int i) h = .ok (.bl false) h := by
  show R.ok (D.bl (decide (Tk.bi "int" = .own k) || (decide (Tk.bi "int" = .bi "bool") && decide (Tk.own k = .bi "int")))) h = _
  rw [decide_eq_false (by simp : ¬ Tk.bi "int" = .own k), decide_eq_false (by simp : ¬ Tk.own k = .bi "int")]
  simp
@[simp] theorem isi_own_str (cs : List Nat) (k : Nat) (z : Str) (h : Hh) : isiD cs (.own k) (.str z) h = .ok (.bl false) h := by
  show R.ok (D.bl (decide (Tk.bi "str" = .own k) || (decide (Tk.bi "str" = .bi "bool") && decide (Tk.own k = .bi "int")))) h = _
  rw [decide_eq_false (by simp : ¬ Tk.bi "str" = .own k), decide_eq_false (by simp : ¬ Tk.own k = .bi "int")]
  simp
@[simp] theorem isi_own_tup (cs : List Nat) (k : Nat) (xs : List D) (h : Hh) : isiD cs (.own k) (.tup xs) h = .ok (.bl false) h := by
  show R.ok (D.bl (decide (Tk.bi "tuple" = .own k) || (decide (Tk.bi "tuple" = .bi "bool") && decide (Tk.own k = .bi "int")))) h = _
  rw [decide_eq_false (by simp : ¬ Tk.bi "tuple" = .own k), decide_eq_false (by simp : ¬ Tk.own k = .bi "int")]
  simp
@[simp] theorem isi_own_fz (cs : List Nat) (k : Nat) (xs : List D) (h : Hh) : isiD cs (.own k) (.fz xs) h = .ok (.bl false) h := by
  show R.ok (D.bl (decide (Tk.bi "list" = .own k) || (decide (Tk.bi "list" = .bi "bool") && decide (Tk.own k = .bi "int")))) h = _
  rw [decide_eq_false (by simp : ¬ Tk.bi "list" = .own k), decide_eq_false (by simp : ¬ Tk.own k = .bi "int")]
  simp
@[simp] theorem isi_own_fd (cs : List Nat) (k : Nat) (ks vs : List D) (h : Hh) : isiD cs (.own k) (.fd ks vs) h = .ok (.bl false) h := by
  show R.ok (D.bl (decide (Tk.bi "dict" = .own k) || (decide (Tk.bi "dict" = .bi "bool") && decide (Tk.own k = .bi "int")))) h = _
  rw [decide_eq_false (by simp : ¬ Tk.bi "dict" = .own k), decide_eq_false (by simp : ¬ Tk.own k = .bi "int")]
  simp
@[simp] theorem isi_own_fi (cs : List Nat) (k c : Nat) (ns : List String) (vs : List D) (h : Hh) : isiD cs (.own k) (.fi c ns vs) h = if cs.contains c = true then .ok (.bl (decide (c = k))) h else .bad := by
  show (if cs.contains c = true then R.ok (D.bl (decide (Tk.own c = .own k) || (decide (Tk.own c = .bi "bool") && decide (Tk.own k = .bi "int")))) h else .bad) = _
  rw [decide_eq_false (by simp : ¬ Tk.own c = .bi "bool")]
  simp
/-! ### draws -/
theorem drawY_wp {m : Nat} {Q : D → Prop} {E : Ec} (h0 : 0 < m) (h1 : m < 1073741824) (h : ∀ i : Nat, i < m → Q (.int i)) : drawY (.int m) Q E := ⟨⟨by omega, by omega⟩, fun i hi => h i (by omega)⟩
theorem Y.bindI {α β : Type} {m : Y α} {k : α → Y β} {Q : β → Prop} {E : Ec} (h : m (fun a => k a Q E) E) : (m.bind k) Q E := h
theorem YS.getI {α τ : Type} {m : Y α} {k : α → YS τ} {N : τ → Prop} {R : D → Prop} {E : Ec} (h : m (fun a => k a N R E) E) : YS.get m k N R E := h
theorem YS.seqI {σ τ : Type} {m : YS σ} {k : σ → YS τ} {N : τ → Prop} {R : D → Prop} {E : Ec} (h : m (fun s => k s N R E) R E) : (m.seq k) N R E := h
theorem fnI {m : YS Unit} {Q : D → Prop} {E : Ec} (h : m (fun _ => Q .non) Q E) : fnY m Q E := h
theorem drawB {β : Type} {m : Nat} {k : D → Y β} {Q : β → Prop} {E : Ec} (h0 : 0 < m) (h1 : m < 1073741824) (h : ∀ i : Nat, i < m → k (.int i) Q E) : ((drawY (.int m)).bind k) Q E := drawY_wp (Q := fun a => k a Q E) h0 h1 h
theorem drawG {τ : Type} {m : Nat} {k : D → YS τ} {N : τ → Prop} {R : D → Prop} {E : Ec} (h0 : 0 < m) (h1 : m < 1073741824) (h : ∀ i : Nat, i < m → k (.int i) N R E) : YS.get (drawY (.int m)) k N R E := drawY_wp (Q := fun a => k a N R E) h0 h1 h
@[simp] theorem drawY_calm (d : D) : (drawY d).calm = drawY d := by
  cases d <;> rfl
/-- a row of draws -/
theorem lcY_draws {α : Type} {enc : α → D} {xs : List α} {m : Nat} {f : D → Y (Option D)} {g : Nat → D} {Q : List D → Prop} {E : Ec} (hl : xs.length ≤ 16777216) (h0 : 0 < m) (h1 : m < 1073741824) (hf : ∀ x ∈ xs, ∀ (Q : Option D → Prop), (∀ i : Nat, i < m → Q (some (g i))) → f (enc x) Q E) (h : ∀ ns : List Nat, ns.length = xs.length → (∀ i ∈ ns, i < m) → Q (ns.map g)) : lcY (xs.map enc) f Q E := by
  refine ⟨by simpa using hl, ?_⟩
  clear hl
  revert Q
  induction xs with
  | nil => intro Q h; exact h [] rfl fun i hi => by simp at hi
  | cons x xs ih =>
    intro Q h
    show f (enc x) (fun o => compY (xs.map enc) f (fun r => Q (match o with
      | some d => d :: r
      | none => r)) E) E
    refine hf x List.mem_cons_self _ fun i hi => ?_
    refine ih (fun y hy => hf y (List.mem_cons_of_mem _ hy)) fun ns hn hm => ?_
    exact h (i :: ns) (by simp [hn]) fun j hj => by
      rcases List.mem_cons.mp hj with rfl | hj
      · exact hi
      · exact hm j hj
/-! ### what comes for sure -/
def Det {α : Type} (m : Y α) (v : α) : Prop := ∀ Q E, Q v → m Q E
theorem Det.of {α : Type} {m : Y α} {v : α} (h : m = Y.pure v) : Det m v := fun Q E q => by rw [h]; exact q
theorem Det.B {α β : Type} {m : Y α} {v : α} {k : α → Y β} {Q : β → Prop} {E : Ec} (d : Det m v) (h : k v Q E) : (m.bind k) Q E := d _ _ h
theorem Det.G {α τ : Type} {m : Y α} {v : α} {k : α → YS τ} {N : τ → Prop} {R : D → Prop} {E : Ec} (d : Det m v) (h : k v N R E) : YS.get m k N R E := d _ _ h
theorem Det.calm {α : Type} {m : Y α} {v : α} (d : Det m v) : Det m.calm v := fun Q E q => d _ _ q
theorem Det.bind {α β : Type} {m : Y α} {v : α} {k : α → Y β} {w : β} (d : Det m v) (h : Det (k v) w) : Det (m.bind k) w := fun Q E q => d _ _ (h _ _ q)
/-! ### loops that fill a dict -/
theorem forY_dset {α β : Type} [DecidableEq β] {enc : α → D} {ek : β → D} {body : D → List (D × D) → YS (List (D × D))} (c : α → List β) : ∀ {xs : List α} {ks : List β}, (∀ x ∈ xs, ∀ ks : List β, ks.length + (c x).length ≤ 16777216 → body (enc x) (dset ek ks) = YS.nx (dset ek ((c x).foldl ins ks))) → ks.length + (xs.flatMap c).length ≤ 16777216 → forY (xs.map enc) (dset ek ks) body = YS.nx (dset ek ((xs.flatMap c).foldl ins ks))
  | [], ks, _, _ => by simp
  | x :: xs, ks, h, l => by
    rw [List.flatMap_cons, List.length_append] at l
    have lc : ∀ (m ks : List β), (m.foldl ins ks).length ≤ ks.length + m.length := by
      intro m
      induction m with
      | nil => intro ks; simp
      | cons a m ih =>
        intro ks
        have := ih (ins ks a)
        have := ins_len (ks := ks) (a := a)
        rw [List.foldl_cons, List.length_cons]
        omega
    have := lc (c x) ks
    rw [List.map_cons, forY, h x List.mem_cons_self ks (by omega), YS.nx_seq, forY_dset c (fun y hy => h y (List.mem_cons_of_mem _ hy)) (by omega), List.flatMap_cons, List.foldl_append]
theorem insAll_len {β : Type} [DecidableEq β] : ∀ (m ks : List β), (m.foldl ins ks).length ≤ ks.length + m.length := by
  intro m
  induction m with
  | nil => intro ks; simp
  | cons a m ih =>
    intro ks
    have := ih (ins ks a)
    have := ins_len (ks := ks) (a := a)
    rw [List.foldl_cons, List.length_cons]
    omega
theorem insAll_id {β : Type} [DecidableEq β] : ∀ (m ks : List β), (ks ++ m).Nodup → m.foldl ins ks = ks ++ m
  | [], ks, _ => by simp
  | a :: m, ks, h => by
    have ha : a ∉ ks := fun q => by
      have := (List.nodup_append.mp h).2.2 a q a List.mem_cons_self
      exact this rfl
    rw [List.foldl_cons]
    have : ins ks a = ks ++ [a] := by unfold ins; rw [if_neg ha]
    rw [this, insAll_id m (ks ++ [a]) (by simpa using h)]
    simp
theorem nub_map {α β : Type} [DecidableEq α] [DecidableEq β] (g : α → β) (hg : ∀ a b, g a = g b → a = b) : ∀ (m ks : List α), (m.map g).foldl ins (ks.map g) = (m.foldl ins ks).map g
  | [], ks => rfl
  | a :: m, ks => by
    have : ins (ks.map g) (g a) = (ins ks a).map g := by
      unfold ins
      by_cases c : a ∈ ks
      · rw [if_pos c, if_pos (List.mem_map_of_mem c)]
      · rw [if_neg c, if_neg (fun q => by
          obtain ⟨b, hb, e⟩ := List.mem_map.mp q
          exact c (hg b a e ▸ hb)), List.map_append]
        rfl
    rw [List.map_cons, List.foldl_cons, this, nub_map g hg m (ins ks a), List.foldl_cons]
theorem nub_ins {α : Type} [DecidableEq α] (m : List α) : nub m = m.foldl ins [] := rfl
theorem nodup_len {α : Type} [DecidableEq α] {l m : List α} (hl : l.Nodup) (hm : m.Nodup) (h : ∀ a ∈ l, a ∈ m) : l.length ≤ m.length := by
  have p : l.Perm (m.filter (· ∈ l)) := perm_of_mem hl (hm.sublist List.filter_sublist) fun a => by
    simp only [List.mem_filter, decide_eq_true_eq]
    exact ⟨fun q => ⟨h a q, q⟩, fun q => q.2⟩
  rw [p.length_eq]
  exact List.length_filter_le _ _
theorem pairsV_dset {β : Type} (ek : β → D) : ∀ ks : List β, pairsV (ks.map fun a => D.tup [ek a, .bl true]) = some (dset ek ks)
  | [] => rfl
  | a :: ks => by
    show (pairsV (ks.map fun a => D.tup [ek a, .bl true])).map ((ek a, .bl true) :: ·) = _
    rw [pairsV_dset ek ks]
    rfl
theorem pure_inj {α : Type} {a b : α} (h : a = b) : Y.pure a = Y.pure b := by rw [h]
theorem forD {α β : Type} [DecidableEq β] {enc : α → D} {ek : β → D} {body : D → List (D × D) → YS (List (D × D))} {s0 : List (D × D)} {xs : List α} (c : α → List β) (ks : List β) (e0 : s0 = dset ek ks) (h : ∀ x ∈ xs, ∀ ks : List β, ks.length + (c x).length ≤ 16777216 → body (enc x) (dset ek ks) = YS.nx (dset ek ((c x).foldl ins ks))) (l : ks.length + (xs.flatMap c).length ≤ 16777216) : forY (xs.map enc) s0 body = YS.nx (dset ek ((xs.flatMap c).foldl ins ks)) := by
  subst e0; exact forY_dset c h l
theorem dcY_dset {α β : Type} [DecidableEq β] {enc : α → D} {ek : β → D} (K : KeyE ek) {f : D → Y (Option (D × D))} (g : α → β) : ∀ {xs : List α} {ks : List β}, (∀ x ∈ xs, f (enc x) = Y.pure (some (ek (g x), .bl true))) → ks.length + xs.length ≤ 16777216 → dcY (xs.map enc) (dset ek ks) f = Y.pure (dset ek ((xs.map g).foldl ins ks))
  | [], ks, _, _ => rfl
  | x :: xs, ks, h, l => by
    rw [List.length_cons] at l
    have := ins_len (ks := ks) (a := g x)
    rw [List.map_cons, dcY, h x List.mem_cons_self, Y.pure_bind]
    dsimp only
    rw [Y.need_pos ⟨fit_dset K (g x) ks, by rw [len_dset]; exact (show ks.length < 16777216 by omega)⟩, put_dset K, dcY_dset K g (fun y hy => h y (List.mem_cons_of_mem _ hy)) (by omega)]
    rfl
end PV
set_option Elab.async false
set_option linter.all false
set_option autoImplicit false
set_option maxRecDepth 100000
set_option maxHeartbeats 4000000
namespace PV
namespace K06
open PySem (Str PyData)
abbrev cNet : Nat := 133
/-- _law_hand(script, cells, cell) -/
noncomputable def m__law_hand : St :=
  (sSeq (sSet 1 (eZ (lLc (lE (eSl (eV 0) oN (oS (eC (.int 63))))) [2] (gV 2) tY (eF absD (aC (eF intD (aC (eV 2) aN)) aN)))))
  (sRet (eL (lD (aC (eV 1) (aC (eC (.int 0)) (aC (eC (.int 0)) (aC (e2 addD (eC (.int 269)) (e2 mulD (eC (.int 157)) (eF lenD (aC (eV 1) aN)))) (aC (eC (.int 0)) aN)))))))))
noncomputable def F__law_hand : List D → Hh → R D := fn 3 1 m__law_hand
/-- _law_draw(hand, many, cell, digit, number) -/
noncomputable def m__law_draw : St :=
  (sSeq (sIf (tAnd (tV (e2 eqD (e2 ixA (eV 0) (eC (.int 2))) (eC (.int 0)))) (tV (e2 ltD (e2 ixA (eV 0) (eC (.int 1))) (eF lenD (aC (e2 ixA (eV 0) (eC (.int 0))) aN)))))
  (sSeq (sSet 2 (e2 ixA (e2 ixA (eV 0) (eC (.int 0))) (e2 ixA (eV 0) (eC (.int 1)))))
  (sSeq (sSub setA (eV 0) (eC (.int 1)) (e2 addD (e2 ixA (eV 0) (eC (.int 1))) (eC (.int 1))))
  (sSeq (sSub setA (eV 0) (eC (.int 3)) (e2 modD (eF intD (aC (e2 addD (e2 addD (e2 mulD (e2 ixA (eV 0) (eC (.int 3))) (eC (.int 69621))) (e2 mulD (eV 2) (eC (.int 48271)))) (eC (.int 17))) aN)) (eC (.int 2147483629))))
  (sIf (tV (e2 geD (eV 2) (e2 powD (eC (.int 10)) (eC (.int 18)))))
  (sSub setA (eV 0) (eC (.int 2)) (eV 2))
  sNil))))
  sNil)
  (sSeq (sIf (tV (e2 gtD (e2 ixA (eV 0) (eC (.int 2))) (eC (.int 0))))
  (sSeq (sSet 3 (e2 modD (eF intD (aC (e2 ixA (eV 0) (eC (.int 2))) aN)) (eV 1)))
  (sSeq (sSub setA (eV 0) (eC (.int 2)) (e2 fdivD (e2 ixA (eV 0) (eC (.int 2))) (eV 1)))
  (sRet (eV 3))))
  sNil)
  (sSeq (sSub setA (eV 0) (eC (.int 4)) (e2 addD (e2 ixA (eV 0) (eC (.int 4))) (eC (.int 1))))
  (sSeq (sSet 4 (e2 modD (eF intD (aC (e2 mulD (eF intD (aC (e2 addD (e2 ixA (eV 0) (eC (.int 3))) (e2 mulD (eC (.int 7919)) (e2 ixA (eV 0) (eC (.int 4))))) aN)) (eC (.int 40692))) aN)) (eC (.int 2147483647))))
  (sSeq (sSet 4 (e2 modD (eF intD (aC (e2 mulD (eV 4) (e2 addD (e2 fdivD (eV 4) (eC (.int 1009))) (eC (.int 69621)))) aN)) (eC (.int 2147483647))))
  (sSeq (sSet 4 (e2 modD (eF intD (aC (e2 mulD (eV 4) (e2 addD (e2 fdivD (eV 4) (eC (.int 2003))) (eC (.int 40014)))) aN)) (eC (.int 2147483563))))
  (sRet (e2 modD (eF intD (aC (e2 fdivD (eV 4) (eC (.int 16))) aN)) (eV 1)))))))))
noncomputable def F__law_draw : List D → Hh → R D := fnZ 5 2 m__law_draw
/-- _law_states(many, found, lamp, state) -/
noncomputable def m__law_states : St :=
  (sSeq (sSet 1 (eZ (lD (aC (eTup aN) aN))))
  (sSeq (sFor (lR1 (eV 0)) (gV 2)
  (sSet 1 (e2 addD (eZ (lLc (lE (eV 1)) [3] (gV 3) tY (e2 addD (eV 3) (eTup (aC (eC (.int 0)) aN))))) (eZ (lLc (lE (eV 1)) [3] (gV 3) tY (e2 addD (eV 3) (eTup (aC (eC (.int 1)) aN))))))))
  (sRet (eV 1))))
noncomputable def F__law_states : List D → Hh → R D := fnZ 4 1 m__law_states
/-- _law_any(hand, some) -/
noncomputable def m__law_any : St :=
  (sRet (e2 ixA (eV 1) (eF F__law_draw (aC (eV 0) (aC (eF lenD (aC (eV 1) aN)) aN)))))
noncomputable def F__law_any : List D → Hh → R D := fnZ 2 2 m__law_any
/-- _law_tables(hand, most, many, kind, every, found, lamp, weights, bound, one, other, bits, state, a, b, bit) -/
noncomputable def m__law_tables : St :=
  (sSeq (sPar 2 3 (e2 addD (eC (.int 1)) (eF F__law_draw (aC (eV 0) (aC (eV 1) aN)))) (eF F__law_draw (aC (eV 0) (aC (eC (.int 4)) aN))))
  (sSeq (sPar 4 5 (eF F__law_states (aC (eV 2) aN)) (eL (lD aN)))
  (sSeq (sFor (lR1 (eV 2)) (gV 6)
  (sIf (tV (e2 eqD (eV 3) (eC (.int 0))))
  (sDrop (eM "list" appD (eV 5) (aC (eUF tupL (lLc (lE (eV 4)) [12] (gV 12) tY (eF F__law_draw (aC (eV 0) (aC (eC (.int 2)) aN))))) aN)))
  (sIf (tV (e2 eqD (eV 3) (eC (.int 1))))
  (sSeq (sSet 7 (eZ (lLc (lR1 (eV 2)) [10] (gV 10) tY (e2 subD (eF F__law_draw (aC (eV 0) (aC (eC (.int 5)) aN))) (eC (.int 2))))))
  (sSeq (sSet 8 (eF F__law_draw (aC (eV 0) (aC (eC (.int 3)) aN))))
  (sDrop (eM "list" appD (eV 5) (aC (eUF tupL (lLc (lE (eV 4)) [12] (gV 12) tY (eF intD (aC (e2 geD (eUF sumL (lLc (lZip (lE (eV 7)) (lE (eV 12))) [13, 14] (gT 2 (gC (gV 13) (gC (gV 14) gN))) tY (e2 mulD (eV 13) (eV 14)))) (eV 8)) aN)))) aN)))))
  (sSeq (sAsg (eTup (aC (eF F__law_draw (aC (eV 0) (aC (eV 2) aN))) (aC (eF F__law_draw (aC (eV 0) (aC (eV 2) aN))) aN))) (gT 2 (gC (gV 9) (gC (gV 10) gN))))
  (sSeq (sSet 11 (eZ (lLc (lR1 (eC (.int 4))) [15] (gV 15) tY (eF F__law_draw (aC (eV 0) (aC (eC (.int 2)) aN))))))
  (sSeq (sIf (tV (e2 eqD (eV 3) (eC (.int 3))))
  (sSet 11 (eF F__law_any (aC (eV 0) (aC (eZ (lD (aC (eZ (lD (aC (eC (.int 0)) (aC (eC (.int 1)) (aC (eC (.int 0)) (aC (eC (.int 1)) aN)))))) (aC (eZ (lD (aC (eC (.int 1)) (aC (eC (.int 0)) (aC (eC (.int 1)) (aC (eC (.int 0)) aN)))))) aN)))) aN))))
  sNil)
  (sDrop (eM "list" appD (eV 5) (aC (eUF tupL (lLc (lE (eV 4)) [12] (gV 12) tY (e2 ixA (eV 11) (e2 addD (e2 ixA (eV 12) (eV 9)) (e2 mulD (eC (.int 2)) (e2 ixA (eV 12) (eV 10))))))) aN)))))))))
  (sRet (eU tupL (lE (eV 5)))))))
noncomputable def F__law_tables : List D → Hh → R D := fnZ 16 2 m__law_tables
/-- Net.__eq__(self, other) -/
noncomputable def m_Netdd_eqdd : St :=
  (sSeq (sIf (tNot (tV (e1 (isiD [cNet] (.own cNet)) (eV 1))))
  (sRet (eC (.bl false)))
  sNil)
  (sRet (e2 eqD (e1 (fldD [cNet] "tables") (eV 0)) (e1 (fldD [cNet] "tables") (eV 1)))))
noncomputable def F_Netdd_eqdd : List D → Hh → R D := fnZ 2 2 m_Netdd_eqdd
/-- is_integer(thing) -/
noncomputable def m_is_integer : St :=
  (sRet (eAnd (e1 (isiD [cNet] (.bi "int")) (eV 0)) (eNot (e1 (isiD [cNet] (.bi "bool")) (eV 0)))))
noncomputable def F_is_integer : List D → Hh → R D := fnZ 1 1 m_is_integer
/-- is_between(thing, low, high) -/
noncomputable def m_is_between : St :=
  (sRet (eAnd (eF F_is_integer (aC (eV 0) aN)) (eCh leD leD (eV 1) (eV 0) (eV 2))))
noncomputable def F_is_between : List D → Hh → R D := fnZ 3 3 m_is_between
/-- are_bits(many, thing, one) -/
noncomputable def m_are_bits : St :=
  (sRet (eAnd (e1 (isiD [cNet] (.bi "tuple")) (eV 1)) (eAnd (e2 eqD (eF lenD (aC (eV 1) aN)) (eV 0)) (eUF allL (lLc (lE (eV 1)) [2] (gV 2) tY (eF F_is_between (aC (eV 2) (aC (eC (.int 0)) (aC (eC (.int 1)) aN)))))))))
noncomputable def F_are_bits : List D → Hh → R D := fnZ 3 2 m_are_bits
/-- Net.__init__(self, tables, at, table) -/
noncomputable def m_Netdd_initdd : St :=
  (sSeq (sIf (tOr (tNot (tV (e1 (isiD [cNet] (.bi "tuple")) (eV 1)))) (tNot (tV (eCh leD leD (eC (.int 1)) (eF lenD (aC (eV 1) aN)) (eC (.int 7))))))
  sBad
  sNil)
  (sSeq (sFor (lEn (lE (eV 1))) (gT 2 (gC (gV 2) (gC (gV 3) gN)))
  (sIf (tNot (tV (eF F_are_bits (aC (e2 ixA (eC (.tup (([1, 2, 4, 8, 16, 32, 64, 128] : List Int).map D.int))) (eF lenD (aC (eV 1) aN))) (aC (eV 3) aN)))))
  sBad
  sNil))
  (sSeq (sFld [cNet] "tables" (eV 0) (eV 1))
  (sFld [cNet] "many" (eV 0) (eF lenD (aC (eV 1) aN))))))
noncomputable def F_Netdd_initdd : List D → Hh → R D := fnZ 4 2 m_Netdd_initdd
/-- _law_number(state, found, bit) -/
noncomputable def m__law_number : St :=
  (sSeq (sSet 1 (eC (.int 0)))
  (sSeq (sFor (lE (e1 revD (eV 0))) (gV 2)
  (sSet 1 (e2 addD (e2 mulD (eC (.int 2)) (eV 1)) (eV 2))))
  (sRet (eV 1))))
noncomputable def F__law_number : List D → Hh → R D := fnZ 3 1 m__law_number
/-- _law_over(state, lamp) -/
noncomputable def m__law_over : St :=
  (sRet (e2 addD (e2 addD (eSl (eV 0) oN (oS (eV 1))) (eTup (aC (e2 subD (eC (.int 1)) (e2 ixA (eV 0) (eV 1))) aN))) (eSl (eV 0) (oS (e2 addD (eV 1) (eC (.int 1)))) oN)))
noncomputable def F__law_over : List D → Hh → R D := fnZ 2 2 m__law_over
/-- _law_local(tables, state, found, here, lamp, there, other, row) -/
noncomputable def m__law_local : St :=
  (sSeq (sPar 2 3 (eL (lD aN)) (eF F__law_number (aC (eV 1) aN)))
  (sSeq (sFor (lR1 (eF lenD (aC (eV 0) aN))) (gV 4)
  (sSeq (sSet 5 (eF F__law_number (aC (eF F__law_over (aC (eV 1) (aC (eV 4) aN))) aN)))
  (sFor (lEn (lE (eV 0))) (gT 2 (gC (gV 6) (gC (gV 7) gN)))
  (sIf (tV (e2 neD (e2 ixA (eV 7) (eV 3)) (e2 ixA (eV 7) (eV 5))))
  (sDrop (eM "list" appD (eV 2) (aC (eTup (aC (eV 4) (aC (eV 6) (aC (eIf (tV (e2 eqD (e2 ixA (eV 7) (eV 3)) (e2 ixA (eV 1) (eV 4)))) (eC (.int 1)) (e1 negD (eC (.int 1)))) aN)))) aN)))
  sNil))))
  (sRet (eZ (aSort (eV 2))))))
noncomputable def F__law_local : List D → Hh → R D := fnZ 8 2 m__law_local
/-- _law_web(tables, found, state, triple) -/
noncomputable def m__law_web : St :=
  (sSeq (sSet 1 (eDL aD0))
  (sSeq (sFor (lE (eF F__law_states (aC (eF lenD (aC (eV 0) aN)) aN))) (gV 2)
  (sDrop (eM "dict" updT (eV 1) (aC (eDZ (aDictP (eZ (lLc (lE (eF F__law_local (aC (eV 0) (aC (eV 2) aN)))) [3] (gV 3) tY (eTup (aC (eV 3) (aC (eC (.bl true)) aN))))))) aN))))
  (sRet (eZ (aSort (eV 1))))))
noncomputable def F__law_web : List D → Hh → R D := fnZ 4 1 m__law_web
/-- check_net(thing) -/
noncomputable def m_check_net : St :=
  (sIf (tNot (tV (e1 (isiD [cNet] (.own cNet)) (eV 0))))
  sBad
  sNil)
noncomputable def F_check_net : List D → Hh → R D := fnZ 1 1 m_check_net
/-- check_state(net, state) -/
noncomputable def m_check_state : St :=
  (sSeq (sDrop (eF F_check_net (aC (eV 0) aN)))
  (sIf (tNot (tV (eF F_are_bits (aC (e1 (fldD [cNet] "many") (eV 0)) (aC (eV 1) aN)))))
  sBad
  sNil))
noncomputable def F_check_state : List D → Hh → R D := fnZ 2 2 m_check_state
/-- bit_of(number, lamp) -/
noncomputable def m_bit_of : St :=
  (sRet (e2 modD (e2 fdivD (eV 0) (e2 ixA (eC (.tup (([1, 2, 4, 8, 16, 32, 64, 128] : List Int).map D.int))) (eV 1))) (eC (.int 2))))
noncomputable def F_bit_of : List D → Hh → R D := fnZ 2 2 m_bit_of
/-- signs_at(net, number, found, lamp, bit, low, other, table, change) -/
noncomputable def m_signs_at : St :=
  (sSeq (sSet 2 (eDL aD0))
  (sSeq (sFor (lR1 (e1 (fldD [cNet] "many") (eV 0))) (gV 3)
  (sSeq (sSet 4 (eF F_bit_of (aC (eV 1) (aC (eV 3) aN))))
  (sSeq (sSet 5 (e2 subD (eV 1) (e2 mulD (eV 4) (e2 ixA (eC (.tup (([1, 2, 4, 8, 16, 32, 64, 128] : List Int).map D.int))) (eV 3)))))
  (sFor (lEn (lE (e1 (fldD [cNet] "tables") (eV 0)))) (gT 2 (gC (gV 6) (gC (gV 7) gN)))
  (sSeq (sSet 8 (e2 subD (e2 ixA (eV 7) (e2 addD (eV 5) (e2 ixA (eC (.tup (([1, 2, 4, 8, 16, 32, 64, 128] : List Int).map D.int))) (eV 3)))) (e2 ixA (eV 7) (eV 5))))
  (sIf (tV (e2 neD (eV 8) (eC (.int 0))))
  (sSub setA (eV 2) (eTup (aC (eV 3) (aC (eV 6) (aC (eV 8) aN)))) (eC (.bl true)))
  sNil))))))
  (sRet (eV 2))))
noncomputable def F_signs_at : List D → Hh → R D := fnZ 9 2 m_signs_at
/-- number_by(bits, lamp, bit) -/
noncomputable def m_number_by : St :=
  (sRet (eUF sumL (lLc (lEn (lE (eV 0))) [1, 2] (gT 2 (gC (gV 1) (gC (gV 2) gN))) (tV (e2 eqD (eV 2) (eC (.int 1)))) (e2 ixA (eC (.tup (([1, 2, 4, 8, 16, 32, 64, 128] : List Int).map D.int))) (eV 1)))))
noncomputable def F_number_by : List D → Hh → R D := fnZ 3 1 m_number_by
/-- local_web(net, state) -/
noncomputable def m_local_web : St :=
  (sSeq (sDrop (eF F_check_state (aC (eV 0) (aC (eV 1) aN))))
  (sRet (eUF tupL (aSort (eF F_signs_at (aC (eV 0) (aC (eF F_number_by (aC (eV 1) aN)) aN)))))))
noncomputable def F_local_web : List D → Hh → R D := fnZ 2 2 m_local_web
/-- web_of(net, found, number) -/
noncomputable def m_web_of : St :=
  (sSeq (sSet 1 (eDL aD0))
  (sSeq (sFor (lR1 (e2 ixA (eC (.tup (([1, 2, 4, 8, 16, 32, 64, 128] : List Int).map D.int))) (e1 (fldD [cNet] "many") (eV 0)))) (gV 2)
  (sDrop (eM "dict" updT (eV 1) (aC (eF F_signs_at (aC (eV 0) (aC (eV 2) aN))) aN))))
  (sRet (eZ (aSort (eV 1))))))
noncomputable def F_web_of : List D → Hh → R D := fnZ 3 1 m_web_of
/-- web(net) -/
noncomputable def m_web : St :=
  (sSeq (sDrop (eF F_check_net (aC (eV 0) aN)))
  (sRet (eU tupL (lE (eF F_web_of (aC (eV 0) aN))))))
noncomputable def F_web : List D → Hh → R D := fnZ 1 1 m_web
/-- is_even_sided(net, some, i, j, sign) -/
noncomputable def m_is_even_sided : St :=
  (sSeq (sDrop (eF F_check_net (aC (eV 0) aN)))
  (sSeq (sSet 1 (eF F_web_of (aC (eV 0) aN)))
  (sRet (e2 eqD (eF lenD (aC (eDZ (aDc (lE (eV 1)) [2, 3, 4] (gT 3 (gC (gV 2) (gC (gV 3) (gC (gV 4) gN)))) tY (eTup (aC (eV 2) (aC (eV 3) aN))) (eC (.bl true)))) aN)) (eF lenD (aC (eV 1) aN))))))
noncomputable def F_is_even_sided : List D → Hh → R D := fnZ 5 1 m_is_even_sided
/-- law(script, hand, pass_no, tables, many, book, due, met_here, state, told, pairs_here, lamp, row, is_set, triple) -/
noncomputable def m_law : St :=
  (sSeq (sSet 1 (eF F__law_hand (aC (eV 0) aN)))
  (sSeq (sFor (lR1 (eC (.int 5))) (gV 2)
  (sSeq (sSet 3 (eF F__law_tables (aC (eV 1) (aC (eC (.int 4)) aN))))
  (sSeq (sPar 4 5 (eF lenD (aC (eV 3) aN)) (eF (mkZ cNet F_Netdd_initdd) (aC (eV 3) aN)))
  (sSeq (sPar 6 7 (eF F__law_web (aC (eV 3) aN)) (eDL aD0))
  (sSeq (sIf (tV (e2 neD (eF reprD (aC (eF F_web (aC (eV 5) aN)) aN)) (eF reprD (aC (eU tupL (lE (eV 6))) aN))))
  (sRet (eC (.bl false)))
  sNil)
  (sSeq (sFor (lE (eF F__law_states (aC (eV 4) aN))) (gV 8)
  (sSeq (sSet 9 (eF F_local_web (aC (eV 5) (aC (eV 8) aN))))
  (sSeq (sIf (tV (e2 neD (eF reprD (aC (eV 9) aN)) (eF reprD (aC (eU tupL (lE (eF F__law_local (aC (eV 3) (aC (eV 8) aN))))) aN))))
  (sRet (eC (.bl false)))
  sNil)
  (sDrop (eM "dict" updT (eV 7) (aC (eDZ (aDictP (eZ (lLc (lE (eV 9)) [14] (gV 14) tY (eTup (aC (eV 14) (aC (eC (.bl true)) aN))))))) aN))))))
  (sSeq (sIf (tV (e2 neD (eZ (aSort (eV 7))) (eV 6)))
  (sRet (eC (.bl false)))
  sNil)
  (sSeq (sSet 10 (eZ (lLc (lE (eV 6)) [14] (gV 14) tY (eSl (eV 14) oN (oS (eC (.int 2)))))))
  (sSeq (sIf (tV (e2 neD (eF reprD (aC (eF F_is_even_sided (aC (eV 5) aN)) aN)) (eF reprD (aC (e2 eqD (e1 lsetD (eV 10)) (eF lenD (aC (eV 10) aN))) aN))))
  (sRet (eC (.bl false)))
  sNil)
  (sSeq (sFor (lEn (lE (eV 3))) (gT 2 (gC (gV 11) (gC (gV 12) gN)))
  (sSeq (sSet 13 (eUF anyL (lLc (lE (eV 6)) [14] (gV 14) tY (e2 eqD (e2 ixA (eV 14) (eC (.int 1))) (eV 11)))))
  (sIf (tV (e2 neD (eV 13) (e2 gtD (e1 lsetD (eV 12)) (eC (.int 1)))))
  (sRet (eC (.bl false)))
  sNil)))
  (sIf (tV (e2 (neOwn cNet F_Netdd_eqdd) (eV 5) (eF (mkZ cNet F_Netdd_initdd) (aC (eV 3) aN))))
  (sRet (eC (.bl false)))
  sNil)))))))))))
  (sRet (eC (.bl true)))))
noncomputable def F_law : List D → Hh → R D := fnZ 15 1 m_law
end K06
end PV
set_option Elab.async false
set_option linter.all false
set_option autoImplicit false
set_option maxRecDepth 100000
set_option maxHeartbeats 4000000
namespace PV
namespace K06
open PySem (Str PyData)
theorem draw_wp {k : Nat} {o : O} {h : Hh} {m : Int} (ho : HandOk o) (hk : h[k]? = some o) (hm : 0 < m) (hm2 : m < 1073741824) :
    (F__law_draw [.ref k, .int m] h).wp fun d h' => ∃ (i : Nat) (o' : O), d = .int i ∧ (i : Int) < m ∧ HandOk o' ∧ h' = h.set k o' := by
  have hkl : k < h.length := (List.getElem?_eq_some_iff.mp hk).1
  have give : ∀ (x : Int) (h' : Hh) (o' : O), HandOk o' → h' = h.set k o' → 0 ≤ x → x < m → Gives h (fun d h' => ∃ (i : Nat) (o' : O), d = .int i ∧ (i : Int) < m ∧ HandOk o' ∧ h' = h.set k o') (.int x) h' := fun x h' o' q e l u => by
    subst e
    refine .inl ⟨_, [], (List.append_nil _).symm, Fr.set (q.bel _), trivial, x.toNat, o', ?_, ?_, q, rfl⟩
    · rw [Int.toNat_of_nonneg l]
    · rw [Int.toNat_of_nonneg l]; exact u
  refine fnZ_wp rfl fun G hG => ?_
  show (m__law_draw [some (.ref k), some (.int m), none, none, none] h).wp _ _
  unfold m__law_draw
  refine seq_wp (fun S' h' => ∃ (o2 : Option D) (cells : List Int) (p : Nat) (b s c : Int), S' = [some (.ref k), some (.int m), o2, none, none] ∧ h' = h.set k (hand cells p b s c)) (fun M hM => ?_) ?_
  · obtain ⟨cells, p, b, s, c, rfl⟩ := ho
    have same : h = h.set k (hand cells p b s c) := (set_same hk).symm
    rw [same]
    simp [hkl]
    by_cases hb : b = 0
    · rw [if_pos hb]
      by_cases hp : p < cells.length
      · rw [if_pos hp]
        have e : (cells.map D.int)[p]? = some (.int cells[p]) := by rw [List.getElem?_map, List.getElem?_eq_getElem hp]; rfl
        rw [getI_nat _ e]
        simp [hkl]
        split
        · exact hM _ _ ⟨_, cells, p + 1, _, _, _, rfl, rfl⟩
        · exact hM _ _ ⟨_, cells, p + 1, _, _, _, rfl, rfl⟩
      · rw [if_neg hp]
        exact hM _ _ ⟨_, cells, p, b, s, c, rfl, rfl⟩
    · rw [if_neg hb]
      exact hM _ _ ⟨_, cells, p, b, s, c, rfl, rfl⟩
  · rintro S' h' ⟨o2, cells, p, b, s, c, rfl, rfl⟩
    refine seq_wp (fun S' h' => S' = [some (.ref k), some (.int m), o2, none, none] ∧ h' = h.set k (hand cells p b s c)) (fun M hM => ?_) ?_
    · simp [hkl, hm, hm2]
      split
      · exact hG _ _ (give (b % m) _ (hand cells p (b / m) s c) ⟨_, _, _, _, _, rfl⟩ rfl (Int.emod_nonneg _ (by omega)) (Int.emod_lt_of_pos _ hm))
      · exact hM _ _ ⟨rfl, rfl⟩
    · rintro S' h' ⟨rfl, rfl⟩
      simp [hkl, hm, hm2]
      rw [mulD_l _ ⟨by omega, by omega⟩]
      simp [hkl, hm, hm2]
      rw [mulD_l _ ⟨by omega, by omega⟩]
      simp [hkl, hm, hm2]
      exact hG _ _ (give _ _ (hand cells p b s (c + 1)) ⟨_, _, _, _, _, rfl⟩ rfl (Int.emod_nonneg _ (by omega)) (Int.emod_lt_of_pos _ hm))
theorem ab__law_draw (k : Nat) (h : Hh) (ho : HOk (some k) h) (v u : D) (q : VB false (some k) h v u) : AE (some k) h (VB false (some k)) (F__law_draw [.ref k, v] h) (drawY u) := by
  obtain ⟨rfl, cv⟩ := q
  intro Q E w
  cases v with
  | int m =>
    obtain ⟨o, hk, oo⟩ := ho k rfl
    obtain ⟨d, h', e, i, o', rfl, hi, ho', rfl⟩ := R.wp_ex (draw_wp oo hk w.1.1 w.1.2)
    rw [e]
    exact ⟨HR.of_set (List.getElem?_eq_some_iff.mp hk).1 ho', _, ⟨rfl, trivial⟩, w.2 i hi⟩
  | _ => exact False.elim w
abbrev y__law_draw (u : D) : Y D := drawY u
/-! the hand of a script -/
theorem hand_eq (ns : List Int) (hl : ns.length ≤ 63) : ∃ o, HandOk o ∧ F__law_hand [.fz (ns.map .int)] [] = .ok (.ref 0) [o] := by
  refine ⟨hand (ns.map fun i => if i < 0 then -i else i) 0 0 (269 + 157 * ns.length) 0, ⟨_, _, _, _, _, rfl⟩, ?_⟩
  refine of_wp fun M hM => ?_
  refine fn_wp rfl fun G hG => ?_
  show (m__law_hand [some (.fz (ns.map .int)), none, none] []).wp _ _
  unfold m__law_hand
  have e : lLc (lE (eSl (eV 0) oN (oS (eC (.int 63))))) [2] (gV 2) tY (eF absD (aC (eF intD (aC (eV 2) aN)) aN)) [some (.fz (ns.map .int)), none, none] [] = .ok (ns.map fun i => D.int (if i < 0 then -i else i)) [] := by
    refine lc_map ns D.int _ (of_wp fun M hM => ?_) (by show ns.length ≤ 16777216; omega) fun x hx M hM => ?_
    · simp
      rw [show (63 : Int) = ((63 : Nat) : Int) from rfl, cut_take, List.take_of_length_le (by simpa using hl)]
      exact hM
    · simpa [PV.wipe] using hM
  simp [e]
  refine ⟨by decide, ?_⟩
  have q := hG (.ref 0) [hand (ns.map fun i => if i < 0 then -i else i) 0 0 (269 + 157 * ns.length) 0] (.inr ⟨[], _, [], rfl, rfl, Fr.refl, HandOk.bel ⟨_, 0, _, _, _, rfl⟩ 0, hM⟩)
  unfold hand at q
  rw [List.map_map] at q
  exact q
noncomputable def y__law_states (v0 : D) : Y D := fnY
  (YS.get ((((Y.pure []).bind fun x1 => Y.pure (.tup x1)).bind fun x2 => (Y.pure []).bind fun x3 => Y.pure (x2 :: x3)).bind fun x4 => Y.pure (.fz x4)) fun x5 => (YS.get ((Y.pure v0).bind r1Y) fun l54 => YS.seq (σ := D) (forY l54 x5 fun x18 s12 => (YS.get (((((Y.pure s12).bind rowY).bind fun l27 => lcY l27 fun x21 => (elY (Y.pure true) ((Y.pure x21).bind fun x25 => (((Y.pure (.int 0)).bind fun x22 => (Y.pure []).bind fun x23 => Y.pure (x22 :: x23)).bind fun x24 => Y.pure (.tup x24)).bind fun x26 => Y.ofR (addD x25 x26 [])))).bind fun x28 => Y.pure (.fz x28)).bind fun x37 => ((((Y.pure s12).bind rowY).bind fun l35 => lcY l35 fun x29 => (elY (Y.pure true) ((Y.pure x29).bind fun x33 => (((Y.pure (.int 1)).bind fun x30 => (Y.pure []).bind fun x31 => Y.pure (x30 :: x31)).bind fun x32 => Y.pure (.tup x32)).bind fun x34 => Y.ofR (addD x33 x34 [])))).bind fun x36 => Y.pure (.fz x36)).bind fun x38 => Y.ofR (addD x37 x38 [])) fun x39 => (YS.nx x39))) fun s46 => (YS.ret (Y.pure s46))))
theorem ab__law_states (h : Hh) (v0 u0 : D) (q0 : VB false none h v0 u0) : AE none h (VB false none) (F__law_states [v0] h) (y__law_states u0) := by
  obtain ⟨rfl, cv0⟩ := q0
  refine fn_of (fun _ e => nomatch e) rfl ?_
  unfold m__law_states
  exact (by exact (xb_set (i := 1) (by exact (xe_z (by exact (xf_disp (by exact (xl_cons (by exact (xe_tup (by exact xl_nil))) xl_nil)))))) fun x5 cx5 => (by exact (xb_for (L := (fun (s12 : D) (S16 : Sg) (h17 : Hh) => ∃ (o15 : Option D), S16 = [some v0, some s12, o15, none] ∧ HI ⟨none, h, []⟩ h17 ∧ s12.cl)) (by exact (xr_r1 (by exact (xe_v (i := 0) rfl cv0)))) (fun h H => ⟨none, rfl, H, cx5⟩) (fun _ _ _ ⟨_, _, H, _⟩ => H.fx) (fun _ _ _ _ _ hq => absurd hq List.not_mem_nil)
 (fun x18 s12 S19 h20 cx18 hK => by obtain ⟨o15, rfl, H13, c14⟩ := hK; exact (by exact ab_to rfl H13 (by exact (xb_one (xb_set (i := 1) (by exact (xe_2 op_add (by exact (xe_z (by exact (xf_lc (fun _ hq => absurd hq List.not_mem_nil) (by exact (by exact (xr_e (by exact (xe_v (i := 1) rfl c14))))) fun x21 cx21 => (by exact el_v (fun _ => rfl) xt_y (by exact (xe_2 op_add (by exact (xe_v (i := 3) rfl cx21)) (by exact (xe_tup (by exact (xl_cons (by exact (xe_c trivial)) xl_nil))))))))))) (by exact (xe_z (by exact (xf_lc (fun _ hq => absurd hq List.not_mem_nil) (by exact (by exact (xr_e (by exact (xe_v (i := 1) rfl c14))))) fun x29 cx29 => (by exact el_v (fun _ => rfl) xt_y (by exact (xe_2 op_add (by exact (xe_v (i := 3) rfl cx29)) (by exact (xe_tup (by exact (xl_cons (by exact (xe_c trivial)) xl_nil))))))))))))) fun x39 cx39 => (by exact (xb_nx fun h H => ⟨(some x18), rfl, H, cx39⟩)))))))
 (fun s46 S52 h53 hK => by obtain ⟨o49, rfl, H47, c48⟩ := hK; exact XB.go H47 (by exact (xb_ret (by exact (xe_v (i := 1) rfl c48)))))))))
noncomputable def y__law_any (v1 : D) : Y D := fnY
  (YS.ret ((Y.pure v1).bind fun x3 => (((Y.pure v1).bind fun x1 => Y.ofR (lenD [x1] [])).bind fun x2 => y__law_draw x2).bind fun x4 => Y.ofR (ixA x3 x4 [])))
theorem ab__law_any (k : Nat) (h : Hh) (ho : HOk (some k) h) (v1 u1 : D) (q1 : VB false (some k) h v1 u1) : AE (some k) h (VB false (some k)) (F__law_any [.ref k, v1] h) (y__law_any u1) := by
  obtain ⟨rfl, cv1⟩ := q1
  refine fn_of ho rfl ?_
  unfold m__law_any
  exact (by exact (xb_ret (by exact (xe_2 op_ixA (by exact (xe_v (i := 1) rfl cv1)) (by exact (xe_h1 (i := 0) ab__law_draw rfl (by exact (xe_b (F := lenD) op_len (by exact (xe_v (i := 1) rfl cv1))))))))))
noncomputable def y__law_tables (v1 : D) : Y D := fnY
  (YS.get ((Y.pure (.int 1)).bind fun x2 => ((Y.pure v1).bind fun x1 => y__law_draw x1).bind fun x3 => Y.ofR (addD x2 x3 [])) fun x5 => YS.get ((Y.pure (.int 4)).bind fun x4 => y__law_draw x4) fun x6 => (YS.get ((Y.pure x5).bind fun x7 => y__law_states x7) fun x8 => YS.get (Y.pure []) fun l10 => (YS.get ((Y.pure x5).bind r1Y) fun l196 => YS.seq (σ := (List D)) (forY l196 l10 fun x34 s23 => (YS.get (((Y.pure x6).bind fun x37 => (Y.pure (.int 0)).bind fun x38 => Y.ofR (eqD x37 x38 [])).bind isY) fun k39 => if k39 = true then (YS.get ((((Y.pure x8).bind rowY).bind fun l43 => lcY l43 fun x41 => (elY (Y.pure true) ((Y.pure (.int 2)).bind fun x42 => y__law_draw x42))).bind fun x40 => Y.ofR (tupL x40 [])) fun x44 => YS.need (s23.length < big) (YS.nx (s23 ++ [x44]))) else (YS.get (((Y.pure x6).bind fun x56 => (Y.pure (.int 1)).bind fun x57 => Y.ofR (eqD x56 x57 [])).bind isY) fun k58 => if k58 = true then (YS.get ((((Y.pure x5).bind r1Y).bind fun l63 => lcY l63 fun x59 => (elY (Y.pure true) (((Y.pure (.int 5)).bind fun x60 => y__law_draw x60).bind fun x61 => (Y.pure (.int 2)).bind fun x62 => Y.ofR (subD x61 x62 [])))).bind fun x64 => Y.pure (.fz x64)) fun x65 => (YS.get ((Y.pure (.int 3)).bind fun x66 => y__law_draw x66) fun x67 => (YS.get ((((Y.pure x8).bind rowY).bind fun l82 => lcY l82 fun x69 => (elY (Y.pure true) (((((((Y.pure x65).bind rowY).bind fun l71 => ((Y.pure x69).bind rowY).bind fun l72 => Y.pure (zipL l71 l72)).bind fun l78 => lcY l78 fun x73 => (un2 x73 fun x74 x75 => (elY (Y.pure true) ((Y.pure x74).bind fun x76 => (Y.pure x75).bind fun x77 => Y.ofR (mulD x76 x77 []))))).bind fun x70 => Y.ofR (sumL x70 [])).bind fun x79 => (Y.pure x67).bind fun x80 => Y.ofR (geD x79 x80 [])).bind fun x81 => Y.ofR (intD [x81] [])))).bind fun x68 => Y.ofR (tupL x68 [])) fun x83 => YS.need (s23.length < big) (YS.nx (s23 ++ [x83]))))) else (YS.get ((((Y.pure x5).bind fun x95 => y__law_draw x95).bind fun x99 => (((Y.pure x5).bind fun x96 => y__law_draw x96).bind fun x97 => (Y.pure []).bind fun x98 => Y.pure (x97 :: x98)).bind fun x100 => Y.pure (x99 :: x100)).bind fun x101 => Y.pure (.tup x101)) fun x102 => (us2 x102 fun x105 x106 => (YS.get ((((Y.pure (.int 4)).bind r1Y).bind fun l109 => lcY l109 fun x107 => (elY (Y.pure true) ((Y.pure (.int 2)).bind fun x108 => y__law_draw x108))).bind fun x110 => Y.pure (.fz x110)) fun x111 => (YS.seq (σ := D) (YS.get (((Y.pure x6).bind fun x112 => (Y.pure (.int 3)).bind fun x113 => Y.ofR (eqD x112 x113 [])).bind isY) fun k114 => if k114 = true then (YS.get ((((((Y.pure (.int 0)).bind fun x121 => ((Y.pure (.int 1)).bind fun x119 => ((Y.pure (.int 0)).bind fun x117 => ((Y.pure (.int 1)).bind fun x115 => (Y.pure []).bind fun x116 => Y.pure (x115 :: x116)).bind fun x118 => Y.pure (x117 :: x118)).bind fun x120 => Y.pure (x119 :: x120)).bind fun x122 => Y.pure (x121 :: x122)).bind fun x123 => Y.pure (.fz x123)).bind fun x135 => ((((Y.pure (.int 1)).bind fun x130 => ((Y.pure (.int 0)).bind fun x128 => ((Y.pure (.int 1)).bind fun x126 => ((Y.pure (.int 0)).bind fun x124 => (Y.pure []).bind fun x125 => Y.pure (x124 :: x125)).bind fun x127 => Y.pure (x126 :: x127)).bind fun x129 => Y.pure (x128 :: x129)).bind fun x131 => Y.pure (x130 :: x131)).bind fun x132 => Y.pure (.fz x132)).bind fun x133 => (Y.pure []).bind fun x134 => Y.pure (x133 :: x134)).bind fun x136 => Y.pure (x135 :: x136)).bind fun x137 => Y.pure (.fz x137)).bind fun x138 => y__law_any x138) fun x139 => (YS.nx x139)) else (YS.nx x111)) fun s150 => (YS.get ((((Y.pure x8).bind rowY).bind fun l169 => lcY l169 fun x158 => (elY (Y.pure true) ((Y.pure s150).bind fun x167 => (((Y.pure x158).bind fun x159 => (Y.pure x105).bind fun x160 => Y.ofR (ixA x159 x160 [])).bind fun x165 => ((Y.pure (.int 2)).bind fun x163 => ((Y.pure x158).bind fun x161 => (Y.pure x106).bind fun x162 => Y.ofR (ixA x161 x162 [])).bind fun x164 => Y.ofR (mulD x163 x164 [])).bind fun x166 => Y.ofR (addD x165 x166 [])).bind fun x168 => Y.ofR (ixA x167 x168 [])))).bind fun x157 => Y.ofR (tupL x157 [])) fun x170 => YS.need (s23.length < big) (YS.nx (s23 ++ [x170])))))))))) fun s182 => (YS.ret ((Y.pure s182).bind fun x195 => Y.ofR (tupL x195 []))))))
theorem ab__law_tables (k : Nat) (h : Hh) (ho : HOk (some k) h) (v1 u1 : D) (q1 : VB false (some k) h v1 u1) : AE (some k) h (VB false (some k)) (F__law_tables [.ref k, v1] h) (y__law_tables u1) := by
  obtain ⟨rfl, cv1⟩ := q1
  refine fn_of ho rfl ?_
  unfold m__law_tables
  exact (by exact (xb_par (i := 2) (j := 3) (by exact (xe_2 op_add (by exact (xe_c trivial)) (by exact (xe_h1 (i := 0) ab__law_draw rfl (by exact (xe_v (i := 1) rfl cv1)))))) (by exact (xe_h1 (i := 0) ab__law_draw rfl (by exact (xe_c trivial)))) fun x5 x6 cx5 cx6 => (by exact (xb_parV (i := 4) (j := 5) (xv_c (by exact (xe_f1 ab__law_states (by exact (xe_v (i := 2) rfl cx5))))) (fun x8 n9 cx8 => (xv_l (by exact (xf_disp (by exact xl_nil))))) fun x8 n9 l10 n11 cx8 cl10 => (by exact (xb_for (L := (fun (s23 : (List D)) (S32 : Sg) (h33 : Hh) => ∃ (o25 : Option D), ∃ (o26 : Option D), ∃ (o28 : Option D), ∃ (o29 : Option D), ∃ (o30 : Option D), ∃ (o31 : Option D), S32 = [some (.ref k), some v1, some x5, some x6, some x8, some (.ref n11), o28, o31, o26, o29, o30, o25, none, none, none, none] ∧ HI ⟨(some k), h, [(n11, .lst s23)]⟩ h33 ∧ cls s23)) (by exact (xr_r1 (by exact (xe_v (i := 2) rfl cx5)))) (fun h H => ⟨none, none, none, none, none, none, rfl, H, cl10⟩) (fun _ _ _ ⟨_, _, _, _, _, _, _, H, _⟩ => H.fx) (fun _ _ _ _ _ hq => absurd hq List.not_mem_nil)
 (fun x34 s23 S35 h36 cx34 hK => by obtain ⟨o25, o26, o28, o29, o30, o31, rfl, H24, c27⟩ := hK; exact (by exact ab_to rfl H24 (by exact (xb_if (by exact (xt_v (by exact (xe_2 op_eq (by exact (xe_v (i := 3) rfl cx6)) (by exact (xe_c trivial))))))
 (by exact (xb_one (xb_app (i := 5) (j := 0) rfl rfl (by exact (xe_uf ol_tup (by exact (xf_lc (fun _ hq => absurd hq List.not_mem_nil) (by exact (by exact (xr_e (by exact (xe_v (i := 4) rfl cx8))))) fun x41 cx41 => (by exact el_v (fun _ => rfl) xt_y (by exact (xe_h1 (i := 0) ab__law_draw rfl (by exact (xe_c trivial))))))))) fun x44 cx44 => (by exact (xb_nx fun h H => ⟨o25, o26, (some x34), o29, o30, o31, rfl, H, (cls.app c27 (cls.one cx44))⟩)))))
 (by exact (xb_if (by exact (xt_v (by exact (xe_2 op_eq (by exact (xe_v (i := 3) rfl cx6)) (by exact (xe_c trivial))))))
 (by exact (xb_set (i := 7) (by exact (xe_z (by exact (xf_lc (fun _ hq => absurd hq List.not_mem_nil) (by exact (xr_r1 (by exact (xe_v (i := 2) rfl cx5)))) fun x59 cx59 => (by exact el_v (fun _ => rfl) xt_y (by exact (xe_2 op_sub (by exact (xe_h1 (i := 0) ab__law_draw rfl (by exact (xe_c trivial)))) (by exact (xe_c trivial))))))))) fun x65 cx65 => (by exact (xb_set (i := 8) (by exact (xe_h1 (i := 0) ab__law_draw rfl (by exact (xe_c trivial)))) fun x67 cx67 => (by exact (xb_one (xb_app (i := 5) (j := 0) rfl rfl (by exact (xe_uf ol_tup (by exact (xf_lc (fun _ hq => absurd hq List.not_mem_nil) (by exact (by exact (xr_e (by exact (xe_v (i := 4) rfl cx8))))) fun x69 cx69 => (by exact el_v (fun _ => rfl) xt_y (by exact (xe_b (F := intD) op_int (by exact (xe_2 op_ge (by exact (xe_uf ol_sum (by exact (xf_lc (fun _ hq => absurd hq List.not_mem_nil) (by exact (xr_zip (fun _ hq => absurd hq List.not_mem_nil) (by exact (xr_e (by exact (xe_v (i := 7) rfl cx65)))) (by exact (xr_e (by exact (xe_v (i := 12) rfl cx69)))))) fun x73 cx73 => (by exact xg_un2_ cx73 fun x74 x75 cx74 cx75 => by exact (by exact el_v (fun _ => rfl) xt_y (by exact (xe_2 op_mul (by exact (xe_v (i := 13) rfl cx74)) (by exact (xe_v (i := 14) rfl cx75)))))))))) (by exact (xe_v (i := 8) rfl cx67))))))))))) fun x83 cx83 => (by exact (xb_nx fun h H => ⟨o25, (some x67), (some x34), o29, o30, (some x65), rfl, H, (cls.app c27 (cls.one cx83))⟩)))))))))
 (by exact (xb_asg (by exact (xe_tup (by exact (xl_cons (by exact (xe_h1 (i := 0) ab__law_draw rfl (by exact (xe_v (i := 2) rfl cx5)))) (xl_cons (by exact (xe_h1 (i := 0) ab__law_draw rfl (by exact (xe_v (i := 2) rfl cx5)))) xl_nil))))) fun x102 cx102 h103 H104 => (by exact ab_us2_ cx102 fun x105 x106 cx105 cx106 => by exact (by exact ab_to rfl H104 (by exact (xb_set (i := 11) (by exact (xe_z (by exact (xf_lc (fun _ hq => absurd hq List.not_mem_nil) (by exact (xr_r1 (by exact (xe_c trivial)))) fun x107 cx107 => (by exact el_v (fun _ => rfl) xt_y (by exact (xe_h1 (i := 0) ab__law_draw rfl (by exact (xe_c trivial))))))))) fun x111 cx111 => (by exact (xb_seq (L := (fun (s150 : D) (S153 : Sg) (h154 : Hh) => S153 = [some (.ref k), some v1, some x5, some x6, some x8, some (.ref n11), some x34, o31, o26, some x105, some x106, some s150, none, none, none, none] ∧ HI ⟨(some k), h, [(n11, .lst s23)]⟩ h154 ∧ s150.cl)) (xb_if (by exact (xt_v (by exact (xe_2 op_eq (by exact (xe_v (i := 3) rfl cx6)) (by exact (xe_c trivial))))))
 (by exact (xb_one (xb_set (i := 11) (by exact (xe_h1 (i := 0) ab__law_any rfl (by exact (xe_z (by exact (xf_disp (by exact (xl_cons (by exact (xe_z (by exact (xf_disp (by exact (xl_cons (by exact (xe_c trivial)) (xl_cons (by exact (xe_c trivial)) (xl_cons (by exact (xe_c trivial)) (xl_cons (by exact (xe_c trivial)) xl_nil))))))))) (xl_cons (by exact (xe_z (by exact (xf_disp (by exact (xl_cons (by exact (xe_c trivial)) (xl_cons (by exact (xe_c trivial)) (xl_cons (by exact (xe_c trivial)) (xl_cons (by exact (xe_c trivial)) xl_nil))))))))) xl_nil))))))))) fun x139 cx139 => (by exact (xb_nx fun h H => ⟨rfl, H, cx139⟩)))))
 (by exact (xb_nx fun h H => ⟨rfl, H, cx111⟩)))
 (fun s150 S155 h156 hK => by obtain ⟨rfl, H151, c152⟩ := hK; exact XB.go H151 (by exact (xb_one (xb_app (i := 5) (j := 0) rfl rfl (by exact (xe_uf ol_tup (by exact (xf_lc (fun _ hq => absurd hq List.not_mem_nil) (by exact (by exact (xr_e (by exact (xe_v (i := 4) rfl cx8))))) fun x158 cx158 => (by exact el_v (fun _ => rfl) xt_y (by exact (xe_2 op_ixA (by exact (xe_v (i := 11) rfl c152)) (by exact (xe_2 op_add (by exact (xe_2 op_ixA (by exact (xe_v (i := 12) rfl cx158)) (by exact (xe_v (i := 9) rfl cx105)))) (by exact (xe_2 op_mul (by exact (xe_c trivial)) (by exact (xe_2 op_ixA (by exact (xe_v (i := 12) rfl cx158)) (by exact (xe_v (i := 10) rfl cx106))))))))))))))) fun x170 cx170 => (by exact (xb_nx fun h H => ⟨(some s150), o26, (some x34), (some x105), (some x106), o31, rfl, H, (cls.app c27 (cls.one cx170))⟩))))))))))))))))))))
 (fun s182 S193 h194 hK => by obtain ⟨o184, o185, o187, o188, o189, o190, rfl, H183, c186⟩ := hK; exact XB.go H183 (by exact (xb_ret (by exact (xe_u ol_tup (by exact (xr_m (i := 5) (j := 0) rfl rfl c186)))))))))))))
noncomputable def y_Netdd_eqdd (v0 : D) (v1 : D) : Y D := fnY
  (YS.seq (σ := Unit) (YS.get ((((Y.pure v1).bind fun x1 => Y.ofR (isiD [cNet] (.own cNet) x1 [])).bind isY).bind fun k2 => Y.pure !k2) fun k3 => if k3 = true then (YS.ret (Y.pure (.bl false))) else (YS.nx ())) fun s8 => (YS.ret (((Y.pure v0).bind fun x14 => Y.ofR (fldD [cNet] "tables" x14 [])).bind fun x16 => ((Y.pure v1).bind fun x15 => Y.ofR (fldD [cNet] "tables" x15 [])).bind fun x17 => Y.ofR (eqD x16 x17 []))))
theorem ab_Netdd_eqdd (h : Hh) (v0 u0 : D) (v1 u1 : D) (q0 : VB false none h v0 u0) (q1 : VB false none h v1 u1) : AE none h (VB false none) (F_Netdd_eqdd [v0, v1] h) (y_Netdd_eqdd u0 u1) := by
  obtain ⟨rfl, cv0⟩ := q0
  obtain ⟨rfl, cv1⟩ := q1
  refine fn_of (fun _ e => nomatch e) rfl ?_
  unfold m_Netdd_eqdd
  exact (by exact (xb_seq (L := (fun (s8 : Unit) (S10 : Sg) (h11 : Hh) => S10 = [some v0, some v1] ∧ HI ⟨none, h, []⟩ h11)) (xb_if (by exact (xt_not (by exact (xt_v (by exact (xe_1 (op_isi _ _) (by exact (xe_v (i := 1) rfl cv1))))))))
 (by exact (xb_ret (by exact (xe_c trivial))))
 (by exact (xb_nx fun h H => ⟨rfl, H⟩)))
 (fun s8 S12 h13 hK => by obtain ⟨rfl, H9⟩ := hK; exact XB.go H9 (by exact (xb_ret (by exact (xe_2 op_eq (by exact (xe_1 (op_fld _ _) (by exact (xe_v (i := 0) rfl cv0)))) (by exact (xe_1 (op_fld _ _) (by exact (xe_v (i := 1) rfl cv1)))))))))))
noncomputable def y_is_integer (v0 : D) : Y D := fnY
  (YS.ret (((Y.pure v0).bind fun x1 => Y.ofR (isiD [cNet] (.bi "int") x1 [])).bind fun x5 => (isY x5).bind fun k6 => if k6 = true then (((Y.pure v0).bind fun x2 => Y.ofR (isiD [cNet] (.bi "bool") x2 [])).bind fun x3 => (isY x3).bind fun k4 => Y.pure (.bl !k4)) else Y.pure (.bl false)))
theorem ab_is_integer (h : Hh) (v0 u0 : D) (q0 : VB false none h v0 u0) : AE none h (VB false none) (F_is_integer [v0] h) (y_is_integer u0) := by
  obtain ⟨rfl, cv0⟩ := q0
  refine fn_of (fun _ e => nomatch e) rfl ?_
  unfold m_is_integer
  exact (by exact (xb_ret (by exact (xe_and (by exact (xe_1 (op_isi _ _) (by exact (xe_v (i := 0) rfl cv0)))) (by exact (xe_not (by exact (xe_1 (op_isi _ _) (by exact (xe_v (i := 0) rfl cv0))))))))))
noncomputable def y_is_between (v0 : D) (v1 : D) (v2 : D) : Y D := fnY
  (YS.ret (((Y.pure v0).bind fun x1 => y_is_integer x1).bind fun x7 => (isY x7).bind fun k8 => if k8 = true then ((Y.pure v1).bind fun x2 => (Y.pure v0).bind fun x3 => (Y.ofR (leD x2 x3 [])).bind fun x4 => (isY x4).bind fun x5 => if x5 = true then (Y.pure v2).bind fun x6 => Y.ofR (leD x3 x6 []) else Y.pure (.bl false)) else Y.pure (.bl false)))
theorem ab_is_between (h : Hh) (v0 u0 : D) (v1 u1 : D) (v2 u2 : D) (q0 : VB false none h v0 u0) (q1 : VB false none h v1 u1) (q2 : VB false none h v2 u2) : AE none h (VB false none) (F_is_between [v0, v1, v2] h) (y_is_between u0 u1 u2) := by
  obtain ⟨rfl, cv0⟩ := q0
  obtain ⟨rfl, cv1⟩ := q1
  obtain ⟨rfl, cv2⟩ := q2
  refine fn_of (fun _ e => nomatch e) rfl ?_
  unfold m_is_between
  exact (by exact (xb_ret (by exact (xe_and (by exact (xe_f1 ab_is_integer (by exact (xe_v (i := 0) rfl cv0)))) (by exact (xe_ch op_le op_le (by exact (xe_v (i := 1) rfl cv1)) (by exact (xe_v (i := 0) rfl cv0)) (by exact (xe_v (i := 2) rfl cv2))))))))
noncomputable def y_are_bits (v0 : D) (v1 : D) : Y D := fnY
  (YS.ret (((Y.pure v1).bind fun x1 => Y.ofR (isiD [cNet] (.bi "tuple") x1 [])).bind fun x13 => (isY x13).bind fun k14 => if k14 = true then ((((Y.pure v1).bind fun x2 => Y.ofR (lenD [x2] [])).bind fun x3 => (Y.pure v0).bind fun x4 => Y.ofR (eqD x3 x4 [])).bind fun x11 => (isY x11).bind fun k12 => if k12 = true then ((((Y.pure v1).bind rowY).bind fun l10 => lcY l10 fun x6 => (elY (Y.pure true) ((Y.pure x6).bind fun x7 => (Y.pure (.int 0)).bind fun x8 => (Y.pure (.int 1)).bind fun x9 => y_is_between x7 x8 x9))).bind fun x5 => Y.ofR (allL x5 [])) else Y.pure (.bl false)) else Y.pure (.bl false)))
theorem ab_are_bits (h : Hh) (v0 u0 : D) (v1 u1 : D) (q0 : VB false none h v0 u0) (q1 : VB false none h v1 u1) : AE none h (VB false none) (F_are_bits [v0, v1] h) (y_are_bits u0 u1) := by
  obtain ⟨rfl, cv0⟩ := q0
  obtain ⟨rfl, cv1⟩ := q1
  refine fn_of (fun _ e => nomatch e) rfl ?_
  unfold m_are_bits
  exact (by exact (xb_ret (by exact (xe_and (by exact (xe_1 (op_isi _ _) (by exact (xe_v (i := 1) rfl cv1)))) (xe_and (by exact (xe_2 op_eq (by exact (xe_b (F := lenD) op_len (by exact (xe_v (i := 1) rfl cv1)))) (by exact (xe_v (i := 0) rfl cv0)))) (by exact (xe_uf ol_all (by exact (xf_lc (fun _ hq => absurd hq List.not_mem_nil) (by exact (by exact (xr_e (by exact (xe_v (i := 1) rfl cv1))))) fun x6 cx6 => (by exact el_v (fun _ => rfl) xt_y (by exact (xe_f3 ab_is_between (by exact (xe_v (i := 2) rfl cx6)) (by exact (xe_c trivial)) (by exact (xe_c trivial))))))))))))))
noncomputable def y_Net (v1 : D) : Y D := mkY cNet
  (YS.seq (σ := Unit) (YS.get (((((Y.pure v1).bind fun x1 => Y.ofR (isiD [cNet] (.bi "tuple") x1 [])).bind isY).bind fun k2 => Y.pure !k2).bind fun k10 => if k10 = true then Y.pure true else ((((Y.pure (.int 1)).bind fun x4 => ((Y.pure v1).bind fun x3 => Y.ofR (lenD [x3] [])).bind fun x5 => (Y.ofR (leD x4 x5 [])).bind fun x6 => (isY x6).bind fun x7 => if x7 = true then (Y.pure (.int 7)).bind fun x8 => Y.ofR (leD x5 x8 []) else Y.pure (.bl false)).bind isY).bind fun k9 => Y.pure !k9)) fun k11 => if k11 = true then YS.bad else (YS.nx ())) fun s16 => (YS.get (((Y.pure v1).bind rowY).bind fun l22 => Y.pure (enumL 0 l22)) fun l64 => YS.seq (σ := Unit) (forY l64 () fun x35 s29 => (us2 x35 fun x38 x39 => (YS.get (((((Y.pure (.tup (([1, 2, 4, 8, 16, 32, 64, 128] : List Int).map D.int))).bind fun x41 => ((Y.pure v1).bind fun x40 => Y.ofR (lenD [x40] [])).bind fun x42 => Y.ofR (ixA x41 x42 [])).bind fun x43 => (Y.pure x39).bind fun x44 => y_are_bits x43 x44).bind isY).bind fun k45 => Y.pure !k45) fun k46 => if k46 = true then YS.bad else (YS.nx ())))) fun s53 => (YS.get (Y.pure v1) fun x61 => (YS.get ((Y.pure v1).bind fun x62 => Y.ofR (lenD [x62] [])) fun x63 => (YS.nx (putFD "many" x63 (putFD "tables" x61 [])))))))
theorem ab_Net (h : Hh) (v1 u1 : D) (q1 : VB false none h v1 u1) : AE none h (VB false none) (mkZ cNet F_Netdd_initdd [v1] h) (y_Net u1) := by
  obtain ⟨rfl, cv1⟩ := q1
  refine mk_of rfl fun q => ?_
  unfold m_Netdd_initdd
  exact (by exact (xb_seq (L := (fun (s16 : Unit) (S18 : Sg) (h19 : Hh) => S18 = [some (.ref q), some v1, none, none] ∧ HI ⟨none, h, [(q, .ins cNet [])]⟩ h19)) (xb_if (by exact (xt_or (by exact (xt_not (by exact (xt_v (by exact (xe_1 (op_isi _ _) (by exact (xe_v (i := 1) rfl cv1)))))))) (by exact (xt_not (by exact (xt_v (by exact (xe_ch op_le op_le (by exact (xe_c trivial)) (by exact (xe_b (F := lenD) op_len (by exact (xe_v (i := 1) rfl cv1)))) (by exact (xe_c trivial))))))))))
 (by exact xb_bad)
 (by exact (xb_nx fun h H => ⟨rfl, H⟩)))
 (fun s16 S20 h21 hK => by obtain ⟨rfl, H17⟩ := hK; exact XB.go H17 (by exact (xb_for (L := (fun (s29 : Unit) (S33 : Sg) (h34 : Hh) => ∃ (o31 : Option D), ∃ (o32 : Option D), S33 = [some (.ref q), some v1, o31, o32] ∧ HI ⟨none, h, [(q, .ins cNet [])]⟩ h34)) (by exact (xr_en (by exact (xr_e (by exact (xe_v (i := 1) rfl cv1)))))) (fun h H => ⟨none, none, rfl, H⟩) (fun _ _ _ ⟨_, _, _, H⟩ => H.fx) (fun _ _ _ _ _ hq => absurd hq List.not_mem_nil)
 (fun x35 s29 S36 h37 cx35 hK => by obtain ⟨o31, o32, rfl, H30⟩ := hK; exact (by exact ab_us2_ cx35 fun x38 x39 cx38 cx39 => by exact (by exact ab_to rfl H30 (by exact (xb_if (by exact (xt_not (by exact (xt_v (by exact (xe_f2 ab_are_bits (by exact (xe_2 op_ixA (by exact (xe_c (cl_ints _))) (by exact (xe_b (F := lenD) op_len (by exact (xe_v (i := 1) rfl cv1)))))) (by exact (xe_v (i := 3) rfl cx39))))))))
 (by exact xb_bad)
 (by exact (xb_nx fun h H => ⟨(some x38), (some x39), rfl, H⟩)))))))
 (fun s53 S59 h60 hK => by obtain ⟨o55, o56, rfl, H54⟩ := hK; exact XB.go H54 (by exact (xb_fld (i := 0) (j := 0) rfl rfl (by decide) rfl (by exact (xe_v (i := 1) rfl cv1)) fun x61 cx61 => (by exact (xb_one (xb_fld (i := 0) (j := 0) rfl rfl (by decide) rfl (by exact (xe_b (F := lenD) op_len (by exact (xe_v (i := 1) rfl cv1)))) fun x63 cx63 => (by exact (xb_nx fun h H => ⟨H, (clF_put (clF_put clF_nil cx61) cx63)⟩)))))))))))))
noncomputable def y__law_number (v0 : D) : Y D := fnY
  (YS.get (Y.pure (.int 0)) fun x1 => (YS.get (((Y.pure v0).bind fun x2 => Y.ofR (revD x2 [])).bind rowY) fun l37 => YS.seq (σ := D) (forY l37 x1 fun x15 s9 => (YS.get (((Y.pure (.int 2)).bind fun x18 => (Y.pure s9).bind fun x19 => Y.ofR (mulD x18 x19 [])).bind fun x20 => (Y.pure x15).bind fun x21 => Y.ofR (addD x20 x21 [])) fun x22 => (YS.nx x22))) fun s29 => (YS.ret (Y.pure s29))))
theorem ab__law_number (h : Hh) (v0 u0 : D) (q0 : VB false none h v0 u0) : AE none h (VB false none) (F__law_number [v0] h) (y__law_number u0) := by
  obtain ⟨rfl, cv0⟩ := q0
  refine fn_of (fun _ e => nomatch e) rfl ?_
  unfold m__law_number
  exact (by exact (xb_set (i := 1) (by exact (xe_c trivial)) fun x1 cx1 => (by exact (xb_for (L := (fun (s9 : D) (S13 : Sg) (h14 : Hh) => ∃ (o11 : Option D), S13 = [some v0, some s9, o11] ∧ HI ⟨none, h, []⟩ h14 ∧ s9.cl)) (by exact (by exact (xr_e (by exact (xe_1 op_rev (by exact (xe_v (i := 0) rfl cv0))))))) (fun h H => ⟨none, rfl, H, cx1⟩) (fun _ _ _ ⟨_, _, H, _⟩ => H.fx) (fun _ _ _ _ _ hq => absurd hq List.not_mem_nil)
 (fun x15 s9 S16 h17 cx15 hK => by obtain ⟨o11, rfl, H10, c12⟩ := hK; exact (by exact ab_to rfl H10 (by exact (xb_one (xb_set (i := 1) (by exact (xe_2 op_add (by exact (xe_2 op_mul (by exact (xe_c trivial)) (by exact (xe_v (i := 1) rfl c12)))) (by exact (xe_v (i := 2) rfl cx15)))) fun x22 cx22 => (by exact (xb_nx fun h H => ⟨(some x15), rfl, H, cx22⟩)))))))
 (fun s29 S35 h36 hK => by obtain ⟨o31, rfl, H30, c32⟩ := hK; exact XB.go H30 (by exact (xb_ret (by exact (xe_v (i := 1) rfl c32)))))))))
noncomputable def y__law_over (v0 : D) (v1 : D) : Y D := fnY
  (YS.ret ((((Y.pure v0).bind fun x1 => (Y.pure none).bind fun l2 => ((Y.pure v1).bind oY).bind fun u3 => cutY x1 l2 u3).bind fun x11 => ((((Y.pure (.int 1)).bind fun x6 => ((Y.pure v0).bind fun x4 => (Y.pure v1).bind fun x5 => Y.ofR (ixA x4 x5 [])).bind fun x7 => Y.ofR (subD x6 x7 [])).bind fun x8 => (Y.pure []).bind fun x9 => Y.pure (x8 :: x9)).bind fun x10 => Y.pure (.tup x10)).bind fun x12 => Y.ofR (addD x11 x12 [])).bind fun x18 => ((Y.pure v0).bind fun x15 => (((Y.pure v1).bind fun x13 => (Y.pure (.int 1)).bind fun x14 => Y.ofR (addD x13 x14 [])).bind oY).bind fun l16 => (Y.pure none).bind fun u17 => cutY x15 l16 u17).bind fun x19 => Y.ofR (addD x18 x19 [])))
theorem ab__law_over (h : Hh) (v0 u0 : D) (v1 u1 : D) (q0 : VB false none h v0 u0) (q1 : VB false none h v1 u1) : AE none h (VB false none) (F__law_over [v0, v1] h) (y__law_over u0 u1) := by
  obtain ⟨rfl, cv0⟩ := q0
  obtain ⟨rfl, cv1⟩ := q1
  refine fn_of (fun _ e => nomatch e) rfl ?_
  unfold m__law_over
  exact (by exact (xb_ret (by exact (xe_2 op_add (by exact (xe_2 op_add (by exact (xe_sl (by exact (xe_v (i := 0) rfl cv0)) (by exact xo_n) (by exact (xo_s (by exact (xe_v (i := 1) rfl cv1)))))) (by exact (xe_tup (by exact (xl_cons (by exact (xe_2 op_sub (by exact (xe_c trivial)) (by exact (xe_2 op_ixA (by exact (xe_v (i := 0) rfl cv0)) (by exact (xe_v (i := 1) rfl cv1)))))) xl_nil)))))) (by exact (xe_sl (by exact (xe_v (i := 0) rfl cv0)) (by exact (xo_s (by exact (xe_2 op_add (by exact (xe_v (i := 1) rfl cv1)) (by exact (xe_c trivial)))))) (by exact xo_n)))))))
noncomputable def y__law_local (v0 : D) (v1 : D) : Y D := fnY
  (YS.get (Y.pure []) fun l1 => YS.get ((Y.pure v1).bind fun x3 => y__law_number x3) fun x4 => (YS.get (((Y.pure v0).bind fun x6 => Y.ofR (lenD [x6] [])).bind r1Y) fun l127 => YS.seq (σ := (List D)) (forY l127 l1 fun x25 s16 => (YS.get (((Y.pure v1).bind fun x28 => (Y.pure x25).bind fun x29 => y__law_over x28 x29).bind fun x30 => y__law_number x30) fun x31 => (YS.get (((Y.pure v0).bind rowY).bind fun l32 => Y.pure (enumL 0 l32)) fun l107 => YS.seq (σ := (List D)) (forY l107 s16 fun x47 s40 => (us2 x47 fun x50 x51 => (YS.get ((((Y.pure x51).bind fun x52 => (Y.pure x4).bind fun x53 => Y.ofR (ixA x52 x53 [])).bind fun x56 => ((Y.pure x51).bind fun x54 => (Y.pure x31).bind fun x55 => Y.ofR (ixA x54 x55 [])).bind fun x57 => Y.ofR (neD x56 x57 [])).bind isY) fun k58 => if k58 = true then (YS.get (((Y.pure x25).bind fun x71 => ((Y.pure x50).bind fun x69 => ((((((Y.pure x51).bind fun x59 => (Y.pure x4).bind fun x60 => Y.ofR (ixA x59 x60 [])).bind fun x63 => ((Y.pure v1).bind fun x61 => (Y.pure x25).bind fun x62 => Y.ofR (ixA x61 x62 [])).bind fun x64 => Y.ofR (eqD x63 x64 [])).bind isY).bind fun k66 => if k66 = true then (Y.pure (.int 1)) else ((Y.pure (.int 1)).bind fun x65 => Y.ofR (negD x65 []))).bind fun x67 => (Y.pure []).bind fun x68 => Y.pure (x67 :: x68)).bind fun x70 => Y.pure (x69 :: x70)).bind fun x72 => Y.pure (x71 :: x72)).bind fun x73 => Y.pure (.tup x73)) fun x74 => YS.need (s40.length < big) (YS.nx (s40 ++ [x74]))) else (YS.nx s40)))) fun s89 => (YS.nx s89)))) fun s115 => (YS.ret (((Y.pure (.fz s115)).bind sortY).bind fun x126 => Y.pure (.fz x126)))))
theorem ab__law_local (h : Hh) (v0 u0 : D) (v1 u1 : D) (q0 : VB false none h v0 u0) (q1 : VB false none h v1 u1) : AE none h (VB false none) (F__law_local [v0, v1] h) (y__law_local u0 u1) := by
  obtain ⟨rfl, cv0⟩ := q0
  obtain ⟨rfl, cv1⟩ := q1
  refine fn_of (fun _ e => nomatch e) rfl ?_
  unfold m__law_local
  exact (by exact (xb_parV (i := 2) (j := 3) (xv_l (by exact (xf_disp (by exact xl_nil)))) (fun l1 n2 cl1 => (xv_c (by exact (xe_f1 ab__law_number (by exact (xe_v (i := 1) rfl cv1)))))) fun l1 n2 x4 n5 cl1 cx4 => (by exact (xb_for (L := (fun (s16 : (List D)) (S23 : Sg) (h24 : Hh) => ∃ (o19 : Option D), ∃ (o20 : Option D), ∃ (o21 : Option D), ∃ (o22 : Option D), S23 = [some v0, some v1, some (.ref n2), some x4, o19, o22, o20, o21] ∧ HI ⟨none, h, [(n2, .lst s16)]⟩ h24 ∧ cls s16)) (by exact (xr_r1 (by exact (xe_b (F := lenD) op_len (by exact (xe_v (i := 0) rfl cv0)))))) (fun h H => ⟨none, none, none, none, rfl, H, cl1⟩) (fun _ _ _ ⟨_, _, _, _, _, H, _⟩ => H.fx) (fun _ _ _ _ _ hq => absurd hq List.not_mem_nil)
 (fun x25 s16 S26 h27 cx25 hK => by obtain ⟨o19, o20, o21, o22, rfl, H17, c18⟩ := hK; exact (by exact ab_to rfl H17 (by exact (xb_set (i := 5) (by exact (xe_f1 ab__law_number (by exact (xe_f2 ab__law_over (by exact (xe_v (i := 1) rfl cv1)) (by exact (xe_v (i := 4) rfl cx25)))))) fun x31 cx31 => (by exact (xb_one (xb_for (L := (fun (s40 : (List D)) (S45 : Sg) (h46 : Hh) => ∃ (o43 : Option D), ∃ (o44 : Option D), S45 = [some v0, some v1, some (.ref n2), some x4, some x25, some x31, o43, o44] ∧ HI ⟨none, h, [(n2, .lst s40)]⟩ h46 ∧ cls s40)) (by exact (xr_en (by exact (xr_e (by exact (xe_v (i := 0) rfl cv0)))))) (fun h H => ⟨o20, o21, rfl, H, c18⟩) (fun _ _ _ ⟨_, _, _, H, _⟩ => H.fx) (fun _ _ _ _ _ hq => absurd hq List.not_mem_nil)
 (fun x47 s40 S48 h49 cx47 hK => by obtain ⟨o43, o44, rfl, H41, c42⟩ := hK; exact (by exact ab_us2_ cx47 fun x50 x51 cx50 cx51 => by exact (by exact ab_to rfl H41 (by exact (xb_if (by exact (xt_v (by exact (xe_2 op_ne (by exact (xe_2 op_ixA (by exact (xe_v (i := 7) rfl cx51)) (by exact (xe_v (i := 3) rfl cx4)))) (by exact (xe_2 op_ixA (by exact (xe_v (i := 7) rfl cx51)) (by exact (xe_v (i := 5) rfl cx31))))))))
 (by exact (xb_one (xb_app (i := 2) (j := 0) rfl rfl (by exact (xe_tup (by exact (xl_cons (by exact (xe_v (i := 4) rfl cx25)) (xl_cons (by exact (xe_v (i := 6) rfl cx50)) (xl_cons (by exact (xe_if (by exact (xt_v (by exact (xe_2 op_eq (by exact (xe_2 op_ixA (by exact (xe_v (i := 7) rfl cx51)) (by exact (xe_v (i := 3) rfl cx4)))) (by exact (xe_2 op_ixA (by exact (xe_v (i := 1) rfl cv1)) (by exact (xe_v (i := 4) rfl cx25)))))))) (by exact (xe_c trivial)) (by exact (xe_1 op_neg (by exact (xe_c trivial)))))) xl_nil)))))) fun x74 cx74 => (by exact (xb_nx fun h H => ⟨(some x50), (some x51), rfl, H, (cls.app c42 (cls.one cx74))⟩)))))
 (by exact (xb_nx fun h H => ⟨(some x50), (some x51), rfl, H, c42⟩)))))))
 (fun s89 S96 h97 hK => by obtain ⟨o92, o93, rfl, H90, c91⟩ := hK; exact XB.go H90 (by exact (xb_nx fun h H => ⟨(some x25), o92, o93, (some x31), rfl, H, c91⟩))))))))))
 (fun s115 S124 h125 hK => by obtain ⟨o118, o119, o120, o121, rfl, H116, c117⟩ := hK; exact XB.go H116 (by exact (xb_ret (by exact (xe_z (by exact (xf_sort (by exact (xe_ml (i := 2) (j := 0) rfl rfl c117)))))))))))))
noncomputable def y__law_web (v0 : D) : Y D := fnY
  (YS.get (Y.pure []) fun m1 => (YS.get ((((Y.pure v0).bind fun x3 => Y.ofR (lenD [x3] [])).bind fun x4 => y__law_states x4).bind rowY) fun l48 => YS.seq (σ := (List (D × D))) (forY l48 m1 fun x17 s11 => (YS.get (((((((Y.pure v0).bind fun x20 => (Y.pure x17).bind fun x21 => y__law_local x20 x21).bind rowY).bind fun l28 => lcY l28 fun x22 => (elY (Y.pure true) (((Y.pure x22).bind fun x25 => ((Y.pure (.bl true)).bind fun x23 => (Y.pure []).bind fun x24 => Y.pure (x23 :: x24)).bind fun x26 => Y.pure (x25 :: x26)).bind fun x27 => Y.pure (.tup x27)))).bind fun x29 => Y.pure (.fz x29)).bind dictPY).bind fun x30 => Y.pure (.fd (x30.map (·.1)) (x30.map (·.2)))) fun x31 => updY s11 x31 fun m32 => (YS.nx m32))) fun s39 => (YS.ret (((Y.pure (.fd (s39.map (·.1)) (s39.map (·.2)))).bind sortY).bind fun x47 => Y.pure (.fz x47)))))
theorem ab__law_web (h : Hh) (v0 u0 : D) (q0 : VB false none h v0 u0) : AE none h (VB false none) (F__law_web [v0] h) (y__law_web u0) := by
  obtain ⟨rfl, cv0⟩ := q0
  refine fn_of (fun _ e => nomatch e) rfl ?_
  unfold m__law_web
  exact (by exact (xb_setD (i := 1) (by exact xk_0) fun m1 n2 cm1 => (by exact (xb_for (L := (fun (s11 : (List (D × D))) (S15 : Sg) (h16 : Hh) => ∃ (o14 : Option D), S15 = [some v0, some (.ref n2), o14, none] ∧ HI ⟨none, h, [(n2, .dic s11)]⟩ h16 ∧ (∀ p ∈ s11, p.1.cl ∧ p.2.cl))) (by exact (by exact (xr_e (by exact (xe_f1 ab__law_states (by exact (xe_b (F := lenD) op_len (by exact (xe_v (i := 0) rfl cv0))))))))) (fun h H => ⟨none, rfl, H, cm1⟩) (fun _ _ _ ⟨_, _, H, _⟩ => H.fx) (fun _ _ _ _ _ hq => absurd hq List.not_mem_nil)
 (fun x17 s11 S18 h19 cx17 hK => by obtain ⟨o14, rfl, H12, c13⟩ := hK; exact (by exact ab_to rfl H12 (by exact (xb_one (xb_upd (i := 1) (j := 0) rfl rfl c13 (by exact (xe_dz (by exact (xk_p (by exact (xe_z (by exact (xf_lc (fun _ hq => absurd hq List.not_mem_nil) (by exact (by exact (xr_e (by exact (xe_f2 ab__law_local (by exact (xe_v (i := 0) rfl cv0)) (by exact (xe_v (i := 2) rfl cx17))))))) fun x22 cx22 => (by exact el_v (fun _ => rfl) xt_y (by exact (xe_tup (by exact (xl_cons (by exact (xe_v (i := 3) rfl cx22)) (xl_cons (by exact (xe_c trivial)) xl_nil)))))))))))))) fun m32 cm32 => (by exact (xb_nx fun h H => ⟨(some x17), rfl, H, cm32⟩)))))))
 (fun s39 S45 h46 hK => by obtain ⟨o42, rfl, H40, c41⟩ := hK; exact XB.go H40 (by exact (xb_ret (by exact (xe_z (by exact (xf_sort (by exact (xe_md (i := 1) (j := 0) rfl rfl c41)))))))))))))
noncomputable def y_check_net (v0 : D) : Y D := fnY
  (YS.get ((((Y.pure v0).bind fun x1 => Y.ofR (isiD [cNet] (.own cNet) x1 [])).bind isY).bind fun k2 => Y.pure !k2) fun k3 => if k3 = true then YS.bad else (YS.nx ()))
theorem ab_check_net (h : Hh) (v0 u0 : D) (q0 : VB false none h v0 u0) : AE none h (VB false none) (F_check_net [v0] h) (y_check_net u0) := by
  obtain ⟨rfl, cv0⟩ := q0
  refine fn_of (fun _ e => nomatch e) rfl ?_
  unfold m_check_net
  exact (by exact (xb_if (by exact (xt_not (by exact (xt_v (by exact (xe_1 (op_isi _ _) (by exact (xe_v (i := 0) rfl cv0))))))))
 (by exact xb_bad)
 (by exact (xb_nx fun h H => H.fx))))
noncomputable def y_check_state (v0 : D) (v1 : D) : Y D := fnY
  (YS.get ((Y.pure v0).bind fun x1 => y_check_net x1) fun x2 => (YS.get (((((Y.pure v0).bind fun x3 => Y.ofR (fldD [cNet] "many" x3 [])).bind fun x4 => (Y.pure v1).bind fun x5 => y_are_bits x4 x5).bind isY).bind fun k6 => Y.pure !k6) fun k7 => if k7 = true then YS.bad else (YS.nx ())))
theorem ab_check_state (h : Hh) (v0 u0 : D) (v1 u1 : D) (q0 : VB false none h v0 u0) (q1 : VB false none h v1 u1) : AE none h (VB false none) (F_check_state [v0, v1] h) (y_check_state u0 u1) := by
  obtain ⟨rfl, cv0⟩ := q0
  obtain ⟨rfl, cv1⟩ := q1
  refine fn_of (fun _ e => nomatch e) rfl ?_
  unfold m_check_state
  exact (by exact (xb_drop (by exact (xe_f1 ab_check_net (by exact (xe_v (i := 0) rfl cv0)))) fun x2 => (by exact (xb_if (by exact (xt_not (by exact (xt_v (by exact (xe_f2 ab_are_bits (by exact (xe_1 (op_fld _ _) (by exact (xe_v (i := 0) rfl cv0)))) (by exact (xe_v (i := 1) rfl cv1))))))))
 (by exact xb_bad)
 (by exact (xb_nx fun h H => H.fx))))))
noncomputable def y_bit_of (v0 : D) (v1 : D) : Y D := fnY
  (YS.ret (((Y.pure v0).bind fun x3 => ((Y.pure (.tup (([1, 2, 4, 8, 16, 32, 64, 128] : List Int).map D.int))).bind fun x1 => (Y.pure v1).bind fun x2 => Y.ofR (ixA x1 x2 [])).bind fun x4 => Y.ofR (fdivD x3 x4 [])).bind fun x5 => (Y.pure (.int 2)).bind fun x6 => Y.ofR (modD x5 x6 [])))
theorem ab_bit_of (h : Hh) (v0 u0 : D) (v1 u1 : D) (q0 : VB false none h v0 u0) (q1 : VB false none h v1 u1) : AE none h (VB false none) (F_bit_of [v0, v1] h) (y_bit_of u0 u1) := by
  obtain ⟨rfl, cv0⟩ := q0
  obtain ⟨rfl, cv1⟩ := q1
  refine fn_of (fun _ e => nomatch e) rfl ?_
  unfold m_bit_of
  exact (by exact (xb_ret (by exact (xe_2 op_mod (by exact (xe_2 op_fdiv (by exact (xe_v (i := 0) rfl cv0)) (by exact (xe_2 op_ixA (by exact (xe_c (cl_ints _))) (by exact (xe_v (i := 1) rfl cv1)))))) (by exact (xe_c trivial))))))
noncomputable def y_signs_at (v0 : D) (v1 : D) : Y D := fnY
  (YS.get (Y.pure []) fun m1 => (YS.get (((Y.pure v0).bind fun x3 => Y.ofR (fldD [cNet] "many" x3 [])).bind r1Y) fun l145 => YS.seq (σ := (List (D × D))) (forY l145 m1 fun x26 s15 => (YS.get ((Y.pure v1).bind fun x29 => (Y.pure x26).bind fun x30 => y_bit_of x29 x30) fun x31 => (YS.get ((Y.pure v1).bind fun x36 => ((Y.pure x31).bind fun x34 => ((Y.pure (.tup (([1, 2, 4, 8, 16, 32, 64, 128] : List Int).map D.int))).bind fun x32 => (Y.pure x26).bind fun x33 => Y.ofR (ixA x32 x33 [])).bind fun x35 => Y.ofR (mulD x34 x35 [])).bind fun x37 => Y.ofR (subD x36 x37 [])) fun x38 => (YS.get ((((Y.pure v0).bind fun x39 => Y.ofR (fldD [cNet] "tables" x39 [])).bind rowY).bind fun l40 => Y.pure (enumL 0 l40)) fun l123 => YS.seq (σ := (List (D × D))) (forY l123 s15 fun x57 s49 => (us2 x57 fun x60 x61 => (YS.get (((Y.pure x61).bind fun x66 => ((Y.pure x38).bind fun x64 => ((Y.pure (.tup (([1, 2, 4, 8, 16, 32, 64, 128] : List Int).map D.int))).bind fun x62 => (Y.pure x26).bind fun x63 => Y.ofR (ixA x62 x63 [])).bind fun x65 => Y.ofR (addD x64 x65 [])).bind fun x67 => Y.ofR (ixA x66 x67 [])).bind fun x70 => ((Y.pure x61).bind fun x68 => (Y.pure x38).bind fun x69 => Y.ofR (ixA x68 x69 [])).bind fun x71 => Y.ofR (subD x70 x71 [])) fun x72 => (YS.get (((Y.pure x72).bind fun x73 => (Y.pure (.int 0)).bind fun x74 => Y.ofR (neD x73 x74 [])).bind isY) fun k75 => if k75 = true then (YS.get (Y.pure (.bl true)) fun x83 => YS.get (((Y.pure x26).bind fun x80 => ((Y.pure x60).bind fun x78 => ((Y.pure x72).bind fun x76 => (Y.pure []).bind fun x77 => Y.pure (x76 :: x77)).bind fun x79 => Y.pure (x78 :: x79)).bind fun x81 => Y.pure (x80 :: x81)).bind fun x82 => Y.pure (.tup x82)) fun x84 => YS.need (fitK x84 s49 = true ∧ s49.length < big) (YS.nx (putK x84 x83 s49))) else (YS.nx s49))))) fun s102 => (YS.nx s102))))) fun s132 => (YS.ret (Y.pure (.fd (s132.map (·.1)) (s132.map (·.2)))))))
theorem ab_signs_at (h : Hh) (v0 u0 : D) (v1 u1 : D) (q0 : VB false none h v0 u0) (q1 : VB false none h v1 u1) : AE none h (VB false none) (F_signs_at [v0, v1] h) (y_signs_at u0 u1) := by
  obtain ⟨rfl, cv0⟩ := q0
  obtain ⟨rfl, cv1⟩ := q1
  refine fn_of (fun _ e => nomatch e) rfl ?_
  unfold m_signs_at
  exact (by exact (xb_setD (i := 2) (by exact xk_0) fun m1 n2 cm1 => (by exact (xb_for (L := (fun (s15 : (List (D × D))) (S24 : Sg) (h25 : Hh) => ∃ (o17 : Option D), ∃ (o18 : Option D), ∃ (o20 : Option D), ∃ (o21 : Option D), ∃ (o22 : Option D), ∃ (o23 : Option D), S24 = [some v0, some v1, some (.ref n2), o20, o17, o21, o22, o23, o18] ∧ HI ⟨none, h, [(n2, .dic s15)]⟩ h25 ∧ (∀ p ∈ s15, p.1.cl ∧ p.2.cl))) (by exact (xr_r1 (by exact (xe_1 (op_fld _ _) (by exact (xe_v (i := 0) rfl cv0)))))) (fun h H => ⟨none, none, none, none, none, none, rfl, H, cm1⟩) (fun _ _ _ ⟨_, _, _, _, _, _, _, H, _⟩ => H.fx) (fun _ _ _ _ _ hq => absurd hq List.not_mem_nil)
 (fun x26 s15 S27 h28 cx26 hK => by obtain ⟨o17, o18, o20, o21, o22, o23, rfl, H16, c19⟩ := hK; exact (by exact ab_to rfl H16 (by exact (xb_set (i := 4) (by exact (xe_f2 ab_bit_of (by exact (xe_v (i := 1) rfl cv1)) (by exact (xe_v (i := 3) rfl cx26)))) fun x31 cx31 => (by exact (xb_set (i := 5) (by exact (xe_2 op_sub (by exact (xe_v (i := 1) rfl cv1)) (by exact (xe_2 op_mul (by exact (xe_v (i := 4) rfl cx31)) (by exact (xe_2 op_ixA (by exact (xe_c (cl_ints _))) (by exact (xe_v (i := 3) rfl cx26)))))))) fun x38 cx38 => (by exact (xb_one (xb_for (L := (fun (s49 : (List (D × D))) (S55 : Sg) (h56 : Hh) => ∃ (o51 : Option D), ∃ (o53 : Option D), ∃ (o54 : Option D), S55 = [some v0, some v1, some (.ref n2), some x26, some x31, some x38, o53, o54, o51] ∧ HI ⟨none, h, [(n2, .dic s49)]⟩ h56 ∧ (∀ p ∈ s49, p.1.cl ∧ p.2.cl))) (by exact (xr_en (by exact (xr_e (by exact (xe_1 (op_fld _ _) (by exact (xe_v (i := 0) rfl cv0)))))))) (fun h H => ⟨o18, o22, o23, rfl, H, c19⟩) (fun _ _ _ ⟨_, _, _, _, H, _⟩ => H.fx) (fun _ _ _ _ _ hq => absurd hq List.not_mem_nil)
 (fun x57 s49 S58 h59 cx57 hK => by obtain ⟨o51, o53, o54, rfl, H50, c52⟩ := hK; exact (by exact ab_us2_ cx57 fun x60 x61 cx60 cx61 => by exact (by exact ab_to rfl H50 (by exact (xb_set (i := 8) (by exact (xe_2 op_sub (by exact (xe_2 op_ixA (by exact (xe_v (i := 7) rfl cx61)) (by exact (xe_2 op_add (by exact (xe_v (i := 5) rfl cx38)) (by exact (xe_2 op_ixA (by exact (xe_c (cl_ints _))) (by exact (xe_v (i := 3) rfl cx26)))))))) (by exact (xe_2 op_ixA (by exact (xe_v (i := 7) rfl cx61)) (by exact (xe_v (i := 5) rfl cx38)))))) fun x72 cx72 => (by exact (xb_if (by exact (xt_v (by exact (xe_2 op_ne (by exact (xe_v (i := 8) rfl cx72)) (by exact (xe_c trivial))))))
 (by exact (xb_one (xb_subD (i := 2) (j := 0) rfl rfl c52 (by exact (xe_c trivial)) (by exact (xe_tup (by exact (xl_cons (by exact (xe_v (i := 3) rfl cx26)) (xl_cons (by exact (xe_v (i := 6) rfl cx60)) (xl_cons (by exact (xe_v (i := 8) rfl cx72)) xl_nil)))))) fun x83 x84 cx83 cx84 => (by exact (xb_nx fun h H => ⟨(some x72), (some x60), (some x61), rfl, H, (putK_cl cx84 cx83 c52)⟩)))))
 (by exact (xb_nx fun h H => ⟨(some x72), (some x60), (some x61), rfl, H, c52⟩)))))))))
 (fun s102 S110 h111 hK => by obtain ⟨o104, o106, o107, rfl, H103, c105⟩ := hK; exact XB.go H103 (by exact (xb_nx fun h H => ⟨(some x31), o104, (some x26), (some x38), o106, o107, rfl, H, c105⟩))))))))))))
 (fun s132 S143 h144 hK => by obtain ⟨o134, o135, o137, o138, o139, o140, rfl, H133, c136⟩ := hK; exact XB.go H133 (by exact (xb_retD (i := 2) (j := 0) rfl rfl c136)))))))
noncomputable def y_number_by (v0 : D) : Y D := fnY
  (YS.ret (((((Y.pure v0).bind rowY).bind fun l2 => Y.pure (enumL 0 l2)).bind fun l10 => lcY l10 fun x3 => (un2 x3 fun x4 x5 => (elY (((Y.pure x5).bind fun x6 => (Y.pure (.int 1)).bind fun x7 => Y.ofR (eqD x6 x7 [])).bind isY) ((Y.pure (.tup (([1, 2, 4, 8, 16, 32, 64, 128] : List Int).map D.int))).bind fun x8 => (Y.pure x4).bind fun x9 => Y.ofR (ixA x8 x9 []))))).bind fun x1 => Y.ofR (sumL x1 [])))
theorem ab_number_by (h : Hh) (v0 u0 : D) (q0 : VB false none h v0 u0) : AE none h (VB false none) (F_number_by [v0] h) (y_number_by u0) := by
  obtain ⟨rfl, cv0⟩ := q0
  refine fn_of (fun _ e => nomatch e) rfl ?_
  unfold m_number_by
  exact (by exact (xb_ret (by exact (xe_uf ol_sum (by exact (xf_lc (fun _ hq => absurd hq List.not_mem_nil) (by exact (xr_en (by exact (xr_e (by exact (xe_v (i := 0) rfl cv0)))))) fun x3 cx3 => (by exact xg_un2_ cx3 fun x4 x5 cx4 cx5 => by exact (by exact el_v (fun _ => rfl) (by exact (xt_v (by exact (xe_2 op_eq (by exact (xe_v (i := 2) rfl cx5)) (by exact (xe_c trivial)))))) (by exact (xe_2 op_ixA (by exact (xe_c (cl_ints _))) (by exact (xe_v (i := 1) rfl cx4))))))))))))
noncomputable def y_local_web (v0 : D) (v1 : D) : Y D := fnY
  (YS.get ((Y.pure v0).bind fun x1 => (Y.pure v1).bind fun x2 => y_check_state x1 x2) fun x3 => (YS.ret ((((Y.pure v0).bind fun x5 => ((Y.pure v1).bind fun x6 => y_number_by x6).bind fun x7 => y_signs_at x5 x7).bind sortY).bind fun x4 => Y.ofR (tupL x4 []))))
theorem ab_local_web (h : Hh) (v0 u0 : D) (v1 u1 : D) (q0 : VB false none h v0 u0) (q1 : VB false none h v1 u1) : AE none h (VB false none) (F_local_web [v0, v1] h) (y_local_web u0 u1) := by
  obtain ⟨rfl, cv0⟩ := q0
  obtain ⟨rfl, cv1⟩ := q1
  refine fn_of (fun _ e => nomatch e) rfl ?_
  unfold m_local_web
  exact (by exact (xb_drop (by exact (xe_f2 ab_check_state (by exact (xe_v (i := 0) rfl cv0)) (by exact (xe_v (i := 1) rfl cv1)))) fun x3 => (by exact (xb_ret (by exact (xe_uf ol_tup (by exact (xf_sort (by exact (xe_f2 ab_signs_at (by exact (xe_v (i := 0) rfl cv0)) (by exact (xe_f1 ab_number_by (by exact (xe_v (i := 1) rfl cv1))))))))))))))
noncomputable def y_web_of (v0 : D) : Y D := fnY
  (YS.get (Y.pure []) fun m1 => (YS.get (((Y.pure (.tup (([1, 2, 4, 8, 16, 32, 64, 128] : List Int).map D.int))).bind fun x4 => ((Y.pure v0).bind fun x3 => Y.ofR (fldD [cNet] "many" x3 [])).bind fun x5 => Y.ofR (ixA x4 x5 [])).bind r1Y) fun l40 => YS.seq (σ := (List (D × D))) (forY l40 m1 fun x18 s12 => (YS.get ((Y.pure v0).bind fun x21 => (Y.pure x18).bind fun x22 => y_signs_at x21 x22) fun x23 => updY s12 x23 fun m24 => (YS.nx m24))) fun s31 => (YS.ret (((Y.pure (.fd (s31.map (·.1)) (s31.map (·.2)))).bind sortY).bind fun x39 => Y.pure (.fz x39)))))
theorem ab_web_of (h : Hh) (v0 u0 : D) (q0 : VB false none h v0 u0) : AE none h (VB false none) (F_web_of [v0] h) (y_web_of u0) := by
  obtain ⟨rfl, cv0⟩ := q0
  refine fn_of (fun _ e => nomatch e) rfl ?_
  unfold m_web_of
  exact (by exact (xb_setD (i := 1) (by exact xk_0) fun m1 n2 cm1 => (by exact (xb_for (L := (fun (s12 : (List (D × D))) (S16 : Sg) (h17 : Hh) => ∃ (o15 : Option D), S16 = [some v0, some (.ref n2), o15] ∧ HI ⟨none, h, [(n2, .dic s12)]⟩ h17 ∧ (∀ p ∈ s12, p.1.cl ∧ p.2.cl))) (by exact (xr_r1 (by exact (xe_2 op_ixA (by exact (xe_c (cl_ints _))) (by exact (xe_1 (op_fld _ _) (by exact (xe_v (i := 0) rfl cv0)))))))) (fun h H => ⟨none, rfl, H, cm1⟩) (fun _ _ _ ⟨_, _, H, _⟩ => H.fx) (fun _ _ _ _ _ hq => absurd hq List.not_mem_nil)
 (fun x18 s12 S19 h20 cx18 hK => by obtain ⟨o15, rfl, H13, c14⟩ := hK; exact (by exact ab_to rfl H13 (by exact (xb_one (xb_upd (i := 1) (j := 0) rfl rfl c14 (by exact (xe_f2 ab_signs_at (by exact (xe_v (i := 0) rfl cv0)) (by exact (xe_v (i := 2) rfl cx18)))) fun m24 cm24 => (by exact (xb_nx fun h H => ⟨(some x18), rfl, H, cm24⟩)))))))
 (fun s31 S37 h38 hK => by obtain ⟨o34, rfl, H32, c33⟩ := hK; exact XB.go H32 (by exact (xb_ret (by exact (xe_z (by exact (xf_sort (by exact (xe_md (i := 1) (j := 0) rfl rfl c33)))))))))))))
noncomputable def y_web (v0 : D) : Y D := fnY
  (YS.get ((Y.pure v0).bind fun x1 => y_check_net x1) fun x2 => (YS.ret ((((Y.pure v0).bind fun x4 => y_web_of x4).bind rowY).bind fun x3 => Y.ofR (tupL x3 []))))
theorem ab_web (h : Hh) (v0 u0 : D) (q0 : VB false none h v0 u0) : AE none h (VB false none) (F_web [v0] h) (y_web u0) := by
  obtain ⟨rfl, cv0⟩ := q0
  refine fn_of (fun _ e => nomatch e) rfl ?_
  unfold m_web
  exact (by exact (xb_drop (by exact (xe_f1 ab_check_net (by exact (xe_v (i := 0) rfl cv0)))) fun x2 => (by exact (xb_ret (by exact (xe_u (wk := []) ol_tup (by exact (xr_e (by exact (xe_f1 ab_web_of (by exact (xe_v (i := 0) rfl cv0))))))))))))
noncomputable def y_is_even_sided (v0 : D) : Y D := fnY
  (YS.get ((Y.pure v0).bind fun x1 => y_check_net x1) fun x2 => (YS.get ((Y.pure v0).bind fun x3 => y_web_of x3) fun x4 => (YS.ret ((((((Y.pure x4).bind rowY).bind fun l14 => dcY l14 [] fun x5 => (un3 x5 fun x6 x7 x8 => (elKY (Y.pure true) (((Y.pure x6).bind fun x11 => ((Y.pure x7).bind fun x9 => (Y.pure []).bind fun x10 => Y.pure (x9 :: x10)).bind fun x12 => Y.pure (x11 :: x12)).bind fun x13 => Y.pure (.tup x13)) (Y.pure (.bl true))))).bind fun x15 => Y.pure (.fd (x15.map (·.1)) (x15.map (·.2)))).bind fun x16 => Y.ofR (lenD [x16] [])).bind fun x18 => ((Y.pure x4).bind fun x17 => Y.ofR (lenD [x17] [])).bind fun x19 => Y.ofR (eqD x18 x19 [])))))
theorem ab_is_even_sided (h : Hh) (v0 u0 : D) (q0 : VB false none h v0 u0) : AE none h (VB false none) (F_is_even_sided [v0] h) (y_is_even_sided u0) := by
  obtain ⟨rfl, cv0⟩ := q0
  refine fn_of (fun _ e => nomatch e) rfl ?_
  unfold m_is_even_sided
  exact (by exact (xb_drop (by exact (xe_f1 ab_check_net (by exact (xe_v (i := 0) rfl cv0)))) fun x2 => (by exact (xb_set (i := 1) (by exact (xe_f1 ab_web_of (by exact (xe_v (i := 0) rfl cv0)))) fun x4 cx4 => (by exact (xb_ret (by exact (xe_2 op_eq (by exact (xe_b (F := lenD) op_len (by exact (xe_dz (by exact (xk_dc (fun _ hq => absurd hq List.not_mem_nil) (by exact (by exact (xr_e (by exact (xe_v (i := 1) rfl cx4))))) fun x5 cx5 => (by exact xh_un3_ cx5 fun x6 x7 x8 cx6 cx7 cx8 => by exact (by exact elk_v (fun _ => rfl) xt_y (by exact (xe_tup (by exact (xl_cons (by exact (xe_v (i := 2) rfl cx6)) (xl_cons (by exact (xe_v (i := 3) rfl cx7)) xl_nil))))) (by exact (xe_c trivial)))))))))) (by exact (xe_b (F := lenD) op_len (by exact (xe_v (i := 1) rfl cx4))))))))))))
noncomputable def yb_law (v0 : D) : YS Unit :=
  (YS.get ((Y.pure (.int 5)).bind r1Y) fun l275 => YS.seq (σ := Unit) (forY l275 () fun x33 s17 => (YS.get ((Y.pure (.int 4)).bind fun x36 => y__law_tables x36) fun x37 => (YS.get ((Y.pure x37).bind fun x38 => Y.ofR (lenD [x38] [])) fun x40 => YS.get ((Y.pure x37).bind fun x39 => y_Net x39) fun x41 => (YS.get ((Y.pure x37).bind fun x42 => y__law_web x42) fun x43 => YS.get (Y.pure []) fun m45 => (YS.seq (σ := Unit) (YS.get (((((Y.pure x41).bind fun x47 => y_web x47).bind fun x48 => Y.ofR (reprD [x48] [])).bind fun x51 => ((((Y.pure x43).bind rowY).bind fun x49 => Y.ofR (tupL x49 [])).bind fun x50 => Y.ofR (reprD [x50] [])).bind fun x52 => Y.ofR (neD x51 x52 [])).bind isY) fun k53 => if k53 = true then (YS.ret (Y.pure (.bl false))) else (YS.nx ())) fun s58 => (YS.get (((Y.pure x40).bind fun x64 => y__law_states x64).bind rowY) fun l249 => YS.seq (σ := (List (D × D))) (forY l249 m45 fun x79 s72 => (YS.get ((Y.pure x41).bind fun x82 => (Y.pure x79).bind fun x83 => y_local_web x82 x83) fun x84 => (YS.seq (σ := Unit) (YS.get ((((Y.pure x84).bind fun x85 => Y.ofR (reprD [x85] [])).bind fun x90 => (((((Y.pure x37).bind fun x87 => (Y.pure x79).bind fun x88 => y__law_local x87 x88).bind rowY).bind fun x86 => Y.ofR (tupL x86 [])).bind fun x89 => Y.ofR (reprD [x89] [])).bind fun x91 => Y.ofR (neD x90 x91 [])).bind isY) fun k92 => if k92 = true then (YS.ret (Y.pure (.bl false))) else (YS.nx ())) fun s97 => (YS.get ((((((Y.pure x84).bind rowY).bind fun l109 => lcY l109 fun x103 => (elY (Y.pure true) (((Y.pure x103).bind fun x106 => ((Y.pure (.bl true)).bind fun x104 => (Y.pure []).bind fun x105 => Y.pure (x104 :: x105)).bind fun x107 => Y.pure (x106 :: x107)).bind fun x108 => Y.pure (.tup x108)))).bind fun x110 => Y.pure (.fz x110)).bind dictPY).bind fun x111 => Y.pure (.fd (x111.map (·.1)) (x111.map (·.2)))) fun x112 => updY s72 x112 fun m113 => (YS.nx m113))))) fun s121 => (YS.seq (σ := Unit) (YS.get (((((Y.pure (.fd (s121.map (·.1)) (s121.map (·.2)))).bind sortY).bind fun x130 => Y.pure (.fz x130)).bind fun x131 => (Y.pure x43).bind fun x132 => Y.ofR (neD x131 x132 [])).bind isY) fun k133 => if k133 = true then (YS.ret (Y.pure (.bl false))) else (YS.nx ())) fun s138 => (YS.get ((((Y.pure x43).bind rowY).bind fun l148 => lcY l148 fun x144 => (elY (Y.pure true) ((Y.pure x144).bind fun x145 => (Y.pure none).bind fun l146 => ((Y.pure (.int 2)).bind oY).bind fun u147 => cutY x145 l146 u147))).bind fun x149 => Y.pure (.fz x149)) fun x150 => (YS.seq (σ := Unit) (YS.get (((((Y.pure x41).bind fun x151 => y_is_even_sided x151).bind fun x152 => Y.ofR (reprD [x152] [])).bind fun x158 => ((((Y.pure x150).bind fun x153 => Y.ofR (lsetD x153 [])).bind fun x155 => ((Y.pure x150).bind fun x154 => Y.ofR (lenD [x154] [])).bind fun x156 => Y.ofR (eqD x155 x156 [])).bind fun x157 => Y.ofR (reprD [x157] [])).bind fun x159 => Y.ofR (neD x158 x159 [])).bind isY) fun k160 => if k160 = true then (YS.ret (Y.pure (.bl false))) else (YS.nx ())) fun s165 => (YS.get (((Y.pure x37).bind rowY).bind fun l171 => Y.pure (enumL 0 l171)) fun l241 => YS.seq (σ := Unit) (forY l241 () fun x186 s179 => (us2 x186 fun x189 x190 => (YS.get ((((Y.pure x43).bind rowY).bind fun l197 => lcY l197 fun x192 => (elY (Y.pure true) (((Y.pure x192).bind fun x193 => (Y.pure (.int 1)).bind fun x194 => Y.ofR (ixA x193 x194 [])).bind fun x195 => (Y.pure x189).bind fun x196 => Y.ofR (eqD x195 x196 [])))).bind fun x191 => Y.ofR (anyL x191 [])) fun x198 => (YS.get (((Y.pure x198).bind fun x202 => (((Y.pure x190).bind fun x199 => Y.ofR (lsetD x199 [])).bind fun x200 => (Y.pure (.int 1)).bind fun x201 => Y.ofR (gtD x200 x201 [])).bind fun x203 => Y.ofR (neD x202 x203 [])).bind isY) fun k204 => if k204 = true then (YS.ret (Y.pure (.bl false))) else (YS.nx ()))))) fun s212 => (YS.get (((Y.pure x41).bind fun x222 => ((Y.pure x37).bind fun x221 => y_Net x221).bind fun x223 => neYo cNet y_Netdd_eqdd x222 x223).bind isY) fun k224 => if k224 = true then (YS.ret (Y.pure (.bl false))) else (YS.nx ())))))))))))) fun s257 => (YS.ret (Y.pure (.bl true))))
noncomputable def y_law (v0 : D) : Y D := fnY (yb_law v0)
theorem law_abs {ns : List Int} {o : O} (ho : HandOk o) (hh : F__law_hand [.fz (ns.map .int)] [] = .ok (.ref 0) [o]) (t : y_law (.fz (ns.map .int)) (fun d => d = .bl true) fun _ _ => False) : ∃ h', F_law [.fz (ns.map D.int)] [] = .ok (.bl true) h' := by
  have cv0 : (D.fz (ns.map D.int)).cl := cls.ints (fun i => i) ns
  refine law_of (m := m_law) (hs := 1) (Fh := F__law_hand) rfl cv0 ho hh rfl ?_ t
  unfold yb_law
  generalize D.fz (ns.map D.int) = v0 at *
  exact (by exact (xb_for (L := (fun (s17 : Unit) (S31 : Sg) (h32 : Hh) => ∃ (o19 : Option D), ∃ (o20 : Option D), ∃ (o21 : Option D), ∃ (o22 : Option D), ∃ (o23 : Option D), ∃ (o24 : Option D), ∃ (o25 : Option D), ∃ (o26 : Option D), ∃ (o27 : Option D), ∃ (o28 : Option D), ∃ (o29 : Option D), ∃ (o30 : Option D), S31 = [some v0, some (.ref 0), o26, o29, o23, o19, o20, o24, o28, o30, o25, o22, o27, o21, none] ∧ HI ⟨(some 0), [o], []⟩ h32)) (by exact (xr_r1 (by exact (xe_c trivial)))) (fun h H => ⟨none, none, none, none, none, none, none, none, none, none, none, none, rfl, H⟩) (fun _ _ _ ⟨_, _, _, _, _, _, _, _, _, _, _, _, _, H⟩ => H.fx) (fun _ _ _ _ _ hq => absurd hq List.not_mem_nil)
 (fun x33 s17 S34 h35 cx33 hK => by obtain ⟨o19, o20, o21, o22, o23, o24, o25, o26, o27, o28, o29, o30, rfl, H18⟩ := hK; exact (by exact ab_to rfl H18 (by exact (xb_set (i := 3) (by exact (xe_h1 (i := 1) ab__law_tables rfl (by exact (xe_c trivial)))) fun x37 cx37 => (by exact (xb_par (i := 4) (j := 5) (by exact (xe_b (F := lenD) op_len (by exact (xe_v (i := 3) rfl cx37)))) (by exact (xe_f1 ab_Net (by exact (xe_v (i := 3) rfl cx37)))) fun x40 x41 cx40 cx41 => (by exact (xb_parV (i := 6) (j := 7) (xv_c (by exact (xe_f1 ab__law_web (by exact (xe_v (i := 3) rfl cx37))))) (fun x43 n44 cx43 => (xv_d (by exact xk_0))) fun x43 n44 m45 n46 cx43 cm45 => (by exact (xb_seq (L := (fun (s58 : Unit) (S60 : Sg) (h61 : Hh) => S60 = [some v0, some (.ref 0), some x33, some x37, some x40, some x41, some x43, some (.ref n46), o28, o30, o25, o22, o27, o21, none] ∧ HI ⟨(some 0), [o], [(n46, .dic m45)]⟩ h61)) (xb_if (by exact (xt_v (by exact (xe_2 op_ne (by exact (xe_b (F := reprD) op_repr (by exact (xe_f1 ab_web (by exact (xe_v (i := 5) rfl cx41)))))) (by exact (xe_b (F := reprD) op_repr (by exact (xe_u (wk := []) ol_tup (by exact (xr_e (by exact (xe_v (i := 6) rfl cx43))))))))))))
 (by exact (xb_ret (by exact (xe_c trivial))))
 (by exact (xb_nx fun h H => ⟨rfl, H⟩)))
 (fun s58 S62 h63 hK => by obtain ⟨rfl, H59⟩ := hK; exact XB.go H59 (by exact (xb_for (L := (fun (s72 : (List (D × D))) (S77 : Sg) (h78 : Hh) => ∃ (o75 : Option D), ∃ (o76 : Option D), S77 = [some v0, some (.ref 0), some x33, some x37, some x40, some x41, some x43, some (.ref n46), o75, o76, o25, o22, o27, o21, none] ∧ HI ⟨(some 0), [o], [(n46, .dic s72)]⟩ h78 ∧ (∀ p ∈ s72, p.1.cl ∧ p.2.cl))) (by exact (by exact (xr_e (by exact (xe_f1 ab__law_states (by exact (xe_v (i := 4) rfl cx40))))))) (fun h H => ⟨o28, o30, rfl, H, cm45⟩) (fun _ _ _ ⟨_, _, _, H, _⟩ => H.fx) (fun _ _ _ _ _ hq => absurd hq List.not_mem_nil)
 (fun x79 s72 S80 h81 cx79 hK => by obtain ⟨o75, o76, rfl, H73, c74⟩ := hK; exact (by exact ab_to rfl H73 (by exact (xb_set (i := 9) (by exact (xe_f2 ab_local_web (by exact (xe_v (i := 5) rfl cx41)) (by exact (xe_v (i := 8) rfl cx79)))) fun x84 cx84 => (by exact (xb_seq (L := (fun (s97 : Unit) (S99 : Sg) (h100 : Hh) => S99 = [some v0, some (.ref 0), some x33, some x37, some x40, some x41, some x43, some (.ref n46), some x79, some x84, o25, o22, o27, o21, none] ∧ HI ⟨(some 0), [o], [(n46, .dic s72)]⟩ h100)) (xb_if (by exact (xt_v (by exact (xe_2 op_ne (by exact (xe_b (F := reprD) op_repr (by exact (xe_v (i := 9) rfl cx84)))) (by exact (xe_b (F := reprD) op_repr (by exact (xe_u (wk := []) ol_tup (by exact (xr_e (by exact (xe_f2 ab__law_local (by exact (xe_v (i := 3) rfl cx37)) (by exact (xe_v (i := 8) rfl cx79))))))))))))))
 (by exact (xb_ret (by exact (xe_c trivial))))
 (by exact (xb_nx fun h H => ⟨rfl, H⟩)))
 (fun s97 S101 h102 hK => by obtain ⟨rfl, H98⟩ := hK; exact XB.go H98 (by exact (xb_one (xb_upd (i := 7) (j := 0) rfl rfl c74 (by exact (xe_dz (by exact (xk_p (by exact (xe_z (by exact (xf_lc (fun _ hq => absurd hq List.not_mem_nil) (by exact (by exact (xr_e (by exact (xe_v (i := 9) rfl cx84))))) fun x103 cx103 => (by exact el_v (fun _ => rfl) xt_y (by exact (xe_tup (by exact (xl_cons (by exact (xe_v (i := 14) rfl cx103)) (xl_cons (by exact (xe_c trivial)) xl_nil)))))))))))))) fun m113 cm113 => (by exact (xb_nx fun h H => ⟨(some x79), (some x84), rfl, H, cm113⟩))))))))))))
 (fun s121 S128 h129 hK => by obtain ⟨o124, o125, rfl, H122, c123⟩ := hK; exact XB.go H122 (by exact (xb_seq (L := (fun (s138 : Unit) (S140 : Sg) (h141 : Hh) => S140 = [some v0, some (.ref 0), some x33, some x37, some x40, some x41, some x43, some (.ref n46), o124, o125, o25, o22, o27, o21, none] ∧ HI ⟨(some 0), [o], [(n46, .dic s121)]⟩ h141)) (xb_if (by exact (xt_v (by exact (xe_2 op_ne (by exact (xe_z (by exact (xf_sort (by exact (xe_md (i := 7) (j := 0) rfl rfl c123)))))) (by exact (xe_v (i := 6) rfl cx43))))))
 (by exact (xb_ret (by exact (xe_c trivial))))
 (by exact (xb_nx fun h H => ⟨rfl, H⟩)))
 (fun s138 S142 h143 hK => by obtain ⟨rfl, H139⟩ := hK; exact XB.go H139 (by exact (xb_set (i := 10) (by exact (xe_z (by exact (xf_lc (fun _ hq => absurd hq List.not_mem_nil) (by exact (by exact (xr_e (by exact (xe_v (i := 6) rfl cx43))))) fun x144 cx144 => (by exact el_v (fun _ => rfl) xt_y (by exact (xe_sl (by exact (xe_v (i := 14) rfl cx144)) (by exact xo_n) (by exact (xo_s (by exact (xe_c trivial))))))))))) fun x150 cx150 => (by exact (xb_seq (L := (fun (s165 : Unit) (S167 : Sg) (h168 : Hh) => S167 = [some v0, some (.ref 0), some x33, some x37, some x40, some x41, some x43, some (.ref n46), o124, o125, some x150, o22, o27, o21, none] ∧ HI ⟨(some 0), [o], [(n46, .dic s121)]⟩ h168)) (xb_if (by exact (xt_v (by exact (xe_2 op_ne (by exact (xe_b (F := reprD) op_repr (by exact (xe_f1 ab_is_even_sided (by exact (xe_v (i := 5) rfl cx41)))))) (by exact (xe_b (F := reprD) op_repr (by exact (xe_2 op_eq (by exact (xe_1 op_lset (by exact (xe_v (i := 10) rfl cx150)))) (by exact (xe_b (F := lenD) op_len (by exact (xe_v (i := 10) rfl cx150))))))))))))
 (by exact (xb_ret (by exact (xe_c trivial))))
 (by exact (xb_nx fun h H => ⟨rfl, H⟩)))
 (fun s165 S169 h170 hK => by obtain ⟨rfl, H166⟩ := hK; exact XB.go H166 (by exact (xb_for (L := (fun (s179 : Unit) (S184 : Sg) (h185 : Hh) => ∃ (o181 : Option D), ∃ (o182 : Option D), ∃ (o183 : Option D), S184 = [some v0, some (.ref 0), some x33, some x37, some x40, some x41, some x43, some (.ref n46), o124, o125, some x150, o182, o183, o181, none] ∧ HI ⟨(some 0), [o], [(n46, .dic s121)]⟩ h185)) (by exact (xr_en (by exact (xr_e (by exact (xe_v (i := 3) rfl cx37)))))) (fun h H => ⟨o21, o22, o27, rfl, H⟩) (fun _ _ _ ⟨_, _, _, _, H⟩ => H.fx) (fun _ _ _ _ _ hq => absurd hq List.not_mem_nil)
 (fun x186 s179 S187 h188 cx186 hK => by obtain ⟨o181, o182, o183, rfl, H180⟩ := hK; exact (by exact ab_us2_ cx186 fun x189 x190 cx189 cx190 => by exact (by exact ab_to rfl H180 (by exact (xb_set (i := 13) (by exact (xe_uf ol_any (by exact (xf_lc (fun _ hq => absurd hq List.not_mem_nil) (by exact (by exact (xr_e (by exact (xe_v (i := 6) rfl cx43))))) fun x192 cx192 => (by exact el_v (fun _ => rfl) xt_y (by exact (xe_2 op_eq (by exact (xe_2 op_ixA (by exact (xe_v (i := 14) rfl cx192)) (by exact (xe_c trivial)))) (by exact (xe_v (i := 11) rfl cx189))))))))) fun x198 cx198 => (by exact (xb_if (by exact (xt_v (by exact (xe_2 op_ne (by exact (xe_v (i := 13) rfl cx198)) (by exact (xe_2 op_gt (by exact (xe_1 op_lset (by exact (xe_v (i := 12) rfl cx190)))) (by exact (xe_c trivial))))))))
 (by exact (xb_ret (by exact (xe_c trivial))))
 (by exact (xb_nx fun h H => ⟨(some x198), (some x189), (some x190), rfl, H⟩)))))))))
 (fun s212 S219 h220 hK => by obtain ⟨o214, o215, o216, rfl, H213⟩ := hK; exact XB.go H213 (by exact (xb_if (by exact (xt_v (by exact (xe_neo ab_Netdd_eqdd (by exact (xe_v (i := 5) rfl cx41)) (by exact (xe_f1 ab_Net (by exact (xe_v (i := 3) rfl cx37))))))))
 (by exact (xb_ret (by exact (xe_c trivial))))
 (by exact (xb_nx fun h H => ⟨(some x41), (some x43), o214, o215, (some x40), (some (.ref n46)), (some x150), (some x33), o216, o124, (some x37), o125, rfl, (H.pick [] (by decide))⟩)))))))))))))))))))))))))))))
 (fun s257 S273 h274 hK => by obtain ⟨o259, o260, o261, o262, o263, o264, o265, o266, o267, o268, o269, o270, rfl, H258⟩ := hK; exact XB.go H258 (by exact (xb_ret (by exact (xe_c trivial)))))))
end K06
end PV
set_option Elab.async false
set_option linter.all false
set_option autoImplicit false
set_option maxRecDepth 100000
set_option maxHeartbeats 2000000
namespace PV
namespace K06
open PySem (Str PyData)
/-! bits, states, tables -/
def bI (b : Bool) : Int := if b = true then 1 else 0
@[simp] theorem bI_t : bI true = 1 := rfl
@[simp] theorem bI_f : bI false = 0 := rfl
theorem bI_inj {a b : Bool} (e : bI a = bI b) : a = b := by cases a <;> cases b <;> first | rfl | cases e
theorem bI_eq {a b : Bool} : (bI a = bI b) ↔ a = b := ⟨bI_inj, fun e => by rw [e]⟩
abbrev bd (b : Bool) : D := .int (bI b)
abbrev tb (l : List Bool) : D := .tup (l.map bd)
abbrev tbs (t : List (List Bool)) : D := .tup (t.map tb)
theorem bel_tb (n : Nat) (l : List Bool) : (tb l).bel n := bels_of fun d hd => by
  obtain ⟨b, _, rfl⟩ := List.mem_map.mp hd
  trivial
theorem bel_tbs (n : Nat) (t : List (List Bool)) : (tbs t).bel n := bels_of fun d hd => by
  obtain ⟨b, _, rfl⟩ := List.mem_map.mp hd
  exact bel_tb n b
def states : Nat → List (List Bool)
  | 0 => [[]]
  | n + 1 => (states n).map (· ++ [false]) ++ (states n).map (· ++ [true])
theorem states_len : ∀ n, (states n).length = 2 ^ n
  | 0 => rfl
  | n + 1 => by
    rw [states, List.length_append, List.length_map, List.length_map, states_len n, Nat.pow_succ]
    omega
theorem states_mem : ∀ {n : Nat} {l : List Bool}, l ∈ states n ↔ l.length = n
  | 0, l => by simp [states]
  | n + 1, l => by
    rw [states, List.mem_append, List.mem_map, List.mem_map]
    constructor
    · rintro (⟨m, hm, rfl⟩ | ⟨m, hm, rfl⟩) <;> simp [states_mem.mp hm]
    · intro hl
      rcases List.eq_nil_or_concat l with rfl | ⟨m, b, rfl⟩
      · simp at hl
      · have hm : m ∈ states n := states_mem.mpr (by simpa using hl)
        cases b
        · exact .inl ⟨m, hm, by simp⟩
        · exact .inr ⟨m, hm, by simp⟩
theorem big_le {n : Nat} (h : n ≤ 16777216) : n ≤ big := h
theorem states_small {n : Nat} (hn : n ≤ 20) : (states n).length ≤ 1048576 := by
  rw [states_len]
  exact Nat.le_trans (Nat.pow_le_pow_right (by decide) hn) (by decide)
theorem y_states_eq (n : Nat) (hn : n ≤ 20) : y__law_states (.int n) = Y.pure (.fz ((states n).map tb)) := by
  unfold y__law_states
  simp
  rw [r1Y_nat n (by omega), Y.pure_bind, forN (n := n) (fun i => D.fz ((states i).map tb)) ?e ?h]
  case e => rfl
  case h =>
    intro i hi
    have hl := states_small (n := i) (by omega)
    have e : ∀ b : Bool, lcY ((states i).map tb) (fun x21 => (Y.ofR (addD x21 (D.tup [D.int (bI b)]) [])).calm.bind fun d => Y.pure (some d)) = Y.pure ((states i).map fun l => tb (l ++ [b])) := fun b => by
      refine lcY_map (big_le (by omega)) fun l hl => ?_
      have := states_mem.mp hl
      have c : l.length + 1 ≤ 16777216 := by omega
      simp [c, tb]
    have e0 := e false
    have e1 := e true
    simp only [bI_f, bI_t] at e0 e1
    have c : (states i).length + (states i).length ≤ 16777216 := by omega
    simp [e0, e1, c]
    simp [states, Function.comp_def]
  simp
def numB : List Bool → Nat
  | [] => 0
  | b :: r => (if b = true then 1 else 0) + 2 * numB r
theorem numB_lt : ∀ l : List Bool, numB l < 2 ^ l.length
  | [] => by decide
  | b :: r => by
    have := numB_lt r
    rw [numB, List.length_cons, Nat.pow_succ]
    split <;> omega
theorem y_number_eq (l : List Bool) (hl : l.length ≤ 60) : y__law_number (tb l) = Y.pure (.int (numB l)) := by
  unfold y__law_number
  simp only [revD_tup, Y.ofR_ok, Y.pure_bind, rowY_tup, YS.get_pure, fnY_get, ← List.map_reverse]
  rw [forX (fun i => D.int (numB (l.drop (l.length - i)))) ?e ?h]
  case e => simp [numB]
  case h =>
    intro i b hb
    have hi' : i < l.length := by simpa using (List.getElem?_eq_some_iff.mp hb).1
    rw [List.getElem?_reverse hi'] at hb
    have hd : l.drop (l.length - (i + 1)) = b :: l.drop (l.length - i) := by
      have := (List.getElem?_eq_some_iff.mp hb).2
      rw [show l.length - (i + 1) = l.length - 1 - i by omega, List.drop_eq_getElem_cons (by omega), show l.length - 1 - i + 1 = l.length - i by omega, this]
    simp
    rw [hd, numB]
    congr 1
    cases b
    · simp [bI]
    · simp [bI]
      omega
  simp
/-- a bit -/
def bat (l : List Bool) (i : Nat) : Bool := l.getD i false
theorem bat_get {l : List Bool} {i : Nat} (h : i < l.length) : bat l i = l[i] := by
  unfold bat
  rw [List.getD_eq_getElem?_getD, List.getElem?_eq_getElem h]
  rfl
def flip (l : List Bool) (i : Nat) : List Bool := l.set i (!bat l i)
theorem getD_set {l : List Bool} {i : Nat} (h : i < l.length) : l.take i ++ (!bat l i) :: l.drop (i + 1) = flip l i := by
  unfold flip
  rw [List.set_eq_take_append_cons_drop, if_pos h]
theorem int_eq {a b : Int} (h : a = b) : D.int a = D.int b := by rw [h]
theorem cut_take1 {α : Type} (xs : List α) (n : Nat) : cut xs (some ((n : Int) + 1)) none = xs.drop (n + 1) := cut_drop xs (n + 1)
theorem getI_bits {l : List Bool} {i : Nat} (hi : i < l.length) (h : Hh) : getI (l.map bd) (i : Int) h = .ok (bd (bat l i)) h := by
  refine getI_nat h ?_
  rw [List.getElem?_map, List.getElem?_eq_getElem hi, bat_get hi]
  rfl
theorem y_over_eq (l : List Bool) (i : Nat) (hi : i < l.length) (hl : l.length ≤ 60) : y__law_over (tb l) (.int i) = Y.pure (tb (flip l i)) := by
  unfold y__law_over
  have c1 : (cut (l.map bd) none (some (i : Int))).length + 1 ≤ 16777216 := by rw [cut_take]; simp; omega
  have c2 : (cut (l.map bd) none (some (i : Int))).length + 1 + (cut (l.map bd) (some ((i : Int) + 1)) none).length ≤ 16777216 := by rw [cut_take, cut_take1]; simp; omega
  simp [getI_bits hi, c1, c2]
  rw [cut_take, cut_take1]
  rw [← getD_set hi]
  have : (1 : Int) - bI (bat l i) = bI (!bat l i) := by cases bat l i <;> rfl
  simp [this, tb]
/-! nets -/
@[simp] theorem y_int_int (i : Int) : y_is_integer (.int i) = Y.pure (.bl true) := by
  unfold y_is_integer
  simp
@[simp] theorem y_btw_int (i a b : Int) : y_is_between (.int i) (.int a) (.int b) = Y.pure (.bl (decide (a ≤ i) && decide (i ≤ b))) := by
  unfold y_is_between
  simp
  by_cases c : a ≤ i <;> simp [c]
theorem y_bits_eq (m : Nat) (l : List Bool) (hl : l.length ≤ 1000000) : y_are_bits (.int m) (tb l) = Y.pure (.bl (decide (l.length = m))) := by
  unfold y_are_bits
  simp
  have e : lcY (l.map bd) (fun x => (y_is_between x (.int 0) (.int 1)).calm.bind fun d => Y.pure (some d)) = Y.pure (l.map fun _ => .bl true) := by
    refine lcY_map (big_le (by omega)) fun b _ => ?_
    cases b <;> simp [bI]
  by_cases c : l.length = m
  · simp [c, e]
    unfold allL
    rw [boolsD_map]
    have : (l.all fun _ => true) = true := List.all_eq_true.mpr fun _ _ => rfl
    simp [this]
  · have : ¬ (l.length : Int) = m := by omega
    simp [c, this]
def TabOk (m : Nat) (t : List (List Bool)) : Prop := 1 ≤ t.length ∧ t.length ≤ m ∧ ∀ r ∈ t, r.length = 2 ^ t.length
def netD (t : List (List Bool)) : D := .fi cNet ["tables", "many"] [tbs t, .int t.length]
theorem pow_le7 {n : Nat} (h : n ≤ 7) : 2 ^ n ≤ 128 := Nat.le_trans (Nat.pow_le_pow_right (by decide) h) (by decide)
def pw (n : Nat) : Nat := 2 ^ n
theorem pw_le7 {n : Nat} (h : n ≤ 7) : pw n ≤ 128 := pow_le7 h
abbrev powers : List D := [.int 1, .int 2, .int 4, .int 8, .int 16, .int 32, .int 64, .int 128]
theorem getI_pow {n : Nat} (h : n ≤ 7) (hh : Hh) : getI powers (n : Int) hh = .ok (.int (pw n)) hh := by
  refine getI_nat hh ?_
  have : n = 0 ∨ n = 1 ∨ n = 2 ∨ n = 3 ∨ n = 4 ∨ n = 5 ∨ n = 6 ∨ n = 7 := by omega
  rcases this with rfl | rfl | rfl | rfl | rfl | rfl | rfl | rfl <;> rfl
theorem y_Net_eq {t : List (List Bool)} (h : TabOk 7 t) : y_Net (tbs t) = Y.pure (netD t) := by
  obtain ⟨h1, h2, h3⟩ := h
  unfold y_Net
  have c1 : (1 : Int) ≤ t.length := by omega
  have c2 : (t.length : Int) ≤ 7 := by omega
  simp [c1, c2]
  rw [enumL_map, forX (fun _ => ()) rfl ?h]
  case h =>
    intro i x hx
    have hp := getI_pow h2 []
    have hr : x.1.length = 2 ^ t.length := h3 _ (by
      obtain ⟨_, e⟩ := List.getElem?_eq_some_iff.mp hx
      rw [← e]; simp)
    have hb := y_bits_eq (pw t.length) x.1 (by rw [hr]; have := pow_le7 h2; omega)
    have hr' : x.1.length = pw t.length := hr
    simp only [powers] at hp
    simp [hp, hb, hr']
  simp [netD, putFD]
theorem y_any_wp {xs : List D} {Q : D → Prop} {E : Ec} (h0 : 0 < xs.length) (h1 : xs.length < 1073741824) (h : ∀ x ∈ xs, Q x) : y__law_any (.fz xs) Q E := by
  unfold y__law_any
  simp
  refine drawB h0 h1 fun i hi => ?_
  simp
  rw [getI_nat _ (List.getElem?_eq_getElem hi)]
  exact h _ (List.getElem_mem hi)
theorem bits_of_nat (ns : List Nat) (h : ∀ i ∈ ns, i < 2) : ns.map (fun i => D.int (i : Nat)) = (ns.map (· == 1)).map bd := by
  rw [List.map_map]
  refine List.map_congr_left fun i hi => ?_
  have := h i hi
  have : i = 0 ∨ i = 1 := by omega
  rcases this with rfl | rfl <;> rfl
theorem y_tables_wp {m : Nat} {Q : D → Prop} {E : Ec} (h0 : 0 < m) (h1 : m ≤ 7) (h : ∀ t, TabOk m t → Q (tbs t)) : y__law_tables (.int m) Q E := by
  unfold y__law_tables
  simp
  refine drawB h0 (by omega) fun i hi => ?_
  simp
  refine drawB (m := 4) (by omega) (by omega) fun kind hk => ?_
  generalize hn : 1 + i = n
  have hn' : (1 : Int) + i = n := by omega
  rw [hn']
  simp [y_states_eq n (by omega)]
  rw [r1Y_nat n (by omega)]
  simp
  have hs := states_small (n := n) (by omega)
  refine fnI (YS.seqI ?_)
  refine forY_wp (fun i s => ∃ t : List (List Bool), s = t.map tb ∧ t.length = i ∧ i ≤ n ∧ ∀ r ∈ t, r.length = 2 ^ n) ⟨[], rfl, rfl, Nat.zero_le _, fun r hr => by simp at hr⟩ ?_ ?_
  · rintro i x s hx ⟨t, rfl, hti, hin, ht⟩ M hM
    have hlt : i < n := by simpa using (List.getElem?_eq_some_iff.mp hx).1
    have fin : ∀ r : List Bool, r.length = 2 ^ n → M (t.map tb ++ [tb r]) := fun r hr => hM _ ⟨t ++ [r], by simp, by simp [hti], hlt, fun r' hr' => by
      rcases List.mem_append.mp hr' with q | q
      · exact ht r' q
      · rw [List.mem_singleton.mp q]; exact hr⟩
    have room : (t.map tb).length < 16777216 := by rw [List.length_map]; omega
    have done : ∀ r : List Bool, r.length = 2 ^ n → (YS.need ((t.map tb).length < big) (YS.nx (t.map tb ++ [tb r]))) M (fun d => Q d) E := fun r hr => ⟨room, fin r hr⟩
    have room' : t.length < 16777216 := by omega
    by_cases k0 : kind = 0
    · simp [k0, room']
      refine YS.getI (lcY_draws (xs := states n) (m := 2) (g := fun i => .int (i : Nat)) (by omega) (by omega) (by omega) (fun x _ Q h => ?_) fun ns hn hm => ?_)
      · exact drawB (m := 2) (by omega) (by omega) h
      · rw [bits_of_nat ns hm]
        exact fin _ (by rw [List.length_map, hn, states_len])
    · by_cases k1 : kind = 1
      · simp [k1, room']
        refine YS.getI (lcY_draws (xs := List.range n) (m := 5) (g := fun i => .int ((i : Int) - 2)) (by simp; omega) (by omega) (by omega) (fun x _ Q h => ?_) fun ns hn hm => ?_)
        · refine drawB (m := 5) (by omega) (by omega) fun i hi => ?_
          simp
          exact h i hi
        refine drawG (m := 3) (by omega) (by omega) fun bound hb => ?_
        have key : ∀ l ∈ states n, (rowY (tb l)).calm.bind (fun a_1 => (lcY (zipL (ns.map fun i : Nat => .int ((i : Int) - 2)) a_1) fun x73 => un2 x73 fun x74 x75 => (Y.ofR (mulD x74 x75 [])).calm.bind fun d => Y.pure (some d)).calm.bind fun a =>
                (Y.ofR (sumL a [])).calm.bind fun a =>
                  (Y.ofR (geD a (.int bound) [])).calm.bind fun a => (Y.ofR (intD [a] [])).calm.bind fun d => Y.pure (some d)) = Y.pure (some (bd (decide ((bound : Int) ≤ ((ns.zip l).map fun p => ((p.1 : Int) - 2) * bI p.2).sum)))) := fun l hl => by
          simp [zipL_map]
          have hz : (ns.zip l).length ≤ big := by
            rw [List.length_zip]
            simp at hn
            exact big_le (by omega)
          rw [lcY_map (enc := fun p : Nat × Bool => .tup [.int ((p.1 : Int) - 2), bd p.2]) (g := fun p => .int (((p.1 : Int) - 2) * bI p.2)) hz fun p _ => by
            simp
            rw [mulD_r _ ⟨by cases p.2 <;> decide, by cases p.2 <;> decide⟩]
            simp]
          by_cases c : (bound : Int) ≤ ((ns.zip l).map fun p => ((p.1 : Int) - 2) * bI p.2).sum <;> simp [sumL_map, c] <;> rfl
        refine YS.getI ?_
        rw [lcY_map (big_le (by omega)) key]
        have e : ((states n).map fun l => bd (decide ((bound : Int) ≤ ((ns.zip l).map fun p => ((p.1 : Int) - 2) * bI p.2).sum))) = ((states n).map fun l => decide ((bound : Int) ≤ ((ns.zip l).map fun p => ((p.1 : Int) - 2) * bI p.2).sum)).map bd := by rw [List.map_map]; rfl
        rw [e]
        exact fin _ (by rw [List.length_map, states_len])
      · have e1 : ¬ (kind : Int) = 1 := by omega
        simp [k0, k1, e1, room']
        refine drawG (by omega) (by omega) fun one h1 => ?_
        refine drawG (by omega) (by omega) fun other h2 => ?_
        rw [show (4 : Int) = ((4 : Nat) : Int) from rfl, r1Y_nat 4 (by omega)]
        simp only [YS.get_pure]
        refine YS.getI (lcY_draws (xs := List.range 4) (m := 2) (g := fun i => .int (i : Nat)) (by simp) (by omega) (by omega) (fun x _ Q h => ?_) fun ns hn hm => ?_)
        · exact drawB (m := 2) (by omega) (by omega) h
        rw [bits_of_nat ns hm]
        have key : ∀ bits : List Bool, bits.length = 4 → ∀ l ∈ states n, ((Y.ofR (ixA (tb l) (.int one) [])).calm.bind fun a =>
                        (Y.ofR (ixA (tb l) (.int other) [])).calm.bind fun a_4 =>
                          (Y.ofR (mulD (D.int 2) a_4 [])).calm.bind fun a_5 =>
                            (Y.ofR (addD a a_5 [])).calm.bind fun a =>
                              (Y.ofR (ixA (.fz (bits.map bd)) a [])).calm.bind fun d => Y.pure (some d)) = Y.pure (some (bd (bat bits ((if bat l one = true then 1 else 0) + 2 * (if bat l other = true then 1 else 0))))) := fun bits hb l hl => by
          have hl' := states_mem.mp hl
          simp [getI_bits (l := l) (i := one) (by omega), getI_bits (l := l) (i := other) (by omega)]
          have q : ((bI (bat l one) + 2 * bI (bat l other) : Int)) = (((if bat l one = true then 1 else 0) + 2 * (if bat l other = true then 1 else 0) : Nat) : Int) := by
            cases bat l one <;> cases bat l other <;> rfl
          rw [q, getI_bits (by rw [hb]; split <;> split <;> decide)]
          simp
        have use : ∀ bits : List Bool, bits.length = 4 → lcY (List.map tb (states n)) (fun x158 =>
                      (Y.ofR (ixA x158 (.int one) [])).calm.bind fun a =>
                        (Y.ofR (ixA x158 (.int other) [])).calm.bind fun a_4 =>
                          (Y.ofR (mulD (D.int 2) a_4 [])).calm.bind fun a_5 =>
                            (Y.ofR (addD a a_5 [])).calm.bind fun a =>
                              (Y.ofR (ixA (.fz (bits.map bd)) a [])).calm.bind fun d => Y.pure (some d)) = Y.pure (((states n).map fun l => bat bits ((if bat l one = true then 1 else 0) + 2 * (if bat l other = true then 1 else 0))).map bd) := fun bits hb => by
          rw [lcY_map (big_le (by omega)) (key bits hb), List.map_map]
          rfl
        by_cases k3 : (kind : Int) = 3
        · rw [if_pos k3]
          refine YS.getI (y_any_wp (by simp) (by simp) fun x hx => ?_)
          have : ∃ bits : List Bool, bits.length = 4 ∧ x = .fz (bits.map bd) := by
            simp at hx
            rcases hx with rfl | rfl
            · exact ⟨[false, true, false, true], rfl, rfl⟩
            · exact ⟨[true, false, true, false], rfl, rfl⟩
          obtain ⟨bits, hb, rfl⟩ := this
          rw [use bits hb]
          exact fin _ (by rw [List.length_map, states_len])
        · rw [if_neg k3, use _ (by simpa using hn)]
          exact fin _ (by rw [List.length_map, states_len])
  · rintro s ⟨t, rfl, hti, hin, ht⟩
    simp at hti
    refine h t ⟨by omega, by omega, fun r hr => by rw [ht r hr, hti]⟩
/-! who sets whom -/
abbrev T3 := Nat × Nat × Bool
def sgn (b : Bool) : Int := if b = true then 1 else -1
@[simp] theorem sgn_t : sgn true = 1 := rfl
@[simp] theorem sgn_f : sgn false = -1 := rfl
theorem sgn_inj {a b : Bool} (e : sgn a = sgn b) : a = b := by cases a <;> cases b <;> first | rfl | (simp at e)
def enc3 (a : T3) : D := .tup [.int a.1, .int a.2.1, .int (sgn a.2.2)]
theorem nk3 (a : T3) : (enc3 a).nk = some (.tup [.num a.1, .num a.2.1, .num (sgn a.2.2)]) := rfl
theorem key3 : KeyE enc3 := ⟨⟨3, by decide, fun a => rfl⟩, fun a b e => by
  rw [nk3, nk3] at e
  simp only [Option.some.injEq, PySem.NestedKey.tup.injEq, List.cons.injEq, PySem.NestedKey.num.injEq] at e
  obtain ⟨h1, h2, h3, _⟩ := e
  exact Prod.ext (by omega) (Prod.ext (by omega) (sgn_inj h3))⟩
theorem py3 (a : T3) : (enc3 a).py = some (.tuple [.int a.1, .int a.2.1, .int (sgn a.2.2)]) := rfl
theorem encD3 (a : T3) : encD (enc3 a) = .tuple [.int a.1, .int a.2.1, .int (sgn a.2.2)] := rfl
theorem toks3 (a : T3) : PySem.W.keyToks (encD (enc3 a)) = [.inl 1, .inl (a.1 : Int), .inl 1, .inl (a.2.1 : Int), .inl 1, .inl (sgn a.2.2), .inl 0] := by
  rw [encD3]
  simp [PySem.W.keyToks, PySem.W.keyToksAll]
theorem toks3_inj {a b : T3} (e : PySem.W.keyToks (encD (enc3 a)) = PySem.W.keyToks (encD (enc3 b))) : a = b := by
  rw [toks3, toks3] at e
  simp only [List.cons.injEq, Sum.inl.injEq] at e
  obtain ⟨_, h1, _, h2, _, h3, _⟩ := e
  exact Prod.ext (by omega) (Prod.ext (by omega) (sgn_inj h3))
theorem sortOk3 (L : List T3) : sortOk (L.map enc3) := by
  refine ⟨fun d hd => ?_, ?_, ?_⟩
  · obtain ⟨a, _, rfl⟩ := List.mem_map.mp hd
    exact ⟨_, py3 a, by simp [PyData.depth, PyData.depthAll]⟩
  · rw [List.map_map]
    exact PySem.W.AllAlike.of fun a b => by
      show PySem.W.alike (encD (enc3 a)) (encD (enc3 b)) = true
      rw [encD3, encD3]
      simp [PySem.W.alike, PySem.W.alikeAll]
  · rw [List.map_map]
    exact PySem.W.Sortable.tuples fun a => ⟨_, _, encD3 a⟩
def le3 (a b : T3) : Bool := dle (enc3 a) (enc3 b)
def sort3 (L : List T3) : List T3 := L.mergeSort le3
theorem sort3_map (L : List T3) : (L.map enc3).mergeSort dle = (sort3 L).map enc3 := sort_map enc3 L
theorem le3_total : PySem.W.TotalLe le3 := ⟨fun a b c h1 h2 => dle_total.trans _ _ _ h1 h2, fun a b => dle_total.total _ _⟩
theorem sort3_perm (L : List T3) : (sort3 L).Perm L := List.mergeSort_perm L le3
theorem sort3_congr {A B : List T3} (p : A.Perm B) : sort3 A = sort3 B := by
  refine List.Perm.eq_of_pairwise (le := fun a b => le3 a b = true) (fun a b _ _ h1 h2 => toks3_inj (dle_anti h1 h2)) (PySem.W.sort_pairwise le3_total A) (PySem.W.sort_pairwise le3_total B) (((sort3_perm A).trans p).trans (sort3_perm B).symm)
theorem sortY3_fz (L : List T3) : sortY (.fz (L.map enc3)) = Y.pure ((sort3 L).map enc3) := by
  show Y.need (sortOk (L.map enc3)) (Y.pure ((L.map enc3).mergeSort dle)) = _
  rw [Y.need_pos (sortOk3 L), sort3_map]
theorem sortY3_fd (L : List T3) : sortY (.fd ((dset enc3 L).map (·.1)) ((dset enc3 L).map (·.2))) = Y.pure ((sort3 L).map enc3) := by
  have e : rowV (.fd ((dset enc3 L).map (·.1)) ((dset enc3 L).map (·.2))) [] = some (L.map enc3) := by
    show some ((((dset enc3 L).map (·.1)).zip ((dset enc3 L).map (·.2))).map (·.1)) = _
    rw [zip_fs, keys_dset]
  unfold sortY
  rw [e]
  show Y.need (sortOk (L.map enc3)) (Y.pure ((L.map enc3).mergeSort dle)) = _
  rw [Y.need_pos (sortOk3 L), sort3_map]
/-- by one state, i turned over -/
def locT (t : List (List Bool)) (a b : Nat) (bit : Bool) (i : Nat) : List T3 := t.zipIdx.flatMap fun p => if bat p.1 a = bat p.1 b then [] else [(i, p.2, bat p.1 a == bit)]
def localL (t : List (List Bool)) (l : List Bool) : List T3 := (List.range t.length).flatMap fun i => locT t (numB l) (numB (flip l i)) (bat l i) i
theorem locT_len (t : List (List Bool)) (a b : Nat) (bit : Bool) (i : Nat) : (locT t a b bit i).length ≤ t.length := by
  have := len_flatMap_le (c := fun p : List Bool × Nat => if bat p.1 a = bat p.1 b then [] else [(i, p.2, bat p.1 a == bit)]) (m := 1) (xs := t.zipIdx) fun p _ => by split <;> simp
  simpa [locT] using this
theorem localL_len (t : List (List Bool)) (l : List Bool) : (localL t l).length ≤ t.length * t.length := by
  have := len_flatMap_le (c := fun i => locT t (numB l) (numB (flip l i)) (bat l i) i) (m := t.length) (xs := List.range t.length) fun i _ => locT_len _ _ _ _ _
  simpa [localL] using this
theorem flip_len (l : List Bool) (i : Nat) : (flip l i).length = l.length := by unfold flip; simp
theorem zipIdx_mem {t : List (List Bool)} {p : List Bool × Nat} (h : p ∈ t.zipIdx) : p.1 ∈ t ∧ t[p.2]? = some p.1 := by
  have := List.mem_zipIdx_iff_getElem?.mp h
  exact ⟨List.mem_of_getElem? this, this⟩
theorem y_local_eq {t : List (List Bool)} (h : TabOk 7 t) {l : List Bool} (hl : l.length = t.length) : y__law_local (tbs t) (tb l) = Y.pure (.fz ((sort3 (localL t l)).map enc3)) := by
  obtain ⟨h1, h2, h3⟩ := h
  have h7 : t.length * t.length ≤ 49 := Nat.mul_le_mul h2 h2
  unfold y__law_local
  simp [y_number_eq l (by omega)]
  rw [r1Y_nat _ (by omega)]
  simp
  rw [forY_collect (fun i => (locT t (numB l) (numB (flip l i)) (bat l i) i).map enc3) ?h ?l]
  case l =>
    have := localL_len t l
    rw [← List.map_flatMap, List.length_map]
    show 0 + (localL t l).length ≤ _
    omega
  case h =>
    intro i hi s hs
    have hi' : i < t.length := by simpa using hi
    simp [y_over_eq l i (by omega) (by omega), y_number_eq (flip l i) (by rw [flip_len]; omega)]
    rw [enumL_map, forY_collect (fun p => ((if bat p.1 (numB l) = bat p.1 (numB (flip l i)) then [] else [(i, p.2, bat p.1 (numB l) == bat l i)] : List T3)).map enc3) ?h2 ?l2]
    case l2 =>
      rw [← List.map_flatMap]
      exact hs
    case h2 =>
      intro p hp s hs
      have hr := h3 _ (zipIdx_mem hp).1
      have b1 : numB l < p.1.length := by rw [hr, ← hl]; exact numB_lt l
      have b2 : numB (flip l i) < p.1.length := by rw [hr, ← hl, ← flip_len l i]; exact numB_lt _
      simp [getI_bits b1, getI_bits b2, getI_bits (l := l) (i := i) (by omega)]
      cases e1 : bat p.1 (numB l) <;> cases e2 : bat p.1 (numB (flip l i)) <;> cases e3 : bat l i <;> simp [e1, e2] at hs ⊢ <;> rw [YS.need_pos (show s.length < 16777216 by omega)] <;> rfl
    rw [← List.map_flatMap]
    rfl
  rw [← List.map_flatMap]
  simp
  show (sortY (.fz ((localL t l).map enc3))).bind _ = _
  rw [sortY3_fz]
  rfl
/-- hashes of triples of small numbers -/
def all3 : List T3 := (List.range 8).flatMap fun i => (List.range 8).flatMap fun j => [(i, j, false), (i, j, true)]
theorem all3_nodup : all3.Nodup := by decide +kernel
theorem all3_mem {a : T3} (h1 : a.1 < 8) (h2 : a.2.1 < 8) : a ∈ all3 := by
  obtain ⟨i, j, b⟩ := a
  unfold all3
  simp only [List.mem_flatMap, List.mem_range]
  exact ⟨i, h1, j, h2, by cases b <;> simp⟩
def hash3 (a : T3) : Int := PySem.reduceHash (PySem.Builtin.Tuple.tupleHashOf [PySem.hashInt a.1, PySem.hashInt a.2.1, PySem.hashInt (sgn a.2.2)])
theorem hash3_eq (w : PySem.World) (a : T3) : (enc3 a).nk.map (PySem.NestedKey.hash w) = some (hash3 a) := by
  rw [nk3]
  simp [PySem.NestedKey.hash, PySem.NestedKey.hashes, hash3]
theorem hash3_nodup : (all3.map hash3).Nodup := by decide +kernel
theorem nodup_map_on {α β : Type} {f : α → β} : ∀ {l : List α}, l.Nodup → (∀ a ∈ l, ∀ b ∈ l, f a = f b → a = b) → (l.map f).Nodup
  | [], _, _ => List.nodup_nil
  | a :: l, h, g => by
    rw [List.map_cons]
    refine List.nodup_cons.mpr ⟨fun q => ?_, nodup_map_on (List.nodup_cons.mp h).2 fun x hx y hy => g x (List.mem_cons_of_mem _ hx) y (List.mem_cons_of_mem _ hy)⟩
    obtain ⟨b, hb, e⟩ := List.mem_map.mp q
    have := g a List.mem_cons_self b (List.mem_cons_of_mem _ hb) e.symm
    subst this
    exact (List.nodup_cons.mp h).1 hb
theorem inj_of_nodup {α β : Type} {f : α → β} : ∀ {l : List α}, (l.map f).Nodup → ∀ a ∈ l, ∀ b ∈ l, f a = f b → a = b
  | c :: l, h, a, ha, b, hb, e => by
    rw [List.map_cons] at h
    obtain ⟨h1, h2⟩ := List.nodup_cons.mp h
    rcases List.mem_cons.mp ha with ea | ha' <;> rcases List.mem_cons.mp hb with eb | hb'
    · rw [ea, eb]
    · exact absurd (by rw [← ea, e]; exact List.mem_map_of_mem hb') h1
    · exact absurd (by rw [← eb, ← e]; exact List.mem_map_of_mem ha') h1
    · exact inj_of_nodup h2 a ha' b hb' e
def Small (a : T3) : Prop := a.1 < 8 ∧ a.2.1 < 8
theorem hash3_ok {L : List T3} (nd : L.Nodup) (sm : ∀ a ∈ L, Small a) (w : PySem.World) : ((dset enc3 L).map fun p => p.1.nk.map (·.hash w)).Nodup := by
  have : ((dset enc3 L).map fun p => p.1.nk.map (·.hash w)) = (L.map hash3).map some := by
    unfold dset
    rw [List.map_map, List.map_map]
    exact List.map_congr_left fun a _ => hash3_eq w a
  rw [this]
  refine nodup_map_on (nodup_map_on nd fun a ha b hb e => ?_) fun a _ b _ e => Option.some.inj e
  exact inj_of_nodup hash3_nodup a (all3_mem (sm a ha).1 (sm a ha).2) b (all3_mem (sm b hb).1 (sm b hb).2) e
theorem kd3_ok (L : List T3) : ((dset enc3 L).all fun p => p.1.kd == 3) = true := by
  unfold dset
  rw [List.all_map]
  exact List.all_eq_true.mpr fun a _ => rfl
theorem small_len {L : List T3} (nd : L.Nodup) (sm : ∀ a ∈ L, Small a) : L.length ≤ 128 := by
  have := nodup_len nd all3_nodup fun a ha => all3_mem (sm a ha).1 (sm a ha).2
  have e : all3.length = 128 := by decide +kernel
  omega
/-- d.update of such -/
theorem upd3 {σ : Type} {ks more : List T3} (n1 : ks.Nodup) (n2 : more.Nodup) (s1 : ∀ a ∈ ks, Small a) (s2 : ∀ a ∈ more, Small a) (k : List (D × D) → YS σ) : updY (dset enc3 ks) (.fd ((dset enc3 more).map (·.1)) ((dset enc3 more).map (·.2))) k = k (dset enc3 (more.foldl ins ks)) := by
  have e : dicOf (.fd ((dset enc3 more).map (·.1)) ((dset enc3 more).map (·.2))) [] = some (dset enc3 more) := by
    show some (((dset enc3 more).map (·.1)).zip ((dset enc3 more).map (·.2))) = _
    rw [zip_fs]
  unfold updY
  rw [e]
  dsimp only
  have l1 := small_len n1 s1
  have l2 := small_len n2 s2
  rw [YS.need_pos ⟨by rw [List.all_append, kd3_ok, kd3_ok]; rfl, .inr (hash3_ok n2 s2), by rw [len_dset, len_dset]; exact big_le (by omega)⟩, putAll_dset key3]
theorem localL_mem {t : List (List Bool)} {l : List Bool} {a : T3} : a ∈ localL t l ↔ a.1 < t.length ∧ ∃ r, t[a.2.1]? = some r ∧ bat r (numB l) ≠ bat r (numB (flip l a.1)) ∧ a.2.2 = (bat r (numB l) == bat l a.1) := by
  unfold localL locT
  simp only [List.mem_flatMap, List.mem_range]
  constructor
  · rintro ⟨i, hi, p, hp, ha⟩
    split at ha
    · simp at ha
    · rename_i c
      rw [List.mem_singleton] at ha
      subst ha
      exact ⟨hi, p.1, (zipIdx_mem hp).2, c, rfl⟩
  · rintro ⟨h1, r, h2, h3, h4⟩
    refine ⟨a.1, h1, (r, a.2.1), List.mem_zipIdx_iff_getElem?.mpr h2, ?_⟩
    rw [if_neg h3, List.mem_singleton]
    exact Prod.ext rfl (Prod.ext rfl h4)
theorem flatMap_nodup {α β : Type} {f : α → List β} : ∀ {l : List α}, l.Nodup → (∀ a ∈ l, (f a).Nodup) → (∀ a ∈ l, ∀ b ∈ l, ∀ x, x ∈ f a → x ∈ f b → a = b) → (l.flatMap f).Nodup
  | [], _, _, _ => List.nodup_nil
  | a :: l, h, h1, h2 => by
    rw [List.flatMap_cons]
    refine List.nodup_append.mpr ⟨h1 a List.mem_cons_self, flatMap_nodup (List.nodup_cons.mp h).2 (fun b hb => h1 b (List.mem_cons_of_mem _ hb)) fun b hb c hc => h2 b (List.mem_cons_of_mem _ hb) c (List.mem_cons_of_mem _ hc), ?_⟩
    rintro x hx y hy rfl
    obtain ⟨b, hb, hxb⟩ := List.mem_flatMap.mp hy
    have := h2 a List.mem_cons_self b (List.mem_cons_of_mem _ hb) x hx hxb
    subst this
    exact (List.nodup_cons.mp h).1 hb
theorem zipIdx_nodup {α : Type} (t : List α) : t.zipIdx.Nodup := by
  have : (t.zipIdx.map (·.2)).Nodup := by
    rw [List.zipIdx_map_snd]
    exact List.nodup_range'
  exact (List.Pairwise.of_map (S := fun a b => a ≠ b) (f := (·.2)) (fun a b h e => h (by rw [e])) this)
theorem localL_nodup (t : List (List Bool)) (l : List Bool) : (localL t l).Nodup := by
  unfold localL
  refine flatMap_nodup List.nodup_range (fun i _ => ?_) fun i _ j _ x hx hy => ?_
  · unfold locT
    refine flatMap_nodup (zipIdx_nodup t) (fun p _ => by split <;> simp) fun p hp q hq x hx hy => ?_
    split at hx
    · simp at hx
    · split at hy
      · simp at hy
      · rw [List.mem_singleton] at hx hy
        subst hx
        have e : p.2 = q.2 := by
          have := congrArg (fun a : T3 => a.2.1) hy
          exact this
        have h1 := (zipIdx_mem hp).2
        have h2 := (zipIdx_mem hq).2
        rw [e, h2] at h1
        exact Prod.ext (Option.some.inj h1).symm e
  · have e : ∀ i, x ∈ locT t (numB l) (numB (flip l i)) (bat l i) i → x.1 = i := fun i hx => by
      unfold locT at hx
      obtain ⟨p, hp, hx⟩ := List.mem_flatMap.mp hx
      split at hx
      · simp at hx
      · rw [List.mem_singleton] at hx
        rw [hx]
    rw [← e i hx, ← e j hy]
theorem localL_small {t : List (List Bool)} (h : t.length ≤ 7) {l : List Bool} : ∀ a ∈ localL t l, Small a := fun a ha => by
  obtain ⟨h1, r, h2, _⟩ := localL_mem.mp ha
  have := (List.getElem?_eq_some_iff.mp h2).1
  exact ⟨by omega, by omega⟩
/-- it is in the web -/
def InWeb (t : List (List Bool)) (a : T3) : Prop := ∃ l, l.length = t.length ∧ a ∈ localL t l
theorem y_law_web_wp {t : List (List Bool)} (h : TabOk 7 t) {Q : D → Prop} {E : Ec} (q : ∀ ks : List T3, ks.Nodup → (∀ a, a ∈ ks ↔ InWeb t a) → Q (.fz ((sort3 ks).map enc3))) : y__law_web (tbs t) Q E := by
  have h2 := h.2.1
  unfold y__law_web
  simp [y_states_eq t.length (by omega)]
  have hs := states_small (n := t.length) (by omega)
  refine fnI (YS.seqI ?_)
  refine forY_wp (fun i s => ∃ ks : List T3, s = dset enc3 ks ∧ ks.Nodup ∧ (∀ a ∈ ks, Small a) ∧ ∀ a, a ∈ ks ↔ ∃ l ∈ (states t.length).take i, a ∈ localL t l) ⟨[], rfl, List.nodup_nil, fun a ha => by simp at ha, fun a => by simp⟩ ?_ ?_
  · rintro i l s hl ⟨ks, rfl, nd, sm, mem⟩ M hM
    have hl' : l.length = t.length := states_mem.mp (List.mem_of_getElem? hl)
    have hi : i < (states t.length).length := (List.getElem?_eq_some_iff.mp hl).1
    simp [y_local_eq h hl']
    have nd2 : (sort3 (localL t l)).Nodup := (sort3_perm _).nodup_iff.mpr (localL_nodup t l)
    have sm2 : ∀ a ∈ sort3 (localL t l), Small a := fun a ha => localL_small h2 a ((sort3_perm _).subset ha)
    have ll := small_len nd2 sm2
    rw [lcY_map (g := fun a => .tup [enc3 a, .bl true]) (big_le (by omega)) fun a _ => rfl]
    have e : dictPY (.fz ((sort3 (localL t l)).map fun a => .tup [enc3 a, .bl true])) = Y.pure (dset enc3 (sort3 (localL t l))) := by
      unfold dictPY
      dsimp only [lsD]
      rw [pairsV_dset]
      dsimp only
      rw [Y.need_pos (kd3_ok _)]
      have := putAll_dset key3 (sort3 (localL t l)) []
      rw [insAll_id _ _ (by simpa using nd2)] at this
      exact congrArg Y.pure this
    simp only [YS.get_pure, e]
    rw [upd3 nd nd2 sm sm2]
    refine hM _ ⟨_, rfl, insAll_nodup nd, fun a ha => ?_, fun a => ?_⟩
    · rcases insAll_mem.mp ha with q | q
      · exact sm a q
      · exact sm2 a q
    · have hi' := (List.getElem?_eq_some_iff.mp hl).2
      rw [insAll_mem, mem a, List.take_succ_eq_append_getElem hi, hi', (sort3_perm _).mem_iff]
      constructor
      · rintro (⟨l', h1, h2⟩ | h1)
        · exact ⟨l', List.mem_append_left _ h1, h2⟩
        · exact ⟨l, List.mem_append_right _ (List.mem_singleton.mpr rfl), h1⟩
      · rintro ⟨l', h1, h2⟩
        rcases List.mem_append.mp h1 with q | q
        · exact .inl ⟨l', q, h2⟩
        · rw [List.mem_singleton.mp q] at h2; exact .inr h2
  · rintro s ⟨ks, rfl, nd, sm, mem⟩
    simp only [sortY3_fd, YS.ret_ap, Y.pure_bind]
    refine q ks nd fun a => ?_
    rw [mem a, List.take_length]
    exact ⟨fun ⟨l, h1, h2⟩ => ⟨l, states_mem.mp h1, h2⟩, fun ⟨l, h1, h2⟩ => ⟨l, states_mem.mpr h1, h2⟩⟩
/-! the program's own -/
theorem numB_set (l : List Bool) (i : Nat) (h : i < l.length) : numB (l.set i true) = numB (l.set i false) + pw i := by
  induction l generalizing i with
  | nil => simp at h
  | cons b l ih =>
    cases i with
    | zero => simp [numB, pw]; omega
    | succ i =>
      have := ih i (by simpa using h)
      simp only [List.set_cons_succ, numB, this]
      have : pw (i + 1) = 2 * pw i := by unfold pw; rw [Nat.pow_succ]; omega
      omega
theorem set_bat (l : List Bool) (i : Nat) (h : i < l.length) : l.set i (bat l i) = l := by
  rw [bat_get h, List.set_getElem_self]
theorem numB_bit (l : List Bool) (i : Nat) (h : i < l.length) : numB l / pw i % 2 = if bat l i = true then 1 else 0 := by
  induction l generalizing i with
  | nil => simp at h
  | cons b l ih =>
    cases i with
    | zero =>
      simp [numB, pw, bat]
      split <;> omega
    | succ i =>
      have := ih i (by simpa using h)
      have e : bat (b :: l) (i + 1) = bat l i := by simp [bat]
      rw [e, ← this, numB]
      have : pw (i + 1) = 2 * pw i := by unfold pw; rw [Nat.pow_succ]; omega
      rw [this, ← Nat.div_div_eq_div_mul]
      have : ((if b = true then 1 else 0) + 2 * numB l) / 2 = numB l := by split <;> omega
      rw [this]
theorem y_bit_eq {l : List Bool} {i : Nat} (h : i < l.length) (hl : l.length ≤ 7) : y_bit_of (.int (numB l)) (.int i) = Y.pure (bd (bat l i)) := by
  have hp := getI_pow (n := i) (by omega) []
  simp only [powers] at hp
  unfold y_bit_of
  simp [hp]
  have p0 : 0 < pw i := Nat.pow_pos (by decide)
  have p1 := pw_le7 (n := i) (by omega)
  rw [fdivD_ok _ ⟨by omega, by omega⟩]
  simp
  have := numB_bit l i h
  congr 1
  have e : ((numB l : Int) / (pw i : Int) % 2) = ((numB l / pw i % 2 : Nat) : Int) := by omega
  rw [e, this]
  cases bat l i <;> rfl
/-- the signs that a state shows -/
def sgT (t : List (List Bool)) (lo hi : Nat) (i : Nat) : List T3 := t.zipIdx.flatMap fun p => if bat p.1 hi = bat p.1 lo then [] else [(i, p.2, bat p.1 hi)]
def sgL (t : List (List Bool)) (l : List Bool) : List T3 := (List.range t.length).flatMap fun i => sgT t (numB (l.set i false)) (numB (l.set i true)) i
theorem sgT_len (t : List (List Bool)) (a b i : Nat) : (sgT t a b i).length ≤ t.length := by
  have := len_flatMap_le (c := fun p : List Bool × Nat => if bat p.1 b = bat p.1 a then [] else [(i, p.2, bat p.1 b)]) (m := 1) (xs := t.zipIdx) fun p _ => by split <;> simp
  simpa [sgT] using this
theorem sgL_mem {t : List (List Bool)} {l : List Bool} (hl : l.length = t.length) {a : T3} : a ∈ sgL t l ↔ a ∈ localL t l := by
  rw [localL_mem]
  unfold sgL sgT
  simp only [List.mem_flatMap, List.mem_range]
  have key : ∀ i, i < t.length → ∀ r : List Bool, (bat r (numB (l.set i true)) = bat r (numB (l.set i false)) ↔ bat r (numB l) = bat r (numB (flip l i))) ∧ (bat r (numB (l.set i true)) ≠ bat r (numB (l.set i false)) → bat r (numB (l.set i true)) = (bat r (numB l) == bat l i)) := fun i hi r => by
    have e := set_bat l i (by omega)
    unfold flip
    cases c : bat l i
    · rw [c] at e
      rw [e]
      simp only [Bool.not_false]
      refine ⟨⟨fun h => h.symm, fun h => h.symm⟩, fun h => ?_⟩
      revert h
      cases bat r (numB (l.set i true)) <;> cases bat r (numB l) <;> simp
    · rw [c] at e
      rw [e]
      simp only [Bool.not_true]
      refine ⟨by simp, fun h => ?_⟩
      revert h
      cases bat r (numB (l.set i false)) <;> cases bat r (numB l) <;> simp
  constructor
  · rintro ⟨i, hi, p, hp, ha⟩
    split at ha
    · simp at ha
    · rename_i c
      rw [List.mem_singleton] at ha
      subst ha
      exact ⟨hi, p.1, (zipIdx_mem hp).2, fun q => c ((key i hi p.1).1.mpr q), (key i hi p.1).2 c⟩
  · rintro ⟨h1, r, h2, h3, h4⟩
    refine ⟨a.1, h1, (r, a.2.1), List.mem_zipIdx_iff_getElem?.mpr h2, ?_⟩
    have c : ¬ bat r (numB (l.set a.1 true)) = bat r (numB (l.set a.1 false)) := fun q => h3 ((key a.1 h1 r).1.mp q)
    rw [if_neg c, List.mem_singleton]
    exact Prod.ext rfl (Prod.ext rfl (h4.trans ((key a.1 h1 r).2 c).symm))
def sgK (t : List (List Bool)) (l : List Bool) : List T3 := (sgL t l).foldl ins []
theorem sgK_perm {t : List (List Bool)} {l : List Bool} (hl : l.length = t.length) : (sgK t l).Perm (localL t l) := perm_of_mem (insAll_nodup List.nodup_nil) (localL_nodup t l) fun a => by
  unfold sgK
  rw [insAll_mem, sgL_mem hl]
  simp
theorem fld_many (t : List (List Bool)) : fldD [cNet] "many" (netD t) [] = .ok (.int t.length) [] := by
  unfold netD
  simp [lkF]
theorem fld_tables (t : List (List Bool)) : fldD [cNet] "tables" (netD t) [] = .ok (tbs t) [] := by
  unfold netD
  simp [lkF]
theorem y_signs_eq {t : List (List Bool)} (h : TabOk 7 t) {l : List Bool} (hl : l.length = t.length) : y_signs_at (netD t) (.int (numB l)) = Y.pure (.fd ((dset enc3 (sgK t l)).map (·.1)) ((dset enc3 (sgK t l)).map (·.2))) := by
  obtain ⟨h1, h2, h3⟩ := h
  have h7 : t.length * t.length ≤ 49 := Nat.mul_le_mul h2 h2
  unfold y_signs_at
  simp [fld_many]
  rw [r1Y_nat _ (by omega)]
  simp
  rw [forD (ek := enc3) (fun i => sgT t (numB (l.set i false)) (numB (l.set i true)) i) [] ?e ?h ?l]
  case e => rfl
  case l =>
    have := len_flatMap_le (c := fun i => sgT t (numB (l.set i false)) (numB (l.set i true)) i) (m := t.length) (xs := List.range t.length) fun i _ => sgT_len _ _ _ _
    rw [List.length_range] at this
    simp only [List.length_nil]
    omega
  case h =>
    intro i hi ks hk
    have hi' : i < t.length := by simpa using hi
    have hp := getI_pow (n := i) (by omega) []
    simp only [powers] at hp
    have p1 := pw_le7 (n := i) (by omega)
    have nb := numB_set l i (by omega)
    have low : (numB l : Int) - bI (bat l i) * (pw i : Int) = (numB (l.set i false) : Int) := by
      have e := set_bat l i (by omega)
      cases c : bat l i
      · rw [c] at e; rw [e]; simp [bI]
      · rw [c] at e; rw [e] at nb; simp [bI]; omega
    simp only [y_bit_eq (l := l) (i := i) (by omega) (by omega), YS.get_pure, ixA_tp, hp, Y.ofR_ok]
    rw [mulD_r _ ⟨by omega, by omega⟩]
    simp only [YS.get_pure, Y.ofR_ok, subD_int, low, fld_tables, rowY_tup]
    rw [enumL_map, forY_dset (ek := enc3) (fun p => ((if bat p.1 (numB (l.set i true)) = bat p.1 (numB (l.set i false)) then [] else [(i, p.2, bat p.1 (numB (l.set i true)))] : List T3))) ?h2 hk]
    case h2 =>
      intro p hp2 ks hk
      have hr := h3 _ (zipIdx_mem hp2).1
      have b1 : numB (l.set i false) < p.1.length := by rw [hr, ← hl]; have := numB_lt (l.set i false); simpa using this
      have b2 : numB (l.set i true) < p.1.length := by rw [hr, ← hl]; have := numB_lt (l.set i true); simpa using this
      have ee : ((numB (l.set i false) : Int) + (pw i : Int)) = (numB (l.set i true) : Int) := by omega
      simp only [us2_tup, YS.get_pure, ixA_tp, hp, Y.ofR_ok, addD_int, ee, getI_bits b1, getI_bits b2, subD_int, neD_int, isY_bl]
      cases e1 : bat p.1 (numB (l.set i true)) <;> cases e2 : bat p.1 (numB (l.set i false)) <;> simp [e1, e2] at hk ⊢
      · rw [YS.need_pos ⟨fit_dset key3 (i, p.2, false) ks, by rw [len_dset]; exact (show ks.length < 16777216 by omega)⟩]
        exact congrArg YS.nx (put_dset key3 (i, p.2, false) ks)
      · rw [YS.need_pos ⟨fit_dset key3 (i, p.2, true) ks, by rw [len_dset]; exact (show ks.length < 16777216 by omega)⟩]
        exact congrArg YS.nx (put_dset key3 (i, p.2, true) ks)
    rfl
  rfl
theorem numB_inj : ∀ {l m : List Bool}, l.length = m.length → numB l = numB m → l = m
  | [], [], _, _ => rfl
  | [], _ :: _, h, _ => by simp at h
  | _ :: _, [], h, _ => by simp at h
  | a :: l, b :: m, h, e => by
    rw [numB, numB] at e
    have hm : numB l = numB m := by
      cases a <;> cases b <;> simp at e <;> omega
    have := numB_inj (l := l) (m := m) (by simpa using h) hm
    subst this
    have : a = b := by cases a <;> cases b <;> simp at e ⊢ <;> omega
    rw [this]
theorem numB_surj : ∀ (n k : Nat), k < 2 ^ n → ∃ l : List Bool, l.length = n ∧ numB l = k
  | 0, k, h => ⟨[], rfl, by simp at h; simp [numB]; omega⟩
  | n + 1, k, h => by
    rw [Nat.pow_succ] at h
    obtain ⟨l, h1, h2⟩ := numB_surj n (k / 2) (by omega)
    refine ⟨(k % 2 == 1) :: l, by simp [h1], ?_⟩
    rw [numB, h2]
    have : k % 2 = 0 ∨ k % 2 = 1 := by omega
    rcases this with q | q <;> simp [q] <;> omega
theorem sum_bits : ∀ (l : List Bool) (k : Nat), (((l.zipIdx k).filter (·.1)).map fun p => ((pw p.2 : Nat) : Int)).sum = ((pw k * numB l : Nat) : Int)
  | [], k => by simp [numB]
  | b :: l, k => by
    have ih := sum_bits l (k + 1)
    rw [List.zipIdx_cons]
    have e : pw (k + 1) = 2 * pw k := by unfold pw; rw [Nat.pow_succ]; omega
    rw [e] at ih
    have m : pw k * (2 * numB l) = 2 * pw k * numB l := by rw [← Nat.mul_assoc, Nat.mul_comm (pw k) 2]
    cases b
    · rw [List.filter_cons_of_neg (by simp), ih, numB]
      simp only [Bool.false_eq_true, if_false, Nat.zero_add]
      rw [m]
    · rw [List.filter_cons_of_pos (by simp), List.map_cons, List.sum_cons, ih, numB]
      simp only [if_true, Nat.mul_add, Nat.mul_one]
      rw [m]
      omega
theorem y_number_by_eq {l : List Bool} (hl : l.length ≤ 7) : y_number_by (tb l) = Y.pure (.int (numB l)) := by
  unfold y_number_by
  simp
  rw [enumL_map, lcY_filter (p := fun p => p.1) (g := fun p => .int (pw p.2)) (big_le (by simp; omega)) ?h]
  case h =>
    intro p hp
    have hi : p.2 < l.length := (List.getElem?_eq_some_iff.mp (List.mem_zipIdx_iff_getElem?.mp hp)).1
    have hp := getI_pow (n := p.2) (by omega) []
    simp only [powers] at hp
    simp only [un2_tup]
    unfold elY
    cases c : p.1 <;> simp [hp]
  have := sum_bits l 0
  simp only [Y.pure_bind]
  rw [sumL_map, this]
  simp [pw]
theorem y_check_net_eq (t : List (List Bool)) : y_check_net (netD t) = Y.pure .non := by
  unfold y_check_net netD
  simp
theorem y_check_state_eq {t : List (List Bool)} {l : List Bool} (h7 : t.length ≤ 7) (hl : l.length = t.length) : y_check_state (netD t) (tb l) = Y.pure .non := by
  unfold y_check_state
  simp [y_check_net_eq, fld_many, y_bits_eq t.length l (by omega), hl]
theorem y_web_of_wp {t : List (List Bool)} (h : TabOk 7 t) {Q : D → Prop} {E : Ec} (q : ∀ ks : List T3, ks.Nodup → (∀ a, a ∈ ks ↔ InWeb t a) → Q (.fz ((sort3 ks).map enc3))) : y_web_of (netD t) Q E := by
  have h2 := h.2.1
  have hp := getI_pow h2 []
  simp only [powers] at hp
  have p1 := pw_le7 h2
  unfold y_web_of
  simp [fld_many, hp]
  rw [r1Y_nat _ (by omega)]
  simp
  refine fnI (YS.seqI ?_)
  refine forY_wp (fun i s => ∃ ks : List T3, s = dset enc3 ks ∧ ks.Nodup ∧ (∀ a ∈ ks, Small a) ∧ ∀ a, a ∈ ks ↔ ∃ l, l.length = t.length ∧ numB l < i ∧ a ∈ localL t l) ⟨[], rfl, List.nodup_nil, fun a ha => by simp at ha, fun a => by simp⟩ ?_ ?_
  · rintro i k s hk ⟨ks, rfl, nd, sm, mem⟩ M hM
    obtain ⟨hi, e⟩ := List.getElem?_eq_some_iff.mp hk
    have hi' : i < pw t.length := by simpa using hi
    have : k = i := by simpa using e.symm
    subst this
    obtain ⟨l, hl, rfl⟩ := numB_surj t.length k hi'
    have pm := sgK_perm hl
    have nd2 : (sgK t l).Nodup := pm.nodup_iff.mpr (localL_nodup t l)
    have sm2 : ∀ a ∈ sgK t l, Small a := fun a ha => localL_small h2 a (pm.subset ha)
    simp only [y_signs_eq h hl, YS.get_pure]
    rw [upd3 nd nd2 sm sm2]
    refine hM _ ⟨_, rfl, insAll_nodup nd, fun a ha => ?_, fun a => ?_⟩
    · rcases insAll_mem.mp ha with q | q
      · exact sm a q
      · exact sm2 a q
    · rw [insAll_mem, mem a, pm.mem_iff]
      constructor
      · rintro (⟨l', h1, h2, h3⟩ | h1)
        · exact ⟨l', h1, by omega, h3⟩
        · exact ⟨l, hl, by omega, h1⟩
      · rintro ⟨l', h1, h2, h3⟩
        by_cases c : numB l' = numB l
        · have := numB_inj (h1.trans hl.symm) c
          subst this
          exact .inr h3
        · exact .inl ⟨l', h1, by omega, h3⟩
  · rintro s ⟨ks, rfl, nd, sm, mem⟩
    simp only [sortY3_fd, YS.ret_ap, Y.pure_bind]
    refine q ks nd fun a => ?_
    rw [mem a]
    exact ⟨fun ⟨l, h1, _, h2⟩ => ⟨l, h1, h2⟩, fun ⟨l, h1, h2⟩ => ⟨l, h1, by simp; have := numB_lt l; rw [h1] at this; exact this, h2⟩⟩
def enc2 (a : Nat × Nat) : D := .tup [.int a.1, .int a.2]
theorem key2 : KeyE enc2 := ⟨⟨3, by decide, fun a => rfl⟩, fun a b e => by
  have e : some (PySem.NestedKey.tup [.num a.1, .num a.2]) = some (PySem.NestedKey.tup [.num b.1, .num b.2]) := e
  simp only [Option.some.injEq, PySem.NestedKey.tup.injEq, List.cons.injEq, PySem.NestedKey.num.injEq] at e
  exact Prod.ext (by omega) (by omega)⟩
/-- the pairs of a web -/
def prs (W : List T3) : List (Nat × Nat) := W.map fun a => (a.1, a.2.1)
theorem y_even_wp {t : List (List Bool)} (h : TabOk 7 t) {Q : D → Prop} {E : Ec} (q : ∀ ks : List T3, ks.Nodup → (∀ a, a ∈ ks ↔ InWeb t a) → Q (.bl (decide (((prs (sort3 ks)).foldl ins []).length = (sort3 ks).length)))) : y_is_even_sided (netD t) Q E := by
  unfold y_is_even_sided
  simp [y_check_net_eq]
  refine Y.bindI (y_web_of_wp h fun ks nd mem => ?_)
  have sm : ∀ a ∈ sort3 ks, Small a := fun a ha => by
    obtain ⟨l, hl, h2⟩ := (mem a).mp ((sort3_perm ks).subset ha)
    exact localL_small h.2.1 a h2
  have ll := small_len ((sort3_perm ks).nodup_iff.mpr nd) sm
  simp
  rw [show ([] : List (D × D)) = dset enc2 [] from rfl, dcY_dset (enc := enc3) key2 (fun a : T3 => (a.1, a.2.1)) (fun a _ => rfl) (by simp; omega)]
  have e : ∀ a b : Nat, decide ((a : Int) = (b : Int)) = decide (a = b) := fun a b => by
    rw [decide_eq_decide]; omega
  simp [len_dset, e]
  exact q ks nd mem
theorem y_web_wp {t : List (List Bool)} (h : TabOk 7 t) {Q : D → Prop} {E : Ec} (q : ∀ ks : List T3, ks.Nodup → (∀ a, a ∈ ks ↔ InWeb t a) → Q (.tup ((sort3 ks).map enc3))) : y_web (netD t) Q E := by
  unfold y_web
  simp [y_check_net_eq]
  refine Y.bindI (y_web_of_wp h fun ks nd mem => ?_)
  exact q ks nd mem
theorem y_local_web_eq {t : List (List Bool)} (h : TabOk 7 t) {l : List Bool} (hl : l.length = t.length) : y_local_web (netD t) (tb l) = Y.pure (.tup ((sort3 (localL t l)).map enc3)) := by
  unfold y_local_web
  have h2 := h.2.1
  simp [y_check_state_eq h.2.1 hl, y_number_by_eq (l := l) (by omega), y_signs_eq h hl]
  have := sortY3_fd (sgK t l)
  rw [this, sort3_congr (sgK_perm hl)]
  rfl
/-! all together -/
theorem small_ip {a : T3} (h : Small a) : (enc3 a).ip := by
  have l : ∀ n : Nat, n < 8 → (n : Int).natAbs.log2 < 1920 := fun n hn => by
    have : n = 0 ∨ n = 1 ∨ n = 2 ∨ n = 3 ∨ n = 4 ∨ n = 5 ∨ n = 6 ∨ n = 7 := by omega
    rcases this with rfl | rfl | rfl | rfl | rfl | rfl | rfl | rfl <;> decide
  refine ⟨l _ h.1, l _ h.2, ?_, trivial⟩
  show (sgn a.2.2).natAbs.log2 < 1920
  cases a.2.2 <;> decide
theorem small_rl {a : T3} (h : Small a) : (enc3 a).rl ≤ 30 := by
  have l : ∀ n : Nat, n < 8 → (n : Int).natAbs.log2 ≤ 2 := fun n hn => by
    have : n = 0 ∨ n = 1 ∨ n = 2 ∨ n = 3 ∨ n = 4 ∨ n = 5 ∨ n = 6 ∨ n = 7 := by omega
    rcases this with rfl | rfl | rfl | rfl | rfl | rfl | rfl | rfl <;> decide
  have l1 := l _ h.1
  have l2 := l _ h.2
  have l3 : (sgn a.2.2).natAbs.log2 ≤ 2 := by cases a.2.2 <;> decide
  show ((a.1 : Int).natAbs.log2 + 2) + 2 + (((a.2.1 : Int).natAbs.log2 + 2) + 2 + (((sgn a.2.2).natAbs.log2 + 2) + 2 + 0)) + 3 ≤ 30
  omega
theorem rls_le {m : Nat} : ∀ {xs : List D}, (∀ d ∈ xs, d.rl ≤ m) → D.rls xs ≤ xs.length * (m + 2)
  | [], _ => by simp [D.rls]
  | x :: xs, h => by
    have := rls_le (m := m) (xs := xs) fun d hd => h d (List.mem_cons_of_mem _ hd)
    have := h x List.mem_cons_self
    rw [D.rls, List.length_cons, Nat.succ_mul]
    omega
theorem dps_le {m : Nat} : ∀ {xs : List D}, (∀ d ∈ xs, d.dp ≤ m) → D.dps xs ≤ m
  | [], _ => Nat.zero_le _
  | x :: xs, h => by
    rw [D.dps]
    exact Nat.max_le.mpr ⟨h x List.mem_cons_self, dps_le fun d hd => h d (List.mem_cons_of_mem _ hd)⟩
theorem web_ip {W : List T3} (sm : ∀ a ∈ W, Small a) (nd : W.Nodup) : (D.tup (W.map enc3)).ip ∧ (D.tup (W.map enc3)).dp ≤ 50 ∧ (D.tup (W.map enc3)).rl ≤ 16777216 := by
  have ll := small_len nd sm
  refine ⟨ips_iff.mpr fun d hd => ?_, ?_, ?_⟩
  · obtain ⟨a, ha, rfl⟩ := List.mem_map.mp hd
    exact small_ip (sm a ha)
  · have := dps_le (m := 1) (xs := W.map enc3) fun d hd => by
      obtain ⟨a, ha, rfl⟩ := List.mem_map.mp hd
      exact Nat.le_refl 1
    show D.dps (W.map enc3) + 1 ≤ 50
    omega
  · have := rls_le (m := 30) (xs := W.map enc3) fun d hd => by
      obtain ⟨a, ha, rfl⟩ := List.mem_map.mp hd
      exact small_rl (sm a ha)
    rw [List.length_map] at this
    show D.rls (W.map enc3) + 3 ≤ 16777216
    omega
theorem cut2 (a : T3) : cutY (enc3 a) none (some 2) = Y.pure (enc2 (a.1, a.2.1)) := rfl
theorem tupsI2 : ∀ L : List (Nat × Nat), tupsI (L.map enc2) = some (L.map fun p => [(p.1 : Int), (p.2 : Int)])
  | [] => rfl
  | p :: L => by
    rw [List.map_cons, tupsI, tupsI2 L]
    rfl
theorem lset2 {L : List (Nat × Nat)} (h : L.length < 64) : lsetD (.fz (L.map enc2)) [] = .ok (.int (L.foldl ins []).length) [] := by
  cases L with
  | nil => rfl
  | cons p L =>
    unfold lsetD
    show (match intsI ((p :: L).map enc2) with
      | some ns => if ns.length + 1 < 4096 then R.ok (D.int (nub ns).length) [] else .bad
      | none => match false, tupsI ((p :: L).map enc2) with
        | false, some ks => if ks.length < 64 then R.ok (D.int (nub ks).length) [] else .bad
        | _, _ => .bad) = _
    rw [show intsI ((p :: L).map enc2) = none from rfl, tupsI2]
    dsimp only
    rw [if_pos (by rw [List.length_map]; exact h), nub_ins]
    have := nub_map (fun p : Nat × Nat => [(p.1 : Int), (p.2 : Int)]) (fun a b e => by
      simp only [List.cons.injEq] at e
      exact Prod.ext (by omega) (by omega)) (p :: L) []
    rw [List.map_nil] at this
    rw [this, List.length_map]
theorem lsetB {r : List Bool} (h : r.length < 4000) : lsetD (.tup (r.map bd)) [] = .ok (.int ((r.map bI).foldl ins []).length) [] := by
  unfold lsetD
  show (match intsI (r.map fun b => D.int (bI b)) with
      | some ns => if ns.length + 1 < 4096 then R.ok (D.int (nub ns).length) [] else .bad
      | none => match true, tupsI (r.map bd) with
        | false, some ks => if ks.length < 64 then R.ok (D.int (nub ks).length) [] else .bad
        | _, _ => .bad) = _
  rw [intsI_map]
  dsimp only
  rw [if_pos (by rw [List.length_map]; omega)]
  rfl
theorem two_len {α : Type} [DecidableEq α] (xs : List α) : 1 < (xs.foldl ins []).length ↔ ∃ a ∈ xs, ∃ b ∈ xs, a ≠ b := by
  have nd : (xs.foldl ins []).Nodup := insAll_nodup List.nodup_nil
  have mem : ∀ a, a ∈ xs.foldl ins [] ↔ a ∈ xs := fun a => by rw [insAll_mem]; simp
  revert nd mem
  generalize xs.foldl ins [] = m
  intro nd mem
  match m, nd, mem with
  | [], _, mem => simp; intro a ha; exact absurd ((mem a).mpr ha) List.not_mem_nil
  | [x], _, mem =>
    simp
    intro a ha b hb
    rw [List.mem_singleton.mp ((mem a).mpr ha), List.mem_singleton.mp ((mem b).mpr hb)]
  | x :: y :: m, nd, mem =>
    simp only [List.length_cons]
    refine ⟨fun _ => ⟨x, (mem x).mp List.mem_cons_self, y, (mem y).mp (List.mem_cons_of_mem _ List.mem_cons_self), ?_⟩, fun _ => by omega⟩
    rintro rfl
    exact (List.nodup_cons.mp nd).1 List.mem_cons_self
/-- a row that no turning over changes is the same throughout -/
theorem const_of {r : List Bool} {n : Nat} (h : ∀ l : List Bool, l.length = n → ∀ i, i < n → bat r (numB l) = bat r (numB (flip l i))) : ∀ (k : Nat) (l : List Bool), l.length = n → (∀ i, k ≤ i → bat l i = false) → bat r (numB l) = bat r (numB (List.replicate n false)) := by
  intro k
  induction k with
  | zero =>
    intro l hl z
    have : l = List.replicate n false := List.ext_getElem (by simp [hl]) fun i h1 h2 => by
      rw [List.getElem_replicate, ← bat_get h1]
      exact z i (Nat.zero_le _)
    rw [this]
  | succ k ih =>
    intro l hl z
    by_cases c : k < n
    · by_cases b : bat l k = false
      · exact ih l hl fun i hi => by
          by_cases e : i = k
          · rw [e]; exact b
          · exact z i (by omega)
      · rw [h l hl k c]
        refine ih (flip l k) (by rw [flip_len]; exact hl) fun i hi => ?_
        unfold flip bat
        rw [List.getD_eq_getElem?_getD]
        by_cases e : i = k
        · subst e
          rw [List.getElem?_set_self (by omega)]
          have : bat l i = true := by simpa using b
          unfold bat at this
          rw [List.getD_eq_getElem?_getD] at this
          simp [this]
        · rw [List.getElem?_set_ne (by omega)]
          have := z i (by omega)
          unfold bat at this
          rw [List.getD_eq_getElem?_getD] at this
          exact this
    · exact ih l hl fun i hi => by
        unfold bat
        rw [List.getD_eq_getElem?_getD, List.getElem?_eq_none (by omega)]
        rfl
theorem set_fact {t : List (List Bool)} (h : TabOk 7 t) {r : List Bool} {j : Nat} (hj : t[j]? = some r) : (∃ a, InWeb t a ∧ a.2.1 = j) ↔ ∃ x ∈ r.map bI, ∃ y ∈ r.map bI, x ≠ y := by
  have hr : r.length = 2 ^ t.length := h.2.2 r (List.mem_of_getElem? hj)
  constructor
  · rintro ⟨a, ⟨l, hl, ha⟩, rfl⟩
    obtain ⟨h1, r', h2, h3, _⟩ := localL_mem.mp ha
    rw [hj] at h2
    cases h2
    have b1 : numB l < r.length := by rw [hr, ← hl]; exact numB_lt l
    have b2 : numB (flip l a.1) < r.length := by rw [hr, ← hl, ← flip_len l a.1]; exact numB_lt _
    exact ⟨bI (bat r (numB l)), List.mem_map_of_mem (by rw [bat_get b1]; exact List.getElem_mem b1), bI (bat r (numB (flip l a.1))), List.mem_map_of_mem (by rw [bat_get b2]; exact List.getElem_mem b2), fun e => h3 (bI_inj e)⟩
  · rintro ⟨x, hx, y, hy, ne⟩
    obtain ⟨bx, hbx, rfl⟩ := List.mem_map.mp hx
    obtain ⟨by', hby, rfl⟩ := List.mem_map.mp hy
    apply Classical.byContradiction
    intro no
    have same : ∀ l : List Bool, l.length = t.length → ∀ i, i < t.length → bat r (numB l) = bat r (numB (flip l i)) := fun l hl i hi => Classical.byContradiction fun c => no ⟨(i, j, bat r (numB l) == bat l i), ⟨l, hl, localL_mem.mpr ⟨hi, r, hj, c, rfl⟩⟩, rfl⟩
    have all : ∀ b ∈ r, b = bat r (numB (List.replicate t.length false)) := fun b hb => by
      obtain ⟨k, hk, e⟩ := List.mem_iff_getElem.mp hb
      obtain ⟨l, hl, rfl⟩ := numB_surj t.length k (by omega)
      rw [← e, ← bat_get hk]
      exact const_of same t.length l hl fun i hi => by
        unfold bat
        rw [List.getD_eq_getElem?_getD, List.getElem?_eq_none (by omega)]
        rfl
    exact ne (by rw [all bx hbx, all by' hby])
theorem y_eq_eq {t : List (List Bool)} (h : TabOk 7 t) : y_Netdd_eqdd (netD t) (netD t) = Y.pure (.bl true) := by
  have e : eqD (tbs t) (tbs t) [] = .ok (.bl true) [] := eq_ip (ips_iff.mpr fun d hd => by
    obtain ⟨r, hr, rfl⟩ := List.mem_map.mp hd
    exact ips_iff.mpr fun d hd => by
      obtain ⟨b, hb, rfl⟩ := List.mem_map.mp hd
      show (bI b).natAbs.log2 < 1920
      cases b <;> decide) (by
    have := dps_le (m := 1) (xs := t.map tb) fun d hd => by
      obtain ⟨r, hr, rfl⟩ := List.mem_map.mp hd
      have := dps_le (m := 0) (xs := r.map bd) fun d hd => by
        obtain ⟨b, hb, rfl⟩ := List.mem_map.mp hd
        exact Nat.le_refl 0
      show D.dps (r.map bd) + 1 ≤ 1
      omega
    show D.dps (t.map tb) + 1 ≤ 50
    omega)
  unfold y_Netdd_eqdd
  have e2 : isiD [cNet] (.own cNet) (netD t) [] = .ok (.bl true) [] := by unfold netD; simp
  simp [e2, fld_tables, e]
def all4 : List T3 := (List.range 4).flatMap fun i => (List.range 4).flatMap fun j => [(i, j, false), (i, j, true)]
theorem all4_nodup : all4.Nodup := by decide +kernel
theorem web_len {t : List (List Bool)} (h : TabOk 4 t) {ks : List T3} (nd : ks.Nodup) (mem : ∀ a, a ∈ ks ↔ InWeb t a) : ks.length ≤ 32 := by
  have := nodup_len nd all4_nodup fun a ha => by
    obtain ⟨l, hl, h2⟩ := (mem a).mp ha
    obtain ⟨h3, r, h4, _⟩ := localL_mem.mp h2
    have h5 := (List.getElem?_eq_some_iff.mp h4).1
    have := h.2.1
    obtain ⟨i, j, b⟩ := a
    unfold all4
    simp only [List.mem_flatMap, List.mem_range]
    exact ⟨i, by simp at h3; omega, j, by simp at h5; omega, by cases b <;> simp⟩
  have e : all4.length = 32 := by decide +kernel
  omega
theorem any_web {ks : List T3} {W : List T3} (p : W.Perm ks) (j : Nat) : (W.any fun a => decide (a.2.1 = j)) = decide (∃ a ∈ ks, a.2.1 = j) := by
  rw [Bool.eq_iff_iff]
  simp only [List.any_eq_true, decide_eq_true_eq]
  exact ⟨fun ⟨a, h1, h2⟩ => ⟨a, p.subset h1, h2⟩, fun ⟨a, h1, h2⟩ => ⟨a, p.symm.subset h1, h2⟩⟩
theorem dict3 {L : List T3} (nd : L.Nodup) : dictPY (.fz (L.map fun a => .tup [enc3 a, .bl true])) = Y.pure (dset enc3 L) := by
  unfold dictPY
  dsimp only [lsD]
  rw [pairsV_dset]
  dsimp only
  rw [Y.need_pos (kd3_ok _)]
  have := putAll_dset key3 L []
  rw [insAll_id _ _ (by simpa using nd)] at this
  exact congrArg Y.pure this
theorem yb_true (v0 : D) : yb_law v0 (fun _ => D.non = .bl true) (fun d => d = .bl true) (fun _ _ => False) := by
  unfold yb_law
  have e5 : r1Y (.int 5) = _ := r1Y_nat 5 (by omega)
  simp only [Y.pure_bind, e5, YS.get_pure]
  refine YS.seqI ?_
  refine forY_wp (fun i s => True) trivial ?_ ?_
  · rintro i x s hx _ M hM
    refine YS.getI (y_tables_wp (m := 4) (by omega) (by omega) fun t ht => ?_)
    have h7 : TabOk 7 t := ⟨ht.1, by have := ht.2.1; omega, ht.2.2⟩
    have hlen := h7.2.1
    simp only [lenD_tup, Y.ofR_ok, YS.get_pure, List.length_map, y_Net_eq h7]
    refine YS.getI (y_law_web_wp h7 fun ks nd mem => ?_)
    have smk : ∀ a ∈ ks, Small a := fun a ha => by
      obtain ⟨l, hl, h2⟩ := (mem a).mp ha
      exact localL_small h7.2.1 a h2
    have ndW : (sort3 ks).Nodup := (sort3_perm ks).nodup_iff.mpr nd
    have smW : ∀ a ∈ sort3 ks, Small a := fun a ha => smk a ((sort3_perm ks).subset ha)
    have uni : ∀ ks2 : List T3, ks2.Nodup → (∀ a, a ∈ ks2 ↔ InWeb t a) → sort3 ks2 = sort3 ks := fun ks2 n2 m2 => sort3_congr (perm_of_mem n2 nd fun a => by rw [m2, mem])
    simp only [YS.get_bind, YS.get_seq, YS.seq_seq]
    refine YS.getI (y_web_wp h7 fun ks2 n2 m2 => ?_)
    rw [uni ks2 n2 m2]
    obtain ⟨wi, wd, wr⟩ := web_ip smW ndW
    obtain ⟨st, r1, r2⟩ := ne_repr wi wd wr
    simp only [r1, Y.ofR_ok, YS.get_pure, rowY_fz, tupL_ap, r2, isY_bl, Bool.false_eq_true, if_false, YS.nx_seq, YS.get_seq, YS.get_bind, Y.pure_bind, YS.seq_seq]
    rw [y_states_eq t.length (by omega)]
    simp only [YS.get_pure, rowY_fz, YS.get_bind]
    refine YS.seqI ?_
    refine forY_wp (fun i s => ∃ ms : List T3, s = dset enc3 ms ∧ ms.Nodup ∧ (∀ a ∈ ms, Small a) ∧ ∀ a, a ∈ ms ↔ ∃ l ∈ (states t.length).take i, a ∈ localL t l) ⟨[], rfl, List.nodup_nil, fun a ha => by simp at ha, fun a => by simp⟩ ?_ ?_
    · rintro i l s hl ⟨ms, rfl, nm, sm, mm⟩ M' hM'
      have hl' : l.length = t.length := states_mem.mp (List.mem_of_getElem? hl)
      have hi : i < (states t.length).length := (List.getElem?_eq_some_iff.mp hl).1
      have nd2 : (sort3 (localL t l)).Nodup := (sort3_perm _).nodup_iff.mpr (localL_nodup t l)
      have sm2 : ∀ a ∈ sort3 (localL t l), Small a := fun a ha => localL_small hlen a ((sort3_perm _).subset ha)
      have ll := small_len nd2 sm2
      obtain ⟨wi, wd, wr⟩ := web_ip sm2 nd2
      obtain ⟨st, r1, r2⟩ := ne_repr wi wd wr
      simp only [y_local_web_eq h7 hl', y_local_eq h7 hl', YS.get_pure, r1, Y.ofR_ok, rowY_fz, tupL_ap, r2, isY_bl, Bool.false_eq_true, if_false, YS.nx_seq, rowY_tup, YS.get_seq, YS.get_bind, Y.pure_bind, YS.seq_seq, elY_y, Y.calm_pure]
      rw [lcY_map (g := fun a => .tup [enc3 a, .bl true]) (big_le (by omega)) fun a _ => rfl]
      simp only [YS.get_pure, dict3 nd2]
      rw [upd3 nm nd2 sm sm2]
      refine hM' _ ⟨_, rfl, insAll_nodup nm, fun a ha => ?_, fun a => ?_⟩
      · rcases insAll_mem.mp ha with q | q
        · exact sm a q
        · exact sm2 a q
      · have hi' := (List.getElem?_eq_some_iff.mp hl).2
        rw [insAll_mem, mm a, List.take_succ_eq_append_getElem hi, hi', (sort3_perm _).mem_iff]
        constructor
        · rintro (⟨l', h1, h2⟩ | h1)
          · exact ⟨l', List.mem_append_left _ h1, h2⟩
          · exact ⟨l, List.mem_append_right _ (List.mem_singleton.mpr rfl), h1⟩
        · rintro ⟨l', h1, h2⟩
          rcases List.mem_append.mp h1 with q | q
          · exact .inl ⟨l', q, h2⟩
          · rw [List.mem_singleton.mp q] at h2; exact .inr h2
    · rintro s ⟨ms, rfl, nm, sm, mm⟩
      have pm : ms.Perm ks := perm_of_mem nm nd fun a => by
        rw [mm, mem, List.take_length]
        exact ⟨fun ⟨l, h1, h2⟩ => ⟨l, states_mem.mp h1, h2⟩, fun ⟨l, h1, h2⟩ => ⟨l, states_mem.mpr h1, h2⟩⟩
      simp only [sortY3_fd, YS.get_pure, sort3_congr pm, Y.ofR_ok, rowY_fz, isY_bl, Bool.false_eq_true, if_false, YS.nx_seq, rowY_tup, YS.get_seq, YS.get_bind, Y.pure_bind, YS.seq_seq]
      have nz : neD (.fz ((sort3 ks).map enc3)) (.fz ((sort3 ks).map enc3)) [] = .ok (.bl false) [] := ne_ip wi wd
      have wl : (sort3 ks).length ≤ 32 := web_len ht ndW fun a => by rw [(sort3_perm ks).mem_iff, mem]
      have cutW : (lcY ((sort3 ks).map enc3) fun x144 => elY (Y.pure true) ((oY (D.int 2)).bind fun u147 => cutY x144 none u147)) = Y.pure ((prs (sort3 ks)).map enc2) := by
        rw [lcY_map (g := fun a : T3 => enc2 (a.1, a.2.1)) (big_le (by omega)) fun a _ => by simp [cut2]]
        unfold prs
        rw [List.map_map]
        rfl
      simp only [nz, Y.ofR_ok, YS.get_pure, isY_bl, Bool.false_eq_true, if_false, YS.nx_seq, cutW]
      refine YS.getI (y_even_wp h7 fun ks3 n3 m3 => ?_)
      rw [uni ks3 n3 m3]
      obtain ⟨s3, r3, r4⟩ := ne_repr (d := .bl (decide (((prs (sort3 ks)).foldl ins []).length = (sort3 ks).length))) trivial (Nat.zero_le _) (show 5 ≤ 16777216 by decide)
      have pl : (prs (sort3 ks)).length = (sort3 ks).length := by unfold prs; rw [List.length_map]
      have eqn : eqD (.int (((prs (sort3 ks)).foldl ins []).length : Nat)) (.int ((sort3 ks).length : Nat)) [] = .ok (.bl (decide (((prs (sort3 ks)).foldl ins []).length = (sort3 ks).length))) [] := by
        rw [eqD_int]
        congr 2
        rw [decide_eq_decide]; omega
      simp only [r3, lset2 (L := prs (sort3 ks)) (by omega), lenD_fz, List.length_map, pl, eqn, r4, Y.ofR_ok, YS.get_pure, isY_bl, Bool.false_eq_true, if_false, YS.nx_seq]
      rw [enumL_map]
      refine YS.seqI (forY_wp (fun _ _ => True) trivial ?_ ?_)
      · rintro i p u hp _ M2 hM2
        have hp1 := List.mem_zipIdx_iff_getElem?.mp (List.mem_of_getElem? hp)
        have hr : p.1.length = 2 ^ t.length := h7.2.2 p.1 (List.mem_of_getElem? hp1)
        have := pow_le7 hlen
        have row : (lcY ((sort3 ks).map enc3) fun x192 => elY (Y.pure true) ((Y.ofR (ixA x192 (D.int 1) [])).bind fun x195 => Y.ofR (eqD x195 (.int p.2) []))) = Y.pure ((sort3 ks).map fun a => .bl (decide (a.2.1 = p.2))) := by
          refine lcY_map (big_le (by omega)) fun a _ => ?_
          have e : ixA (enc3 a) (.int 1) [] = .ok (.int a.2.1) [] := rfl
          have e2 : decide ((a.2.1 : Int) = (p.2 : Int)) = decide (a.2.1 = p.2) := by rw [decide_eq_decide]; omega
          simp [e, e2]
        have gt : gtD (.int (((p.1.map bI).foldl ins []).length : Nat)) (.int 1) [] = .ok (.bl (decide (1 < ((p.1.map bI).foldl ins []).length))) [] := by
          rw [gtD_int]
          congr 2
          rw [decide_eq_decide]; omega
        have fact : ((sort3 ks).any fun a => decide (a.2.1 = p.2)) = decide (1 < ((p.1.map bI).foldl ins []).length) := by
          rw [any_web (sort3_perm ks), decide_eq_decide, two_len, ← set_fact h7 hp1]
          exact ⟨fun ⟨a, h1, h2⟩ => ⟨a, (mem a).mp h1, h2⟩, fun ⟨a, h1, h2⟩ => ⟨a, (mem a).mpr h1, h2⟩⟩
        have nb : neD (.bl (decide (1 < ((p.1.map bI).foldl ins []).length))) (.bl (decide (1 < ((p.1.map bI).foldl ins []).length))) [] = .ok (.bl false) [] := ne_ip (d := .bl _) trivial (Nat.zero_le _)
        simp only [us2_tup, row, YS.get_pure, anyL_map, Y.ofR_ok, lsetB (r := p.1) (by omega), gt, fact, nb, isY_bl, Bool.false_eq_true, if_false]
        exact hM2 _ trivial
      · intro s _
        have tk : tkOf [] (netD t) = some (.own cNet) := rfl
        have ne : neYo cNet y_Netdd_eqdd (netD t) (netD t) = Y.pure (.bl false) := by
          unfold neYo
          rw [tk]
          simp [y_eq_eq h7]
        simp only [ne, YS.get_pure, isY_bl, Bool.false_eq_true, if_false]
        exact hM _ trivial
  · intro s _
    rfl
theorem law_true : ∀ ns : List Int, ns.length ≤ 63 → ∃ h', F_law [.fz (ns.map D.int)] [] = .ok (.bl true) h' := fun ns hl => by
  obtain ⟨o, ho, hh⟩ := hand_eq ns hl
  exact law_abs ho hh (yb_true (.fz (ns.map .int)))
end K06
end PV
set_option Elab.async false
set_option linter.all false
set_option autoImplicit false
set_option maxRecDepth 100000
set_option maxHeartbeats 4000000
namespace PV
namespace K06
open PySem PySem.Spec PyProof.Rows L2
def top (i : Nat) : Stmt := PySem.Challenge.pw_lampnets_k06_whole_webs_of_signs.main.body.getD i (.Pass ⟨0, 0, 0, 0⟩)
structure Txt (K : Frag) (mg : Str → Option Value) : Prop where
  d__law_hand : DefG K mg "_law_hand" "_law_hand" (top 24) ["script"]
  d__law_draw : DefG K mg "_law_draw" "_law_draw" (top 25) ["hand", "many"]
  d__law_states : DefG K mg "_law_states" "_law_states" (top 27) ["many"]
  d__law_any : DefG K mg "_law_any" "_law_any" (top 26) ["hand", "some"]
  d__law_tables : DefG K mg "_law_tables" "_law_tables" (top 28) ["hand", "most"]
  d_Netdd_eqdd : DefM K cNet "__eq__" "Net.__eq__" (inClass (top 13) 1) ["self", "other"]
  d_is_integer : DefG K mg "is_integer" "is_integer" (top 8) ["thing"]
  d_is_between : DefG K mg "is_between" "is_between" (top 9) ["thing", "low", "high"]
  d_are_bits : DefG K mg "are_bits" "are_bits" (top 10) ["many", "thing"]
  d_Netdd_initdd : DefM K cNet "__init__" "Net.__init__" (inClass (top 13) 0) ["self", "tables"]
  d__law_number : DefG K mg "_law_number" "_law_number" (top 29) ["state"]
  d__law_over : DefG K mg "_law_over" "_law_over" (top 30) ["state", "lamp"]
  d__law_local : DefG K mg "_law_local" "_law_local" (top 31) ["tables", "state"]
  d__law_web : DefG K mg "_law_web" "_law_web" (top 32) ["tables"]
  d_check_net : DefG K mg "check_net" "check_net" (top 15) ["thing"]
  d_check_state : DefG K mg "check_state" "check_state" (top 16) ["net", "state"]
  d_bit_of : DefG K mg "bit_of" "bit_of" (top 11) ["number", "lamp"]
  d_signs_at : DefG K mg "signs_at" "signs_at" (top 18) ["net", "number"]
  d_number_by : DefG K mg "number_by" "number_by" (top 12) ["bits"]
  d_local_web : DefG K mg "local_web" "local_web" (top 21) ["net", "state"]
  d_web_of : DefG K mg "web_of" "web_of" (top 19) ["net"]
  d_web : DefG K mg "web" "web" (top 20) ["net"]
  d_is_even_sided : DefG K mg "is_even_sided" "is_even_sided" (top 22) ["net"]
  d_law : DefG K mg "law" "law" (top 33) ["script"]
  n_abs : mg "abs" = none
  n_all : mg "all" = none
  n_any : mg "any" = none
  n_bool : mg "bool" = none
  n_dict : mg "dict" = none
  n_enumerate : mg "enumerate" = none
  n_int : mg "int" = none
  n_isinstance : mg "isinstance" = none
  n_len : mg "len" = none
  n_range : mg "range" = none
  n_repr : mg "repr" = none
  n_set : mg "set" = none
  n_sorted : mg "sorted" = none
  n_sum : mg "sum" = none
  n_tuple : mg "tuple" = none
  n_zip : mg "zip" = none
  n_Net : mg "Net" = some (.ref cNet)
  m_Net : MkC K cNet
  cl_Net : Cls K cNet
  ci_Net : ClsI K cNet
  f_many : FldOk K [cNet] "many"
  f_tables : FldOk K [cNet] "tables"
  i_Net : IsiOk K [cNet] (.own cNet)
  i_bool : IsiOk K [cNet] (.bi "bool")
  i_int : IsiOk K [cNet] (.bi "int")
  i_tuple : IsiOk K [cNet] (.bi "tuple")
  c_MOST_LAMPS : GlI mg "MOST_LAMPS" 7
  c_POWERS : GlT K mg "POWERS" [1, 2, 4, 8, 16, 32, 64, 128]
  e_Net : EqG K cNet
section
variable {P : Program} {w : World} {K : Frag} {mg : Str → Option Value} {base : Heap}
theorem hat : ∀ c, idCl c = c := fun _ => rfl
theorem sc__law_hand : FnScope ["script", "cells", "cell"] ["script"] (defScope (top 24)) := ⟨rfl, rfl, rfl, by decide +kernel, rfl, by decide +kernel, by decide +kernel⟩
theorem ok__law_hand (T : Txt K mg) : FnG P w K mg base idCl 1 "_law_hand" ["script"] F__law_hand := by
  refine fnG_of (N := ["script", "cells", "cell"]) (ps := ["script"]) (m := m__law_hand) (k := 0) T.d__law_hand sc__law_hand fun g cdv A outer s H E hr => ?_
  have hN := sc__law_hand.nd
  unfold m__law_hand
  exact (sb_cons (ss_setLcZ (i := 1) (own := [("cell", 2)]) rfl hN (si_row (sl_val (se_slice (se_var (i := 0)) so_none (so_some se_int)))) (by refine ⟨rfl, by decide +kernel, ?_, ?_, ?_⟩ <;> dsimp only [cxOf, envOfC, Cx.blk, compEnvC, relabel_names, relabel_kind] <;> decide +kernel) (fun _ _ _ _ _ => (sg_name hN (i := 2))) (fun _ _ _ _ _ => spt_nil) (fun _ _ _ _ _ => (se_callB oc_abs T.n_abs rfl (sa_cons (se_callTy oc_int T.n_int rfl (sa_cons (se_var (i := 2)) sa_nil)) sa_nil))))
  (sb_one (ss_ret (se_list (sf_disp (sa_cons (se_var (i := 1)) (sa_cons se_int (sa_cons se_int (sa_cons (se_bin o2_add se_int (se_bin o2_mul se_int (se_callB oc_len T.n_len rfl (sa_cons (se_var (i := 1)) sa_nil)))) (sa_cons se_int sa_nil))))))))))
theorem sc__law_draw : FnScope ["hand", "many", "cell", "digit", "number"] ["hand", "many"] (defScope (top 25)) := ⟨rfl, rfl, rfl, by decide +kernel, rfl, by decide +kernel, by decide +kernel⟩
theorem ok__law_draw (T : Txt K mg) : FnG P w K mg base idCl 1 "_law_draw" ["hand", "many"] F__law_draw := by
  refine fnG_ofZ hat (N := ["hand", "many", "cell", "digit", "number"]) (ps := ["hand", "many"]) (m := m__law_draw) (k := 0) T.d__law_draw sc__law_draw fun g cdv A outer s H E hr => ?_
  have hN := sc__law_draw.nd
  unfold m__law_draw
  exact (sb_cons (ss_if (st_w (sw_and (st_cmp (o2_eq hr) (se_ixA hr (se_var (i := 0)) se_int) se_int) (sw_and1 (st_cmp o2_lt (se_ixA hr (se_var (i := 0)) se_int) (se_callB oc_len T.n_len rfl (sa_cons (se_ixA hr (se_var (i := 0)) se_int) sa_nil))))))
  (sb_cons (ss_set (i := 2) hN (se_ixA hr (se_ixA hr (se_var (i := 0)) se_int) (se_ixA hr (se_var (i := 0)) se_int)))
  (sb_cons (ss_sub (se_bin o2_add (se_ixA hr (se_var (i := 0)) se_int) se_int) (se_var (i := 0)) se_int (os_any hr))
  (sb_cons (ss_sub (se_bin o2_mod (se_callTy oc_int T.n_int rfl (sa_cons (se_bin o2_add (se_bin o2_add (se_bin o2_mul (se_ixA hr (se_var (i := 0)) se_int) se_int) (se_bin o2_mul (se_var (i := 2)) se_int)) se_int) sa_nil)) se_int) (se_var (i := 0)) se_int (os_any hr))
  (sb_one (ss_if (st_cmp o2_ge (se_var (i := 2)) (se_bin o2_pow se_int se_int))
  (sb_one (ss_sub (se_var (i := 2)) (se_var (i := 0)) se_int (os_any hr)))
  sb_nil)))))
  sb_nil)
  (sb_cons (ss_if (st_cmp o2_gt (se_ixA hr (se_var (i := 0)) se_int) se_int)
  (sb_cons (ss_set (i := 3) hN (se_bin o2_mod (se_callTy oc_int T.n_int rfl (sa_cons (se_ixA hr (se_var (i := 0)) se_int) sa_nil)) (se_var (i := 1))))
  (sb_cons (ss_sub (se_bin o2_fdiv (se_ixA hr (se_var (i := 0)) se_int) (se_var (i := 1))) (se_var (i := 0)) se_int (os_any hr))
  (sb_one (ss_ret (se_var (i := 3))))))
  sb_nil)
  (sb_cons (ss_sub (se_bin o2_add (se_ixA hr (se_var (i := 0)) se_int) se_int) (se_var (i := 0)) se_int (os_any hr))
  (sb_cons (ss_set (i := 4) hN (se_bin o2_mod (se_callTy oc_int T.n_int rfl (sa_cons (se_bin o2_mul (se_callTy oc_int T.n_int rfl (sa_cons (se_bin o2_add (se_ixA hr (se_var (i := 0)) se_int) (se_bin o2_mul se_int (se_ixA hr (se_var (i := 0)) se_int))) sa_nil)) se_int) sa_nil)) se_int))
  (sb_cons (ss_set (i := 4) hN (se_bin o2_mod (se_callTy oc_int T.n_int rfl (sa_cons (se_bin o2_mul (se_var (i := 4)) (se_bin o2_add (se_bin o2_fdiv (se_var (i := 4)) se_int) se_int)) sa_nil)) se_int))
  (sb_cons (ss_set (i := 4) hN (se_bin o2_mod (se_callTy oc_int T.n_int rfl (sa_cons (se_bin o2_mul (se_var (i := 4)) (se_bin o2_add (se_bin o2_fdiv (se_var (i := 4)) se_int) se_int)) sa_nil)) se_int))
  (sb_one (ss_ret (se_bin o2_mod (se_callTy oc_int T.n_int rfl (sa_cons (se_bin o2_fdiv (se_var (i := 4)) se_int) sa_nil)) (se_var (i := 1)))))))))))
theorem sc__law_states : FnScope ["many", "found", "lamp", "state"] ["many"] (defScope (top 27)) := ⟨rfl, rfl, rfl, by decide +kernel, rfl, by decide +kernel, by decide +kernel⟩
theorem ok__law_states (T : Txt K mg) : FnG P w K mg base idCl 1 "_law_states" ["many"] F__law_states := by
  refine fnG_ofZ hat (N := ["many", "found", "lamp", "state"]) (ps := ["many"]) (m := m__law_states) (k := 0) T.d__law_states sc__law_states fun g cdv A outer s H E hr => ?_
  have hN := sc__law_states.nd
  unfold m__law_states
  exact (sb_cons (ss_set (i := 1) hN (se_eZ (sf_disp (sa_cons (se_tup sa_nil) sa_nil))))
  (sb_cons (ss_for hp_def rfl (si_range1 (se_var (i := 0)) T.n_range) (sg_name hN (i := 2))
  (sb_one (ss_set (i := 1) hN (se_bin o2_add (se_eZ (sf_lc (own := [("state", 3)]) rfl hN (si_row (sl_val (se_var (i := 1)))) (by refine ⟨rfl, by decide +kernel, ?_, ?_, ?_⟩ <;> dsimp only [cxOf, envOfC, Cx.blk, compEnvC, relabel_names, relabel_kind] <;> decide +kernel) (fun _ _ _ _ _ => (sg_name hN (i := 3))) (fun _ _ _ _ _ => spt_nil) (fun _ _ _ _ _ => (se_bin o2_add (se_var (i := 3)) (se_tup (sa_cons se_int sa_nil)))))) (se_eZ (sf_lc (own := [("state", 3)]) rfl hN (si_row (sl_val (se_var (i := 1)))) (by refine ⟨rfl, by decide +kernel, ?_, ?_, ?_⟩ <;> dsimp only [cxOf, envOfC, Cx.blk, compEnvC, relabel_names, relabel_kind] <;> decide +kernel) (fun _ _ _ _ _ => (sg_name hN (i := 3))) (fun _ _ _ _ _ => spt_nil) (fun _ _ _ _ _ => (se_bin o2_add (se_var (i := 3)) (se_tup (sa_cons se_int sa_nil))))))))))
  (sb_one (ss_ret (se_var (i := 1))))))
theorem sc__law_any : FnScope ["hand", "some"] ["hand", "some"] (defScope (top 26)) := ⟨rfl, rfl, rfl, by decide +kernel, rfl, by decide +kernel, by decide +kernel⟩
theorem ok__law_any (T : Txt K mg) : FnG P w K mg base idCl 2 "_law_any" ["hand", "some"] F__law_any := by
  refine fnG_ofZ hat (N := ["hand", "some"]) (ps := ["hand", "some"]) (m := m__law_any) (k := 1) T.d__law_any sc__law_any fun g cdv A outer s H E hr => ?_
  have hN := sc__law_any.nd
  unfold m__law_any
  exact (sb_one (ss_ret (se_ixA hr (se_var (i := 1)) (se_callG (ok__law_draw T) ((hr).mono (by decide : 1 ≤ 1)) tk_def (sa_cons (se_var (i := 0)) (sa_cons (se_callB oc_len T.n_len rfl (sa_cons (se_var (i := 1)) sa_nil)) sa_nil))))))
theorem sc__law_tables : FnScope ["hand", "most", "many", "kind", "every", "found", "lamp", "weights", "bound", "one", "other", "bits", "state", "a", "b", "bit"] ["hand", "most"] (defScope (top 28)) := ⟨rfl, rfl, rfl, by decide +kernel, rfl, by decide +kernel, by decide +kernel⟩
theorem ok__law_tables (T : Txt K mg) : FnG P w K mg base idCl 3 "_law_tables" ["hand", "most"] F__law_tables := by
  refine fnG_ofZ hat (N := ["hand", "most", "many", "kind", "every", "found", "lamp", "weights", "bound", "one", "other", "bits", "state", "a", "b", "bit"]) (ps := ["hand", "most"]) (m := m__law_tables) (k := 2) T.d__law_tables sc__law_tables fun g cdv A outer s H E hr => ?_
  have hN := sc__law_tables.nd
  unfold m__law_tables
  exact (sb_cons (ss_par (i := 2) (j := 3) rfl hN (se_bin o2_add se_int (se_callG (ok__law_draw T) ((hr).mono (by decide : 1 ≤ 2)) tk_def (sa_cons (se_var (i := 0)) (sa_cons (se_var (i := 1)) sa_nil)))) (se_callG (ok__law_draw T) ((hr).mono (by decide : 1 ≤ 2)) tk_def (sa_cons (se_var (i := 0)) (sa_cons se_int sa_nil))))
  (sb_cons (ss_par (i := 4) (j := 5) rfl hN (se_callG (ok__law_states T) ((hr).mono (by decide : 1 ≤ 2)) tk_def (sa_cons (se_var (i := 2)) sa_nil)) (se_list (sf_disp sa_nil)))
  (sb_cons (ss_for hp_def rfl (si_range1 (se_var (i := 2)) T.n_range) (sg_name hN (i := 6))
  (sb_one (ss_if (st_cmp (o2_eq hr) (se_var (i := 3)) se_int)
  (sb_one (ss_expr (se_append (se_var (i := 5)) (se_callFTy of_tuple T.n_tuple rfl (sf_lc (own := [("state", 12)]) rfl hN (si_row (sl_val (se_var (i := 4)))) (by refine ⟨rfl, by decide +kernel, ?_, ?_, ?_⟩ <;> dsimp only [cxOf, envOfC, Cx.blk, compEnvC, relabel_names, relabel_kind] <;> decide +kernel) (fun _ _ _ _ _ => (sg_name hN (i := 12))) (fun _ _ _ _ _ => spt_nil) (fun _ _ _ _ _ => (se_callG (ok__law_draw T) (((Rm.blk hr)).mono (by decide : 1 ≤ 2)) takes0 (sa_cons (se_var (i := 0)) (sa_cons se_int sa_nil)))))))))
  (sb_one (ss_if (st_cmp (o2_eq hr) (se_var (i := 3)) se_int)
  (sb_cons (ss_set (i := 7) hN (se_eZ (sf_lc (own := [("other", 10)]) rfl hN (si_range1 (se_var (i := 2)) T.n_range) (by refine ⟨rfl, by decide +kernel, ?_, ?_, ?_⟩ <;> dsimp only [cxOf, envOfC, Cx.blk, compEnvC, relabel_names, relabel_kind] <;> decide +kernel) (fun _ _ _ _ _ => (sg_name hN (i := 10))) (fun _ _ _ _ _ => spt_nil) (fun _ _ _ _ _ => (se_bin o2_sub (se_callG (ok__law_draw T) (((Rm.blk hr)).mono (by decide : 1 ≤ 2)) takes0 (sa_cons (se_var (i := 0)) (sa_cons se_int sa_nil))) se_int)))))
  (sb_cons (ss_set (i := 8) hN (se_callG (ok__law_draw T) ((hr).mono (by decide : 1 ≤ 2)) tk_def (sa_cons (se_var (i := 0)) (sa_cons se_int sa_nil))))
  (sb_one (ss_expr (se_append (se_var (i := 5)) (se_callFTy of_tuple T.n_tuple rfl (sf_lc (own := [("state", 12)]) rfl hN (si_row (sl_val (se_var (i := 4)))) (by refine ⟨rfl, by decide +kernel, ?_, ?_, ?_⟩ <;> dsimp only [cxOf, envOfC, Cx.blk, compEnvC, relabel_names, relabel_kind] <;> decide +kernel) (fun _ _ _ _ _ => (sg_name hN (i := 12))) (fun _ _ _ _ _ => spt_nil) (fun _ _ _ _ _ => (se_callTy oc_int T.n_int rfl (sa_cons (se_cmp o2_ge (se_callFB (of_sum rfl) T.n_sum rfl (sf_lc (own := [("a", 13), ("b", 14)]) rfl hN (si_zip (sl_val (se_var (i := 7))) (sl_val (se_var (i := 12))) T.n_zip) (by refine ⟨rfl, by decide +kernel, ?_, ?_, ?_⟩ <;> dsimp only [cxOf, envOfC, Cx.blk, compEnvC, relabel_names, relabel_kind] <;> decide +kernel) (fun _ _ _ _ _ => (sg_tup rfl (sgs_cons (sg_name hN (i := 13)) (sgs_cons (sg_name hN (i := 14)) sgs_nil)))) (fun _ _ _ _ _ => spt_nil) (fun _ _ _ _ _ => (se_bin o2_mul (se_var (i := 13)) (se_var (i := 14)))))) (se_var (i := 8))) sa_nil))))))))))
  (sb_cons (ss_asg (se_tup (sa_cons (se_callG (ok__law_draw T) ((hr).mono (by decide : 1 ≤ 2)) tk_def (sa_cons (se_var (i := 0)) (sa_cons (se_var (i := 2)) sa_nil))) (sa_cons (se_callG (ok__law_draw T) ((hr).mono (by decide : 1 ≤ 2)) tk_def (sa_cons (se_var (i := 0)) (sa_cons (se_var (i := 2)) sa_nil))) sa_nil))) (sg_tup rfl (sgs_cons (sg_name hN (i := 9)) (sgs_cons (sg_name hN (i := 10)) sgs_nil))))
  (sb_cons (ss_set (i := 11) hN (se_eZ (sf_lc (own := [("bit", 15)]) rfl hN (si_range1 se_int T.n_range) (by refine ⟨rfl, by decide +kernel, ?_, ?_, ?_⟩ <;> dsimp only [cxOf, envOfC, Cx.blk, compEnvC, relabel_names, relabel_kind] <;> decide +kernel) (fun _ _ _ _ _ => (sg_name hN (i := 15))) (fun _ _ _ _ _ => spt_nil) (fun _ _ _ _ _ => (se_callG (ok__law_draw T) (((Rm.blk hr)).mono (by decide : 1 ≤ 2)) takes0 (sa_cons (se_var (i := 0)) (sa_cons se_int sa_nil)))))))
  (sb_cons (ss_if (st_cmp (o2_eq hr) (se_var (i := 3)) se_int)
  (sb_one (ss_set (i := 11) hN (se_callG (ok__law_any T) ((hr).mono (by decide : 2 ≤ 2)) tk_def (sa_cons (se_var (i := 0)) (sa_cons (se_eZ (sf_disp (sa_cons (se_eZ (sf_disp (sa_cons se_int (sa_cons se_int (sa_cons se_int (sa_cons se_int sa_nil)))))) (sa_cons (se_eZ (sf_disp (sa_cons se_int (sa_cons se_int (sa_cons se_int (sa_cons se_int sa_nil)))))) sa_nil)))) sa_nil)))))
  sb_nil)
  (sb_one (ss_expr (se_append (se_var (i := 5)) (se_callFTy of_tuple T.n_tuple rfl (sf_lc (own := [("state", 12)]) rfl hN (si_row (sl_val (se_var (i := 4)))) (by refine ⟨rfl, by decide +kernel, ?_, ?_, ?_⟩ <;> dsimp only [cxOf, envOfC, Cx.blk, compEnvC, relabel_names, relabel_kind] <;> decide +kernel) (fun _ _ _ _ _ => (sg_name hN (i := 12))) (fun _ _ _ _ _ => spt_nil) (fun _ _ _ _ _ => (se_ixA (Rm.blk hr) (se_var (i := 11)) (se_bin o2_add (se_ixA (Rm.blk hr) (se_var (i := 12)) (se_var (i := 9))) (se_bin o2_mul se_int (se_ixA (Rm.blk hr) (se_var (i := 12)) (se_var (i := 10))))))))))))))))))))
  (sb_one (ss_ret (se_callUTy ou_tuple T.n_tuple rfl (sl_val (se_var (i := 5)))))))))
theorem sc_Netdd_eqdd : FnScope ["self", "other"] ["self", "other"] (defScope (inClass (top 13) 1)) := ⟨rfl, rfl, rfl, by decide +kernel, rfl, by decide +kernel, by decide +kernel⟩
theorem ok_Netdd_eqdd (T : Txt K mg) : FnM P w K mg base idCl 1 cNet "__eq__" ["self", "other"] F_Netdd_eqdd := by
  refine fnM_ofZ hat (N := ["self", "other"]) (ps := ["self", "other"]) (m := m_Netdd_eqdd) (k := 0) T.d_Netdd_eqdd sc_Netdd_eqdd fun g cdv A outer s H E hr => ?_
  have hN := sc_Netdd_eqdd.nd
  unfold m_Netdd_eqdd
  exact (sb_cons (ss_if (st_not (st_val (se_isiC hat T.i_Net (se_var (i := 1)) T.n_isinstance T.n_Net)))
  (sb_one (ss_ret se_bl))
  sb_nil)
  (sb_one (ss_ret (se_cmp (o2_eq hr) (se_fld hat (se_var (i := 0)) T.f_tables) (se_fld hat (se_var (i := 1)) T.f_tables)))))
theorem sc_is_integer : FnScope ["thing"] ["thing"] (defScope (top 8)) := ⟨rfl, rfl, rfl, by decide +kernel, rfl, by decide +kernel, by decide +kernel⟩
theorem ok_is_integer (T : Txt K mg) : FnG P w K mg base idCl 1 "is_integer" ["thing"] F_is_integer := by
  refine fnG_ofZ hat (N := ["thing"]) (ps := ["thing"]) (m := m_is_integer) (k := 0) T.d_is_integer sc_is_integer fun g cdv A outer s H E hr => ?_
  have hN := sc_is_integer.nd
  unfold m_is_integer
  exact (sb_one (ss_ret (se_and (se_isiB hat T.i_int (se_var (i := 0)) T.n_isinstance T.n_int) (se_one (se_not (se_isiB hat T.i_bool (se_var (i := 0)) T.n_isinstance T.n_bool))))))
theorem sc_is_between : FnScope ["thing", "low", "high"] ["thing", "low", "high"] (defScope (top 9)) := ⟨rfl, rfl, rfl, by decide +kernel, rfl, by decide +kernel, by decide +kernel⟩
theorem ok_is_between (T : Txt K mg) : FnG P w K mg base idCl 2 "is_between" ["thing", "low", "high"] F_is_between := by
  refine fnG_ofZ hat (N := ["thing", "low", "high"]) (ps := ["thing", "low", "high"]) (m := m_is_between) (k := 1) T.d_is_between sc_is_between fun g cdv A outer s H E hr => ?_
  have hN := sc_is_between.nd
  unfold m_is_between
  exact (sb_one (ss_ret (se_and (se_callG (ok_is_integer T) ((hr).mono (by decide : 1 ≤ 1)) tk_def (sa_cons (se_var (i := 0)) sa_nil)) (se_one (se_chain o2_le o2_le (se_var (i := 1)) (se_var (i := 0)) (se_var (i := 2)))))))
theorem sc_are_bits : FnScope ["many", "thing", "one"] ["many", "thing"] (defScope (top 10)) := ⟨rfl, rfl, rfl, by decide +kernel, rfl, by decide +kernel, by decide +kernel⟩
theorem ok_are_bits (T : Txt K mg) : FnG P w K mg base idCl 3 "are_bits" ["many", "thing"] F_are_bits := by
  refine fnG_ofZ hat (N := ["many", "thing", "one"]) (ps := ["many", "thing"]) (m := m_are_bits) (k := 2) T.d_are_bits sc_are_bits fun g cdv A outer s H E hr => ?_
  have hN := sc_are_bits.nd
  unfold m_are_bits
  exact (sb_one (ss_ret (se_and (se_isiB hat T.i_tuple (se_var (i := 1)) T.n_isinstance T.n_tuple) (se_and (se_cmp (o2_eq hr) (se_callB oc_len T.n_len rfl (sa_cons (se_var (i := 1)) sa_nil)) (se_var (i := 0))) (se_one (se_callFB (of_all rfl) T.n_all rfl (sf_lc (own := [("one", 2)]) rfl hN (si_row (sl_val (se_var (i := 1)))) (by refine ⟨rfl, by decide +kernel, ?_, ?_, ?_⟩ <;> dsimp only [cxOf, envOfC, Cx.blk, compEnvC, relabel_names, relabel_kind] <;> decide +kernel) (fun _ _ _ _ _ => (sg_name hN (i := 2))) (fun _ _ _ _ _ => spt_nil) (fun _ _ _ _ _ => (se_callG (ok_is_between T) (((Rm.blk hr)).mono (by decide : 2 ≤ 2)) takes0 (sa_cons (se_var (i := 2)) (sa_cons se_int (sa_cons se_int sa_nil))))))))))))
theorem sc_Netdd_initdd : FnScope ["self", "tables", "at", "table"] ["self", "tables"] (defScope (inClass (top 13) 0)) := ⟨rfl, rfl, rfl, by decide +kernel, rfl, by decide +kernel, by decide +kernel⟩
theorem ok_Netdd_initdd (T : Txt K mg) : FnM P w K mg base idCl 4 cNet "__init__" ["self", "tables"] F_Netdd_initdd := by
  refine fnM_ofZ hat (N := ["self", "tables", "at", "table"]) (ps := ["self", "tables"]) (m := m_Netdd_initdd) (k := 3) T.d_Netdd_initdd sc_Netdd_initdd fun g cdv A outer s H E hr => ?_
  have hN := sc_Netdd_initdd.nd
  unfold m_Netdd_initdd
  exact (sb_cons (ss_if (st_w (sw_or (st_not (st_val (se_isiB hat T.i_tuple (se_var (i := 1)) T.n_isinstance T.n_tuple))) (sw_or1 (st_not (st_chain o2_le o2_le se_int (se_callB oc_len T.n_len rfl (sa_cons (se_var (i := 1)) sa_nil)) (se_gI T.c_MOST_LAMPS))))))
  sb_bad
  sb_nil)
  (sb_cons (ss_for hp_def rfl (si_enum (sl_val (se_var (i := 1))) T.n_enumerate) (sg_tup rfl (sgs_cons (sg_name hN (i := 2)) (sgs_cons (sg_name hN (i := 3)) sgs_nil)))
  (sb_one (ss_if (st_not (st_val (se_callG (ok_are_bits T) ((hr).mono (by decide : 3 ≤ 3)) tk_def (sa_cons (se_ixA hr (se_gT T.c_POWERS) (se_callB oc_len T.n_len rfl (sa_cons (se_var (i := 1)) sa_nil))) (sa_cons (se_var (i := 3)) sa_nil)))))
  sb_bad
  sb_nil)))
  (sb_cons (ss_fld hat (se_var (i := 0)) (se_var (i := 1)) T.f_tables)
  (sb_one (ss_fld hat (se_var (i := 0)) (se_callB oc_len T.n_len rfl (sa_cons (se_var (i := 1)) sa_nil)) T.f_many)))))
theorem sc__law_number : FnScope ["state", "found", "bit"] ["state"] (defScope (top 29)) := ⟨rfl, rfl, rfl, by decide +kernel, rfl, by decide +kernel, by decide +kernel⟩
theorem ok__law_number (T : Txt K mg) : FnG P w K mg base idCl 1 "_law_number" ["state"] F__law_number := by
  refine fnG_ofZ hat (N := ["state", "found", "bit"]) (ps := ["state"]) (m := m__law_number) (k := 0) T.d__law_number sc__law_number fun g cdv A outer s H E hr => ?_
  have hN := sc__law_number.nd
  unfold m__law_number
  exact (sb_cons (ss_set (i := 1) hN se_int)
  (sb_cons (ss_for hp_def rfl (si_row (sl_val (se_rev (se_var (i := 0))))) (sg_name hN (i := 2))
  (sb_one (ss_set (i := 1) hN (se_bin o2_add (se_bin o2_mul se_int (se_var (i := 1))) (se_var (i := 2))))))
  (sb_one (ss_ret (se_var (i := 1))))))
theorem sc__law_over : FnScope ["state", "lamp"] ["state", "lamp"] (defScope (top 30)) := ⟨rfl, rfl, rfl, by decide +kernel, rfl, by decide +kernel, by decide +kernel⟩
theorem ok__law_over (T : Txt K mg) : FnG P w K mg base idCl 1 "_law_over" ["state", "lamp"] F__law_over := by
  refine fnG_ofZ hat (N := ["state", "lamp"]) (ps := ["state", "lamp"]) (m := m__law_over) (k := 0) T.d__law_over sc__law_over fun g cdv A outer s H E hr => ?_
  have hN := sc__law_over.nd
  unfold m__law_over
  exact (sb_one (ss_ret (se_bin o2_add (se_bin o2_add (se_slice (se_var (i := 0)) so_none (so_some (se_var (i := 1)))) (se_tup (sa_cons (se_bin o2_sub se_int (se_ixA hr (se_var (i := 0)) (se_var (i := 1)))) sa_nil))) (se_slice (se_var (i := 0)) (so_some (se_bin o2_add (se_var (i := 1)) se_int)) so_none))))
theorem sc__law_local : FnScope ["tables", "state", "found", "here", "lamp", "there", "other", "row"] ["tables", "state"] (defScope (top 31)) := ⟨rfl, rfl, rfl, by decide +kernel, rfl, by decide +kernel, by decide +kernel⟩
theorem ok__law_local (T : Txt K mg) : FnG P w K mg base idCl 2 "_law_local" ["tables", "state"] F__law_local := by
  refine fnG_ofZ hat (N := ["tables", "state", "found", "here", "lamp", "there", "other", "row"]) (ps := ["tables", "state"]) (m := m__law_local) (k := 1) T.d__law_local sc__law_local fun g cdv A outer s H E hr => ?_
  have hN := sc__law_local.nd
  unfold m__law_local
  exact (sb_cons (ss_par (i := 2) (j := 3) rfl hN (se_list (sf_disp sa_nil)) (se_callG (ok__law_number T) ((hr).mono (by decide : 1 ≤ 1)) tk_def (sa_cons (se_var (i := 1)) sa_nil)))
  (sb_cons (ss_for hp_def rfl (si_range1 (se_callB oc_len T.n_len rfl (sa_cons (se_var (i := 0)) sa_nil)) T.n_range) (sg_name hN (i := 4))
  (sb_cons (ss_set (i := 5) hN (se_callG (ok__law_number T) ((hr).mono (by decide : 1 ≤ 1)) tk_def (sa_cons (se_callG (ok__law_over T) ((hr).mono (by decide : 1 ≤ 1)) tk_def (sa_cons (se_var (i := 1)) (sa_cons (se_var (i := 4)) sa_nil))) sa_nil)))
  (sb_one (ss_for hp_def rfl (si_enum (sl_val (se_var (i := 0))) T.n_enumerate) (sg_tup rfl (sgs_cons (sg_name hN (i := 6)) (sgs_cons (sg_name hN (i := 7)) sgs_nil)))
  (sb_one (ss_if (st_cmp (o2_ne hr) (se_ixA hr (se_var (i := 7)) (se_var (i := 3))) (se_ixA hr (se_var (i := 7)) (se_var (i := 5))))
  (sb_one (ss_expr (se_append (se_var (i := 2)) (se_tup (sa_cons (se_var (i := 4)) (sa_cons (se_var (i := 6)) (sa_cons (se_if (st_cmp (o2_eq hr) (se_ixA hr (se_var (i := 7)) (se_var (i := 3))) (se_ixA hr (se_var (i := 1)) (se_var (i := 4)))) se_int (se_un o1_neg se_int)) sa_nil)))))))
  sb_nil))))))
  (sb_one (ss_ret (se_eZ (sf_sorted hr rfl (se_var (i := 2)) T.n_sorted))))))
theorem sc__law_web : FnScope ["tables", "found", "state", "triple"] ["tables"] (defScope (top 32)) := ⟨rfl, rfl, rfl, by decide +kernel, rfl, by decide +kernel, by decide +kernel⟩
theorem ok__law_web (T : Txt K mg) : FnG P w K mg base idCl 3 "_law_web" ["tables"] F__law_web := by
  refine fnG_ofZ hat (N := ["tables", "found", "state", "triple"]) (ps := ["tables"]) (m := m__law_web) (k := 2) T.d__law_web sc__law_web fun g cdv A outer s H E hr => ?_
  have hN := sc__law_web.nd
  unfold m__law_web
  exact (sb_cons (ss_set (i := 1) hN (se_dic sfd_new))
  (sb_cons (ss_for hp_def rfl (si_row (sl_val (se_callG (ok__law_states T) ((hr).mono (by decide : 1 ≤ 2)) tk_def (sa_cons (se_callB oc_len T.n_len rfl (sa_cons (se_var (i := 0)) sa_nil)) sa_nil)))) (sg_name hN (i := 2))
  (sb_one (ss_expr (se_bm PySem.F.plainAttrs_dict PySem.F.slot_dict_update PySem.F.type_dict_update (om_updT hr) (se_var (i := 1)) (sa_cons (se_dicZ (sfd_dict hr rfl (se_eZ (sf_lc (own := [("triple", 3)]) rfl hN (si_row (sl_val (se_callG (ok__law_local T) ((hr).mono (by decide : 2 ≤ 2)) tk_def (sa_cons (se_var (i := 0)) (sa_cons (se_var (i := 2)) sa_nil))))) (by refine ⟨rfl, by decide +kernel, ?_, ?_, ?_⟩ <;> dsimp only [cxOf, envOfC, Cx.blk, compEnvC, relabel_names, relabel_kind] <;> decide +kernel) (fun _ _ _ _ _ => (sg_name hN (i := 3))) (fun _ _ _ _ _ => spt_nil) (fun _ _ _ _ _ => (se_tup (sa_cons (se_var (i := 3)) (sa_cons se_bl sa_nil)))))) T.n_dict)) sa_nil)))))
  (sb_one (ss_ret (se_eZ (sf_sorted hr rfl (se_var (i := 1)) T.n_sorted))))))
theorem sc_check_net : FnScope ["thing"] ["thing"] (defScope (top 15)) := ⟨rfl, rfl, rfl, by decide +kernel, rfl, by decide +kernel, by decide +kernel⟩
theorem ok_check_net (T : Txt K mg) : FnG P w K mg base idCl 1 "check_net" ["thing"] F_check_net := by
  refine fnG_ofZ hat (N := ["thing"]) (ps := ["thing"]) (m := m_check_net) (k := 0) T.d_check_net sc_check_net fun g cdv A outer s H E hr => ?_
  have hN := sc_check_net.nd
  unfold m_check_net
  exact (sb_one (ss_if (st_not (st_val (se_isiC hat T.i_Net (se_var (i := 0)) T.n_isinstance T.n_Net)))
  sb_bad
  sb_nil))
theorem sc_check_state : FnScope ["net", "state"] ["net", "state"] (defScope (top 16)) := ⟨rfl, rfl, rfl, by decide +kernel, rfl, by decide +kernel, by decide +kernel⟩
theorem ok_check_state (T : Txt K mg) : FnG P w K mg base idCl 4 "check_state" ["net", "state"] F_check_state := by
  refine fnG_ofZ hat (N := ["net", "state"]) (ps := ["net", "state"]) (m := m_check_state) (k := 3) T.d_check_state sc_check_state fun g cdv A outer s H E hr => ?_
  have hN := sc_check_state.nd
  unfold m_check_state
  exact (sb_cons (ss_expr (se_callG (ok_check_net T) ((hr).mono (by decide : 1 ≤ 3)) tk_def (sa_cons (se_var (i := 0)) sa_nil)))
  (sb_one (ss_if (st_not (st_val (se_callG (ok_are_bits T) ((hr).mono (by decide : 3 ≤ 3)) tk_def (sa_cons (se_fld hat (se_var (i := 0)) T.f_many) (sa_cons (se_var (i := 1)) sa_nil)))))
  sb_bad
  sb_nil)))
theorem sc_bit_of : FnScope ["number", "lamp"] ["number", "lamp"] (defScope (top 11)) := ⟨rfl, rfl, rfl, by decide +kernel, rfl, by decide +kernel, by decide +kernel⟩
theorem ok_bit_of (T : Txt K mg) : FnG P w K mg base idCl 1 "bit_of" ["number", "lamp"] F_bit_of := by
  refine fnG_ofZ hat (N := ["number", "lamp"]) (ps := ["number", "lamp"]) (m := m_bit_of) (k := 0) T.d_bit_of sc_bit_of fun g cdv A outer s H E hr => ?_
  have hN := sc_bit_of.nd
  unfold m_bit_of
  exact (sb_one (ss_ret (se_bin o2_mod (se_bin o2_fdiv (se_var (i := 0)) (se_ixA hr (se_gT T.c_POWERS) (se_var (i := 1)))) se_int)))
theorem sc_signs_at : FnScope ["net", "number", "found", "lamp", "bit", "low", "other", "table", "change"] ["net", "number"] (defScope (top 18)) := ⟨rfl, rfl, rfl, by decide +kernel, rfl, by decide +kernel, by decide +kernel⟩
theorem ok_signs_at (T : Txt K mg) : FnG P w K mg base idCl 2 "signs_at" ["net", "number"] F_signs_at := by
  refine fnG_ofZ hat (N := ["net", "number", "found", "lamp", "bit", "low", "other", "table", "change"]) (ps := ["net", "number"]) (m := m_signs_at) (k := 1) T.d_signs_at sc_signs_at fun g cdv A outer s H E hr => ?_
  have hN := sc_signs_at.nd
  unfold m_signs_at
  exact (sb_cons (ss_set (i := 2) hN (se_dic sfd_new))
  (sb_cons (ss_for hp_def rfl (si_range1 (se_fld hat (se_var (i := 0)) T.f_many) T.n_range) (sg_name hN (i := 3))
  (sb_cons (ss_set (i := 4) hN (se_callG (ok_bit_of T) ((hr).mono (by decide : 1 ≤ 1)) tk_def (sa_cons (se_var (i := 1)) (sa_cons (se_var (i := 3)) sa_nil))))
  (sb_cons (ss_set (i := 5) hN (se_bin o2_sub (se_var (i := 1)) (se_bin o2_mul (se_var (i := 4)) (se_ixA hr (se_gT T.c_POWERS) (se_var (i := 3))))))
  (sb_one (ss_for hp_def rfl (si_enum (sl_val (se_fld hat (se_var (i := 0)) T.f_tables)) T.n_enumerate) (sg_tup rfl (sgs_cons (sg_name hN (i := 6)) (sgs_cons (sg_name hN (i := 7)) sgs_nil)))
  (sb_cons (ss_set (i := 8) hN (se_bin o2_sub (se_ixA hr (se_var (i := 7)) (se_bin o2_add (se_var (i := 5)) (se_ixA hr (se_gT T.c_POWERS) (se_var (i := 3))))) (se_ixA hr (se_var (i := 7)) (se_var (i := 5)))))
  (sb_one (ss_if (st_cmp (o2_ne hr) (se_var (i := 8)) se_int)
  (sb_one (ss_sub se_bl (se_var (i := 2)) (se_tup (sa_cons (se_var (i := 3)) (sa_cons (se_var (i := 6)) (sa_cons (se_var (i := 8)) sa_nil)))) (os_any hr)))
  sb_nil))))))))
  (sb_one (ss_ret (se_var (i := 2))))))
theorem sc_number_by : FnScope ["bits", "lamp", "bit"] ["bits"] (defScope (top 12)) := ⟨rfl, rfl, rfl, by decide +kernel, rfl, by decide +kernel, by decide +kernel⟩
theorem ok_number_by (T : Txt K mg) : FnG P w K mg base idCl 1 "number_by" ["bits"] F_number_by := by
  refine fnG_ofZ hat (N := ["bits", "lamp", "bit"]) (ps := ["bits"]) (m := m_number_by) (k := 0) T.d_number_by sc_number_by fun g cdv A outer s H E hr => ?_
  have hN := sc_number_by.nd
  unfold m_number_by
  exact (sb_one (ss_ret (se_callFB (of_sum rfl) T.n_sum rfl (sf_lc (own := [("lamp", 1), ("bit", 2)]) rfl hN (si_enum (sl_val (se_var (i := 0))) T.n_enumerate) (by refine ⟨rfl, by decide +kernel, ?_, ?_, ?_⟩ <;> dsimp only [cxOf, envOfC, Cx.blk, compEnvC, relabel_names, relabel_kind] <;> decide +kernel) (fun _ _ _ _ _ => (sg_tup rfl (sgs_cons (sg_name hN (i := 1)) (sgs_cons (sg_name hN (i := 2)) sgs_nil)))) (fun _ _ _ _ _ => (spt_one (st_cmp (o2_eq (Rm.blk hr)) (se_var (i := 2)) se_int))) (fun _ _ _ _ _ => (se_ixA (Rm.blk hr) (se_gT T.c_POWERS) (se_var (i := 1))))))))
theorem sc_local_web : FnScope ["net", "state"] ["net", "state"] (defScope (top 21)) := ⟨rfl, rfl, rfl, by decide +kernel, rfl, by decide +kernel, by decide +kernel⟩
theorem ok_local_web (T : Txt K mg) : FnG P w K mg base idCl 5 "local_web" ["net", "state"] F_local_web := by
  refine fnG_ofZ hat (N := ["net", "state"]) (ps := ["net", "state"]) (m := m_local_web) (k := 4) T.d_local_web sc_local_web fun g cdv A outer s H E hr => ?_
  have hN := sc_local_web.nd
  unfold m_local_web
  exact (sb_cons (ss_expr (se_callG (ok_check_state T) ((hr).mono (by decide : 4 ≤ 4)) tk_def (sa_cons (se_var (i := 0)) (sa_cons (se_var (i := 1)) sa_nil))))
  (sb_one (ss_ret (se_callFTy of_tuple T.n_tuple rfl (sf_sorted hr rfl (se_callG (ok_signs_at T) ((hr).mono (by decide : 2 ≤ 4)) tk_def (sa_cons (se_var (i := 0)) (sa_cons (se_callG (ok_number_by T) ((hr).mono (by decide : 1 ≤ 4)) tk_def (sa_cons (se_var (i := 1)) sa_nil)) sa_nil))) T.n_sorted)))))
theorem sc_web_of : FnScope ["net", "found", "number"] ["net"] (defScope (top 19)) := ⟨rfl, rfl, rfl, by decide +kernel, rfl, by decide +kernel, by decide +kernel⟩
theorem ok_web_of (T : Txt K mg) : FnG P w K mg base idCl 3 "web_of" ["net"] F_web_of := by
  refine fnG_ofZ hat (N := ["net", "found", "number"]) (ps := ["net"]) (m := m_web_of) (k := 2) T.d_web_of sc_web_of fun g cdv A outer s H E hr => ?_
  have hN := sc_web_of.nd
  unfold m_web_of
  exact (sb_cons (ss_set (i := 1) hN (se_dic sfd_new))
  (sb_cons (ss_for hp_def rfl (si_range1 (se_ixA hr (se_gT T.c_POWERS) (se_fld hat (se_var (i := 0)) T.f_many)) T.n_range) (sg_name hN (i := 2))
  (sb_one (ss_expr (se_bm PySem.F.plainAttrs_dict PySem.F.slot_dict_update PySem.F.type_dict_update (om_updT hr) (se_var (i := 1)) (sa_cons (se_callG (ok_signs_at T) ((hr).mono (by decide : 2 ≤ 2)) tk_def (sa_cons (se_var (i := 0)) (sa_cons (se_var (i := 2)) sa_nil))) sa_nil)))))
  (sb_one (ss_ret (se_eZ (sf_sorted hr rfl (se_var (i := 1)) T.n_sorted))))))
theorem sc_web : FnScope ["net"] ["net"] (defScope (top 20)) := ⟨rfl, rfl, rfl, by decide +kernel, rfl, by decide +kernel, by decide +kernel⟩
theorem ok_web (T : Txt K mg) : FnG P w K mg base idCl 4 "web" ["net"] F_web := by
  refine fnG_ofZ hat (N := ["net"]) (ps := ["net"]) (m := m_web) (k := 3) T.d_web sc_web fun g cdv A outer s H E hr => ?_
  have hN := sc_web.nd
  unfold m_web
  exact (sb_cons (ss_expr (se_callG (ok_check_net T) ((hr).mono (by decide : 1 ≤ 3)) tk_def (sa_cons (se_var (i := 0)) sa_nil)))
  (sb_one (ss_ret (se_callUTy ou_tuple T.n_tuple rfl (sl_val (se_callG (ok_web_of T) ((hr).mono (by decide : 3 ≤ 3)) tk_def (sa_cons (se_var (i := 0)) sa_nil)))))))
theorem sc_is_even_sided : FnScope ["net", "some", "i", "j", "sign"] ["net"] (defScope (top 22)) := ⟨rfl, rfl, rfl, by decide +kernel, rfl, by decide +kernel, by decide +kernel⟩
theorem ok_is_even_sided (T : Txt K mg) : FnG P w K mg base idCl 4 "is_even_sided" ["net"] F_is_even_sided := by
  refine fnG_ofZ hat (N := ["net", "some", "i", "j", "sign"]) (ps := ["net"]) (m := m_is_even_sided) (k := 3) T.d_is_even_sided sc_is_even_sided fun g cdv A outer s H E hr => ?_
  have hN := sc_is_even_sided.nd
  unfold m_is_even_sided
  exact (sb_cons (ss_expr (se_callG (ok_check_net T) ((hr).mono (by decide : 1 ≤ 3)) tk_def (sa_cons (se_var (i := 0)) sa_nil)))
  (sb_cons (ss_set (i := 1) hN (se_callG (ok_web_of T) ((hr).mono (by decide : 3 ≤ 3)) tk_def (sa_cons (se_var (i := 0)) sa_nil)))
  (sb_one (ss_ret (se_cmp (o2_eq hr) (se_callB oc_len T.n_len rfl (sa_cons (se_dicZ (sfd_dc (own := [("i", 2), ("j", 3), ("sign", 4)]) hr rfl hN (si_row (sl_val (se_var (i := 1)))) (by refine ⟨rfl, by decide +kernel, ?_, ?_, ?_⟩ <;> dsimp only [cxOf, envOfC, Cx.blk, compEnvC, relabel_names, relabel_kind] <;> decide +kernel) (fun _ _ _ _ _ => (sg_tup rfl (sgs_cons (sg_name hN (i := 2)) (sgs_cons (sg_name hN (i := 3)) (sgs_cons (sg_name hN (i := 4)) sgs_nil))))) (fun _ _ _ _ _ => spt_nil) (fun _ _ _ _ _ => (se_tup (sa_cons (se_var (i := 2)) (sa_cons (se_var (i := 3)) sa_nil)))) (fun _ _ _ _ _ => se_bl))) sa_nil)) (se_callB oc_len T.n_len rfl (sa_cons (se_var (i := 1)) sa_nil)))))))
theorem sc_law : FnScope ["script", "hand", "pass_no", "tables", "many", "book", "due", "met_here", "state", "told", "pairs_here", "lamp", "row", "is_set", "triple"] ["script"] (defScope (top 33)) := ⟨rfl, rfl, rfl, by decide +kernel, rfl, by decide +kernel, by decide +kernel⟩
theorem bd_law (T : Txt K mg) (g : Addr) (cdv : Value) (A : Around) (outer : List Env) (s : Shared) (H : Hp) (E : XK) (hr : Rm (cxOf (L2.CX P w) P w K mg base ["script", "hand", "pass_no", "tables", "many", "book", "due", "met_here", "state", "told", "pairs_here", "lamp", "row", "is_set", "triple"] "law" (defScope (top 33)) g cdv A outer s H E) 5) : SB (cxOf (L2.CX P w) P w K mg base ["script", "hand", "pass_no", "tables", "many", "book", "due", "met_here", "state", "told", "pairs_here", "lamp", "row", "is_set", "triple"] "law" (defScope (top 33)) g cdv A outer s H E) idCl (WE0 E) (defBody (top 33)) m_law := by
  have hN := sc_law.nd
  unfold m_law
  exact (sb_cons (ss_set (i := 1) hN (se_callG (ok__law_hand T) ((hr).mono (by decide : 1 ≤ 5)) tk_def (sa_cons (se_var (i := 0)) sa_nil)))
  (sb_cons (ss_for hp_def rfl (si_range1 se_int T.n_range) (sg_name hN (i := 2))
  (sb_cons (ss_set (i := 3) hN (se_callG (ok__law_tables T) ((hr).mono (by decide : 3 ≤ 5)) tk_def (sa_cons (se_var (i := 1)) (sa_cons se_int sa_nil))))
  (sb_cons (ss_par (i := 4) (j := 5) rfl hN (se_callB oc_len T.n_len rfl (sa_cons (se_var (i := 3)) sa_nil)) (se_makeGZ hat T.m_Net (ok_Netdd_initdd T) ((hr).mono (by decide : 5 ≤ 5)) T.n_Net tk_def (sa_cons (se_var (i := 3)) sa_nil)))
  (sb_cons (ss_par (i := 6) (j := 7) rfl hN (se_callG (ok__law_web T) ((hr).mono (by decide : 3 ≤ 5)) tk_def (sa_cons (se_var (i := 3)) sa_nil)) (se_dic sfd_new))
  (sb_cons (ss_if (st_cmp (o2_ne hr) (se_callB (oc_repr hr) T.n_repr rfl (sa_cons (se_callG (ok_web T) ((hr).mono (by decide : 4 ≤ 5)) tk_def (sa_cons (se_var (i := 5)) sa_nil)) sa_nil)) (se_callB (oc_repr hr) T.n_repr rfl (sa_cons (se_callUTy ou_tuple T.n_tuple rfl (sl_val (se_var (i := 6)))) sa_nil)))
  (sb_one (ss_ret se_bl))
  sb_nil)
  (sb_cons (ss_for hp_def rfl (si_row (sl_val (se_callG (ok__law_states T) ((hr).mono (by decide : 1 ≤ 5)) tk_def (sa_cons (se_var (i := 4)) sa_nil)))) (sg_name hN (i := 8))
  (sb_cons (ss_set (i := 9) hN (se_callG (ok_local_web T) ((hr).mono (by decide : 5 ≤ 5)) tk_def (sa_cons (se_var (i := 5)) (sa_cons (se_var (i := 8)) sa_nil))))
  (sb_cons (ss_if (st_cmp (o2_ne hr) (se_callB (oc_repr hr) T.n_repr rfl (sa_cons (se_var (i := 9)) sa_nil)) (se_callB (oc_repr hr) T.n_repr rfl (sa_cons (se_callUTy ou_tuple T.n_tuple rfl (sl_val (se_callG (ok__law_local T) ((hr).mono (by decide : 2 ≤ 5)) tk_def (sa_cons (se_var (i := 3)) (sa_cons (se_var (i := 8)) sa_nil))))) sa_nil)))
  (sb_one (ss_ret se_bl))
  sb_nil)
  (sb_one (ss_expr (se_bm PySem.F.plainAttrs_dict PySem.F.slot_dict_update PySem.F.type_dict_update (om_updT hr) (se_var (i := 7)) (sa_cons (se_dicZ (sfd_dict hr rfl (se_eZ (sf_lc (own := [("triple", 14)]) rfl hN (si_row (sl_val (se_var (i := 9)))) (by refine ⟨rfl, by decide +kernel, ?_, ?_, ?_⟩ <;> dsimp only [cxOf, envOfC, Cx.blk, compEnvC, relabel_names, relabel_kind] <;> decide +kernel) (fun _ _ _ _ _ => (sg_name hN (i := 14))) (fun _ _ _ _ _ => spt_nil) (fun _ _ _ _ _ => (se_tup (sa_cons (se_var (i := 14)) (sa_cons se_bl sa_nil)))))) T.n_dict)) sa_nil)))))))
  (sb_cons (ss_if (st_cmp (o2_ne hr) (se_eZ (sf_sorted hr rfl (se_var (i := 7)) T.n_sorted)) (se_var (i := 6)))
  (sb_one (ss_ret se_bl))
  sb_nil)
  (sb_cons (ss_setLcZ (i := 10) (own := [("triple", 14)]) rfl hN (si_row (sl_val (se_var (i := 6)))) (by refine ⟨rfl, by decide +kernel, ?_, ?_, ?_⟩ <;> dsimp only [cxOf, envOfC, Cx.blk, compEnvC, relabel_names, relabel_kind] <;> decide +kernel) (fun _ _ _ _ _ => (sg_name hN (i := 14))) (fun _ _ _ _ _ => spt_nil) (fun _ _ _ _ _ => (se_slice (se_var (i := 14)) so_none (so_some se_int))))
  (sb_cons (ss_if (st_cmp (o2_ne hr) (se_callB (oc_repr hr) T.n_repr rfl (sa_cons (se_callG (ok_is_even_sided T) ((hr).mono (by decide : 4 ≤ 5)) tk_def (sa_cons (se_var (i := 5)) sa_nil)) sa_nil)) (se_callB (oc_repr hr) T.n_repr rfl (sa_cons (se_cmp (o2_eq hr) (se_lenSet hr rfl (se_var (i := 10)) T.n_len T.n_set) (se_callB oc_len T.n_len rfl (sa_cons (se_var (i := 10)) sa_nil))) sa_nil)))
  (sb_one (ss_ret se_bl))
  sb_nil)
  (sb_cons (ss_for hp_def rfl (si_enum (sl_val (se_var (i := 3))) T.n_enumerate) (sg_tup rfl (sgs_cons (sg_name hN (i := 11)) (sgs_cons (sg_name hN (i := 12)) sgs_nil)))
  (sb_cons (ss_set (i := 13) hN (se_callFB (of_any rfl) T.n_any rfl (sf_lc (own := [("triple", 14)]) rfl hN (si_row (sl_val (se_var (i := 6)))) (by refine ⟨rfl, by decide +kernel, ?_, ?_, ?_⟩ <;> dsimp only [cxOf, envOfC, Cx.blk, compEnvC, relabel_names, relabel_kind] <;> decide +kernel) (fun _ _ _ _ _ => (sg_name hN (i := 14))) (fun _ _ _ _ _ => spt_nil) (fun _ _ _ _ _ => (se_cmp (o2_eq (Rm.blk hr)) (se_ixA (Rm.blk hr) (se_var (i := 14)) se_int) (se_var (i := 11)))))))
  (sb_one (ss_if (st_cmp (o2_ne hr) (se_var (i := 13)) (se_cmp o2_gt (se_lenSet hr rfl (se_var (i := 12)) T.n_len T.n_set) se_int))
  (sb_one (ss_ret se_bl))
  sb_nil))))
  (sb_one (ss_if (st_cmp (o2_neG hat T.e_Net (ok_Netdd_eqdd T) ((hr).mono (by decide : 2 ≤ 5))) (se_var (i := 5)) (se_makeGZ hat T.m_Net (ok_Netdd_initdd T) ((hr).mono (by decide : 5 ≤ 5)) T.n_Net tk_def (sa_cons (se_var (i := 3)) sa_nil)))
  (sb_one (ss_ret se_bl))
  sb_nil))))))))))))
  (sb_one (ss_ret se_bl))))
end
theorem all_mk {l : PySem.W.OpenLaw} {w : World} {K : Frag} {h : Heap} {mg : Str → Option Value} {fa : Addr} (X : K.In h) (G : h.Ns mainGlobals mg) (hfa : mg "law" = some (.ref fa))
    {g__law_hand : Addr} {od__law_hand an__law_hand : Option Addr} {sl__law_hand : Array (Option Value)} {oc__law_hand kV__law_hand dc__law_hand pm__law_hand cd__law_hand ct__law_hand : Value} (a__law_hand : PySem.W.nsIn K mainGlobals "_law_hand" = some (some (.ref g__law_hand))) (l__law_hand : K.lookup g__law_hand = some ⟨oc__law_hand, od__law_hand, .func (PySem.W.fnOf "_law_hand" "_law_hand" (defArgs (top 24)) (defBody (top 24)) (defScope (top 24)) .none kV__law_hand dc__law_hand pm__law_hand an__law_hand cd__law_hand ct__law_hand), sl__law_hand⟩) (c__law_hand : PySem.W.codeIn K cd__law_hand "_law_hand" = true) (k__law_hand : PySem.W.keepIn K (.ref g__law_hand) = true)
    {g__law_draw : Addr} {od__law_draw an__law_draw : Option Addr} {sl__law_draw : Array (Option Value)} {oc__law_draw kV__law_draw dc__law_draw pm__law_draw cd__law_draw ct__law_draw : Value} (a__law_draw : PySem.W.nsIn K mainGlobals "_law_draw" = some (some (.ref g__law_draw))) (l__law_draw : K.lookup g__law_draw = some ⟨oc__law_draw, od__law_draw, .func (PySem.W.fnOf "_law_draw" "_law_draw" (defArgs (top 25)) (defBody (top 25)) (defScope (top 25)) .none kV__law_draw dc__law_draw pm__law_draw an__law_draw cd__law_draw ct__law_draw), sl__law_draw⟩) (c__law_draw : PySem.W.codeIn K cd__law_draw "_law_draw" = true) (k__law_draw : PySem.W.keepIn K (.ref g__law_draw) = true)
    {g__law_states : Addr} {od__law_states an__law_states : Option Addr} {sl__law_states : Array (Option Value)} {oc__law_states kV__law_states dc__law_states pm__law_states cd__law_states ct__law_states : Value} (a__law_states : PySem.W.nsIn K mainGlobals "_law_states" = some (some (.ref g__law_states))) (l__law_states : K.lookup g__law_states = some ⟨oc__law_states, od__law_states, .func (PySem.W.fnOf "_law_states" "_law_states" (defArgs (top 27)) (defBody (top 27)) (defScope (top 27)) .none kV__law_states dc__law_states pm__law_states an__law_states cd__law_states ct__law_states), sl__law_states⟩) (c__law_states : PySem.W.codeIn K cd__law_states "_law_states" = true) (k__law_states : PySem.W.keepIn K (.ref g__law_states) = true)
    {g__law_any : Addr} {od__law_any an__law_any : Option Addr} {sl__law_any : Array (Option Value)} {oc__law_any kV__law_any dc__law_any pm__law_any cd__law_any ct__law_any : Value} (a__law_any : PySem.W.nsIn K mainGlobals "_law_any" = some (some (.ref g__law_any))) (l__law_any : K.lookup g__law_any = some ⟨oc__law_any, od__law_any, .func (PySem.W.fnOf "_law_any" "_law_any" (defArgs (top 26)) (defBody (top 26)) (defScope (top 26)) .none kV__law_any dc__law_any pm__law_any an__law_any cd__law_any ct__law_any), sl__law_any⟩) (c__law_any : PySem.W.codeIn K cd__law_any "_law_any" = true) (k__law_any : PySem.W.keepIn K (.ref g__law_any) = true)
    {g__law_tables : Addr} {od__law_tables an__law_tables : Option Addr} {sl__law_tables : Array (Option Value)} {oc__law_tables kV__law_tables dc__law_tables pm__law_tables cd__law_tables ct__law_tables : Value} (a__law_tables : PySem.W.nsIn K mainGlobals "_law_tables" = some (some (.ref g__law_tables))) (l__law_tables : K.lookup g__law_tables = some ⟨oc__law_tables, od__law_tables, .func (PySem.W.fnOf "_law_tables" "_law_tables" (defArgs (top 28)) (defBody (top 28)) (defScope (top 28)) .none kV__law_tables dc__law_tables pm__law_tables an__law_tables cd__law_tables ct__law_tables), sl__law_tables⟩) (c__law_tables : PySem.W.codeIn K cd__law_tables "_law_tables" = true) (k__law_tables : PySem.W.keepIn K (.ref g__law_tables) = true)
    {g_Netdd_eqdd : Addr} {od_Netdd_eqdd an_Netdd_eqdd : Option Addr} {sl_Netdd_eqdd : Array (Option Value)} {oc_Netdd_eqdd kV_Netdd_eqdd dc_Netdd_eqdd pm_Netdd_eqdd cd_Netdd_eqdd ct_Netdd_eqdd : Value} (a_Netdd_eqdd : PySem.W.findIn K (.ref cNet) "__eq__" = some (some (.ref g_Netdd_eqdd))) (i_Netdd_eqdd : PySem.W.isFn K (.ref g_Netdd_eqdd) = true) (l_Netdd_eqdd : K.lookup g_Netdd_eqdd = some ⟨oc_Netdd_eqdd, od_Netdd_eqdd, .func (PySem.W.fnOf "__eq__" "Net.__eq__" (defArgs (inClass (top 13) 1)) (defBody (inClass (top 13) 1)) (defScope (inClass (top 13) 1)) .none kV_Netdd_eqdd dc_Netdd_eqdd pm_Netdd_eqdd an_Netdd_eqdd cd_Netdd_eqdd ct_Netdd_eqdd), sl_Netdd_eqdd⟩) (c_Netdd_eqdd : PySem.W.codeIn K cd_Netdd_eqdd "Net.__eq__" = true) (k_Netdd_eqdd : PySem.W.keepIn K (.ref g_Netdd_eqdd) = true)
    {g_is_integer : Addr} {od_is_integer an_is_integer : Option Addr} {sl_is_integer : Array (Option Value)} {oc_is_integer kV_is_integer dc_is_integer pm_is_integer cd_is_integer ct_is_integer : Value} (a_is_integer : PySem.W.nsIn K mainGlobals "is_integer" = some (some (.ref g_is_integer))) (l_is_integer : K.lookup g_is_integer = some ⟨oc_is_integer, od_is_integer, .func (PySem.W.fnOf "is_integer" "is_integer" (defArgs (top 8)) (defBody (top 8)) (defScope (top 8)) .none kV_is_integer dc_is_integer pm_is_integer an_is_integer cd_is_integer ct_is_integer), sl_is_integer⟩) (c_is_integer : PySem.W.codeIn K cd_is_integer "is_integer" = true) (k_is_integer : PySem.W.keepIn K (.ref g_is_integer) = true)
    {g_is_between : Addr} {od_is_between an_is_between : Option Addr} {sl_is_between : Array (Option Value)} {oc_is_between kV_is_between dc_is_between pm_is_between cd_is_between ct_is_between : Value} (a_is_between : PySem.W.nsIn K mainGlobals "is_between" = some (some (.ref g_is_between))) (l_is_between : K.lookup g_is_between = some ⟨oc_is_between, od_is_between, .func (PySem.W.fnOf "is_between" "is_between" (defArgs (top 9)) (defBody (top 9)) (defScope (top 9)) .none kV_is_between dc_is_between pm_is_between an_is_between cd_is_between ct_is_between), sl_is_between⟩) (c_is_between : PySem.W.codeIn K cd_is_between "is_between" = true) (k_is_between : PySem.W.keepIn K (.ref g_is_between) = true)
    {g_are_bits : Addr} {od_are_bits an_are_bits : Option Addr} {sl_are_bits : Array (Option Value)} {oc_are_bits kV_are_bits dc_are_bits pm_are_bits cd_are_bits ct_are_bits : Value} (a_are_bits : PySem.W.nsIn K mainGlobals "are_bits" = some (some (.ref g_are_bits))) (l_are_bits : K.lookup g_are_bits = some ⟨oc_are_bits, od_are_bits, .func (PySem.W.fnOf "are_bits" "are_bits" (defArgs (top 10)) (defBody (top 10)) (defScope (top 10)) .none kV_are_bits dc_are_bits pm_are_bits an_are_bits cd_are_bits ct_are_bits), sl_are_bits⟩) (c_are_bits : PySem.W.codeIn K cd_are_bits "are_bits" = true) (k_are_bits : PySem.W.keepIn K (.ref g_are_bits) = true)
    {g_Netdd_initdd : Addr} {od_Netdd_initdd an_Netdd_initdd : Option Addr} {sl_Netdd_initdd : Array (Option Value)} {oc_Netdd_initdd kV_Netdd_initdd dc_Netdd_initdd pm_Netdd_initdd cd_Netdd_initdd ct_Netdd_initdd : Value} (a_Netdd_initdd : PySem.W.findIn K (.ref cNet) "__init__" = some (some (.ref g_Netdd_initdd))) (i_Netdd_initdd : PySem.W.isFn K (.ref g_Netdd_initdd) = true) (l_Netdd_initdd : K.lookup g_Netdd_initdd = some ⟨oc_Netdd_initdd, od_Netdd_initdd, .func (PySem.W.fnOf "__init__" "Net.__init__" (defArgs (inClass (top 13) 0)) (defBody (inClass (top 13) 0)) (defScope (inClass (top 13) 0)) .none kV_Netdd_initdd dc_Netdd_initdd pm_Netdd_initdd an_Netdd_initdd cd_Netdd_initdd ct_Netdd_initdd), sl_Netdd_initdd⟩) (c_Netdd_initdd : PySem.W.codeIn K cd_Netdd_initdd "Net.__init__" = true) (k_Netdd_initdd : PySem.W.keepIn K (.ref g_Netdd_initdd) = true)
    {g__law_number : Addr} {od__law_number an__law_number : Option Addr} {sl__law_number : Array (Option Value)} {oc__law_number kV__law_number dc__law_number pm__law_number cd__law_number ct__law_number : Value} (a__law_number : PySem.W.nsIn K mainGlobals "_law_number" = some (some (.ref g__law_number))) (l__law_number : K.lookup g__law_number = some ⟨oc__law_number, od__law_number, .func (PySem.W.fnOf "_law_number" "_law_number" (defArgs (top 29)) (defBody (top 29)) (defScope (top 29)) .none kV__law_number dc__law_number pm__law_number an__law_number cd__law_number ct__law_number), sl__law_number⟩) (c__law_number : PySem.W.codeIn K cd__law_number "_law_number" = true) (k__law_number : PySem.W.keepIn K (.ref g__law_number) = true)
    {g__law_over : Addr} {od__law_over an__law_over : Option Addr} {sl__law_over : Array (Option Value)} {oc__law_over kV__law_over dc__law_over pm__law_over cd__law_over ct__law_over : Value} (a__law_over : PySem.W.nsIn K mainGlobals "_law_over" = some (some (.ref g__law_over))) (l__law_over : K.lookup g__law_over = some ⟨oc__law_over, od__law_over, .func (PySem.W.fnOf "_law_over" "_law_over" (defArgs (top 30)) (defBody (top 30)) (defScope (top 30)) .none kV__law_over dc__law_over pm__law_over an__law_over cd__law_over ct__law_over), sl__law_over⟩) (c__law_over : PySem.W.codeIn K cd__law_over "_law_over" = true) (k__law_over : PySem.W.keepIn K (.ref g__law_over) = true)
    {g__law_local : Addr} {od__law_local an__law_local : Option Addr} {sl__law_local : Array (Option Value)} {oc__law_local kV__law_local dc__law_local pm__law_local cd__law_local ct__law_local : Value} (a__law_local : PySem.W.nsIn K mainGlobals "_law_local" = some (some (.ref g__law_local))) (l__law_local : K.lookup g__law_local = some ⟨oc__law_local, od__law_local, .func (PySem.W.fnOf "_law_local" "_law_local" (defArgs (top 31)) (defBody (top 31)) (defScope (top 31)) .none kV__law_local dc__law_local pm__law_local an__law_local cd__law_local ct__law_local), sl__law_local⟩) (c__law_local : PySem.W.codeIn K cd__law_local "_law_local" = true) (k__law_local : PySem.W.keepIn K (.ref g__law_local) = true)
    {g__law_web : Addr} {od__law_web an__law_web : Option Addr} {sl__law_web : Array (Option Value)} {oc__law_web kV__law_web dc__law_web pm__law_web cd__law_web ct__law_web : Value} (a__law_web : PySem.W.nsIn K mainGlobals "_law_web" = some (some (.ref g__law_web))) (l__law_web : K.lookup g__law_web = some ⟨oc__law_web, od__law_web, .func (PySem.W.fnOf "_law_web" "_law_web" (defArgs (top 32)) (defBody (top 32)) (defScope (top 32)) .none kV__law_web dc__law_web pm__law_web an__law_web cd__law_web ct__law_web), sl__law_web⟩) (c__law_web : PySem.W.codeIn K cd__law_web "_law_web" = true) (k__law_web : PySem.W.keepIn K (.ref g__law_web) = true)
    {g_check_net : Addr} {od_check_net an_check_net : Option Addr} {sl_check_net : Array (Option Value)} {oc_check_net kV_check_net dc_check_net pm_check_net cd_check_net ct_check_net : Value} (a_check_net : PySem.W.nsIn K mainGlobals "check_net" = some (some (.ref g_check_net))) (l_check_net : K.lookup g_check_net = some ⟨oc_check_net, od_check_net, .func (PySem.W.fnOf "check_net" "check_net" (defArgs (top 15)) (defBody (top 15)) (defScope (top 15)) .none kV_check_net dc_check_net pm_check_net an_check_net cd_check_net ct_check_net), sl_check_net⟩) (c_check_net : PySem.W.codeIn K cd_check_net "check_net" = true) (k_check_net : PySem.W.keepIn K (.ref g_check_net) = true)
    {g_check_state : Addr} {od_check_state an_check_state : Option Addr} {sl_check_state : Array (Option Value)} {oc_check_state kV_check_state dc_check_state pm_check_state cd_check_state ct_check_state : Value} (a_check_state : PySem.W.nsIn K mainGlobals "check_state" = some (some (.ref g_check_state))) (l_check_state : K.lookup g_check_state = some ⟨oc_check_state, od_check_state, .func (PySem.W.fnOf "check_state" "check_state" (defArgs (top 16)) (defBody (top 16)) (defScope (top 16)) .none kV_check_state dc_check_state pm_check_state an_check_state cd_check_state ct_check_state), sl_check_state⟩) (c_check_state : PySem.W.codeIn K cd_check_state "check_state" = true) (k_check_state : PySem.W.keepIn K (.ref g_check_state) = true)
    {g_bit_of : Addr} {od_bit_of an_bit_of : Option Addr} {sl_bit_of : Array (Option Value)} {oc_bit_of kV_bit_of dc_bit_of pm_bit_of cd_bit_of ct_bit_of : Value} (a_bit_of : PySem.W.nsIn K mainGlobals "bit_of" = some (some (.ref g_bit_of))) (l_bit_of : K.lookup g_bit_of = some ⟨oc_bit_of, od_bit_of, .func (PySem.W.fnOf "bit_of" "bit_of" (defArgs (top 11)) (defBody (top 11)) (defScope (top 11)) .none kV_bit_of dc_bit_of pm_bit_of an_bit_of cd_bit_of ct_bit_of), sl_bit_of⟩) (c_bit_of : PySem.W.codeIn K cd_bit_of "bit_of" = true) (k_bit_of : PySem.W.keepIn K (.ref g_bit_of) = true)
    {g_signs_at : Addr} {od_signs_at an_signs_at : Option Addr} {sl_signs_at : Array (Option Value)} {oc_signs_at kV_signs_at dc_signs_at pm_signs_at cd_signs_at ct_signs_at : Value} (a_signs_at : PySem.W.nsIn K mainGlobals "signs_at" = some (some (.ref g_signs_at))) (l_signs_at : K.lookup g_signs_at = some ⟨oc_signs_at, od_signs_at, .func (PySem.W.fnOf "signs_at" "signs_at" (defArgs (top 18)) (defBody (top 18)) (defScope (top 18)) .none kV_signs_at dc_signs_at pm_signs_at an_signs_at cd_signs_at ct_signs_at), sl_signs_at⟩) (c_signs_at : PySem.W.codeIn K cd_signs_at "signs_at" = true) (k_signs_at : PySem.W.keepIn K (.ref g_signs_at) = true)
    {g_number_by : Addr} {od_number_by an_number_by : Option Addr} {sl_number_by : Array (Option Value)} {oc_number_by kV_number_by dc_number_by pm_number_by cd_number_by ct_number_by : Value} (a_number_by : PySem.W.nsIn K mainGlobals "number_by" = some (some (.ref g_number_by))) (l_number_by : K.lookup g_number_by = some ⟨oc_number_by, od_number_by, .func (PySem.W.fnOf "number_by" "number_by" (defArgs (top 12)) (defBody (top 12)) (defScope (top 12)) .none kV_number_by dc_number_by pm_number_by an_number_by cd_number_by ct_number_by), sl_number_by⟩) (c_number_by : PySem.W.codeIn K cd_number_by "number_by" = true) (k_number_by : PySem.W.keepIn K (.ref g_number_by) = true)
    {g_local_web : Addr} {od_local_web an_local_web : Option Addr} {sl_local_web : Array (Option Value)} {oc_local_web kV_local_web dc_local_web pm_local_web cd_local_web ct_local_web : Value} (a_local_web : PySem.W.nsIn K mainGlobals "local_web" = some (some (.ref g_local_web))) (l_local_web : K.lookup g_local_web = some ⟨oc_local_web, od_local_web, .func (PySem.W.fnOf "local_web" "local_web" (defArgs (top 21)) (defBody (top 21)) (defScope (top 21)) .none kV_local_web dc_local_web pm_local_web an_local_web cd_local_web ct_local_web), sl_local_web⟩) (c_local_web : PySem.W.codeIn K cd_local_web "local_web" = true) (k_local_web : PySem.W.keepIn K (.ref g_local_web) = true)
    {g_web_of : Addr} {od_web_of an_web_of : Option Addr} {sl_web_of : Array (Option Value)} {oc_web_of kV_web_of dc_web_of pm_web_of cd_web_of ct_web_of : Value} (a_web_of : PySem.W.nsIn K mainGlobals "web_of" = some (some (.ref g_web_of))) (l_web_of : K.lookup g_web_of = some ⟨oc_web_of, od_web_of, .func (PySem.W.fnOf "web_of" "web_of" (defArgs (top 19)) (defBody (top 19)) (defScope (top 19)) .none kV_web_of dc_web_of pm_web_of an_web_of cd_web_of ct_web_of), sl_web_of⟩) (c_web_of : PySem.W.codeIn K cd_web_of "web_of" = true) (k_web_of : PySem.W.keepIn K (.ref g_web_of) = true)
    {g_web : Addr} {od_web an_web : Option Addr} {sl_web : Array (Option Value)} {oc_web kV_web dc_web pm_web cd_web ct_web : Value} (a_web : PySem.W.nsIn K mainGlobals "web" = some (some (.ref g_web))) (l_web : K.lookup g_web = some ⟨oc_web, od_web, .func (PySem.W.fnOf "web" "web" (defArgs (top 20)) (defBody (top 20)) (defScope (top 20)) .none kV_web dc_web pm_web an_web cd_web ct_web), sl_web⟩) (c_web : PySem.W.codeIn K cd_web "web" = true) (k_web : PySem.W.keepIn K (.ref g_web) = true)
    {g_is_even_sided : Addr} {od_is_even_sided an_is_even_sided : Option Addr} {sl_is_even_sided : Array (Option Value)} {oc_is_even_sided kV_is_even_sided dc_is_even_sided pm_is_even_sided cd_is_even_sided ct_is_even_sided : Value} (a_is_even_sided : PySem.W.nsIn K mainGlobals "is_even_sided" = some (some (.ref g_is_even_sided))) (l_is_even_sided : K.lookup g_is_even_sided = some ⟨oc_is_even_sided, od_is_even_sided, .func (PySem.W.fnOf "is_even_sided" "is_even_sided" (defArgs (top 22)) (defBody (top 22)) (defScope (top 22)) .none kV_is_even_sided dc_is_even_sided pm_is_even_sided an_is_even_sided cd_is_even_sided ct_is_even_sided), sl_is_even_sided⟩) (c_is_even_sided : PySem.W.codeIn K cd_is_even_sided "is_even_sided" = true) (k_is_even_sided : PySem.W.keepIn K (.ref g_is_even_sided) = true)
    {g_law : Addr} {od_law an_law : Option Addr} {sl_law : Array (Option Value)} {oc_law kV_law dc_law pm_law cd_law ct_law : Value} (a_law : PySem.W.nsIn K mainGlobals "law" = some (some (.ref g_law))) (l_law : K.lookup g_law = some ⟨oc_law, od_law, .func (PySem.W.fnOf "law" "law" (defArgs (top 33)) (defBody (top 33)) (defScope (top 33)) .none kV_law dc_law pm_law an_law cd_law ct_law), sl_law⟩) (c_law : PySem.W.codeIn K cd_law "law" = true) (k_law : PySem.W.keepIn K (.ref g_law) = true)
     (n_abs : PySem.W.nsIn K mainGlobals "abs" = some none)
     (n_all : PySem.W.nsIn K mainGlobals "all" = some none)
     (n_any : PySem.W.nsIn K mainGlobals "any" = some none)
     (n_bool : PySem.W.nsIn K mainGlobals "bool" = some none)
     (n_dict : PySem.W.nsIn K mainGlobals "dict" = some none)
     (n_enumerate : PySem.W.nsIn K mainGlobals "enumerate" = some none)
     (n_int : PySem.W.nsIn K mainGlobals "int" = some none)
     (n_isinstance : PySem.W.nsIn K mainGlobals "isinstance" = some none)
     (n_len : PySem.W.nsIn K mainGlobals "len" = some none)
     (n_range : PySem.W.nsIn K mainGlobals "range" = some none)
     (n_repr : PySem.W.nsIn K mainGlobals "repr" = some none)
     (n_set : PySem.W.nsIn K mainGlobals "set" = some none)
     (n_sorted : PySem.W.nsIn K mainGlobals "sorted" = some none)
     (n_sum : PySem.W.nsIn K mainGlobals "sum" = some none)
     (n_tuple : PySem.W.nsIn K mainGlobals "tuple" = some none)
     (n_zip : PySem.W.nsIn K mainGlobals "zip" = some none)
     (n_Net : PySem.W.nsIn K mainGlobals "Net" = some (some (.ref cNet)))
     (mk_Net : PySem.W.makesIn K cNet = true) (mkk_Net : PySem.W.keepIn K (.ref cNet) = true)
     (clNet_pg : PySem.W.plainGet K cNet Str.empty = true) (clNet_hd : PySem.W.hasDictIn K cNet = true) (clNet_po : PySem.W.plainOver K cNet = true) (clNet_sa : PySem.W.findIn K (.ref cNet) "__setattr__" = some (some (.builtin "object.__setattr__")))
     (clNet_at : PySem.W.findIn K (.ref cNet) "__class__" = some (some (.builtin "object.__class__"))) (clNet_get : PySem.W.specialIn K (.builtin "object.__class__") "__get__" = some (some (.builtin "getset_descriptor.__get__"))) (clNet_take : PySem.W.takesIn K (.builtin "object.__class__") = some true) (clNet_mro : PySem.W.mroIn K cNet (.type "object") = some true)
     (na_many_Net : PySem.W.findIn K (.ref cNet) "many" = some none)
     (na_tables_Net : PySem.W.findIn K (.ref cNet) "tables" = some none)
     (ki_Net_NoneType : PySem.W.kitOne K (.type "NoneType") (.ref cNet) = some false) (ki_Net_bool : PySem.W.kitOne K (.type "bool") (.ref cNet) = some false) (ki_Net_int : PySem.W.kitOne K (.type "int") (.ref cNet) = some false) (ki_Net_str : PySem.W.kitOne K (.type "str") (.ref cNet) = some false) (ki_Net_tuple : PySem.W.kitOne K (.type "tuple") (.ref cNet) = some false) (ki_Net_list : PySem.W.kitOne K (.type "list") (.ref cNet) = some false) (ki_Net_dict : PySem.W.kitOne K (.type "dict") (.ref cNet) = some false) (kc_Net_Net : PySem.W.kitOne K (.ref cNet) (.ref cNet) = some true)
     (ki_bool_NoneType : PySem.W.kitOne K (.type "NoneType") (.type "bool") = some false) (ki_bool_bool : PySem.W.kitOne K (.type "bool") (.type "bool") = some true) (ki_bool_int : PySem.W.kitOne K (.type "int") (.type "bool") = some false) (ki_bool_str : PySem.W.kitOne K (.type "str") (.type "bool") = some false) (ki_bool_tuple : PySem.W.kitOne K (.type "tuple") (.type "bool") = some false) (ki_bool_list : PySem.W.kitOne K (.type "list") (.type "bool") = some false) (ki_bool_dict : PySem.W.kitOne K (.type "dict") (.type "bool") = some false) (kc_bool_Net : PySem.W.kitOne K (.ref cNet) (.type "bool") = some false)
     (ki_int_NoneType : PySem.W.kitOne K (.type "NoneType") (.type "int") = some false) (ki_int_bool : PySem.W.kitOne K (.type "bool") (.type "int") = some true) (ki_int_int : PySem.W.kitOne K (.type "int") (.type "int") = some true) (ki_int_str : PySem.W.kitOne K (.type "str") (.type "int") = some false) (ki_int_tuple : PySem.W.kitOne K (.type "tuple") (.type "int") = some false) (ki_int_list : PySem.W.kitOne K (.type "list") (.type "int") = some false) (ki_int_dict : PySem.W.kitOne K (.type "dict") (.type "int") = some false) (kc_int_Net : PySem.W.kitOne K (.ref cNet) (.type "int") = some false)
     (ki_tuple_NoneType : PySem.W.kitOne K (.type "NoneType") (.type "tuple") = some false) (ki_tuple_bool : PySem.W.kitOne K (.type "bool") (.type "tuple") = some false) (ki_tuple_int : PySem.W.kitOne K (.type "int") (.type "tuple") = some false) (ki_tuple_str : PySem.W.kitOne K (.type "str") (.type "tuple") = some false) (ki_tuple_tuple : PySem.W.kitOne K (.type "tuple") (.type "tuple") = some true) (ki_tuple_list : PySem.W.kitOne K (.type "list") (.type "tuple") = some false) (ki_tuple_dict : PySem.W.kitOne K (.type "dict") (.type "tuple") = some false) (kc_tuple_Net : PySem.W.kitOne K (.ref cNet) (.type "tuple") = some false)
    {t_MOST_LAMPS : Nat} (c_MOST_LAMPS : PySem.W.nsIn K mainGlobals "MOST_LAMPS" = some (some (.int 7 t_MOST_LAMPS)))
    {g_POWERS : Addr} {od_POWERS : Option Addr} {its_POWERS : Array Value} {n_POWERS : Nat} {sl_POWERS : Array (Option Value)} (c_POWERS : PySem.W.nsIn K mainGlobals "POWERS" = some (some (.ref g_POWERS))) (cl_POWERS : K.lookup g_POWERS = some ⟨.type "tuple", od_POWERS, .seq its_POWERS n_POWERS, sl_POWERS⟩) (cv_POWERS : Vals (([1, 2, 4, 8, 16, 32, 64, 128] : List Int).map V.int) its_POWERS.toList)
     (ene_Net : PySem.W.findIn K (.ref cNet) "__ne__" = some (some (.builtin "object.__ne__")))
    (hno : NoList K = true) :
    ∃ fd : FuncData, NoList K = true ∧ (∀ (s : Shared) (u : Value), BindsTo s fd ⟨[u], []⟩ [("script", u)]) ∧ ∀ base : Heap, K.In base → base.Ns mainGlobals mg → FnS l.prog w K mg base idCl 6 fa fd ["script"] F_law := by
  have e := hfa.symm.trans (PySem.W.mg_of X G a_law)
  cases e
  have T : Txt K mg := {
    d__law_hand := ⟨_, PySem.W.mg_of X G a__law_hand, ⟨⟨_, fun_mk (st := (top 24)) l__law_hand c__law_hand k__law_hand, (fun_mk (st := (top 24)) l__law_hand c__law_hand k__law_hand).binds (ps := ["script"]) (fun _ _ _ _ _ _ us hl => match us, hl with | [_], _ => rfl)⟩, k__law_hand⟩⟩,
    d__law_draw := ⟨_, PySem.W.mg_of X G a__law_draw, ⟨⟨_, fun_mk (st := (top 25)) l__law_draw c__law_draw k__law_draw, (fun_mk (st := (top 25)) l__law_draw c__law_draw k__law_draw).binds (ps := ["hand", "many"]) (fun _ _ _ _ _ _ us hl => match us, hl with | [_, _], _ => rfl)⟩, k__law_draw⟩⟩,
    d__law_states := ⟨_, PySem.W.mg_of X G a__law_states, ⟨⟨_, fun_mk (st := (top 27)) l__law_states c__law_states k__law_states, (fun_mk (st := (top 27)) l__law_states c__law_states k__law_states).binds (ps := ["many"]) (fun _ _ _ _ _ _ us hl => match us, hl with | [_], _ => rfl)⟩, k__law_states⟩⟩,
    d__law_any := ⟨_, PySem.W.mg_of X G a__law_any, ⟨⟨_, fun_mk (st := (top 26)) l__law_any c__law_any k__law_any, (fun_mk (st := (top 26)) l__law_any c__law_any k__law_any).binds (ps := ["hand", "some"]) (fun _ _ _ _ _ _ us hl => match us, hl with | [_, _], _ => rfl)⟩, k__law_any⟩⟩,
    d__law_tables := ⟨_, PySem.W.mg_of X G a__law_tables, ⟨⟨_, fun_mk (st := (top 28)) l__law_tables c__law_tables k__law_tables, (fun_mk (st := (top 28)) l__law_tables c__law_tables k__law_tables).binds (ps := ["hand", "most"]) (fun _ _ _ _ _ _ us hl => match us, hl with | [_, _], _ => rfl)⟩, k__law_tables⟩⟩,
    d_Netdd_eqdd := ⟨_, ⟨a_Netdd_eqdd, i_Netdd_eqdd, k_Netdd_eqdd⟩, ⟨⟨_, fun_mk (st := (inClass (top 13) 1)) l_Netdd_eqdd c_Netdd_eqdd k_Netdd_eqdd, (fun_mk (st := (inClass (top 13) 1)) l_Netdd_eqdd c_Netdd_eqdd k_Netdd_eqdd).binds (ps := ["self", "other"]) (fun _ _ _ _ _ _ us hl => match us, hl with | [_, _], _ => rfl)⟩, k_Netdd_eqdd⟩⟩,
    d_is_integer := ⟨_, PySem.W.mg_of X G a_is_integer, ⟨⟨_, fun_mk (st := (top 8)) l_is_integer c_is_integer k_is_integer, (fun_mk (st := (top 8)) l_is_integer c_is_integer k_is_integer).binds (ps := ["thing"]) (fun _ _ _ _ _ _ us hl => match us, hl with | [_], _ => rfl)⟩, k_is_integer⟩⟩,
    d_is_between := ⟨_, PySem.W.mg_of X G a_is_between, ⟨⟨_, fun_mk (st := (top 9)) l_is_between c_is_between k_is_between, (fun_mk (st := (top 9)) l_is_between c_is_between k_is_between).binds (ps := ["thing", "low", "high"]) (fun _ _ _ _ _ _ us hl => match us, hl with | [_, _, _], _ => rfl)⟩, k_is_between⟩⟩,
    d_are_bits := ⟨_, PySem.W.mg_of X G a_are_bits, ⟨⟨_, fun_mk (st := (top 10)) l_are_bits c_are_bits k_are_bits, (fun_mk (st := (top 10)) l_are_bits c_are_bits k_are_bits).binds (ps := ["many", "thing"]) (fun _ _ _ _ _ _ us hl => match us, hl with | [_, _], _ => rfl)⟩, k_are_bits⟩⟩,
    d_Netdd_initdd := ⟨_, ⟨a_Netdd_initdd, i_Netdd_initdd, k_Netdd_initdd⟩, ⟨⟨_, fun_mk (st := (inClass (top 13) 0)) l_Netdd_initdd c_Netdd_initdd k_Netdd_initdd, (fun_mk (st := (inClass (top 13) 0)) l_Netdd_initdd c_Netdd_initdd k_Netdd_initdd).binds (ps := ["self", "tables"]) (fun _ _ _ _ _ _ us hl => match us, hl with | [_, _], _ => rfl)⟩, k_Netdd_initdd⟩⟩,
    d__law_number := ⟨_, PySem.W.mg_of X G a__law_number, ⟨⟨_, fun_mk (st := (top 29)) l__law_number c__law_number k__law_number, (fun_mk (st := (top 29)) l__law_number c__law_number k__law_number).binds (ps := ["state"]) (fun _ _ _ _ _ _ us hl => match us, hl with | [_], _ => rfl)⟩, k__law_number⟩⟩,
    d__law_over := ⟨_, PySem.W.mg_of X G a__law_over, ⟨⟨_, fun_mk (st := (top 30)) l__law_over c__law_over k__law_over, (fun_mk (st := (top 30)) l__law_over c__law_over k__law_over).binds (ps := ["state", "lamp"]) (fun _ _ _ _ _ _ us hl => match us, hl with | [_, _], _ => rfl)⟩, k__law_over⟩⟩,
    d__law_local := ⟨_, PySem.W.mg_of X G a__law_local, ⟨⟨_, fun_mk (st := (top 31)) l__law_local c__law_local k__law_local, (fun_mk (st := (top 31)) l__law_local c__law_local k__law_local).binds (ps := ["tables", "state"]) (fun _ _ _ _ _ _ us hl => match us, hl with | [_, _], _ => rfl)⟩, k__law_local⟩⟩,
    d__law_web := ⟨_, PySem.W.mg_of X G a__law_web, ⟨⟨_, fun_mk (st := (top 32)) l__law_web c__law_web k__law_web, (fun_mk (st := (top 32)) l__law_web c__law_web k__law_web).binds (ps := ["tables"]) (fun _ _ _ _ _ _ us hl => match us, hl with | [_], _ => rfl)⟩, k__law_web⟩⟩,
    d_check_net := ⟨_, PySem.W.mg_of X G a_check_net, ⟨⟨_, fun_mk (st := (top 15)) l_check_net c_check_net k_check_net, (fun_mk (st := (top 15)) l_check_net c_check_net k_check_net).binds (ps := ["thing"]) (fun _ _ _ _ _ _ us hl => match us, hl with | [_], _ => rfl)⟩, k_check_net⟩⟩,
    d_check_state := ⟨_, PySem.W.mg_of X G a_check_state, ⟨⟨_, fun_mk (st := (top 16)) l_check_state c_check_state k_check_state, (fun_mk (st := (top 16)) l_check_state c_check_state k_check_state).binds (ps := ["net", "state"]) (fun _ _ _ _ _ _ us hl => match us, hl with | [_, _], _ => rfl)⟩, k_check_state⟩⟩,
    d_bit_of := ⟨_, PySem.W.mg_of X G a_bit_of, ⟨⟨_, fun_mk (st := (top 11)) l_bit_of c_bit_of k_bit_of, (fun_mk (st := (top 11)) l_bit_of c_bit_of k_bit_of).binds (ps := ["number", "lamp"]) (fun _ _ _ _ _ _ us hl => match us, hl with | [_, _], _ => rfl)⟩, k_bit_of⟩⟩,
    d_signs_at := ⟨_, PySem.W.mg_of X G a_signs_at, ⟨⟨_, fun_mk (st := (top 18)) l_signs_at c_signs_at k_signs_at, (fun_mk (st := (top 18)) l_signs_at c_signs_at k_signs_at).binds (ps := ["net", "number"]) (fun _ _ _ _ _ _ us hl => match us, hl with | [_, _], _ => rfl)⟩, k_signs_at⟩⟩,
    d_number_by := ⟨_, PySem.W.mg_of X G a_number_by, ⟨⟨_, fun_mk (st := (top 12)) l_number_by c_number_by k_number_by, (fun_mk (st := (top 12)) l_number_by c_number_by k_number_by).binds (ps := ["bits"]) (fun _ _ _ _ _ _ us hl => match us, hl with | [_], _ => rfl)⟩, k_number_by⟩⟩,
    d_local_web := ⟨_, PySem.W.mg_of X G a_local_web, ⟨⟨_, fun_mk (st := (top 21)) l_local_web c_local_web k_local_web, (fun_mk (st := (top 21)) l_local_web c_local_web k_local_web).binds (ps := ["net", "state"]) (fun _ _ _ _ _ _ us hl => match us, hl with | [_, _], _ => rfl)⟩, k_local_web⟩⟩,
    d_web_of := ⟨_, PySem.W.mg_of X G a_web_of, ⟨⟨_, fun_mk (st := (top 19)) l_web_of c_web_of k_web_of, (fun_mk (st := (top 19)) l_web_of c_web_of k_web_of).binds (ps := ["net"]) (fun _ _ _ _ _ _ us hl => match us, hl with | [_], _ => rfl)⟩, k_web_of⟩⟩,
    d_web := ⟨_, PySem.W.mg_of X G a_web, ⟨⟨_, fun_mk (st := (top 20)) l_web c_web k_web, (fun_mk (st := (top 20)) l_web c_web k_web).binds (ps := ["net"]) (fun _ _ _ _ _ _ us hl => match us, hl with | [_], _ => rfl)⟩, k_web⟩⟩,
    d_is_even_sided := ⟨_, PySem.W.mg_of X G a_is_even_sided, ⟨⟨_, fun_mk (st := (top 22)) l_is_even_sided c_is_even_sided k_is_even_sided, (fun_mk (st := (top 22)) l_is_even_sided c_is_even_sided k_is_even_sided).binds (ps := ["net"]) (fun _ _ _ _ _ _ us hl => match us, hl with | [_], _ => rfl)⟩, k_is_even_sided⟩⟩,
    d_law := ⟨_, PySem.W.mg_of X G a_law, ⟨⟨_, fun_mk (st := (top 33)) l_law c_law k_law, (fun_mk (st := (top 33)) l_law c_law k_law).binds (ps := ["script"]) (fun _ _ _ _ _ _ us hl => match us, hl with | [_], _ => rfl)⟩, k_law⟩⟩,
    n_abs := PySem.W.mg_none_of X G n_abs,
    n_all := PySem.W.mg_none_of X G n_all,
    n_any := PySem.W.mg_none_of X G n_any,
    n_bool := PySem.W.mg_none_of X G n_bool,
    n_dict := PySem.W.mg_none_of X G n_dict,
    n_enumerate := PySem.W.mg_none_of X G n_enumerate,
    n_int := PySem.W.mg_none_of X G n_int,
    n_isinstance := PySem.W.mg_none_of X G n_isinstance,
    n_len := PySem.W.mg_none_of X G n_len,
    n_range := PySem.W.mg_none_of X G n_range,
    n_repr := PySem.W.mg_none_of X G n_repr,
    n_set := PySem.W.mg_none_of X G n_set,
    n_sorted := PySem.W.mg_none_of X G n_sorted,
    n_sum := PySem.W.mg_none_of X G n_sum,
    n_tuple := PySem.W.mg_none_of X G n_tuple,
    n_zip := PySem.W.mg_none_of X G n_zip,
    n_Net := PySem.W.mg_of X G n_Net,
    m_Net := ⟨mk_Net, mkk_Net⟩,
    cl_Net := ⟨clNet_pg, clNet_hd, clNet_po, clNet_sa⟩,
    ci_Net := ⟨⟨clNet_pg, clNet_hd, clNet_po, clNet_sa⟩, clNet_at, clNet_get, clNet_take, clNet_mro⟩,
    f_many := (cs_cons ⟨⟨clNet_pg, clNet_hd, clNet_po, clNet_sa⟩, na_many_Net⟩ cs_nil),
    f_tables := (cs_cons ⟨⟨clNet_pg, clNet_hd, clNet_po, clNet_sa⟩, na_tables_Net⟩ cs_nil),
    i_Net := isi_mk ki_Net_NoneType ki_Net_bool ki_Net_int ki_Net_str ki_Net_tuple ki_Net_list ki_Net_dict (by decide +kernel) (cs_cons ⟨⟨⟨clNet_pg, clNet_hd, clNet_po, clNet_sa⟩, clNet_at, clNet_get, clNet_take, clNet_mro⟩, kc_Net_Net⟩ cs_nil),
    i_bool := isi_mk ki_bool_NoneType ki_bool_bool ki_bool_int ki_bool_str ki_bool_tuple ki_bool_list ki_bool_dict (by decide +kernel) (cs_cons ⟨⟨⟨clNet_pg, clNet_hd, clNet_po, clNet_sa⟩, clNet_at, clNet_get, clNet_take, clNet_mro⟩, kc_bool_Net⟩ cs_nil),
    i_int := isi_mk ki_int_NoneType ki_int_bool ki_int_int ki_int_str ki_int_tuple ki_int_list ki_int_dict (by decide +kernel) (cs_cons ⟨⟨⟨clNet_pg, clNet_hd, clNet_po, clNet_sa⟩, clNet_at, clNet_get, clNet_take, clNet_mro⟩, kc_int_Net⟩ cs_nil),
    i_tuple := isi_mk ki_tuple_NoneType ki_tuple_bool ki_tuple_int ki_tuple_str ki_tuple_tuple ki_tuple_list ki_tuple_dict (by decide +kernel) (cs_cons ⟨⟨⟨clNet_pg, clNet_hd, clNet_po, clNet_sa⟩, clNet_at, clNet_get, clNet_take, clNet_mro⟩, kc_tuple_Net⟩ cs_nil),
    c_MOST_LAMPS := ⟨_, PySem.W.mg_of X G c_MOST_LAMPS⟩,
    c_POWERS := glT_of (PySem.W.mg_of X G c_POWERS) cl_POWERS cv_POWERS (by decide),
    e_Net := ⟨⟨clNet_pg, clNet_hd, clNet_po, clNet_sa⟩, ene_Net, clNet_mro⟩ }
  exact ⟨_, hno, fun s v => .of_eq rfl, fun base _ _ => fnS_ofZ hat (fun_mk (st := (top 33)) l_law c_law k_law) sc_law (bd_law T _)⟩
end K06
end PV
open PySem PySem.W PyProof.Rows in
set_option maxRecDepth 100000 in
set_option maxHeartbeats 0 in
theorem PySem.Challenge.cw_lampnets_k06_whole_webs_of_signs_holds : PySem.Challenge.rw_lampnets_k06_whole_webs_of_signs.Holds := by
  w_on; o_law; k_head; (case hw => w_witness2)
  k_fill
  refine PV.walkS (l := PySem.Challenge.rw_lampnets_k06_whole_webs_of_signs) (k := 6) (F := PV.K06.F_law) (x := "script") rfl (by decide) rfl ⟨rfl, by decide, by decide⟩ rfl (fun w h Y => PySem.W.kIn_of Y) ?F ?law
  case law => exact PV.K06.law_true
  case F =>
    intro w mg fa h KX G hmg
    refine' PV.K06.all_mk KX G hmg ?a__law_hand ?l__law_hand ?c__law_hand ?k__law_hand ?a__law_draw ?l__law_draw ?c__law_draw ?k__law_draw ?a__law_states ?l__law_states ?c__law_states ?k__law_states ?a__law_any ?l__law_any ?c__law_any ?k__law_any ?a__law_tables ?l__law_tables ?c__law_tables ?k__law_tables ?a_Netdd_eqdd ?i_Netdd_eqdd ?l_Netdd_eqdd ?c_Netdd_eqdd ?k_Netdd_eqdd ?a_is_integer ?l_is_integer ?c_is_integer ?k_is_integer ?a_is_between ?l_is_between ?c_is_between ?k_is_between ?a_are_bits ?l_are_bits ?c_are_bits ?k_are_bits ?a_Netdd_initdd ?i_Netdd_initdd ?l_Netdd_initdd ?c_Netdd_initdd ?k_Netdd_initdd ?a__law_number ?l__law_number ?c__law_number ?k__law_number ?a__law_over ?l__law_over ?c__law_over ?k__law_over ?a__law_local ?l__law_local ?c__law_local ?k__law_local ?a__law_web ?l__law_web ?c__law_web ?k__law_web ?a_check_net ?l_check_net ?c_check_net ?k_check_net ?a_check_state ?l_check_state ?c_check_state ?k_check_state ?a_bit_of ?l_bit_of ?c_bit_of ?k_bit_of ?a_signs_at ?l_signs_at ?c_signs_at ?k_signs_at ?a_number_by ?l_number_by ?c_number_by ?k_number_by ?a_local_web ?l_local_web ?c_local_web ?k_local_web ?a_web_of ?l_web_of ?c_web_of ?k_web_of ?a_web ?l_web ?c_web ?k_web ?a_is_even_sided ?l_is_even_sided ?c_is_even_sided ?k_is_even_sided ?a_law ?l_law ?c_law ?k_law ?n_abs ?n_all ?n_any ?n_bool ?n_dict ?n_enumerate ?n_int ?n_isinstance ?n_len ?n_range ?n_repr ?n_set ?n_sorted ?n_sum ?n_tuple ?n_zip ?n_Net ?mk_Net ?mkk_Net ?clNet_pg ?clNet_hd ?clNet_po ?clNet_sa ?clNet_at ?clNet_get ?clNet_take ?clNet_mro ?na_many_Net ?na_tables_Net ?ki_Net_NoneType ?ki_Net_bool ?ki_Net_int ?ki_Net_str ?ki_Net_tuple ?ki_Net_list ?ki_Net_dict ?kc_Net_Net ?ki_bool_NoneType ?ki_bool_bool ?ki_bool_int ?ki_bool_str ?ki_bool_tuple ?ki_bool_list ?ki_bool_dict ?kc_bool_Net ?ki_int_NoneType ?ki_int_bool ?ki_int_int ?ki_int_str ?ki_int_tuple ?ki_int_list ?ki_int_dict ?kc_int_Net ?ki_tuple_NoneType ?ki_tuple_bool ?ki_tuple_int ?ki_tuple_str ?ki_tuple_tuple ?ki_tuple_list ?ki_tuple_dict ?kc_tuple_Net ?c_MOST_LAMPS ?c_POWERS ?cl_POWERS ?cv_POWERS ?ene_Net ?hno
    (case a__law_hand => k_is)
    (case l__law_hand => k_is)
    (case c__law_hand => k_is)
    (case k__law_hand => k_is)
    (case a__law_draw => k_is)
    (case l__law_draw => k_is)
    (case c__law_draw => k_is)
    (case k__law_draw => k_is)
    (case a__law_states => k_is)
    (case l__law_states => k_is)
    (case c__law_states => k_is)
    (case k__law_states => k_is)
    (case a__law_any => k_is)
    (case l__law_any => k_is)
    (case c__law_any => k_is)
    (case k__law_any => k_is)
    (case a__law_tables => k_is)
    (case l__law_tables => k_is)
    (case c__law_tables => k_is)
    (case k__law_tables => k_is)
    (case a_Netdd_eqdd => k_is)
    (case i_Netdd_eqdd => k_is)
    (case l_Netdd_eqdd => k_is)
    (case c_Netdd_eqdd => k_is)
    (case k_Netdd_eqdd => k_is)
    (case a_is_integer => k_is)
    (case l_is_integer => k_is)
    (case c_is_integer => k_is)
    (case k_is_integer => k_is)
    (case a_is_between => k_is)
    (case l_is_between => k_is)
    (case c_is_between => k_is)
    (case k_is_between => k_is)
    (case a_are_bits => k_is)
    (case l_are_bits => k_is)
    (case c_are_bits => k_is)
    (case k_are_bits => k_is)
    (case a_Netdd_initdd => k_is)
    (case i_Netdd_initdd => k_is)
    (case l_Netdd_initdd => k_is)
    (case c_Netdd_initdd => k_is)
    (case k_Netdd_initdd => k_is)
    (case a__law_number => k_is)
    (case l__law_number => k_is)
    (case c__law_number => k_is)
    (case k__law_number => k_is)
    (case a__law_over => k_is)
    (case l__law_over => k_is)
    (case c__law_over => k_is)
    (case k__law_over => k_is)
    (case a__law_local => k_is)
    (case l__law_local => k_is)
    (case c__law_local => k_is)
    (case k__law_local => k_is)
    (case a__law_web => k_is)
    (case l__law_web => k_is)
    (case c__law_web => k_is)
    (case k__law_web => k_is)
    (case a_check_net => k_is)
    (case l_check_net => k_is)
    (case c_check_net => k_is)
    (case k_check_net => k_is)
    (case a_check_state => k_is)
    (case l_check_state => k_is)
    (case c_check_state => k_is)
    (case k_check_state => k_is)
    (case a_bit_of => k_is)
    (case l_bit_of => k_is)
    (case c_bit_of => k_is)
    (case k_bit_of => k_is)
    (case a_signs_at => k_is)
    (case l_signs_at => k_is)
    (case c_signs_at => k_is)
    (case k_signs_at => k_is)
    (case a_number_by => k_is)
    (case l_number_by => k_is)
    (case c_number_by => k_is)
    (case k_number_by => k_is)
    (case a_local_web => k_is)
    (case l_local_web => k_is)
    (case c_local_web => k_is)
    (case k_local_web => k_is)
    (case a_web_of => k_is)
    (case l_web_of => k_is)
    (case c_web_of => k_is)
    (case k_web_of => k_is)
    (case a_web => k_is)
    (case l_web => k_is)
    (case c_web => k_is)
    (case k_web => k_is)
    (case a_is_even_sided => k_is)
    (case l_is_even_sided => k_is)
    (case c_is_even_sided => k_is)
    (case k_is_even_sided => k_is)
    (case a_law => k_is)
    (case l_law => k_is)
    (case c_law => k_is)
    (case k_law => k_is)
    (case n_abs => k_is)
    (case n_all => k_is)
    (case n_any => k_is)
    (case n_bool => k_is)
    (case n_dict => k_is)
    (case n_enumerate => k_is)
    (case n_int => k_is)
    (case n_isinstance => k_is)
    (case n_len => k_is)
    (case n_range => k_is)
    (case n_repr => k_is)
    (case n_set => k_is)
    (case n_sorted => k_is)
    (case n_sum => k_is)
    (case n_tuple => k_is)
    (case n_zip => k_is)
    (case n_Net => k_is)
    (case mk_Net => k_is)
    (case mkk_Net => k_is)
    (case clNet_pg => k_is)
    (case clNet_hd => k_is)
    (case clNet_po => k_is)
    (case clNet_sa => k_is)
    (case clNet_at => k_is)
    (case clNet_get => k_is)
    (case clNet_take => k_is)
    (case clNet_mro => k_is)
    (case na_many_Net => k_is)
    (case na_tables_Net => k_is)
    (case ki_Net_NoneType => kit_is)
    (case ki_Net_bool => kit_is)
    (case ki_Net_int => kit_is)
    (case ki_Net_str => kit_is)
    (case ki_Net_tuple => kit_is)
    (case ki_Net_list => kit_is)
    (case ki_Net_dict => kit_is)
    (case kc_Net_Net => kit_is)
    (case ki_bool_NoneType => kit_is)
    (case ki_bool_bool => kit_is)
    (case ki_bool_int => kit_is)
    (case ki_bool_str => kit_is)
    (case ki_bool_tuple => kit_is)
    (case ki_bool_list => kit_is)
    (case ki_bool_dict => kit_is)
    (case kc_bool_Net => kit_is)
    (case ki_int_NoneType => kit_is)
    (case ki_int_bool => kit_is)
    (case ki_int_int => kit_is)
    (case ki_int_str => kit_is)
    (case ki_int_tuple => kit_is)
    (case ki_int_list => kit_is)
    (case ki_int_dict => kit_is)
    (case kc_int_Net => kit_is)
    (case ki_tuple_NoneType => kit_is)
    (case ki_tuple_bool => kit_is)
    (case ki_tuple_int => kit_is)
    (case ki_tuple_str => kit_is)
    (case ki_tuple_tuple => kit_is)
    (case ki_tuple_list => kit_is)
    (case ki_tuple_dict => kit_is)
    (case kc_tuple_Net => kit_is)
    (case c_MOST_LAMPS => k_is)
    (case c_POWERS => k_is)
    (case cl_POWERS => k_is)
    (case ene_Net => k_is)
    (case cv_POWERS => exact .cons ⟨_, rfl⟩ (.cons ⟨_, rfl⟩ (.cons ⟨_, rfl⟩ (.cons ⟨_, rfl⟩ (.cons ⟨_, rfl⟩ (.cons ⟨_, rfl⟩ (.cons ⟨_, rfl⟩ (.cons ⟨_, rfl⟩ (.nil)))))))))
    (case hno => rfl)
