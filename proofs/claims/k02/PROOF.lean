import PyProof.Rows.All
import HandS.List
import HandS.ForSpec
import HandS.Comp
import HandS.Star
import HandS.IsInst
import HandS.RaiseMore
import HandS.Text
import HandS.SlotsOwn
import HandS.Defaults
import HandS.OwnIter
import HandS.IterVal
import HandS.Keys
import HandS.Iter
import PyProof.Walks
import PyProof.CollectWalk
import HandS.HeadHook2
import HandS.HeadHook3
import HandS.HeadHook4
import HandS.HeadEnd
import PySem.Challenge.RW_redomarks_k02_marks_compare
import Wide.All
import OpenK.AllK
import Wide.FinOn
import KE.KStateDown
import Lean
import HandS.Words
import HandS.WordsExc
import HandS.Head0
import HandS.Head1
import HandS.Head2
set_option Elab.async false
set_option linter.all false
set_option maxRecDepth 100000
set_option maxHeartbeats 0
namespace Mi
open PySem

/-- abstract values: tuples are values, scr is the law's own script (read only) -/
inductive AV where
  | non | bl (b : Bool) | int (i : Int) | str (x : Str) | tup (xs : List AV) | ref (i : Nat) | scr (ns : List Int)
abbrev Ky := Sum Int Str
/-- abstract objects: a list, a dict with flat keys, a dict with tuple keys, an instance of the class c -/
inductive AO where
  | lst (xs : List AV) | dk (kvs : List (Ky × AV)) | dt (kvs : List (List Ky × AV)) | ins (c : Nat) (fs : List (Str × AV))
abbrev AH := List AO
abbrev Fs := List (Str × AV)
inductive R (α : Type) where
  | ok (a : α) (h : AH) | ex (c : Nat) (fs : Fs) (h : AH) | bad
def R.bind {α β : Type} (r : R α) (f : α → AH → R β) : R β := match r with
  | .ok a h => f a h
  | .ex c fs h => .ex c fs h
  | .bad => .bad
@[simp] theorem bind_ok {α β : Type} (a : α) (h : AH) (f : α → AH → R β) : (R.ok a h).bind f = f a h := rfl
@[simp] theorem bind_ex {α β : Type} (c : Nat) (fs : Fs) (h : AH) (f : α → AH → R β) : (R.ex c fs h : R α).bind f = .ex c fs h := rfl
@[simp] theorem bind_bad {α β : Type} (f : α → AH → R β) : (R.bad : R α).bind f = .bad := rfl

abbrev Sl := List (Option AV)
abbrev SE := Sl → AH → R AV
abbrev SA := Sl → AH → R (List AV)
abbrev SB := Sl → AH → R Bool
inductive Fl where
  | nx (σ : Sl) | rt (v : AV) | bk (σ : Sl) | ct (σ : Sl)
/-- a statement's result; at a raise the slots as they are then -/
inductive RS where
  | ok (f : Fl) (h : AH) | ex (c : Nat) (fs : Fs) (σ : Sl) (h : AH) | bad
abbrev SS := Sl → AH → RS
/-- an expression's result within a statement -/
def R.to {α : Type} (r : R α) (σ : Sl) (f : α → AH → RS) : RS := match r with
  | .ok a h => f a h
  | .ex c fs h => .ex c fs σ h
  | .bad => .bad
@[simp] theorem to_ok {α : Type} (a : α) (h : AH) (σ : Sl) (f : α → AH → RS) : (R.ok a h).to σ f = f a h := rfl
@[simp] theorem to_ex {α : Type} (c : Nat) (fs : Fs) (h : AH) (σ : Sl) (f : α → AH → RS) : (R.ex c fs h : R α).to σ f = .ex c fs σ h := rfl
@[simp] theorem to_bad {α : Type} (σ : Sl) (f : α → AH → RS) : (R.bad : R α).to σ f = .bad := rfl
def RS.bind (r : RS) (f : Fl → AH → RS) : RS := match r with
  | .ok a h => f a h
  | .ex c fs σ h => .ex c fs σ h
  | .bad => .bad
@[simp] theorem sbind_ok (a : Fl) (h : AH) (f : Fl → AH → RS) : (RS.ok a h).bind f = f a h := rfl
@[simp] theorem sbind_ex (c : Nat) (fs : Fs) (σ : Sl) (h : AH) (f : Fl → AH → RS) : (RS.ex c fs σ h).bind f = .ex c fs σ h := rfl
@[simp] theorem sbind_bad (f : Fl → AH → RS) : RS.bad.bind f = .bad := rfl
/-- operators of own classes -/
inductive Dn where
  | or | and | sub | ior | eq | ne | le | len | has | get | set | call
  deriving DecidableEq
/-- the calls' environment: a def by its number, one level lower for makings; a class's operators; a class's field that iterates -/
structure CE where
  call : Nat → List AV → AH → R AV
  mak : Nat → List AV → AH → R AV
  dn : Nat → Dn → Option Nat
  it : Nat → Option Str

def sBad : SE := fun _ _ => .bad
def sVar (i : Nat) : SE := fun σ h => match σ[i]? with
  | some (some v) => .ok v h
  | _ => .bad
def sK (v : AV) : SE := fun _ h => .ok v h
def aNil : SA := fun _ h => .ok [] h
def aCons (e : SE) (r : SA) : SA := fun σ h => (e σ h).bind fun v h1 => (r σ h1).bind fun vs h2 => .ok (v :: vs) h2
/-- the items of a value that is a list or a tuple -/
def seqOf (v : AV) (h : AH) : Option (List AV) := match v with
  | .tup xs => some xs
  | .scr ns => some (ns.map .int)
  | .ref a => match h[a]? with
    | some (.lst xs) => some xs
    | _ => none
  | _ => none
def aStar (e : SE) (r : SA) : SA := fun σ h => (e σ h).bind fun v h1 => match seqOf v h1 with
  | some xs => (r σ h1).bind fun vs h2 => .ok (xs ++ vs) h2
  | none => .bad
def op1 (f : AV → AH → R AV) (e : SE) : SE := fun σ h => (e σ h).bind f
def op2 (f : AV → AV → AH → R AV) (a b : SE) : SE := fun σ h => (a σ h).bind fun x h1 => (b σ h1).bind fun y h2 => f x y h2
def opN (f : List AV → AH → R AV) (a : SA) : SE := fun σ h => (a σ h).bind f
/-- a new object -/
def new (o : AO) (h : AH) : R AV := .ok (.ref h.length) (h ++ [o])
def sLst (a : SA) : SE := opN (fun xs h => if xs.length ≤ sizeLine then new (.lst xs) h else .bad) a
def sTup (a : SA) : SE := opN (fun xs h => if xs.length ≤ sizeLine then .ok (.tup xs) h else .bad) a

def omap {α β : Type} (f : α → Option β) : List α → Option (List β)
  | [] => some []
  | x :: xs => match f x with
    | none => none
    | some y => match omap f xs with
      | none => none
      | some ys => some (y :: ys)
def dat : Nat → AH → AV → Option PyData
  | 0, _, _ => none
  | n + 1, h, v => match v with
    | .non => some .none
    | .bl b => some (.bool b)
    | .int i => some (.int i)
    | .str x => some (.str x)
    | .tup xs => (omap (dat n h) xs).map .tuple
    | .scr ns => some (.list (ns.map .int))
    | .ref a => match h[a]? with
      | some (.lst xs) => (omap (dat n h) xs).map .list
      | _ => none
/-- == of data; of instances by their class's operator -/
def eqD (x y : AV) (h : AH) : Option Bool := match dat 9 h x, dat 9 h y with
  | some d, some e => if SeqAt.shaped d = true ∧ SeqAt.shaped e = true then some (PyData.eqv d e) else none
  | _, _ => none
def cls? (v : AV) (h : AH) : Option (Nat × Fs) := match v with
  | .ref a => match h[a]? with
    | some (.ins c fs) => some (c, fs)
    | _ => none
  | _ => none
/-- x op y of two instances of one class -/
def dun (C : CE) (d : Dn) (x y : AV) (h : AH) : R AV := match cls? x h, cls? y h with
  | some (c, _), some (c', _) => if c = c' then match C.dn c d with
      | some f => C.call f [x, y] h
      | none => .bad
    else .bad
  | _, _ => .bad
def oEq (C : CE) (x y : AV) (h : AH) : R AV := match eqD x y h with
  | some b => .ok (.bl b) h
  | none => match dun C .eq x y h with
    | .ok (.bl b) h1 => .ok (.bl b) h1
    | _ => .bad
def oNe (C : CE) (x y : AV) (h : AH) : R AV := match eqD x y h with
  | some b => .ok (.bl (!b)) h
  | none => .bad
/-- flat values -/
def toV : AV → Option L2.V
  | .non => some .non
  | .bl b => some (.bl b)
  | .int i => some (.int i)
  | .str x => some (.str x)
  | _ => none
def inS (x : AV) (xs : List AV) : Option Bool := match toV x, omap toV xs with
  | some u, some us => some (L2.inV u us)
  | _, _ => none

def oAdd (x y : AV) (h : AH) : R AV := match x, y with
  | .int i, .int j => .ok (.int (i + j)) h
  | .str a, .str b => if a.length + b.length ≤ sizeLine then .ok (.str (a ++ b)) h else .bad
  | .ref a, .ref b => match h[a]?, h[b]? with
    | some (.lst xs), some (.lst ys) => if xs.length + ys.length ≤ sizeLine then new (.lst (xs ++ ys)) h else .bad
    | _, _ => .bad
  | _, _ => .bad
def oSub (C : CE) (x y : AV) (h : AH) : R AV := match x, y with
  | .int i, .int j => .ok (.int (i - j)) h
  | _, _ => dun C .sub x y h
/-- the right factor, or the left, below 2^64 -/
def oMul (x y : AV) (h : AH) : R AV := match x, y with
  | .int i, .int j => if (-(2 ^ 64) < i ∧ i < 2 ^ 64) ∨ (-(2 ^ 64) < j ∧ j < 2 ^ 64) then .ok (.int (i * j)) h else .bad
  | _, _ => .bad
def oDiv (x y : AV) (h : AH) : R AV := match x, y with
  | .int i, .int j => if 0 < j ∧ j < 1073741824 then .ok (.int (i / j)) h else .bad
  | _, _ => .bad
def oMod (x y : AV) (h : AH) : R AV := match x, y with
  | .int i, .int j => if 0 < j then .ok (.int (i % j)) h else .bad
  | _, _ => .bad
def oPow (x y : AV) (h : AH) : R AV := match x, y with
  | .int i, .int j => if 0 ≤ j ∧ j ≤ 1000000 ∧ i.natAbs < 2 ^ 64 then .ok (.int (i ^ j.toNat)) h else .bad
  | _, _ => .bad
def oOr (C : CE) (x y : AV) (h : AH) : R AV := dun C .or x y h
def oAnd (C : CE) (x y : AV) (h : AH) : R AV := dun C .and x y h
def oNeg (x : AV) (h : AH) : R AV := match x with
  | .int i => .ok (.int (-i)) h
  | _ => .bad
def oLt (x y : AV) (h : AH) : R AV := match x, y with
  | .int i, .int j => .ok (.bl (decide (i < j))) h
  | _, _ => .bad
def oLe (C : CE) (x y : AV) (h : AH) : R AV := match x, y with
  | .int i, .int j => .ok (.bl (decide (i ≤ j))) h
  | _, _ => dun C .le x y h
def oGt (x y : AV) (h : AH) : R AV := match x, y with
  | .int i, .int j => .ok (.bl (decide (j < i))) h
  | _, _ => .bad
def oGe (x y : AV) (h : AH) : R AV := match x, y with
  | .int i, .int j => .ok (.bl (decide (j ≤ i))) h
  | _, _ => .bad
/-- x in y, y a list, a tuple, an instance with __contains__ -/
def oIn (C : CE) (x y : AV) (h : AH) : R AV := match seqOf y h with
  | some ys => match inS x ys with
    | some b => .ok (.bl b) h
    | none => .bad
  | none => match cls? y h with
    | some (c, _) => match C.dn c .has with
      | some f => match C.call f [y, x] h with
        | .ok (.bl b) h1 => .ok (.bl b) h1
        | _ => .bad
      | none => .bad
    | none => .bad
def oNotIn (C : CE) (x y : AV) (h : AH) : R AV := match seqOf y h with
  | some ys => match inS x ys with
    | some b => .ok (.bl (!b)) h
    | none => .bad
  | none => match cls? y h with
    | some (c, _) => match C.dn c .has with
      | some f => match C.call f [y, x] h with
        | .ok (.bl b) h1 => .ok (.bl (!b)) h1
        | _ => .bad
      | none => .bad
    | none => .bad
def oIsN (x : AV) (h : AH) : R AV := match x with
  | .non => .ok (.bl true) h
  | _ => .ok (.bl false) h
def oNotN (x : AV) (h : AH) : R AV := match x with
  | .non => .ok (.bl false) h
  | _ => .ok (.bl true) h
/-- x[i] of a text's sign, a list, a tuple -/
def oIx (C : CE) (x y : AV) (h : AH) : R AV := match y with
  | .int i => match x with
    | .str z => if z.length ≤ sizeLine then match L2.atI z.cps.toList i with
        | some c => .ok (.str ⟨#[c]⟩) h
        | none => .bad
      else .bad
    | v => match seqOf v h with
      | some xs => match L2.atI xs i with
        | some w => .ok w h
        | none => .bad
      | none => .bad
  | _ => .bad

def tru (v : AV) (h : AH) : Option Bool := match v with
  | .non => some false
  | .bl b => some b
  | .int i => some (i != 0)
  | .str y => if y.length ≤ sizeLine then some ((y.length : Int) != 0) else none
  | .tup xs => some (!xs.isEmpty)
  | .scr ns => some (!ns.isEmpty)
  | .ref a => match h[a]? with
    | some (.lst xs) => some (!xs.isEmpty)
    | some (.dk kvs) => some (!kvs.isEmpty)
    | _ => none
def tTru (e : SE) : SB := fun σ h => (e σ h).bind fun v h1 => match tru v h1 with
  | some b => .ok b h1
  | none => .bad
/-- a comparison's value as a test -/
def tBl (e : SE) : SB := fun σ h => (e σ h).bind fun v h1 => match v with
  | .bl b => .ok b h1
  | _ => .bad
def tAnd (a b : SB) : SB := fun σ h => (a σ h).bind fun x h1 => if x then b σ h1 else .ok false h1
def tOr (a b : SB) : SB := fun σ h => (a σ h).bind fun x h1 => if x then .ok true h1 else b σ h1
def tNot (a : SB) : SB := fun σ h => (a σ h).bind fun x h1 => .ok (!x) h1
def tYes : SB := fun _ h => .ok true h
/-- and, or, not of truth values, as values -/
def sAnd (a b : SE) : SE := fun σ h => (a σ h).bind fun x h1 => match x with
  | .bl true => b σ h1
  | .bl false => .ok (.bl false) h1
  | _ => .bad
def sOr (a b : SE) : SE := fun σ h => (a σ h).bind fun x h1 => match x with
  | .bl true => .ok (.bl true) h1
  | .bl false => b σ h1
  | _ => .bad
def sNot (a : SE) : SE := fun σ h => (a σ h).bind fun x h1 => match x with
  | .bl b => .ok (.bl (!b)) h1
  | _ => .bad
def sIfE (t : SB) (a b : SE) : SE := fun σ h => (t σ h).bind fun x h1 => if x then a σ h1 else b σ h1
/-- a op b op' c -/
def sChain (f g : AV → AV → AH → R AV) (a b c : SE) : SE := fun σ h => (a σ h).bind fun x h1 => (b σ h1).bind fun y h2 => (f x y h2).bind fun z h3 => match z with
  | .bl true => (c σ h3).bind fun u h4 => g y u h4
  | .bl false => .ok (.bl false) h3
  | _ => .bad

def look (f : Str) (fs : Fs) : Option AV := fs.lookup f
def putA (f : Str) (v : AV) : Fs → Fs
  | [] => [(f, v)]
  | (g, x) :: r => if g = f then (g, v) :: r else (g, x) :: putA f v r
def sFld (c : Nat) (f : Str) (e : SE) : SE := op1 (fun v h => match cls? v h with
  | some (c', fs) => if c' = c then match fs.lookup f with
      | some w => .ok w h
      | none => .bad
    else .bad
  | none => .bad) e
def ssFld (c : Nat) (f : Str) (o e : SE) : SS := fun σ h => (e σ h).to σ fun w h1 => (o σ h1).to σ fun v h2 => match v with
  | .ref a => match h2[a]? with
    | some (.ins c' fs) => if c' = c ∧ fs.length < 1000 then .ok (.nx σ) (h2.set a (.ins c (putA f w fs))) else .bad
    | _ => .bad
  | _ => .bad

def sCall (C : CE) (f : Nat) (a : SA) : SE := opN (C.call f) a
def sMk (C : CE) (c f : Nat) (a : SA) : SE := opN (fun vs h => match C.mak f (.ref h.length :: vs) (h ++ [.ins c []]) with
  | .ok .non h1 => .ok (.ref h.length) h1
  | .ex c fs h1 => .ex c fs h1
  | _ => .bad) a
/-- o.m(..), o of the class c, the method's name nm, its def f -/
def sMeth (C : CE) (c : Nat) (nm : Str) (f : Nat) (o : SE) (a : SA) : SE := fun σ h => (o σ h).bind fun v h1 => match cls? v h1 with
  | some (c', fs) => if c' = c ∧ (fs.lookup nm).isNone = true then (a σ h1).bind fun vs h2 => C.call f (v :: vs) h2 else .bad
  | none => .bad

def bLen (C : CE) (v : AV) (h : AH) : R AV := match v with
  | .str y => if y.length ≤ sizeLine then .ok (.int y.length) h else .bad
  | v => match seqOf v h with
    | some xs => .ok (.int xs.length) h
    | none => match cls? v h with
      | some (c, _) => match C.dn c .len with
        | some f => match C.call f [v] h with
          | .ok (.int i) h1 => if 0 ≤ i ∧ i ≤ 1000000 then .ok (.int i) h1 else .bad
          | _ => .bad
        | none => .bad
      | none => .bad
/-- the list that stands for an instance whose class iterates by a field -/
def itRef (C : CE) (v : AV) (h : AH) : Option Nat := match cls? v h with
  | some (c, fs) => match C.it c with
    | some f => match fs.lookup f with
      | some w => match w with
        | .ref a => match h[a]? with
          | some (.lst _) => some a
          | _ => none
        | _ => none
      | none => none
    | none => none
  | none => none
/-- list(v): of an instance its class may have a __len__, which is asked -/
def bList (C : CE) (v : AV) (h : AH) : R AV := match seqOf v h with
  | some xs => new (.lst xs) h
  | none => match cls? v h, itRef C v h with
    | some (c, _), some a => match C.dn c .len with
      | none => match h[a]? with
        | some (.lst xs) => if xs.length < sizeLine then new (.lst xs) h else .bad
        | _ => .bad
      | some f => match C.call f [v] h with
        | .ok (.int k) h1 => match h1[a]? with
          | some (.lst ys) => if 0 ≤ k ∧ k ≤ 1000000 ∧ ys.length < sizeLine then new (.lst ys) h1 else .bad
          | _ => .bad
        | _ => .bad
    | _, _ => .bad
def bInt (v : AV) (h : AH) : R AV := match v with
  | .int i => .ok (.int i) h
  | _ => .bad
def bStr (v : AV) (h : AH) : R AV := match v with
  | .str x => .ok (.str x) h
  | _ => .bad
def strL (vs : List AV) : Option (List Str) := omap (fun v => match v with | .str x => some x | _ => none) vs
def blsL (vs : List AV) : Option (List Bool) := omap (fun v => match v with | .bl x => some x | _ => none) vs
/-- the order of texts, by code points -/
def leS (a b : Str) : Bool := !PySem.Spec.ltCps b.cps.toList a.cps.toList
def sortS (l : List Str) : List Str := l.mergeSort leS
def lstOf (v : AV) (h : AH) : Option (List AV) := match v with
  | .ref a => match h[a]? with
    | some (.lst xs) => some xs
    | _ => none
  | _ => none
def bSorted (v : AV) (h : AH) : R AV := match lstOf v h with
  | some xs => match strL xs with
    | some ss => if ss.length < 64 then new (.lst ((sortS ss).map .str)) h else .bad
    | none => .bad
  | none => .bad
def bAll (v : AV) (h : AH) : R AV := match lstOf v h with
  | some xs => match blsL xs with
    | some bs => .ok (.bl (bs.all id)) h
    | none => .bad
  | none => .bad
def arg1 (g : AV → AH → R AV) : List AV → AH → R AV
  | [v], h => g v h
  | _, _ => .bad
/-- isinstance(x, C): cs tells the answer for each class; x an instance, a bool, an int, a text, None, a list -/
def bIsA (cs : List (Nat × Bool)) (v : AV) (h : AH) : R AV := match v with
  | .ref a => match h[a]? with
    | some (.ins c _) => match cs.lookup c with
      | some b => .ok (.bl b) h
      | none => .bad
    | some (.lst _) => .ok (.bl false) h
    | _ => .bad
  | .scr _ => .bad
  | .tup _ => .bad
  | _ => .ok (.bl false) h
inductive Ty where
  | bool | int | str | list | tuple
  deriving DecidableEq
def bIsT (t : Ty) (v : AV) (h : AH) : R AV := match v with
  | .non => .ok (.bl false) h
  | .bl _ => .ok (.bl (t == .bool || t == .int)) h
  | .int _ => .ok (.bl (t == .int)) h
  | .str _ => .ok (.bl (t == .str)) h
  | .tup _ => .ok (.bl (t == .tuple)) h
  | .ref a => match h[a]? with
    | some (.lst _) => .ok (.bl (t == .list)) h
    | some (.ins _ _) => .ok (.bl false) h
    | _ => .bad
  | .scr _ => .bad
/-- a built-in type's method: the receiver's kind is looked at ahead of the arguments -/
def sBm (ty : AV → AH → Bool) (f : AV → List AV → AH → R AV) (o : SE) (a : SA) : SE := fun σ h => (o σ h).bind fun v h1 => if ty v h1 then (a σ h1).bind fun vs h2 => f v vs h2 else .bad
def isLst (v : AV) (h : AH) : Bool := (lstOf v h).isSome
def isStr (v : AV) (_ : AH) : Bool := match v with
  | .str _ => true
  | _ => false
def mAppend (l : AV) (vs : List AV) (h : AH) : R AV := match l, vs with
  | .ref a, [v] => match h[a]? with
    | some (.lst xs) => if xs.length < sizeLine then .ok .non (h.set a (.lst (xs ++ [v]))) else .bad
    | _ => .bad
  | _, _ => .bad
def mJoin (s : AV) (vs : List AV) (h : AH) : R AV := match s, vs with
  | .str a, [v] => match seqOf v h with
    | some xs => match strL xs with
      | some ss => if (ss.map (·.length)).sum + ss.length * a.length ≤ 16777216 then .ok (.str (Txt.join a ss)) h else .bad
      | none => .bad
    | none => .bad
  | _, _ => .bad

inductive Src where
  | lst (a : Nat) | tup (xs : List AV) | rng (lo : Int) (n : Nat)
def Src.at (s : Src) (i : Nat) (h : AH) : Option (Option AV) := match s with
  | .lst a => match h[a]? with
    | some (.lst xs) => some xs[i]?
    | _ => none
  | .tup xs => some xs[i]?
  | .rng lo n => some (if i < n then some (.int (lo + i)) else none)
def Src.len (s : Src) (h : AH) : Nat := match s with
  | .lst a => match h[a]? with
    | some (.lst xs) => xs.length
    | _ => 0
  | .tup xs => xs.length
  | .rng _ n => n
abbrev SI := Sl → AH → R Src
def iSeq (e : SE) : SI := fun σ h => (e σ h).bind fun v h1 => match v with
  | .tup xs => .ok (.tup xs) h1
  | .ref a => match h1[a]? with
    | some (.lst _) => .ok (.lst a) h1
    | _ => .bad
  | _ => .bad
/-- over an instance whose class iterates by a field -/
def iOwn (C : CE) (e : SE) : SI := fun σ h => (e σ h).bind fun v h1 => match itRef C v h1 with
  | some a => .ok (.lst a) h1
  | none => .bad
def iRng1 (e : SE) : SI := fun σ h => (e σ h).bind fun v h1 => match v with
  | .int j => if -(2 ^ 62) ≤ j ∧ j < 2 ^ 62 then .ok (.rng 0 j.toNat) h1 else .bad
  | _ => .bad
def iRng2 (a b : SE) : SI := fun σ h => (a σ h).bind fun x h1 => (b σ h1).bind fun y h2 => match x, y with
  | .int i, .int j => if -(2 ^ 62) ≤ i ∧ i < 2 ^ 62 ∧ -(2 ^ 62) ≤ j ∧ j < 2 ^ 62 then .ok (.rng i (j - i).toNat) h2 else .bad
  | _, _ => .bad
/-- a target: a name, a tuple of names -/
abbrev SG := AV → Sl → Option Sl
def gNm (i : Nat) : SG := fun v σ => some (σ.set i (some v))
def gsN : List Nat → List AV → Sl → Option Sl
  | [], [], σ => some σ
  | i :: is, v :: vs, σ => gsN is vs (σ.set i (some v))
  | _, _, _ => none
def gTp (is : List Nat) : SG := fun v σ => match v with
  | .tup xs => gsN is xs σ
  | _ => none
def forL (s : Src) (g : SG) (b : SS) : Nat → Nat → SS
  | k, i, σ, h => match s.at i h with
    | none => .bad
    | some none => .ok (.nx σ) h
    | some (some v) => match k with
      | 0 => .bad
      | k + 1 => match g v σ with
        | none => .bad
        | some σ1 => (b σ1 h).bind fun f h2 => match f with
          | .nx σ2 => forL s g b k (i + 1) σ2 h2
          | .ct σ2 => forL s g b k (i + 1) σ2 h2
          | .bk σ2 => .ok (.nx σ2) h2
          | .rt v => .ok (.rt v) h2
def sFor (it : SI) (g : SG) (b : SS) : SS := fun σ h => (it σ h).to σ fun s h1 => forL s g b (s.len h1) 0 σ h1
def wipeA (σ : Sl) : List Nat → Sl
  | [] => σ
  | v :: vs => (wipeA σ vs).set v none
/-- a comprehension: the list grows at D -/
def lcL (s : Src) (g : SG) (t : SB) (e : SE) (D : Nat) (σ : Sl) : Nat → Nat → AH → R AV
  | k, i, h => match s.at i h with
    | none => .bad
    | some none => .ok (.ref D) h
    | some (some v) => match k with
      | 0 => .bad
      | k + 1 => match g v σ with
        | some σ1 => match t σ1 h with
          | .ok true h2 => match e σ1 h2 with
            | .ok w h3 => match h3[D]? with
              | some (.lst acc) => if acc.length < sizeLine then lcL s g t e D σ k (i + 1) (h3.set D (.lst (acc ++ [w]))) else .bad
              | _ => .bad
            | _ => .bad
          | .ok false h2 => lcL s g t e D σ k (i + 1) h2
          | _ => .bad
        | none => .bad
def sLc (it : SI) (g : SG) (t : SB) (e : SE) (vs : List Nat) : SE := fun σ h => (it σ h).bind fun s h1 => lcL s g t e h1.length (wipeA σ vs) (s.len (h1 ++ [.lst []])) 0 (h1 ++ [.lst []])

def ssBad : SS := fun _ _ => .bad
def ssNil : SS := fun σ h => .ok (.nx σ) h
def ssSeq (a b : SS) : SS := fun σ h => (a σ h).bind fun f h1 => match f with
  | .nx σ1 => b σ1 h1
  | f => .ok f h1
def ssSet (i : Nat) (e : SE) : SS := fun σ h => (e σ h).to σ fun v h1 => .ok (.nx (σ.set i (some v))) h1
def ssExpr (e : SE) : SS := fun σ h => (e σ h).to σ fun _ h1 => .ok (.nx σ) h1
def ssRet (e : SE) : SS := fun σ h => (e σ h).to σ fun v h1 => .ok (.rt v) h1
def ssRetN : SS := fun _ h => .ok (.rt .non) h
def ssIf (t : SB) (a b : SS) : SS := fun σ h => (t σ h).to σ fun x h1 => if x then a σ h1 else b σ h1
/-- a, b = e -/
def ssUnp (g : SG) (e : SE) : SS := fun σ h => (e σ h).to σ fun v h1 => match g v σ with
  | some σ1 => .ok (.nx σ1) h1
  | none => .bad
/-- l[i] = e of a list -/
def oSetIx (l i v : AV) (h : AH) : Option AH := match l, i with
  | .ref a, .int j => match h[a]? with
    | some (.lst xs) => match L2.ixN xs.length j with
      | some k => some (h.set a (.lst (xs.set k v)))
      | none => none
    | _ => none
  | _, _ => none
def ssIx (o i e : SE) : SS := fun σ h => (e σ h).to σ fun v h1 => (o σ h1).to σ fun l h2 => (i σ h2).to σ fun j h3 => match oSetIx l j v h3 with
  | some h4 => .ok (.nx σ) h4
  | none => .bad

/-- a op= b at a name -/
def ssAug (j : Nat) (f : AV → AV → AH → R AV) (e : SE) : SS := fun σ h => match σ[j]? with
  | some (some x) => (e σ h).to σ fun y h1 => (f x y h1).to σ fun z h2 => .ok (.nx (σ.set j (some z))) h2
  | _ => .bad

def endF (r : RS) : R AV := match r with
  | .ok (.nx _) h1 => .ok .non h1
  | .ok (.rt v) h1 => .ok v h1
  | .ex c fs _ h1 => .ex c fs h1
  | _ => .bad
/-- a body's slots at the start -/
def slots (n : Nat) (vs : List AV) : Sl := vs.map some ++ List.replicate (n - vs.length) none
/-- a def of np plain parameters and n slots -/
def runF (np n : Nat) (b : SS) (vs : List AV) (h : AH) : R AV := if vs.length = np then endF (b (slots n vs) h) else .bad
/-- a def of np plain parameters and a starred one -/
def runS (np n : Nat) (b : SS) (vs : List AV) (h : AH) : R AV := if np ≤ vs.length ∧ vs.length ≤ 1000000 then endF (b (slots n (vs.take np ++ [.tup (vs.drop np)])) h) else .bad
end Mi

namespace Mi
open PySem PySem.Spec PyProof.Rows L2

structure Dm where
  K : PySem.W.Frag
  cls : Nat → Addr
/-- the script: known and frozen -/
def ScrAt (K : PySem.W.Frag) (H : Hp) (a : Addr) (ns : List Int) : Prop :=
  (∃ o, H a = some (.frz o (.lst (ns.map .int)))) ∨ ∃ (o : Obj) (its : Array Value) (n : Nat), K.lookup a = some o ∧ o.cls = .type "list" ∧ o.dict = none ∧ o.data = .seq its n ∧ its.size ≤ sizeLine ∧ Vals (ns.map V.int) its.toList
theorem ScrAt.sq {K : PySem.W.Frag} {H : Hp} {a : Addr} {ns : List Int} (h : ScrAt K H a ns) : SqL K H a (ns.map V.int) := by
  rcases h with ⟨o, h⟩ | h
  · exact .inl (.inr ⟨o, h⟩)
  · exact .inr h
mutual
def VR (D : Dm) (m : List Addr) (H : Hp) : AV → V → Prop
  | .non, u => u = .non
  | .bl b, u => u = .bl b
  | .int i, u => u = .int i
  | .str x, u => u = .str x
  | .ref i, u => ∃ a, m[i]? = some a ∧ u = .ref a
  | .scr ns, u => ∃ a, u = .ref a ∧ ScrAt D.K H a ns
  | .tup xs, u => ∃ p us, u = .ref p ∧ SqT D.K H p us ∧ VRs D m H xs us
def VRs (D : Dm) (m : List Addr) (H : Hp) : List AV → List V → Prop
  | [], us => us = []
  | x :: xs, us => ∃ u r, us = u :: r ∧ VR D m H x u ∧ VRs D m H xs r
end
/-- tuples and frozen things stay -/
def Keep (H H' : Hp) : Prop := (∀ a xs, H a = some (.tup xs) → H' a = some (.tup xs)) ∧ ∀ a o u, H a = some (.frz o u) → H' a = some (.frz o u)
theorem Keep.rfl' {H : Hp} : Keep H H := ⟨fun _ _ h => h, fun _ _ _ h => h⟩
theorem Keep.trans {H H1 H2 : Hp} (a : Keep H H1) (b : Keep H1 H2) : Keep H H2 := ⟨fun c xs h => b.1 c xs (a.1 c xs h), fun c o u h => b.2 c o u (a.2 c o u h)⟩
theorem Keep.new {H : Hp} {p : Addr} {o : HO} (n : H p = none) : Keep H (upd H p o) :=
  ⟨fun a xs h => by rw [upd_ne (ne_of_none h n)]; exact h, fun a q u h => by rw [upd_ne (ne_of_none h n)]; exact h⟩
/-- what may change -/
def Chg : HO → Prop
  | .tup _ => False
  | .frz _ _ => False
  | _ => True
theorem Keep.chg {H : Hp} {p : Addr} {o o' : HO} (e : H p = some o) (c : Chg o) : Keep H (upd H p o') := by
  refine ⟨fun a xs h => ?_, fun a q u h => ?_⟩
  · by_cases z : a = p
    · subst z; rw [e] at h; cases h; exact c.elim
    · rw [upd_ne z]; exact h
  · by_cases z : a = p
    · subst z; rw [e] at h; cases h; exact c.elim
    · rw [upd_ne z]; exact h
theorem SqT.keep {K : PySem.W.Frag} {H H' : Hp} {a : Addr} {xs : List V} (k : Keep H H') (h : SqT K H a xs) : SqT K H' a xs := by
  rcases h with (h | ⟨o, h⟩) | h
  · exact .inl (.inl (k.1 _ _ h))
  · exact .inl (.inr ⟨o, k.2 _ _ _ h⟩)
  · exact .inr h
theorem ScrAt.keep {K : PySem.W.Frag} {H H' : Hp} {a : Addr} {ns : List Int} (k : Keep H H') (h : ScrAt K H a ns) : ScrAt K H' a ns := by
  rcases h with ⟨o, h⟩ | h
  · exact .inl ⟨o, k.2 _ _ _ h⟩
  · exact .inr h
theorem pre_get {m m' : List Addr} {i : Nat} {a : Addr} (p : m <+: m') (h : m[i]? = some a) : m'[i]? = some a := by
  obtain ⟨t, rfl⟩ := p
  rw [List.getElem?_append_left (List.getElem?_eq_some_iff.mp h).1]
  exact h
mutual
theorem VR.mono {D : Dm} {m m' : List Addr} {H H' : Hp} (p : m <+: m') (k : Keep H H') : ∀ (x : AV) (u : V), VR D m H x u → VR D m' H' x u
  | .non, _, h => h
  | .bl _, _, h => h
  | .int _, _, h => h
  | .str _, _, h => h
  | .ref i, _, ⟨a, h, e⟩ => ⟨a, pre_get p h, e⟩
  | .scr ns, _, ⟨a, e, h⟩ => ⟨a, e, h.keep k⟩
  | .tup xs, _, ⟨q, us, e, h, r⟩ => ⟨q, us, e, SqT.keep k h, VRs.mono p k xs us r⟩
theorem VRs.mono {D : Dm} {m m' : List Addr} {H H' : Hp} (p : m <+: m') (k : Keep H H') : ∀ (xs : List AV) (us : List V), VRs D m H xs us → VRs D m' H' xs us
  | [], _, h => h
  | x :: xs, _, ⟨u, r, e, h, t⟩ => ⟨u, r, e, VR.mono p k x u h, VRs.mono p k xs r t⟩
end
section
variable {D : Dm} {m m' : List Addr} {H H' : Hp}
theorem VRs.length : ∀ {xs : List AV} {us : List V}, VRs D m H xs us → us.length = xs.length
  | [], _, h => by rw [show _ = [] from h]; rfl
  | x :: xs, _, ⟨u, r, e, _, t⟩ => by subst e; simp [VRs.length t]
theorem VRs.get : ∀ {xs : List AV} {us : List V} {i : Nat} {x : AV}, VRs D m H xs us → xs[i]? = some x → ∃ u, us[i]? = some u ∧ VR D m H x u
  | [], _, _, _, _, e => by simp at e
  | y :: ys, _, 0, x, ⟨u, r, eu, h, _⟩, e => by
    subst eu; simp at e; subst e; exact ⟨u, rfl, h⟩
  | y :: ys, _, i + 1, x, ⟨u, r, eu, _, t⟩, e => by
    subst eu
    obtain ⟨w, h1, h2⟩ := VRs.get (i := i) (x := x) t (by simpa using e)
    exact ⟨w, by simpa using h1, h2⟩
theorem VRs.append : ∀ {xs ys : List AV} {us ws : List V}, VRs D m H xs us → VRs D m H ys ws → VRs D m H (xs ++ ys) (us ++ ws)
  | [], _, us, _, h, k => by rw [show us = [] from h]; exact k
  | x :: xs, _, _, _, ⟨u, r, e, h, t⟩, k => by subst e; exact ⟨u, _, rfl, h, VRs.append t k⟩
theorem VRs.set : ∀ {xs : List AV} {us : List V} (i : Nat) {x : AV} {u : V}, VR D m H x u → VRs D m H xs us → VRs D m H (xs.set i x) (us.set i u)
  | [], us, _, _, _, _, h => by rw [show us = [] from h]; rfl
  | y :: ys, _, 0, x, u, hx, ⟨w, r, e, _, t⟩ => by subst e; exact ⟨u, r, rfl, hx, t⟩
  | y :: ys, _, i + 1, x, u, hx, ⟨w, r, e, h, t⟩ => by subst e; exact ⟨w, _, rfl, h, VRs.set i hx t⟩
theorem VRs.take : ∀ {xs : List AV} {us : List V} (n : Nat), VRs D m H xs us → VRs D m H (xs.take n) (us.take n)
  | [], us, n, h => by rw [show us = [] from h]; simp [VRs]
  | _ :: _, _, 0, _ => by simp [VRs]
  | x :: xs, _, n + 1, ⟨u, r, e, h, t⟩ => by subst e; exact ⟨u, _, rfl, h, VRs.take n t⟩
theorem VRs.drop : ∀ {xs : List AV} {us : List V} (n : Nat), VRs D m H xs us → VRs D m H (xs.drop n) (us.drop n)
  | [], us, n, h => by rw [show us = [] from h]; simp [VRs]
  | x :: xs, _, 0, h => h
  | x :: xs, _, n + 1, ⟨u, r, e, h, t⟩ => by subst e; exact VRs.drop n t
theorem vrs_ints (ns : List Int) : VRs D m H (ns.map .int) (ns.map V.int) := by
  induction ns with
  | nil => rfl
  | cons n r ih => exact ⟨_, _, rfl, rfl, ih⟩
theorem vrs_strs : ∀ {xs : List AV} {us : List V} {ss : List Str}, strL xs = some ss → VRs D m H xs us → us = ss.map V.str
  | [], us, ss, e, h => by
    have z : ss = [] := by simpa [strL, omap] using e.symm
    subst z; exact h
  | x :: xs, _, ss, e, ⟨u, r, eu, h, t⟩ => by
    subst eu
    cases x <;> simp only [strL, omap] at e <;> try cases e
    rename_i z
    split at e
    · cases e
    · rename_i ys hy
      cases e
      rw [vrs_strs (ss := ys) hy t, show u = V.str z from h]
      rfl
theorem strs_map (ss : List Str) : strL (ss.map .str) = some ss := by
  induction ss with
  | nil => rfl
  | cons s r ih =>
    simp only [strL] at ih
    simp only [strL, List.map_cons, omap, ih]
theorem vrs_of_strs (ss : List Str) : VRs D m H (ss.map .str) (ss.map V.str) := by
  induction ss with
  | nil => rfl
  | cons n r ih => exact ⟨_, _, rfl, rfl, ih⟩
theorem vrs_bls : ∀ {xs : List AV} {us : List V} {ss : List Bool}, blsL xs = some ss → VRs D m H xs us → us = ss.map V.bl
  | [], us, ss, e, h => by
    have z : ss = [] := by simpa [blsL, omap] using e.symm
    subst z; exact h
  | x :: xs, _, ss, e, ⟨u, r, eu, h, t⟩ => by
    subst eu
    cases x <;> simp only [blsL, omap] at e <;> try cases e
    rename_i z
    split at e
    · cases e
    · rename_i ys hy
      cases e
      rw [vrs_bls (ss := ys) hy t, show u = V.bl z from h]
      rfl
theorem vr_toV {x : AV} {u v : V} (e : toV x = some v) (h : VR D m H x u) : u = v ∧ flatV v = true := by
  cases x <;> simp only [toV] at e <;> cases e <;> exact ⟨h, rfl⟩
theorem vrs_toV : ∀ {xs : List AV} {us vs : List V}, omap toV xs = some vs → VRs D m H xs us → us = vs ∧ vs.all flatV = true
  | [], us, vs, e, h => by
    have z : vs = [] := by simpa [omap] using e.symm
    subst z; exact ⟨h, rfl⟩
  | x :: xs, _, vs, e, ⟨u, r, eu, h, t⟩ => by
    subst eu
    simp only [omap] at e
    split at e
    · cases e
    · rename_i y hy
      split at e
      · cases e
      · rename_i ys hys
        cases e
        obtain ⟨e1, f1⟩ := vr_toV hy h
        obtain ⟨e2, f2⟩ := vrs_toV hys t
        subst e1 e2
        exact ⟨rfl, by rw [List.all_cons, f1, f2]; rfl⟩
end

/-- a dict's pairs, an instance's fields -/
def KVR {κ : Type} (D : Dm) (m : List Addr) (H : Hp) : List (κ × AV) → List (κ × V) → Prop
  | [], qs => qs = []
  | p :: ps, qs => ∃ u r, qs = (p.1, u) :: r ∧ VR D m H p.2 u ∧ KVR D m H ps r
theorem KVR.mono {κ : Type} {D : Dm} {m m' : List Addr} {H H' : Hp} (p : m <+: m') (k : Keep H H') : ∀ {xs : List (κ × AV)} {us : List (κ × V)}, KVR D m H xs us → KVR D m' H' xs us
  | [], _, h => h
  | x :: xs, _, ⟨u, r, e, h, t⟩ => ⟨u, r, e, VR.mono p k _ u h, KVR.mono p k t⟩
theorem KVR.length {κ : Type} {D : Dm} {m : List Addr} {H : Hp} : ∀ {xs : List (κ × AV)} {us : List (κ × V)}, KVR D m H xs us → us.length = xs.length
  | [], _, h => by rw [show _ = [] from h]; rfl
  | x :: xs, _, ⟨u, r, e, _, t⟩ => by subst e; simp [KVR.length t]
theorem KVR.lookup {D : Dm} {m : List Addr} {H : Hp} {f : Str} : ∀ {xs : Fs} {us : List (Str × V)} {v : AV}, KVR D m H xs us → xs.lookup f = some v → ∃ u, us.lookup f = some u ∧ VR D m H v u
  | [], _, _, _, e => by simp at e
  | x :: xs, _, v, ⟨u, r, e, h, t⟩, q => by
    subst e
    obtain ⟨g, w⟩ := x
    rw [List.lookup_cons] at q ⊢
    cases hb : f == g with
    | true => rw [hb] at q; cases q; exact ⟨u, rfl, h⟩
    | false => rw [hb] at q; exact KVR.lookup t q
theorem KVR.lookup_none {D : Dm} {m : List Addr} {H : Hp} {f : Str} : ∀ {xs : Fs} {us : List (Str × V)}, KVR D m H xs us → xs.lookup f = none → us.lookup f = none
  | [], _, h, _ => by rw [show _ = [] from h]; rfl
  | x :: xs, _, ⟨u, r, e, h, t⟩, q => by
    subst e
    obtain ⟨g, w⟩ := x
    rw [List.lookup_cons] at q ⊢
    cases hb : f == g with
    | true => rw [hb] at q; cases q
    | false => rw [hb] at q; exact KVR.lookup_none t q
theorem KVR.put {D : Dm} {m : List Addr} {H : Hp} {f : Str} {v : AV} {u : V} (hv : VR D m H v u) : ∀ {xs : Fs} {us : List (Str × V)}, KVR D m H xs us → KVR D m H (putA f v xs) (putF f u us)
  | [], _, h => by rw [show _ = [] from h]; exact ⟨u, [], rfl, hv, rfl⟩
  | x :: xs, _, ⟨w, r, e, h, t⟩ => by
    subst e
    obtain ⟨g, y⟩ := x
    show KVR D m H (if g = f then (g, v) :: xs else (g, y) :: putA f v xs) (if g = f then (g, u) :: r else (g, w) :: putF f u r)
    by_cases z : g = f
    · rw [if_pos z, if_pos z]; exact ⟨u, r, rfl, hv, t⟩
    · rw [if_neg z, if_neg z]; exact ⟨w, _, rfl, h, KVR.put hv t⟩
/-- an object at a -/
def OR (D : Dm) (m : List Addr) (H : Hp) (a : Addr) : AO → Prop
  | .lst xs => ∃ vs, H a = some (.lst vs) ∧ VRs D m H xs vs
  | .dk kvs => ∃ ps, H a = some (.dK ps) ∧ KVR D m H kvs ps
  | .dt kvs => ∃ ps, H a = some (.dT ps) ∧ KVR D m H kvs ps
  | .ins c fs => ∃ dx gs, H a = some (.ins (D.cls c) dx gs) ∧ KVR D m H fs gs
theorem OR.tracked {D : Dm} {m : List Addr} {H : Hp} {a : Addr} {o : AO} (h : OR D m H a o) : ∃ u, H a = some u ∧ Chg u := by
  cases o with
  | lst xs => obtain ⟨vs, e, _⟩ := h; exact ⟨_, e, trivial⟩
  | dk kvs => obtain ⟨vs, e, _⟩ := h; exact ⟨_, e, trivial⟩
  | dt kvs => obtain ⟨vs, e, _⟩ := h; exact ⟨_, e, trivial⟩
  | ins c fs => obtain ⟨dx, vs, e, _⟩ := h; exact ⟨_, e, trivial⟩
/-- it stands as it stood -/
theorem OR.stay {D : Dm} {m m' : List Addr} {H H' : Hp} {a : Addr} {o : AO} (p : m <+: m') (k : Keep H H') (e : ∀ u, H a = some u → H' a = some u) (h : OR D m H a o) : OR D m' H' a o := by
  cases o with
  | lst xs => obtain ⟨vs, q, r⟩ := h; exact ⟨vs, e _ q, VRs.mono p k _ _ r⟩
  | dk kvs => obtain ⟨vs, q, r⟩ := h; exact ⟨vs, e _ q, KVR.mono p k r⟩
  | dt kvs => obtain ⟨vs, q, r⟩ := h; exact ⟨vs, e _ q, KVR.mono p k r⟩
  | ins c fs => obtain ⟨dx, vs, q, r⟩ := h; exact ⟨dx, vs, e _ q, KVR.mono p k r⟩
structure Rel (D : Dm) (m : List Addr) (h : AH) (H : Hp) : Prop where
  len : m.length = h.length
  nd : m.Nodup
  ob : ∀ (i : Nat) (o : AO) (a : Addr), h[i]? = some o → m[i]? = some a → OR D m H a o
section
variable {D : Dm} {m m' : List Addr} {H H' : Hp} {h h' : AH}
theorem Rel.at_ (r : Rel D m h H) {i : Nat} {o : AO} (e : h[i]? = some o) : ∃ a, m[i]? = some a ∧ OR D m H a o := by
  have hi : i < m.length := by rw [r.len]; exact (List.getElem?_eq_some_iff.mp e).1
  exact ⟨m[i], List.getElem?_eq_getElem hi, r.ob i o _ e (List.getElem?_eq_getElem hi)⟩
theorem Rel.free (r : Rel D m h H) {p : Addr} (n : H p = none) : p ∉ m := fun hp => by
  obtain ⟨i, hi⟩ := List.getElem?_of_mem hp
  have hl : i < h.length := by rw [← r.len]; exact (List.getElem?_eq_some_iff.mp hi).1
  obtain ⟨u, e, _⟩ := (r.ob i h[i] p (List.getElem?_eq_getElem hl) hi).tracked
  rw [n] at e; cases e
theorem nd_get {m : List Addr} (nd : m.Nodup) {i j : Nat} {a : Addr} (h1 : m[i]? = some a) (h2 : m[j]? = some a) : i = j := by
  obtain ⟨p, e1⟩ := List.getElem?_eq_some_iff.mp h1
  obtain ⟨q, e2⟩ := List.getElem?_eq_some_iff.mp h2
  exact (List.getElem_inj nd).mp (e1.trans e2.symm)
/-- a new object: H' tracks it at p, all else as it was -/
theorem Rel.push (r : Rel D m h H) {p : Addr} {o : AO} (n : p ∉ m) (k : Keep H H') (st : ∀ a ∈ m, ∀ u, H a = some u → H' a = some u) (ho : OR D (m ++ [p]) H' p o) : Rel D (m ++ [p]) (h ++ [o]) H' := by
  have pre : m <+: m ++ [p] := ⟨[p], rfl⟩
  refine ⟨by simp [r.len], ?_, fun i q a e1 e2 => ?_⟩
  · exact List.nodup_append.mpr ⟨r.nd, by simp, fun a ha b hb => by
      have e : b = p := by simpa using hb
      subst e; exact fun z => n (z ▸ ha)⟩
  · by_cases hi : i < h.length
    · rw [List.getElem?_append_left hi] at e1
      rw [List.getElem?_append_left (by rw [r.len]; exact hi)] at e2
      exact (r.ob i q a e1 e2).stay pre k (st a (List.mem_of_getElem? e2))
    · have e1' : i = h.length := by
        have z := (List.getElem?_eq_some_iff.mp e1).1
        simp at z; omega
      subst e1'
      simp at e1
      subst e1
      rw [← r.len] at e2
      simp at e2
      subst e2
      exact ho
/-- an object changed -/
theorem Rel.put (r : Rel D m h H) {i : Nat} {p : Addr} {o : AO} (e : m[i]? = some p) (k : Keep H H') (st : ∀ a, a ≠ p → a ∈ m → ∀ u, H a = some u → H' a = some u) (ho : OR D m H' p o) : Rel D m (h.set i o) H' := by
  refine ⟨by simp [r.len], r.nd, fun j q a e1 e2 => ?_⟩
  by_cases hij : j = i
  · subst hij
    rw [e] at e2; cases e2
    have hl : j < h.length := by rw [← r.len]; exact (List.getElem?_eq_some_iff.mp e).1
    rw [List.getElem?_set_self hl] at e1
    cases e1
    exact ho
  · rw [List.getElem?_set_ne (Ne.symm hij)] at e1
    have hp : a ≠ p := fun z => hij (nd_get r.nd (z ▸ e2) e)
    exact (r.ob j q a e1 e2).stay (List.prefix_refl m) k (st a hp (List.mem_of_getElem? e2))
end
/-- slots -/
def RelS (D : Dm) (m : List Addr) (H : Hp) (σ' : Sl) (σ : L2.St) : Prop := σ'.length = σ.length ∧ ∀ (i : Nat) (v : AV), σ'[i]? = some (some v) → ∃ u : V, σ[i]? = some (some u) ∧ VR D m H v u
theorem RelS.mono {D : Dm} {m m' : List Addr} {H H' : Hp} {σ' : Sl} {σ : L2.St} (p : m <+: m') (k : Keep H H') (r : RelS D m H σ' σ) : RelS D m' H' σ' σ :=
  ⟨r.1, fun i v e => let ⟨u, e1, h⟩ := r.2 i v e; ⟨u, e1, VR.mono p k _ _ h⟩⟩
theorem RelS.set {D : Dm} {m : List Addr} {H : Hp} {σ' : Sl} {σ : L2.St} {v : AV} {u : V} (r : RelS D m H σ' σ) (i : Nat) (h : VR D m H v u) : RelS D m H (σ'.set i (some v)) (σ.set i (some u)) := by
  refine ⟨by simp [r.1], fun j w e => ?_⟩
  by_cases hj : j = i
  · subst hj
    have hl : j < σ'.length := by simpa using (List.getElem?_eq_some_iff.mp e).1
    rw [List.getElem?_set_self hl] at e
    cases e
    exact ⟨u, List.getElem?_set_self (by rw [← r.1]; exact hl), h⟩
  · rw [List.getElem?_set_ne (Ne.symm hj)] at e
    obtain ⟨x, e1, h1⟩ := r.2 j w e
    exact ⟨x, by rw [List.getElem?_set_ne (Ne.symm hj)]; exact e1, h1⟩
theorem RelS.unset {D : Dm} {m : List Addr} {H : Hp} {σ' : Sl} {σ : L2.St} {x : Option V} (r : RelS D m H σ' σ) (i : Nat) : RelS D m H (σ'.set i none) (σ.set i x) := by
  refine ⟨by simp [r.1], fun j w e => ?_⟩
  by_cases hj : j = i
  · subst hj
    have hl : j < σ'.length := by simpa using (List.getElem?_eq_some_iff.mp e).1
    rw [List.getElem?_set_self hl] at e
    cases e
  · rw [List.getElem?_set_ne (Ne.symm hj)] at e
    obtain ⟨x, e1, h1⟩ := r.2 j w e
    exact ⟨x, by rw [List.getElem?_set_ne (Ne.symm hj)]; exact e1, h1⟩
theorem RelS.wipe {D : Dm} {m : List Addr} {H : Hp} {σ' : Sl} {σ : L2.St} (r : RelS D m H σ' σ) : ∀ vs : List Nat, RelS D m H (wipeA σ' vs) (L2.wipe σ vs)
  | [] => r
  | v :: vs => by
    unfold wipeA L2.wipe
    exact (RelS.wipe r vs).unset v

/-- an exception's fields -/
def ExOk (D : Dm) (m : List Addr) (H : Hp) (fs : Fs) (d : Option Addr) : Prop := fs = [] ∨ ∃ x gs, d = some x ∧ H x = some (.xd gs) ∧ KVR D m H fs gs
/-- what is to be shown of a result -/
def Post {α β : Type} (D : Dm) (m : List Addr) (H : Hp) (rel : List Addr → Hp → α → β → Prop) (r : R α) (Q : β → Hp → Prop) (E : XK) : Prop := match r with
  | .ok v h' => ∀ m' H' u, m <+: m' → Keep H H' → Rel D m' h' H' → rel m' H' v u → Q u H'
  | .ex c fs h' => ∀ m' H' d, m <+: m' → Keep H H' → Rel D m' h' H' → ExOk D m' H' fs d → E (.ref (D.cls c)) d H'
  | .bad => False
abbrev relV (D : Dm) : List Addr → Hp → AV → V → Prop := fun m H x u => VR D m H x u
abbrev relVs (D : Dm) : List Addr → Hp → List AV → List V → Prop := fun m H x u => VRs D m H x u
abbrev relB : List Addr → Hp → Bool → Bool → Prop := fun _ _ x u => x = u
theorem Post.mono {α β : Type} {D : Dm} {m m1 : List Addr} {H H1 : Hp} {rel : List Addr → Hp → α → β → Prop} {r : R α} {Q : β → Hp → Prop} {E : XK} (p : m <+: m1) (k : Keep H H1) (h : Post D m H rel r Q E) : Post D m1 H1 rel r Q E := by
  cases r with
  | ok v h' => exact fun m' H' u a b c d => h m' H' u (p.trans a) (k.trans b) c d
  | ex c fs h' => exact fun m' H' u a b c d => h m' H' u (p.trans a) (k.trans b) c d
  | bad => exact h
/-- in a row -/
theorem Post.bind {α β γ δ : Type} {D : Dm} {m : List Addr} {H : Hp} {rel : List Addr → Hp → α → β → Prop} {rel2 : List Addr → Hp → γ → δ → Prop} {r : R α} {f : α → AH → R γ} {Q : β → Hp → Prop} {Q2 : δ → Hp → Prop} {E : XK}
    (h : Post D m H rel2 (r.bind f) Q2 E) (g : ∀ v h1 m1 H1 u, r = .ok v h1 → m <+: m1 → Keep H H1 → Rel D m1 h1 H1 → rel m1 H1 v u → Post D m1 H1 rel2 (f v h1) Q2 E → Q u H1) : Post D m H rel r Q E := by
  cases r with
  | ok v h1 => exact fun m1 H1 u a b c d => g v h1 m1 H1 u rfl a b c d (h.mono a b)
  | ex c fs h' => exact h
  | bad => exact h
/-- a value at hand -/
theorem Post.now {α β : Type} {D : Dm} {m : List Addr} {H : Hp} {rel : List Addr → Hp → α → β → Prop} {v : α} {h' : AH} {u : β} {Q : β → Hp → Prop} {E : XK} (h : Post D m H rel (.ok v h') Q E) (r : Rel D m h' H) (q : rel m H v u) : Q u H :=
  h m H u (List.prefix_refl m) .rfl' r q
/-- a statement's result -/
def PostS (D : Dm) (m : List Addr) (H : Hp) (r : RS) (Dn : Ends) (W : WX) : Prop := match r with
  | .ok fl h' => ∀ m' H', m <+: m' → Keep H H' → Rel D m' h' H' → match fl with
    | .nx σ1 => ∀ σ2, RelS D m' H' σ1 σ2 → Dn.nx σ2 H'
    | .rt v => ∀ u, VR D m' H' v u → Dn.rt u H'
    | .bk σ1 => ∀ σ2, RelS D m' H' σ1 σ2 → Dn.bk σ2 H'
    | .ct σ1 => ∀ σ2, RelS D m' H' σ1 σ2 → Dn.ct σ2 H'
  | .ex c fs σ1 h' => ∀ m' H' d σ2, m <+: m' → Keep H H' → Rel D m' h' H' → RelS D m' H' σ1 σ2 → ExOk D m' H' fs d → W (.ref (D.cls c)) d σ2 H'
  | .bad => False
theorem PostS.mono {D : Dm} {m m1 : List Addr} {H H1 : Hp} {r : RS} {Dn : Ends} {W : WX} (p : m <+: m1) (k : Keep H H1) (h : PostS D m H r Dn W) : PostS D m1 H1 r Dn W := by
  cases r with
  | ok v h' => exact fun m' H' a b c => h m' H' (p.trans a) (k.trans b) c
  | ex c fs σ h' => exact fun m' H' d σ2 a b c => h m' H' d σ2 (p.trans a) (k.trans b) c
  | bad => exact h
/-- an expression within a statement -/
theorem PostS.to {α β : Type} {D : Dm} {m : List Addr} {H : Hp} {rel : List Addr → Hp → α → β → Prop} {r : R α} {σ' : Sl} {σ : L2.St} {f : α → AH → RS} {Q : β → Hp → Prop} {Dn : Ends} {W : WX} (rs : RelS D m H σ' σ)
    (h : PostS D m H (r.to σ' f) Dn W) (g : ∀ v h1 m1 H1 u, r = .ok v h1 → m <+: m1 → Keep H H1 → Rel D m1 h1 H1 → rel m1 H1 v u → PostS D m1 H1 (f v h1) Dn W → Q u H1) : Post D m H rel r Q (fun c d H' => W c d σ H') := by
  cases r with
  | ok v h1 => exact fun m1 H1 u a b c d => g v h1 m1 H1 u rfl a b c d (h.mono a b)
  | ex c fs h' => exact fun m1 H1 d a b c e => h m1 H1 d σ a b c (rs.mono a b) e
  | bad => exact h

abbrev dm (X : Cx) (cl : Nat → Addr) : Dm := ⟨X.K, cl⟩
abbrev atW (W : WX) (σ : L2.St) : XK := fun c d H => W c d σ H
def PEm (cl : Nat → Addr) (X : Cx) (W : WX) (e : Expr) (f : SE) : Prop := Takes X W → ∃ t, PE X e t ∧ ∀ (m : List Addr) (h : AH) (H : Hp) (σ' : Sl) (σ : L2.St) (Q : VK),
  Rel (dm X cl) m h H → RelS (dm X cl) m H σ' σ → Post (dm X cl) m H (relV (dm X cl)) (f σ' h) Q (atW W σ) → t σ H Q
def PTm (cl : Nat → Addr) (X : Cx) (W : WX) (e : Expr) (f : SB) : Prop := Takes X W → ∃ t, PT X e t ∧ ∀ (m : List Addr) (h : AH) (H : Hp) (σ' : Sl) (σ : L2.St) (Q : Bool → Hp → Prop),
  Rel (dm X cl) m h H → RelS (dm X cl) m H σ' σ → Post (dm X cl) m H relB (f σ' h) Q (atW W σ) → t σ H Q
def PWm (cl : Nat → Addr) (X : Cx) (W : WX) (e : Expr) (f : SB) : Prop := Takes X W → ∃ t, PW X e t ∧ ∀ (m : List Addr) (h : AH) (H : Hp) (σ' : Sl) (σ : L2.St) (Q : Bool → Hp → Prop),
  Rel (dm X cl) m h H → RelS (dm X cl) m H σ' σ → Post (dm X cl) m H relB (f σ' h) Q (atW W σ) → t σ H Q
def PAm (cl : Nat → Addr) (X : Cx) (W : WX) (es : List Expr) (f : SA) : Prop := Takes X W → ∃ t, PA X es t ∧ ∀ (m : List Addr) (h : AH) (H : Hp) (σ' : Sl) (σ : L2.St) (Q : List V → Hp → Prop),
  Rel (dm X cl) m h H → RelS (dm X cl) m H σ' σ → Post (dm X cl) m H (relVs (dm X cl)) (f σ' h) Q (atW W σ) → t σ H Q
def PSm (cl : Nat → Addr) (X : Cx) (W : WX) (st : Stmt) (f : SS) : Prop := Takes X W → ∃ t, PS X st t ∧ ∀ (m : List Addr) (h : AH) (H : Hp) (σ' : Sl) (σ : L2.St) (Dn : Ends),
  Rel (dm X cl) m h H → RelS (dm X cl) m H σ' σ → PostS (dm X cl) m H (f σ' h) Dn W → t Dn σ H
def PSsm (cl : Nat → Addr) (X : Cx) (W : WX) (st : List Stmt) (f : SS) : Prop := Takes X W → ∃ t, PSs X st t ∧ ∀ (m : List Addr) (h : AH) (H : Hp) (σ' : Sl) (σ : L2.St) (Dn : Ends),
  Rel (dm X cl) m h H → RelS (dm X cl) m H σ' σ → PostS (dm X cl) m H (f σ' h) Dn W → t Dn σ H
/-- a target that stores into the slots js -/
def PGm (cl : Nat → Addr) (X : Cx) (tg : Expr) (g : SG) (js : List Nat) : Prop := ∃ t, PG X tg t ∧ ∀ (m : List Addr) (H : Hp) (σ' σ1 : Sl) (σ : L2.St) (v : AV) (u : V) (Q : L2.St → Hp → Prop),
  RelS (dm X cl) m H σ' σ → VR (dm X cl) m H v u → g v σ' = some σ1 → (∀ σ2 : L2.St, RelS (dm X cl) m H σ1 σ2 → σ2.length = σ.length → (∀ j, j ∉ js → σ2[j]? = σ[j]?) → Q σ2 H) → t u σ H Q
/-- what is walked: its iterator's answers -/
def SrcOk (D : Dm) (m : List Addr) (H : Hp) (s : Src) (J : It) : Prop := ∀ m' h' H' i, m <+: m' → Keep H H' → Rel D m' h' H' → match s.at i h' with
  | none => True
  | some none => J.stop i H'
  | some (some v) => J.go i H' ∧ ∀ x H'', J.yld i H' x H'' → Keep H' H'' ∧ Rel D m' h' H'' ∧ VR D m' H'' v x
def PIm (cl : Nat → Addr) (X : Cx) (W : WX) (tg it : Expr) (f : SI) : Prop := Takes X W → ∃ wi, PI X tg it wi ∧ ∀ (m : List Addr) (h : AH) (H : Hp) (σ' : Sl) (σ : L2.St) (Rk : It → Hp → Prop),
  Rel (dm X cl) m h H → RelS (dm X cl) m H σ' σ → Post (dm X cl) m H (fun m H s J => SrcOk (dm X cl) m H s J) (f σ' h) Rk (atW W σ) → wi σ H Rk
end Mi

namespace Mi
open PySem PySem.Spec PyProof.Rows L2
section
variable {cl : Nat → Addr} {X : Cx} {W : WX} {e a b c : Expr} {es : List Expr} {pos p : Pos} {x : Str}

theorem m_bad : PEm cl X W e sBad := fun _ => ⟨fun _ _ _ => False, ⟨fun _ _ _ _ _ _ h => h.elim⟩, fun _ _ _ _ _ _ _ _ h => h⟩
theorem m_var (i : Nat) (hN : X.N[i]? = some x := by rfl) (hv : Vis X.env.scope x := by first | exact Or.inl rfl | exact Or.inr (Or.inl rfl) | exact Or.inr (Or.inr rfl)) (hd : (x == ("__debug__" : Str)) = false := by decide)
    (hcd : (x == ("__classdict__" : Str)) = false := by decide) : PEm cl X W (.Name x pos) (sVar i) := fun _ => ⟨tVar i, pe_var hN hv hd hcd, fun m h H σ' σ Q r rs q => by
  unfold sVar at q
  split at q
  · rename_i v ev
    obtain ⟨u, e1, hu⟩ := rs.2 i v ev
    exact ⟨u, e1, q.now r hu⟩
  · exact q.elim⟩
theorem m_int {i : Int} {j : Nat} : PEm cl X W (.Constant (.int i) j pos) (sK (.int i)) := fun _ => ⟨_, pe_int, fun m h H σ' σ Q r rs q => q.now r rfl⟩
theorem m_bl {i : Bool} {j : Nat} : PEm cl X W (.Constant (.bool i) j pos) (sK (.bl i)) := fun _ => ⟨_, pe_bl, fun m h H σ' σ Q r rs q => q.now r rfl⟩
theorem m_non {j : Nat} : PEm cl X W (.Constant .none j pos) (sK .non) := fun _ => ⟨_, pe_non, fun m h H σ' σ Q r rs q => q.now r rfl⟩
theorem m_str {s : Str} {j : Nat} : PEm cl X W (.Constant (.str s) j pos) (sK (.str s)) := fun _ => ⟨_, pe_str, fun m h H σ' σ Q r rs q => q.now r rfl⟩
/-- a module's constant -/
theorem m_glob {v : AV} {y : V} {u : Value} (hg : Gl X x) (hm : X.mg x = some u) (r : RelV y u) (hv : ∀ m H, VR (dm X cl) m H v y) (hd : (x == ("__debug__" : Str)) = false := by decide) : PEm cl X W (.Name x pos) (sK v) :=
  fun _ => ⟨_, pe_glob hg hm r hd, fun m h H σ' σ Q rl rs q => q.now rl (hv m H)⟩

theorem m_nil : PAm cl X W [] aNil := fun _ => ⟨_, pa_nil, fun m h H σ' σ Q r rs q => q.now r (rel := relVs (dm X cl)) (v := []) rfl⟩
theorem m_cons {f : SE} {g : SA} (ha : PEm cl X W e f) (hr : PAm cl X W es g) (hs : starEach (e :: es) X.env = (false, eval e X.env) :: starEach es X.env := by rfl) : PAm cl X W (e :: es) (aCons f g) := fun tk => by
  obtain ⟨ta, h1, s1⟩ := ha tk
  obtain ⟨tr, h2, s2⟩ := hr tk
  refine ⟨_, pa_cons h1 h2 hs, fun m h H σ' σ Q r rs q => s1 m h H σ' σ _ r rs (Post.bind q fun v h1 m1 H1 u e1 p1 k1 r1 v1 q1 => ?_)⟩
  refine s2 m1 h1 H1 σ' σ _ r1 (rs.mono p1 k1) (Post.bind q1 fun vs h2 m2 H2 us e2 p2 k2 r2 v2 q2 => ?_)
  exact q2.now r2 (rel := relVs (dm X cl)) ⟨_, _, rfl, VR.mono p2 k2 _ _ v1, v2⟩
theorem seqOf_sq {D : Dm} {m : List Addr} {H : Hp} {h : AH} {v : AV} {u : V} {xs : List AV} (r : Rel D m h H) (hv : VR D m H v u) (e : seqOf v h = some xs) : ∃ p us, u = .ref p ∧ (SqL D.K H p us ∨ SqT D.K H p us) ∧ VRs D m H xs us := by
  cases v with
  | tup ys =>
    cases e
    obtain ⟨p, us, e1, h1, h2⟩ := hv
    exact ⟨p, us, e1, .inr h1, h2⟩
  | scr ns =>
    cases e
    obtain ⟨p, e1, h1⟩ := hv
    exact ⟨p, _, e1, .inl h1.sq, vrs_ints ns⟩
  | ref i =>
    obtain ⟨p, h1, h2⟩ := hv
    simp only [seqOf] at e
    split at e
    · rename_i ys hy
      cases e
      obtain ⟨us, h3, h4⟩ := r.ob i _ p hy h1
      exact ⟨p, us, h2, .inl (SqL.of h3), h4⟩
    · cases e
  | _ => cases e
theorem m_star {f : SE} {g : SA} {sp : Pos} (ha : PEm cl X W e f) (hr : PAm cl X W es g) (hs : starEach (.Starred e sp :: es) X.env = (true, eval e X.env) :: starEach es X.env := by rfl) : PAm cl X W (.Starred e sp :: es) (aStar f g) := fun tk => by
  obtain ⟨ta, h1, s1⟩ := ha tk
  obtain ⟨tr, h2, s2⟩ := hr tk
  refine ⟨_, StX.pa_star h1 h2 hs, fun m h H σ' σ Q r rs q => s1 m h H σ' σ _ r rs (Post.bind q fun v h1 m1 H1 u e1 p1 k1 r1 v1 q1 => ?_)⟩
  split at q1
  · rename_i xs hx
    obtain ⟨p, us, e2, hq, hv⟩ := seqOf_sq r1 v1 hx
    refine ⟨p, us, e2, hq.symm, s2 m1 h1 H1 σ' σ _ r1 (rs.mono p1 k1) (Post.bind q1 fun vs h2 m2 H2 ws e2 p2 k2 r2 v2 q2 => ?_)⟩
    exact q2.now r2 (rel := relVs (dm X cl)) (VRs.append (VRs.mono p2 k2 _ _ hv) v2)
  · exact q1.elim

abbrev R2s := L2.St → R2
def OpRs (X : Cx) (f : Value → Value → Sem Value) (r : R2s) : Prop :=
  ∀ (pins : List (Addr × Obj)) (s : Shared) (σ : L2.St) (H : Hp) (x y : V) (v u : Value) (Q : VK), Inv X pins σ H s → RelV x v → RelV y u → r σ x y H Q →
    wpAny (model X.prog X.w) X.A (f v u) (EP X pins σ Q) X.xe s
theorem OpRs.of {f : Value → Value → Sem Value} {r : R2} (h : OpR X f r) : OpRs X f (fun _ => r) := h
theorem OpRs.or {f : Value → Value → Sem Value} {r r' : R2s} (h : OpRs X f r) (h' : OpRs X f r') : OpRs X f (fun σ x y H Q => r σ x y H Q ∨ r' σ x y H Q) := fun pins s σ H x y v u Q I rx ry q =>
  q.elim (h pins s σ H x y v u Q I rx ry) (h' pins s σ H x y v u Q I rx ry)
def tOps (r : R2s) (ta tb : TE) : TE := fun σ H Q => ta σ H fun x H1 => tb σ H1 fun y H2 => r σ x y H2 Q
/-- an operator's shadow f: of any two related values -/
def BinOk (cl : Nat → Addr) (X : Cx) (W : WX) (g : Value → Value → Sem Value) (f : AV → AV → AH → R AV) : Prop := Takes X W → ∃ r : R2s, OpRs X g r ∧
  ∀ (m : List Addr) (h : AH) (H : Hp) (σ : L2.St) (x y : AV) (u v : V) (Q : VK), Rel (dm X cl) m h H → VR (dm X cl) m H x u → VR (dm X cl) m H y v → Post (dm X cl) m H (relV (dm X cl)) (f x y h) Q (atW W σ) → r σ u v H Q
theorem op2_post {D : Dm} {m : List Addr} {h : AH} {H : Hp} {σ' : Sl} {f : AV → AV → AH → R AV} {fa fb : SE} {Q : VK} {E : XK} (q : Post D m H (relV D) (op2 f fa fb σ' h) Q E) {Q1 : VK}
    (k : ∀ x h1 m1 H1 u, m <+: m1 → Keep H H1 → Rel D m1 h1 H1 → VR D m1 H1 x u → Post D m1 H1 (relV D) ((fb σ' h1).bind fun y h2 => f x y h2) Q E → Q1 u H1) : Post D m H (relV D) (fa σ' h) Q1 E :=
  Post.bind q fun x h1 m1 H1 u _ p1 k1 r1 v1 q1 => k x h1 m1 H1 u p1 k1 r1 v1 q1
theorem m_bin {op : Operator} {f : AV → AV → AH → R AV} {fa fb : SE} (ho : BinOk cl X W (binaryOp op) f) (ha : PEm cl X W a fa) (hb : PEm cl X W b fb) : PEm cl X W (.BinOp a op b pos) (op2 f fa fb) := fun tk => by
  obtain ⟨r, hr, sr⟩ := ho tk
  obtain ⟨ta, h1, s1⟩ := ha tk
  obtain ⟨tb, h2, s2⟩ := hb tk
  refine ⟨tOps r ta tb, ⟨fun pins s σ H Q I h => wpAny_BinOp (binT h1 h2 I h fun v u s2 x y H2 I2 rx ry q => hr pins s2 σ H2 x y v u Q I2 rx ry q)⟩, fun m h H σ' σ Q rl rs q => ?_⟩
  refine s1 m h H σ' σ _ rl rs (op2_post q fun x h1 m1 H1 u p1 k1 r1 v1 q1 => ?_)
  refine s2 m1 h1 H1 σ' σ _ r1 (rs.mono p1 k1) (Post.bind q1 fun y h2 m2 H2 v _ p2 k2 r2 v2 q2 => ?_)
  exact sr m2 h2 H2 σ x y u v Q r2 (VR.mono p2 k2 _ _ v1) v2 q2
theorem m_cmp {op : CmpOp} {f : AV → AV → AH → R AV} {fa fb : SE} (ho : BinOk cl X W (compareOp op) f) (ha : PEm cl X W a fa) (hb : PEm cl X W b fb) (hm : behindInMarks op b = false := by rfl) : PEm cl X W (.Compare a [op] [b] pos) (op2 f fa fb) := fun tk => by
  obtain ⟨r, hr, sr⟩ := ho tk
  obtain ⟨ta, h1, s1⟩ := ha tk
  obtain ⟨tb, h2, s2⟩ := hb tk
  refine ⟨tOps r ta tb, ⟨fun pins s σ H Q I h => wpAny_Compare1 (binT h1 h2 I h fun v u s2 x y H2 I2 rx ry q => hr pins s2 σ H2 x y v u Q I2 rx ry q) hm⟩, fun m h H σ' σ Q rl rs q => ?_⟩
  refine s1 m h H σ' σ _ rl rs (op2_post q fun x h1 m1 H1 u p1 k1 r1 v1 q1 => ?_)
  refine s2 m1 h1 H1 σ' σ _ r1 (rs.mono p1 k1) (Post.bind q1 fun y h2 m2 H2 v _ p2 k2 r2 v2 q2 => ?_)
  exact sr m2 h2 H2 σ x y u v Q r2 (VR.mono p2 k2 _ _ v1) v2 q2
/-- a comparison as a test -/
theorem mt_cmp {op : CmpOp} {f : AV → AV → AH → R AV} {fa fb : SE} (ho : BinOk cl X W (compareOp op) f) (ha : PEm cl X W a fa) (hb : PEm cl X W b fb) (hm : behindInMarks op b = false := by rfl) : PTm cl X W (.Compare a [op] [b] pos) (tBl (op2 f fa fb)) := fun tk => by
  obtain ⟨r, hr, sr⟩ := ho tk
  obtain ⟨ta, h1, s1⟩ := ha tk
  obtain ⟨tb, h2, s2⟩ := hb tk
  refine ⟨tTest (tOps r ta tb), ⟨fun pins s σ H Q I h => ?_⟩, fun m h H σ' σ Q rl rs q => ?_⟩
  · refine wpAny_isTrue_Compare1 (thn (h1.run pins s σ H _ I h) fun v s1 ⟨x, H1, I1, r1, q1⟩ => thn (h2.run pins s1 σ H1 _ I1 q1) fun u s2 ⟨y, H2, I2, r2, q2⟩ =>
      thn (hr pins s2 σ H2 x y v u _ I2 r1 r2 q2) fun c s3 ⟨z, H3, I3, r3, k, e, q3⟩ => ?_) hm
    subst e
    cases r3
    exact wpAny_truthy_bool ⟨H3, I3, q3⟩
  · unfold tBl at q
    have q' : Post (dm X cl) m H (relV (dm X cl)) (op2 f fa fb σ' h) (fun x H' => ∃ k, x = .bl k ∧ Q k H') (atW W σ) := Post.bind q fun v h1 m1 H1 u ev p1 k1 r1 v1 q1 => by
      cases v with
      | bl b => exact ⟨b, v1, q1.now r1 rfl⟩
      | _ => exact q1.elim
    refine s1 m h H σ' σ _ rl rs (op2_post q' fun x h1 m1 H1 u p1 k1 r1 v1 q1 => ?_)
    refine s2 m1 h1 H1 σ' σ _ r1 (rs.mono p1 k1) (Post.bind q1 fun y h2 m2 H2 v _ p2 k2 r2 v2 q2 => ?_)
    exact sr m2 h2 H2 σ x y u v _ r2 (VR.mono p2 k2 _ _ v1) v2 q2

theorem BinOk.bad {g : Value → Value → Sem Value} : BinOk cl X W g (fun _ _ _ => .bad) := fun _ => ⟨fun _ _ _ _ _ => False, fun _ _ _ _ _ _ _ _ _ _ _ _ h => h.elim, fun _ _ _ _ _ _ _ _ _ _ _ _ q => q⟩
section
variable {D : Dm} {m : List Addr} {H : Hp} {h : AH}
theorem vr_lst (r : Rel D m h H) {i : Nat} {xs : List AV} {u : V} (hv : VR D m H (.ref i) u) (e : h[i]? = some (.lst xs)) : ∃ p us, u = .ref p ∧ m[i]? = some p ∧ H p = some (.lst us) ∧ VRs D m H xs us := by
  obtain ⟨p, h1, h2⟩ := hv
  obtain ⟨us, h3, h4⟩ := r.ob i _ p e h1
  exact ⟨p, us, h2, h1, h3, h4⟩
theorem Rel.stays (r : Rel D m h H) {p : Addr} {o : HO} (n : H p = none) : ∀ a ∈ m, ∀ u, H a = some u → upd H p o a = some u := fun a ha u e => by rw [upd_ne (ne_of_none e n)]; exact e
/-- a new object at hand -/
theorem Post.fresh {o : AO} {Q : VK} {E : XK} {p : Addr} {q : HO} (r : Rel D m h H) (hq : Post D m H (relV D) (new o h) Q E) (n : H p = none) (ho : OR D (m ++ [p]) (upd H p q) p o) : Q (.ref p) (upd H p q) :=
  hq (m ++ [p]) (upd H p q) (.ref p) ⟨[p], rfl⟩ (Keep.new n) (r.push (r.free n) (Keep.new n) (r.stays n) ho) ⟨p, by rw [← r.len]; simp, rfl⟩
theorem Post.newLst {xs : List AV} {us : List V} {Q : VK} {E : XK} (r : Rel D m h H) (hx : VRs D m H xs us) (hq : Post D m H (relV D) (new (.lst xs) h) Q E) : ∀ p, H p = none → Q (.ref p) (upd H p (.lst us)) :=
  fun p n => Post.fresh r hq n ⟨us, upd_same, VRs.mono ⟨[p], rfl⟩ (Keep.new n) _ _ hx⟩
/-- a changed list -/
theorem Rel.lst (r : Rel D m h H) {i : Nat} {p : Addr} {us ws : List V} {ys : List AV} (e : m[i]? = some p) (hp : H p = some (.lst us)) (hw : VRs D m H ys ws) : Rel D m (h.set i (.lst ys)) (upd H p (.lst ws)) :=
  r.put e (Keep.chg hp trivial) (fun a na _ u z => by rw [upd_ne na]; exact z) ⟨ws, upd_same, VRs.mono (List.prefix_refl m) (Keep.chg hp trivial) _ _ hw⟩
end
theorem k_add : BinOk cl X W (binaryOp .Add) oAdd := fun _ => ⟨_, (OpRs.of op_add).or ((OpRs.of op_add_str).or (OpRs.of op_cat)), fun m h H σ x y u v Q r hx hy q => by
  unfold oAdd at q
  split at q
  · exact .inl ⟨_, _, hx, hy, q.now r rfl⟩
  · split at q
    · rename_i hl
      exact .inr (.inl ⟨_, _, hx, hy, hl, q.now r rfl⟩)
    · exact q.elim
  · split at q
    · rename_i xs ys e1 e2
      split at q
      · rename_i hl
        obtain ⟨p, us, e3, _, h3, h4⟩ := vr_lst r hx e1
        obtain ⟨p', us', e3', _, h3', h4'⟩ := vr_lst r hy e2
        exact .inr (.inr ⟨p, p', us, us', e3, e3', h3, h3', by rw [h4.length, h4'.length]; exact hl, Post.newLst r (h4.append h4') q⟩)
      · exact q.elim
    · exact q.elim
  · exact q.elim⟩
theorem k_mul : BinOk cl X W (binaryOp .Mult) oMul := fun _ => ⟨_, OpRs.of op_mul, fun m h H σ x y u v Q r hx hy q => by
  unfold oMul at q
  split at q
  · split at q
    · rename_i hl
      exact ⟨_, _, hx, hy, hl, q.now r rfl⟩
    · exact q.elim
  · exact q.elim⟩
theorem k_div : BinOk cl X W (binaryOp .FloorDiv) oDiv := fun _ => ⟨_, OpRs.of op_fdiv, fun m h H σ x y u v Q r hx hy q => by
  unfold oDiv at q
  split at q
  · split at q
    · rename_i hl
      exact ⟨_, _, hx, hy, hl, q.now r rfl⟩
    · exact q.elim
  · exact q.elim⟩
theorem k_mod : BinOk cl X W (binaryOp .Mod) oMod := fun _ => ⟨_, OpRs.of op_mod, fun m h H σ x y u v Q r hx hy q => by
  unfold oMod at q
  split at q
  · split at q
    · rename_i hl
      exact ⟨_, _, hx, hy, hl, q.now r rfl⟩
    · exact q.elim
  · exact q.elim⟩
theorem k_pow : BinOk cl X W (binaryOp .Pow) oPow := fun _ => ⟨_, OpRs.of op_pow, fun m h H σ x y u v Q r hx hy q => by
  unfold oPow at q
  split at q
  · split at q
    · rename_i hl
      exact ⟨_, _, hx, hy, hl, q.now r rfl⟩
    · exact q.elim
  · exact q.elim⟩
theorem k_lt : BinOk cl X W (compareOp .Lt) oLt := fun _ => ⟨_, OpRs.of op_lt, fun m h H σ x y u v Q r hx hy q => by
  unfold oLt at q
  split at q
  · exact ⟨_, _, hx, hy, q.now r rfl⟩
  · exact q.elim⟩
theorem k_gt : BinOk cl X W (compareOp .Gt) oGt := fun _ => ⟨_, OpRs.of op_gt, fun m h H σ x y u v Q r hx hy q => by
  unfold oGt at q
  split at q
  · exact ⟨_, _, hx, hy, q.now r rfl⟩
  · exact q.elim⟩
theorem k_ge : BinOk cl X W (compareOp .GtE) oGe := fun _ => ⟨_, OpRs.of op_ge, fun m h H σ x y u v Q r hx hy q => by
  unfold oGe at q
  split at q
  · exact ⟨_, _, hx, hy, q.now r rfl⟩
  · exact q.elim⟩
theorem vr_nn {D : Dm} {m : List Addr} {H : Hp} {v : AV} {u : V} (hv : VR D m H v u) (h : v ≠ .non) : u ≠ .non := by
  cases v with
  | non => exact (h rfl).elim
  | bl _ => rw [show u = _ from hv]; exact fun z => nomatch z
  | int _ => rw [show u = _ from hv]; exact fun z => nomatch z
  | str _ => rw [show u = _ from hv]; exact fun z => nomatch z
  | ref _ => obtain ⟨_, _, e⟩ := hv; rw [e]; exact fun z => nomatch z
  | scr _ => obtain ⟨_, e, _⟩ := hv; rw [e]; exact fun z => nomatch z
  | tup _ => obtain ⟨_, _, e, _⟩ := hv; rw [e]; exact fun z => nomatch z
/-- x is None, x is not None -/
def oIs (x y : AV) (h : AH) : R AV := match y with
  | .non => oIsN x h
  | _ => .bad
def oIsNot (x y : AV) (h : AH) : R AV := match y with
  | .non => oNotN x h
  | _ => .bad
theorem k_is : BinOk cl X W (compareOp .Is) oIs := fun _ => ⟨_, OpRs.of op_isN, fun m h H σ x y u v Q r hx hy q => by
  unfold oIs at q
  split at q
  · refine ⟨hy, ?_⟩
    unfold oIsN at q
    split at q
    · rw [show u = .non from hx]; exact q.now r rfl
    · rename_i hn
      have z := vr_nn hx hn
      rw [decide_eq_false z]; exact q.now r rfl
  · exact q.elim⟩
theorem k_isnot : BinOk cl X W (compareOp .IsNot) oIsNot := fun _ => ⟨_, OpRs.of op_notN, fun m h H σ x y u v Q r hx hy q => by
  unfold oIsNot at q
  split at q
  · refine ⟨hy, ?_⟩
    unfold oNotN at q
    split at q
    · rw [show u = .non from hx]; exact q.now r rfl
    · rename_i hn
      have z := vr_nn hx hn
      rw [decide_eq_false z]; exact q.now r rfl
  · exact q.elim⟩
end
end Mi

namespace Mi
open PySem PySem.Spec PyProof.Rows L2

theorem dat_dp {D : Dm} {m : List Addr} {H : Hp} {h : AH} (r : Rel D m h H) : ∀ (n : Nat) (v : AV) (u : V) (d : PyData), dat n h v = some d → VR D m H v u → Dp D.K H u d
  | 0, _, _, _, e, _ => by cases e
  | n + 1, v, u, d, e, hv => by
    have all : ∀ (xs : List AV) (us : List V) (ds : List PyData), omap (dat n h) xs = some ds → VRs D m H xs us → DpAll D.K H us ds := by
      intro xs
      induction xs with
      | nil => intro us ds e hv; cases e; rw [show us = [] from hv]; exact .nil
      | cons x xs ih =>
        intro us ds e hv
        obtain ⟨u, r', eu, h1, h2⟩ := hv
        subst eu
        simp only [omap] at e
        split at e
        · cases e
        · rename_i y hy
          split at e
          · cases e
          · rename_i ys hys
            cases e
            exact .cons (dat_dp r n x u y hy h1) (ih _ _ hys h2)
    cases v with
    | non => cases e; rw [show u = _ from hv]; exact .non
    | bl b => cases e; rw [show u = _ from hv]; exact .bl b
    | int b => cases e; rw [show u = _ from hv]; exact .int b
    | str b => cases e; rw [show u = _ from hv]; exact .str b
    | tup xs =>
      obtain ⟨p, us, e1, h1, h2⟩ := hv
      subst e1
      simp only [dat, Option.map_eq_some_iff] at e
      obtain ⟨ds, e2, rfl⟩ := e
      exact .tup h1 (all _ _ _ e2 h2)
    | scr ns =>
      cases e
      obtain ⟨p, e1, h1⟩ := hv
      subst e1
      refine .lst h1.sq ?_
      clear h1
      induction ns with
      | nil => exact .nil
      | cons k ks ih => exact .cons (.int k) ih
    | ref i =>
      simp only [dat] at e
      split at e
      · rename_i xs hx
        obtain ⟨p, us, e1, _, h1, h2⟩ := vr_lst r hv hx
        subst e1
        rw [Option.map_eq_some_iff] at e
        obtain ⟨ds, e2, rfl⟩ := e
        exact .lst (SqL.of h1) (all _ _ _ e2 h2)
      · cases e
section
variable {cl : Nat → Addr} {X : Cx} {W : WX} {C : CE} {k : Nat} {e a b c : Expr} {es : List Expr} {pos p apos : Pos} {x : Str}

theorem eqD_of {D : Dm} {m : List Addr} {H : Hp} {h : AH} {x y : AV} {u v : V} {b : Bool} (r : Rel D m h H) (hx : VR D m H x u) (hy : VR D m H y v) (e : eqD x y h = some b) :
    ∃ d e, Dp D.K H u d ∧ Dp D.K H v e ∧ SeqAt.shaped d = true ∧ SeqAt.shaped e = true ∧ b = PyData.eqv d e := by
  unfold eqD at e
  split at e
  · rename_i d1 d2 h1 h2
    split at e
    · rename_i hs
      cases e
      exact ⟨d1, d2, dat_dp r 9 _ _ _ h1 hx, dat_dp r 9 _ _ _ h2 hy, hs.1, hs.2, rfl⟩
    · cases e
  · cases e

/-- a def's promise: what its shadow g does -/
def spF (cl : Nat → Addr) (K : PySem.W.Frag) (g : List AV → AH → R AV) : Sp := fun vs H Q E => ∃ (m : List Addr) (h : AH) (as : List AV),
  Rel ⟨K, cl⟩ m h H ∧ VRs ⟨K, cl⟩ m H as vs ∧ Post ⟨K, cl⟩ m H (relV ⟨K, cl⟩) (g as h) Q E
abbrev FnM (cl : Nat → Addr) (X : Cx) (k : Nat) (f : Addr) (g : List AV → AH → R AV) : Prop := FnR X.prog X.w X.K X.mg X.base (L2.CX X.prog X.w) k f (spF cl X.K g)
/-- the callee runs, what it raises is taken at the slots -/
theorem run_fnRs {pins : List (Addr × Obj)} {σ : L2.St} {H : Hp} {s : Shared} {k : Nat} {f : Addr} {sp : Sp} {Q : VK} {us : List Value} {vs : List V} (F : FnR X.prog X.w X.K X.mg X.base (L2.CX X.prog X.w) k f sp) (hr : Room k X.A) (tk : Takes X W) (I : Inv X pins σ H s) (r : Vals vs us) (h : sp vs H Q (atW W σ)) :
    codeAny (model X.prog X.w) X.A (.call (.ref f) ⟨us, []⟩) (fun r s' => match r with | .ok (.ret v) => EP X pins σ Q v s' | .ok _ => False | .error e => X.xe e s') s := by
  refine codeAny_mono (F X.A X.stack s H us vs Q (atW W σ) hr I.env0 r h) fun r s' hq => ?_
  cases r with
  | error e => exact passAt tk σ pins H s e s' I hq
  | ok fl =>
    cases fl with
    | ret u => exact I.after hq
    | next => exact False.elim hq
    | brk => exact False.elim hq
    | cont => exact False.elim hq
theorem m_call {f : Addr} {i : Nat} {fa : SA} (F : FnM cl X k f (C.call i)) (hr : Room k X.A) (hg : Gl X x) (hm : X.mg x = some (.ref f)) (hk : PySem.W.keepIn X.K (.ref f) = true) (ha : PAm cl X W (e :: es) fa)
    (hdb : (x == ("__debug__" : Str)) = false := by decide) (he : starEach (e :: es) X.env = (false, eval e X.env) :: starEach es X.env := by rfl) (hpl : (backTo pos (starEach es X.env)).any (·.1) = false := by rfl) :
    PEm cl X W (.Call (.Name x p) (e :: es) [] pos) (sCall C i fa) := fun tk => by
  obtain ⟨ta, h1, s1⟩ := ha tk
  refine ⟨fun σ H Q => ta σ H fun vs H1 => spF cl X.K (C.call i) vs H1 Q (atW W σ), ⟨fun pins s σ H Q I h => ?_⟩, fun m h H σ' σ Q r rs q => ?_⟩
  · refine wpAny_Call_Name_kw (ld_glob I hg hm ?_ hdb)
    refine PySem.W.callWith_K (h₀ := X.base) I.ok.mod.kin hk (thn (h1.run pos pins s σ H _ I h) fun us s1 ⟨vs, H1, I1, r, q⟩ => ⟨I1.kIn, ?_⟩) he hpl
    exact wpAny_call (run_fnRs F hr tk I1 r q)
  · exact s1 m h H σ' σ _ r rs (Post.bind q fun vs h1 m1 H1 us _ p1 k1 r1 v1 q1 => ⟨m1, h1, vs, r1, v1, q1⟩)
theorem m_call0 {f : Addr} {i : Nat} (F : FnM cl X k f (C.call i)) (hr : Room k X.A) (hg : Gl X x) (hm : X.mg x = some (.ref f)) (hk : PySem.W.keepIn X.K (.ref f) = true)
    (hdb : (x == ("__debug__" : Str)) = false := by decide) : PEm cl X W (.Call (.Name x p) [] [] pos) (sCall C i aNil) := fun tk => by
  refine ⟨fun σ H Q => spF cl X.K (C.call i) [] H Q (atW W σ), ⟨fun pins s σ H Q I h => ?_⟩, fun m h H σ' σ Q r rs q => ?_⟩
  · refine wpAny_Call_Name_kw (ld_glob I hg hm ?_ hdb)
    exact PySem.W.callWith_K0 I.kIn hk (wpAny_call (run_fnRs (us := []) (vs := []) F hr tk I .nil h))
  · exact ⟨m, h, [], r, rfl, q⟩
/-- f( *y) -/
theorem m_callS1 {f : Addr} {i : Nat} {fe : SE} {sp_ : Pos} (F : FnM cl X k f (C.call i)) (hr : Room k X.A) (hg : Gl X x) (hm : X.mg x = some (.ref f)) (hk : PySem.W.keepIn X.K (.ref f) = true) (ha : PEm cl X W e fe)
    (hdb : (x == ("__debug__" : Str)) = false := by decide) (hst : starEach [.Starred e sp_] X.env = [(true, eval e X.env)] := by rfl) :
    PEm cl X W (.Call (.Name x p) [.Starred e sp_] [] pos) (sCall C i (aStar fe aNil)) := fun tk => by
  obtain ⟨ta, h1, s1⟩ := ha tk
  refine ⟨fun σ H Q => ta σ H fun y H1 => ∃ a xs, y = V.ref a ∧ (SqT X.K H1 a xs ∨ SqL X.K H1 a xs) ∧ spF cl X.K (C.call i) xs H1 Q (atW W σ), ⟨fun pins s σ H Q I h => ?_⟩, fun m h H σ' σ Q r rs q => ?_⟩
  · refine wpAny_Call_Name_kw (ld_glob I hg hm ?_ hdb)
    refine PySem.W.callWith_S (h₀ := X.base) I.ok.mod.kin hk (thn (h1.run pins s σ H _ I h) fun v s1 ⟨y, H1, I1, ry, a, xs, ey, hxs, q⟩ => ?_) hst
    subst ey
    obtain rfl : v = Value.ref a := ry
    exact StX.star_any I1 hxs fun us s2 I2 rv => ⟨I2.kIn, wpAny_call (run_fnRs F hr tk I2 rv q)⟩
  · refine s1 m h H σ' σ _ r rs ?_
    unfold sCall opN aStar at q
    cases hf : fe σ' h with
    | ok v h1 =>
      rw [hf] at q
      simp only [bind_ok] at q
      intro m1 H1 u p1 k1 r1 v1
      have q1 := Post.mono p1 k1 q
      split at q1
      · rename_i xs hx
        simp only [aNil, bind_ok, List.append_nil] at q1
        obtain ⟨p, us, e2, hq, hv⟩ := seqOf_sq r1 v1 hx
        exact ⟨p, us, e2, hq.symm, m1, h1, xs, r1, hv, q1⟩
      · exact q1.elim
    | ex c fs h1 => rw [hf] at q; exact q
    | bad => rw [hf] at q; exact q

/-- what stands behind C() ahead of __init__ -/
theorem Rel.ins {D : Dm} {m : List Addr} {h : AH} {H : Hp} (r : Rel D m h H) {c : Nat} {x dx : Addr} (nx : H x = none) (ndx : H dx = none) (ne : dx ≠ x) :
    m <+: m ++ [x] ∧ Keep H (upd (upd H dx (.own x)) x (.ins (D.cls c) dx [])) ∧ Rel D (m ++ [x]) (h ++ [.ins c []]) (upd (upd H dx (.own x)) x (.ins (D.cls c) dx [])) := by
  have n2 : upd H dx (.own x) x = none := by rw [upd_ne (Ne.symm ne)]; exact nx
  have k : Keep H (upd (upd H dx (.own x)) x (.ins (D.cls c) dx [])) := (Keep.new ndx).trans (Keep.new n2)
  refine ⟨⟨[x], rfl⟩, k, r.push (r.free nx) k (fun a ha u e => ?_) ⟨dx, [], upd_same, rfl⟩⟩
  rw [upd_ne (ne_of_none e nx), upd_ne (ne_of_none e ndx)]
  exact e
theorem mk_post {cl : Nat → Addr} {K : PySem.W.Frag} {m : List Addr} {h : AH} {H : Hp} {c i : Nat} {vs : List AV} {us : List V} {Q : VK} {E : XK} (r : Rel ⟨K, cl⟩ m h H) (hv : VRs ⟨K, cl⟩ m H vs us)
    (q : Post ⟨K, cl⟩ m H (relV ⟨K, cl⟩) (match C.mak i (.ref h.length :: vs) (h ++ [.ins c []]) with
      | .ok .non h1 => .ok (.ref h.length) h1
      | .ex c fs h1 => .ex c fs h1
      | _ => .bad) Q E) : ∀ x dx, H x = none → H dx = none → dx ≠ x → spF cl K (C.mak i) (V.ref x :: us) (upd (upd H dx (.own x)) x (.ins (cl c) dx [])) (fun v H2 => v = .non ∧ Q (.ref x) H2) E := by
  intro x dx nx ndx ne
  obtain ⟨p1, k1, r1⟩ := Rel.ins (c := c) r nx ndx ne
  have hx : (m ++ [x])[h.length]? = some x := by rw [← r.len]; simp
  refine ⟨m ++ [x], h ++ [.ins c []], .ref h.length :: vs, r1, ⟨_, us, rfl, ⟨x, hx, rfl⟩, VRs.mono p1 k1 _ _ hv⟩, ?_⟩
  split at q
  · rename_i h1 e1
    rw [e1]
    exact fun m' H' u a b c d => ⟨d, q m' H' (.ref x) (p1.trans a) (k1.trans b) c ⟨x, pre_get a hx, rfl⟩⟩
  · rename_i c' fs h1 e1
    rw [e1]
    exact fun m' H' u a b c d => q m' H' u (p1.trans a) (k1.trans b) c d
  · exact q.elim
theorem run_mk {pins : List (Addr × Obj)} {σ : L2.St} {H : Hp} {s : Shared} {Q : VK} {us : List Value} {vs : List V} {Ca f : Addr} {sp : Sp} (M : Mk X.K Ca f) (F : FnR X.prog X.w X.K X.mg X.base (L2.CX X.prog X.w) k f sp) (hr : Room (k + 1) X.A) (tk : Takes X W) (I : Inv X pins σ H s) (r : Vals vs us)
    (h : ∀ x dx, H x = Option.none → H dx = Option.none → dx ≠ x → sp (V.ref x :: vs) (upd (upd H dx (.own x)) x (.ins Ca dx [])) (fun v H2 => v = .non ∧ Q (.ref x) H2) (atW W σ)) :
    wpAny (model X.prog X.w) X.A (call (.ref Ca) us) (EP X pins σ Q) X.xe s := by
  have hq := h (s.heap.objs.size + 1) s.heap.objs.size (I.hok.fresh (Nat.le_succ _)) (I.hok.fresh (Nat.le_refl _)) (Nat.ne_of_lt (Nat.lt_succ_self _))
  have I2 := Inv.made (C := Ca) I
  have r2 : Vals (V.ref (s.heap.objs.size + 1) :: vs) (Value.ref (s.heap.objs.size + 1) :: us) := .cons rfl r
  refine wpAny_call (make_map (f := f) I.kIn M.makes M.init (beq_iff_eq.mp M.fn) (codeAny_mono (F _ X.stack _ _ (Value.ref (s.heap.objs.size + 1) :: us) _ _ (atW W σ) (hr.make Ca us []) (I2.env0.make Ca us []) r2 hq) fun r s' hq' => ?_))
  cases r with
  | error e => exact passAt tk σ pins _ _ e s' I2 hq'
  | ok fl =>
    cases fl with
    | ret u =>
      obtain ⟨v, H', I3, rv, ev, q3⟩ := I2.after hq'
      subst ev
      exact ⟨rv, ⟨V.ref (s.heap.objs.size + 1), H', I3, rfl, q3⟩⟩
    | next => exact False.elim hq'
    | brk => exact False.elim hq'
    | cont => exact False.elim hq'
theorem m_mk {f : Addr} {i c : Nat} {fa : SA} (M : Mk X.K (cl c) f) (F : FnM cl X k f (C.mak i)) (hr : Room (k + 1) X.A) (hg : Gl X x) (hm : X.mg x = some (.ref (cl c))) (ha : PAm cl X W (e :: es) fa)
    (hdb : (x == ("__debug__" : Str)) = false := by decide) (he : starEach (e :: es) X.env = (false, eval e X.env) :: starEach es X.env := by rfl) (hpl : (backTo pos (starEach es X.env)).any (·.1) = false := by rfl) :
    PEm cl X W (.Call (.Name x p) (e :: es) [] pos) (sMk C c i fa) := fun tk => by
  obtain ⟨ta, h1, s1⟩ := ha tk
  refine ⟨fun σ H Q => ta σ H fun vs H1 => ∀ x dx, H1 x = none → H1 dx = none → dx ≠ x → spF cl X.K (C.mak i) (V.ref x :: vs) (upd (upd H1 dx (.own x)) x (.ins (cl c) dx [])) (fun v H2 => v = .non ∧ Q (.ref x) H2) (atW W σ), ⟨fun pins s σ H Q I h => ?_⟩, fun m h H σ' σ Q r rs q => ?_⟩
  · refine wpAny_Call_Name_kw (ld_glob I hg hm ?_ hdb)
    refine PySem.W.callWith_K (h₀ := X.base) I.ok.mod.kin M.kp (thn (h1.run pos pins s σ H _ I h) fun us s1 ⟨vs, H1, I1, r, q⟩ => ⟨I1.kIn, ?_⟩) he hpl
    exact run_mk M F hr tk I1 r q
  · exact s1 m h H σ' σ _ r rs (Post.bind q fun vs h1 m1 H1 us _ p1 k1 r1 v1 q1 => mk_post r1 v1 q1)
theorem m_mk0 {f : Addr} {i c : Nat} (M : Mk X.K (cl c) f) (F : FnM cl X k f (C.mak i)) (hr : Room (k + 1) X.A) (hg : Gl X x) (hm : X.mg x = some (.ref (cl c)))
    (hdb : (x == ("__debug__" : Str)) = false := by decide) : PEm cl X W (.Call (.Name x p) [] [] pos) (sMk C c i aNil) := fun tk => by
  refine ⟨fun σ H Q => ∀ x dx, H x = none → H dx = none → dx ≠ x → spF cl X.K (C.mak i) [V.ref x] (upd (upd H dx (.own x)) x (.ins (cl c) dx [])) (fun v H2 => v = .non ∧ Q (.ref x) H2) (atW W σ), ⟨fun pins s σ H Q I h => ?_⟩, fun m h H σ' σ Q r rs q => ?_⟩
  · refine wpAny_Call_Name_kw (ld_glob I hg hm ?_ hdb)
    exact PySem.W.callWith_K0 I.kIn M.kp (run_mk (us := []) (vs := []) M F hr tk I .nil h)
  · exact mk_post (vs := []) (us := []) r rfl q
/-- C( *y) -/
theorem m_mkS1 {f : Addr} {i c : Nat} {fe : SE} {sp_ : Pos} (M : Mk X.K (cl c) f) (F : FnM cl X k f (C.mak i)) (hr : Room (k + 1) X.A) (hg : Gl X x) (hm : X.mg x = some (.ref (cl c))) (ha : PEm cl X W e fe)
    (hdb : (x == ("__debug__" : Str)) = false := by decide) (hst : starEach [.Starred e sp_] X.env = [(true, eval e X.env)] := by rfl) :
    PEm cl X W (.Call (.Name x p) [.Starred e sp_] [] pos) (sMk C c i (aStar fe aNil)) := fun tk => by
  obtain ⟨ta, h1, s1⟩ := ha tk
  refine ⟨fun σ H Q => ta σ H fun y H1 => ∃ a xs, y = V.ref a ∧ (SqT X.K H1 a xs ∨ SqL X.K H1 a xs) ∧ ∀ x dx, H1 x = none → H1 dx = none → dx ≠ x → spF cl X.K (C.mak i) (V.ref x :: xs) (upd (upd H1 dx (.own x)) x (.ins (cl c) dx [])) (fun v H2 => v = .non ∧ Q (.ref x) H2) (atW W σ),
    ⟨fun pins s σ H Q I h => ?_⟩, fun m h H σ' σ Q r rs q => ?_⟩
  · refine wpAny_Call_Name_kw (ld_glob I hg hm ?_ hdb)
    refine PySem.W.callWith_S (h₀ := X.base) I.ok.mod.kin M.kp (thn (h1.run pins s σ H _ I h) fun v s1 ⟨y, H1, I1, ry, a, xs, ey, hxs, q⟩ => ?_) hst
    subst ey
    obtain rfl : v = Value.ref a := ry
    exact StX.star_any I1 hxs fun us s2 I2 rv => ⟨I2.kIn, run_mk M F hr tk I2 rv q⟩
  · refine s1 m h H σ' σ _ r rs ?_
    unfold sMk opN aStar at q
    cases hf : fe σ' h with
    | ok v h1 =>
      rw [hf] at q
      simp only [bind_ok] at q
      intro m1 H1 u p1 k1 r1 v1
      have q1 := Post.mono p1 k1 q
      split at q1
      · rename_i xs hx
        simp only [aNil, bind_ok, List.append_nil] at q1
        obtain ⟨p, us, e2, hq, hv⟩ := seqOf_sq r1 v1 hx
        exact ⟨p, us, e2, hq.symm, mk_post r1 hv q1⟩
      · exact q1.elim
    | ex c fs h1 => rw [hf] at q; exact q
    | bad => rw [hf] at q; exact q
end
end Mi

namespace Mi
open PySem PySem.Spec PyProof.Rows L2
/-- the class c has for the operator d the def number i, under the name nm -/
structure DunF (cl : Nat → Addr) (X : Cx) (k : Nat) (C : CE) (nm : Str) (c i : Nat) (f : Addr) : Prop where
  at_ : PySem.W.findIn X.K (.ref (cl c)) nm = some (some (.ref f))
  fn : PySem.W.isFn X.K (.ref f) = true
  run : FnM cl X k f (C.call i)
def DunT (cl : Nat → Addr) (X : Cx) (k : Nat) (C : CE) (d : Dn) (nm : Str) : Prop := ∀ c i, C.dn c d = some i → (∃ f, DunF cl X k C nm c i f) ∧ PySem.W.selfFirst X.K (cl c) = true ∧ PySem.W.noSeq X.K (cl c) = true
theorem DunT.none {cl : Nat → Addr} {X : Cx} {k : Nat} {C : CE} {d : Dn} {nm : Str} (h : ∀ c, C.dn c d = none) : DunT cl X k C d nm := fun c i e => by rw [h c] at e; cases e
section
variable {cl : Nat → Addr} {X : Cx} {W : WX} {C : CE} {k : Nat}
theorem cls_get {D : Dm} {m : List Addr} {H : Hp} {h : AH} {x : AV} {u : V} {c : Nat} {fs : Fs} (r : Rel D m h H) (hx : VR D m H x u) (e : cls? x h = some (c, fs)) : ∃ a dx gs, u = .ref a ∧ H a = some (.ins (D.cls c) dx gs) ∧ KVR D m H fs gs ∧ ∃ i, x = .ref i ∧ m[i]? = some a ∧ h[i]? = some (.ins c fs) := by
  cases x with
  | ref i =>
    simp only [cls?] at e
    split at e
    · rename_i c' fs' hi
      cases e
      obtain ⟨a, h1, h2⟩ := hx
      obtain ⟨dx, gs, h3, h4⟩ := r.ob i _ a hi h1
      exact ⟨a, dx, gs, h2, h3, h4, i, rfl, h1, hi⟩
    · cases e
  | _ => cases e
/-- x op y of two instances of one class -/
def rDun (cl : Nat → Addr) (X : Cx) (W : WX) (C : CE) (d : Dn) (g : V → VK → VK) : R2s := fun σ x y H Q => ∃ (c i : Nat) (a b dx dy : Addr) (fs gs : List (Str × V)), C.dn c d = some i ∧ x = .ref a ∧ y = .ref b ∧ H a = some (.ins (cl c) dx fs) ∧ H b = some (.ins (cl c) dy gs) ∧
  spF cl X.K (C.call i) [x, y] H (fun v H' => g v Q v H') (atW W σ)
theorem inst_at {pins : List (Addr × Obj)} {σ : L2.St} {H : Hp} {s : Shared} {a Ca dx : Addr} {fs : List (Str × V)} (I : Inv X pins σ H s) (h : H a = some (.ins Ca dx fs)) : ∃ ox od, PySem.W.InstAt s.heap a ox Ca od := by
  obtain ⟨mA, O, _⟩ := ins_get I.hok h
  obtain ⟨od, J, _⟩ := O.look
  exact ⟨_, _, J⟩
theorem run_call {pins : List (Addr × Obj)} {σ : L2.St} {H : Hp} {s : Shared} {f : Addr} {sp : Sp} {Q : VK} {us : List Value} {vs : List V} (F : FnR X.prog X.w X.K X.mg X.base (L2.CX X.prog X.w) k f sp) (hr : Room k X.A) (tk : Takes X W) (I : Inv X pins σ H s) (r : Vals vs us) (h : sp vs H Q (atW W σ)) :
    wpAny (model X.prog X.w) X.A (call (.ref f) us) (EP X pins σ Q) X.xe s := wpAny_call (run_fnRs F hr tk I r h)
abbrev gId : V → VK → VK := fun _ Q => Q
theorem bin_dun {op : Operator} {d : Dn} {nm : Str} (T : DunT cl X k C d nm) (hn : PySem.dunder op.info.2 = nm) (hr : Room k X.A) (tk : Takes X W) : OpRs X (binaryOp op) (rDun cl X W C d gId) := by
  intro pins s σ H x y v u Q I rx ry h
  obtain ⟨c, i, a, b, dx, dy, fs, gs, e, rfl, rfl, ha, hb, q⟩ := h
  cases (show v = Value.ref a from rx)
  cases (show u = Value.ref b from ry)
  obtain ⟨⟨f, F⟩, hs, _⟩ := T c i e
  obtain ⟨ox, od, J⟩ := inst_at I ha
  obtain ⟨ox', od', J'⟩ := inst_at I hb
  obtain ⟨m, hF⟩ := I.fr
  refine PySem.W.binop_K hF I.ok.mod.kin J J'.type hs (by rw [hn]; exact F.at_) F.fn ?_
  refine wpAny_mono (run_call (us := [.ref a, .ref b]) (vs := [.ref a, .ref b]) F.run hr tk I (.cons rfl (.cons rfl .nil)) q) (fun w s' z => ?_) fun _ _ x => x
  obtain ⟨z', H', I', rz, qz⟩ := z
  exact SlX.cmpback rz ⟨z', H', I', rz, qz⟩
theorem inp_dun {op : Operator} {d : Dn} {nm : Str} (T : DunT cl X k C d nm) (hn : dunderI op.info.2 = nm) (hr : Room k X.A) (tk : Takes X W) : OpRs X (inplaceOp op) (rDun cl X W C d gId) := by
  intro pins s σ H x y v u Q I rx ry h
  obtain ⟨c, i, a, b, dx, dy, fs, gs, e, rfl, rfl, ha, hb, q⟩ := h
  cases (show v = Value.ref a from rx)
  cases (show u = Value.ref b from ry)
  obtain ⟨⟨f, F⟩, hs, _⟩ := T c i e
  obtain ⟨ox, od, J⟩ := inst_at I ha
  obtain ⟨m, hF⟩ := I.fr
  refine PySem.W.ksp_inplace hF I.ok.mod.kin J hs (by rw [hn]; exact F.at_) F.fn ?_
  refine wpAny_mono (run_call (us := [.ref a, .ref b]) (vs := [.ref a, .ref b]) F.run hr tk I (.cons rfl (.cons rfl .nil)) q) (fun w s' z => ?_) fun _ _ x => x
  obtain ⟨z', H', I', rz, qz⟩ := z
  exact SlX.cmpback rz ⟨z', H', I', rz, qz⟩
theorem cmp_dun {op : CmpOp} {d : Dn} {nm : Str} (T : DunT cl X k C d nm) (hop : ∀ a b, compareOp op a b = richCompare op a b) (hn : (cmpInfo op).2.1 = nm) (hr : Room k X.A) (tk : Takes X W) : OpRs X (compareOp op) (rDun cl X W C d gId) := by
  intro pins s σ H x y v u Q I rx ry h
  obtain ⟨c, i, a, b, dx, dy, fs, gs, e, rfl, rfl, ha, hb, q⟩ := h
  cases (show v = Value.ref a from rx)
  cases (show u = Value.ref b from ry)
  obtain ⟨⟨f, F⟩, hs, _⟩ := T c i e
  obtain ⟨ox, od, J⟩ := inst_at I ha
  obtain ⟨ox', od', J'⟩ := inst_at I hb
  obtain ⟨m, hF⟩ := I.fr
  rw [hop]
  refine PySem.W.cmp_K (op := op) (tb := .ref (cl c)) hr.units0 hF I.ok.mod.kin J J'.type (by unfold PySem.W.notFirst; simp) (by rw [hn]; exact F.at_) F.fn ?_
  refine wpAny_mono (run_call (us := [.ref a, .ref b]) (vs := [.ref a, .ref b]) F.run hr tk I (.cons rfl (.cons rfl .nil)) q) (fun w s' z => ?_) fun _ _ x => x
  obtain ⟨z', H', I', rz, qz⟩ := z
  exact SlX.cmpback rz ⟨z', H', I', rz, qz⟩
/-- from the shadow dun to the promise -/
theorem dun_post {d : Dn} {m : List Addr} {h : AH} {H : Hp} {σ : L2.St} {x y : AV} {u v : V} {Q : VK} (r : Rel (dm X cl) m h H) (hx : VR (dm X cl) m H x u) (hy : VR (dm X cl) m H y v)
    (q : Post (dm X cl) m H (relV (dm X cl)) (dun C d x y h) Q (atW W σ)) : rDun cl X W C d gId σ u v H Q := by
  unfold dun at q
  split at q
  · rename_i c fs c' fs' h1 h2
    split at q
    · rename_i hc
      subst hc
      split at q
      · rename_i i e
        obtain ⟨a, dx, gs, rfl, h3, h4, _⟩ := cls_get r hx h1
        obtain ⟨b, dy, gs', rfl, h3', h4', _⟩ := cls_get r hy h2
        exact ⟨c, i, a, b, dx, dy, gs, gs', e, rfl, rfl, h3, h3', m, h, [x, y], r, ⟨_, _, rfl, hx, _, _, rfl, hy, rfl⟩, q⟩
      · exact q.elim
    · exact q.elim
  · exact q.elim
theorem k_or (T : DunT cl X k C .or "__or__") (hr : Room k X.A) : BinOk cl X W (binaryOp .BitOr) (oOr C) := fun tk => ⟨_, bin_dun T (by rfl) hr tk, fun m h H σ x y u v Q r hx hy q => dun_post r hx hy q⟩
theorem k_and (T : DunT cl X k C .and "__and__") (hr : Room k X.A) : BinOk cl X W (binaryOp .BitAnd) (oAnd C) := fun tk => ⟨_, bin_dun T (by rfl) hr tk, fun m h H σ x y u v Q r hx hy q => dun_post r hx hy q⟩
theorem k_ior (T : DunT cl X k C .ior "__ior__") (hr : Room k X.A) : BinOk cl X W (inplaceOp .BitOr) (fun x y h => dun C .ior x y h) := fun tk => ⟨_, inp_dun T (by rfl) hr tk, fun m h H σ x y u v Q r hx hy q => dun_post r hx hy q⟩
theorem k_sub (T : DunT cl X k C .sub "__sub__") (hr : Room k X.A) : BinOk cl X W (binaryOp .Sub) (oSub C) := fun tk => ⟨_, (OpRs.of op_sub).or (bin_dun T (by rfl) hr tk), fun m h H σ x y u v Q r hx hy q => by
  unfold oSub at q
  split at q
  · exact .inl ⟨_, _, hx, hy, q.now r rfl⟩
  · exact .inr (dun_post r hx hy q)⟩
theorem k_le (T : DunT cl X k C .le "__le__") (hr : Room k X.A) : BinOk cl X W (compareOp .LtE) (oLe C) := fun tk => ⟨_, (OpRs.of op_le).or (cmp_dun T (fun _ _ => rfl) (by rfl) hr tk), fun m h H σ x y u v Q r hx hy q => by
  unfold oLe at q
  split at q
  · exact .inl ⟨_, _, hx, hy, q.now r rfl⟩
  · exact .inr (dun_post r hx hy q)⟩
theorem k_eq (T : DunT cl X k C .eq "__eq__") (hr : Room k X.A) : BinOk cl X W (compareOp .Eq) (oEq C) := fun tk => ⟨_, (OpRs.of (op_eqD hr.units)).or (cmp_dun T (fun _ _ => rfl) (by rfl) hr tk), fun m h H σ x y u v Q r hx hy q => by
  unfold oEq at q
  split at q
  · rename_i b e
    obtain ⟨d, e2, h1, h2, h3, h4, h5⟩ := eqD_of r hx hy e
    subst h5
    exact .inl ⟨d, e2, h1, h2, h3, h4, q.now r rfl⟩
  · refine .inr (dun_post r hx hy ?_)
    split at q
    · rename_i b h1 e; rw [e]; exact q
    · exact q.elim⟩
theorem k_ne : Room k X.A → BinOk cl X W (compareOp .NotEq) (oNe C) := fun hr tk => ⟨_, OpRs.of (op_neD hr.units), fun m h H σ x y u v Q r hx hy q => by
  unfold oNe at q
  split at q
  · rename_i b e
    obtain ⟨d, e2, h1, h2, h3, h4, h5⟩ := eqD_of r hx hy e
    subst h5
    exact ⟨d, e2, h1, h2, h3, h4, q.now r rfl⟩
  · exact q.elim⟩
/-- x in y, y an instance -/
def rHas (cl : Nat → Addr) (X : Cx) (W : WX) (C : CE) (neg : Bool) : R2s := fun σ x y H Q => ∃ (c i : Nat) (b dy : Addr) (gs : List (Str × V)), C.dn c .has = some i ∧ y = .ref b ∧ H b = some (.ins (cl c) dy gs) ∧
  spF cl X.K (C.call i) [y, x] H (fun v H' => ∃ t, v = .bl t ∧ Q (.bl (if neg then !t else t)) H') (atW W σ)
theorem in_has (T : DunT cl X k C .has "__contains__") (hr : Room k X.A) (tk : Takes X W) : OpRs X (compareOp .In) (rHas cl X W C false) := by
  intro pins s σ H x y v u Q I rx ry h
  obtain ⟨c, i, b, dy, gs, e, rfl, hb, q⟩ := h
  cases (show u = Value.ref b from ry)
  obtain ⟨⟨f, F⟩, hs, _⟩ := T c i e
  obtain ⟨ox', od', J'⟩ := inst_at I hb
  obtain ⟨m, hF⟩ := I.fr
  refine PySem.W.in_K hF I.ok.mod.kin J' F.at_ F.fn ?_
  refine wpAny_mono (run_call (us := [.ref b, v]) (vs := [.ref b, x]) F.run hr tk I (.cons rfl (.cons rx .nil)) q) (fun w s' z => ?_) fun _ _ x => x
  obtain ⟨z', H', I', rz, t, et, qz⟩ := z
  subst et
  cases (show w = Value.bool t from rz)
  exact wpAny_truthy_bool ⟨.bl t, H', I', rfl, qz⟩
theorem notin_has (T : DunT cl X k C .has "__contains__") (hr : Room k X.A) (tk : Takes X W) : OpRs X (compareOp .NotIn) (rHas cl X W C true) := by
  intro pins s σ H x y v u Q I rx ry h
  obtain ⟨c, i, b, dy, gs, e, rfl, hb, q⟩ := h
  cases (show u = Value.ref b from ry)
  obtain ⟨⟨f, F⟩, hs, _⟩ := T c i e
  obtain ⟨ox', od', J'⟩ := inst_at I hb
  obtain ⟨m, hF⟩ := I.fr
  refine PySem.W.notIn_K hF I.ok.mod.kin J' F.at_ F.fn ?_
  refine wpAny_mono (run_call (us := [.ref b, v]) (vs := [.ref b, x]) F.run hr tk I (.cons rfl (.cons rx .nil)) q) (fun w s' z => ?_) fun _ _ x => x
  obtain ⟨z', H', I', rz, t, et, qz⟩ := z
  subst et
  cases (show w = Value.bool t from rz)
  exact wpAny_truthy_bool ⟨.bl (!t), H', I', rfl, qz⟩
theorem inS_of {D : Dm} {m : List Addr} {H : Hp} {x : AV} {xs : List AV} {u : V} {us : List V} {b : Bool} (hx : VR D m H x u) (hs : VRs D m H xs us) (e : inS x xs = some b) : flatV u = true ∧ us.all flatV = true ∧ b = inV u us := by
  unfold inS at e
  split at e
  · rename_i w ws h1 h2
    cases e
    obtain ⟨e1, f1⟩ := vr_toV h1 hx
    obtain ⟨e2, f2⟩ := vrs_toV h2 hs
    subst e1 e2
    exact ⟨f1, f2, rfl⟩
  · cases e
theorem k_in (T : DunT cl X k C .has "__contains__") (hr : Room k X.A) : BinOk cl X W (compareOp .In) (oIn C) := fun tk => ⟨_, (OpRs.of op_in_seq).or (in_has T hr tk), fun m h H σ x y u v Q r hx hy q => by
  unfold oIn at q
  split at q
  · rename_i ys e
    split at q
    · rename_i b eb
      obtain ⟨p, us, e2, hq, hv⟩ := seqOf_sq r hy e
      obtain ⟨f1, f2, f3⟩ := inS_of hx hv eb
      exact .inl ⟨p, us, e2, hq, f1, f2, by subst f3; exact q.now r rfl⟩
    · exact q.elim
  · split at q
    · rename_i c fs e
      split at q
      · rename_i i ei
        obtain ⟨b, dy, gs, rfl, h3, h4, _⟩ := cls_get r hy e
        refine .inr ⟨c, i, b, dy, gs, ei, rfl, h3, m, h, [y, x], r, ⟨_, _, rfl, hy, _, _, rfl, hx, rfl⟩, ?_⟩
        split at q
        · rename_i t h1 et
          show Post _ _ _ _ (C.call i [y, x] h) _ _
          rw [et]
          exact fun m' H' u a b c d => ⟨t, d, q m' H' (.bl t) a b c rfl⟩
        · exact q.elim
      · exact q.elim
    · exact q.elim⟩
theorem k_notin (T : DunT cl X k C .has "__contains__") (hr : Room k X.A) : BinOk cl X W (compareOp .NotIn) (oNotIn C) := fun tk => ⟨_, (OpRs.of op_notIn_seq).or (notin_has T hr tk), fun m h H σ x y u v Q r hx hy q => by
  unfold oNotIn at q
  split at q
  · rename_i ys e
    split at q
    · rename_i b eb
      obtain ⟨p, us, e2, hq, hv⟩ := seqOf_sq r hy e
      obtain ⟨f1, f2, f3⟩ := inS_of hx hv eb
      exact .inl ⟨p, us, e2, hq, f1, f2, by subst f3; exact q.now r rfl⟩
    · exact q.elim
  · split at q
    · rename_i c fs e
      split at q
      · rename_i i ei
        obtain ⟨b, dy, gs, rfl, h3, h4, _⟩ := cls_get r hy e
        refine .inr ⟨c, i, b, dy, gs, ei, rfl, h3, m, h, [y, x], r, ⟨_, _, rfl, hy, _, _, rfl, hx, rfl⟩, ?_⟩
        split at q
        · rename_i t h1 et
          show Post _ _ _ _ (C.call i [y, x] h) _ _
          rw [et]
          exact fun m' H' u a b c d => ⟨t, d, q m' H' (.bl (!t)) a b c rfl⟩
        · exact q.elim
      · exact q.elim
    · exact q.elim⟩
end
end Mi

namespace Mi
open PySem PySem.Spec PyProof.Rows L2
section
variable {cl : Nat → Addr} {X : Cx} {W : WX} {C : CE} {k : Nat} {e a b c o i tg iter elt : Expr} {es : List Expr} {pos p apos pos' : Pos} {x f : Str} {rest : List Expr}

theorem tru_of {D : Dm} {m : List Addr} {H : Hp} {h : AH} {v : AV} {u : V} {t : Bool} (r : Rel D m h H) (hv : VR D m H v u) (e : tru v h = some t) : TruV D.K u H t := by
  cases v with
  | non => cases e; rw [show u = _ from hv]; rfl
  | bl b => cases e; rw [show u = _ from hv]; rfl
  | int b => cases e; rw [show u = _ from hv]; rfl
  | str y =>
    simp only [tru] at e
    split at e
    · rename_i hl; cases e; rw [show u = _ from hv]; exact ⟨hl, rfl⟩
    · cases e
  | tup xs =>
    cases e
    obtain ⟨q, us, e1, h1, h2⟩ := hv
    subst e1
    refine .inr (.inl ⟨us, h1, ?_⟩)
    have z := h2.length
    cases xs <;> cases us <;> first | rfl | (simp at z)
  | scr ns =>
    cases e
    obtain ⟨q, e1, h1⟩ := hv
    subst e1
    refine .inl ⟨_, h1.sq, ?_⟩
    cases ns <;> rfl
  | ref j =>
    simp only [tru] at e
    split at e
    · rename_i xs hx
      cases e
      obtain ⟨q, us, e1, _, h1, h2⟩ := vr_lst r hv hx
      subst e1
      refine .inl ⟨us, SqL.of h1, ?_⟩
      have z := h2.length
      cases xs <;> cases us <;> first | rfl | (simp at z)
    · rename_i kvs hx
      cases e
      obtain ⟨q, h1, e1⟩ := hv
      subst e1
      obtain ⟨ps, h2, h3⟩ := r.ob j _ q hx h1
      refine .inr (.inr ⟨ps, h2, ?_⟩)
      have z := h3.length
      cases kvs <;> cases ps <;> first | rfl | (simp at z)
    · cases e
theorem mt_tru {fe : SE} (ha : PEm cl X W e fe) (he : ∀ whole, isTrue e X.env whole = (do let v ← whole; standAt e.pos; holding [v] (truthy v)) := by intro _; rfl) : PTm cl X W e (tTru fe) := fun tk => by
  obtain ⟨ta, h1, s1⟩ := ha tk
  refine ⟨_, pt_truth h1 he, fun m h H σ' σ Q r rs q => s1 m h H σ' σ _ r rs (Post.bind q fun v h1 m1 H1 u _ p1 k1 r1 v1 q1 => ?_)⟩
  split at q1
  · rename_i t et
    exact ⟨t, tru_of r1 v1 et, q1.now r1 rfl⟩
  · exact q1.elim
theorem mt_of {fe : SB} (h : PWm cl X W e fe) : PTm cl X W e fe := fun tk => by
  obtain ⟨t, h1, s1⟩ := h tk
  exact ⟨t, h1.pt, s1⟩
theorem mw_and1 {fe : SB} (h : PTm cl X W a fe) : PWm cl X W (.BoolOp .And [a] pos) fe := fun tk => by
  obtain ⟨t, h1, s1⟩ := h tk
  exact ⟨t, pw_and1 h1, s1⟩
theorem mw_or1 {fe : SB} (h : PTm cl X W a fe) : PWm cl X W (.BoolOp .Or [a] pos) fe := fun tk => by
  obtain ⟨t, h1, s1⟩ := h tk
  exact ⟨t, pw_or1 h1, s1⟩
theorem mw_and {fa fb : SB} (ha : PTm cl X W a fa) (hb : PWm cl X W (.BoolOp .And (b :: rest) pos) fb) : PWm cl X W (.BoolOp .And (a :: b :: rest) pos) (tAnd fa fb) := fun tk => by
  obtain ⟨ta, h1, s1⟩ := ha tk
  obtain ⟨tb, h2, s2⟩ := hb tk
  refine ⟨_, pw_and h1 h2, fun m h H σ' σ Q r rs q => s1 m h H σ' σ _ r rs (Post.bind q fun v h1 m1 H1 u _ p1 k1 r1 v1 q1 => ?_)⟩
  cases v1
  cases v with
  | true => exact s2 m1 h1 H1 σ' σ _ r1 (rs.mono p1 k1) q1
  | false => exact q1.now r1 rfl
theorem mw_or {fa fb : SB} (ha : PTm cl X W a fa) (hb : PWm cl X W (.BoolOp .Or (b :: rest) pos) fb) : PWm cl X W (.BoolOp .Or (a :: b :: rest) pos) (tOr fa fb) := fun tk => by
  obtain ⟨ta, h1, s1⟩ := ha tk
  obtain ⟨tb, h2, s2⟩ := hb tk
  refine ⟨_, pw_or h1 h2, fun m h H σ' σ Q r rs q => s1 m h H σ' σ _ r rs (Post.bind q fun v h1 m1 H1 u _ p1 k1 r1 v1 q1 => ?_)⟩
  cases v1
  cases v with
  | false => exact s2 m1 h1 H1 σ' σ _ r1 (rs.mono p1 k1) q1
  | true => exact q1.now r1 rfl
theorem mt_not {fa : SB} (ha : PTm cl X W a fa) : PTm cl X W (.UnaryOp .Not a pos) (tNot fa) := fun tk => by
  obtain ⟨ta, h1, s1⟩ := ha tk
  refine ⟨_, pt_not h1, fun m h H σ' σ Q r rs q => s1 m h H σ' σ _ r rs (Post.bind q fun v h1 m1 H1 u _ p1 k1 r1 v1 q1 => ?_)⟩
  cases v1
  exact q1.now r1 rfl
/-- as values -/
theorem m_one {op : BoolOp} {fe : SE} (h : PEm cl X W a fe) : PEm cl X W (.BoolOp op [a] pos) fe := fun tk => by
  obtain ⟨t, h1, s1⟩ := h tk
  exact ⟨t, pe_one h1, s1⟩
theorem m_and {fa fb : SE} (ha : PEm cl X W a fa) (hb : PEm cl X W (.BoolOp .And (b :: rest) pos) fb) : PEm cl X W (.BoolOp .And (a :: b :: rest) pos) (sAnd fa fb) := fun tk => by
  obtain ⟨ta, h1, s1⟩ := ha tk
  obtain ⟨tb, h2, s2⟩ := hb tk
  refine ⟨_, pe_and h1 h2, fun m h H σ' σ Q r rs q => s1 m h H σ' σ _ r rs (Post.bind q fun v h1 m1 H1 u _ p1 k1 r1 v1 q1 => ?_)⟩
  split at q1
  · exact ⟨true, v1, s2 m1 h1 H1 σ' σ _ r1 (rs.mono p1 k1) q1⟩
  · exact ⟨false, v1, q1.now r1 rfl⟩
  · exact q1.elim
theorem m_or {fa fb : SE} (ha : PEm cl X W a fa) (hb : PEm cl X W (.BoolOp .Or (b :: rest) pos) fb) : PEm cl X W (.BoolOp .Or (a :: b :: rest) pos) (sOr fa fb) := fun tk => by
  obtain ⟨ta, h1, s1⟩ := ha tk
  obtain ⟨tb, h2, s2⟩ := hb tk
  refine ⟨_, pe_or h1 h2, fun m h H σ' σ Q r rs q => s1 m h H σ' σ _ r rs (Post.bind q fun v h1 m1 H1 u _ p1 k1 r1 v1 q1 => ?_)⟩
  split at q1
  · exact ⟨true, v1, q1.now r1 rfl⟩
  · exact ⟨false, v1, s2 m1 h1 H1 σ' σ _ r1 (rs.mono p1 k1) q1⟩
  · exact q1.elim
theorem m_not {fa : SE} (ha : PEm cl X W a fa) : PEm cl X W (.UnaryOp .Not a pos) (sNot fa) := fun tk => by
  obtain ⟨ta, h1, s1⟩ := ha tk
  refine ⟨_, pe_not h1, fun m h H σ' σ Q r rs q => s1 m h H σ' σ _ r rs (Post.bind q fun v h1 m1 H1 u _ p1 k1 r1 v1 q1 => ?_)⟩
  split at q1
  · exact ⟨_, v1, q1.now r1 rfl⟩
  · exact q1.elim
theorem m_ife {ft : SB} {fa fb : SE} (ht : PTm cl X W c ft) (ha : PEm cl X W a fa) (hb : PEm cl X W b fb) : PEm cl X W (.IfExp c a b pos) (sIfE ft fa fb) := fun tk => by
  obtain ⟨tt, h0, s0⟩ := ht tk
  obtain ⟨ta, h1, s1⟩ := ha tk
  obtain ⟨tb, h2, s2⟩ := hb tk
  refine ⟨_, pe_ifExp h0 h1 h2, fun m h H σ' σ Q r rs q => s0 m h H σ' σ _ r rs (Post.bind q fun v h1 m1 H1 u _ p1 k1 r1 v1 q1 => ?_)⟩
  cases v1
  cases v with
  | true => exact s1 m1 h1 H1 σ' σ _ r1 (rs.mono p1 k1) q1
  | false => exact s2 m1 h1 H1 σ' σ _ r1 (rs.mono p1 k1) q1
theorem m_neg {fa : SE} (ha : PEm cl X W a fa) : PEm cl X W (.UnaryOp .USub a pos) (op1 oNeg fa) := fun tk => by
  obtain ⟨ta, h1, s1⟩ := ha tk
  refine ⟨_, pe_un un_neg h1, fun m h H σ' σ Q r rs q => s1 m h H σ' σ _ r rs (Post.bind q fun v h1 m1 H1 u _ p1 k1 r1 v1 q1 => ?_)⟩
  unfold oNeg at q1
  split at q1
  · exact ⟨_, v1, q1.now r1 rfl⟩
  · exact q1.elim

theorem m_lst {fa : SA} (ha : PAm cl X W es fa) : PEm cl X W (.List es pos) (sLst fa) := fun tk => by
  obtain ⟨ta, h1, s1⟩ := ha tk
  refine ⟨_, pe_lst h1, fun m h H σ' σ Q r rs q => s1 m h H σ' σ _ r rs (Post.bind q fun v h1 m1 H1 u _ p1 k1 r1 v1 q1 => ?_)⟩
  split at q1
  · rename_i hl
    exact ⟨by rw [v1.length]; exact hl, Post.newLst r1 v1 q1⟩
  · exact q1.elim
theorem Post.newTup {D : Dm} {m : List Addr} {H : Hp} {h : AH} {xs : List AV} {us : List V} {Q : VK} {E : XK} (r : Rel D m h H) (hx : VRs D m H xs us) (hq : Post D m H (relV D) (.ok (.tup xs) h) Q E) : ∀ p, H p = none → Q (.ref p) (upd H p (.tup us)) := fun p n =>
  hq m (upd H p (.tup us)) (.ref p) (List.prefix_refl m) (Keep.new n) ⟨r.len, r.nd, fun i o a e1 e2 => (r.ob i o a e1 e2).stay (List.prefix_refl m) (Keep.new n) (r.stays n a (List.mem_of_getElem? e2))⟩
    ⟨p, us, rfl, .inl (.inl upd_same), VRs.mono (List.prefix_refl m) (Keep.new n) _ _ hx⟩
theorem m_tup {fa : SA} {x1 : Nat} (ha : PAm cl X W es fa) : PEm cl X W (.Tuple es x1 pos) (sTup fa) := fun tk => by
  obtain ⟨ta, h1, s1⟩ := ha tk
  refine ⟨_, pe_tup h1, fun m h H σ' σ Q r rs q => s1 m h H σ' σ _ r rs (Post.bind q fun v h1 m1 H1 u _ p1 k1 r1 v1 q1 => ?_)⟩
  split at q1
  · rename_i hl
    exact ⟨by rw [v1.length]; exact hl, Post.newTup r1 v1 q1⟩
  · exact q1.elim
theorem atI_vrs {D : Dm} {m : List Addr} {H : Hp} {xs : List AV} {us : List V} {i : Int} {w : AV} (hv : VRs D m H xs us) (e : atI xs i = some w) : ∃ u, atI us i = some u ∧ VR D m H w u := by
  unfold atI at e ⊢
  rw [hv.length]
  cases z : ixN xs.length i with
  | none => rw [z] at e; cases e
  | some j =>
    rw [z] at e
    obtain ⟨u, e1, h1⟩ := hv.get (show xs[j]? = some w from e)
    exact ⟨u, e1, h1⟩
/-- an index's shadow -/
def IxOk (cl : Nat → Addr) (X : Cx) (W : WX) (f : AV → AV → AH → R AV) : Prop := Takes X W → ∃ r : R2s, (∀ (value slice : Expr) (pins : List (Addr × Obj)) (s : Shared) (σ : L2.St) (H : Hp) (x y : V) (v u : Value) (Q : VK), Inv X pins σ H s → RelV x v → RelV y u → r σ x y H Q →
    subscripted slice false v u = operate [v, u] (getItem v u) → wpAny (model X.prog X.w) X.A (subscriptTail value slice v u) (EP X pins σ Q) X.xe s) ∧
  ∀ (m : List Addr) (h : AH) (H : Hp) (σ : L2.St) (x y : AV) (u v : V) (Q : VK), Rel (dm X cl) m h H → VR (dm X cl) m H x u → VR (dm X cl) m H y v → Post (dm X cl) m H (relV (dm X cl)) (f x y h) Q (atW W σ) → r σ u v H Q
theorem k_ix : IxOk cl X W (oIx C) := fun tk => ⟨fun _ => rIx X.K, fun value slice pins s σ H x y v u Q I rx ry q hs => ix_seq value slice pins s σ H x y v u Q I rx ry q hs, fun m h H σ x y u v Q r hx hy q => by
  unfold oIx at q
  split at q
  · split at q
    · split at q
      · rename_i hl
        split at q
        · rename_i c0 e0
          exact .inr (.inr ⟨_, _, c0, hx, hy, hl, e0, q.now r rfl⟩)
        · exact q.elim
      · exact q.elim
    · split at q
      · rename_i xs e0
        split at q
        · rename_i w0 e1
          obtain ⟨p0, us, e2, hq, hv⟩ := seqOf_sq r hx e0
          obtain ⟨u0, e3, h3⟩ := atI_vrs hv e1
          rcases hq with hq | hq
          · exact .inl ⟨p0, us, _, u0, e2, hy, hq, e3, q.now r h3⟩
          · exact .inr (.inl ⟨p0, us, _, u0, e2, hy, hq, e3, q.now r h3⟩)
        · exact q.elim
      · exact q.elim
  · exact q.elim⟩
theorem m_ix {fo fi : SE} {g : AV → AV → AH → R AV} (hk : IxOk cl X W g) (ha : PEm cl X W o fo) (hb : PEm cl X W i fi) (hs : PlainIx i := by exact fun _ _ => rfl) : PEm cl X W (.Subscript o i pos) (op2 g fo fi) := fun tk => by
  obtain ⟨r, hr, sr⟩ := hk tk
  obtain ⟨ta, h1, s1⟩ := ha tk
  obtain ⟨tb, h2, s2⟩ := hb tk
  refine ⟨tOps r ta tb, ⟨fun pins s σ H Q I h => Subscript_ (binT h1 h2 I h fun v u s2 x y H2 I2 rx ry q => hr o i pins s2 σ H2 x y v u Q I2 rx ry q (hs _ _))⟩, fun m h H σ' σ Q rl rs q => ?_⟩
  refine s1 m h H σ' σ _ rl rs (op2_post q fun x h1 m1 H1 u p1 k1 r1 v1 q1 => ?_)
  refine s2 m1 h1 H1 σ' σ _ r1 (rs.mono p1 k1) (Post.bind q1 fun y h2 m2 H2 v _ p2 k2 r2 v2 q2 => ?_)
  exact sr m2 h2 H2 σ x y u v Q r2 (VR.mono p2 k2 _ _ v1) v2 q2
theorem m_fld {fe : SE} {c0 : Nat} (hC : Cls X.K (cl c0)) (hN : NoAttr X.K (cl c0) f) (ha : PEm cl X W e fe) (hb : attributeBase e f X.env (eval e X.env) = eval e X.env := by rfl) : PEm cl X W (.Attribute e f pos) (sFld c0 f fe) := fun tk => by
  obtain ⟨ta, h1, s1⟩ := ha tk
  refine ⟨_, pe_fld h1 hb, fun m h H σ' σ Q r rs q => s1 m h H σ' σ _ r rs (Post.bind q fun v h1 m1 H1 u _ p1 k1 r1 v1 q1 => ?_)⟩
  split at q1
  · rename_i c' fs e1
    split at q1
    · rename_i ec
      subst ec
      split at q1
      · rename_i w ew
        obtain ⟨a0, dx, gs, e2, h3, h4, _⟩ := cls_get r1 v1 e1
        obtain ⟨u0, e5, h5⟩ := h4.lookup ew
        exact ⟨a0, _, dx, gs, u0, e2, h3, hC, hN, e5, q1.now r1 h5⟩
      · exact q1.elim
    · exact q1.elim
  · exact q1.elim
theorem ms_fld {fo fe : SE} {c0 : Nat} (hC : Cls X.K (cl c0)) (hN : NoAttr X.K (cl c0) f) (ha : PEm cl X W o fo) (he : PEm cl X W e fe) (hs : swapsWith e (some (.Attribute o f pos')) pos.line X.env = pure false := by rfl) : PSm cl X W (.Assign [.Attribute o f pos'] e pos) (ssFld c0 f fo fe) := fun tk => by
  obtain ⟨ta, h1, s1⟩ := ha tk
  obtain ⟨te, h2, s2⟩ := he tk
  refine ⟨_, ps_fld h1 h2 hs, fun m h H σ' σ Dn r rs q => s2 m h H σ' σ _ r rs (PostS.to rs q fun w h1 m1 H1 y _ p1 k1 r1 v1 q1 => ?_)⟩
  refine s1 m1 h1 H1 σ' σ _ r1 (rs.mono p1 k1) (PostS.to (rs.mono p1 k1) q1 fun v h2 m2 H2 u _ p2 k2 r2 v2 q2 => ?_)
  cases v with
  | ref j =>
    dsimp only at q2
    split at q2
    · rename_i c' fs ej
      split at q2
      · rename_i hh
        obtain ⟨ec, hl⟩ := hh
        subst ec
        obtain ⟨a0, h3, e3⟩ := v2
        obtain ⟨dx, gs, h4, h5⟩ := r2.ob j _ a0 ej h3
        have kk : Keep H2 (upd H2 a0 (.ins (cl c') dx (putF f y gs))) := Keep.chg h4 trivial
        refine ⟨a0, _, dx, gs, e3, h4, hC, hN, by rw [h5.length]; exact hl, ?_⟩
        refine q2 m2 _ (List.prefix_refl m2) kk (r2.put h3 kk (fun a na _ u z => by rw [upd_ne na]; exact z) ⟨dx, _, upd_same, KVR.mono (List.prefix_refl m2) kk (KVR.put (VR.mono p2 k2 _ _ v1) h5)⟩) σ ?_
        exact (rs.mono p1 k1).mono p2 k2 |>.mono (List.prefix_refl m2) kk
      · exact q2.elim
    · exact q2.elim
  | _ => exact q2.elim

theorem m_meth {fo : SE} {fa : SA} {c0 j : Nat} {g : Addr} {pl : Sem Bool} (hC : Cls X.K (cl c0)) (hm : Meth X.K (cl c0) x g) (F : FnM cl X k g (C.call j)) (hr : Room k X.A) (ho : PEm cl X W o fo) (ha : PAm cl X W (e :: es) fa)
    (hst : starEach (e :: es) X.env = (false, eval e X.env) :: starEach es X.env := by rfl) (hpl : (backTo pos (starEach es X.env)).any (·.1) = false := by rfl)
    (ht : eval (.Call (.Attribute o x apos) (e :: es) [] pos) X.env = (do
      let ov ← eval o X.env
      standAt apos.atName
      let (f, first) ← holding [ov] (getMethod ov x pl)
      callWith pos f first (backTo pos (starEach (e :: es) X.env)) (backToKw pos (keywordEach [] X.env))) := by rfl) : PEm cl X W (.Call (.Attribute o x apos) (e :: es) [] pos) (sMeth C c0 x j fo fa) := fun tk => by
  obtain ⟨to, h1, s1⟩ := ho tk
  obtain ⟨ta, h2, s2⟩ := ha tk
  refine ⟨fun σ H Q => to σ H fun y H1 => ∃ a dx fs, y = .ref a ∧ H1 a = some (.ins (cl c0) dx fs) ∧ fs.lookup x = none ∧ ta σ H1 fun vs H2 => spF cl X.K (C.call j) (y :: vs) H2 Q (atW W σ), ⟨fun pins s σ H Q I h => ?_⟩, fun m h H σ' σ Q r rs q => ?_⟩
  · refine PySem.W.methodCall_KW (pl := pl) (thn (h1.run pins s σ H _ I h) fun u s1 ⟨y, H1, I1, ry, a, dx, fs, ey, ea, l, q⟩ => ?_) ht
    subst ey
    obtain rfl : u = Value.ref a := ry
    refine getmeth_ok I1 ea hC hm l ?_
    refine PySem.W.callWith_K (first := [.ref a]) (h₀ := X.base) I.ok.mod.kin hm.kp (thn (h2.run pos pins s1 σ H1 _ I1 q) fun us s2 ⟨vs, H2, I2, r, q2⟩ => ⟨I2.kIn, ?_⟩) hst hpl
    exact run_call (us := .ref a :: us) (vs := .ref a :: vs) F hr tk I2 (.cons rfl r) q2
  · refine s1 m h H σ' σ _ r rs (Post.bind q fun v h1 m1 H1 u _ p1 k1 r1 v1 q1 => ?_)
    split at q1
    · rename_i c' fs e1
      split at q1
      · rename_i hh
        obtain ⟨ec, hl⟩ := hh
        subst ec
        obtain ⟨a0, dx, gs, e2, h3, h4, _⟩ := cls_get r1 v1 e1
        refine ⟨a0, dx, gs, e2, h3, h4.lookup_none (Option.isNone_iff_eq_none.mp hl), s2 m1 h1 H1 σ' σ _ r1 (rs.mono p1 k1) (Post.bind q1 fun vs h2 m2 H2 us _ p2 k2 r2 v2 q2 => ?_)⟩
        exact ⟨m2, h2, v :: vs, r2, ⟨_, _, rfl, VR.mono p2 k2 _ _ v1, v2⟩, q2⟩
      · exact q1.elim
    · exact q1.elim
theorem m_meth0 {fo : SE} {c0 j : Nat} {g : Addr} {pl : Sem Bool} (hC : Cls X.K (cl c0)) (hm : Meth X.K (cl c0) x g) (F : FnM cl X k g (C.call j)) (hr : Room k X.A) (ho : PEm cl X W o fo)
    (ht : eval (.Call (.Attribute o x apos) [] [] pos) X.env = (do
      let ov ← eval o X.env
      standAt apos.atName
      let (f, first) ← holding [ov] (getMethod ov x pl)
      callWith pos f first (backTo pos (starEach [] X.env)) (backToKw pos (keywordEach [] X.env))) := by rfl) : PEm cl X W (.Call (.Attribute o x apos) [] [] pos) (sMeth C c0 x j fo aNil) := fun tk => by
  obtain ⟨to, h1, s1⟩ := ho tk
  refine ⟨fun σ H Q => to σ H fun y H1 => ∃ a dx fs, y = .ref a ∧ H1 a = some (.ins (cl c0) dx fs) ∧ fs.lookup x = none ∧ spF cl X.K (C.call j) [y] H1 Q (atW W σ), ⟨fun pins s σ H Q I h => ?_⟩, fun m h H σ' σ Q r rs q => ?_⟩
  · refine PySem.W.methodCall_KW (pl := pl) (thn (h1.run pins s σ H _ I h) fun u s1 ⟨y, H1, I1, ry, a, dx, fs, ey, ea, l, q⟩ => ?_) ht
    subst ey
    obtain rfl : u = Value.ref a := ry
    refine getmeth_ok I1 ea hC hm l ?_
    exact PySem.W.callWith_K0 (first := [.ref a]) I1.kIn hm.kp (run_call (us := [.ref a]) (vs := [.ref a]) F hr tk I1 (.cons rfl .nil) q)
  · refine s1 m h H σ' σ _ r rs (Post.bind q fun v h1 m1 H1 u _ p1 k1 r1 v1 q1 => ?_)
    split at q1
    · rename_i c' fs e1
      split at q1
      · rename_i hh
        obtain ⟨ec, hl⟩ := hh
        subst ec
        obtain ⟨a0, dx, gs, e2, h3, h4, _⟩ := cls_get r1 v1 e1
        exact ⟨a0, dx, gs, e2, h3, h4.lookup_none (Option.isNone_iff_eq_none.mp hl), m1, h1, [v], r1, ⟨_, _, rfl, v1, rfl⟩, q1⟩
      · exact q1.elim
    · exact q1.elim
end
end Mi

namespace Mi
open PySem PySem.Spec PyProof.Rows L2
section
variable {cl : Nat → Addr} {X : Cx} {W : WX} {C : CE} {k : Nat} {e a b c o i tg iter elt : Expr} {es : List Expr} {pos p apos pos' : Pos} {x f : Str} {rest : List Expr} {st : Stmt} {sts : List Stmt}

theorem ms_bad : PSm cl X W st ssBad := fun _ => ⟨_, ps_never, fun _ _ _ _ _ _ _ _ q => q⟩
theorem mss_bad : PSsm cl X W sts ssBad := fun _ => ⟨_, pss_never, fun _ _ _ _ _ _ _ _ q => q⟩
theorem PostS.now {D : Dm} {m : List Addr} {H : Hp} {σ' : Sl} {σ : L2.St} {h' : AH} {Dn : Ends} (q : PostS D m H (.ok (.nx σ') h') Dn W) (r : Rel D m h' H) (rs : RelS D m H σ' σ) : Dn.nx σ H := q m H (List.prefix_refl m) .rfl' r σ rs
theorem mss_nil : PSsm cl X W [] ssNil := fun _ => ⟨_, pss_nil, fun m h H σ' σ Dn r rs q => PostS.now (W := W) q r rs⟩
theorem PostS.seq {D : Dm} {m : List Addr} {H : Hp} {r : RS} {g : SS} {Dn : Ends} (q : PostS D m H (r.bind fun f h1 => match f with
    | .nx σ1 => g σ1 h1
    | f => .ok f h1) Dn W) (N : L2.St → Hp → Prop) (hN : ∀ σ1 h1 m1 H1 σ2, m <+: m1 → Keep H H1 → Rel D m1 h1 H1 → RelS D m1 H1 σ1 σ2 → PostS D m1 H1 (g σ1 h1) Dn W → N σ2 H1) : PostS D m H r { Dn with nx := N } W := by
  cases r with
  | bad => exact q
  | ex c fs σ h => exact q
  | ok fl h1 =>
    cases fl with
    | nx σ1 => exact fun m1 H1 p1 k1 r1 σ2 rs => hN σ1 h1 m1 H1 σ2 p1 k1 r1 rs (PostS.mono p1 k1 q)
    | rt v => exact q
    | bk σ1 => exact q
    | ct σ1 => exact q
theorem mss_cons {g : SS} {gs : SS} (h1 : PSm cl X W st g) (h2 : PSsm cl X W sts gs) : PSsm cl X W (st :: sts) (ssSeq g gs) := fun tk => by
  obtain ⟨t1, a1, s1⟩ := h1 tk
  obtain ⟨t2, a2, s2⟩ := h2 tk
  refine ⟨_, pss_cons a1 a2, fun m h H σ' σ Dn r rs q => s1 m h H σ' σ _ r rs (PostS.seq q _ fun σ1 h1 m1 H1 σ2 p1 k1 r1 rs1 q1 => ?_)⟩
  exact s2 m1 h1 H1 σ1 σ2 Dn r1 rs1 q1
theorem mss_one {g : SS} (h1 : PSm cl X W st g) : PSsm cl X W [st] g := fun tk => by
  obtain ⟨t1, a1, s1⟩ := h1 tk
  exact ⟨_, pss_one a1, s1⟩
theorem ms_set (j : Nat) {fe : SE} (hN : X.N.Nodup) (he : PEm cl X W e fe) (hi : X.N[j]? = some x := by rfl) (hx : Loc X.env.scope x := by first | exact Or.inl rfl | exact Or.inr rfl) (hs : swapsWith e (some (.Name x pos')) pos.line X.env = pure false := by rfl)
    (hf : X.fn x = true ∨ X.env.scope.names.lookup x = some .local := by first | exact .inl rfl | exact .inr rfl | assumption) : PSm cl X W (.Assign [.Name x pos'] e pos) (ssSet j fe) := fun tk => by
  obtain ⟨te, h1, s1⟩ := he tk
  refine ⟨_, ps_set (i := j) hN hi hx h1 hs hf, fun m h H σ' σ Dn r rs q => s1 m h H σ' σ _ r rs (PostS.to rs q fun v h1 m1 H1 u _ p1 k1 r1 v1 q1 => ?_)⟩
  exact PostS.now (W := W) q1 r1 ((rs.mono p1 k1).set j v1)
theorem ms_expr {fe : SE} (he : PEm cl X W e fe) (hs : swapsWith e none pos.line X.env = pure false := by rfl) : PSm cl X W (.Expr e pos) (ssExpr fe) := fun tk => by
  obtain ⟨te, h1, s1⟩ := he tk
  refine ⟨_, ps_expr h1 hs, fun m h H σ' σ Dn r rs q => s1 m h H σ' σ _ r rs (PostS.to rs q fun v h1 m1 H1 u _ p1 k1 r1 v1 q1 => ?_)⟩
  exact PostS.now (W := W) q1 r1 (rs.mono p1 k1)
theorem ms_ret {fe : SE} (he : PEm cl X W e fe) : PSm cl X W (.Return (some e) pos) (ssRet fe) := fun tk => by
  obtain ⟨te, h1, s1⟩ := he tk
  refine ⟨_, ps_ret h1, fun m h H σ' σ Dn r rs q => s1 m h H σ' σ _ r rs (PostS.to rs q fun v h1 m1 H1 u _ p1 k1 r1 v1 q1 => ?_)⟩
  exact q1 m1 H1 (List.prefix_refl m1) .rfl' r1 u v1
theorem ms_retN : PSm cl X W (.Return none pos) ssRetN := fun _ => ⟨_, ps_retN, fun m h H σ' σ Dn r rs q => q m H (List.prefix_refl m) .rfl' r .non rfl⟩
theorem ms_pass : PSm cl X W (.Pass pos) ssNil := fun _ => ⟨_, ps_pass, fun m h H σ' σ Dn r rs q => PostS.now (W := W) q r rs⟩
theorem ms_if {ft : SB} {fa fb : SS} {A B : List Stmt} (ht : PTm cl X W c ft) (ha : PSsm cl X W A fa) (hb : PSsm cl X W B fb) : PSm cl X W (.If c A B pos) (ssIf ft fa fb) := fun tk => by
  obtain ⟨tt, h0, s0⟩ := ht tk
  obtain ⟨ta, h1, s1⟩ := ha tk
  obtain ⟨tb, h2, s2⟩ := hb tk
  refine ⟨_, ps_if h0 h1 h2, fun m h H σ' σ Dn r rs q => s0 m h H σ' σ _ r rs (PostS.to (rel := relB) rs q fun v h1 m1 H1 u _ p1 k1 r1 v1 q1 => ?_)⟩
  cases v1
  cases v with
  | true => exact s1 m1 h1 H1 σ' σ Dn r1 (rs.mono p1 k1) q1
  | false => exact s2 m1 h1 H1 σ' σ Dn r1 (rs.mono p1 k1) q1
theorem oSetIx_of {l i v : AV} {h h' : AH} (e : oSetIx l i v h = some h') : ∃ a k xs n, l = .ref a ∧ i = .int k ∧ h[a]? = some (.lst xs) ∧ ixN xs.length k = some n ∧ h' = h.set a (.lst (xs.set n v)) := by
  cases l with
  | ref a =>
    cases i with
    | int k =>
      simp only [oSetIx] at e
      split at e
      · rename_i xs hx
        split at e
        · rename_i n hn
          cases e
          exact ⟨a, k, xs, n, rfl, rfl, hx, hn, rfl⟩
        · cases e
      · cases e
    | _ => cases e
  | _ => cases e
/-- xs[i] = e -/
theorem ms_ix {fo fi fe : SE} (ho : PEm cl X W o fo) (hi : PEm cl X W i fi) (he : PEm cl X W e fe)
    (hs : swapsWithSole [.Subscript o i pos'] e pos.line X.env = pure false := by rfl) (hw : swappedStores [.Subscript o i pos'] e X.env = pure none := by rfl)
    (h1 : (assignEach [.Subscript o i pos'] X.env).map (·.2) = [assign (.Subscript o i pos') X.env] := by rfl) (hg : ∀ to ti : TE, PE X o to → PE X i ti → PG X (.Subscript o i pos') (gSub to ti rSetL) := by exact fun to ti h1 h2 => pg_sub h1 h2 set_list) :
    PSm cl X W (.Assign [.Subscript o i pos'] e pos) (ssIx fo fi fe) := fun tk => by
  obtain ⟨to, h2, s2⟩ := ho tk
  obtain ⟨ti, h3, s3⟩ := hi tk
  obtain ⟨te, h4, s4⟩ := he tk
  refine ⟨_, ps_asg h4 (hg to ti h2 h3) hs hw h1, fun m h H σ' σ Dn r rs q => s4 m h H σ' σ _ r rs (PostS.to rs q fun v h1 m1 H1 u _ p1 k1 r1 v1 q1 => ?_)⟩
  refine s2 m1 h1 H1 σ' σ _ r1 (rs.mono p1 k1) (PostS.to (rs.mono p1 k1) q1 fun l h2 m2 H2 ul _ p2 k2 r2 v2 q2 => ?_)
  refine s3 m2 h2 H2 σ' σ _ r2 ((rs.mono p1 k1).mono p2 k2) (PostS.to ((rs.mono p1 k1).mono p2 k2) q2 fun j h3 m3 H3 uj _ p3 k3 r3 v3 q3 => ?_)
  split at q3
  · rename_i h4 e4
    obtain ⟨a0, j0, xs, n, rfl, rfl, ex, en, rfl⟩ := oSetIx_of e4
    obtain ⟨p0, us, e5, e6, h5, h6⟩ := vr_lst r3 (VR.mono p3 k3 _ _ v2) ex
    have v1' := VR.mono p3 k3 _ _ (VR.mono p2 k2 _ _ v1)
    refine ⟨p0, us, j0, n, e5, v3, h5, by rw [h6.length]; exact en, ?_⟩
    have kk : Keep H3 (upd H3 p0 (.lst (us.set n u))) := Keep.chg h5 trivial
    exact PostS.now (W := W) (PostS.mono (List.prefix_refl m3) kk q3) (r3.lst e6 h5 (VRs.set n v1' h6)) ((((rs.mono p1 k1).mono p2 k2).mono p3 k3).mono (List.prefix_refl m3) kk)
  · exact q3.elim

theorem mg_name (j : Nat) (hN : X.N.Nodup) (hi : X.N[j]? = some x := by rfl) (hx : Loc X.env.scope x := by first | exact Or.inl rfl | exact Or.inr rfl)
    (hf : X.fn x = true ∨ X.env.scope.names.lookup x = some .local := by first | exact .inl rfl | exact .inr rfl | assumption) : PGm cl X (.Name x pos) (gNm j) [j] :=
  ⟨_, pg_name (i := j) hN hi hx hf, fun m H σ' σ1 σ v u Q rs hv e q => by cases e; exact q _ (rs.set j hv) (by simp) fun i hi => List.getElem?_set_ne (fun z => hi (by simp [z]))⟩
def PGsm (cl : Nat → Addr) (X : Cx) (ts : List Expr) (is : List Nat) : Prop := ∃ t, PGs X ts t ∧ ∀ (m : List Addr) (H : Hp) (σ' σ1 : Sl) (σ : L2.St) (vs : List AV) (us : List V) (Q : L2.St → Hp → Prop),
  RelS (dm X cl) m H σ' σ → VRs (dm X cl) m H vs us → gsN is vs σ' = some σ1 → (∀ σ2 : L2.St, RelS (dm X cl) m H σ1 σ2 → σ2.length = σ.length → (∀ j, j ∉ is → σ2[j]? = σ[j]?) → Q σ2 H) → t us σ H Q
theorem mgs_nil : PGsm cl X [] [] := ⟨_, pgs_nil, fun m H σ' σ1 σ vs us Q rs hv e q => by
  cases vs with
  | nil => cases e; exact ⟨hv, q σ rs rfl fun _ _ => rfl⟩
  | cons _ _ => cases e⟩
theorem mgs_cons (j : Nat) {is : List Nat} (hN : X.N.Nodup) (h : PGsm cl X es is) (hi : X.N[j]? = some x := by rfl) (hx : Loc X.env.scope x := by first | exact Or.inl rfl | exact Or.inr rfl)
    (hf : X.fn x = true ∨ X.env.scope.names.lookup x = some .local := by first | exact .inl rfl | exact .inr rfl | assumption)
    (hs : (assignEach ((.Name x pos) :: es) X.env).map (·.2) = assign (.Name x pos) X.env :: (assignEach es X.env).map (·.2) := by rfl) : PGsm cl X (.Name x pos :: es) (j :: is) := by
  obtain ⟨t, h1, s1⟩ := h
  refine ⟨_, pgs_cons (pg_name (i := j) hN hi hx hf) h1 hs, fun m H σ' σ1 σ vs us Q rs hv e q => ?_⟩
  cases vs with
  | nil => cases e
  | cons v vs =>
    obtain ⟨u, r, eu, h2, h3⟩ := hv
    refine ⟨u, r, eu, s1 m H _ σ1 _ vs r Q (rs.set j h2) h3 e fun σ2 r2 l2 o2 => q σ2 r2 (by rw [l2]; simp) fun i hi => ?_⟩
    simp only [List.mem_cons, not_or] at hi
    rw [o2 i hi.2]
    exact List.getElem?_set_ne (fun z => hi.1 z.symm)
theorem gsN_len : ∀ {is : List Nat} {vs : List AV} {σ σ1 : Sl}, gsN is vs σ = some σ1 → vs.length = is.length
  | [], [], _, _, _ => rfl
  | _ :: is, _ :: vs, _, _, e => by simp [gsN_len (is := is) (vs := vs) e]
theorem mg_tup {kk : Nat} {is : List Nat} (hc : X.calm = true) (h : PGsm cl X es is) (hn : (assignEach es X.env).length = is.length := by rfl) (hst : (assignEach es X.env).findIdx? (·.1) = none := by rfl) : PGm cl X (.Tuple es kk pos) (gTp is) is := by
  obtain ⟨t, h1, s1⟩ := h
  refine ⟨_, pg_tup (n := is.length) hc h1 hn hst, fun m H σ' σ1 σ v u Q rs hv e q => ?_⟩
  cases v with
  | tup xs =>
    obtain ⟨p0, us, e2, h2, h3⟩ := hv
    exact ⟨p0, us, e2, h2, by rw [h3.length]; exact gsN_len e, s1 m H σ' _ σ xs us Q rs h3 e q⟩
  | _ => cases e
/-- a, b = e -/
theorem ms_unp {kk : Nat} {is : List Nat} {fe : SE} (hc : X.calm = true) (h : PGsm cl X es is) (he : PEm cl X W e fe) (hs : swapsWithSole [.Tuple es kk pos'] e pos.line X.env = pure false := by rfl) (hw : swappedStores [.Tuple es kk pos'] e X.env = pure none := by rfl)
    (h1 : (assignEach [.Tuple es kk pos'] X.env).map (·.2) = [assign (.Tuple es kk pos') X.env] := by rfl) (hn : (assignEach es X.env).length = is.length := by rfl) (hst : (assignEach es X.env).findIdx? (·.1) = none := by rfl) :
    PSm cl X W (.Assign [.Tuple es kk pos'] e pos) (ssUnp (gTp is) fe) := fun tk => by
  obtain ⟨te, a1, s1⟩ := he tk
  obtain ⟨tg, a2, s2⟩ := mg_tup (pos := pos') (kk := kk) hc h hn hst
  refine ⟨_, ps_asg a1 a2 hs hw h1, fun m h H σ' σ Dn r rs q => s1 m h H σ' σ _ r rs (PostS.to rs q fun v h1 m1 H1 u _ p1 k1 r1 v1 q1 => ?_)⟩
  split at q1
  · rename_i σ1 e1
    exact s2 m1 H1 σ' σ1 σ v u _ (rs.mono p1 k1) v1 e1 fun σ2 rs2 _ _ => PostS.now (W := W) q1 r1 rs2
  · exact q1.elim

theorem src_lst {D : Dm} {m : List Addr} {H : Hp} {j : Nat} {p0 : Addr} (e : m[j]? = some p0) : SrcOk D m H (.lst j) (Itl D.K p0) := fun m' h' H' i pm km r => by
  have e' := pre_get pm e
  cases hx : h'[j]? with
  | none => simp only [Src.at, hx]
  | some o =>
    cases o with
    | lst xs =>
      simp only [Src.at, hx]
      obtain ⟨vs, h1, h2⟩ := r.ob j _ p0 hx e'
      cases ex : xs[i]? with
      | none =>
        refine ⟨vs, SqL.of h1, ?_⟩
        rw [h2.length]
        exact List.getElem?_eq_none_iff.mp ex
      | some v =>
        obtain ⟨u, e3, h3⟩ := h2.get ex
        refine ⟨⟨vs, u, SqL.of h1, e3⟩, fun y H'' hy => ?_⟩
        obtain ⟨eH, hy⟩ := hy
        subst eH
        have z := hy vs (SqL.of h1)
        rw [e3] at z
        cases z
        exact ⟨.rfl', r, h3⟩
    | _ => simp only [Src.at, hx]
theorem src_tup {D : Dm} {m : List Addr} {H : Hp} {xs : List AV} {us : List V} {p0 : Addr} (h : SqT D.K H p0 us) (hv : VRs D m H xs us) : SrcOk D m H (.tup xs) (Itt D.K p0) := fun m' h' H' i pm km r => by
  have hv' := VRs.mono pm km _ _ hv
  have h1' := SqT.keep km h
  unfold Src.at
  dsimp only
  cases e : xs[i]? with
  | none => exact ⟨us, h1', by rw [hv.length]; exact List.getElem?_eq_none_iff.mp e⟩
  | some v =>
    obtain ⟨u, e3, h3⟩ := hv'.get e
    refine ⟨⟨us, u, h1', e3⟩, fun y H'' hy => ?_⟩
    obtain ⟨eH, hy⟩ := hy
    subst eH
    have z := hy us h1'
    rw [e3] at z
    cases z
    exact ⟨.rfl', r, h3⟩
theorem src_rng {D : Dm} {m : List Addr} {H : Hp} {lo : Int} {n : Nat} : SrcOk D m H (.rng lo n) (Itr lo n) := fun m' h' H' i pm km r => by
  unfold Src.at
  dsimp only
  by_cases hl : i < n
  · rw [if_pos hl]
    refine ⟨hl, fun y H'' hy => ?_⟩
    obtain ⟨eH, hy⟩ := hy
    subst eH
    exact ⟨.rfl', r, hy⟩
  · rw [if_neg hl]
    exact Nat.le_of_not_lt hl
theorem PI.or {w1 w2 : TI} (h1 : PI X tg iter w1) (h2 : PI X tg iter w2) : PI X tg iter (fun σ H R => w1 σ H R ∨ w2 σ H R) := ⟨fun pins s σ H R I h => h.elim (h1.run pins s σ H R I) (h2.run pins s σ H R I)⟩
/-- over an expression's value, which kind of thing it is told by the value -/
theorem pi_val {l : Expr} {tl : TE} (hl : PE X l tl) : PI X tg l (fun σ H R => tl σ H fun x H1 => ∃ a, x = .ref a ∧ (((∃ xs, SqL X.K H1 a xs) ∧ R (Itl X.K a) H1) ∨ ((∃ xs, SqT X.K H1 a xs) ∧ R (Itt X.K a) H1))) := by
  refine ⟨fun pins s σ H R I h => ?_⟩
  refine thn (hl.run pins s σ H _ I h) fun v s1 ⟨x, H1, I1, r1, q1⟩ => ?_
  obtain ⟨a, e, q⟩ := q1
  subst e
  cases r1
  rcases q with ⟨⟨xs, hq⟩, q⟩ | ⟨⟨xs, hq⟩, q⟩
  · obtain ⟨its, rv, p, hz⟩ := I1.list hq
    refine wpAny_pyIter_list p.isList ?_
    refine ⟨s1.heap.objs.size, [s1.heap.objs.size], _, _, H1, rfl, I1.kept (t' := s1.toks) fun b o e => Heap.get?_push_of_some _ e, turn_list a _, ⟨_, Heap.get?_push_size _ rfl, rfl, rfl⟩, fun b hb => ?_, q⟩
    have e : b = s1.heap.objs.size := by simpa using hb
    subst e
    exact I1.fpOk (Nat.le_refl _) (I1.hok.fresh (Nat.le_refl _))
  · obtain ⟨its, rv, p, hz⟩ := I1.tuple hq
    refine wpAny_pyIter_tuple (show s1.heap.IsTuple a its.toArray from p) ?_
    refine ⟨s1.heap.objs.size, [s1.heap.objs.size], _, _, H1, rfl, I1.kept (t' := s1.toks) fun b o e => Heap.get?_push_of_some _ e, turn_tuple a _, ⟨_, Heap.get?_push_size _ rfl, rfl, rfl⟩, fun b hb => ?_, q⟩
    have e : b = s1.heap.objs.size := by simpa using hb
    subst e
    exact I1.fpOk (Nat.le_refl _) (I1.hok.fresh (Nat.le_refl _))
theorem mi_seq {fe : SE} (he : PEm cl X W iter fe) : PIm cl X W tg iter (iSeq fe) := fun tk => by
  obtain ⟨te, h1, s1⟩ := he tk
  refine ⟨_, pi_val h1, fun m h H σ' σ Rk r rs q => s1 m h H σ' σ _ r rs (Post.bind q fun v h1 m1 H1 u _ p1 k1 r1 v1 q1 => ?_)⟩
  cases v with
  | tup xs =>
    obtain ⟨p0, us, e2, h2, h3⟩ := v1
    exact ⟨p0, e2, .inr ⟨⟨us, h2⟩, q1.now r1 (rel := fun m H s J => SrcOk (dm X cl) m H s J) (src_tup h2 h3)⟩⟩
  | ref j =>
    dsimp only at q1
    split at q1
    · rename_i xs hx
      obtain ⟨p0, us, e2, e3, h3, h4⟩ := vr_lst r1 v1 hx
      exact ⟨p0, e2, .inl ⟨⟨us, SqL.of h3⟩, q1.now r1 (rel := fun m H s J => SrcOk (dm X cl) m H s J) (src_lst e3)⟩⟩
    · exact q1.elim
  | _ => exact q1.elim
theorem mi_rng1 {fe : SE} (hg : Gl X "range") (hm : X.mg "range" = none) (he : PEm cl X W a fe) (hs : starEach [a] X.env = [(false, eval a X.env)] := by rfl) : PIm cl X W tg (.Call (.Name "range" p) [a] [] pos) (iRng1 fe) := fun tk => by
  obtain ⟨te, h1, s1⟩ := he tk
  refine ⟨_, pi_range1 hg hm (pa_cons h1 pa_nil hs) hs, fun m h H σ' σ Rk r rs q => s1 m h H σ' σ _ r rs (Post.bind q fun v h1 m1 H1 u _ p1 k1 r1 v1 q1 => ?_)⟩
  cases v with
  | int j =>
    dsimp only at q1
    split at q1
    · rename_i hh
      exact ⟨j, by rw [show u = _ from v1], hh.1, hh.2, q1.now r1 (rel := fun m H s J => SrcOk (dm X cl) m H s J) src_rng⟩
    · exact q1.elim
  | _ => exact q1.elim
theorem mi_rng2 {fa fb : SE} (hg : Gl X "range") (hm : X.mg "range" = none) (ha : PEm cl X W a fa) (hb : PEm cl X W b fb) (hs : starEach [a, b] X.env = [(false, eval a X.env), (false, eval b X.env)] := by rfl) (hs2 : starEach [b] X.env = [(false, eval b X.env)] := by rfl) :
    PIm cl X W tg (.Call (.Name "range" p) [a, b] [] pos) (iRng2 fa fb) := fun tk => by
  obtain ⟨ta, h1, s1⟩ := ha tk
  obtain ⟨tb, h2, s2⟩ := hb tk
  refine ⟨_, pi_range2 hg hm (pa_cons h1 (pa_cons h2 pa_nil hs2) (by rw [hs, hs2])) hs hs2, fun m h H σ' σ Rk r rs q => s1 m h H σ' σ _ r rs (Post.bind q fun v h1 m1 H1 u _ p1 k1 r1 v1 q1 => ?_)⟩
  refine s2 m1 h1 H1 σ' σ _ r1 (rs.mono p1 k1) (Post.bind q1 fun w h2 m2 H2 uw _ p2 k2 r2 v2 q2 => ?_)
  cases v <;> cases w <;> first | exact q2.elim | skip
  rename_i i0 _ j0 _
  dsimp only at q2
  split at q2
  · rename_i hh
    exact ⟨_, _, by rw [show u = _ from v1, show uw = _ from v2], hh, q2.now r2 (rel := fun m H s J => SrcOk (dm X cl) m H s J) src_rng⟩
  · exact q2.elim
theorem ms_for {fi : SI} {g : SG} {js : List Nat} {fb : SS} {body : List Stmt} (hp : PassesOwn (model X.prog X.w) X.A X.env X.xe) (hc : X.calm = true) (hi : PIm cl X W tg iter fi) (hg : PGm cl X tg g js) (hb : PSsm cl X W body fb)
    (hs : ∀ x, foldedSetIterable iter X.env x = pure x := by intro _; rfl) : PSm cl X W (.For tg iter body [] pos) (sFor fi g fb) := fun tk => by
  obtain ⟨ti, h1, s1⟩ := hi tk
  obtain ⟨tg', h2, s2⟩ := hg
  obtain ⟨tb, h3, s3⟩ := hb tk
  refine ⟨_, ps_for hp hc h1 h2 h3 hs, fun m h H σ' σ Dn r rs q => s1 m h H σ' σ _ r rs (PostS.to (rel := fun m H s J => SrcOk (dm X cl) m H s J) rs q fun sc h1 m1 H1 J _ p1 k1 r1 v1 q1 => ?_)⟩
  refine ⟨fun i0 n0 σ2 H2 => ∃ m2 h2 σ2', m1 <+: m2 ∧ Keep H1 H2 ∧ Rel (dm X cl) m2 h2 H2 ∧ RelS (dm X cl) m2 H2 σ2' σ2 ∧ PostS (dm X cl) m2 H2 (forL sc g fb n0 i0 σ2' h2) Dn W,
    ⟨_, m1, h1, σ', List.prefix_refl m1, .rfl', r1, rs.mono p1 k1, q1⟩, ?_⟩
  rintro i0 n0 σ2 H2 ⟨m2, h2, σ2', p2, k2, r2, rs2, q2⟩
  have sv := v1 m2 h2 H2 i0 p2 k2 r2
  unfold forL at q2
  split at q2
  · exact q2.elim
  · rename_i e0
    rw [e0] at sv
    exact .inl ⟨sv, PostS.now (W := W) q2 r2 rs2⟩
  · rename_i v e0
    rw [e0] at sv
    obtain ⟨go, yl⟩ := sv
    split at q2
    · exact q2.elim
    · rename_i n1
      refine .inr ⟨go, fun σ3 H3 => ∃ m3 h3 σ3', m1 <+: m3 ∧ Keep H1 H3 ∧ Rel (dm X cl) m3 h3 H3 ∧ RelS (dm X cl) m3 H3 σ3' σ3 ∧ PostS (dm X cl) m3 H3 (forL sc g fb n1 (i0 + 1) σ3' h3) Dn W, fun σ3 H3 h => ⟨n1, Nat.lt_succ_self _, h⟩, fun u H3 hy => ?_⟩
      obtain ⟨k3, r3, v3⟩ := yl u H3 hy
      have rs3 := rs2.mono (List.prefix_refl m2) k3
      have q3 := PostS.mono (List.prefix_refl m2) k3 q2
      split at q3
      · exact q3.elim
      · rename_i σ4' eg
        refine s2 m2 H3 σ2' σ4' σ2 v u _ rs3 v3 eg fun σ4 rs4 _ _ => ?_
        refine s3 m2 h2 H3 σ4' σ4 _ r3 rs4 ?_
        have kk := k2.trans k3
        cases eb : fb σ4' h2 with
        | bad => rw [eb] at q3; exact q3.elim
        | ex c0 fs0 σ0 h0 => rw [eb] at q3; exact q3
        | ok fl h5 =>
          rw [eb] at q3
          simp only [sbind_ok] at q3
          cases fl with
          | nx σ5 => exact fun m5 H5 p5 k5 r5 σ6 rs6 => ⟨m5, h5, σ5, p2.trans p5, kk.trans k5, r5, rs6, PostS.mono p5 k5 q3⟩
          | ct σ5 => exact fun m5 H5 p5 k5 r5 σ6 rs6 => ⟨m5, h5, σ5, p2.trans p5, kk.trans k5, r5, rs6, PostS.mono p5 k5 q3⟩
          | bk σ5 => exact q3
          | rt v5 => exact q3
end
end Mi

namespace Mi
open PySem PySem.Spec PyProof.Rows L2
section
variable {cl : Nat → Addr} {X : Cx} {W : WX} {C : CE} {k : Nat} {e a b c o i tg iter elt : Expr} {es ifs : List Expr} {pos p apos pos' : Pos} {x f : Str} {rest : List Expr} {st : Stmt} {sts : List Stmt}

def cE (cl : Nat → Addr) (K : PySem.W.Frag) (W : WX) (f : SE) : TE := fun σ H Q => ∃ m h σ', Rel ⟨K, cl⟩ m h H ∧ RelS ⟨K, cl⟩ m H σ' σ ∧ Post ⟨K, cl⟩ m H (relV ⟨K, cl⟩) (f σ' h) Q (atW W σ)
theorem PEm.can {f : SE} (h : PEm cl X W e f) (tk : Takes X W) : PE X e (cE cl X.K W f) := by
  obtain ⟨t, h1, s1⟩ := h tk
  exact ⟨fun pins s σ H Q I ⟨m, h, σ', r, rs, q⟩ => h1.run pins s σ H Q I (s1 m h H σ' σ Q r rs q)⟩
def PTsm (cl : Nat → Addr) (X : Cx) (W : WX) (ifs : List Expr) (f : SB) : Prop := Takes X W → ∃ t, PTs X ifs t ∧ ∀ (m : List Addr) (h : AH) (H : Hp) (σ' : Sl) (σ : L2.St) (Q : Bool → Hp → Prop),
  Rel (dm X cl) m h H → RelS (dm X cl) m H σ' σ → Post (dm X cl) m H relB (f σ' h) Q (atW W σ) → t σ H Q
theorem mts_nil : PTsm cl X W [] tYes := fun _ => ⟨_, pts_nil, fun m h H σ' σ Q r rs q => q.now r rfl⟩
theorem mts_one {f : SB} (h : PTm cl X W c f) : PTsm cl X W [c] f := fun tk => by
  obtain ⟨t, h1, s1⟩ := h tk
  exact ⟨t, pts_one h1, s1⟩
def cT (cl : Nat → Addr) (K : PySem.W.Frag) (W : WX) (f : SB) : TT := fun σ H Q => ∃ m h σ', Rel ⟨K, cl⟩ m h H ∧ RelS ⟨K, cl⟩ m H σ' σ ∧ Post ⟨K, cl⟩ m H relB (f σ' h) Q (atW W σ)
theorem PTsm.can {f : SB} (h : PTsm cl X W ifs f) (tk : Takes X W) : PTs X ifs (cT cl X.K W f) := by
  obtain ⟨t, h1, s1⟩ := h tk
  exact ⟨fun pins s σ H Q I ⟨m, h, σ', r, rs, q⟩ => h1.run pins s σ H Q I (s1 m h H σ' σ Q r rs q)⟩
def cG (cl : Nat → Addr) (K : PySem.W.Frag) (g : SG) (js : List Nat) : TG := fun u σ H Q => ∃ m σ' σ1 v, RelS ⟨K, cl⟩ m H σ' σ ∧ VR ⟨K, cl⟩ m H v u ∧ g v σ' = some σ1 ∧ ∀ σ2 : L2.St, RelS ⟨K, cl⟩ m H σ1 σ2 → σ2.length = σ.length → (∀ j, j ∉ js → σ2[j]? = σ[j]?) → Q σ2 H
theorem PGm.can {g : SG} {js : List Nat} (h : PGm cl X tg g js) : PG X tg (cG cl X.K g js) := by
  obtain ⟨t, h1, s1⟩ := h
  exact ⟨fun pins s σ H v u Q I r ⟨m, σ', σ1, w, rs, hv, e, q⟩ => h1.run pins s σ H v u Q I r (s1 m H σ' σ1 σ w v Q rs hv e q)⟩
abbrev W0 : WX := fun _ _ _ _ => False
theorem wipe_get : ∀ (vs : List Nat) (σ : L2.St) (j : Nat), (L2.wipe σ vs)[j]? = if j ∈ vs then (if j < σ.length then some none else none) else σ[j]?
  | [], σ, j => by simp [L2.wipe]
  | v :: vs, σ, j => by
    unfold L2.wipe
    rw [List.getElem?_set, wipe_get vs σ j, L2.wipe_length]
    by_cases hj : v = j
    · subst hj; simp
    · simp [hj, Ne.symm hj]
theorem wipe_eq {σ1 σ2 : L2.St} {vs js : List Nat} (hl : σ1.length = σ2.length) (hs : ∀ j ∈ js, j ∈ vs) (h : ∀ j, j ∉ js → σ1[j]? = σ2[j]?) : L2.wipe σ1 vs = L2.wipe σ2 vs := by
  refine List.ext_getElem? fun j => ?_
  rw [wipe_get, wipe_get, hl]
  by_cases hj : j ∈ vs
  · rw [if_pos hj, if_pos hj]
  · rw [if_neg hj, if_neg hj, h j fun z => hj (hs j z)]
theorem wipe_wipe (σ : L2.St) (vs : List Nat) : L2.wipe (L2.wipe σ vs) vs = L2.wipe σ vs := by
  refine List.ext_getElem? fun j => ?_
  rw [wipe_get, wipe_get, L2.wipe_length]
  by_cases hj : j ∈ vs
  · rw [if_pos hj, if_pos hj]
  · rw [if_neg hj, if_neg hj]
/-- a comprehension's reading, by its shadow -/
theorem lc_sem {D : Dm} {m : List Addr} {h : AH} {H : Hp} {σ' : Sl} {σ : L2.St} {Q : VK} {E : XK} {fi : SI} {g : SG} {js vs : List Nat} {ft : SB} {fe : SE} {wi : TI} (hjs : ∀ j ∈ js, j ∈ vs)
    (hi : ∀ Rk : It → Hp → Prop, Post D m H (fun m H s J => SrcOk D m H s J) (fi σ' h) Rk E → wi σ H Rk) (rs : RelS D m H σ' σ)
    (q : Post D m H (relV D) (sLc fi g ft fe vs σ' h) Q E) : tLc wi (cG D.cls D.K g js) (cT D.cls D.K W0 ft) (cE D.cls D.K W0 fe) vs σ H Q := by
  refine hi _ (Post.bind (rel2 := relV D) q fun sc h1 m1 H1 J _ p1 k1 r1 v1 q1 => ?_)
  intro Da nD
  have pre : m1 <+: m1 ++ [Da] := ⟨[Da], rfl⟩
  have kD : Keep H1 (upd H1 Da (.lst [])) := Keep.new nD
  have hD : (m1 ++ [Da])[h1.length]? = some Da := by rw [← r1.len]; simp
  refine ⟨fun i0 n0 H2 => ∃ m2 h2, m1 ++ [Da] <+: m2 ∧ Keep (upd H1 Da (.lst [])) H2 ∧ Rel D m2 h2 H2 ∧ Post D m2 H2 (relV D) (lcL sc g ft fe h1.length (wipeA σ' vs) n0 i0 h2) Q E,
    ⟨_, m1 ++ [Da], _, List.prefix_refl _, .rfl', r1.push (o := .lst []) (r1.free nD) kD (r1.stays nD) ⟨[], upd_same, rfl⟩, q1.mono pre kD⟩, ?_⟩
  rintro i0 n0 H2 ⟨m2, h2, p2, k2, r2, q2⟩
  have sv := v1 m2 h2 H2 i0 (pre.trans p2) (kD.trans k2) r2
  unfold lcL at q2
  split at q2
  · exact q2.elim
  · rename_i e0
    rw [e0] at sv
    exact .inl ⟨sv, q2.now r2 ⟨Da, pre_get p2 hD, rfl⟩⟩
  · rename_i v e0
    rw [e0] at sv
    obtain ⟨go, yl⟩ := sv
    split at q2
    · exact q2.elim
    · rename_i n1
      refine .inr ⟨go, fun H3 => ∃ m3 h3, m1 ++ [Da] <+: m3 ∧ Keep (upd H1 Da (.lst [])) H3 ∧ Rel D m3 h3 H3 ∧ Post D m3 H3 (relV D) (lcL sc g ft fe h1.length (wipeA σ' vs) n1 (i0 + 1) h3) Q E, fun H3 h => ⟨n1, Nat.lt_succ_self _, h⟩, fun u H3 hy => ?_⟩
      obtain ⟨k3, r3, v3⟩ := yl u H3 hy
      have q3 := Post.mono (List.prefix_refl m2) k3 q2
      have kk := k2.trans k3
      have rs0 : RelS D m2 H3 σ' σ := ((rs.mono p1 k1).mono (pre.trans p2) ((kD.trans k2).trans k3))
      split at q3
      · rename_i σ4' eg
        refine ⟨m2, _, σ4', v, rs0.wipe vs, v3, eg, fun σ4 rs4 l4 o4 => ⟨?_, m2, h2, σ4', r3, rs4, ?_⟩⟩
        · rw [← wipe_wipe σ vs]
          exact wipe_eq l4 hjs o4
        · split at q3
          · rename_i h4 e4
            rw [e4]
            intro m4 H4 t4 p4 k4 r4 z4
            subst z4
            rw [if_pos rfl]
            refine ⟨m4, h4, σ4', r4, rs4.mono p4 k4, ?_⟩
            split at q3
            · rename_i w h5 e5
              rw [e5]
              intro m5 H5 y p5 k5 r5 v5
              split at q3
              · rename_i acc eD
                split at q3
                · rename_i hl
                  have hD5 : m5[h1.length]? = some Da := pre_get p5 (pre_get p4 (pre_get p2 hD))
                  obtain ⟨us, h6, h7⟩ := r5.ob _ _ Da eD hD5
                  refine ⟨us, h6, by rw [h7.length]; exact hl, m5, _, (p2.trans p4).trans p5, ?_, r5.lst hD5 h6 (h7.append (ys := [w]) ⟨_, _, rfl, v5, rfl⟩), ?_⟩
                  · exact ((kk.trans k4).trans k5).trans (Keep.chg h6 trivial)
                  · exact (Post.mono (p4.trans p5) ((k4.trans k5).trans (Keep.chg h6 trivial)) q3)
                · exact q3.elim
              · exact q3.elim
            · exact q3.elim
          · rename_i h4 e4
            rw [e4]
            intro m4 H4 t4 p4 k4 r4 z4
            subst z4
            rw [if_neg Bool.false_ne_true]
            exact ⟨m4, h4, p2.trans p4, kk.trans k4, r4, Post.mono p4 k4 q3⟩
          · exact q3.elim
      · exact q3.elim
theorem m_lc {fi : SI} {g : SG} {js : List Nat} {ft : SB} {fe : SE} {scope : Scope} {own : List (Str × Nat)} (hc : X.calm = true) (hN : X.N.Nodup) (hi : PIm cl X W tg iter fi) (ok : BlkOk X.N X.env.scope scope own) (hjs : ∀ j ∈ js, j ∈ own.map (·.2))
    (hg : ∀ (s : Shared) (H : Hp) (C : Addr) (cl' : List (Str × Addr)) (fp : List Addr), PGm cl (X.blk s H scope (compEnvC scope cl' C X.env) fp) tg g js)
    (ht : ∀ (s : Shared) (H : Hp) (C : Addr) (cl' : List (Str × Addr)) (fp : List Addr), PTsm cl (X.blk s H scope (compEnvC scope cl' C X.env) fp) W0 ifs ft)
    (he : ∀ (s : Shared) (H : Hp) (C : Addr) (cl' : List (Str × Addr)) (fp : List Addr), PEm cl (X.blk s H scope (compEnvC scope cl' C X.env) fp) W0 elt fe) (hs : ∀ x, foldedSetIterable iter X.env x = pure x := by intro _; rfl) :
    PEm cl X W (.ListComp elt [⟨tg, iter, ifs, 0⟩] scope pos) (sLc fi g ft fe (own.map (·.2))) := fun tk => by
  obtain ⟨wi, h1, s1⟩ := hi tk
  refine ⟨_, pe_lc (te := cE cl X.K W0 fe) (tt := cT cl X.K W0 ft) (g := cG cl X.K g js) hc hN h1 ok (fun s H C cl' fp => (hg s H C cl' fp).can) (fun s H C cl' fp => (ht s H C cl' fp).can takes0) (fun s H C cl' fp => (he s H C cl' fp).can takes0) hs, fun m h H σ' σ Q r rs q => ?_⟩
  exact lc_sem (D := dm X cl) hjs (fun Rk => s1 m h H σ' σ Rk r rs) rs q
/-- y = [..] on one line -/
theorem ms_lc {y : Str} {py spos : Pos} (j0 : Nat) {fi : SI} {g : SG} {js : List Nat} {ft : SB} {fe : SE} {scope : Scope} {own : List (Str × Nat)} (hc : X.calm = true) (hN : X.N.Nodup) (hsw : swapsWith (.ListComp elt [⟨tg, iter, ifs, 0⟩] scope pos) (some (.Name y py)) spos.line X.env = pure true) (hi : PIm cl X W tg iter fi) (ok : BlkOk X.N X.env.scope scope own) (hjs : ∀ j ∈ js, j ∈ own.map (·.2))
    (hg : ∀ (s : Shared) (H : Hp) (C : Addr) (cl' : List (Str × Addr)) (fp : List Addr), PGm cl (X.blk s H scope (compEnvC scope cl' C X.env) fp) tg g js)
    (ht : ∀ (s : Shared) (H : Hp) (C : Addr) (cl' : List (Str × Addr)) (fp : List Addr), PTsm cl (X.blk s H scope (compEnvC scope cl' C X.env) fp) W0 ifs ft)
    (he : ∀ (s : Shared) (H : Hp) (C : Addr) (cl' : List (Str × Addr)) (fp : List Addr), PEm cl (X.blk s H scope (compEnvC scope cl' C X.env) fp) W0 elt fe) (hy : X.N[j0]? = some y := by rfl) (hyl : X.env.scope.names.lookup y = some .local := by rfl)
    (hs : ∀ x, foldedSetIterable iter X.env x = pure x := by intro _; rfl) :
    PSm cl X W (.Assign [.Name y py] (.ListComp elt [⟨tg, iter, ifs, 0⟩] scope pos) spos) (ssSet j0 (sLc fi g ft fe (own.map (·.2)))) := fun tk => by
  obtain ⟨wi, h1, s1⟩ := hi tk
  refine ⟨_, ps_setLc (te := cE cl X.K W0 fe) (tt := cT cl X.K W0 ft) (g := cG cl X.K g js) (i := j0) hc hN hy hyl hsw h1 ok (fun s H C cl' fp => (hg s H C cl' fp).can) (fun s H C cl' fp => (ht s H C cl' fp).can takes0) (fun s H C cl' fp => (he s H C cl' fp).can takes0) hs, fun m h H σ' σ Dn r rs q => ?_⟩
  refine lc_sem (D := dm X cl) (E := atW W σ) hjs (fun Rk => s1 m h H σ' σ Rk r rs) rs (PostS.to rs q fun v h1 m1 H1 u _ p1 k1 r1 v1 q1 => ?_)
  exact PostS.now (W := W) q1 r1 ((rs.mono p1 k1).set j0 v1)

def CallRs (X : Cx) (f : Value) (r : L2.St → List V → Hp → VK → Prop) : Prop :=
  ∀ (pins : List (Addr × Obj)) (s : Shared) (σ : L2.St) (H : Hp) (xs : List V) (us : List Value) (Q : VK), Inv X pins σ H s → Vals xs us → r σ xs H Q → wpAny (model X.prog X.w) X.A (call f us) (EP X pins σ Q) X.xe s
theorem CallRs.or {f : Value} {r r' : L2.St → List V → Hp → VK → Prop} (h : CallRs X f r) (h' : CallRs X f r') : CallRs X f (fun σ x H Q => r σ x H Q ∨ r' σ x H Q) := fun pins s σ H x us Q I rx q => q.elim (h pins s σ H x us Q I rx) (h' pins s σ H x us Q I rx)
theorem CallRs.of {f : Value} {r : List V → Hp → VK → Prop} (h : CallR X f r) : CallRs X f (fun _ => r) := h
def CallOk (cl : Nat → Addr) (X : Cx) (W : WX) (fv : Value) (f : List AV → AH → R AV) : Prop := Takes X W → ∃ r, CallRs X fv r ∧ ∀ (m : List Addr) (h : AH) (H : Hp) (σ : L2.St) (vs : List AV) (us : List V) (Q : VK),
  Rel (dm X cl) m h H → VRs (dm X cl) m H vs us → Post (dm X cl) m H (relV (dm X cl)) (f vs h) Q (atW W σ) → r σ us H Q
theorem m_callB {id : String} {f : List AV → AH → R AV} {fa : SA} (hk : CallOk cl X W (.builtin id) f) (hg : Gl X x) (hm : X.mg x = none) (hv : bootBuiltins x = some (.builtin id)) (ha : PAm cl X W (e :: es) fa) (hn : x ≠ "__name__" := by decide) (hdb : (x == ("__debug__" : Str)) = false := by decide)
    (he : starEach (e :: es) X.env = (false, eval e X.env) :: starEach es X.env := by rfl) (hpl : (backTo pos (starEach es X.env)).any (·.1) = false := by rfl) : PEm cl X W (.Call (.Name x p) (e :: es) [] pos) (opN f fa) := fun tk => by
  obtain ⟨r, hr, sr⟩ := hk tk
  obtain ⟨ta, h1, s1⟩ := ha tk
  refine ⟨fun σ H Q => ta σ H fun vs H1 => r σ vs H1 Q, ⟨fun pins s σ H Q I h => ?_⟩, fun m h H σ' σ Q rl rs q => s1 m h H σ' σ _ rl rs (Post.bind q fun vs h1 m1 H1 us _ p1 k1 r1 v1 q1 => sr m1 h1 H1 σ vs us Q r1 v1 q1)⟩
  refine wpAny_Call_Name_kw (ld_blt I hg hm hv ?_ hn hdb)
  exact PyProof.Rows.callWith_builtin1 (thn (h1.run pos pins s σ H _ I h) fun us s1 ⟨vs, H1, I1, r1, q1⟩ => hr pins s1 σ H1 vs us Q I1 r1 q1) he hpl
theorem m_callTy {T : String} {f : List AV → AH → R AV} {fa : SA} (hk : CallOk cl X W (.type T) f) (hg : Gl X x) (hm : X.mg x = none) (hv : bootBuiltins x = some (.type T)) (ha : PAm cl X W (e :: es) fa) (hn : x ≠ "__name__" := by decide) (hdb : (x == ("__debug__" : Str)) = false := by decide)
    (he : starEach (e :: es) X.env = (false, eval e X.env) :: starEach es X.env := by rfl) (hpl : (backTo pos (starEach es X.env)).any (·.1) = false := by rfl) : PEm cl X W (.Call (.Name x p) (e :: es) [] pos) (opN f fa) := fun tk => by
  obtain ⟨r, hr, sr⟩ := hk tk
  obtain ⟨ta, h1, s1⟩ := ha tk
  refine ⟨fun σ H Q => ta σ H fun vs H1 => r σ vs H1 Q, ⟨fun pins s σ H Q I h => ?_⟩, fun m h H σ' σ Q rl rs q => s1 m h H σ' σ _ rl rs (Post.bind q fun vs h1 m1 H1 us _ p1 k1 r1 v1 q1 => sr m1 h1 H1 σ vs us Q r1 v1 q1)⟩
  refine wpAny_Call_Name_kw (ld_blt I hg hm hv ?_ hn hdb)
  exact PyProof.Rows.callWith_type1 (thn (h1.run pos pins s σ H _ I h) fun us s1 ⟨vs, H1, I1, r1, q1⟩ => hr pins s1 σ H1 vs us Q I1 r1 q1) he hpl
/-- a built-in of one argument -/
theorem CallOk.one {fv : Value} {g : AV → AH → R AV} (r : L2.St → List V → Hp → VK → Prop) (h : CallRs X fv r) (s : ∀ (m : List Addr) (h : AH) (H : Hp) (σ : L2.St) (v : AV) (u : V) (Q : VK),
    Rel (dm X cl) m h H → VR (dm X cl) m H v u → Post (dm X cl) m H (relV (dm X cl)) (g v h) Q (atW W σ) → r σ [u] H Q) : CallOk cl X W fv (arg1 g) := fun tk => ⟨r, h, fun m h H σ vs us Q rl hv q => by
  match vs, hv with
  | [v], ⟨u, _, e1, h1, e2⟩ => rw [e1, show _ = [] from e2]; exact s m h H σ v u Q rl h1 q
  | [], _ => exact q.elim
  | _ :: _ :: _, _ => exact q.elim⟩
/-- len of an instance, by its class's __len__ -/
def rLenD (cl : Nat → Addr) (X : Cx) (W : WX) (C : CE) : L2.St → List V → Hp → VK → Prop := fun σ xs H Q => ∃ (c i : Nat) (a dx : Addr) (fs : List (Str × V)), C.dn c .len = some i ∧ xs = [.ref a] ∧ H a = some (.ins (cl c) dx fs) ∧
  spF cl X.K (C.call i) [.ref a] H (fun v H' => ∃ n, v = .int n ∧ 0 ≤ n ∧ n ≤ 1000000 ∧ Q v H') (atW W σ)
/-- a def runs one C frame below -/
theorem run_in1 {pins : List (Addr × Obj)} {σ : L2.St} {H : Hp} {s : Shared} {f : Addr} {sp : Sp} {Q : VK} {us : List Value} {vs : List V} (F : FnR X.prog X.w X.K X.mg X.base (L2.CX X.prog X.w) k f sp) (hr : Room (k + 1) X.A) (tk : Takes X W) (I : Inv X pins σ H s) (r : Vals vs us) (h : sp vs H Q (atW W σ)) :
    wpAny (model X.prog X.w) X.A.in1 (call (.ref f) us) (EP X pins σ Q) X.xe s := by
  refine wpAny_call (codeAny_mono (F X.A.in1 X.stack s H us vs Q (atW W σ) hr.in1 I.env0.in1 r h) fun r s' hq => ?_)
  cases r with
  | error e => exact passAt tk σ pins H s e s' I hq
  | ok fl =>
    cases fl with
    | ret u => exact I.after hq
    | next => exact False.elim hq
    | brk => exact False.elim hq
    | cont => exact False.elim hq
theorem call_lenD (T : DunT cl X k C .len "__len__") (hr : Room (k + 1) X.A) (tk : Takes X W) : CallRs X (.builtin "len") (rLenD cl X W C) := by
  intro pins s σ H xs us Q I r h
  obtain ⟨c, i, a, dx, fs, e, rfl, ha, q⟩ := h
  obtain ⟨u, rfl, ru⟩ := vals1 r
  cases (show u = Value.ref a from ru)
  obtain ⟨⟨f, F⟩, hs, _⟩ := T c i e
  obtain ⟨ox, od, J⟩ := inst_at I ha
  obtain ⟨m, hF⟩ := I.fr
  refine PySem.W.len_K hF I.ok.mod.kin J F.at_ F.fn ?_
  refine wpAny_mono (run_in1 (us := [.ref a]) (vs := [.ref a]) F.run hr tk I (.cons rfl .nil) q) (fun w s' z => ?_) fun _ _ x => x
  obtain ⟨z', H', I', rz, n, en, h0, h1, qz⟩ := z
  subst en
  obtain ⟨t, et⟩ := (show ∃ t, w = Value.int n t from rz)
  subst et
  exact ⟨⟨h0, by omega⟩, .int n, H', I'.tok _, ⟨_, rfl⟩, qz⟩
theorem c_len (T : DunT cl X k C .len "__len__") (hr : Room (k + 1) X.A) : CallOk cl X W (.builtin "len") (arg1 (bLen C)) := fun tk => CallOk.one _ ((CallRs.of call_len).or (call_lenD T hr tk)) (fun m h H σ v u Q r hv q => by
  unfold bLen at q
  split at q
  · split at q
    · rename_i hl
      exact .inl ⟨u, _, rfl, by rw [show u = _ from hv]; exact ⟨hl, rfl⟩, q.now r rfl⟩
    · exact q.elim
  · split at q
    · rename_i xs ex
      obtain ⟨p0, us, e1, hq, h2⟩ := seqOf_sq r hv ex
      subst e1
      refine .inl ⟨_, us.length, rfl, ?_, ?_⟩
      · rcases hq with hq | hq
        · exact .inl ⟨us, hq, rfl⟩
        · exact .inr ⟨us, hq, rfl⟩
      · rw [h2.length]; exact q.now r rfl
    · split at q
      · rename_i c fs ec
        split at q
        · rename_i i ei
          obtain ⟨a0, dx, gs, rfl, h3, h4, _⟩ := cls_get r hv ec
          refine .inr ⟨c, i, a0, dx, gs, ei, rfl, h3, m, h, [v], r, ⟨_, _, rfl, hv, rfl⟩, ?_⟩
          split at q
          · rename_i n h1 en
            split at q
            · rename_i hh
              rw [en]
              exact fun m' H' u a b c d => ⟨n, d, hh.1, hh.2, q m' H' u a b c d⟩
            · exact q.elim
          · exact q.elim
        · exact q.elim
      · exact q.elim) tk
theorem c_int : CallOk cl X W (.type "int") (arg1 bInt) := CallOk.one _ (CallRs.of call_int1) fun m h H σ v u Q r hv q => by
  unfold bInt at q
  split at q
  · exact .inl ⟨_, by rw [show u = _ from hv], q.now r rfl⟩
  · exact q.elim
theorem c_str : CallOk cl X W (.type "str") (arg1 bStr) := CallOk.one _ (CallRs.of SkE.call_str_str) fun m h H σ v u Q r hv q => by
  unfold bStr at q
  split at q
  · exact ⟨_, by rw [show u = _ from hv], q.now r rfl⟩
  · exact q.elim
theorem lst_get {D : Dm} {m : List Addr} {H : Hp} {h : AH} {v : AV} {u : V} {xs : List AV} (r : Rel D m h H) (hv : VR D m H v u) (e : lstOf v h = some xs) : ∃ i p us, v = .ref i ∧ u = .ref p ∧ m[i]? = some p ∧ h[i]? = some (.lst xs) ∧ H p = some (.lst us) ∧ VRs D m H xs us := by
  cases v with
  | ref j =>
    simp only [lstOf] at e
    split at e
    · rename_i ys hy
      cases e
      obtain ⟨p0, us, e1, e2, h1, h2⟩ := vr_lst r hv hy
      exact ⟨j, p0, us, rfl, e1, e2, hy, h1, h2⟩
    · cases e
  | _ => cases e
theorem c_all (hc : X.calm = true) : CallOk cl X W (.builtin "all") (arg1 bAll) := CallOk.one _ (CallRs.of (cr_all hc)) fun m h H σ v u Q r hv q => by
  unfold bAll at q
  split at q
  · rename_i xs ex
    split at q
    · rename_i bs eb
      obtain ⟨i0, p0, us, _, e1, _, _, h1, h2⟩ := lst_get r hv ex
      have z := vrs_bls eb h2
      subst z e1
      exact ⟨p0, bs, rfl, SqL.of h1, q.now r rfl⟩
    · exact q.elim
  · exact q.elim
end
end Mi

namespace Mi
open PySem PySem.Spec PyProof.Rows L2

theorem lt_irrefl : ∀ a : List Nat, ltCps a a = false
  | [] => rfl
  | a :: r => by simp [ltCps, lt_irrefl r]
theorem lt_trans' : ∀ a b c : List Nat, ltCps a b = true → ltCps b c = true → ltCps a c = true
  | [], [], _, h, _ => by cases h
  | [], _ :: _, [], _, h => by cases h
  | [], _ :: _, _ :: _, _, _ => rfl
  | _ :: _, [], _, h, _ => by cases h
  | _ :: _, _ :: _, [], _, h => by cases h
  | a :: r, b :: s, c :: t, h1, h2 => by
    simp only [ltCps, Bool.or_eq_true, decide_eq_true_eq, Bool.and_eq_true, beq_iff_eq] at h1 h2 ⊢
    rcases h1 with h1 | ⟨h1, h1'⟩ <;> rcases h2 with h2 | ⟨h2, h2'⟩
    · exact .inl (by omega)
    · exact .inl (by omega)
    · exact .inl (by omega)
    · exact .inr ⟨by omega, lt_trans' r s t h1' h2'⟩
theorem lt_tri : ∀ a b : List Nat, ltCps a b = false → ltCps b a = false → a = b
  | [], [], _, _ => rfl
  | [], _ :: _, h, _ => by cases h
  | _ :: _, [], _, h => by cases h
  | a :: r, b :: s, h1, h2 => by
    simp only [ltCps, Bool.or_eq_false_iff, decide_eq_false_iff_not, Bool.and_eq_false_iff, beq_eq_false_iff_ne] at h1 h2
    have e : a = b := by omega
    subst e
    have h1' := h1.2.resolve_left (fun z => z rfl)
    have h2' := h2.2.resolve_left (fun z => z rfl)
    rw [lt_tri r s h1' h2']
theorem leS_trans (a b c : Str) (h1 : leS a b = true) (h2 : leS b c = true) : leS a c = true := by
  unfold leS at *
  rw [Bool.not_eq_true'] at *
  cases h : ltCps c.cps.toList a.cps.toList with
  | false => rfl
  | true =>
    cases hb : ltCps a.cps.toList b.cps.toList with
    | true => rw [lt_trans' _ _ _ h hb] at h2; cases h2
    | false =>
      have e := lt_tri _ _ hb h1
      rw [← e] at h2
      rw [h] at h2; cases h2
theorem leS_total (a b : Str) : (leS a b || leS b a) = true := by
  unfold leS
  cases h : ltCps b.cps.toList a.cps.toList with
  | false => rfl
  | true =>
    cases h' : ltCps a.cps.toList b.cps.toList with
    | false => rfl
    | true =>
      have z := lt_trans' _ _ _ h h'
      rw [lt_irrefl] at z; cases z
theorem leS_anti {a b : Str} (h1 : leS a b = true) (h2 : leS b a = true) : a = b := by
  unfold leS at *
  rw [Bool.not_eq_true'] at *
  have e := lt_tri _ _ h2 h1
  cases a; cases b
  simpa using e
theorem rising_pw : ∀ (p : Str) (l : List Str), risingS p l = true → (p :: l).Pairwise (fun a b => leS a b = true)
  | p, [], _ => by simp
  | p, x :: r, h => by
    have h' : (!ltCps x.cps.toList p.cps.toList && risingS x r) = true := h
    rw [Bool.and_eq_true] at h'
    have ih := rising_pw x r h'.2
    refine List.pairwise_cons.mpr ⟨fun y hy => ?_, ih⟩
    rcases List.mem_cons.mp hy with rfl | hy
    · exact h'.1
    · exact leS_trans _ _ _ h'.1 ((List.pairwise_cons.mp ih).1 y hy)
theorem sortedS_pw : ∀ l : List Str, sortedS l = true → l.Pairwise (fun a b => leS a b = true)
  | [], _ => .nil
  | x :: r, h => rising_pw x r h
theorem pw_uniq : ∀ {l1 l2 : List Str}, l1.Perm l2 → l1.Pairwise (fun a b => leS a b = true) → l2.Pairwise (fun a b => leS a b = true) → l1 = l2
  | [], l2, p, _, _ => (List.nil_perm.mp p).symm
  | a :: l1, l2, p, h1, h2 => by
    cases l2 with
    | nil => exact absurd (List.perm_nil.mp p) (by simp)
    | cons b l2 =>
      have ha : a ∈ b :: l2 := p.mem_iff.mp (by simp)
      have hb : b ∈ a :: l1 := p.mem_iff.mpr (by simp)
      have e : a = b := by
        rcases List.mem_cons.mp ha with e | ha
        · exact e
        · rcases List.mem_cons.mp hb with e | hb
          · exact e.symm
          · exact leS_anti ((List.pairwise_cons.mp h1).1 b hb) ((List.pairwise_cons.mp h2).1 a ha)
      subst e
      rw [pw_uniq ((List.perm_cons a).mp p) (List.pairwise_cons.mp h1).2 (List.pairwise_cons.mp h2).2]
theorem sortS_pw (l : List Str) : (sortS l).Pairwise (fun a b => leS a b = true) := List.pairwise_mergeSort leS_trans leS_total l
theorem sortS_perm (l : List Str) : (sortS l).Perm l := List.mergeSort_perm l leS
theorem sortS_uniq {l ys : List Str} (p : ys.Perm l) (h : sortedS ys = true) : ys = sortS l := pw_uniq (p.trans (sortS_perm l).symm) (sortedS_pw ys h) (sortS_pw l)
theorem sortS_congr {l1 l2 : List Str} (p : l1.Perm l2) : sortS l1 = sortS l2 := pw_uniq ((sortS_perm l1).trans (p.trans (sortS_perm l2).symm)) (sortS_pw l1) (sortS_pw l2)
section
variable {cl : Nat → Addr} {X : Cx} {W : WX} {C : CE} {k : Nat} {e a b c o i tg iter elt : Expr} {es ifs : List Expr} {pos p apos pos' : Pos} {x f : Str} {rest : List Expr} {st : Stmt} {sts : List Stmt}
theorem c_sorted : CallOk cl X W (.builtin "sorted") (arg1 bSorted) := CallOk.one _ (CallRs.of cr_sortedS) fun m h H σ v u Q r hv q => by
  unfold bSorted at q
  split at q
  · rename_i xs ex
    split at q
    · rename_i ss es
      split at q
      · rename_i hl
        obtain ⟨i0, p0, us, _, e1, _, _, h1, h2⟩ := lst_get r hv ex
        have z := vrs_strs es h2
        subst z e1
        refine ⟨p0, ss, rfl, SqL.of h1, hl, fun ys pp hp hs hn => ?_⟩
        have e := sortS_uniq hp hs
        subst e
        exact Post.newLst r (vrs_of_strs _) q pp hn
      · exact q.elim
    · exact q.elim
  · exact q.elim

/-- what isinstance asks of an own class -/
structure IsaC (K : PySem.W.Frag) (C : Addr) : Prop where
  cl : Cls K C
  ca : PySem.W.findIn K (.ref C) "__class__" = some (some (.builtin "object.__class__"))
  cn : PySem.W.specialIn K (.builtin "object.__class__") "__get__" = some (some (.builtin "getset_descriptor.__get__"))
  ct : PySem.W.takesIn K (.builtin "object.__class__") = some true
  cm : PySem.W.mroIn K C (.type "object") = some true
theorem IsaC.ty {K : PySem.W.Frag} {C : Addr} (c : IsaC K C) {H : Hp} {a dx : Addr} {fs : List (Str × V)} (e : H a = some (.ins C dx fs)) : TyX K H (.ref a) (.ref C) := .base (.ins e c.cl c.ca c.cn c.ct c.cm)
/-- what isinstance(.., C) asks of C -/
structure IsaT (K : PySem.W.Frag) (cl : Nat → Addr) (C : Addr) (cs : List (Nat × Bool)) : Prop where
  own : ∀ c b, cs.lookup c = some b → IsaC K (cl c) ∧ PySem.W.kitOne K (.ref (cl c)) (.ref C) = some b
  bl : PySem.W.kitOne K (.type "bool") (.ref C) = some false
  int : PySem.W.kitOne K (.type "int") (.ref C) = some false
  str : PySem.W.kitOne K (.type "str") (.ref C) = some false
  non : PySem.W.kitOne K (.type "NoneType") (.ref C) = some false
  lst : PySem.W.kitOne K (.type "list") (.ref C) = some false
theorem m_isA {fe : SE} {Ca : Addr} {cs : List (Nat × Bool)} {y : Str} {p2 : Pos} (T : IsaT X.K cl Ca cs)
    (hg : Gl X "isinstance") (hm : X.mg "isinstance" = none) (hg2 : Gl X y) (hm2 : X.mg y = some (.ref Ca)) (ha : PEm cl X W e fe) (hd : (y == ("__debug__" : Str)) = false := by decide)
    (he : starEach (e :: [.Name y p2]) X.env = (false, eval e X.env) :: starEach [.Name y p2] X.env := by rfl) (hpl : (backTo pos (starEach [.Name y p2] X.env)).any (·.1) = false := by rfl) :
    PEm cl X W (.Call (.Name "isinstance" p) [e, .Name y p2] [] pos) (op1 (bIsA cs) fe) := fun tk => by
  obtain ⟨ta, a1, s1⟩ := ha tk
  refine ⟨_, pe_callB call_isi hg hm (by decide +kernel) (pa_cons a1 (pa_cons (pe_glob (v := .ref Ca) hg2 hm2 rfl hd) pa_nil) he) (he := he) (hpl := hpl), fun m h H σ' σ Q r rs q => s1 m h H σ' σ _ r rs (Post.bind q fun v h1' m1 H1 u _ p1 k1 r1 v1 q1 => ?_)⟩
  show ∃ (x c : V) (t u' : Value) (b : Bool), [u, V.ref Ca] = [x, c] ∧ ClsV c u' ∧ TyX X.K H1 x t ∧ PySem.W.kitOne X.K t u' = some b ∧ Q (.bl b) H1
  cases v with
  | bl b0 => exact ⟨u, _, _, _, _, rfl, .own _, by rw [show u = _ from v1]; exact .base (.bl b0), T.bl, q1.now r1 rfl⟩
  | int b0 => exact ⟨u, _, _, _, _, rfl, .own _, by rw [show u = _ from v1]; exact .base (.int b0), T.int, q1.now r1 rfl⟩
  | str b0 => exact ⟨u, _, _, _, _, rfl, .own _, by rw [show u = _ from v1]; exact .base (.str b0), T.str, q1.now r1 rfl⟩
  | non => exact ⟨u, _, _, _, _, rfl, .own _, by rw [show u = _ from v1]; exact .base .non, T.non, q1.now r1 rfl⟩
  | tup _ => exact q1.elim
  | scr _ => exact q1.elim
  | ref j =>
    unfold bIsA at q1
    dsimp only at q1
    split at q1
    · rename_i c' fs ej
      obtain ⟨a0, h6, e6⟩ := v1
      subst e6
      obtain ⟨dx, gs, h7, h8⟩ := r1.ob j _ a0 ej h6
      split at q1
      · rename_i b0 eb
        obtain ⟨i1, i2⟩ := T.own c' b0 eb
        exact ⟨_, _, _, _, _, rfl, .own _, i1.ty h7, i2, q1.now r1 rfl⟩
      · exact q1.elim
    · rename_i xs ej
      obtain ⟨p0, us, e6, _, h7, h8⟩ := vr_lst r1 v1 ej
      subst e6
      exact ⟨_, _, _, _, _, rfl, .own _, .base (.lst h7), T.lst, q1.now r1 rfl⟩
    · exact q1.elim

theorem m_append {fo : SE} {fa : SA} (ho : PEm cl X W o fo) (ha : PAm cl X W [a] fa) (hbase : attributeBase o "append" X.env (eval o X.env) = eval o X.env := by rfl)
    (hfew : ((backTo pos (starEach [a] X.env)).all (fun x => !x.1) && (backToKw pos (keywordEach [] X.env)).all (fun x => x.1.isSome)
      && decide ([a].length + ([] : List Keyword).length + (if ([] : List Keyword).isEmpty then 0 else 1) < 30)) = true := by rfl)
    (hline : (apos.endLine == pos.line) = true := by rfl) (hs : starEach [a] X.env = (false, eval a X.env) :: starEach [] X.env := by rfl) (hplain : (backTo pos (starEach [] X.env)).any (·.1) = false := by rfl) :
    PEm cl X W (.Call (.Attribute o "append" apos) [a] [] pos) (sBm isLst mAppend fo fa) := fun tk => by
  obtain ⟨to, h1, s1⟩ := ho tk
  obtain ⟨ta, h2, s2⟩ := ha tk
  refine ⟨_, pe_bm PySem.F.plainAttrs_list PySem.F.slot_list_append PySem.F.type_list_append mt_append h1 h2 hbase hfew hline hs hplain, fun m h H σ' σ Q r rs q => s1 m h H σ' σ _ r rs (Post.bind q fun v h1' m1 H1 u _ p1 k1 r1 v1 q1 => ?_)⟩
  split at q1
  · rename_i hL
    unfold isLst at hL
    obtain ⟨xs0, ex0⟩ := Option.isSome_iff_exists.mp hL
    obtain ⟨i0, p0, us0, ev, e1, _, _, h3, h4⟩ := lst_get r1 v1 ex0
    subst e1 ev
    refine ⟨.inl ⟨rfl, _, SqL.of h3⟩, s2 m1 h1' H1 σ' σ _ r1 (rs.mono p1 k1) (Post.bind q1 fun vs h2' m2 H2 ws _ p2 k2 r2 v2 q2 => ?_)⟩
    unfold mAppend at q2
    cases vs with
    | nil => exact q2.elim
    | cons w vs =>
      cases vs with
      | cons _ _ => exact q2.elim
      | nil =>
        dsimp only at q2
        split at q2
        · rename_i xs ex
          split at q2
          · rename_i hl
            obtain ⟨y, _, e5, h5, e6⟩ := v2
            cases e6
            obtain ⟨p1', us, e7, e8, h6, h7⟩ := vr_lst r2 (VR.mono p2 k2 _ _ v1) ex
            cases e7
            refine ⟨p0, us, y, rfl, e5, h6, by rw [h7.length]; exact hl, ?_⟩
            have kk : Keep H2 (upd H2 p0 (.lst (us ++ [y]))) := Keep.chg h6 trivial
            exact q2 m2 _ .non (List.prefix_refl m2) kk (r2.lst e8 h6 (h7.append (ys := [w]) ⟨_, _, rfl, h5, rfl⟩)) rfl
          · exact q2.elim
        · exact q2.elim
  · exact q1.elim
theorem m_join {fo : SE} {fa : SE} (ho : PEm cl X W o fo) (ha : PEm cl X W a fa) (hs : starEach [a] X.env = [(false, eval a X.env)] := by rfl) (hbase : attributeBase o "join" X.env (eval o X.env) = eval o X.env := by rfl) (hline : (apos.endLine == pos.line) = true := by rfl) :
    PEm cl X W (.Call (.Attribute o "join" apos) [a] [] pos) (sBm isStr mJoin fo (aCons fa aNil)) := fun tk => by
  obtain ⟨to, h1, s1⟩ := ho tk
  obtain ⟨ta, h2, s2⟩ := ha tk
  refine ⟨_, pe_join h1 h2 hs hbase hline, fun m h H σ' σ Q r rs q => s1 m h H σ' σ _ r rs (Post.bind q fun v h1' m1 H1 u _ p1 k1 r1 v1 q1 => ?_)⟩
  cases v with
  | str z =>
    simp only [isStr, if_true] at q1
    refine ⟨⟨z, v1⟩, s2 m1 h1' H1 σ' σ _ r1 (rs.mono p1 k1) (Post.bind (f := fun v h2 => mJoin (.str z) [v] h2) (rel2 := relV (dm X cl)) (Q2 := Q) ?_ fun w h2' m2 H2 uw _ p2 k2 r2 v2 q2 => ?_)⟩
    · have q1' : Post (dm X cl) m1 H1 (relV (dm X cl)) ((aCons fa aNil σ' h1').bind fun vs h2 => mJoin (.str z) vs h2) Q (atW W σ) := q1
      unfold aCons aNil at q1'
      cases hf : fa σ' h1' with
      | ok w h2 => rw [hf] at q1'; exact q1'
      | ex c0 fs h2 => rw [hf] at q1'; exact q1'
      | bad => rw [hf] at q1'; exact q1'
    · unfold mJoin at q2
      dsimp only at q2
      split at q2
      · rename_i xs ex
        split at q2
        · rename_i ss es
          split at q2
          · rename_i hl
            obtain ⟨p0, us, e3, hq, h3⟩ := seqOf_sq r2 v2 ex
            have z2 := vrs_strs es h3
            subst z2 e3
            exact ⟨z, p0, ss, v1, rfl, hq, hl, q2.now r2 rfl⟩
          · exact q2.elim
        · exact q2.elim
      · exact q2.elim
  | _ => exact q1.elim

theorem ms_aug (j : Nat) {op : Operator} {g : AV → AV → AH → R AV} {fe : SE} (hN : X.N.Nodup) (hk : BinOk cl X W (inplaceOp op) g) (he : PEm cl X W e fe) (hi : X.N[j]? = some x := by rfl) (hx : Loc X.env.scope x := by first | exact Or.inl rfl | exact Or.inr rfl)
    (hf : X.fn x = true ∨ X.env.scope.names.lookup x = some .local := by first | exact .inl rfl | exact .inr rfl | assumption) : PSm cl X W (.AugAssign (.Name x pos') op e pos) (ssAug j g fe) := fun tk => by
  obtain ⟨r, hr, sr⟩ := hk tk
  obtain ⟨te, a1, s1⟩ := he tk
  refine ⟨fun D σ H => ∃ x, σ[j]? = some (some x) ∧ te σ H fun y H1 => r σ x y H1 fun z H2 => D.nx (σ.set j (some z)) H2, ⟨fun pins s σ H D I h => ?_⟩, fun m h H σ' σ Dn rl rs q => ?_⟩
  · obtain ⟨v, e1, h⟩ := h
    obtain ⟨m, hn, hl⟩ := I.loc
    have vis : Vis X.env.scope x := by rcases hx with k | k; exact .inl k; exact .inr (.inl k)
    obtain ⟨u, ru, l⟩ := hl j x v hi e1 vis
    refine wpAny_AugAssign_Name ?_
    have go : wpAny (model X.prog X.w) X.A (eval e X.env) (fun w s₂ => wpAny (model X.prog X.w) X.A (inplaceOp op u w) (fun r s₃ => wpAny (model X.prog X.w) X.A (storeName X.env x r) (fun _ => SP X pins D .next) X.xe s₃) X.xe s₂) X.xe s := by
      refine thn (a1.run pins s σ H _ I h) fun w s1 ⟨y, H1, I1, r1, q1⟩ => ?_
      refine thn (hr pins s1 σ H1 v y u w _ I1 ru r1 q1) fun z s2 ⟨zv, H2, I2, r2, q2⟩ => ?_
      exact store_ok I2 hN hi hx r2 (fun s3 I3 => ⟨_, H2, I3, q2⟩) hf
    rcases l with ⟨hk, hm⟩ | ⟨hk, c, hc, hcell⟩
    · exact wpAny_loadName_local I.ok.kind hk hn hm go
    · rcases hk with hk | hk
      · exact wpAny_loadName_cell I.ok.kind hk hc hcell go
      · rcases hx with k | k
        · have : X.env.scope.names.lookup x = some .free := hk
          rw [k] at this; cases this
        · have : X.env.scope.names.lookup x = some .free := hk
          rw [k] at this; cases this
  · unfold ssAug at q
    split at q
    · rename_i v ev
      obtain ⟨u, eu, hu⟩ := rs.2 j v ev
      refine ⟨u, eu, s1 m h H σ' σ _ rl rs (PostS.to rs q fun y h1 m1 H1 uy _ p1 k1 r1 v1 q1 => ?_)⟩
      refine sr m1 h1 H1 σ v y u uy _ r1 (VR.mono p1 k1 _ _ hu) v1 (PostS.to (rs.mono p1 k1) q1 fun z h2 m2 H2 uz _ p2 k2 r2 v2 q2 => ?_)
      exact PostS.now (W := W) q2 r2 (((rs.mono p1 k1).mono p2 k2).set j v2)
    · exact q.elim
end

section
variable {P : Program} {w : World} {K : PySem.W.Frag} {mg : Str → Option Value} {base : Heap} {cl : Nat → Addr} {k : Nat} {f : Addr} {fd : FuncData} {x qual : Str} {params : Arguments} {body : List Stmt} {scope : Scope} {N ps : List Str}
theorem rels_start {D : Dm} {m : List Addr} {H : Hp} : ∀ {as : List AV} {vs : List V} (n : Nat), VRs D m H as vs → RelS D m H (as.map some ++ List.replicate (n - as.length) none) (vs.map some ++ List.replicate (n - vs.length) none) := fun {as vs} n h => by
  have hl := h.length
  refine ⟨by simp [hl], fun i v e => ?_⟩
  by_cases hi : i < as.length
  · rw [List.getElem?_append_left (by simpa using hi)] at e
    rw [List.getElem?_append_left (by rw [List.length_map, hl]; exact hi)]
    rw [List.getElem?_map] at e ⊢
    obtain ⟨y, e1, e2⟩ := Option.map_eq_some_iff.mp e
    cases e2
    obtain ⟨u, e3, h3⟩ := h.get e1
    exact ⟨u, by rw [e3]; rfl, h3⟩
  · rw [List.getElem?_append_right (by simpa using hi), List.getElem?_replicate] at e
    split at e <;> cases e
abbrev cxM (P : Program) (w : World) (K : PySem.W.Frag) (mg : Str → Option Value) (base : Heap) (N : List Str) (qual : Str) (scope : Scope) (f : Addr) (cdv : Value) (A : Around) (outer : List Env) (s : Shared) (H : Hp) (E : XK) : Cx :=
  cxOf (L2.CX P w) P w K mg base N qual scope f cdv A outer s H E
theorem takesM {qual : Str} {scope : Scope} {cdv : Value} {A : Around} {outer : List Env} {s : Shared} {H : Hp} {E : XK} : Takes (cxM P w K mg base N qual scope f cdv A outer s H E) (fun cls d _ H => E cls d H) := takes_of rfl rfl rfl rfl
/-- what a body's result asks -/
theorem runF_post {D : Dm} {m : List Addr} {H : Hp} {r : RS} {Q : VK} {E : XK} (q : Post D m H (relV D) (endF r) Q E) : PostS D m H r { nx := fun _ H' => Q .non H', rt := Q } (fun cls d _ H => E cls d H) := by
  cases r with
  | bad => exact q
  | ex c fs σ1 h1 => exact fun m' H' d σ2 p1 k1 r1 _ ex => q m' H' d p1 k1 r1 ex
  | ok fl h1 =>
    cases fl with
    | nx σ1 => exact fun m' H' p1 k1 r1 σ2 _ => q m' H' .non p1 k1 r1 rfl
    | rt v => exact fun m' H' p1 k1 r1 u hv => q m' H' u p1 k1 r1 hv
    | bk σ1 => exact q.elim
    | ct σ1 => exact q.elim
/-- a def with plain parameters keeps its shadow's promise -/
theorem fn_plain {b : SS} (F : FunD K x qual params body scope [] [] f fd) (S : FnScope N ps scope)
    (hb : ∀ (kV doc pm : Value) (an : Option Addr) (cdv ct : Value) (us : List Value), us.length = ps.length → bindArgs (PySem.W.fnOf x qual params body scope .none kV doc pm an cdv ct) ⟨us, []⟩ = pure (ps.zip us))
    (hbody : ∀ (cdv : Value) (A : Around) (outer : List Env) (s : Shared) (H : Hp) (E : XK), Room k (A.deeper (envOfC qual scope s.heap.objs.size f cdv)) → PSsm cl (cxM P w K mg base N qual scope f cdv A outer s H E) (fun cls d _ H => E cls d H) body b) :
    FnR P w K mg base (L2.CX P w) (k + 1) f (spF cl K (runF ps.length N.length b)) := by
  have G : FnOk P w K mg base (L2.CX P w) (k + 1) f fd ps (spF cl K (runF ps.length N.length b)) := by
    refine F.ok S (fun vs H Q E h => ?_) (fun cdv A outer s H vs Q E hr h => ?_)
    · obtain ⟨m, h0, as, r, hv, q⟩ := h
      unfold runF at q
      split at q
      · rename_i hl
        rw [hv.length]; exact hl
      · exact q.elim
    · obtain ⟨m, h0, as, r, hv, q⟩ := h
      obtain ⟨t, h1, s1⟩ := hbody cdv A outer s H E hr takesM
      refine ⟨t, h1, s1 m h0 H _ _ _ r (rels_start N.length hv) ?_⟩
      unfold runF at q
      split at q
      · exact runF_post q
      · exact q.elim
  have z := G.raw (F.bindsN hb) .nil
  exact z.imp fun vs H Q E h => by rw [List.append_nil]; exact h
/-- a def f(a, .., *v) -/
theorem fn_starM {b : SS} {pv : Str} (F : FunD K x qual params body scope [] [] f fd) (S : FnScope N (ps ++ [pv]) scope)
    (hb : ∀ (kV doc pm : Value) (an : Option Addr) (cdv ct : Value) (us rest : List Value), us.length = ps.length → bindArgs (PySem.W.fnOf x qual params body scope .none kV doc pm an cdv ct) ⟨us ++ rest, []⟩ = (newTuple rest >>= fun t => pure (ps.zip us ++ [(pv, t)])))
    (hbody : ∀ (cdv : Value) (A : Around) (outer : List Env) (s : Shared) (H : Hp) (E : XK), Room k (A.deeper (envOfC qual scope s.heap.objs.size f cdv)) → PSsm cl (cxM P w K mg base N qual scope f cdv A outer s H E) (fun cls d _ H => E cls d H) body b) :
    FnR P w K mg base (L2.CX P w) (k + 1) f (spF cl K (runS ps.length N.length b)) := by
  obtain ⟨oc, od, dV, kV, doc, pm, an, cdv, ct, osl, rfl, lk, hcd, hd1, _⟩ := F.ex
  obtain rfl : dV = .none := by
    rcases hd1 with ⟨_, e⟩ | ⟨n, _⟩
    · exact e
    · exact (n rfl).elim
  refine FnR.imp (StX.fn_star (sp := fun vs H Q E => ∃ m h as, Rel ⟨K, cl⟩ m h H ∧ VRs ⟨K, cl⟩ m H as vs ∧ PostS ⟨K, cl⟩ m H (b (slots N.length as) h) { nx := fun _ H' => Q .non H', rt := Q } (fun cls d _ H => E cls d H))
    lk hcd S StX.cxUp (fun us rest hl => hb kV doc pm an cdv ct us rest hl) (fun A outer s H vs Q E hr h => ?_)) fun vs H Q E h => ?_
  · obtain ⟨m, h0, as, r, hv, q⟩ := h
    obtain ⟨t, h1, s1⟩ := hbody cdv A outer s H E hr takesM
    exact ⟨t, h1, s1 m h0 H _ _ _ r (rels_start N.length hv) q⟩
  · obtain ⟨m, h0, as, r, hv, q⟩ := h
    unfold runS at q
    split at q
    · rename_i hl
      refine ⟨vs.take ps.length, vs.drop ps.length, (List.take_append_drop _ _).symm, by rw [List.length_take, hv.length]; omega, by rw [List.length_drop, hv.length, sizeLine_eq]; omega, fun p n => ?_⟩
      have kk : Keep H (upd H p (.tup (vs.drop ps.length))) := Keep.new n
      have q' := runF_post (Post.mono (List.prefix_refl m) kk q)
      refine ⟨m, h0, as.take ps.length ++ [.tup (as.drop ps.length)], ⟨r.len, r.nd, fun i o a e1 e2 => (r.ob i o a e1 e2).stay (List.prefix_refl m) kk (r.stays n a (List.mem_of_getElem? e2))⟩, ?_, q'⟩
      exact VRs.append (VRs.take _ (VRs.mono (List.prefix_refl m) kk _ _ hv)) ⟨_, [], rfl, ⟨p, _, rfl, .inl (.inl upd_same), VRs.drop _ (VRs.mono (List.prefix_refl m) kk _ _ hv)⟩, rfl⟩
    · exact q.elim
end
end Mi

namespace Mi
open PySem PySem.Spec PyProof.Rows L2 ItX

/-- f, of the class at Ca: return iter(self.F) -/
def FnI (P : Program) (w : World) (K : PySem.W.Frag) (mg : Str → Option Value) (base : Heap) (k : Nat) (f Ca : Addr) (F : Str) : Prop :=
  ∀ (A : Around) (outer : List Env) (s : Shared) (H : Hp) (Q : VK) (E : XK) (a dx : Addr) (gs : List (Str × V)) (l : Addr) (zs : List V), Room k A → Env0 P w K mg base A outer s H → H a = some (.ins Ca dx gs) → gs.lookup F = some (.ref l) → SqL K H l zs →
    (∀ it, H it = none → s.heap.objs.size ≤ it → Q (.ref it) (upd H it (ItO l it 0))) → codeAny (model P w) A (.call (.ref f) ⟨[.ref a], []⟩) (CR (L2.CX P w) outer P w H s Q E) s

section
variable {P : Program} {w : World} {K : PySem.W.Frag} {mg : Str → Option Value} {base : Heap} {k : Nat} {f Ca : Addr} {fd : FuncData} {x qual : Str} {params : Arguments} {scope : Scope} {N : List Str} {F : Str} {p1 p2 p3 p4 p5 : Pos}
abbrev sf : Str := "self"
theorem fn_iter (D : FunD K x qual params [.Return (some (.Call (.Name "iter" p1) [.Attribute (.Name "self" p2) F p3] [] p4)) p5] scope [] [] f fd) (S : FnScope N [sf] scope)
    (hb : ∀ (kV doc pm : Value) (an : Option Addr) (cdv ct : Value) (us : List Value), us.length = 1 → bindArgs (PySem.W.fnOf x qual params [.Return (some (.Call (.Name "iter" p1) [.Attribute (.Name "self" p2) F p3] [] p4)) p5] scope .none kV doc pm an cdv ct) ⟨us, []⟩ = pure ([sf].zip us))
    (hC : Cls K Ca) (hN : NoAttr K Ca F) (hN0 : N[0]? = some sf)
    (hit : ∀ (cdv : Value) (A : Around) (outer : List Env) (s : Shared) (H : Hp) (E : XK), Gl (cxM P w K mg base N qual scope f cdv A outer s H E) "iter") (hmg : mg "iter" = none)
    (hv : ∀ (cdv : Value) (A : Around) (outer : List Env) (s : Shared) (H : Hp) (E : XK), Vis (cxM P w K mg base N qual scope f cdv A outer s H E).env.scope "self")
    (hat : ∀ (cdv : Value) (A : Around) (outer : List Env) (s : Shared) (H : Hp) (E : XK), attributeBase (.Name "self" p2) F (cxM P w K mg base N qual scope f cdv A outer s H E).env (eval (.Name "self" p2) (cxM P w K mg base N qual scope f cdv A outer s H E).env) = eval (.Name "self" p2) (cxM P w K mg base N qual scope f cdv A outer s H E).env := by intros; rfl) : FnI P w K mg base (k + 1) f Ca F := by
  intro A outer s H Q E a dx gs l zs hr e0 ha hl hq q
  obtain ⟨oc, od, dV, kV, doc, pm, an, cdv, ct, osl, rfl, lk, hcd, hd1, hd2⟩ := D.ex
  have KX : K.In s.heap := e0.mod.kin.keeps fun b o e => (e0.bs b o e).1
  have hbb := D.bindsN (ps := [sf]) hb s [.ref a] KX rfl
  rw [List.append_nil] at hbb
  have r : Vals [V.ref a] [Value.ref a] := .cons rfl .nil
  have lim : s.heap.NoLimit := e0.mod.nolimit.keeps fun b o e => (e0.bs b o e).1
  have hkind : ∀ y ∈ [sf].zip [Value.ref a], scope.names.lookup y.1 = some .local ∨ (scope.names.lookup y.1 = some .cell ∧ ((cellsFrom (s.heap.objs.size + 1) scope.names []).lookup y.1).isSome = true) := fun ⟨n, v⟩ hy => by
    rcases S.par n (List.of_mem_zip hy).1 with q | q
    · exact .inl q
    · exact .inr ⟨q, PySem.W.cellsFrom_some _ _ _ (.inl q)⟩
  refine codeAny_call_function hr.depth (KX _ _ lk) rfl S.co S.gen rfl (PySem.W.codeRec_of KX hcd) (hbb _ _ _ _ ?_)
  refine wpAny_newFunctionEnv_cells S.kind hkind fun env he s1 x => ?_
  subst he
  refine ⟨lim.keeps x.toInCall.keep, codeAny_func ?_⟩
  have I : Inv (cxM P w K mg base N qual scope f cdv A outer s H E) [] (start N [V.ref a]) H s1 := inv_start S hr.hd e0 rfl r x
  have ht := pss_one (ps_ret (pos := p5) (pe_callB (X := cxM P w K mg base N qual scope f cdv A outer s H E) (p := p1) (pos := p4) call_iterN (hit cdv A outer s H E) hmg (by decide +kernel) (pa_cons (pe_fld (pos := p3) (f := F) (pe_var (pos := p2) (i := 0) hN0 (hv cdv A outer s H E)) (hat cdv A outer s H E)) pa_nil)))
  refine wpAny_mono (ht.run [] s1 (start N [V.ref a]) H { nx := fun _ H' => Q .non H', rt := Q } I ?_) (fun fl s' hs => ?_) fun e s' hs => hs
  · refine ⟨.ref a, ?_, a, Ca, dx, gs, .ref l, rfl, ha, hC, hN, hl, l, zs, rfl, hq, q⟩
    show (start N [V.ref a])[0]? = _
    rfl
  · have fin : ∀ {σ' : L2.St} {H' : Hp} {v : V} {u : Value}, Inv (cxM P w K mg base N qual scope f cdv A outer s H E) [] σ' H' s' → RelV v u → Q v H' → L2.CE outer P w H s Q u s' :=
      fun {σ' H' v u} J rv q => ⟨v, H', J.os, J.bare, J.base, J.hok, rv, q⟩
    cases fl with
    | ret u =>
      obtain ⟨v, σ', H', J, rv, q⟩ := hs
      exact fin J rv q
    | next =>
      obtain ⟨σ', H', J, q⟩ := hs
      exact fin (v := V.non) (u := Value.none) J rfl q
    | brk =>
      obtain ⟨_, _, _, q⟩ := hs
      exact False.elim q
    | cont =>
      obtain ⟨_, _, _, q⟩ := hs
      exact False.elim q
end

/-- the class c iterates by its field -/
structure ItF (cl : Nat → Addr) (X : Cx) (k c : Nat) (F : Str) (f : Addr) : Prop where
  at_ : PySem.W.findIn X.K (.ref (cl c)) "__iter__" = some (some (.ref f))
  fn : PySem.W.isFn X.K (.ref f) = true
  run : FnI X.prog X.w X.K X.mg X.base k f (cl c) F
def ItT (cl : Nat → Addr) (X : Cx) (k : Nat) (C : CE) : Prop := ∀ c F, C.it c = some F → (∃ f, ItF cl X k c F f) ∧ (C.dn c .len = none → PySem.W.findIn X.K (.ref (cl c)) "__len__" = some none ∧ PySem.W.findIn X.K (.ref (cl c)) "__length_hint__" = some none)
section
variable {cl : Nat → Addr} {X : Cx} {W : WX} {C : CE} {k : Nat} {tg iter : Expr}
theorem env0_sub {n : Nat} {A1 : Around} {pins : List (Addr × Obj)} {σ : L2.St} {H : Hp} {s : Shared} (sb : Sub X n A1) (I : Inv X pins σ H s) : Env0 X.prog X.w X.K X.mg X.base A1 X.stack s H := by
  have e := I.env0
  exact ⟨by rw [sb.fr]; exact e.frames, e.mod, e.bs, e.bsz, e.funs, e.frf, e.hok, e.bare⟩
theorem no_ex {X : Cx} {H : Hp} {s s' : Shared} {e : Value} (c : L2.CX X.prog X.w X.stack H s (fun _ _ _ => False) e s') : False := by
  obtain ⟨a, B, H', cls, d, rfl, fl, hok, ub, na, os, ag, hE⟩ := c
  exact hE
/-- pyIter of an instance: an iterator over its field's list, not tracked -/
theorem iter_own {A1 : Around} {c : Nat} {F : Str} {f a dx l : Addr} {gs : List (Str × V)} {zs : List V} {pins : List (Addr × Obj)} {σ : L2.St} {H : Hp} {s : Shared} {Q : Value → Shared → Prop} {E : Value → Shared → Prop} (sb : Sub X k A1) (T : ItF cl X k c F f)
    (I : Inv X pins σ H s) (ha : H a = some (.ins (cl c) dx gs)) (hl : gs.lookup F = some (.ref l)) (hq : SqL X.K H l zs)
    (h : ∀ it s', Inv X pins σ H s' → s'.heap.IsListIter it l 0 → s'.heap.get? it = some (GNX.itObj l 0) → FpOk X pins H it → s.heap.objs.size ≤ it → Q (.ref it) s') : wpAny (model X.prog X.w) A1 (pyIter (.ref a)) Q E s := by
  obtain ⟨ox, od, J⟩ := inst_at I ha
  obtain ⟨m0, hF⟩ := I.fr
  refine PySem.W.owit_iter hF I.ok.mod.kin J T.at_ T.fn ?_
  refine wpAny_call (codeAny_mono (T.run A1 X.stack s H (fun v H' => ∃ it, v = .ref it ∧ H it = none ∧ s.heap.objs.size ≤ it ∧ H' = upd H it (ItO l it 0)) (fun _ _ _ => False) a dx gs l zs sb.room (env0_sub sb I) ha hl hq fun it hn hs => ⟨it, rfl, hn, hs, rfl⟩) fun r s' hq' => ?_)
  cases r with
  | error e => exact (no_ex hq').elim
  | ok fl =>
    cases fl with
    | next => exact False.elim hq'
    | brk => exact False.elim hq'
    | cont => exact False.elim hq'
    | ret u =>
      obtain ⟨v, H', I', rv, it, ev, hn, hs, eH⟩ := I.after hq'
      subst ev
      rw [eH] at I'
      cases (show u = Value.ref it from rv)
      have hi : upd H it (ItO l it 0) it = some (ItO l it 0) := upd_same
      have eo := itO_get I' hi
      have st : s'.heap.IsListIter it l 0 := ⟨_, eo, rfl, rfl⟩
      have hd := dropH_upd (o := ItO l it 0) hn
      unfold PySem.W.OwitIt
      refine wpAny_specialOf st.typeIs slot_listiter_next.lookup ?_
      have I2 : Inv X pins σ (dropH (upd H it (ItO l it 0)) it) s' := inv_drop I' hi
      have fp := inv_fp I' hi (Nat.le_trans I.sz hs)
      rw [hd] at I2 fp
      exact h it s' I2 st eo fp hs
/-- for over an instance -/
theorem mi_own {fe : SE} (T : ItT cl X k C) (hr : Room k X.A) (he : PEm cl X W iter fe) : PIm cl X W tg iter (iOwn C fe) := fun tk => by
  obtain ⟨te, h1, s1⟩ := he tk
  refine ⟨fun σ H R => te σ H fun x H1 => ∃ (c : Nat) (F : Str) (a dx l : Addr) (gs : List (Str × V)) (zs : List V), C.it c = some F ∧ x = .ref a ∧ H1 a = some (.ins (cl c) dx gs) ∧ gs.lookup F = some (.ref l) ∧ SqL X.K H1 l zs ∧ R (Itl X.K l) H1, ⟨fun pins s σ H R I h => ?_⟩, fun m h H σ' σ Rk r rs q => ?_⟩
  · refine thn (h1.run pins s σ H _ I h) fun v s1 ⟨x, H1, I1, r1, c, F, a, dx, l, gs, zs, ec, ex, ha, hl, hq, q⟩ => ?_
    subst ex
    cases (show v = Value.ref a from r1)
    obtain ⟨⟨f, TF⟩, _⟩ := T c F ec
    refine iter_own ⟨hr, rfl⟩ TF I1 ha hl hq fun it s2 I2 st _ fp _ => ?_
    refine ⟨it, [it], _, _, H1, rfl, I2, turn_list l it, st, fun b hb => ?_, q⟩
    have e : b = it := by simpa using hb
    rw [e]
    exact fp
  · refine s1 m h H σ' σ _ r rs (Post.bind q fun v h1 m1 H1 u _ p1 k1 r1 v1 q1 => ?_)
    unfold itRef at q1
    split at q1
    · rename_i j ej
      split at ej
      · rename_i c fs ec
        split at ej
        · rename_i F eF
          split at ej
          · rename_i w ew
            split at ej
            · rename_i b
              split at ej
              · rename_i xs ex
                cases ej
                obtain ⟨a, dx, gs, e1, h3, h4, _⟩ := cls_get r1 v1 ec
                obtain ⟨u0, e5, h5⟩ := h4.lookup ew
                obtain ⟨p0, us, e6, e7, h6, h7⟩ := vr_lst r1 h5 ex
                subst e6
                exact ⟨c, F, a, dx, p0, gs, us, eF, e1, h3, e5, SqL.of h6, q1.now r1 (rel := fun m H s J => SrcOk (dm X cl) m H s J) (src_lst e7)⟩
              · cases ej
            · cases ej
          · cases ej
        · cases ej
      · cases ej
    · exact q1.elim
end
end Mi

namespace Mi
open PySem PySem.Spec PyProof.Rows L2 ItX
section
variable {cl : Nat → Addr} {X : Cx} {W : WX} {C : CE} {k : Nat}
def rLen0 (cl : Nat → Addr) (X : Cx) (C : CE) (i : Nat) (a : Addr) (H : Hp) (Q : Int → Hp → Prop) : Prop := spF cl X.K (C.call i) [.ref a] H (fun v H' => ∃ n, v = .int n ∧ 0 ≤ n ∧ n ≤ 1000000 ∧ Q n H') (fun _ _ _ => False)
/-- o's length is asked -/
theorem hint_len {A1 : Around} {c i : Nat} {f a dx : Addr} {gs : List (Str × V)} {pins : List (Addr × Obj)} {σ : L2.St} {H : Hp} {s : Shared} {Qn : Int → Hp → Prop} {Q : Bool → Shared → Prop} {E : Value → Shared → Prop} (sb : Sub X (k + 1) A1) (F : DunF cl X k C "__len__" c i f)
    (I : Inv X pins σ H s) (ha : H a = some (.ins (cl c) dx gs)) (q : rLen0 cl X C i a H Qn) (h : ∀ b n H' s', Inv X pins σ H' s' → Qn n H' → Q b s') : wpAny (model X.prog X.w) A1 (Builtin.List.listLengthHint (.ref a)) Q E s := by
  obtain ⟨ox, od, J⟩ := inst_at I ha
  obtain ⟨m0, hF⟩ := I.fr
  unfold Builtin.List.listLengthHint
  refine wpAny_bind (wpAny_bind (J.type.here ((PySem.W.looks_findIn I.kIn F.at_).here ?_)))
  refine PySem.W.KFB.if_not rfl ?_
  refine PySem.W.KFB.if_so rfl ?_
  refine wpAny_bind (wpAny_rule ?_)
  refine wpAny_bind (wpAny_attempt ?_)
  refine PySem.W.len_K hF I.ok.mod.kin J F.at_ F.fn ?_
  have sb1 : Sub X k A1.in1 := sb.in1
  refine wpAny_call (codeAny_mono (F.run A1.in1 X.stack s H [.ref a] [.ref a] _ _ sb1.room (env0_sub sb1 I) (.cons rfl .nil) q) fun r s' hq' => ?_)
  cases r with
  | error e => exact (no_ex hq').elim
  | ok fl =>
    cases fl with
    | next => exact False.elim hq'
    | brk => exact False.elim hq'
    | cont => exact False.elim hq'
    | ret u =>
      obtain ⟨v, H', I', rv, n, ev, h0, h1, hq⟩ := I.after hq'
      subst ev
      obtain ⟨t, et⟩ := (show ∃ t, u = Value.int n t from rv)
      subst et
      refine ⟨⟨h0, by omega⟩, ?_⟩
      show wpAny _ _ (asInt? (Value.int n t) >>= _) _ _ _
      refine wpAny_bind (m := asInt? (Value.int n t)) (wpAny_pure ?_)
      dsimp only
      have hs : Builtin.List.listTooLong n.toNat = false := by
        unfold Builtin.List.listTooLong
        rw [sizeLine_eq]
        exact decide_eq_false (by omega)
      rw [if_neg (by rw [hs]; decide)]
      exact wpAny_pure (h _ n _ _ (I'.tok _) hq)
theorem hint_none {A1 : Around} {c : Nat} {a dx : Addr} {gs : List (Str × V)} {pins : List (Addr × Obj)} {σ : L2.St} {H : Hp} {s : Shared} {Q : Bool → Shared → Prop} {E : Value → Shared → Prop} (I : Inv X pins σ H s) (ha : H a = some (.ins (cl c) dx gs))
    (h1 : PySem.W.findIn X.K (.ref (cl c)) "__len__" = some none) (h2 : PySem.W.findIn X.K (.ref (cl c)) "__length_hint__" = some none) (h : Q true s) : wpAny (model X.prog X.w) A1 (Builtin.List.listLengthHint (.ref a)) Q E s := by
  obtain ⟨ox, od, J⟩ := inst_at I ha
  unfold Builtin.List.listLengthHint
  refine wpAny_bind (wpAny_bind (J.type.here ((PySem.W.looks_findIn I.kIn h1).here ?_)))
  refine PySem.W.KFB.if_not rfl ?_
  refine PySem.W.KFB.if_not rfl ?_
  refine wpAny_bind (wpAny_bind (J.type.here ((PySem.W.looks_findIn I.kIn h2).here ?_)))
  exact wpAny_pure h

/-- the items come -/
theorem loop_I {A1 : Around} {q0 it l : Addr} {zs : List V} {pins : List (Addr × Obj)} {σ : L2.St} {H : Hp} {s : Shared} {c1 : Nat} {Rs : Result → Shared → Prop} (hh : A1.in1.handled = none) (hne : l ≠ it) (hni : q0 ≠ it) (hnl : q0 ≠ l) (I : Inv X pins σ H s) (fq : FpOk X pins H q0) (fi : FpOk X pins H it)
    (hS : s.heap.get? q0 = some { cls := .type "list", dict := none, data := .seq #[] c1, slots := #[] }) (st : s.heap.IsListIter it l 0) (hq : SqL X.K H l zs) (hz : zs.length < sizeLine) (hdone : ∀ s', Inv X pins σ (upd H q0 (.lst zs)) s' → Rs (.ok (.ret .none)) s') :
    codeAny (model X.prog X.w) A1 (.builtin "list.extend.loop" ⟨[.ref q0, .ref it, .none], []⟩) Rs s := by
  obtain ⟨its, rv, pl, hz1⟩ := I.list hq
  have hlen := rv.length
  have Wk := (Walks.list (prog := X.prog) (w := X.w) (A := A1.in1) hh it l hne its.toArray).toS
  refine codeAny_extend_loopS Wk (by simp; omega) q0 (by simp [hni, hnl]) .none its.toArray.size 0 s #[] c1 rfl (Nat.zero_le _) ⟨st, pl.isList⟩ hS (ItemsOf.nil _) fun s' acc' c' hm hS' hacc => ?_
  rw [Moved.eq_with hm]
  have I2 : Inv X pins σ H { s with heap := s'.heap, toks := s'.toks } := I.turnedL (ch := [q0, it]) (fun b o hb e => hm.heap b o hb e) fun b hb => by
    rcases List.mem_cons.mp hb with e | hb
    · rw [e]; exact fq
    · rw [List.mem_singleton.mp hb]; exact fi
  have hacc' : acc' = its.toArray := by
    refine Array.ext hacc.1 fun j h1 h2 => ?_
    have z := hacc.2 j acc'[j] (by simp [h1])
    have z : its.toArray[j]? = some acc'[j] := z
    rw [Array.getElem?_eq_getElem h2] at z
    exact (Option.some.inj z).symm
  subst hacc'
  have I3 := I2.take (o := .lst zs) (t' := s'.toks) (fun b o _ e => e) fq (show ObjOk X.prog X.w _ _ _ (.lst zs) from ⟨Nat.le_of_lt hz, its, c', rv, hS'⟩)
  exact hdone _ I3
theorem fp_now {pins : List (Addr × Obj)} {H H' : Hp} {b : Addr} (f : FpOk X pins H b) (n : H' b = none) : FpOk X pins H' b := ⟨n, f.2⟩
theorem extend_I {A1 : Around} {q0 c0 : Nat} {c : Nat} {F : Str} {fi a dx l : Addr} {gs : List (Str × V)} {zs : List V} {pins : List (Addr × Obj)} {σ : L2.St} {H : Hp} {s : Shared} {Rs : Result → Shared → Prop}
    (T : DunT cl X k C .len "__len__") (TF : ItF cl X k c F fi) (hnl : C.dn c .len = none → PySem.W.findIn X.K (.ref (cl c)) "__len__" = some none ∧ PySem.W.findIn X.K (.ref (cl c)) "__length_hint__" = some none) (hh : A1.in1.handled = none) (sb : Sub X (k + 1) A1.in1) (I : Inv X pins σ H s) (fq : FpOk X pins H q0)
    (hS : s.heap.get? q0 = some { cls := .type "list", dict := none, data := .seq #[] c0, slots := #[] }) (ha : H a = some (.ins (cl c) dx gs)) (hl : gs.lookup F = some (.ref l)) (hq : SqL X.K H l zs) (hql : q0 ≠ l) (Qd : List V → Hp → Prop)
    (h : match C.dn c .len with
      | none => zs.length < sizeLine ∧ Qd zs H
      | some i => rLen0 cl X C i a H fun _ H1 => ∃ zs', SqL X.K H1 l zs' ∧ zs'.length < sizeLine ∧ Qd zs' H1)
    (hdone : ∀ s' zs' H1, H1 q0 = none → Qd zs' H1 → Inv X pins σ (upd H1 q0 (.lst zs')) s' → Rs (.ok (.ret .none)) s') :
    wpAny (model X.prog X.w) A1.in1 (Builtin.List.listExtendWith (.ref q0) (.ref a) .none)
      (fun fin s' => match fin with | .done f => Rs (.ok f) s' | .again c' => c'.quiet = true ∧ codeAny (model X.prog X.w) A1 c' Rs s') (fun e s' => Rs (.error e) s') s := by
  have hne : q0 ≠ a := fun z => by have y := fq.1; rw [z, ha] at y; cases y
  obtain ⟨ox, od, J⟩ := inst_at I ha
  unfold Builtin.List.listExtendWith
  refine wpAny_bind (J.type.here ?_)
  have h1 : Builtin.List.listSameRef (.ref q0) (.ref a) = false := by simp [Builtin.List.listSameRef, hne]
  have h2 : (Value.ref (cl c) == Value.type "list") = false := rfl
  have h3 : (Value.ref (cl c) == Value.type "tuple") = false := rfl
  simp only [h1, h2, h3, Bool.or_false, Bool.false_eq_true, if_false]
  have I' : Inv X ((q0, ⟨.type "list", none, .seq #[] c0, #[]⟩) :: pins) σ H s := I.pins_of fun p hp => by
    rcases List.mem_cons.mp hp with e | hp
    · subst e; exact ⟨hS, fq.1, fq.2.1, fq.2.2.1, fun v z => nomatch z⟩
    · exact I.pin p (List.mem_append_right _ hp)
  refine wpAny_bind (iter_own (sb.mono (Nat.le_succ _)) TF I' ha hl hq fun it s3 I3 st eo fpit hsi => ?_)
  have hni : q0 ≠ it := fpit.2.2.2.2.2 (q0, _) (List.mem_append_right _ (List.mem_cons_self))
  have I3' : Inv X ((it, GNX.itObj l 0) :: (q0, ⟨.type "list", none, .seq #[] c0, #[]⟩) :: pins) σ H s3 := I3.pins_of fun p hp => by
    rcases List.mem_cons.mp hp with e | hp
    · subst e; exact ⟨eo, fpit.1, fpit.2.1, fpit.2.2.1, fun v z => nomatch z⟩
    · exact I3.pin p (List.mem_append_right _ hp)
  have hli : l ≠ it := by
    obtain ⟨its, rv, pl, hz1⟩ := I.list hq
    obtain ⟨o, ho, _⟩ := pl.isList
    exact Nat.ne_of_lt (Nat.lt_of_lt_of_le (Heap.lt_size ho) hsi)
  have key : ∀ (b : Bool) (H1 : Hp) (s4 : Shared) (zs' : List V), Inv X ((it, GNX.itObj l 0) :: (q0, ⟨.type "list", none, .seq #[] c0, #[]⟩) :: pins) σ H1 s4 → SqL X.K H1 l zs' → zs'.length < sizeLine → Qd zs' H1 →
      wpAny (model X.prog X.w) A1.in1 (if b = true then (do rule "list.extend.makes-room"; Builtin.List.listTouch (.ref q0); again (.builtin "list.extend.loop" ⟨[.ref q0, .ref it, .none], []⟩)) else again (.builtin "list.extend.loop" ⟨[.ref q0, .ref it, .none], []⟩))
        (fun fin s' => match fin with | .done f => Rs (.ok f) s' | .again c' => c'.quiet = true ∧ codeAny (model X.prog X.w) A1 c' Rs s') (fun e s' => Rs (.error e) s') s4 := by
    intro b H1 s4 zs' I4 hq4 hz4 hd4
    have pI := I4.pin (it, GNX.itObj l 0) (List.mem_append_right _ List.mem_cons_self)
    have pQ := I4.pin (q0, ⟨.type "list", none, .seq #[] c0, #[]⟩) (List.mem_append_right _ (List.mem_cons_of_mem _ List.mem_cons_self))
    have I5 : Inv X pins σ H1 s4 := I4.pins_of fun p hp => I4.pin p (List.mem_append.mpr (.inr (List.mem_cons_of_mem _ (List.mem_cons_of_mem _ hp))))
    have fq5 : FpOk X pins H1 q0 := fp_now fq pQ.2.1
    have fi5 : FpOk X pins H1 it := by
      have z := fp_now fpit pI.2.1
      exact ⟨z.1, z.2.1, z.2.2.1, z.2.2.2.1, z.2.2.2.2.1, fun p hp => z.2.2.2.2.2 p ((List.mem_append.mp hp).elim (fun y => List.mem_append_left _ y) fun y => List.mem_append_right _ (List.mem_cons_of_mem _ y))⟩
    have st5 : s4.heap.IsListIter it l 0 := ⟨_, pI.1, rfl, rfl⟩
    refine wpAny_ite_split (fun _ => ?_) (fun _ => wpAny_pure ⟨plainId_quiet PySem.F.plain_extend_loop _, loop_I hh hli hni hql I5 fq5 fi5 pQ.1 st5 hq4 hz4 fun s' I' => hdone s' zs' H1 fq5.1 hd4 I'⟩)
    refine wpAny_bind (wpAny_rule ?_)
    refine wpAny_bind ?_
    show wpAny _ _ (updateSeq q0 (·.push .none) >>= fun _ => updateSeq q0 (·.pop)) _ _ _
    refine wpAny_bind (wpAny_updateSeq pQ.1 rfl ?_)
    have hS2 := Heap.get?_update_self (Obj.mapSeq (·.push Value.none)) pQ.1 rfl
    refine wpAny_updateSeq hS2 rfl ?_
    have hS3 := Heap.get?_update_self (Obj.mapSeq (·.pop)) hS2 rfl
    have oth : ∀ b o, b ≠ q0 → s4.heap.get? b = some o → ((s4.heap.update q0 (Obj.mapSeq (·.push Value.none))).update q0 (Obj.mapSeq (·.pop))).get? b = some o :=
      fun b o hb e => (Heap.get?_update_other _ _ (Ne.symm hb)).trans ((Heap.get?_update_other _ _ (Ne.symm hb)).trans e)
    have I6 := I5.turned (t' := s4.toks) oth fq5.1 fq5.2.1 fq5.2.2.2.1 fq5.2.2.2.2.1 fq5.2.2.2.2.2
    refine wpAny_pure ⟨plainId_quiet PySem.F.plain_extend_loop _, loop_I hh hli hni hql I6 fq5 fi5 hS3 ⟨_, oth it _ (Ne.symm hni) pI.1, rfl, rfl⟩ hq4 hz4 fun s' I' => hdone s' zs' H1 fq5.1 hd4 I'⟩
  refine wpAny_bind (wpAny_holding ?_)
  cases ed : C.dn c .len with
  | none =>
    rw [ed] at h
    obtain ⟨h4, h5⟩ := hnl ed
    exact hint_none I3' ha h4 h5 (key _ H s3 zs I3' hq h.1 h.2)
  | some i =>
    rw [ed] at h
    obtain ⟨⟨f, Fl⟩, _⟩ := T c i ed
    exact hint_len sb Fl I3' ha h fun b n H1 s4 I4 ⟨zs', q1, q2, q3⟩ => key _ H1 s4 zs' I4 q1 q2 q3
/-- list(o) -/
def rListI (cl : Nat → Addr) (X : Cx) (C : CE) : L2.St → List V → Hp → VK → Prop := fun _ xs H Q => ∃ (c : Nat) (F : Str) (a dx l : Addr) (gs : List (Str × V)) (zs : List V), C.it c = some F ∧ xs = [.ref a] ∧ H a = some (.ins (cl c) dx gs) ∧ gs.lookup F = some (.ref l) ∧ SqL X.K H l zs ∧
  match C.dn c .len with
  | none => zs.length < sizeLine ∧ ∀ q, H q = none → Q (.ref q) (upd H q (.lst zs))
  | some i => rLen0 cl X C i a H fun _ H1 => ∃ zs', SqL X.K H1 l zs' ∧ zs'.length < sizeLine ∧ ∀ q, H1 q = none → Q (.ref q) (upd H1 q (.lst zs'))
theorem call_listI (T : DunT cl X k C .len "__len__") (TI : ItT cl X k C) (hc : X.calm = true) (hr : Room (k + 3) X.A) : CallRs X (.type "list") (rListI cl X C) := by
  intro pins s σ H xs us Q I rv h
  obtain ⟨c, F, a, dx, l, gs, zs, ec, rfl, ha, hl, hq, h⟩ := h
  obtain ⟨u, rfl, ru⟩ := rv.one
  cases (show u = Value.ref a from ru)
  obtain ⟨⟨fi, TF⟩, hnl⟩ := TI c F ec
  have sb : Sub X (k + 1) X.A.in1.in1 := (Sub.in1 (Sub.in1 (⟨hr, rfl⟩ : Sub X (k + 3) X.A)))
  refine callType_codes (Q₁ := fun obj s₁ => obj = .ref s.heap.objs.size ∧ s₁ = { s with heap := s.heap.push { cls := .type "list", data := .seq #[] } }) PySem.F.called_list (PySem.F.typeCall_list_1 _) PySem.F.entry_list_init
    (code_list_new _ ⟨rfl, rfl⟩) fun obj s₁ h₁ => ?_
  obtain ⟨rfl, rfl⟩ := h₁
  have hS : (s.heap.push { cls := .type "list", data := .seq #[] }).get? s.heap.objs.size = some { cls := .type "list", data := .seq #[] } := Heap.get?_push_size _ rfl
  refine ⟨⟨_, hS, rfl⟩, PySem.F.args_list_init_2 _ _, ?_⟩
  have fr : H s.heap.objs.size = none := I.hok.fresh (Nat.le_refl _)
  have I1 : Inv X pins σ H { s with heap := s.heap.push { cls := .type "list", data := .seq #[] } } := I.kept (t' := s.toks) fun b o e => Heap.get?_push_of_some _ e
  have fp1 : FpOk X pins H s.heap.objs.size := I.fpOk (Nat.le_refl _) fr
  show wpAny _ _ (do let old ← Builtin.List.listItems (.ref s.heap.objs.size); Builtin.List.listUpdate (.ref s.heap.objs.size) (fun _ => #[]); letGo old.toList.reverse; Builtin.List.listExtendWith (.ref s.heap.objs.size) (.ref a) .none) _ _ _
  refine wpAny_bind ?_
  unfold Builtin.List.listItems
  refine wpAny_bind (wpAny_seqItems hS rfl (wpAny_pure ?_))
  show wpAny _ _ (updateSeq s.heap.objs.size (fun _ => #[]) >>= fun _ => letGo (#[] : Array Value).toList.reverse >>= fun _ => Builtin.List.listExtendWith (.ref s.heap.objs.size) (.ref a) .none) _ _ _
  refine wpAny_bind (wpAny_updateSeq hS rfl ?_)
  generalize hsz : s.heap.objs.size = q0 at *
  have hS2 := Heap.get?_update_self (Obj.mapSeq (fun _ => (#[] : Array Value))) hS rfl
  have I2 := I1.turned (t' := s.toks) (h' := (s.heap.push { cls := .type "list", data := .seq #[] }).update q0 (Obj.mapSeq fun _ => #[])) (fun b o hb e => (Heap.get?_update_other _ _ (Ne.symm hb)).trans e) fp1.1 fp1.2.1 fp1.2.2.2.1 fp1.2.2.2.2.1 fp1.2.2.2.2.2
  refine wpAny_bind (wpAny_letGo ?_)
  have hql : q0 ≠ l := by
    obtain ⟨its, rv, pl, hz1⟩ := I.list hq
    obtain ⟨o, ho, _⟩ := pl.isList
    rw [← hsz]
    exact Ne.symm (Nat.ne_of_lt (Heap.lt_size ho))
  refine extend_I (A1 := X.A.in1) (Rs := wants (fun r s₂ => r = .none ∧ EP X pins σ Q (.ref q0) s₂) X.xe) (Qd := fun zs' H1 => ∀ q, H1 q = none → Q (.ref q) (upd H1 q (.lst zs'))) T TF hnl (I.ok.hd hc) sb I2 fp1 hS2 ha hl hq hql h
    fun s' zs' H1 hn hd I' => ⟨rfl, .ref q0, _, I', rfl, hd q0 hn⟩
theorem c_list (T : DunT cl X k C .len "__len__") (TI : ItT cl X k C) (hc : X.calm = true) (hr : Room (k + 3) X.A) : CallOk cl X W (.type "list") (arg1 (bList C)) := CallOk.one _ ((CallRs.of call_list_of).or (call_listI T TI hc hr)) fun m h H σ v u Q r hv q => by
  unfold bList at q
  split at q
  · rename_i xs ex
    obtain ⟨p, us, e2, hq, h3⟩ := seqOf_sq r hv ex
    exact .inl ⟨p, us, by rw [e2], hq, Post.newLst r h3 q⟩
  · split at q
    · rename_i c fs a ec ea
      unfold itRef at ea
      rw [ec] at ea
      dsimp only at ea
      split at ea
      · rename_i F eF
        split at ea
        · rename_i w ew
          split at ea
          · rename_i b
            split at ea
            · rename_i xs ex
              cases ea
              obtain ⟨p, dx, gs, e1, h3, h4, _⟩ := cls_get r hv ec
              obtain ⟨u0, e5, h5⟩ := h4.lookup ew
              obtain ⟨p0, us, e6, e7, h6, h7⟩ := vr_lst r h5 ex
              subst e6
              refine .inr ⟨c, F, p, dx, p0, gs, us, eF, by rw [e1], h3, e5, SqL.of h6, ?_⟩
              split at q
              · rename_i ed
                first | rw [ed] | skip
                split at q
                · rename_i ys ey
                  cases ex.symm.trans ey
                  split at q
                  · rename_i hl
                    exact ⟨by rw [h7.length]; exact hl, Post.newLst r h7 q⟩
                  · exact q.elim
                · exact q.elim
              · rename_i i ed
                first | rw [ed] | skip
                refine ⟨m, h, [v], r, ⟨_, _, rfl, e1 ▸ hv, rfl⟩, ?_⟩
                split at q
                · rename_i n h1 en
                  show Post _ _ _ _ (C.call i [v] h) _ _
                  rw [en]
                  split at q
                  · rename_i ys ey
                    split at q
                    · rename_i hh
                      intro m' H' u' pm km rm vm
                      have e7' := pre_get pm e7
                      obtain ⟨us', h8, h9⟩ := rm.ob _ _ p0 ey e7'
                      exact ⟨n, vm, hh.1, hh.2.1, us', SqL.of h8, by rw [h9.length]; exact hh.2.2, Post.newLst rm h9 (Post.mono pm km q)⟩
                    · exact q.elim
                  · exact q.elim
                · exact q.elim
            · cases ea
          · cases ea
        · cases ea
      · cases ea
    · exact q.elim
end
end Mi

namespace Mi
open PySem PySem.Spec PyProof.Rows L2

/-- a class: its name, the fields that are read or set, operators (and which def), __iter__ (the field, which def), methods, which classes are instances of it -/
structure ClsD where
  name : Str
  flds : List Str := []
  duns : List (Dn × Nat) := []
  itf : Option (Str × Nat) := none
  meths : List (Str × Nat) := []
  init : Option Nat := none
  isa : List (Nat × Bool) := []
structure PD where
  fn : List He.DefD
  frees : List Str
  cds : List ClsD
def dunNm : Dn → Str
  | .or => "__or__" | .and => "__and__" | .sub => "__sub__" | .ior => "__ior__" | .eq => "__eq__" | .ne => "__ne__" | .le => "__le__" | .len => "__len__" | .has => "__contains__" | .get => "__getitem__" | .set => "__setitem__" | .call => "__call__"
def PD.cn (pd : PD) (c : Nat) : Str := match pd.cds[c]? with
  | some cd => cd.name
  | none => ""
def PD.cl (pd : PD) (K : PySem.W.Frag) (c : Nat) : Addr := He.ga K (pd.cn c)
def PD.at_ (pd : PD) (i : Nat) : Str × Option Str := match pd.fn[i]? with
  | some d => d.at_
  | none => ("", none)
def PD.ad (pd : PD) (K : PySem.W.Frag) (i : Nat) : Addr := He.fAd K (pd.at_ i)
def PD.dn (pd : PD) (c : Nat) (d : Dn) : Option Nat := match pd.cds[c]? with
  | some cd => cd.duns.lookup d
  | none => none
def PD.it (pd : PD) (c : Nat) : Option Str := match pd.cds[c]? with
  | some cd => cd.itf.map (·.1)
  | none => none
def atB (K : PySem.W.Frag) (C : Addr) (nm : Str) (f : Addr) : Bool := He.eqO (PySem.W.findIn K (.ref C) nm) (some (some (.ref f))) && PySem.W.isFn K (.ref f)
def isaB (K : PySem.W.Frag) (C : Addr) : Bool := He.eqO (PySem.W.findIn K (.ref C) "__class__") (some (some (.builtin "object.__class__"))) && He.eqO (PySem.W.specialIn K (.builtin "object.__class__") "__get__") (some (some (.builtin "getset_descriptor.__get__"))) &&
  decide (PySem.W.takesIn K (.builtin "object.__class__") = some true) && decide (PySem.W.mroIn K C (.type "object") = some true)
def tyB (K : PySem.W.Frag) (C : Addr) (t : String) : Bool := decide (PySem.W.kitOne K (.type t) (.ref C) = some false)
def ClsD.okB (pd : PD) (K : PySem.W.Frag) (cd : ClsD) : Bool :=
  (He.Fa.glo cd.name).ok K && ((He.Fa.cls cd.name).ok K && (cd.flds.all (fun f => (He.Fa.noat cd.name f).ok K) && (
  cd.duns.all (fun q => atB K (He.ga K cd.name) (dunNm q.1) (pd.ad K q.2) && PySem.W.selfFirst K (He.ga K cd.name) && PySem.W.noSeq K (He.ga K cd.name)) && (
  (match cd.itf with | some q => atB K (He.ga K cd.name) "__iter__" (pd.ad K q.2) && ((cd.duns.lookup .len).isSome || (He.eqO (PySem.W.findIn K (.ref (He.ga K cd.name)) "__len__") (some none) && He.eqO (PySem.W.findIn K (.ref (He.ga K cd.name)) "__length_hint__") (some none))) | none => true) && (
  cd.meths.all (fun q => atB K (He.ga K cd.name) q.1 (pd.ad K q.2) && PySem.W.keepIn K (.ref (pd.ad K q.2))) && (
  (match cd.init with | some i => (He.Fa.mkr cd.name).ok K && decide (He.ma K (He.ga K cd.name) "__init__" = pd.ad K i) | none => true) && (
  (match cd.isa with | [] => true | l => l.all (fun q => isaB K (pd.cl K q.1) && ((He.Fa.cls (pd.cn q.1)).ok K && decide (PySem.W.kitOne K (.ref (pd.cl K q.1)) (.ref (He.ga K cd.name)) = some q.2))) && (tyB K (He.ga K cd.name) "bool" && (tyB K (He.ga K cd.name) "int" && (tyB K (He.ga K cd.name) "str" && (tyB K (He.ga K cd.name) "NoneType" && tyB K (He.ga K cd.name) "list"))))))))))))
def PD.okB (pd : PD) (K : PySem.W.Frag) : Bool := pd.frees.all (fun x => (He.Fa.free x).ok K) && (pd.fn.all (fun d => match d.at_.2 with | none => (He.Fa.glo d.at_.1).ok K | some _ => true) && pd.cds.all (fun cd => cd.okB pd K))

/-- what the module's objects are, and what the defs do at the level k -/
structure Hyp (pd : PD) (P : Program) (w : World) (K : PySem.W.Frag) (mg : Str → Option Value) (base : Heap) (C : CE) (k : Nat) : Prop where
  ok : pd.okB K = true
  hgl : ∀ x : Str, (He.Fa.glo x).ok K = true → mg x = some (.ref (He.ga K x))
  hfr : ∀ x : Str, (He.Fa.free x).ok K = true → mg x = none
  fnd : ∀ (i : Nat) (d : He.DefD), pd.fn[i]? = some d → ∃ fd, FunD K d.name d.qual d.params d.body d.scope (d.dvs K) (d.kws K) (He.fAd K d.at_) fd
  run : ∀ (i : Nat) (d : He.DefD), pd.fn[i]? = some d → FnR P w K mg base (L2.CX P w) k (He.fAd K d.at_) (spF (pd.cl K) K (C.call i))
  its : ∀ (c : Nat) (cd : ClsD) (F : Str) (i : Nat) (d : He.DefD), pd.cds[c]? = some cd → cd.itf = some (F, i) → pd.fn[i]? = some d → FnI P w K mg base k (He.fAd K d.at_) (pd.cl K c) F
  bnd : ∀ (c : Nat) (cd : ClsD), pd.cds[c]? = some cd → (∀ q ∈ cd.duns, (pd.fn[q.2]?).isSome = true) ∧ (∀ q ∈ cd.meths, (pd.fn[q.2]?).isSome = true) ∧ (∀ q, cd.itf = some q → (pd.fn[q.2]?).isSome = true) ∧ (∀ i, cd.init = some i → (pd.fn[i]?).isSome = true)
  mak : C.mak = C.call
  dn : C.dn = pd.dn
  it : C.it = pd.it
structure Ctx (pd : PD) (X : Cx) (C : CE) (k : Nat) : Prop where
  h : Hyp pd X.prog X.w X.K X.mg X.base C k
  room : Room (k + 3) X.A
  calm : X.calm = true
section
variable {pd : PD} {X : Cx} {C : CE} {k : Nat} {W : WX}
theorem Ctx.blk (c : Ctx pd X C k) {s : Shared} {H : Hp} {sc : Scope} {cenv : Env} {fp : List Addr} : Ctx pd (X.blk s H sc cenv fp) C k := ⟨c.h, c.room, c.calm⟩
theorem ba3 {a b : Bool} (h : (a && b) = true) : a = true ∧ b = true := Bool.and_eq_true_iff.mp h
theorem ad_of {i : Nat} {d : He.DefD} {K : PySem.W.Frag} (h : pd.fn[i]? = some d) : pd.ad K i = He.fAd K d.at_ := by
  unfold PD.ad PD.at_
  rw [h]
theorem cl_of {c : Nat} {cd : ClsD} {K : PySem.W.Frag} (h : pd.cds[c]? = some cd) : pd.cl K c = He.ga K cd.name := by
  unfold PD.cl PD.cn
  rw [h]
theorem Ctx.r0 (c : Ctx pd X C k) : Room k X.A := c.room.mono (Nat.le_add_right _ _)
theorem Ctx.r1 (c : Ctx pd X C k) : Room (k + 1) X.A := c.room.mono (by omega)
theorem Ctx.free (c : Ctx pd X C k) {x : Str} (h : x ∈ pd.frees) : X.mg x = none := c.h.hfr x (List.all_eq_true.mp (ba3 c.h.ok).1 x h)
theorem Ctx.gfn (c : Ctx pd X C k) {i : Nat} {d : He.DefD} {x : Str} (h : pd.fn[i]? = some d) (e : d.at_ = (x, none)) : X.mg x = some (.ref (He.fAd X.K d.at_)) := by
  have z := List.all_eq_true.mp (ba3 (ba3 c.h.ok).2).1 d (List.mem_of_getElem? h)
  rw [e] at z ⊢
  exact c.h.hgl x z
theorem Ctx.cls (c : Ctx pd X C k) {j : Nat} {cd : ClsD} (h : pd.cds[j]? = some cd) : cd.okB pd X.K = true := List.all_eq_true.mp (ba3 (ba3 c.h.ok).2).2 cd (List.mem_of_getElem? h)
theorem Ctx.kp (c : Ctx pd X C k) {i : Nat} {d : He.DefD} (h : pd.fn[i]? = some d) : PySem.W.keepIn X.K (.ref (He.fAd X.K d.at_)) = true := by
  obtain ⟨fd, F⟩ := c.h.fnd i d h
  exact F.kp
theorem Ctx.gcl (c : Ctx pd X C k) {j : Nat} {cd : ClsD} (h : pd.cds[j]? = some cd) : X.mg cd.name = some (.ref (pd.cl X.K j)) := by
  rw [cl_of h]
  exact c.h.hgl _ (ba3 (c.cls h)).1
theorem Ctx.cl_ (c : Ctx pd X C k) {j : Nat} {cd : ClsD} (h : pd.cds[j]? = some cd) : Cls X.K (pd.cl X.K j) := by
  rw [cl_of h]
  exact He.cls_ok (ba3 (ba3 (c.cls h)).2).1
theorem Ctx.noat (c : Ctx pd X C k) {j : Nat} {cd : ClsD} {f : Str} (h : pd.cds[j]? = some cd) (hf : f ∈ cd.flds) : NoAttr X.K (pd.cl X.K j) f := by
  rw [cl_of h]
  exact He.noat_ok (List.all_eq_true.mp (ba3 (ba3 (ba3 (c.cls h)).2).2).1 f hf)
theorem atB_ok {K : PySem.W.Frag} {C : Addr} {nm : Str} {f : Addr} (h : atB K C nm f = true) : PySem.W.findIn K (.ref C) nm = some (some (.ref f)) ∧ PySem.W.isFn K (.ref f) = true := ⟨He.eqO_ok (ba3 h).1, (ba3 h).2⟩
theorem lookup_memD {d : Dn} {i : Nat} : ∀ {l : List (Dn × Nat)}, l.lookup d = some i → (d, i) ∈ l
  | [], h => by cases h
  | (b, u) :: r, h => by
    rw [List.lookup_cons] at h
    cases q : (d == b) with
    | true =>
      rw [q] at h
      cases h
      rw [eq_of_beq q]
      exact List.mem_cons_self
    | false =>
      rw [q] at h
      exact List.mem_cons_of_mem _ (lookup_memD h)
theorem Ctx.dun (c : Ctx pd X C k) (d : Dn) : DunT (pd.cl X.K) X k C d (dunNm d) := fun j i e => by
  rw [c.h.dn] at e
  unfold PD.dn at e
  split at e
  · rename_i cd h
    have hm := lookup_memD e
    have z := List.all_eq_true.mp (ba3 (ba3 (ba3 (ba3 (c.cls h)).2).2).2).1 _ hm
    obtain ⟨z1, z3⟩ := ba3 z
    obtain ⟨z1, z2⟩ := ba3 z1
    obtain ⟨z4, z5⟩ := atB_ok z1
    have hs := (c.h.bnd j cd h).1 _ hm
    obtain ⟨df, hd⟩ := Option.isSome_iff_exists.mp hs
    rw [cl_of h]
    refine ⟨⟨_, ⟨by rw [cl_of h]; exact z4, z5, ?_⟩⟩, z2, z3⟩
    rw [show pd.ad X.K i = He.fAd X.K df.at_ from ad_of hd]
    exact c.h.run i df hd
  · cases e
theorem Ctx.itT (c : Ctx pd X C k) : ItT (pd.cl X.K) X k C := fun j F e => by
  rw [c.h.it] at e
  unfold PD.it at e
  split at e
  · rename_i cd h
    obtain ⟨⟨F', i⟩, e1, e2⟩ := Option.map_eq_some_iff.mp e
    subst e2
    have z := (ba3 (ba3 (ba3 (ba3 (ba3 (c.cls h)).2).2).2).2).1
    rw [e1] at z
    obtain ⟨z1, z2⟩ := ba3 z
    obtain ⟨z4, z5⟩ := atB_ok z1
    obtain ⟨df, hd⟩ := Option.isSome_iff_exists.mp ((c.h.bnd j cd h).2.2.1 _ e1)
    refine ⟨⟨_, ⟨by rw [cl_of h]; exact z4, z5, ?_⟩⟩, fun e3 => ?_⟩
    · rw [show pd.ad X.K i = He.fAd X.K df.at_ from ad_of hd]
      exact c.h.its j cd F' i df h e1 hd
    · rw [c.h.dn] at e3
      unfold PD.dn at e3
      rw [h] at e3
      dsimp only at e3
      rw [e3] at z2
      obtain ⟨z6, z7⟩ := ba3 (show (_ && _) = true from z2)
      rw [cl_of h]
      exact ⟨He.eqO_ok z6, He.eqO_ok z7⟩
  · cases e
theorem Ctx.mth (c : Ctx pd X C k) {j i : Nat} {cd : ClsD} {d : He.DefD} {m : Str} (h : pd.cds[j]? = some cd) (hm : (m, i) ∈ cd.meths) (hd : pd.fn[i]? = some d) : Meth X.K (pd.cl X.K j) m (He.fAd X.K d.at_) := by
  have z := List.all_eq_true.mp (ba3 (ba3 (ba3 (ba3 (ba3 (ba3 (c.cls h)).2).2).2).2).2).1 _ hm
  obtain ⟨z1, z2⟩ := ba3 z
  obtain ⟨z4, z5⟩ := atB_ok z1
  rw [cl_of h]
  have e := ad_of (K := X.K) hd
  dsimp only at z2 z4 z5
  rw [e] at z2 z4 z5
  exact ⟨z4, z5, z2⟩
theorem Ctx.mk_ (c : Ctx pd X C k) {j i : Nat} {cd : ClsD} {d : He.DefD} (h : pd.cds[j]? = some cd) (hi : cd.init = some i) (hd : pd.fn[i]? = some d) : Mk X.K (pd.cl X.K j) (He.fAd X.K d.at_) := by
  have z := (ba3 (ba3 (ba3 (ba3 (ba3 (ba3 (ba3 (c.cls h)).2).2).2).2).2).2).1
  rw [hi] at z
  obtain ⟨z1, z2⟩ := ba3 z
  have e := of_decide_eq_true z2
  rw [ad_of hd] at e
  rw [cl_of h, ← e]
  exact He.mkr_ok z1
theorem isaB_ok {K : PySem.W.Frag} {Ca : Addr} (h : isaB K Ca = true) (hc : Cls K Ca) : IsaC K Ca := by
  obtain ⟨h, h4⟩ := ba3 h
  obtain ⟨h, h3⟩ := ba3 h
  obtain ⟨h1, h2⟩ := ba3 h
  exact ⟨hc, He.eqO_ok h1, He.eqO_ok h2, of_decide_eq_true h3, of_decide_eq_true h4⟩
theorem lookup_memN {d : Nat} {b : Bool} : ∀ {l : List (Nat × Bool)}, l.lookup d = some b → (d, b) ∈ l
  | [], h => by cases h
  | (c, u) :: r, h => by
    rw [List.lookup_cons] at h
    cases q : (d == c) with
    | true =>
      rw [q] at h
      cases h
      rw [eq_of_beq q]
      exact List.mem_cons_self
    | false =>
      rw [q] at h
      exact List.mem_cons_of_mem _ (lookup_memN h)
theorem Ctx.isa (c : Ctx pd X C k) {j : Nat} {cd : ClsD} (h : pd.cds[j]? = some cd) (hn : cd.isa ≠ []) : IsaT X.K (pd.cl X.K) (pd.cl X.K j) cd.isa := by
  have z := (ba3 (ba3 (ba3 (ba3 (ba3 (ba3 (ba3 (c.cls h)).2).2).2).2).2).2).2
  split at z
  · rename_i e; exact (hn e).elim
  · rename_i l e
    obtain ⟨z0, z⟩ := ba3 z
    obtain ⟨z1, z⟩ := ba3 z
    obtain ⟨z2, z⟩ := ba3 z
    obtain ⟨z3, z⟩ := ba3 z
    obtain ⟨z4, z5⟩ := ba3 z
    rw [cl_of h]
    refine ⟨fun q b e => ?_, of_decide_eq_true z1, of_decide_eq_true z2, of_decide_eq_true z3, of_decide_eq_true z4, of_decide_eq_true z5⟩
    have y := List.all_eq_true.mp z0 _ (lookup_memN e)
    obtain ⟨y1, y2⟩ := ba3 y
    obtain ⟨y2, y3⟩ := ba3 y2
    exact ⟨isaB_ok y1 (He.cls_ok y2), of_decide_eq_true y3⟩

variable {e a b o : Expr} {es : List Expr} {pos p apos : Pos} {x f : Str}
theorem x_call (c : Ctx pd X C k) (i : Nat) {d : He.DefD} {fa : SA} (hg : Gl X x) (hi : pd.fn[i]? = some d) (hx : d.at_ = (x, none)) (ha : PAm (pd.cl X.K) X W (e :: es) fa)
    (hdb : (x == ("__debug__" : Str)) = false := by decide) (he : starEach (e :: es) X.env = (false, eval e X.env) :: starEach es X.env := by rfl) (hpl : (backTo pos (starEach es X.env)).any (·.1) = false := by rfl) :
    PEm (pd.cl X.K) X W (.Call (.Name x p) (e :: es) [] pos) (sCall C i fa) := m_call (c.h.run i d hi) c.r0 hg (c.gfn hi hx) (c.kp hi) ha hdb he hpl
theorem x_call0 (c : Ctx pd X C k) (i : Nat) {d : He.DefD} (hg : Gl X x) (hi : pd.fn[i]? = some d) (hx : d.at_ = (x, none)) (hdb : (x == ("__debug__" : Str)) = false := by decide) :
    PEm (pd.cl X.K) X W (.Call (.Name x p) [] [] pos) (sCall C i aNil) := m_call0 (c.h.run i d hi) c.r0 hg (c.gfn hi hx) (c.kp hi) hdb
theorem x_callS1 (c : Ctx pd X C k) (i : Nat) {d : He.DefD} {fe : SE} {sp_ : Pos} (hg : Gl X x) (hi : pd.fn[i]? = some d) (hx : d.at_ = (x, none)) (ha : PEm (pd.cl X.K) X W e fe)
    (hdb : (x == ("__debug__" : Str)) = false := by decide) (hst : starEach [.Starred e sp_] X.env = [(true, eval e X.env)] := by rfl) :
    PEm (pd.cl X.K) X W (.Call (.Name x p) [.Starred e sp_] [] pos) (sCall C i (aStar fe aNil)) := m_callS1 (c.h.run i d hi) c.r0 hg (c.gfn hi hx) (c.kp hi) ha hdb hst
theorem Ctx.runM (c : Ctx pd X C k) {i : Nat} {d : He.DefD} (h : pd.fn[i]? = some d) : FnM (pd.cl X.K) X k (He.fAd X.K d.at_) (C.mak i) := by
  rw [c.h.mak]
  exact c.h.run i d h
theorem x_mk (c : Ctx pd X C k) (j i : Nat) {cd : ClsD} {d : He.DefD} {fa : SA} (hg : Gl X x) (hj : pd.cds[j]? = some cd) (hx : cd.name = x) (hi : cd.init = some i) (hd : pd.fn[i]? = some d) (ha : PAm (pd.cl X.K) X W (e :: es) fa)
    (hdb : (x == ("__debug__" : Str)) = false := by decide) (he : starEach (e :: es) X.env = (false, eval e X.env) :: starEach es X.env := by rfl) (hpl : (backTo pos (starEach es X.env)).any (·.1) = false := by rfl) :
    PEm (pd.cl X.K) X W (.Call (.Name x p) (e :: es) [] pos) (sMk C j i fa) := m_mk (c.mk_ hj hi hd) (c.runM hd) c.r1 hg (by rw [← hx]; exact c.gcl hj) ha hdb he hpl
theorem x_mk0 (c : Ctx pd X C k) (j i : Nat) {cd : ClsD} {d : He.DefD} (hg : Gl X x) (hj : pd.cds[j]? = some cd) (hx : cd.name = x) (hi : cd.init = some i) (hd : pd.fn[i]? = some d) (hdb : (x == ("__debug__" : Str)) = false := by decide) :
    PEm (pd.cl X.K) X W (.Call (.Name x p) [] [] pos) (sMk C j i aNil) := m_mk0 (c.mk_ hj hi hd) (c.runM hd) c.r1 hg (by rw [← hx]; exact c.gcl hj) hdb
theorem x_mkS1 (c : Ctx pd X C k) (j i : Nat) {cd : ClsD} {d : He.DefD} {fe : SE} {sp_ : Pos} (hg : Gl X x) (hj : pd.cds[j]? = some cd) (hx : cd.name = x) (hi : cd.init = some i) (hd : pd.fn[i]? = some d) (ha : PEm (pd.cl X.K) X W e fe)
    (hdb : (x == ("__debug__" : Str)) = false := by decide) (hst : starEach [.Starred e sp_] X.env = [(true, eval e X.env)] := by rfl) :
    PEm (pd.cl X.K) X W (.Call (.Name x p) [.Starred e sp_] [] pos) (sMk C j i (aStar fe aNil)) := m_mkS1 (c.mk_ hj hi hd) (c.runM hd) c.r1 hg (by rw [← hx]; exact c.gcl hj) ha hdb hst
theorem x_fld (c : Ctx pd X C k) (j : Nat) {cd : ClsD} {fe : SE} (hj : pd.cds[j]? = some cd) (hf : f ∈ cd.flds) (ha : PEm (pd.cl X.K) X W e fe) (hb : attributeBase e f X.env (eval e X.env) = eval e X.env := by rfl) :
    PEm (pd.cl X.K) X W (.Attribute e f pos) (sFld j f fe) := m_fld (c.cl_ hj) (c.noat hj hf) ha hb
theorem xs_fld (c : Ctx pd X C k) (j : Nat) {cd : ClsD} {fo fe : SE} {pos' : Pos} (hj : pd.cds[j]? = some cd) (hf : f ∈ cd.flds) (ha : PEm (pd.cl X.K) X W o fo) (he : PEm (pd.cl X.K) X W e fe) (hs : swapsWith e (some (.Attribute o f pos')) pos.line X.env = pure false := by rfl) :
    PSm (pd.cl X.K) X W (.Assign [.Attribute o f pos'] e pos) (ssFld j f fo fe) := ms_fld (c.cl_ hj) (c.noat hj hf) ha he hs
theorem x_isA (c : Ctx pd X C k) (j : Nat) {cd : ClsD} {l : List (Nat × Bool)} {fe : SE} {y : Str} {p2 : Pos} (hg : Gl X "isinstance") (hg2 : Gl X y) (hj : pd.cds[j]? = some cd) (hy : cd.name = y) (hl : cd.isa = l) (hn : l ≠ []) (hf : ("isinstance" : Str) ∈ pd.frees) (ha : PEm (pd.cl X.K) X W e fe)
    (hd : (y == ("__debug__" : Str)) = false := by decide) (he : starEach (e :: [.Name y p2]) X.env = (false, eval e X.env) :: starEach [.Name y p2] X.env := by rfl) (hpl : (backTo pos (starEach [.Name y p2] X.env)).any (·.1) = false := by rfl) :
    PEm (pd.cl X.K) X W (.Call (.Name "isinstance" p) [e, .Name y p2] [] pos) (op1 (bIsA l) fe) := m_isA (hl ▸ c.isa hj (hl ▸ hn)) hg (c.free hf) hg2 (by rw [← hy]; exact c.gcl hj) ha hd he hpl
end
end Mi

namespace Mi
open PySem PySem.Spec PyProof.Rows L2
/-- the defs of the program, as functions of the calls' environment -/
abbrev Bod := CE → Nat → List AV → AH → R AV
def callN (bod : Bod) (pd : PD) : Nat → Nat → List AV → AH → R AV
  | 0 => fun _ _ _ => .bad
  | n + 1 => bod { call := callN bod pd n, mak := callN bod pd n, dn := pd.dn, it := pd.it }
def ceN (bod : Bod) (pd : PD) (n : Nat) : CE := { call := callN bod pd n, mak := callN bod pd n, dn := pd.dn, it := pd.it }
theorem callN_succ (bod : Bod) (pd : PD) (n : Nat) : callN bod pd (n + 1) = bod (ceN bod pd n) := rfl
section
variable {pd : PD} {P : Program} {w : World} {K : PySem.W.Frag} {mg : Str → Option Value} {base : Heap} {C : CE} {k : Nat} {N ps : List Str} {b : SS} {i : Nat} {d : He.DefD}
theorem FnR.of_bad {f : Addr} {cl : Nat → Addr} {g : List AV → AH → R AV} (h : ∀ vs h, g vs h = .bad) : FnR P w K mg base (L2.CX P w) k f (spF cl K g) := fun A outer s H us vs Q E hr e0 r hs => by
  obtain ⟨m, h0, as, _, _, q⟩ := hs
  rw [h] at q
  exact q.elim
/-- the def's body over the context -/
abbrev BodyOk (pd : PD) (P : Program) (w : World) (K : PySem.W.Frag) (mg : Str → Option Value) (base : Heap) (C : CE) (k : Nat) (N : List Str) (d : He.DefD) (b : SS) : Prop := ∀ (cdv : Value) (A : Around) (outer : List Env) (s : Shared) (H : Hp) (E : XK),
  Ctx pd (cxM P w K mg base N d.qual d.scope (He.fAd K d.at_) cdv A outer s H E) C k → PSsm (pd.cl K) (cxM P w K mg base N d.qual d.scope (He.fAd K d.at_) cdv A outer s H E) (fun cls d _ H => E cls d H) d.body b
theorem step_ok (H : Hyp pd P w K mg base C k) {fd : FuncData} (F : FunD K d.name d.qual d.params d.body d.scope [] [] (He.fAd K d.at_) fd) (S : FnScope N ps d.scope) (hbody : BodyOk pd P w K mg base C k N d b) : FnOk P w K mg base (L2.CX P w) (k + 4) (He.fAd K d.at_) fd ps (spF (pd.cl K) K (runF ps.length N.length b)) := by
  refine F.ok S (fun vs H Q E h => ?_) (fun cdv A outer s H' vs Q E hr h => ?_)
  · obtain ⟨m, h0, as, r, hv, q⟩ := h
    unfold runF at q
    split at q
    · rename_i hl
      rw [hv.length]; exact hl
    · exact q.elim
  · obtain ⟨m, h0, as, r, hv, q⟩ := h
    obtain ⟨t, h1, s1⟩ := hbody cdv A outer s H' E ⟨H, hr, rfl⟩ takesM
    refine ⟨t, h1, s1 m h0 H' _ _ _ r (rels_start N.length hv) ?_⟩
    unfold runF at q
    split at q
    · exact runF_post q
    · exact q.elim
theorem step_plain (H : Hyp pd P w K mg base C k) (hd : pd.fn[i]? = some d) (h1 : d.dfl = []) (h2 : d.kwd = []) (S : FnScope N ps d.scope)
    (hb : ∀ (kV doc pm : Value) (an : Option Addr) (cdv ct : Value) (us : List Value), us.length = ps.length → bindArgs (PySem.W.fnOf d.name d.qual d.params d.body d.scope .none kV doc pm an cdv ct) ⟨us, []⟩ = pure (ps.zip us))
    (hbody : BodyOk pd P w K mg base C k N d b) : FnR P w K mg base (L2.CX P w) (k + 4) (He.fAd K d.at_) (spF (pd.cl K) K (runF ps.length N.length b)) := by
  obtain ⟨fd, F⟩ := H.fnd i d hd
  unfold He.DefD.dvs He.DefD.kws at F
  rw [h1, h2] at F
  exact fn_plain F S hb fun cdv A outer s H' E hr => hbody cdv A outer s H' E ⟨H, hr, rfl⟩
theorem step_star {pv : Str} (H : Hyp pd P w K mg base C k) (hd : pd.fn[i]? = some d) (h1 : d.dfl = []) (h2 : d.kwd = []) (S : FnScope N (ps ++ [pv]) d.scope)
    (hb : ∀ (kV doc pm : Value) (an : Option Addr) (cdv ct : Value) (us rest : List Value), us.length = ps.length → bindArgs (PySem.W.fnOf d.name d.qual d.params d.body d.scope .none kV doc pm an cdv ct) ⟨us ++ rest, []⟩ = (newTuple rest >>= fun t => pure (ps.zip us ++ [(pv, t)])))
    (hbody : BodyOk pd P w K mg base C k N d b) : FnR P w K mg base (L2.CX P w) (k + 4) (He.fAd K d.at_) (spF (pd.cl K) K (runS ps.length N.length b)) := by
  obtain ⟨fd, F⟩ := H.fnd i d hd
  unfold He.DefD.dvs He.DefD.kws at F
  rw [h1, h2] at F
  exact fn_starM F S hb fun cdv A outer s H' E hr => hbody cdv A outer s H' E ⟨H, hr, rfl⟩
end
/-- the facts alone -/
structure Base0 (pd : PD) (K : PySem.W.Frag) (mg : Str → Option Value) : Prop where
  ok : pd.okB K = true
  hgl : ∀ x : Str, (He.Fa.glo x).ok K = true → mg x = some (.ref (He.ga K x))
  hfr : ∀ x : Str, (He.Fa.free x).ok K = true → mg x = none
  fnd : ∀ (i : Nat) (d : He.DefD), pd.fn[i]? = some d → ∃ fd, FunD K d.name d.qual d.params d.body d.scope (d.dvs K) (d.kws K) (He.fAd K d.at_) fd
  bnd : ∀ (c : Nat) (cd : ClsD), pd.cds[c]? = some cd → (∀ q ∈ cd.duns, (pd.fn[q.2]?).isSome = true) ∧ (∀ q ∈ cd.meths, (pd.fn[q.2]?).isSome = true) ∧ (∀ q, cd.itf = some q → (pd.fn[q.2]?).isSome = true) ∧ (∀ i, cd.init = some i → (pd.fn[i]?).isSome = true)
section
variable {bod : Bod} {pd : PD} {P : Program} {w : World} {K : PySem.W.Frag} {mg : Str → Option Value} {base : Heap}
theorem run_all (B : Base0 pd K mg) (step : ∀ (C : CE) (k : Nat), Hyp pd P w K mg base C k → ∀ (i : Nat) (d : He.DefD), pd.fn[i]? = some d → FnR P w K mg base (L2.CX P w) (k + 4) (He.fAd K d.at_) (spF (pd.cl K) K (bod C i)))
    (its : ∀ (k c : Nat) (cd : ClsD) (F : Str) (i : Nat) (d : He.DefD), pd.cds[c]? = some cd → cd.itf = some (F, i) → pd.fn[i]? = some d → FnI P w K mg base (k + 1) (He.fAd K d.at_) (pd.cl K c) F) :
    ∀ n, Hyp pd P w K mg base (ceN bod pd n) (4 * n + 1)
  | 0 => ⟨B.ok, B.hgl, B.hfr, B.fnd, fun i d hd => FnR.of_bad fun _ _ => rfl, fun c cd F i d h1 h2 h3 => its 0 c cd F i d h1 h2 h3, B.bnd, rfl, rfl, rfl⟩
  | n + 1 => ⟨B.ok, B.hgl, B.hfr, B.fnd, fun i d hd => step (ceN bod pd n) (4 * n + 1) (run_all B step its n) i d hd, fun c cd F i d h1 h2 h3 => its (4 * (n + 1)) c cd F i d h1 h2 h3, B.bnd, rfl, rfl, rfl⟩
end
/-- what a law's walk asks at its script -/
theorem law_sp {cl : Nat → Addr} {K : PySem.W.Frag} {g : List AV → AH → R AV} {H : Hp} {a : Addr} {ns : List Int} (hO : Only H) (hS : SqL K H a (ns.map V.int)) {h' : AH} (e : g [.scr ns] [] = .ok (.bl true) h') : spF cl K g [.ref a] H (fun v _ => v = .bl true) fun _ _ _ => False := by
  have hs : ScrAt K H a ns := by
    rcases hS with (h | ⟨o, h⟩) | h
    · rcases hO a with z | ⟨o, xs, z⟩
      · rw [z] at h; cases h
      · rw [z] at h; cases h
    · exact .inl ⟨o, h⟩
    · exact .inr h
  refine ⟨[], [], [.scr ns], ⟨rfl, List.nodup_nil, fun i o a e1 e2 => by simp at e1⟩, ⟨_, [], rfl, ⟨a, rfl, hs⟩, rfl⟩, ?_⟩
  rw [e]
  exact fun m' H' u _ _ _ hu => hu
end Mi
namespace Mi
open PySem PySem.Spec PyProof.Rows L2
def bndB (pd : PD) : Bool := pd.cds.all fun cd => cd.duns.all (fun q => (pd.fn[q.2]?).isSome) && (cd.meths.all (fun q => (pd.fn[q.2]?).isSome) && ((match cd.itf with | some q => (pd.fn[q.2]?).isSome | none => true) && (match cd.init with | some i => (pd.fn[i]?).isSome | none => true)))
theorem bndB_ok {pd : PD} (h : bndB pd = true) (c : Nat) (cd : ClsD) (hc : pd.cds[c]? = some cd) : (∀ q ∈ cd.duns, (pd.fn[q.2]?).isSome = true) ∧ (∀ q ∈ cd.meths, (pd.fn[q.2]?).isSome = true) ∧ (∀ q, cd.itf = some q → (pd.fn[q.2]?).isSome = true) ∧ (∀ i, cd.init = some i → (pd.fn[i]?).isSome = true) := by
  have z := List.all_eq_true.mp h cd (List.mem_of_getElem? hc)
  obtain ⟨z1, z⟩ := ba3 z
  obtain ⟨z2, z⟩ := ba3 z
  obtain ⟨z3, z4⟩ := ba3 z
  exact ⟨List.all_eq_true.mp z1, List.all_eq_true.mp z2, fun q e => by rw [e] at z3; exact z3, fun i e => by rw [e] at z4; exact z4⟩
theorem base0 {pd : PD} {K : PySem.W.Frag} {h : Heap} {mg : Str → Option Value} {w : World} {ts : List He.Tab} {tf : List He.Defn} (X : K.In h) (G : h.Ns mainGlobals mg) (c : He.SaysX [] pd.fn ts tf pd.okB w h K) (hb : bndB pd = true) : Base0 pd K mg :=
  ⟨c.more, fun x e => He.glo_ok X G e, fun x e => He.free_ok X G e, fun i d e => c.t.d.def_ i e, bndB_ok hb⟩
/-- an exception of some world -/
def CXe (P : Program) : CXT := fun outer H s E e s' => ∃ w, L2.CX P w outer H s E e s'
theorem fnOk_e {P : Program} {w : World} {K : PySem.W.Frag} {mg : Str → Option Value} {base : Heap} {k : Nat} {f : Addr} {fd : FuncData} {ps : List Str} {sp : Sp} (F : FnOk P w K mg base (L2.CX P w) k f fd ps sp) : FnOk P w K mg base (CXe P) k f fd ps sp :=
  ⟨F.len, fun A outer s H args us vs Q E hr e0 hb r hs => codeAny_mono (F.run A outer s H args us vs Q E hr e0 hb r hs) fun r s' h => by
    cases r with
    | error e => exact ⟨w, h⟩
    | ok fl => cases fl <;> exact h⟩
theorem cxe_none {P : Program} {H : L2.Hp} {s s1 : Shared} {e : Value} (c : CXe P [] H s (fun _ _ _ => False) e s1) : False := by
  obtain ⟨w, a, B, H1, cls, d, rfl, fl, hok, ub, na, os, ag, hE⟩ := c
  exact hE
end Mi

namespace Mi
open PySem PySem.Spec PyProof.Rows L2
def bTo (k : Nat) (v : AV) (h : AH) : R AV := match lstOf v h with
  | some xs => new (.lst (xs.take k)) h
  | none => .bad
def bIsBl (v : AV) (h : AH) : R AV := match v with
  | .bl _ => .ok (.bl true) h
  | _ => .bad
section
variable {cl : Nat → Addr} {X : Cx} {W : WX} {e : Expr} {pos p p2 p3 : Pos}
theorem m_sliceTo (k : Nat) {j : Nat} {fe : SE} (ha : PEm cl X W e fe) : PEm cl X W (.Subscript e (.Slice none (some (.Constant (.int (k : Int)) j p3)) none p2) pos) (op1 (bTo k) fe) := fun tk => by
  obtain ⟨ta, a1, s1⟩ := ha tk
  refine ⟨_, pe_slice sl_list a1 po_none (po_some pe_int), fun m h H σ' σ Q r rs q => s1 m h H σ' σ _ r rs (Post.bind q fun v h1' m1 H1 u _ p1 k1 r1 v1 q1 => ?_)⟩
  unfold bTo at q1
  split at q1
  · rename_i xs ex
    obtain ⟨i0, p0, us, _, e1, _, _, h3, h4⟩ := lst_get r1 v1 ex
    have hc : cutV us none (some (k : Int)) = us.take k := by
      unfold cutV
      rw [HT.sIx_none, HT.sIx_nat, List.drop_zero, Nat.sub_zero, List.take_eq_take_iff]
      omega
    exact ⟨_, rfl, p0, us, e1, SqL.of h3, by rw [hc]; exact Post.newLst r1 (h4.take k) q1⟩
  · exact q1.elim
theorem m_isBl {fe : SE} (hg : Gl X "isinstance") (hm : X.mg "isinstance" = none) (hg2 : Gl X "bool") (hm2 : X.mg "bool" = none) (ha : PEm cl X W e fe)
    (he : starEach (e :: [.Name "bool" p2]) X.env = (false, eval e X.env) :: starEach [.Name "bool" p2] X.env := by rfl) (hpl : (backTo pos (starEach [.Name "bool" p2] X.env)).any (·.1) = false := by rfl) :
    PEm cl X W (.Call (.Name "isinstance" p) [e, .Name "bool" p2] [] pos) (op1 bIsBl fe) := fun tk => by
  obtain ⟨ta, a1, s1⟩ := ha tk
  refine ⟨_, pe_callB call_isi hg hm (by decide +kernel) (pa_cons a1 (pa_cons (pe_bltn (v := .ty "bool") (u := .type "bool") hg2 hm2 (by decide +kernel) rfl) pa_nil) he) (he := he) (hpl := hpl), fun m h H σ' σ Q r rs q => s1 m h H σ' σ _ r rs (Post.bind q fun v h1' m1 H1 u _ p1 k1 r1 v1 q1 => ?_)⟩
  show ∃ (x c : V) (t u' : Value) (b : Bool), [u, V.ty "bool"] = [x, c] ∧ ClsV c u' ∧ TyX X.K H1 x t ∧ PySem.W.kitOne X.K t u' = some b ∧ Q (.bl b) H1
  cases v with
  | bl b0 => exact ⟨u, _, _, _, true, rfl, .ty _, by rw [show u = _ from v1]; exact .base (.bl b0), by rfl, q1.now r1 rfl⟩
  | _ => exact q1.elim
end
end Mi

namespace Mi
open PySem PySem.Spec PyProof.Rows L2
/-- what is not in S stays -/
def Fr (S : List Nat) (h h' : AH) : Prop := h.length ≤ h'.length ∧ ∀ i, i < h.length → i ∉ S → h'[i]? = h[i]?
theorem Fr.rf {S : List Nat} {h : AH} : Fr S h h := ⟨Nat.le_refl _, fun _ _ _ => rfl⟩
theorem Fr.tr {S : List Nat} {h h1 h2 : AH} (a : Fr S h h1) (b : Fr S h1 h2) : Fr S h h2 := ⟨Nat.le_trans a.1 b.1, fun i hi hn => (b.2 i (Nat.lt_of_lt_of_le hi a.1) hn).trans (a.2 i hi hn)⟩
theorem Fr.mono {S T : List Nat} {h h1 : AH} (a : Fr S h h1) (s : ∀ i ∈ S, i ∈ T) : Fr T h h1 := ⟨a.1, fun i hi hn => a.2 i hi fun z => hn (s i z)⟩
theorem Fr.nil {T : List Nat} {h h1 : AH} (a : Fr [] h h1) : Fr T h h1 := a.mono fun _ z => by cases z
theorem lt_of_get {h : AH} {i : Nat} {o : AO} (e : h[i]? = some o) : i < h.length := (List.getElem?_eq_some_iff.mp e).1
theorem Fr.get {S : List Nat} {h h1 : AH} (a : Fr S h h1) {i : Nat} {o : AO} (e : h[i]? = some o) (hn : i ∉ S) : h1[i]? = some o := (a.2 i (lt_of_get e) hn).trans e
theorem Fr.get0 {h h1 : AH} (a : Fr [] h h1) {i : Nat} {o : AO} (e : h[i]? = some o) : h1[i]? = some o := a.get e (by simp)
theorem Fr.push {S : List Nat} {h : AH} {os : List AO} : Fr S h (h ++ os) := ⟨by simp, fun i hi _ => List.getElem?_append_left hi⟩
theorem Fr.set {S : List Nat} {h : AH} {i : Nat} {o : AO} (hi : i ∈ S) : Fr S h (h.set i o) := ⟨by simp, fun j _ hn => List.getElem?_set_ne fun z => hn (by subst z; exact hi)⟩
/-- an object made since h0 may change -/
theorem Fr.setNew {S : List Nat} {h0 h : AH} {i : Nat} {o : AO} (a : Fr S h0 h) (hi : h0.length ≤ i) : Fr S h0 (h.set i o) := ⟨by simpa using a.1, fun j hj hn => (List.getElem?_set_ne fun z => by omega).trans (a.2 j hj hn)⟩
theorem get_new {h : AH} {o : AO} : (h ++ [o])[h.length]? = some o := by simp
theorem get_old {h : AH} {os : List AO} {i : Nat} {o : AO} (e : h[i]? = some o) : (h ++ os)[i]? = some o := by rw [List.getElem?_append_left (lt_of_get e)]; exact e
theorem set_get {h : AH} {i : Nat} {o o' : AO} (e : h[i]? = some o') : (h.set i o)[i]? = some o := List.getElem?_set_self (lt_of_get e)

section
variable {σ σ1 : Sl} {h h1 h2 : AH} {a b : SS} {e : SE} {v w : AV} {i : Nat} {t : SB} {x : Bool} {r : RS}
theorem seq_nx (q : a σ h = .ok (.nx σ1) h1) : ssSeq a b σ h = b σ1 h1 := by simp [ssSeq, q]
theorem set_ok (q : e σ h = .ok v h1) : ssSet i e σ h = .ok (.nx (σ.set i (some v))) h1 := by simp [ssSet, q]
theorem ret_ok (q : e σ h = .ok v h1) : ssRet e σ h = .ok (.rt v) h1 := by simp [ssRet, q]
theorem expr_ok (q : e σ h = .ok v h1) : ssExpr e σ h = .ok (.nx σ) h1 := by simp [ssExpr, q]
theorem if_ok (q : t σ h = .ok x h1) : ssIf t a b σ h = if x then a σ h1 else b σ h1 := by simp [ssIf, q]
theorem seq_rt (q : a σ h = .ok (.rt v) h1) : ssSeq a b σ h = .ok (.rt v) h1 := by simp [ssSeq, q]
theorem args_nil : aNil σ h = .ok [] h := rfl
theorem args_cons {rs : SA} {vs : List AV} (q : e σ h = .ok v h1) (p : rs σ h1 = .ok vs h2) : aCons e rs σ h = .ok (v :: vs) h2 := by simp [aCons, q, p]
theorem args_one (q : e σ h = .ok v h1) : aCons e aNil σ h = .ok [v] h1 := args_cons q rfl
theorem call_ok {C : CE} {f : Nat} {as : SA} {vs : List AV} (q : as σ h = .ok vs h1) : sCall C f as σ h = C.call f vs h1 := by simp [sCall, opN, q]
theorem opN_ok {g : List AV → AH → R AV} {as : SA} {vs : List AV} (q : as σ h = .ok vs h1) : opN g as σ h = g vs h1 := by simp [opN, q]
theorem op2_ok {g : AV → AV → AH → R AV} {e1 e2 : SE} (q : e1 σ h = .ok v h1) (p : e2 σ h1 = .ok w h2) : op2 g e1 e2 σ h = g v w h2 := by simp [op2, q, p]
theorem var_ok (q : σ[i]? = some (some v)) : sVar i σ h = .ok v h := by simp [sVar, q]
theorem tBl_ok (q : e σ h = .ok (.bl x) h1) : tBl e σ h = .ok x h1 := by simp [tBl, q]
theorem tTru_ok (q : e σ h = .ok v h1) (p : tru v h1 = some x) : tTru e σ h = .ok x h1 := by simp [tTru, q, p]
theorem tNot_ok (q : t σ h = .ok x h1) : tNot t σ h = .ok (!x) h1 := by simp [tNot, q]
theorem tAnd_t {u : SB} (q : t σ h = .ok true h1) : tAnd t u σ h = u σ h1 := by simp [tAnd, q]
theorem tAnd_f {u : SB} (q : t σ h = .ok false h1) : tAnd t u σ h = .ok false h1 := by simp [tAnd, q]
theorem tOr_f {u : SB} (q : t σ h = .ok false h1) : tOr t u σ h = u σ h1 := by simp [tOr, q]
theorem tOr_t {u : SB} (q : t σ h = .ok true h1) : tOr t u σ h = .ok true h1 := by simp [tOr, q]
theorem sAnd_t {f : SE} (q : e σ h = .ok (.bl true) h1) : sAnd e f σ h = f σ h1 := by simp [sAnd, q]
theorem sAnd_f {f : SE} (q : e σ h = .ok (.bl false) h1) : sAnd e f σ h = .ok (.bl false) h1 := by simp [sAnd, q]
theorem fld_ok {c : Nat} {f : Str} {j : Nat} {fs : Fs} (q : e σ h = .ok (.ref j) h1) (g : h1[j]? = some (.ins c fs)) (l : fs.lookup f = some w) : sFld c f e σ h = .ok w h1 := by simp [sFld, op1, q, cls?, g, l]
theorem ssFld_ok {c : Nat} {f : Str} {o : SE} {j : Nat} {fs : Fs} (q : e σ h = .ok w h1) (p : o σ h1 = .ok (.ref j) h2) (g : h2[j]? = some (.ins c fs)) (l : fs.length < 1000) : ssFld c f o e σ h = .ok (.nx σ) (h2.set j (.ins c (putA f w fs))) := by
  simp [ssFld, q, p, g, l]
theorem mk_ok {C : CE} {c f : Nat} {as : SA} {vs : List AV} (q : as σ h = .ok vs h1) (p : C.mak f (.ref h1.length :: vs) (h1 ++ [.ins c []]) = .ok .non h2) : sMk C c f as σ h = .ok (.ref h1.length) h2 := by simp [sMk, opN, q, p]
theorem runF_rt {np n : Nat} {vs : List AV} (hl : vs.length = np) (q : b (slots n vs) h = .ok (.rt v) h1) : runF np n b vs h = .ok v h1 := by simp [runF, hl, q, endF]
theorem runF_nx {np n : Nat} {vs : List AV} (hl : vs.length = np) (q : b (slots n vs) h = .ok (.nx σ1) h1) : runF np n b vs h = .ok .non h1 := by simp [runF, hl, q, endF]
end

/-- a for loop over known items -/
theorem forL_ok {s : Src} {xs : List AV} {g : SG} {b : SS} (Iv : Nat → Sl → AH → Prop) (hat : ∀ i σ h, Iv i σ h → s.at i h = some xs[i]?)
    (step : ∀ i x σ h, xs[i]? = some x → Iv i σ h → ∃ σ1 σ2 h2, g x σ = some σ1 ∧ b σ1 h = .ok (.nx σ2) h2 ∧ Iv (i + 1) σ2 h2) :
    ∀ (k i : Nat) (σ : Sl) (h : AH), xs.length = i + k → Iv i σ h → ∃ σ2 h2, forL s g b k i σ h = .ok (.nx σ2) h2 ∧ Iv xs.length σ2 h2 := by
  intro k
  induction k with
  | zero =>
    intro i σ h hl hi
    unfold forL
    rw [hat i σ h hi, List.getElem?_eq_none (by omega)]
    exact ⟨σ, h, rfl, by rw [hl]; exact hi⟩
  | succ k ih =>
    intro i σ h hl hi
    have hx : xs[i]? = some xs[i] := List.getElem?_eq_getElem (by omega)
    obtain ⟨σ1, σ2, h2, e1, e2, e3⟩ := step i _ σ h hx hi
    unfold forL
    rw [hat i σ h hi, hx]
    dsimp only
    rw [e1]
    dsimp only
    rw [e2]
    simp only [sbind_ok]
    exact ih (i + 1) σ2 h2 (by omega) e3
/-- a comprehension over known items -/
theorem lcL_ok {s : Src} {xs : List AV} {g : SG} {t : SB} {e : SE} {D : Nat} {σ : Sl} (Iv : Nat → List AV → AH → Prop) (hat : ∀ i acc h, Iv i acc h → s.at i h = some xs[i]?)
    (step : ∀ i x acc h, xs[i]? = some x → Iv i acc h → ∃ σ1, g x σ = some σ1 ∧ ((∃ h2, t σ1 h = .ok false h2 ∧ Iv (i + 1) acc h2) ∨
      ∃ h2 w h3, t σ1 h = .ok true h2 ∧ e σ1 h2 = .ok w h3 ∧ h3[D]? = some (.lst acc) ∧ acc.length < sizeLine ∧ Iv (i + 1) (acc ++ [w]) (h3.set D (.lst (acc ++ [w]))))) :
    ∀ (k i : Nat) (acc : List AV) (h : AH), xs.length = i + k → Iv i acc h → ∃ acc2 h2, lcL s g t e D σ k i h = .ok (.ref D) h2 ∧ Iv xs.length acc2 h2 := by
  intro k
  induction k with
  | zero =>
    intro i acc h hl hi
    unfold lcL
    rw [hat i acc h hi, List.getElem?_eq_none (by omega)]
    exact ⟨acc, h, rfl, by rw [hl]; exact hi⟩
  | succ k ih =>
    intro i acc h hl hi
    have hx : xs[i]? = some xs[i] := List.getElem?_eq_getElem (by omega)
    obtain ⟨σ1, e1, q⟩ := step i _ acc h hx hi
    unfold lcL
    rw [hat i acc h hi, hx]
    dsimp only
    rw [e1]
    dsimp only
    rcases q with ⟨h2, e2, e3⟩ | ⟨h2, w, h3, e2, e3, e4, e5, e6⟩
    · rw [e2]
      exact ih (i + 1) acc h2 (by omega) e3
    · rw [e2]
      dsimp only
      rw [e3]
      dsimp only
      rw [e4]
      dsimp only
      rw [if_pos e5]
      exact ih (i + 1) _ _ (by omega) e6
/-- over a list, elements that make nothing -/
theorem lc_pure {fi : SI} {g : SG} {t : SB} {e : SE} {vs : List Nat} {σ : Sl} {h h1 : AH} {l : Nat} {xs : List AV} (σx : AV → Sl) (p : AV → Bool) (f : AV → AV) (hi : fi σ h = .ok (.lst l) h1) (hl : h1[l]? = some (.lst xs)) (hz : xs.length < sizeLine)
    (hg : ∀ x, g x (wipeA σ vs) = some (σx x)) (ht : ∀ x ∈ xs, ∀ acc, t (σx x) (h1 ++ [.lst acc]) = .ok (p x) (h1 ++ [.lst acc])) (he : ∀ x ∈ xs, p x = true → ∀ acc, e (σx x) (h1 ++ [.lst acc]) = .ok (f x) (h1 ++ [.lst acc])) :
    sLc fi g t e vs σ h = .ok (.ref h1.length) (h1 ++ [.lst ((xs.filter p).map f)]) := by
  unfold sLc
  rw [hi]
  simp only [bind_ok]
  have hlen : (Src.lst l).len (h1 ++ [.lst []]) = xs.length := by
    unfold Src.len
    dsimp only
    rw [get_old hl]
  rw [hlen]
  obtain ⟨acc, h2, q1, q2, q3⟩ := lcL_ok (s := .lst l) (xs := xs) (g := g) (t := t) (e := e) (D := h1.length) (σ := wipeA σ vs) (fun i acc h => acc = ((xs.take i).filter p).map f ∧ h = h1 ++ [.lst acc])
    (fun i acc h q => by
      rw [q.2]
      unfold Src.at
      dsimp only
      rw [get_old hl])
    (fun i x acc h hx q => by
      obtain ⟨q1, q2⟩ := q
      have hm : x ∈ xs := List.mem_of_getElem? hx
      have htk : xs.take (i + 1) = xs.take i ++ [x] := by
        rw [List.take_succ, hx]; rfl
      refine ⟨σx x, hg x, ?_⟩
      rw [q2]
      cases hp : p x with
      | false =>
        refine .inl ⟨_, by rw [ht x hm, hp], ?_, rfl⟩
        rw [htk, List.filter_append, List.filter_cons, hp, q1]
        simp
      | true =>
        refine .inr ⟨_, f x, _, by rw [ht x hm, hp], he x hm hp acc, get_new, ?_, ?_, ?_⟩
        · rw [q1, List.length_map]
          refine Nat.lt_of_le_of_lt (List.length_filter_le _ _) ?_
          rw [List.length_take]
          omega
        · rw [htk, List.filter_append, List.filter_cons, hp, q1]
          simp
        · simp) xs.length 0 [] (h1 ++ [.lst []]) (by simp) ⟨by simp, rfl⟩
  rw [q1, q3, q2, List.take_length]

structure Tp (h : AH) (t s : Nat) (a b c : Int) (ns : List Int) : Prop where
  ht : h[t]? = some (.lst [.int a, .int b, .int c, .ref s])
  hs : h[s]? = some (.lst (ns.map .int))
  ne : s ≠ t
  a0 : 0 ≤ a
  b0 : 0 ≤ b
theorem Tp.set {h : AH} {t s : Nat} {a b c a' b' c' : Int} {ns : List Int} (T : Tp h t s a b c ns) (ha : 0 ≤ a') (hb : 0 ≤ b') : Tp (h.set t (.lst [.int a', .int b', .int c', .ref s])) t s a' b' c' ns :=
  ⟨set_get T.ht, (List.getElem?_set_ne (Ne.symm T.ne)).trans T.hs, T.ne, ha, hb⟩
def Tape (h : AH) (t s : Nat) (ns : List Int) : Prop := ∃ a b c, Tp h t s a b c ns
theorem Tp.fr {S : List Nat} {h h' : AH} {t s : Nat} {a b c : Int} {ns : List Int} (T : Tp h t s a b c ns) (f : Fr S h h') (h1 : t ∉ S) (h2 : s ∉ S) : Tp h' t s a b c ns := ⟨f.get T.ht h1, f.get T.hs h2, T.ne, T.a0, T.b0⟩
theorem Tape.fr {S : List Nat} {h h' : AH} {t s : Nat} {ns : List Int} (T : Tape h t s ns) (f : Fr S h h') (h1 : t ∉ S) (h2 : s ∉ S) : Tape h' t s ns := by
  obtain ⟨a, b, c, T⟩ := T
  exact ⟨a, b, c, T.fr f h1 h2⟩
section
variable {C : CE} {h : AH} {t : Nat} {x0 x1 x2 x3 : AV} {σ : Sl}
theorem ix4_0 (e : h[t]? = some (.lst [x0, x1, x2, x3])) : oIx C (.ref t) (.int 0) h = .ok x0 h := by simp [oIx, seqOf, e]; rfl
theorem ix4_1 (e : h[t]? = some (.lst [x0, x1, x2, x3])) : oIx C (.ref t) (.int 1) h = .ok x1 h := by simp [oIx, seqOf, e]; rfl
theorem ix4_2 (e : h[t]? = some (.lst [x0, x1, x2, x3])) : oIx C (.ref t) (.int 2) h = .ok x2 h := by simp [oIx, seqOf, e]; rfl
theorem ix4_3 (e : h[t]? = some (.lst [x0, x1, x2, x3])) : oIx C (.ref t) (.int 3) h = .ok x3 h := by simp [oIx, seqOf, e]; rfl
theorem st4_0 {v : AV} (e : h[t]? = some (.lst [x0, x1, x2, x3])) : oSetIx (.ref t) (.int 0) v h = some (h.set t (.lst [v, x1, x2, x3])) := by simp [oSetIx, e]; rfl
theorem st4_1 {v : AV} (e : h[t]? = some (.lst [x0, x1, x2, x3])) : oSetIx (.ref t) (.int 1) v h = some (h.set t (.lst [x0, v, x2, x3])) := by simp [oSetIx, e]; rfl
theorem st4_2 {v : AV} (e : h[t]? = some (.lst [x0, x1, x2, x3])) : oSetIx (.ref t) (.int 2) v h = some (h.set t (.lst [x0, x1, v, x3])) := by simp [oSetIx, e]; rfl
theorem ix_at {l : Nat} {xs : List AV} {i : Nat} {v : AV} (e : h[l]? = some (.lst xs)) (q : xs[i]? = some v) : oIx C (.ref l) (.int i) h = .ok v h := by
  have hi : i < xs.length := (List.getElem?_eq_some_iff.mp q).1
  have z : L2.atI xs (i : Int) = some v := by
    unfold L2.atI L2.ixN
    simp only [Int.natCast_nonneg, if_true]
    rw [if_pos (by omega)]
    exact q
  simp only [oIx, seqOf, e, z]
theorem ssIx_ok {o i e : SE} {h1 h2 h3 h4 : AH} {l j v : AV} (q1 : e σ h = .ok v h1) (q2 : o σ h1 = .ok l h2) (q3 : i σ h2 = .ok j h3) (q4 : oSetIx l j v h3 = some h4) : ssIx o i e σ h = .ok (.nx σ) h4 := by simp [ssIx, q1, q2, q3, q4]
end
end Mi

namespace Mi
open PySem PySem.Spec PyProof.Rows L2
abbrev strs_ (xs : List Str) : List AV := xs.map .str
/-- each once, in order -/
def dd (xs : List Str) : List Str := xs.foldl (fun d x => if x ∈ d then d else d ++ [x]) []
theorem dd_snoc (xs : List Str) (x : Str) : dd (xs ++ [x]) = if x ∈ dd xs then dd xs else dd xs ++ [x] := by
  unfold dd
  rw [List.foldl_append]
  rfl
theorem dd_props (xs : List Str) : (dd xs).Nodup ∧ (∀ y, y ∈ dd xs ↔ y ∈ xs) ∧ (dd xs).length ≤ xs.length := by
  suffices h : ∀ n, (dd (xs.take n)).Nodup ∧ (∀ y, y ∈ dd (xs.take n) ↔ y ∈ xs.take n) ∧ (dd (xs.take n)).length ≤ (xs.take n).length by
    have z := h xs.length
    rw [List.take_length] at z
    exact z
  intro n
  induction n with
  | zero => exact ⟨by simp [dd], fun y => by simp [dd], by simp [dd]⟩
  | succ n ih =>
    obtain ⟨h1, h2, h3⟩ := ih
    by_cases hn : n < xs.length
    · have e : xs.take (n + 1) = xs.take n ++ [xs[n]] := by rw [List.take_succ, List.getElem?_eq_getElem hn]; rfl
      rw [e, dd_snoc]
      by_cases hm : xs[n] ∈ dd (xs.take n)
      · rw [if_pos hm]
        refine ⟨h1, fun y => ?_, by rw [List.length_append]; omega⟩
        rw [h2, List.mem_append, List.mem_singleton]
        exact ⟨.inl, fun z => z.elim id fun z => by rw [z]; exact (h2 _).mp hm⟩
      · rw [if_neg hm]
        refine ⟨List.nodup_append.mpr ⟨h1, by simp, fun a ha b hb => ?_⟩, fun y => ?_, by rw [List.length_append, List.length_append]; simp only [List.length_cons, List.length_nil]; omega⟩
        · rw [List.mem_singleton] at hb
          subst hb
          exact fun z => hm (z ▸ ha)
        · rw [List.mem_append, List.mem_append, h2]
    · have e : xs.take (n + 1) = xs.take n := by rw [List.take_of_length_le (by omega), List.take_of_length_le (by omega)]
      rw [e]
      exact ⟨h1, h2, h3⟩
theorem nodup_dd (xs : List Str) : (dd xs).Nodup := (dd_props xs).1
theorem mem_dd {xs : List Str} {y : Str} : y ∈ dd xs ↔ y ∈ xs := (dd_props xs).2.1 y
theorem length_dd (xs : List Str) : (dd xs).length ≤ xs.length := (dd_props xs).2.2
/-- the names, once each, in order -/
def alp (xs : List Str) : List Str := sortS (dd xs)
theorem mem_alp {xs : List Str} {y : Str} : y ∈ alp xs ↔ y ∈ xs := by rw [← mem_dd (xs := xs)]; exact (sortS_perm _).mem_iff
theorem nodup_alp (xs : List Str) : (alp xs).Nodup := (sortS_perm _).nodup_iff.mpr (nodup_dd xs)
theorem length_alp (xs : List Str) : (alp xs).length ≤ xs.length := by rw [show (alp xs).length = (dd xs).length from (sortS_perm _).length_eq]; exact length_dd xs
theorem alp_congr {xs ys : List Str} (h : ∀ y, y ∈ xs ↔ y ∈ ys) : alp xs = alp ys := sortS_congr ((List.perm_ext_iff_of_nodup (nodup_dd xs) (nodup_dd ys)).mpr fun y => by rw [mem_dd, mem_dd]; exact h y)
theorem sortS_alp {xs ys : List Str} (hx : xs.Nodup) (h : ∀ y, y ∈ xs ↔ y ∈ ys) : sortS xs = alp ys := sortS_congr ((List.perm_ext_iff_of_nodup hx (nodup_dd ys)).mpr fun y => by rw [mem_dd]; exact h y)

theorem set_same {h : AH} {t : Nat} {o : AO} (e : h[t]? = some o) : h.set t o = h := by
  obtain ⟨hl, e⟩ := List.getElem?_eq_some_iff.mp e
  rw [← e]
  exact List.set_getElem_self hl
theorem toV_strs (xs : List Str) : omap toV (strs_ xs) = some (xs.map V.str) := by
  induction xs with
  | nil => rfl
  | cons x r ih =>
    show omap toV (.str x :: strs_ r) = _
    unfold omap
    rw [ih]
    rfl
theorem inV_strs (x : Str) (xs : List Str) : inV (V.str x) (xs.map V.str) = decide (x ∈ xs) := by
  unfold inV
  rw [List.any_map, Bool.eq_iff_iff, List.any_eq_true, decide_eq_true_iff]
  constructor
  · rintro ⟨y, hy, e⟩
    have e2 : (y == x) = true := e
    rw [← eq_of_beq e2]
    exact hy
  · intro h
    exact ⟨x, h, beq_self_eq_true x⟩
theorem inS_strs (x : Str) (xs : List Str) : inS (.str x) (strs_ xs) = some (decide (x ∈ xs)) := by
  unfold inS
  rw [toV_strs]
  show some (inV (V.str x) (xs.map V.str)) = _
  rw [inV_strs]
section
variable {C : CE} {h : AH} {a b l : Nat} {x : Str} {xs ys : List Str}
theorem in_strs (e : h[l]? = some (.lst (strs_ xs))) : oIn C (.str x) (.ref l) h = .ok (.bl (decide (x ∈ xs))) h := by
  unfold oIn seqOf
  simp only [e]
  rw [inS_strs]
theorem notin_strs (e : h[l]? = some (.lst (strs_ xs))) : oNotIn C (.str x) (.ref l) h = .ok (.bl (!decide (x ∈ xs))) h := by
  unfold oNotIn seqOf
  simp only [e]
  rw [inS_strs]
theorem sorted_strs (e : h[l]? = some (.lst (strs_ xs))) (hz : xs.length < 64) : bSorted (.ref l) h = .ok (.ref h.length) (h ++ [.lst (strs_ (sortS xs))]) := by
  unfold bSorted lstOf
  simp only [e]
  rw [strs_map]
  simp only [if_pos hz, new]
theorem dat_strs (n : Nat) (xs : List Str) : omap (dat (n + 1) h) (strs_ xs) = some (xs.map PyData.str) := by
  induction xs with
  | nil => rfl
  | cons y r ih =>
    show omap (dat (n + 1) h) (.str y :: strs_ r) = _
    unfold omap
    rw [ih]
    rfl
theorem eqvAll_strs : ∀ (xs ys : List Str), PyData.eqvAll (xs.map PyData.str) (ys.map PyData.str) = decide (xs = ys)
  | [], [] => rfl
  | [], _ :: _ => rfl
  | _ :: _, [] => rfl
  | x :: xs, y :: ys => by
    show (PyData.eqv (.str x) (.str y) && PyData.eqvAll (xs.map PyData.str) (ys.map PyData.str)) = _
    rw [eqvAll_strs xs ys, show PyData.eqv (.str x) (.str y) = (x == y) from by simp [PyData.eqv], Bool.eq_iff_iff]
    simp
theorem shaped_strs (xs : List Str) (ok : ∀ x ∈ xs, PyData.strOk x = true) : SeqAt.shaped (.list (xs.map PyData.str)) = true := by
  have h1 : PyData.canLayAll0 (xs.map PyData.str) = true := by
    induction xs with
    | nil => rfl
    | cons x r ih =>
      show (PyData.strOk x && PyData.canLayAll0 (r.map PyData.str)) = true
      rw [ok x List.mem_cons_self, ih fun y hy => ok y (List.mem_cons_of_mem _ hy)]
      rfl
  have h2 : PyData.depthAll (xs.map PyData.str) = 0 := by
    clear ok h1
    induction xs with
    | nil => rfl
    | cons x r ih =>
      show max 0 (PyData.depthAll (r.map PyData.str)) = 0
      rw [ih]
      rfl
  show (PyData.canLayAll0 (xs.map PyData.str) && decide (PyData.depthAll (xs.map PyData.str) + 1 ≤ 64)) = true
  rw [h1, h2]
  rfl
theorem eqD_strs (ea : h[a]? = some (.lst (strs_ xs))) (eb : h[b]? = some (.lst (strs_ ys))) (ox : ∀ x ∈ xs, PyData.strOk x = true) (oy : ∀ x ∈ ys, PyData.strOk x = true) : eqD (.ref a) (.ref b) h = some (decide (xs = ys)) := by
  have d1 : ∀ {a : Nat} {xs : List Str}, h[a]? = some (.lst (strs_ xs)) → dat 9 h (.ref a) = some (.list (xs.map PyData.str)) := fun {a xs} e => by
    show (match h[a]? with | some (.lst xs) => (omap (dat 8 h) xs).map PyData.list | _ => none) = _
    rw [e]
    show (omap (dat 8 h) (strs_ xs)).map _ = _
    rw [dat_strs]
    rfl
  unfold eqD
  rw [d1 ea, d1 eb]
  dsimp only
  rw [if_pos ⟨shaped_strs xs ox, shaped_strs ys oy⟩]
  show some (PyData.eqvAll _ _) = _
  rw [eqvAll_strs]
theorem eq_strs (ea : h[a]? = some (.lst (strs_ xs))) (eb : h[b]? = some (.lst (strs_ ys))) (ox : ∀ x ∈ xs, PyData.strOk x = true) (oy : ∀ x ∈ ys, PyData.strOk x = true) : oEq C (.ref a) (.ref b) h = .ok (.bl (decide (xs = ys))) h := by
  unfold oEq
  rw [eqD_strs ea eb ox oy]
theorem ne_strs (ea : h[a]? = some (.lst (strs_ xs))) (eb : h[b]? = some (.lst (strs_ ys))) (ox : ∀ x ∈ xs, PyData.strOk x = true) (oy : ∀ x ∈ ys, PyData.strOk x = true) : oNe C (.ref a) (.ref b) h = .ok (.bl (!decide (xs = ys))) h := by
  unfold oNe
  rw [eqD_strs ea eb ox oy]
theorem eqD_ints {i j : Int} : eqD (.int i) (.int j) h = some (i == j) := by
  unfold eqD
  rw [show dat 9 h (.int i) = some (.int i) from rfl, show dat 9 h (.int j) = some (.int j) from rfl]
  dsimp only
  rw [if_pos ⟨rfl, rfl⟩]
  simp [PyData.eqv]
end

theorem itRef_own {C : CE} {v : AV} {h : AH} {c a : Nat} {fs : Fs} {F : Str} {xs : List AV} (h2 : cls? v h = some (c, fs)) (e : C.it c = some F) (l : fs.lookup F = some (.ref a)) (g : h[a]? = some (.lst xs)) : itRef C v h = some a := by
  unfold itRef
  rw [h2]
  dsimp only
  rw [e]
  dsimp only
  rw [l]
  dsimp only
  rw [g]
theorem bList_own {C : CE} {v : AV} {h h1 : AH} {c a f : Nat} {fs : Fs} {k : Int} {ys : List AV} (e1 : seqOf v h = none) (e2 : cls? v h = some (c, fs)) (e3 : itRef C v h = some a) (e4 : C.dn c .len = some f) (e5 : C.call f [v] h = .ok (.int k) h1) (e6 : h1[a]? = some (.lst ys)) (hk : 0 ≤ k ∧ k ≤ 1000000 ∧ ys.length < sizeLine) :
    bList C v h = .ok (.ref h1.length) (h1 ++ [.lst ys]) := by
  unfold bList
  rw [e1, e2, e3]
  dsimp only
  rw [e4]
  dsimp only
  rw [e5]
  dsimp only
  rw [e6]
  dsimp only
  rw [if_pos hk]
  rfl

theorem dd_loop {C : CE} {s : Src} {xs : List Str} {h : AH} {K : Nat} {σ : Sl} (p q : Nat) (hpq : p ≠ q) (hq : q < σ.length) (hp : σ[p]? = some (some (.ref K))) (hK : h[K]? = some (.lst [])) (hat : ∀ i acc, s.at i (h.set K (.lst acc)) = some ((strs_ xs)[i]?)) (hlen : s.len h = xs.length) (hz : xs.length < sizeLine) :
    ∃ σ2, forL s (gNm q) (ssIf (tBl (op2 (oNotIn C) (sVar q) (sVar p))) (ssExpr (sBm isLst mAppend (sVar p) (aCons (sVar q) aNil))) ssNil) (s.len h) 0 σ h = .ok (.nx σ2) (h.set K (.lst (strs_ (dd xs)))) ∧ σ2.length = σ.length ∧ ∀ j, j ≠ q → σ2[j]? = σ[j]? := by
  obtain ⟨σ2, h2, e1, e2, e3, e4⟩ := forL_ok (s := s) (xs := strs_ xs) (g := gNm q) (b := ssIf (tBl (op2 (oNotIn C) (sVar q) (sVar p))) (ssExpr (sBm isLst mAppend (sVar p) (aCons (sVar q) aNil))) ssNil)
    (fun i σ' h' => h' = h.set K (.lst (strs_ (dd (xs.take i)))) ∧ σ'.length = σ.length ∧ ∀ j, j ≠ q → σ'[j]? = σ[j]?)
    (fun i σ' h' I => by rw [I.1]; exact hat i _)
    (fun i x σ' h' hx (I : h' = h.set K (.lst (strs_ (dd (xs.take i)))) ∧ σ'.length = σ.length ∧ ∀ j, j ≠ q → σ'[j]? = σ[j]?) => by
      obtain ⟨I1, I2, I3⟩ := I
      rw [List.getElem?_map] at hx
      obtain ⟨y, hy, rfl⟩ := Option.map_eq_some_iff.mp hx
      have htk : xs.take (i + 1) = xs.take i ++ [y] := by rw [List.take_succ, hy]; rfl
      have hp1 : (σ'.set q (some (.str y)))[p]? = some (some (.ref K)) := by rw [List.getElem?_set_ne (Ne.symm hpq), I3 p hpq]; exact hp
      have hq1 : (σ'.set q (some (.str y)))[q]? = some (some (.str y)) := List.getElem?_set_self (by rw [I2]; exact hq)
      have hK1 : h'[K]? = some (.lst (strs_ (dd (xs.take i)))) := by rw [I1]; exact set_get hK
      have ht : tBl (op2 (oNotIn C) (sVar q) (sVar p)) (σ'.set q (some (.str y))) h' = .ok (!decide (y ∈ dd (xs.take i))) h' := tBl_ok ((op2_ok (var_ok hq1) (var_ok hp1)).trans (notin_strs hK1))
      have rest : ∀ j, j ≠ q → (σ'.set q (some (.str y)))[j]? = σ[j]? := fun j hj => by rw [List.getElem?_set_ne (Ne.symm hj)]; exact I3 j hj
      refine ⟨σ'.set q (some (.str y)), σ'.set q (some (.str y)), h.set K (.lst (strs_ (dd (xs.take (i + 1))))), rfl, ?_, rfl, by rw [List.length_set]; exact I2, rest⟩
      rw [if_ok ht, htk, dd_snoc]
      by_cases hm : y ∈ dd (xs.take i)
      · rw [decide_eq_true hm, if_pos hm, if_neg (by decide), I1]
        rfl
      · rw [decide_eq_false hm, if_neg hm, if_pos (by decide)]
        have hlt : (strs_ (dd (xs.take i))).length < sizeLine := by
          rw [List.length_map]
          have z := length_dd (xs.take i)
          rw [List.length_take] at z
          omega
        refine expr_ok (v := .non) ?_
        unfold sBm
        rw [var_ok hp1]
        simp only [bind_ok]
        rw [show isLst (.ref K) h' = true from by unfold isLst lstOf; simp only [hK1]; rfl, if_pos rfl, args_one (var_ok hq1)]
        simp only [bind_ok]
        unfold mAppend
        simp only [hK1]
        rw [if_pos hlt, I1, List.set_set]
        simp) (s.len h) 0 σ h (by rw [hlen]; simp) ⟨by rw [List.take_zero]; exact (set_same hK).symm, rfl, fun _ _ => rfl⟩
  refine ⟨σ2, ?_, e3, e4⟩
  rw [e1, e2]
  simp
end Mi


namespace K02
open PySem PySem.Spec PyProof.Rows L2 Mi
def top (i : Nat) : Stmt := PySem.Challenge.pw_redomarks_k02_marks_compare.main.body.getD i (.Pass ⟨0, 0, 0, 0⟩)
abbrev s_0 : Stmt := inClass (top 1) 0
def d_0 : He.DefD := ⟨("Marks", some "__init__"), "__init__", "Marks.__init__", defArgs s_0, defBody s_0, defScope s_0, [], []⟩
abbrev s_1 : Stmt := inClass (top 1) 1
def d_1 : He.DefD := ⟨("Marks", some "__eq__"), "__eq__", "Marks.__eq__", defArgs s_1, defBody s_1, defScope s_1, [], []⟩
abbrev s_2 : Stmt := inClass (top 1) 2
def d_2 : He.DefD := ⟨("Marks", some "__len__"), "__len__", "Marks.__len__", defArgs s_2, defBody s_2, defScope s_2, [], []⟩
abbrev s_3 : Stmt := inClass (top 1) 3
def d_3 : He.DefD := ⟨("Marks", some "__iter__"), "__iter__", "Marks.__iter__", defArgs s_3, defBody s_3, defScope s_3, [], []⟩
abbrev s_4 : Stmt := inClass (top 1) 4
def d_4 : He.DefD := ⟨("Marks", some "__contains__"), "__contains__", "Marks.__contains__", defArgs s_4, defBody s_4, defScope s_4, [], []⟩
abbrev s_5 : Stmt := inClass (top 1) 5
def d_5 : He.DefD := ⟨("Marks", some "__or__"), "__or__", "Marks.__or__", defArgs s_5, defBody s_5, defScope s_5, [], []⟩
abbrev s_6 : Stmt := inClass (top 1) 6
def d_6 : He.DefD := ⟨("Marks", some "__and__"), "__and__", "Marks.__and__", defArgs s_6, defBody s_6, defScope s_6, [], []⟩
abbrev s_7 : Stmt := inClass (top 1) 7
def d_7 : He.DefD := ⟨("Marks", some "__sub__"), "__sub__", "Marks.__sub__", defArgs s_7, defBody s_7, defScope s_7, [], []⟩
abbrev s_8 : Stmt := inClass (top 1) 8
def d_8 : He.DefD := ⟨("Marks", some "__le__"), "__le__", "Marks.__le__", defArgs s_8, defBody s_8, defScope s_8, [], []⟩
abbrev s_9 : Stmt := inClass (top 1) 9
def d_9 : He.DefD := ⟨("Marks", some "__ior__"), "__ior__", "Marks.__ior__", defArgs s_9, defBody s_9, defScope s_9, [], []⟩
abbrev s_10 : Stmt := top 3
def d_10 : He.DefD := ⟨("_law_tape", none), "_law_tape", "_law_tape", defArgs s_10, defBody s_10, defScope s_10, [], []⟩
abbrev s_11 : Stmt := top 4
def d_11 : He.DefD := ⟨("_law_pick", none), "_law_pick", "_law_pick", defArgs s_11, defBody s_11, defScope s_11, [], []⟩
abbrev s_12 : Stmt := top 5
def d_12 : He.DefD := ⟨("_law_letters_name", none), "_law_letters_name", "_law_letters_name", defArgs s_12, defBody s_12, defScope s_12, [], []⟩
abbrev s_13 : Stmt := top 6
def d_13 : He.DefD := ⟨("_law_marks_of_up_to_three", none), "_law_marks_of_up_to_three", "_law_marks_of_up_to_three", defArgs s_13, defBody s_13, defScope s_13, [], []⟩
abbrev s_14 : Stmt := top 7
def d_14 : He.DefD := ⟨("_law_distinct", none), "_law_distinct", "_law_distinct", defArgs s_14, defBody s_14, defScope s_14, [], []⟩
abbrev s_15 : Stmt := top 8
def d_15 : He.DefD := ⟨("_law_alphabet", none), "_law_alphabet", "_law_alphabet", defArgs s_15, defBody s_15, defScope s_15, [], []⟩
abbrev s_16 : Stmt := top 9
def d_16 : He.DefD := ⟨("_law_is_inside", none), "_law_is_inside", "_law_is_inside", defArgs s_16, defBody s_16, defScope s_16, [], []⟩
abbrev s_17 : Stmt := top 10
def d_17 : He.DefD := ⟨("_law_is_told", none), "_law_is_told", "_law_is_told", defArgs s_17, defBody s_17, defScope s_17, [], []⟩
abbrev s_18 : Stmt := top 11
def d_18 : He.DefD := ⟨("law", none), "law", "law", defArgs s_18, defBody s_18, defScope s_18, [], []⟩
def isa_0 : List (Nat × Bool) := [(0, true)]
def fn : List He.DefD := [d_0, d_1, d_2, d_3, d_4, d_5, d_6, d_7, d_8, d_9, d_10, d_11, d_12, d_13, d_14, d_15, d_16, d_17, d_18]
def pd : PD := { fn := fn, frees := ["all", "bool", "int", "isinstance", "iter", "len", "list", "range", "sorted", "str"], cds := [{ name := "Marks", flds := ["names"], duns := [(.eq, 1), (.len, 2), (.has, 4), (.or, 5), (.and, 6), (.sub, 7), (.le, 8), (.ior, 9)], itf := some ("names", 3), meths := [], init := some 0, isa := isa_0 }] }
abbrev N_0 : List Str := ["self", "names", "kept", "name"]
theorem sc_0 : FnScope N_0 ["self", "names"] (defScope s_0) := ⟨rfl, rfl, rfl, by decide +kernel, rfl, by decide +kernel, by decide +kernel⟩
theorem nd_0 : N_0.Nodup := sc_0.nd
abbrev N_1 : List Str := ["self", "other"]
theorem sc_1 : FnScope N_1 ["self", "other"] (defScope s_1) := ⟨rfl, rfl, rfl, by decide +kernel, rfl, by decide +kernel, by decide +kernel⟩
theorem nd_1 : N_1.Nodup := sc_1.nd
abbrev N_2 : List Str := ["self"]
theorem sc_2 : FnScope N_2 ["self"] (defScope s_2) := ⟨rfl, rfl, rfl, by decide +kernel, rfl, by decide +kernel, by decide +kernel⟩
theorem nd_2 : N_2.Nodup := sc_2.nd
abbrev N_3 : List Str := ["self"]
theorem sc_3 : FnScope N_3 ["self"] (defScope s_3) := ⟨rfl, rfl, rfl, by decide +kernel, rfl, by decide +kernel, by decide +kernel⟩
theorem nd_3 : N_3.Nodup := sc_3.nd
abbrev N_4 : List Str := ["self", "name"]
theorem sc_4 : FnScope N_4 ["self", "name"] (defScope s_4) := ⟨rfl, rfl, rfl, by decide +kernel, rfl, by decide +kernel, by decide +kernel⟩
theorem nd_4 : N_4.Nodup := sc_4.nd
abbrev N_5 : List Str := ["self", "other", "names"]
theorem sc_5 : FnScope N_5 ["self", "other"] (defScope s_5) := ⟨rfl, rfl, rfl, by decide +kernel, rfl, by decide +kernel, by decide +kernel⟩
theorem nd_5 : N_5.Nodup := sc_5.nd
abbrev N_6 : List Str := ["self", "other", "names", "name"]
theorem sc_6 : FnScope N_6 ["self", "other"] (defScope s_6) := ⟨rfl, rfl, rfl, by decide +kernel, rfl, by decide +kernel, by decide +kernel⟩
theorem nd_6 : N_6.Nodup := sc_6.nd
abbrev N_7 : List Str := ["self", "other", "names", "name"]
theorem sc_7 : FnScope N_7 ["self", "other"] (defScope s_7) := ⟨rfl, rfl, rfl, by decide +kernel, rfl, by decide +kernel, by decide +kernel⟩
theorem nd_7 : N_7.Nodup := sc_7.nd
abbrev N_8 : List Str := ["self", "other", "name"]
theorem sc_8 : FnScope N_8 ["self", "other"] (defScope s_8) := ⟨rfl, rfl, rfl, by decide +kernel, rfl, by decide +kernel, by decide +kernel⟩
theorem nd_8 : N_8.Nodup := sc_8.nd
abbrev N_9 : List Str := ["self", "other", "more", "name"]
theorem sc_9 : FnScope N_9 ["self", "other"] (defScope s_9) := ⟨rfl, rfl, rfl, by decide +kernel, rfl, by decide +kernel, by decide +kernel⟩
theorem nd_9 : N_9.Nodup := sc_9.nd
abbrev N_10 : List Str := ["_law_script"]
theorem sc_10 : FnScope N_10 ["_law_script"] (defScope s_10) := ⟨rfl, rfl, rfl, by decide +kernel, rfl, by decide +kernel, by decide +kernel⟩
theorem nd_10 : N_10.Nodup := sc_10.nd
abbrev N_11 : List Str := ["_law_tape_here", "_law_count", "_law_cell", "_law_mixed", "_law_digit"]
theorem sc_11 : FnScope N_11 ["_law_tape_here", "_law_count"] (defScope s_11) := ⟨rfl, rfl, rfl, by decide +kernel, rfl, by decide +kernel, by decide +kernel⟩
theorem nd_11 : N_11.Nodup := sc_11.nd
abbrev N_12 : List Str := ["_law_tape_here", "_law_letters", "_law_k"]
theorem sc_12 : FnScope N_12 ["_law_tape_here"] (defScope s_12) := ⟨rfl, rfl, rfl, by decide +kernel, rfl, by decide +kernel, by decide +kernel⟩
theorem nd_12 : N_12.Nodup := sc_12.nd
abbrev N_13 : List Str := ["_law_names"]
theorem sc_13 : FnScope N_13 ["_law_names"] (defScope s_13) := ⟨rfl, rfl, rfl, by decide +kernel, rfl, by decide +kernel, by decide +kernel⟩
theorem nd_13 : N_13.Nodup := sc_13.nd
abbrev N_14 : List Str := ["_law_members", "_law_found", "_law_member"]
theorem sc_14 : FnScope N_14 ["_law_members"] (defScope s_14) := ⟨rfl, rfl, rfl, by decide +kernel, rfl, by decide +kernel, by decide +kernel⟩
theorem nd_14 : N_14.Nodup := sc_14.nd
abbrev N_15 : List Str := ["_law_names", "_law_name"]
theorem sc_15 : FnScope N_15 ["_law_names"] (defScope s_15) := ⟨rfl, rfl, rfl, by decide +kernel, rfl, by decide +kernel, by decide +kernel⟩
theorem nd_15 : N_15.Nodup := sc_15.nd
abbrev N_16 : List Str := ["_law_one", "_law_two", "_law_name"]
theorem sc_16 : FnScope N_16 ["_law_one", "_law_two"] (defScope s_16) := ⟨rfl, rfl, rfl, by decide +kernel, rfl, by decide +kernel, by decide +kernel⟩
theorem nd_16 : N_16.Nodup := sc_16.nd
abbrev N_17 : List Str := ["_law_told", "_law_expected"]
theorem sc_17 : FnScope N_17 ["_law_told", "_law_expected"] (defScope s_17) := ⟨rfl, rfl, rfl, by decide +kernel, rfl, by decide +kernel, by decide +kernel⟩
theorem nd_17 : N_17.Nodup := sc_17.nd
abbrev N_18 : List Str := ["_law_script", "_law_tape_here", "_law_pool", "_law_k", "_law_one", "_law_two", "_law_first", "_law_second", "_law_common", "_law_rest", "_law_other_rest", "_law_name"]
theorem sc_18 : FnScope N_18 ["_law_script"] (defScope s_18) := ⟨rfl, rfl, rfl, by decide +kernel, rfl, by decide +kernel, by decide +kernel⟩
theorem nd_18 : N_18.Nodup := sc_18.nd
/-- Marks.__init__ -/
def b_0 (C : CE) : SS :=
    (ssSeq (ssSet 2 (sLst aNil))
    (ssSeq (sFor (iSeq (sVar 1)) (gNm 3) (ssIf (tBl (op2 (oNotIn C) (sVar 3) (sVar 2))) (ssExpr (sBm isLst mAppend (sVar 2) (aCons (sVar 3) aNil))) ssNil))
    (ssFld 0 "names" (sVar 0) (opN (arg1 bSorted) (aCons (sLc (iSeq (sVar 2)) (gNm 3) tYes (opN (arg1 bStr) (aCons (sVar 3) aNil)) [3]) aNil)))))
/-- Marks.__eq__ -/
def b_1 (C : CE) : SS :=
    (ssRet (sAnd (op1 (bIsA isa_0) (sVar 1)) (op2 (oEq C) (sFld 0 "names" (sVar 0)) (sFld 0 "names" (sVar 1)))))
/-- Marks.__len__ -/
def b_2 (C : CE) : SS :=
    (ssRet (opN (arg1 (bLen C)) (aCons (sFld 0 "names" (sVar 0)) aNil)))
/-- Marks.__contains__ -/
def b_4 (C : CE) : SS :=
    (ssRet (op2 (oIn C) (sVar 1) (sFld 0 "names" (sVar 0))))
/-- Marks.__or__ -/
def b_5 (C : CE) : SS :=
    (ssSeq (ssIf (tNot (tTru (op1 (bIsA isa_0) (sVar 1)))) ssBad ssNil)
    (ssSeq (ssSet 2 (op2 oAdd (sFld 0 "names" (sVar 0)) (sFld 0 "names" (sVar 1))))
    (ssRet (sMk C 0 0 (aStar (sVar 2) aNil)))))
/-- Marks.__and__ -/
def b_6 (C : CE) : SS :=
    (ssSeq (ssIf (tNot (tTru (op1 (bIsA isa_0) (sVar 1)))) ssBad ssNil)
    (ssSeq (ssSet 2 (sLc (iSeq (sFld 0 "names" (sVar 0))) (gNm 3) (tBl (op2 (oIn C) (sVar 3) (sFld 0 "names" (sVar 1)))) (sVar 3) [3]))
    (ssRet (sMk C 0 0 (aStar (sVar 2) aNil)))))
/-- Marks.__sub__ -/
def b_7 (C : CE) : SS :=
    (ssSeq (ssIf (tNot (tTru (op1 (bIsA isa_0) (sVar 1)))) ssBad ssNil)
    (ssSeq (ssSet 2 (sLc (iSeq (sFld 0 "names" (sVar 0))) (gNm 3) (tBl (op2 (oNotIn C) (sVar 3) (sFld 0 "names" (sVar 1)))) (sVar 3) [3]))
    (ssRet (sMk C 0 0 (aStar (sVar 2) aNil)))))
/-- Marks.__le__ -/
def b_8 (C : CE) : SS :=
    (ssSeq (ssIf (tNot (tTru (op1 (bIsA isa_0) (sVar 1)))) ssBad ssNil)
    (ssRet (opN (arg1 bAll) (aCons (sLc (iSeq (sFld 0 "names" (sVar 0))) (gNm 2) tYes (op2 (oIn C) (sVar 2) (sFld 0 "names" (sVar 1))) [2]) aNil))))
/-- Marks.__ior__ -/
def b_9 (C : CE) : SS :=
    (ssSeq (ssIf (tNot (tTru (op1 (bIsA isa_0) (sVar 1)))) ssBad ssNil)
    (ssSeq (ssSet 2 (sLc (iSeq (sFld 0 "names" (sVar 1))) (gNm 3) (tBl (op2 (oNotIn C) (sVar 3) (sFld 0 "names" (sVar 0)))) (sVar 3) [3]))
    (ssSeq (ssFld 0 "names" (sVar 0) (opN (arg1 bSorted) (aCons (sLc (iSeq (op2 oAdd (sFld 0 "names" (sVar 0)) (sVar 2))) (gNm 3) tYes (opN (arg1 bStr) (aCons (sVar 3) aNil)) [3]) aNil)))
    (ssRet (sVar 0)))))
/-- _law_tape -/
def b_10 (C : CE) : SS :=
    (ssRet (sLst (aCons (sK (.int 0)) (aCons (sK (.int 0)) (aCons (sK (.int 7)) (aCons (opN (arg1 (bList C)) (aCons (sVar 0) aNil)) aNil))))))
/-- _law_pick -/
def b_11 (C : CE) : SS :=
    (ssSeq (ssIf (tAnd (tBl (op2 oLt (op2 (oIx C) (sVar 0) (sK (.int 0))) (sVar 1))) (tBl (op2 oLt (op2 (oIx C) (sVar 0) (sK (.int 1))) (opN (arg1 (bLen C)) (aCons (op2 (oIx C) (sVar 0) (sK (.int 3))) aNil))))) (ssSeq (ssSet 2 (op2 (oIx C) (op2 (oIx C) (sVar 0) (sK (.int 3))) (op2 (oIx C) (sVar 0) (sK (.int 1)))))
    (ssSeq (ssIx (sVar 0) (sK (.int 1)) (op2 oAdd (op2 (oIx C) (sVar 0) (sK (.int 1))) (sK (.int 1))))
    (ssSeq (ssIx (sVar 0) (sK (.int 0)) (sIfE (tBl (op2 oGe (sVar 2) (op2 oPow (sK (.int 10)) (sK (.int 18))))) (sVar 2) (sK (.int 0))))
    (ssSeq (ssSet 3 (op2 oAdd (op2 oMul (op2 (oIx C) (sVar 0) (sK (.int 2))) (sK (.int 69621))) (op2 oMul (op2 (oIx C) (sVar 0) (sK (.int 1))) (sK (.int 7919)))))
    (ssIx (sVar 0) (sK (.int 2)) (op2 oMod (opN (arg1 bInt) (aCons (op2 oAdd (sVar 3) (op2 oMul (op2 oMod (opN (arg1 bInt) (aCons (sVar 2) aNil)) (sK (.int 1000003))) (sK (.int 48271)))) aNil)) (sK (.int 2147483647)))))))) ssNil)
    (ssSeq (ssIf (tBl (op2 oGe (op2 (oIx C) (sVar 0) (sK (.int 0))) (sVar 1))) (ssSeq (ssSet 4 (op2 oMod (opN (arg1 bInt) (aCons (op2 (oIx C) (sVar 0) (sK (.int 0))) aNil)) (sVar 1)))
    (ssSeq (ssIx (sVar 0) (sK (.int 0)) (op2 oDiv (op2 (oIx C) (sVar 0) (sK (.int 0))) (sVar 1)))
    (ssRet (sVar 4)))) ssNil)
    (ssSeq (ssIx (sVar 0) (sK (.int 2)) (op2 oMod (opN (arg1 bInt) (aCons (op2 oAdd (op2 oMul (op2 (oIx C) (sVar 0) (sK (.int 2))) (sK (.int 48271))) (sK (.int 12345))) aNil)) (sK (.int 2147483647))))
    (ssRet (op2 oMod (opN (arg1 bInt) (aCons (op2 oDiv (op2 (oIx C) (sVar 0) (sK (.int 2))) (sK (.int 64))) aNil)) (sVar 1))))))
/-- _law_letters_name -/
def b_12 (C : CE) : SS :=
    (ssSeq (ssSet 1 (sK (.str "abcdefghijklmnopqrstuvwxyz")))
    (ssRet (sBm isStr mJoin (sK (.str "")) (aCons (sLc (iRng1 (op2 oAdd (sK (.int 1)) (sCall C 11 (aCons (sVar 0) (aCons (sK (.int 8)) aNil))))) (gNm 2) tYes (op2 (oIx C) (sVar 1) (sCall C 11 (aCons (sVar 0) (aCons (sK (.int 26)) aNil)))) [2]) aNil))))
/-- _law_marks_of_up_to_three -/
def b_13 (C : CE) : SS :=
    (ssSeq (ssIf (tBl (op2 (oEq C) (opN (arg1 (bLen C)) (aCons (sVar 0) aNil)) (sK (.int 0)))) (ssRet (sMk C 0 0 aNil)) ssNil)
    (ssSeq (ssIf (tBl (op2 (oEq C) (opN (arg1 (bLen C)) (aCons (sVar 0) aNil)) (sK (.int 1)))) (ssRet (sMk C 0 0 (aCons (op2 (oIx C) (sVar 0) (sK (.int 0))) aNil))) ssNil)
    (ssSeq (ssIf (tBl (op2 (oEq C) (opN (arg1 (bLen C)) (aCons (sVar 0) aNil)) (sK (.int 2)))) (ssRet (sMk C 0 0 (aCons (op2 (oIx C) (sVar 0) (sK (.int 0))) (aCons (op2 (oIx C) (sVar 0) (sK (.int 1))) aNil)))) ssNil)
    (ssRet (sMk C 0 0 (aCons (op2 (oIx C) (sVar 0) (sK (.int 0))) (aCons (op2 (oIx C) (sVar 0) (sK (.int 1))) (aCons (op2 (oIx C) (sVar 0) (sK (.int 2))) aNil))))))))
/-- _law_distinct -/
def b_14 (C : CE) : SS :=
    (ssSeq (ssSet 1 (sLst aNil))
    (ssSeq (sFor (iSeq (sVar 0)) (gNm 2) (ssIf (tBl (op2 (oNotIn C) (sVar 2) (sVar 1))) (ssExpr (sBm isLst mAppend (sVar 1) (aCons (sVar 2) aNil))) ssNil))
    (ssRet (sVar 1))))
/-- _law_alphabet -/
def b_15 (C : CE) : SS :=
    (ssRet (opN (arg1 bSorted) (aCons (sLc (iSeq (sCall C 14 (aCons (sVar 0) aNil))) (gNm 1) tYes (opN (arg1 bStr) (aCons (sVar 1) aNil)) [1]) aNil)))
/-- _law_is_inside -/
def b_16 (C : CE) : SS :=
    (ssSeq (sFor (iSeq (sVar 0)) (gNm 2) (ssIf (tBl (op2 (oNotIn C) (sVar 2) (sVar 1))) (ssRet (sK (.bl false))) ssNil))
    (ssRet (sK (.bl true))))
/-- _law_is_told -/
def b_17 (C : CE) : SS :=
    (ssRet (sAnd (op1 bIsBl (sVar 0)) (op2 (oEq C) (sVar 0) (sVar 1))))
/-- law -/
def b_18 (C : CE) : SS :=
    (ssSeq (ssSet 1 (sCall C 10 (aCons (sVar 0) aNil)))
    (ssSeq (ssSet 2 (sLc (iRng1 (sK (.int 4))) (gNm 3) tYes (sCall C 12 (aCons (sVar 1) aNil)) [3]))
    (ssSeq (ssSet 4 (sLc (iRng1 (sK (.int 4))) (gNm 3) tYes (op2 (oIx C) (sVar 2) (sCall C 11 (aCons (sVar 1) (aCons (sK (.int 4)) aNil)))) [3]))
    (ssSeq (ssSet 5 (sLc (iRng1 (sCall C 11 (aCons (sVar 1) (aCons (sK (.int 4)) aNil)))) (gNm 3) tYes (op2 (oIx C) (sVar 2) (sCall C 11 (aCons (sVar 1) (aCons (sK (.int 4)) aNil)))) [3]))
    (ssSeq (ssIf (tBl (op2 (oEq C) (sCall C 11 (aCons (sVar 1) (aCons (sK (.int 3)) aNil))) (sK (.int 1)))) (ssSet 5 (op1 (bTo 3) (sVar 4))) ssNil)
    (ssSeq (ssSet 6 (sMk C 0 0 (aCons (op2 (oIx C) (sVar 4) (sK (.int 0))) (aCons (op2 (oIx C) (sVar 4) (sK (.int 1))) (aCons (op2 (oIx C) (sVar 4) (sK (.int 2))) (aCons (op2 (oIx C) (sVar 4) (sK (.int 3))) aNil))))))
    (ssSeq (ssSet 7 (sCall C 13 (aCons (sVar 5) aNil)))
    (ssSeq (ssSet 8 (op2 (oAnd C) (sVar 6) (sVar 7)))
    (ssSeq (ssSet 9 (op2 (oSub C) (sVar 6) (sVar 7)))
    (ssSeq (ssSet 10 (op2 (oSub C) (sVar 7) (sVar 6)))
    (ssSeq (ssIf (tBl (op2 (oNe C) (opN (arg1 (bList C)) (aCons (sVar 8) aNil)) (sCall C 15 (aCons (sLc (iSeq (sVar 4)) (gNm 11) (tBl (op2 (oIn C) (sVar 11) (sVar 5))) (sVar 11) [11]) aNil)))) (ssRet (sK (.bl false))) ssNil)
    (ssSeq (ssIf (tBl (op2 (oNe C) (opN (arg1 (bList C)) (aCons (sVar 9) aNil)) (sCall C 15 (aCons (sLc (iSeq (sVar 4)) (gNm 11) (tBl (op2 (oNotIn C) (sVar 11) (sVar 5))) (sVar 11) [11]) aNil)))) (ssRet (sK (.bl false))) ssNil)
    (ssSeq (ssIf (tBl (op2 (oNe C) (opN (arg1 (bList C)) (aCons (sVar 10) aNil)) (sCall C 15 (aCons (sLc (iSeq (sVar 5)) (gNm 11) (tBl (op2 (oNotIn C) (sVar 11) (sVar 4))) (sVar 11) [11]) aNil)))) (ssRet (sK (.bl false))) ssNil)
    (ssSeq (ssIf (tNot (tTru (sCall C 17 (aCons (op2 (oLe C) (sVar 7) (sVar 6)) (aCons (sCall C 16 (aCons (sVar 5) (aCons (sVar 4) aNil))) aNil))))) (ssRet (sK (.bl false))) ssNil)
    (ssSeq (ssIf (tNot (tTru (sCall C 17 (aCons (op2 (oLe C) (sVar 6) (sVar 7)) (aCons (sCall C 16 (aCons (sVar 4) (aCons (sVar 5) aNil))) aNil))))) (ssRet (sK (.bl false))) ssNil)
    (ssSeq (ssIf (tNot (tTru (sCall C 17 (aCons (op2 (oEq C) (sVar 6) (sVar 7)) (aCons (op2 (oEq C) (sCall C 15 (aCons (sVar 4) aNil)) (sCall C 15 (aCons (sVar 5) aNil))) aNil))))) (ssRet (sK (.bl false))) ssNil)
    (ssSeq (sFor (iSeq (sVar 2)) (gNm 11) (ssIf (tOr (tNot (tTru (sCall C 17 (aCons (op2 (oIn C) (sVar 11) (sVar 6)) (aCons (op2 (oIn C) (sVar 11) (sVar 4)) aNil))))) (tNot (tTru (sCall C 17 (aCons (op2 (oIn C) (sVar 11) (sVar 7)) (aCons (op2 (oIn C) (sVar 11) (sVar 5)) aNil)))))) (ssRet (sK (.bl false))) ssNil))
    (ssSeq (ssIf (tOr (tBl (op2 (oNe C) (opN (arg1 (bLen C)) (aCons (sVar 6) aNil)) (opN (arg1 (bLen C)) (aCons (sCall C 15 (aCons (sVar 4) aNil)) aNil)))) (tBl (op2 (oNe C) (opN (arg1 (bLen C)) (aCons (sVar 7) aNil)) (opN (arg1 (bLen C)) (aCons (sCall C 15 (aCons (sVar 5) aNil)) aNil))))) (ssRet (sK (.bl false))) ssNil)
    (ssRet (sAnd (op2 (oEq C) (opN (arg1 (bList C)) (aCons (sVar 6) aNil)) (sCall C 15 (aCons (sVar 4) aNil))) (op2 (oEq C) (opN (arg1 (bList C)) (aCons (sVar 7) aNil)) (sCall C 15 (aCons (sVar 5) aNil)))))))))))))))))))))))
def bod : Bod := fun C i => match i with
  | 0 => runS 1 4 (b_0 C)
  | 1 => runF 2 2 (b_1 C)
  | 2 => runF 1 1 (b_2 C)
  | 4 => runF 2 2 (b_4 C)
  | 5 => runF 2 3 (b_5 C)
  | 6 => runF 2 4 (b_6 C)
  | 7 => runF 2 4 (b_7 C)
  | 8 => runF 2 3 (b_8 C)
  | 9 => runF 2 4 (b_9 C)
  | 10 => runF 1 1 (b_10 C)
  | 11 => runF 2 5 (b_11 C)
  | 12 => runF 1 3 (b_12 C)
  | 13 => runF 1 1 (b_13 C)
  | 14 => runF 1 3 (b_14 C)
  | 15 => runF 1 2 (b_15 C)
  | 16 => runF 2 3 (b_16 C)
  | 17 => runF 2 2 (b_17 C)
  | 18 => runF 1 12 (b_18 C)
  | _ => fun _ _ => .bad
variable {P : Program} {w : World} {K : PySem.W.Frag} {mg : Str → Option Value} {base : Heap} {C : CE} {k : Nat}
theorem y_0 : BodyOk pd P w K mg base C k N_0 d_0 (b_0 C) := fun cdv A outer s H E c =>
    (mss_cons (ms_set 2 nd_0 (m_lst m_nil))
    (mss_cons (ms_for (passes_of rfl) rfl (mi_seq (m_var 1)) (mg_name 3 nd_0) (mss_one (ms_if (mt_cmp (k_notin (c.dun .has) c.r0) (m_var 3) (m_var 2)) (mss_one (ms_expr (m_append (m_var 2) (m_cons (m_var 3) m_nil)))) mss_nil)))
    (mss_one (xs_fld c 0 (by rfl) (by decide) (m_var 0) (m_callB c_sorted (by rfl) (c.free (by decide)) (by decide +kernel) (m_cons (m_lc rfl nd_0 (mi_seq (m_var 2)) (blkOk_by (own := [("name", 3)]) (N := N_0) (sc := (He.DefD.scope d_0)) (by decide +kernel)) (by decide) (fun _ _ _ _ _ => (mg_name 3 nd_0)) (fun _ _ _ _ _ => mts_nil) (fun _ _ _ _ _ => (m_callTy c_str (by rfl) (c.blk.free (by decide)) (by decide +kernel) (m_cons (m_var 3) m_nil)))) m_nil))))))
theorem y_1 : BodyOk pd P w K mg base C k N_1 d_1 (b_1 C) := fun cdv A outer s H E c =>
    (mss_one (ms_ret (m_and (x_isA c 0 (by rfl) (by rfl) (by rfl) (by rfl) (by rfl) (by decide) (by decide) (m_var 1)) (m_one (m_cmp (k_eq (c.dun .eq) c.r0) (x_fld c 0 (by rfl) (by decide) (m_var 0)) (x_fld c 0 (by rfl) (by decide) (m_var 1)))))))
theorem y_2 : BodyOk pd P w K mg base C k N_2 d_2 (b_2 C) := fun cdv A outer s H E c =>
    (mss_one (ms_ret (m_callB (c_len (c.dun .len) c.r1) (by rfl) (c.free (by decide)) (by decide +kernel) (m_cons (x_fld c 0 (by rfl) (by decide) (m_var 0)) m_nil))))
theorem y_4 : BodyOk pd P w K mg base C k N_4 d_4 (b_4 C) := fun cdv A outer s H E c =>
    (mss_one (ms_ret (m_cmp (k_in (c.dun .has) c.r0) (m_var 1) (x_fld c 0 (by rfl) (by decide) (m_var 0)))))
theorem y_5 : BodyOk pd P w K mg base C k N_5 d_5 (b_5 C) := fun cdv A outer s H E c =>
    (mss_cons (ms_if (mt_not (mt_tru (x_isA c 0 (by rfl) (by rfl) (by rfl) (by rfl) (by rfl) (by decide) (by decide) (m_var 1)))) mss_bad mss_nil)
    (mss_cons (ms_set 2 nd_5 (m_bin k_add (x_fld c 0 (by rfl) (by decide) (m_var 0)) (x_fld c 0 (by rfl) (by decide) (m_var 1))))
    (mss_one (ms_ret (x_mkS1 c 0 0 (by rfl) (by rfl) (by rfl) (by rfl) (by rfl) (m_var 2))))))
theorem y_6 : BodyOk pd P w K mg base C k N_6 d_6 (b_6 C) := fun cdv A outer s H E c =>
    (mss_cons (ms_if (mt_not (mt_tru (x_isA c 0 (by rfl) (by rfl) (by rfl) (by rfl) (by rfl) (by decide) (by decide) (m_var 1)))) mss_bad mss_nil)
    (mss_cons (ms_lc 2 rfl nd_6 (sw_true rfl rfl rfl (by decide +kernel)) (mi_seq (x_fld c 0 (by rfl) (by decide) (m_var 0))) (blkOk_by (own := [("name", 3)]) (N := N_6) (sc := (He.DefD.scope d_6)) (by decide +kernel)) (by decide) (fun _ _ _ _ _ => (mg_name 3 nd_6)) (fun _ _ _ _ _ => (mts_one (mt_cmp (k_in (c.blk.dun .has) c.blk.r0) (m_var 3) (x_fld c.blk 0 (by rfl) (by decide) (m_var 1))))) (fun _ _ _ _ _ => (m_var 3)))
    (mss_one (ms_ret (x_mkS1 c 0 0 (by rfl) (by rfl) (by rfl) (by rfl) (by rfl) (m_var 2))))))
theorem y_7 : BodyOk pd P w K mg base C k N_7 d_7 (b_7 C) := fun cdv A outer s H E c =>
    (mss_cons (ms_if (mt_not (mt_tru (x_isA c 0 (by rfl) (by rfl) (by rfl) (by rfl) (by rfl) (by decide) (by decide) (m_var 1)))) mss_bad mss_nil)
    (mss_cons (ms_lc 2 rfl nd_7 (sw_true rfl rfl rfl (by decide +kernel)) (mi_seq (x_fld c 0 (by rfl) (by decide) (m_var 0))) (blkOk_by (own := [("name", 3)]) (N := N_7) (sc := (He.DefD.scope d_7)) (by decide +kernel)) (by decide) (fun _ _ _ _ _ => (mg_name 3 nd_7)) (fun _ _ _ _ _ => (mts_one (mt_cmp (k_notin (c.blk.dun .has) c.blk.r0) (m_var 3) (x_fld c.blk 0 (by rfl) (by decide) (m_var 1))))) (fun _ _ _ _ _ => (m_var 3)))
    (mss_one (ms_ret (x_mkS1 c 0 0 (by rfl) (by rfl) (by rfl) (by rfl) (by rfl) (m_var 2))))))
theorem y_8 : BodyOk pd P w K mg base C k N_8 d_8 (b_8 C) := fun cdv A outer s H E c =>
    (mss_cons (ms_if (mt_not (mt_tru (x_isA c 0 (by rfl) (by rfl) (by rfl) (by rfl) (by rfl) (by decide) (by decide) (m_var 1)))) mss_bad mss_nil)
    (mss_one (ms_ret (m_callB (c_all rfl) (by rfl) (c.free (by decide)) (by decide +kernel) (m_cons (m_lc rfl nd_8 (mi_seq (x_fld c 0 (by rfl) (by decide) (m_var 0))) (blkOk_by (own := [("name", 2)]) (N := N_8) (sc := (He.DefD.scope d_8)) (by decide +kernel)) (by decide) (fun _ _ _ _ _ => (mg_name 2 nd_8)) (fun _ _ _ _ _ => mts_nil) (fun _ _ _ _ _ => (m_cmp (k_in (c.blk.dun .has) c.blk.r0) (m_var 2) (x_fld c.blk 0 (by rfl) (by decide) (m_var 1))))) m_nil)))))
theorem y_9 : BodyOk pd P w K mg base C k N_9 d_9 (b_9 C) := fun cdv A outer s H E c =>
    (mss_cons (ms_if (mt_not (mt_tru (x_isA c 0 (by rfl) (by rfl) (by rfl) (by rfl) (by rfl) (by decide) (by decide) (m_var 1)))) mss_bad mss_nil)
    (mss_cons (ms_lc 2 rfl nd_9 (sw_true rfl rfl rfl (by decide +kernel)) (mi_seq (x_fld c 0 (by rfl) (by decide) (m_var 1))) (blkOk_by (own := [("name", 3)]) (N := N_9) (sc := (He.DefD.scope d_9)) (by decide +kernel)) (by decide) (fun _ _ _ _ _ => (mg_name 3 nd_9)) (fun _ _ _ _ _ => (mts_one (mt_cmp (k_notin (c.blk.dun .has) c.blk.r0) (m_var 3) (x_fld c.blk 0 (by rfl) (by decide) (m_var 0))))) (fun _ _ _ _ _ => (m_var 3)))
    (mss_cons (xs_fld c 0 (by rfl) (by decide) (m_var 0) (m_callB c_sorted (by rfl) (c.free (by decide)) (by decide +kernel) (m_cons (m_lc rfl nd_9 (mi_seq (m_bin k_add (x_fld c 0 (by rfl) (by decide) (m_var 0)) (m_var 2))) (blkOk_by (own := [("name", 3)]) (N := N_9) (sc := (He.DefD.scope d_9)) (by decide +kernel)) (by decide) (fun _ _ _ _ _ => (mg_name 3 nd_9)) (fun _ _ _ _ _ => mts_nil) (fun _ _ _ _ _ => (m_callTy c_str (by rfl) (c.blk.free (by decide)) (by decide +kernel) (m_cons (m_var 3) m_nil)))) m_nil)))
    (mss_one (ms_ret (m_var 0))))))
theorem y_10 : BodyOk pd P w K mg base C k N_10 d_10 (b_10 C) := fun cdv A outer s H E c =>
    (mss_one (ms_ret (m_lst (m_cons m_int (m_cons m_int (m_cons m_int (m_cons (m_callTy (c_list (c.dun .len) c.itT rfl c.room) (by rfl) (c.free (by decide)) (by decide +kernel) (m_cons (m_var 0) m_nil)) m_nil)))))))
theorem y_11 : BodyOk pd P w K mg base C k N_11 d_11 (b_11 C) := fun cdv A outer s H E c =>
    (mss_cons (ms_if (mt_of (mw_and (mt_cmp k_lt (m_ix k_ix (m_var 0) m_int) (m_var 1)) (mw_and1 (mt_cmp k_lt (m_ix k_ix (m_var 0) m_int) (m_callB (c_len (c.dun .len) c.r1) (by rfl) (c.free (by decide)) (by decide +kernel) (m_cons (m_ix k_ix (m_var 0) m_int) m_nil)))))) (mss_cons (ms_set 2 nd_11 (m_ix k_ix (m_ix k_ix (m_var 0) m_int) (m_ix k_ix (m_var 0) m_int)))
    (mss_cons (ms_ix (m_var 0) m_int (m_bin k_add (m_ix k_ix (m_var 0) m_int) m_int))
    (mss_cons (ms_ix (m_var 0) m_int (m_ife (mt_cmp k_ge (m_var 2) (m_bin k_pow m_int m_int)) (m_var 2) m_int))
    (mss_cons (ms_set 3 nd_11 (m_bin k_add (m_bin k_mul (m_ix k_ix (m_var 0) m_int) m_int) (m_bin k_mul (m_ix k_ix (m_var 0) m_int) m_int)))
    (mss_one (ms_ix (m_var 0) m_int (m_bin k_mod (m_callTy c_int (by rfl) (c.free (by decide)) (by decide +kernel) (m_cons (m_bin k_add (m_var 3) (m_bin k_mul (m_bin k_mod (m_callTy c_int (by rfl) (c.free (by decide)) (by decide +kernel) (m_cons (m_var 2) m_nil)) m_int) m_int)) m_nil)) m_int))))))) mss_nil)
    (mss_cons (ms_if (mt_cmp k_ge (m_ix k_ix (m_var 0) m_int) (m_var 1)) (mss_cons (ms_set 4 nd_11 (m_bin k_mod (m_callTy c_int (by rfl) (c.free (by decide)) (by decide +kernel) (m_cons (m_ix k_ix (m_var 0) m_int) m_nil)) (m_var 1)))
    (mss_cons (ms_ix (m_var 0) m_int (m_bin k_div (m_ix k_ix (m_var 0) m_int) (m_var 1)))
    (mss_one (ms_ret (m_var 4))))) mss_nil)
    (mss_cons (ms_ix (m_var 0) m_int (m_bin k_mod (m_callTy c_int (by rfl) (c.free (by decide)) (by decide +kernel) (m_cons (m_bin k_add (m_bin k_mul (m_ix k_ix (m_var 0) m_int) m_int) m_int) m_nil)) m_int))
    (mss_one (ms_ret (m_bin k_mod (m_callTy c_int (by rfl) (c.free (by decide)) (by decide +kernel) (m_cons (m_bin k_div (m_ix k_ix (m_var 0) m_int) m_int) m_nil)) (m_var 1)))))))
theorem y_12 : BodyOk pd P w K mg base C k N_12 d_12 (b_12 C) := fun cdv A outer s H E c =>
    (mss_cons (ms_set 1 nd_12 m_str)
    (mss_one (ms_ret (m_join m_str (m_lc rfl nd_12 (mi_rng1 (by rfl) (c.free (by decide)) (m_bin k_add m_int (x_call c 11 (by rfl) (by rfl) (by rfl) (m_cons (m_var 0) (m_cons m_int m_nil))))) (blkOk_by (own := [("_law_k", 2)]) (N := N_12) (sc := (He.DefD.scope d_12)) (by decide +kernel)) (by decide) (fun _ _ _ _ _ => (mg_name 2 nd_12)) (fun _ _ _ _ _ => mts_nil) (fun _ _ _ _ _ => (m_ix k_ix (m_var 1) (x_call c.blk 11 (by rfl) (by rfl) (by rfl) (m_cons (m_var 0) (m_cons m_int m_nil))))))))))
theorem y_13 : BodyOk pd P w K mg base C k N_13 d_13 (b_13 C) := fun cdv A outer s H E c =>
    (mss_cons (ms_if (mt_cmp (k_eq (c.dun .eq) c.r0) (m_callB (c_len (c.dun .len) c.r1) (by rfl) (c.free (by decide)) (by decide +kernel) (m_cons (m_var 0) m_nil)) m_int) (mss_one (ms_ret (x_mk0 c 0 0 (by rfl) (by rfl) (by rfl) (by rfl) (by rfl)))) mss_nil)
    (mss_cons (ms_if (mt_cmp (k_eq (c.dun .eq) c.r0) (m_callB (c_len (c.dun .len) c.r1) (by rfl) (c.free (by decide)) (by decide +kernel) (m_cons (m_var 0) m_nil)) m_int) (mss_one (ms_ret (x_mk c 0 0 (by rfl) (by rfl) (by rfl) (by rfl) (by rfl) (m_cons (m_ix k_ix (m_var 0) m_int) m_nil)))) mss_nil)
    (mss_cons (ms_if (mt_cmp (k_eq (c.dun .eq) c.r0) (m_callB (c_len (c.dun .len) c.r1) (by rfl) (c.free (by decide)) (by decide +kernel) (m_cons (m_var 0) m_nil)) m_int) (mss_one (ms_ret (x_mk c 0 0 (by rfl) (by rfl) (by rfl) (by rfl) (by rfl) (m_cons (m_ix k_ix (m_var 0) m_int) (m_cons (m_ix k_ix (m_var 0) m_int) m_nil))))) mss_nil)
    (mss_one (ms_ret (x_mk c 0 0 (by rfl) (by rfl) (by rfl) (by rfl) (by rfl) (m_cons (m_ix k_ix (m_var 0) m_int) (m_cons (m_ix k_ix (m_var 0) m_int) (m_cons (m_ix k_ix (m_var 0) m_int) m_nil)))))))))
theorem y_14 : BodyOk pd P w K mg base C k N_14 d_14 (b_14 C) := fun cdv A outer s H E c =>
    (mss_cons (ms_set 1 nd_14 (m_lst m_nil))
    (mss_cons (ms_for (passes_of rfl) rfl (mi_seq (m_var 0)) (mg_name 2 nd_14) (mss_one (ms_if (mt_cmp (k_notin (c.dun .has) c.r0) (m_var 2) (m_var 1)) (mss_one (ms_expr (m_append (m_var 1) (m_cons (m_var 2) m_nil)))) mss_nil)))
    (mss_one (ms_ret (m_var 1)))))
theorem y_15 : BodyOk pd P w K mg base C k N_15 d_15 (b_15 C) := fun cdv A outer s H E c =>
    (mss_one (ms_ret (m_callB c_sorted (by rfl) (c.free (by decide)) (by decide +kernel) (m_cons (m_lc rfl nd_15 (mi_seq (x_call c 14 (by rfl) (by rfl) (by rfl) (m_cons (m_var 0) m_nil))) (blkOk_by (own := [("_law_name", 1)]) (N := N_15) (sc := (He.DefD.scope d_15)) (by decide +kernel)) (by decide) (fun _ _ _ _ _ => (mg_name 1 nd_15)) (fun _ _ _ _ _ => mts_nil) (fun _ _ _ _ _ => (m_callTy c_str (by rfl) (c.blk.free (by decide)) (by decide +kernel) (m_cons (m_var 1) m_nil)))) m_nil))))
theorem y_16 : BodyOk pd P w K mg base C k N_16 d_16 (b_16 C) := fun cdv A outer s H E c =>
    (mss_cons (ms_for (passes_of rfl) rfl (mi_seq (m_var 0)) (mg_name 2 nd_16) (mss_one (ms_if (mt_cmp (k_notin (c.dun .has) c.r0) (m_var 2) (m_var 1)) (mss_one (ms_ret m_bl)) mss_nil)))
    (mss_one (ms_ret m_bl)))
theorem y_17 : BodyOk pd P w K mg base C k N_17 d_17 (b_17 C) := fun cdv A outer s H E c =>
    (mss_one (ms_ret (m_and (m_isBl (by rfl) (c.free (by decide)) (by rfl) (c.free (by decide)) (m_var 0)) (m_one (m_cmp (k_eq (c.dun .eq) c.r0) (m_var 0) (m_var 1))))))
theorem y_18 : BodyOk pd P w K mg base C k N_18 d_18 (b_18 C) := fun cdv A outer s H E c =>
    (mss_cons (ms_set 1 nd_18 (x_call c 10 (by rfl) (by rfl) (by rfl) (m_cons (m_var 0) m_nil)))
    (mss_cons (ms_set 2 nd_18 (m_lc rfl nd_18 (mi_rng1 (by rfl) (c.free (by decide)) m_int) (blkOk_by (own := [("_law_k", 3)]) (N := N_18) (sc := (He.DefD.scope d_18)) (by decide +kernel)) (by decide) (fun _ _ _ _ _ => (mg_name 3 nd_18)) (fun _ _ _ _ _ => mts_nil) (fun _ _ _ _ _ => (x_call c.blk 12 (by rfl) (by rfl) (by rfl) (m_cons (m_var 1) m_nil)))))
    (mss_cons (ms_set 4 nd_18 (m_lc rfl nd_18 (mi_rng1 (by rfl) (c.free (by decide)) m_int) (blkOk_by (own := [("_law_k", 3)]) (N := N_18) (sc := (He.DefD.scope d_18)) (by decide +kernel)) (by decide) (fun _ _ _ _ _ => (mg_name 3 nd_18)) (fun _ _ _ _ _ => mts_nil) (fun _ _ _ _ _ => (m_ix k_ix (m_var 2) (x_call c.blk 11 (by rfl) (by rfl) (by rfl) (m_cons (m_var 1) (m_cons m_int m_nil)))))))
    (mss_cons (ms_set 5 nd_18 (m_lc rfl nd_18 (mi_rng1 (by rfl) (c.free (by decide)) (x_call c 11 (by rfl) (by rfl) (by rfl) (m_cons (m_var 1) (m_cons m_int m_nil)))) (blkOk_by (own := [("_law_k", 3)]) (N := N_18) (sc := (He.DefD.scope d_18)) (by decide +kernel)) (by decide) (fun _ _ _ _ _ => (mg_name 3 nd_18)) (fun _ _ _ _ _ => mts_nil) (fun _ _ _ _ _ => (m_ix k_ix (m_var 2) (x_call c.blk 11 (by rfl) (by rfl) (by rfl) (m_cons (m_var 1) (m_cons m_int m_nil)))))))
    (mss_cons (ms_if (mt_cmp (k_eq (c.dun .eq) c.r0) (x_call c 11 (by rfl) (by rfl) (by rfl) (m_cons (m_var 1) (m_cons m_int m_nil))) m_int) (mss_one (ms_set 5 nd_18 (m_sliceTo 3 (m_var 4)))) mss_nil)
    (mss_cons (ms_set 6 nd_18 (x_mk c 0 0 (by rfl) (by rfl) (by rfl) (by rfl) (by rfl) (m_cons (m_ix k_ix (m_var 4) m_int) (m_cons (m_ix k_ix (m_var 4) m_int) (m_cons (m_ix k_ix (m_var 4) m_int) (m_cons (m_ix k_ix (m_var 4) m_int) m_nil))))))
    (mss_cons (ms_set 7 nd_18 (x_call c 13 (by rfl) (by rfl) (by rfl) (m_cons (m_var 5) m_nil)))
    (mss_cons (ms_set 8 nd_18 (m_bin (k_and (c.dun .and) c.r0) (m_var 6) (m_var 7)))
    (mss_cons (ms_set 9 nd_18 (m_bin (k_sub (c.dun .sub) c.r0) (m_var 6) (m_var 7)))
    (mss_cons (ms_set 10 nd_18 (m_bin (k_sub (c.dun .sub) c.r0) (m_var 7) (m_var 6)))
    (mss_cons (ms_if (mt_cmp (k_ne c.r0) (m_callTy (c_list (c.dun .len) c.itT rfl c.room) (by rfl) (c.free (by decide)) (by decide +kernel) (m_cons (m_var 8) m_nil)) (x_call c 15 (by rfl) (by rfl) (by rfl) (m_cons (m_lc rfl nd_18 (mi_seq (m_var 4)) (blkOk_by (own := [("_law_name", 11)]) (N := N_18) (sc := (He.DefD.scope d_18)) (by decide +kernel)) (by decide) (fun _ _ _ _ _ => (mg_name 11 nd_18)) (fun _ _ _ _ _ => (mts_one (mt_cmp (k_in (c.blk.dun .has) c.blk.r0) (m_var 11) (m_var 5)))) (fun _ _ _ _ _ => (m_var 11))) m_nil))) (mss_one (ms_ret m_bl)) mss_nil)
    (mss_cons (ms_if (mt_cmp (k_ne c.r0) (m_callTy (c_list (c.dun .len) c.itT rfl c.room) (by rfl) (c.free (by decide)) (by decide +kernel) (m_cons (m_var 9) m_nil)) (x_call c 15 (by rfl) (by rfl) (by rfl) (m_cons (m_lc rfl nd_18 (mi_seq (m_var 4)) (blkOk_by (own := [("_law_name", 11)]) (N := N_18) (sc := (He.DefD.scope d_18)) (by decide +kernel)) (by decide) (fun _ _ _ _ _ => (mg_name 11 nd_18)) (fun _ _ _ _ _ => (mts_one (mt_cmp (k_notin (c.blk.dun .has) c.blk.r0) (m_var 11) (m_var 5)))) (fun _ _ _ _ _ => (m_var 11))) m_nil))) (mss_one (ms_ret m_bl)) mss_nil)
    (mss_cons (ms_if (mt_cmp (k_ne c.r0) (m_callTy (c_list (c.dun .len) c.itT rfl c.room) (by rfl) (c.free (by decide)) (by decide +kernel) (m_cons (m_var 10) m_nil)) (x_call c 15 (by rfl) (by rfl) (by rfl) (m_cons (m_lc rfl nd_18 (mi_seq (m_var 5)) (blkOk_by (own := [("_law_name", 11)]) (N := N_18) (sc := (He.DefD.scope d_18)) (by decide +kernel)) (by decide) (fun _ _ _ _ _ => (mg_name 11 nd_18)) (fun _ _ _ _ _ => (mts_one (mt_cmp (k_notin (c.blk.dun .has) c.blk.r0) (m_var 11) (m_var 4)))) (fun _ _ _ _ _ => (m_var 11))) m_nil))) (mss_one (ms_ret m_bl)) mss_nil)
    (mss_cons (ms_if (mt_not (mt_tru (x_call c 17 (by rfl) (by rfl) (by rfl) (m_cons (m_cmp (k_le (c.dun .le) c.r0) (m_var 7) (m_var 6)) (m_cons (x_call c 16 (by rfl) (by rfl) (by rfl) (m_cons (m_var 5) (m_cons (m_var 4) m_nil))) m_nil))))) (mss_one (ms_ret m_bl)) mss_nil)
    (mss_cons (ms_if (mt_not (mt_tru (x_call c 17 (by rfl) (by rfl) (by rfl) (m_cons (m_cmp (k_le (c.dun .le) c.r0) (m_var 6) (m_var 7)) (m_cons (x_call c 16 (by rfl) (by rfl) (by rfl) (m_cons (m_var 4) (m_cons (m_var 5) m_nil))) m_nil))))) (mss_one (ms_ret m_bl)) mss_nil)
    (mss_cons (ms_if (mt_not (mt_tru (x_call c 17 (by rfl) (by rfl) (by rfl) (m_cons (m_cmp (k_eq (c.dun .eq) c.r0) (m_var 6) (m_var 7)) (m_cons (m_cmp (k_eq (c.dun .eq) c.r0) (x_call c 15 (by rfl) (by rfl) (by rfl) (m_cons (m_var 4) m_nil)) (x_call c 15 (by rfl) (by rfl) (by rfl) (m_cons (m_var 5) m_nil))) m_nil))))) (mss_one (ms_ret m_bl)) mss_nil)
    (mss_cons (ms_for (passes_of rfl) rfl (mi_seq (m_var 2)) (mg_name 11 nd_18) (mss_one (ms_if (mt_of (mw_or (mt_not (mt_tru (x_call c 17 (by rfl) (by rfl) (by rfl) (m_cons (m_cmp (k_in (c.dun .has) c.r0) (m_var 11) (m_var 6)) (m_cons (m_cmp (k_in (c.dun .has) c.r0) (m_var 11) (m_var 4)) m_nil))))) (mw_or1 (mt_not (mt_tru (x_call c 17 (by rfl) (by rfl) (by rfl) (m_cons (m_cmp (k_in (c.dun .has) c.r0) (m_var 11) (m_var 7)) (m_cons (m_cmp (k_in (c.dun .has) c.r0) (m_var 11) (m_var 5)) m_nil)))))))) (mss_one (ms_ret m_bl)) mss_nil)))
    (mss_cons (ms_if (mt_of (mw_or (mt_cmp (k_ne c.r0) (m_callB (c_len (c.dun .len) c.r1) (by rfl) (c.free (by decide)) (by decide +kernel) (m_cons (m_var 6) m_nil)) (m_callB (c_len (c.dun .len) c.r1) (by rfl) (c.free (by decide)) (by decide +kernel) (m_cons (x_call c 15 (by rfl) (by rfl) (by rfl) (m_cons (m_var 4) m_nil)) m_nil))) (mw_or1 (mt_cmp (k_ne c.r0) (m_callB (c_len (c.dun .len) c.r1) (by rfl) (c.free (by decide)) (by decide +kernel) (m_cons (m_var 7) m_nil)) (m_callB (c_len (c.dun .len) c.r1) (by rfl) (c.free (by decide)) (by decide +kernel) (m_cons (x_call c 15 (by rfl) (by rfl) (by rfl) (m_cons (m_var 5) m_nil)) m_nil)))))) (mss_one (ms_ret m_bl)) mss_nil)
    (mss_one (ms_ret (m_and (m_cmp (k_eq (c.dun .eq) c.r0) (m_callTy (c_list (c.dun .len) c.itT rfl c.room) (by rfl) (c.free (by decide)) (by decide +kernel) (m_cons (m_var 6) m_nil)) (x_call c 15 (by rfl) (by rfl) (by rfl) (m_cons (m_var 4) m_nil))) (m_one (m_cmp (k_eq (c.dun .eq) c.r0) (m_callTy (c_list (c.dun .len) c.itT rfl c.room) (by rfl) (c.free (by decide)) (by decide +kernel) (m_cons (m_var 7) m_nil)) (x_call c 15 (by rfl) (by rfl) (by rfl) (m_cons (m_var 5) m_nil)))))))))))))))))))))))))
theorem w_0 (H : Hyp pd P w K mg base C k) : FnR P w K mg base (L2.CX P w) (k + 4) (He.fAd K (He.DefD.at_ d_0)) (spF (pd.cl K) K (bod C 0)) :=
  step_star (i := 0) (d := d_0) (ps := ["self"]) (pv := "names") H rfl rfl rfl sc_0 (fun _ _ _ _ _ _ us rest hl => match us, rest, hl with | [_], [], _ => rfl | [_], _ :: _, _ => rfl) y_0
theorem w_1 (H : Hyp pd P w K mg base C k) : FnR P w K mg base (L2.CX P w) (k + 4) (He.fAd K (He.DefD.at_ d_1)) (spF (pd.cl K) K (bod C 1)) :=
  step_plain (i := 1) (d := d_1) (ps := ["self", "other"]) H rfl rfl rfl sc_1 (fun _ _ _ _ _ _ us hl => match us, hl with | [_, _], _ => rfl) y_1
theorem w_2 (H : Hyp pd P w K mg base C k) : FnR P w K mg base (L2.CX P w) (k + 4) (He.fAd K (He.DefD.at_ d_2)) (spF (pd.cl K) K (bod C 2)) :=
  step_plain (i := 2) (d := d_2) (ps := ["self"]) H rfl rfl rfl sc_2 (fun _ _ _ _ _ _ us hl => match us, hl with | [_], _ => rfl) y_2
theorem w_4 (H : Hyp pd P w K mg base C k) : FnR P w K mg base (L2.CX P w) (k + 4) (He.fAd K (He.DefD.at_ d_4)) (spF (pd.cl K) K (bod C 4)) :=
  step_plain (i := 4) (d := d_4) (ps := ["self", "name"]) H rfl rfl rfl sc_4 (fun _ _ _ _ _ _ us hl => match us, hl with | [_, _], _ => rfl) y_4
theorem w_5 (H : Hyp pd P w K mg base C k) : FnR P w K mg base (L2.CX P w) (k + 4) (He.fAd K (He.DefD.at_ d_5)) (spF (pd.cl K) K (bod C 5)) :=
  step_plain (i := 5) (d := d_5) (ps := ["self", "other"]) H rfl rfl rfl sc_5 (fun _ _ _ _ _ _ us hl => match us, hl with | [_, _], _ => rfl) y_5
theorem w_6 (H : Hyp pd P w K mg base C k) : FnR P w K mg base (L2.CX P w) (k + 4) (He.fAd K (He.DefD.at_ d_6)) (spF (pd.cl K) K (bod C 6)) :=
  step_plain (i := 6) (d := d_6) (ps := ["self", "other"]) H rfl rfl rfl sc_6 (fun _ _ _ _ _ _ us hl => match us, hl with | [_, _], _ => rfl) y_6
theorem w_7 (H : Hyp pd P w K mg base C k) : FnR P w K mg base (L2.CX P w) (k + 4) (He.fAd K (He.DefD.at_ d_7)) (spF (pd.cl K) K (bod C 7)) :=
  step_plain (i := 7) (d := d_7) (ps := ["self", "other"]) H rfl rfl rfl sc_7 (fun _ _ _ _ _ _ us hl => match us, hl with | [_, _], _ => rfl) y_7
theorem w_8 (H : Hyp pd P w K mg base C k) : FnR P w K mg base (L2.CX P w) (k + 4) (He.fAd K (He.DefD.at_ d_8)) (spF (pd.cl K) K (bod C 8)) :=
  step_plain (i := 8) (d := d_8) (ps := ["self", "other"]) H rfl rfl rfl sc_8 (fun _ _ _ _ _ _ us hl => match us, hl with | [_, _], _ => rfl) y_8
theorem w_9 (H : Hyp pd P w K mg base C k) : FnR P w K mg base (L2.CX P w) (k + 4) (He.fAd K (He.DefD.at_ d_9)) (spF (pd.cl K) K (bod C 9)) :=
  step_plain (i := 9) (d := d_9) (ps := ["self", "other"]) H rfl rfl rfl sc_9 (fun _ _ _ _ _ _ us hl => match us, hl with | [_, _], _ => rfl) y_9
theorem w_10 (H : Hyp pd P w K mg base C k) : FnR P w K mg base (L2.CX P w) (k + 4) (He.fAd K (He.DefD.at_ d_10)) (spF (pd.cl K) K (bod C 10)) :=
  step_plain (i := 10) (d := d_10) (ps := ["_law_script"]) H rfl rfl rfl sc_10 (fun _ _ _ _ _ _ us hl => match us, hl with | [_], _ => rfl) y_10
theorem w_11 (H : Hyp pd P w K mg base C k) : FnR P w K mg base (L2.CX P w) (k + 4) (He.fAd K (He.DefD.at_ d_11)) (spF (pd.cl K) K (bod C 11)) :=
  step_plain (i := 11) (d := d_11) (ps := ["_law_tape_here", "_law_count"]) H rfl rfl rfl sc_11 (fun _ _ _ _ _ _ us hl => match us, hl with | [_, _], _ => rfl) y_11
theorem w_12 (H : Hyp pd P w K mg base C k) : FnR P w K mg base (L2.CX P w) (k + 4) (He.fAd K (He.DefD.at_ d_12)) (spF (pd.cl K) K (bod C 12)) :=
  step_plain (i := 12) (d := d_12) (ps := ["_law_tape_here"]) H rfl rfl rfl sc_12 (fun _ _ _ _ _ _ us hl => match us, hl with | [_], _ => rfl) y_12
theorem w_13 (H : Hyp pd P w K mg base C k) : FnR P w K mg base (L2.CX P w) (k + 4) (He.fAd K (He.DefD.at_ d_13)) (spF (pd.cl K) K (bod C 13)) :=
  step_plain (i := 13) (d := d_13) (ps := ["_law_names"]) H rfl rfl rfl sc_13 (fun _ _ _ _ _ _ us hl => match us, hl with | [_], _ => rfl) y_13
theorem w_14 (H : Hyp pd P w K mg base C k) : FnR P w K mg base (L2.CX P w) (k + 4) (He.fAd K (He.DefD.at_ d_14)) (spF (pd.cl K) K (bod C 14)) :=
  step_plain (i := 14) (d := d_14) (ps := ["_law_members"]) H rfl rfl rfl sc_14 (fun _ _ _ _ _ _ us hl => match us, hl with | [_], _ => rfl) y_14
theorem w_15 (H : Hyp pd P w K mg base C k) : FnR P w K mg base (L2.CX P w) (k + 4) (He.fAd K (He.DefD.at_ d_15)) (spF (pd.cl K) K (bod C 15)) :=
  step_plain (i := 15) (d := d_15) (ps := ["_law_names"]) H rfl rfl rfl sc_15 (fun _ _ _ _ _ _ us hl => match us, hl with | [_], _ => rfl) y_15
theorem w_16 (H : Hyp pd P w K mg base C k) : FnR P w K mg base (L2.CX P w) (k + 4) (He.fAd K (He.DefD.at_ d_16)) (spF (pd.cl K) K (bod C 16)) :=
  step_plain (i := 16) (d := d_16) (ps := ["_law_one", "_law_two"]) H rfl rfl rfl sc_16 (fun _ _ _ _ _ _ us hl => match us, hl with | [_, _], _ => rfl) y_16
theorem w_17 (H : Hyp pd P w K mg base C k) : FnR P w K mg base (L2.CX P w) (k + 4) (He.fAd K (He.DefD.at_ d_17)) (spF (pd.cl K) K (bod C 17)) :=
  step_plain (i := 17) (d := d_17) (ps := ["_law_told", "_law_expected"]) H rfl rfl rfl sc_17 (fun _ _ _ _ _ _ us hl => match us, hl with | [_, _], _ => rfl) y_17
theorem w_18 (H : Hyp pd P w K mg base C k) : FnR P w K mg base (L2.CX P w) (k + 4) (He.fAd K (He.DefD.at_ d_18)) (spF (pd.cl K) K (bod C 18)) :=
  step_plain (i := 18) (d := d_18) (ps := ["_law_script"]) H rfl rfl rfl sc_18 (fun _ _ _ _ _ _ us hl => match us, hl with | [_], _ => rfl) y_18
theorem step (H : Hyp pd P w K mg base C k) : ∀ (i : Nat) (d : He.DefD), pd.fn[i]? = some d → FnR P w K mg base (L2.CX P w) (k + 4) (He.fAd K d.at_) (spF (pd.cl K) K (bod C i)) := fun i d h => match i, h with
  | 0, h => by cases h; exact w_0 H
  | 1, h => by cases h; exact w_1 H
  | 2, h => by cases h; exact w_2 H
  | 3, h => by cases h; exact FnR.of_bad fun _ _ => rfl
  | 4, h => by cases h; exact w_4 H
  | 5, h => by cases h; exact w_5 H
  | 6, h => by cases h; exact w_6 H
  | 7, h => by cases h; exact w_7 H
  | 8, h => by cases h; exact w_8 H
  | 9, h => by cases h; exact w_9 H
  | 10, h => by cases h; exact w_10 H
  | 11, h => by cases h; exact w_11 H
  | 12, h => by cases h; exact w_12 H
  | 13, h => by cases h; exact w_13 H
  | 14, h => by cases h; exact w_14 H
  | 15, h => by cases h; exact w_15 H
  | 16, h => by cases h; exact w_16 H
  | 17, h => by cases h; exact w_17 H
  | 18, h => by cases h; exact w_18 H
  | n + 19, h => by cases (show (none : Option He.DefD) = some d from h)
theorem it_3 (B : Base0 pd K mg) (k : Nat) : FnI P w K mg base (k + 1) (He.fAd K (He.DefD.at_ d_3)) (pd.cl K 0) "names" := by
  obtain ⟨fd, F⟩ := B.fnd 3 d_3 rfl
  have z := (ba3 (ba3 (List.all_eq_true.mp (ba3 (ba3 B.ok).2).2 _ (List.mem_of_getElem? (show pd.cds[0]? = some _ from rfl)))).2)
  exact fn_iter F sc_3 (fun _ _ _ _ _ _ us hl => match us, hl with | [_], _ => rfl) (He.cls_ok z.1) (He.noat_ok (List.all_eq_true.mp (ba3 z.2).1 "names" (by decide))) rfl (fun _ _ _ _ _ _ => rfl) (B.hfr "iter" (List.all_eq_true.mp (ba3 B.ok).1 "iter" (by decide))) (fun _ _ _ _ _ _ => Or.inl rfl)
theorem its (B : Base0 pd K mg) : ∀ (k c : Nat) (cd : ClsD) (F : Str) (i : Nat) (d : He.DefD), pd.cds[c]? = some cd → cd.itf = some (F, i) → pd.fn[i]? = some d → FnI P w K mg base (k + 1) (He.fAd K d.at_) (pd.cl K c) F := fun k c cd F i d h1 h2 h3 => match c, h1 with
  | 0, h1 => by cases h1; cases h2; cases h3; exact it_3 B k
  | n + 1, h1 => by cases (show (none : Option ClsD) = some cd from h1)
theorem all (B : Base0 pd K mg) (n : Nat) : Hyp pd P w K mg base (ceN bod pd n) (4 * n + 1) := run_all B (fun _ _ H => step H) (its B) n
end K02

namespace K02
open PySem PySem.Spec PyProof.Rows L2 Mi
theorem cell_ok {C : CE} {h : AH} {t s : Nat} {a b c : Int} {ns : List Int} (T : Tp h t s a b c ns) (hb : b < ns.length) : ∃ v, oIx C (.ref s) (.int b) h = .ok (.int v) h := by
  have hb0 := T.b0
  obtain ⟨m, rfl⟩ := Int.eq_ofNat_of_zero_le hb0
  have hm : m < ns.length := by omega
  exact ⟨ns[m], ix_at T.hs (by rw [List.getElem?_map, List.getElem?_eq_getElem hm]; rfl)⟩
theorem len_ok {C : CE} {h : AH} {l : Nat} {xs : List AV} (e : h[l]? = some (.lst xs)) : bLen C (.ref l) h = .ok (.int xs.length) h := by simp [bLen, seqOf, e]
theorem pick_ok (C : CE) {h : AH} {t s : Nat} {a b c : Int} {ns : List Int} {n : Int} (T : Tp h t s a b c ns) (h1 : 1 ≤ n) (h2 : n < 1073741824) :
    ∃ v a' b' c', 0 ≤ v ∧ v < n ∧ 0 ≤ a' ∧ 0 ≤ b' ∧ bod C 11 [.ref t, .int n] h = .ok (.int v) (h.set t (.lst [.int a', .int b', .int c', .ref s])) := by
  have p1 : ∀ (A : SS), (∃ a1 b1 c1 x2 x3, 0 ≤ a1 ∧ 0 ≤ b1 ∧ ssSeq (ssIf (tAnd (tBl (op2 oLt (op2 (oIx C) (sVar 0) (sK (.int 0))) (sVar 1))) (tBl (op2 oLt (op2 (oIx C) (sVar 0) (sK (.int 1))) (opN (arg1 (bLen C)) (aCons (op2 (oIx C) (sVar 0) (sK (.int 3))) aNil))))) (ssSeq (ssSet 2 (op2 (oIx C) (op2 (oIx C) (sVar 0) (sK (.int 3))) (op2 (oIx C) (sVar 0) (sK (.int 1)))))
    (ssSeq (ssIx (sVar 0) (sK (.int 1)) (op2 oAdd (op2 (oIx C) (sVar 0) (sK (.int 1))) (sK (.int 1))))
    (ssSeq (ssIx (sVar 0) (sK (.int 0)) (sIfE (tBl (op2 oGe (sVar 2) (op2 oPow (sK (.int 10)) (sK (.int 18))))) (sVar 2) (sK (.int 0))))
    (ssSeq (ssSet 3 (op2 oAdd (op2 oMul (op2 (oIx C) (sVar 0) (sK (.int 2))) (sK (.int 69621))) (op2 oMul (op2 (oIx C) (sVar 0) (sK (.int 1))) (sK (.int 7919)))))
    (ssIx (sVar 0) (sK (.int 2)) (op2 oMod (opN (arg1 bInt) (aCons (op2 oAdd (sVar 3) (op2 oMul (op2 oMod (opN (arg1 bInt) (aCons (sVar 2) aNil)) (sK (.int 1000003))) (sK (.int 48271)))) aNil)) (sK (.int 2147483647)))))))) ssNil) A [some (.ref t), some (.int n), none, none, none] h = A [some (.ref t), some (.int n), x2, x3, none] (h.set t (.lst [.int a1, .int b1, .int c1, .ref s]))) := by
    intro A
    have i0 : ∀ (x2 x3 : Option AV), op2 (oIx C) (sVar 0) (sK (.int 0)) [some (.ref t), some (.int n), x2, x3, none] h = .ok (.int a) h := fun _ _ => (op2_ok (var_ok rfl) rfl).trans (ix4_0 T.ht)
    have i1 : ∀ (x2 x3 : Option AV), op2 (oIx C) (sVar 0) (sK (.int 1)) [some (.ref t), some (.int n), x2, x3, none] h = .ok (.int b) h := fun _ _ => (op2_ok (var_ok rfl) rfl).trans (ix4_1 T.ht)
    have i3 : ∀ (x2 x3 : Option AV), op2 (oIx C) (sVar 0) (sK (.int 3)) [some (.ref t), some (.int n), x2, x3, none] h = .ok (.ref s) h := fun _ _ => (op2_ok (var_ok rfl) rfl).trans (ix4_3 T.ht)
    have t1 : tBl (op2 oLt (op2 (oIx C) (sVar 0) (sK (.int 0))) (sVar 1)) [some (.ref t), some (.int n), none, none, none] h = .ok (decide (a < n)) h := tBl_ok ((op2_ok (i0 _ _) (var_ok rfl)).trans rfl)
    have t2 : tBl (op2 oLt (op2 (oIx C) (sVar 0) (sK (.int 1))) (opN (arg1 (bLen C)) (aCons (op2 (oIx C) (sVar 0) (sK (.int 3))) aNil))) [some (.ref t), some (.int n), none, none, none] h = .ok (decide (b < ns.length)) h :=
      tBl_ok ((op2_ok (i1 _ _) ((opN_ok (args_one (i3 _ _))).trans (len_ok T.hs))).trans (by simp [oLt]))
    by_cases ha : a < n
    · by_cases hb : b < ns.length
      · obtain ⟨cell, hc⟩ := cell_ok (C := C) T hb
        have T1 := T.set (a' := a) (b' := b + 1) (c' := c) T.a0 (by have := T.b0; omega)
        have T2 := T1.set (a' := if cell ≥ 10 ^ 18 then cell else 0) (b' := b + 1) (c' := c) (by split <;> omega) T1.b0
        refine ⟨if cell ≥ 10 ^ 18 then cell else 0, b + 1, (c * 69621 + (b + 1) * 7919 + cell % 1000003 * 48271) % 2147483647, some (.int cell), some (.int (c * 69621 + (b + 1) * 7919)), T2.a0, T1.b0, ?_⟩
        refine seq_nx ?_
        rw [if_ok (by rw [tAnd_t (by rw [t1, decide_eq_true ha]), t2, decide_eq_true hb])]
        rw [if_pos rfl]
        have s1 : ssSet 2 (op2 (oIx C) (op2 (oIx C) (sVar 0) (sK (.int 3))) (op2 (oIx C) (sVar 0) (sK (.int 1)))) [some (.ref t), some (.int n), none, none, none] h = .ok (.nx [some (.ref t), some (.int n), some (.int cell), none, none]) h := set_ok ((op2_ok (i3 _ _) (i1 _ _)).trans hc)
        rw [seq_nx s1]
        rw [seq_nx (ssIx_ok (h4 := h.set t (.lst [.int a, .int (b + 1), .int c, .ref s])) ((op2_ok (i1 _ _) rfl).trans rfl) (var_ok rfl) rfl (st4_1 T.ht))]
        have hp : op2 oPow (sK (.int 10)) (sK (.int 18)) [some (.ref t), some (.int n), some (.int cell), none, none] (h.set t (.lst [.int a, .int (b + 1), .int c, .ref s])) = .ok (.int (10 ^ 18)) (h.set t (.lst [.int a, .int (b + 1), .int c, .ref s])) := by
          rw [op2_ok rfl rfl]
          simp [oPow]
        have s3 : sIfE (tBl (op2 oGe (sVar 2) (op2 oPow (sK (.int 10)) (sK (.int 18))))) (sVar 2) (sK (.int 0)) [some (.ref t), some (.int n), some (.int cell), none, none] (h.set t (.lst [.int a, .int (b + 1), .int c, .ref s])) = .ok (.int (if cell ≥ 10 ^ 18 then cell else 0)) (h.set t (.lst [.int a, .int (b + 1), .int c, .ref s])) := by
          have z : tBl (op2 oGe (sVar 2) (op2 oPow (sK (.int 10)) (sK (.int 18)))) [some (.ref t), some (.int n), some (.int cell), none, none] (h.set t (.lst [.int a, .int (b + 1), .int c, .ref s])) = .ok (decide ((10 : Int) ^ 18 ≤ cell)) (h.set t (.lst [.int a, .int (b + 1), .int c, .ref s])) := tBl_ok ((op2_ok (var_ok rfl) hp).trans rfl)
          unfold sIfE
          rw [z]
          simp only [bind_ok]
          by_cases hq : (10 : Int) ^ 18 ≤ cell
          · rw [decide_eq_true hq, if_pos rfl, if_pos hq]; exact var_ok rfl
          · rw [decide_eq_false hq, if_neg Bool.false_ne_true, if_neg hq]; rfl
        rw [seq_nx (ssIx_ok (h4 := h.set t (.lst [.int (if cell ≥ 10 ^ 18 then cell else 0), .int (b + 1), .int c, .ref s])) s3 (var_ok rfl) rfl ((st4_0 T1.ht).trans (by rw [List.set_set])))]
        have T2' : Tp (h.set t (.lst [.int (if cell ≥ 10 ^ 18 then cell else 0), .int (b + 1), .int c, .ref s])) t s (if cell ≥ 10 ^ 18 then cell else 0) (b + 1) c ns := by
          have z := T2
          rw [List.set_set] at z
          exact z
        have m1 : op2 oMul (op2 (oIx C) (sVar 0) (sK (.int 2))) (sK (.int 69621)) [some (.ref t), some (.int n), some (.int cell), none, none] (h.set t (.lst [.int (if cell ≥ 10 ^ 18 then cell else 0), .int (b + 1), .int c, .ref s])) = .ok (.int (c * 69621)) (h.set t (.lst [.int (if cell ≥ 10 ^ 18 then cell else 0), .int (b + 1), .int c, .ref s])) :=
          (op2_ok ((op2_ok (var_ok rfl) rfl).trans (ix4_2 T2'.ht)) rfl).trans (by simp [oMul])
        have m2 : op2 oMul (op2 (oIx C) (sVar 0) (sK (.int 1))) (sK (.int 7919)) [some (.ref t), some (.int n), some (.int cell), none, none] (h.set t (.lst [.int (if cell ≥ 10 ^ 18 then cell else 0), .int (b + 1), .int c, .ref s])) = .ok (.int ((b + 1) * 7919)) (h.set t (.lst [.int (if cell ≥ 10 ^ 18 then cell else 0), .int (b + 1), .int c, .ref s])) :=
          (op2_ok ((op2_ok (var_ok rfl) rfl).trans (ix4_1 T2'.ht)) rfl).trans (by simp [oMul])
        have s4 : ssSet 3 (op2 oAdd (op2 oMul (op2 (oIx C) (sVar 0) (sK (.int 2))) (sK (.int 69621))) (op2 oMul (op2 (oIx C) (sVar 0) (sK (.int 1))) (sK (.int 7919)))) [some (.ref t), some (.int n), some (.int cell), none, none] (h.set t (.lst [.int (if cell ≥ 10 ^ 18 then cell else 0), .int (b + 1), .int c, .ref s])) = .ok (.nx [some (.ref t), some (.int n), some (.int cell), some (.int (c * 69621 + (b + 1) * 7919)), none]) (h.set t (.lst [.int (if cell ≥ 10 ^ 18 then cell else 0), .int (b + 1), .int c, .ref s])) :=
          set_ok ((op2_ok m1 m2).trans rfl)
        rw [seq_nx s4]
        have m3 : opN (arg1 bInt) (aCons (sVar 2) aNil) [some (.ref t), some (.int n), some (.int cell), some (.int (c * 69621 + (b + 1) * 7919)), none] (h.set t (.lst [.int (if cell ≥ 10 ^ 18 then cell else 0), .int (b + 1), .int c, .ref s])) = .ok (.int cell) (h.set t (.lst [.int (if cell ≥ 10 ^ 18 then cell else 0), .int (b + 1), .int c, .ref s])) := (opN_ok (args_one (var_ok rfl))).trans rfl
        have m4 : op2 oMul (op2 oMod (opN (arg1 bInt) (aCons (sVar 2) aNil)) (sK (.int 1000003))) (sK (.int 48271)) [some (.ref t), some (.int n), some (.int cell), some (.int (c * 69621 + (b + 1) * 7919)), none] (h.set t (.lst [.int (if cell ≥ 10 ^ 18 then cell else 0), .int (b + 1), .int c, .ref s])) = .ok (.int (cell % 1000003 * 48271)) (h.set t (.lst [.int (if cell ≥ 10 ^ 18 then cell else 0), .int (b + 1), .int c, .ref s])) :=
          (op2_ok ((op2_ok m3 rfl).trans (by rfl)) rfl).trans (by simp [oMul])
        have m5 := (op2_ok (g := oMod) (e2 := sK (.int 2147483647)) ((opN_ok (g := arg1 bInt) (args_one ((op2_ok (g := oAdd) (e1 := sVar 3) (var_ok rfl) m4).trans rfl))).trans rfl) rfl).trans (show _ = R.ok (.int ((c * 69621 + (b + 1) * 7919 + cell % 1000003 * 48271) % 2147483647)) _ from by rfl)
        exact ssIx_ok m5 (var_ok rfl) rfl ((st4_2 T2'.ht).trans (by rw [List.set_set]))
      · refine ⟨a, b, c, none, none, T.a0, T.b0, ?_⟩
        refine seq_nx ?_
        rw [if_ok (by rw [tAnd_t (by rw [t1, decide_eq_true ha]), t2, decide_eq_false hb])]
        rw [if_neg Bool.false_ne_true, set_same T.ht]
        rfl
    · refine ⟨a, b, c, none, none, T.a0, T.b0, ?_⟩
      refine seq_nx ?_
      rw [if_ok (by rw [tAnd_f (by rw [t1, decide_eq_false ha])])]
      rw [if_neg Bool.false_ne_true, set_same T.ht]
      rfl
  obtain ⟨a1, b1, c1, x2, x3, ha1, hb1, e1⟩ := p1 _
  have T1 : Tp (h.set t (.lst [.int a1, .int b1, .int c1, .ref s])) t s a1 b1 c1 ns := T.set ha1 hb1
  have fin : ∀ {v a' b' c' : Int}, 0 ≤ v → v < n → 0 ≤ a' → 0 ≤ b' → b_11 C (slots 5 [.ref t, .int n]) h = .ok (.rt (.int v)) (h.set t (.lst [.int a', .int b', .int c', .ref s])) →
      ∃ v a' b' c', 0 ≤ v ∧ v < n ∧ 0 ≤ a' ∧ 0 ≤ b' ∧ bod C 11 [.ref t, .int n] h = .ok (.int v) (h.set t (.lst [.int a', .int b', .int c', .ref s])) := fun h1 h2 h3 h4 h5 => ⟨_, _, _, _, h1, h2, h3, h4, runF_rt rfl h5⟩
  have hn0 : (0 : Int) < n := by omega
  have hd0 : 0 < n ∧ n < 1073741824 := ⟨hn0, h2⟩
  have i0 : ∀ (x4 : Option AV), op2 (oIx C) (sVar 0) (sK (.int 0)) [some (.ref t), some (.int n), x2, x3, x4] (h.set t (.lst [.int a1, .int b1, .int c1, .ref s])) = .ok (.int a1) (h.set t (.lst [.int a1, .int b1, .int c1, .ref s])) := fun _ => (op2_ok (var_ok rfl) rfl).trans (ix4_0 T1.ht)
  have t3 : tBl (op2 oGe (op2 (oIx C) (sVar 0) (sK (.int 0))) (sVar 1)) [some (.ref t), some (.int n), x2, x3, none] (h.set t (.lst [.int a1, .int b1, .int c1, .ref s])) = .ok (decide (n ≤ a1)) (h.set t (.lst [.int a1, .int b1, .int c1, .ref s])) := tBl_ok ((op2_ok (i0 _) (var_ok rfl)).trans rfl)
  by_cases hg : n ≤ a1
  · refine fin (v := a1 % n) (a' := a1 / n) (b' := b1) (c' := c1) (Int.emod_nonneg _ (by omega)) (Int.emod_lt_of_pos _ hn0) (Int.ediv_nonneg ha1 (by omega)) hb1 ?_
    unfold b_11
    refine (show _ = _ from e1).trans ?_
    refine seq_rt ?_
    rw [if_ok t3, decide_eq_true hg, if_pos rfl]
    have q1 : op2 oMod (opN (arg1 bInt) (aCons (op2 (oIx C) (sVar 0) (sK (.int 0))) aNil)) (sVar 1) [some (.ref t), some (.int n), x2, x3, none] (h.set t (.lst [.int a1, .int b1, .int c1, .ref s])) = .ok (.int (a1 % n)) (h.set t (.lst [.int a1, .int b1, .int c1, .ref s])) :=
      (op2_ok ((opN_ok (args_one (i0 _))).trans rfl) (var_ok rfl)).trans (by simp [oMod, hn0])
    rw [seq_nx (set_ok (i := 4) q1)]
    have q2 : op2 oDiv (op2 (oIx C) (sVar 0) (sK (.int 0))) (sVar 1) [some (.ref t), some (.int n), x2, x3, some (.int (a1 % n))] (h.set t (.lst [.int a1, .int b1, .int c1, .ref s])) = .ok (.int (a1 / n)) (h.set t (.lst [.int a1, .int b1, .int c1, .ref s])) :=
      (op2_ok (i0 _) (var_ok rfl)).trans (by simp only [oDiv, if_pos hd0])
    have q3 := ssIx_ok (i := sK (.int 0)) (o := sVar 0) q2 (var_ok rfl) rfl (st4_0 T1.ht)
    refine (seq_nx q3).trans ?_
    rw [List.set_set]
    exact ret_ok (var_ok rfl)
  · have q1 : op2 oMod (opN (arg1 bInt) (aCons (op2 oAdd (op2 oMul (op2 (oIx C) (sVar 0) (sK (.int 2))) (sK (.int 48271))) (sK (.int 12345))) aNil)) (sK (.int 2147483647)) [some (.ref t), some (.int n), x2, x3, none] (h.set t (.lst [.int a1, .int b1, .int c1, .ref s])) = .ok (.int ((c1 * 48271 + 12345) % 2147483647)) (h.set t (.lst [.int a1, .int b1, .int c1, .ref s])) := by
      have m1 : op2 oMul (op2 (oIx C) (sVar 0) (sK (.int 2))) (sK (.int 48271)) [some (.ref t), some (.int n), x2, x3, none] (h.set t (.lst [.int a1, .int b1, .int c1, .ref s])) = .ok (.int (c1 * 48271)) (h.set t (.lst [.int a1, .int b1, .int c1, .ref s])) :=
        (op2_ok ((op2_ok (var_ok rfl) rfl).trans (ix4_2 T1.ht)) rfl).trans (by simp [oMul])
      exact (op2_ok ((opN_ok (args_one ((op2_ok m1 rfl).trans rfl))).trans rfl) rfl).trans rfl
    have q2 := ssIx_ok (i := sK (.int 2)) (o := sVar 0) q1 (var_ok rfl) rfl (st4_2 T1.ht)
    rw [List.set_set] at q2
    have T2 : Tp (h.set t (.lst [.int a1, .int b1, .int ((c1 * 48271 + 12345) % 2147483647), .ref s])) t s a1 b1 ((c1 * 48271 + 12345) % 2147483647) ns := T.set ha1 hb1
    refine fin (v := (c1 * 48271 + 12345) % 2147483647 / 64 % n) (a' := a1) (b' := b1) (c' := (c1 * 48271 + 12345) % 2147483647) (Int.emod_nonneg _ (by omega)) (Int.emod_lt_of_pos _ hn0) ha1 hb1 ?_
    unfold b_11
    refine (show _ = _ from e1).trans ?_
    refine (seq_nx (σ1 := [some (.ref t), some (.int n), x2, x3, none]) (h1 := h.set t (.lst [.int a1, .int b1, .int c1, .ref s])) ?_).trans ?_
    · rw [if_ok t3, decide_eq_false hg, if_neg Bool.false_ne_true]
      rfl
    refine (seq_nx q2).trans ?_
    refine ret_ok ?_
    have i2 : op2 oDiv (op2 (oIx C) (sVar 0) (sK (.int 2))) (sK (.int 64)) [some (.ref t), some (.int n), x2, x3, none] (h.set t (.lst [.int a1, .int b1, .int ((c1 * 48271 + 12345) % 2147483647), .ref s])) = .ok (.int ((c1 * 48271 + 12345) % 2147483647 / 64)) (h.set t (.lst [.int a1, .int b1, .int ((c1 * 48271 + 12345) % 2147483647), .ref s])) :=
      (op2_ok ((op2_ok (var_ok rfl) rfl).trans (ix4_2 T2.ht)) rfl).trans (by simp [oDiv])
    exact (op2_ok ((opN_ok (args_one i2)).trans rfl) (var_ok rfl)).trans (by simp [oMod, hn0])
abbrev nmF (l : Nat) : Fs := [("names", .ref l)]
/-- at j a Marks, its names in the list at l -/
def Mk (h : AH) (j l : Nat) (ss : List Str) : Prop := h[j]? = some (.ins 0 (nmF l)) ∧ h[l]? = some (.lst (strs_ ss))
theorem Mk.fr {S : List Nat} {h h' : AH} {j l : Nat} {ss : List Str} (m : Mk h j l ss) (f : Fr S h h') (h1 : j ∉ S) (h2 : l ∉ S) : Mk h' j l ss := ⟨f.get m.1 h1, f.get m.2 h2⟩
theorem Mk.fr0 {h h' : AH} {j l : Nat} {ss : List Str} (m : Mk h j l ss) (f : Fr [] h h') : Mk h' j l ss := m.fr f (by simp) (by simp)
section
variable {C : CE} {h : AH} {j l a b la lb : Nat} {ss xs ys : List Str} {σ : Sl} {e : SE} {v : AV}
theorem names_ok (m : Mk h j l ss) (q : e σ h = .ok (.ref j) h) : sFld 0 "names" e σ h = .ok (.ref l) h := fld_ok q m.1 rfl
/-- str of each, sorted -/
theorem alph_ok {C : CE} {fi : SI} {σ : Sl} {h h1 : AH} {l q : Nat} {xs : List Str} (hi : fi σ h = .ok (.lst l) h1) (hl : h1[l]? = some (.lst (strs_ xs))) (hz : xs.length < 64) (hq : q < σ.length) :
    opN (arg1 bSorted) (aCons (sLc fi (gNm q) tYes (opN (arg1 bStr) (aCons (sVar q) aNil)) [q]) aNil) σ h = .ok (.ref (h1.length + 1)) (h1 ++ [.lst (strs_ xs)] ++ [.lst (strs_ (sortS xs))]) := by
  have hz2 : (strs_ xs).length < sizeLine := by rw [List.length_map, sizeLine_eq]; omega
  have z := lc_pure (fi := fi) (g := gNm q) (t := tYes) (e := opN (arg1 bStr) (aCons (sVar q) aNil)) (vs := [q]) (σ := σ) (h := h) (fun x => (wipeA σ [q]).set q (some x)) (fun _ => true) id hi hl hz2 (fun _ => rfl) (fun _ _ _ => rfl) (fun x hx _ acc => by
    obtain ⟨y, _, rfl⟩ := List.mem_map.mp hx
    have hs : ((wipeA σ [q]).set q (some (.str y)))[q]? = some (some (.str y)) := List.getElem?_set_self (by unfold wipeA wipeA; simpa using hq)
    rw [opN_ok (args_one (var_ok hs))]
    rfl)
  rw [List.filter_eq_self.mpr (fun _ _ => rfl), List.map_id] at z
  rw [opN_ok (args_one z)]
  show bSorted _ _ = _
  rw [sorted_strs get_new hz, List.length_append]
  rfl
theorem init_ok (C : CE) {h : AH} {j : Nat} {xs : List Str} (hj : h[j]? = some (.ins 0 [])) (hz : xs.length < 64) :
    ∃ h' l, bod C 0 (.ref j :: strs_ xs) h = .ok .non h' ∧ Mk h' j l (alp xs) ∧ Fr [j] h h' ∧ h.length ≤ l := by
  have hjl : j < h.length := lt_of_get hj
  have s1 : ssSet 2 (sLst aNil) [some (.ref j), some (.tup (strs_ xs)), none, none] h = .ok (.nx [some (.ref j), some (.tup (strs_ xs)), some (.ref h.length), none]) (h ++ [.lst []]) := set_ok (by
    unfold sLst
    rw [opN_ok args_nil]
    rfl)
  obtain ⟨σ2, e2, l2, o2⟩ := dd_loop (C := C) (s := .tup (strs_ xs)) (xs := xs) (h := h ++ [.lst []]) (K := h.length) (σ := [some (.ref j), some (.tup (strs_ xs)), some (.ref h.length), none]) 2 3 (by decide) (by simp) rfl get_new (fun _ _ => rfl) (by simp [Src.len]) (by rw [sizeLine_eq]; omega)
  rw [show (h ++ [AO.lst []]).set h.length (.lst (strs_ (dd xs))) = h ++ [AO.lst (strs_ (dd xs))] from by simp] at e2
  have s2 : sFor (iSeq (sVar 1)) (gNm 3) (ssIf (tBl (op2 (oNotIn C) (sVar 3) (sVar 2))) (ssExpr (sBm isLst mAppend (sVar 2) (aCons (sVar 3) aNil))) ssNil) [some (.ref j), some (.tup (strs_ xs)), some (.ref h.length), none] (h ++ [.lst []]) = .ok (.nx σ2) (h ++ [.lst (strs_ (dd xs))]) := by
    unfold sFor
    rw [show iSeq (sVar 1) [some (.ref j), some (.tup (strs_ xs)), some (.ref h.length), none] (h ++ [.lst []]) = .ok (.tup (strs_ xs)) (h ++ [.lst []]) from by unfold iSeq; rw [var_ok (v := .tup (strs_ xs)) rfl]; rfl]
    exact e2
  have v0 : σ2[0]? = some (some (.ref j)) := o2 0 (by decide)
  have v2 : σ2[2]? = some (some (.ref h.length)) := o2 2 (by decide)
  have i3 : iSeq (sVar 2) σ2 (h ++ [.lst (strs_ (dd xs))]) = .ok (.lst h.length) (h ++ [.lst (strs_ (dd xs))]) := by
    unfold iSeq
    rw [var_ok v2]
    simp only [bind_ok, get_new]
  have hd : (dd xs).length < 64 := Nat.lt_of_le_of_lt (length_dd xs) hz
  have a3 := alph_ok (C := C) (q := 3) i3 get_new hd (by rw [l2]; simp)
  have gj : (h ++ [.lst (strs_ (dd xs))] ++ [.lst (strs_ (dd xs))] ++ [.lst (strs_ (sortS (dd xs)))])[j]? = some (.ins 0 []) := get_old (get_old (get_old hj))
  have s3 := ssFld_ok (c := 0) (f := "names") (o := sVar 0) a3 (var_ok v0) gj (by decide)
  rw [show putA "names" (AV.ref ((h ++ [AO.lst (strs_ (dd xs))] : AH).length + 1)) [] = nmF (h.length + 1 + 1) from by simp [putA]] at s3
  refine ⟨(h ++ [AO.lst (strs_ (dd xs))] ++ [AO.lst (strs_ (dd xs))] ++ [AO.lst (strs_ (sortS (dd xs)))]).set j (.ins 0 (nmF (h.length + 1 + 1))), h.length + 1 + 1, ?_, ⟨set_get gj, ?_⟩, ?_, by omega⟩
  · show runS 1 4 (b_0 C) _ _ = _
    unfold runS
    rw [if_pos ⟨by simp, by simp; omega⟩]
    show endF (b_0 C [some (.ref j), some (.tup (strs_ xs)), none, none] h) = _
    unfold b_0
    rw [seq_nx s1, seq_nx s2, s3]
    rfl
  · rw [List.getElem?_set_ne (by omega)]
    rw [show h.length + 1 + 1 = (h ++ [AO.lst (strs_ (dd xs))] ++ [AO.lst (strs_ (dd xs))] : AH).length from by simp]
    exact get_new
  · exact ((Fr.push (S := [j])).tr (Fr.push.tr Fr.push)).tr (Fr.set (by simp))
/-- Marks(..) -/
theorem mk_marks {n : Nat} {as : SA} {h1 : AH} (q : as σ h = .ok (strs_ xs) h1) (hz : xs.length < 64) : ∃ h' j l, sMk (ceN bod pd (n + 1)) 0 0 as σ h = .ok (.ref j) h' ∧ Mk h' j l (alp xs) ∧ Fr [] h1 h' ∧ h1.length ≤ j ∧ h1.length ≤ l := by
  obtain ⟨h', l, e, m, f, hl⟩ := init_ok (ceN bod pd n) (h := h1 ++ [.ins 0 []]) (j := h1.length) (xs := xs) get_new hz
  refine ⟨h', h1.length, l, mk_ok q e, m, ?_, Nat.le_refl _, by simp at hl; omega⟩
  exact ⟨by have := f.1; simp at this; omega, fun i hi _ => (f.2 i (by simp; omega) (by simp; omega)).trans (List.getElem?_append_left hi)⟩
theorem lenM_ok (m : Mk h j l ss) : bod C 2 [.ref j] h = .ok (.int ss.length) h := by
  refine runF_rt rfl (ret_ok ?_)
  rw [opN_ok (args_one (names_ok m (var_ok rfl)))]
  show bLen C (.ref l) h = _
  simp [bLen, seqOf, m.2]
theorem list_ok {n : Nat} (m : Mk h j l ss) (hz : ss.length < 64) : bList (ceN bod pd (n + 1)) (.ref j) h = .ok (.ref h.length) (h ++ [.lst (strs_ ss)]) := by
  have h1 : seqOf (AV.ref j) h = none := by simp [seqOf, m.1]
  have h2 : cls? (AV.ref j) h = some (0, nmF l) := by simp [cls?, m.1]
  exact bList_own h1 h2 (itRef_own h2 rfl rfl m.2) rfl (show bod (ceN bod pd n) 2 [.ref j] h = _ from lenM_ok m) m.2 ⟨by omega, by omega, by rw [List.length_map, sizeLine_eq]; omega⟩
theorem listE_ok {n : Nat} (m : Mk h j l ss) (hz : ss.length < 64) (q : e σ h = .ok (.ref j) h) : opN (arg1 (bList (ceN bod pd (n + 1)))) (aCons e aNil) σ h = .ok (.ref h.length) (h ++ [.lst (strs_ ss)]) := (opN_ok (args_one q)).trans (list_ok m hz)
theorem isM (m : Mk h j l ss) (q : e σ h = .ok (.ref j) h) : op1 (bIsA isa_0) e σ h = .ok (.bl true) h := by
  unfold op1
  rw [q]
  simp only [bind_ok, bIsA, m.1]
  rfl
theorem guard_ok (m : Mk h j l ss) (q : e σ h = .ok (.ref j) h) {A : SS} : ssIf (tNot (tTru (op1 (bIsA isa_0) e))) A ssNil σ h = .ok (.nx σ) h := by
  rw [if_ok (tNot_ok (tTru_ok (isM m q) rfl))]
  rfl
/-- the union -/
theorem or_ok {n : Nat} (ma : Mk h a la xs) (mb : Mk h b lb ys) (hz : xs.length + ys.length < 64) : ∃ h' j l, bod (ceN bod pd (n + 1)) 5 [.ref a, .ref b] h = .ok (.ref j) h' ∧ Mk h' j l (alp (xs ++ ys)) ∧ Fr [] h h' ∧ h.length ≤ j ∧ h.length ≤ l := by
  have s2 : ssSet 2 (op2 oAdd (sFld 0 "names" (sVar 0)) (sFld 0 "names" (sVar 1))) [some (.ref a), some (.ref b), none] h = .ok (.nx [some (.ref a), some (.ref b), some (.ref h.length)]) (h ++ [.lst (strs_ (xs ++ ys))]) := set_ok (by
    rw [op2_ok (names_ok ma (var_ok rfl)) (names_ok mb (var_ok rfl))]
    unfold oAdd
    simp only [ma.2, mb.2]
    rw [if_pos (by rw [List.length_map, List.length_map, sizeLine_eq]; omega), ← List.map_append]
    rfl)
  have q3 : aStar (sVar 2) aNil [some (.ref a), some (.ref b), some (.ref h.length)] (h ++ [.lst (strs_ (xs ++ ys))]) = .ok (strs_ (xs ++ ys)) (h ++ [.lst (strs_ (xs ++ ys))]) := by
    unfold aStar
    rw [var_ok (v := .ref h.length) rfl]
    simp only [bind_ok, seqOf, get_new, aNil, List.append_nil]
  obtain ⟨h', j, l, e1, m1, f1, l1, l2⟩ := mk_marks (n := n) q3 (by rw [List.length_append]; exact hz)
  refine ⟨h', j, l, runF_rt rfl ?_, m1, Fr.push.tr f1, by simp at l1; omega, by simp at l2; omega⟩
  show b_5 _ [some (.ref a), some (.ref b), none] h = _
  unfold b_5
  rw [seq_nx (guard_ok mb (var_ok rfl)), seq_nx s2]
  exact ret_ok e1
theorem orE_ok {n : Nat} {e1 e2 : SE} (ma : Mk h a la xs) (mb : Mk h b lb ys) (q1 : e1 σ h = .ok (.ref a) h) (q2 : e2 σ h = .ok (.ref b) h) : op2 (oOr (ceN bod pd (n + 1))) e1 e2 σ h = bod (ceN bod pd n) 5 [.ref a, .ref b] h := by
  rw [op2_ok q1 q2]
  unfold oOr dun
  rw [show cls? (AV.ref a) h = some (0, nmF la) from by simp [cls?, ma.1], show cls? (AV.ref b) h = some (0, nmF lb) from by simp [cls?, mb.1]]
  rfl

theorem seq_it (q : e σ h = .ok (.ref l) h) (hl : h[l]? = some (.lst (strs_ xs))) : iSeq e σ h = .ok (.lst l) h := by
  unfold iSeq
  rw [q]
  simp only [bind_ok, hl]
theorem distinct_ok {C : CE} (hl : h[l]? = some (.lst (strs_ xs))) (hz : xs.length < 64) : bod C 14 [.ref l] h = .ok (.ref h.length) (h ++ [.lst (strs_ (dd xs))]) := by
  have hll : l < h.length := lt_of_get hl
  have s1 : ssSet 1 (sLst aNil) [some (.ref l), none, none] h = .ok (.nx [some (.ref l), some (.ref h.length), none]) (h ++ [.lst []]) := set_ok (by
    unfold sLst
    rw [opN_ok args_nil]
    rfl)
  have hat : ∀ acc, ((h ++ [AO.lst []]).set h.length (.lst acc))[l]? = some (.lst (strs_ xs)) := fun acc => by rw [List.getElem?_set_ne (by omega)]; exact get_old hl
  have hl2 : (Src.lst l).len (h ++ [.lst []]) = xs.length := by
    unfold Src.len
    simp only [get_old (os := [.lst []]) hl, List.length_map]
  obtain ⟨σ2, e2, l2, o2⟩ := dd_loop (C := C) (s := .lst l) (xs := xs) (h := h ++ [.lst []]) (K := h.length) (σ := [some (.ref l), some (.ref h.length), none]) 1 2 (by decide) (by simp) rfl get_new (fun i acc => by unfold Src.at; simp only [hat acc]) hl2 (by rw [sizeLine_eq]; omega)
  rw [show (h ++ [AO.lst []]).set h.length (.lst (strs_ (dd xs))) = h ++ [AO.lst (strs_ (dd xs))] from by simp] at e2
  have s2 : sFor (iSeq (sVar 0)) (gNm 2) (ssIf (tBl (op2 (oNotIn C) (sVar 2) (sVar 1))) (ssExpr (sBm isLst mAppend (sVar 1) (aCons (sVar 2) aNil))) ssNil) [some (.ref l), some (.ref h.length), none] (h ++ [.lst []]) = .ok (.nx σ2) (h ++ [.lst (strs_ (dd xs))]) := by
    unfold sFor
    rw [seq_it (var_ok (v := .ref l) rfl) (get_old (os := [.lst []]) hl)]
    exact e2
  refine runF_rt rfl ?_
  show b_14 C [some (.ref l), none, none] h = _
  unfold b_14
  rw [seq_nx s1, seq_nx s2]
  exact ret_ok (var_ok (o2 1 (by decide)))
theorem alphabet_ok {n : Nat} (hl : h[l]? = some (.lst (strs_ xs))) (hz : xs.length < 64) : ∃ h' r, bod (ceN bod pd (n + 1)) 15 [.ref l] h = .ok (.ref r) h' ∧ h'[r]? = some (.lst (strs_ (alp xs))) ∧ Fr [] h h' ∧ h.length ≤ r := by
  have q1 : sCall (ceN bod pd (n + 1)) 14 (aCons (sVar 0) aNil) [some (.ref l), none] h = .ok (.ref h.length) (h ++ [.lst (strs_ (dd xs))]) := (call_ok (args_one (var_ok rfl))).trans (distinct_ok hl hz)
  have i1 : iSeq (sCall (ceN bod pd (n + 1)) 14 (aCons (sVar 0) aNil)) [some (.ref l), none] h = .ok (.lst h.length) (h ++ [.lst (strs_ (dd xs))]) := by
    unfold iSeq
    rw [q1]
    simp only [bind_ok, get_new]
  have a1 := alph_ok (C := ceN bod pd (n + 1)) (q := 1) i1 get_new (Nat.lt_of_le_of_lt (length_dd xs) hz) (by simp)
  exact ⟨_, _, runF_rt rfl (ret_ok a1), by rw [show (h ++ [AO.lst (strs_ (dd xs))] : AH).length + 1 = (h ++ [AO.lst (strs_ (dd xs))] ++ [AO.lst (strs_ (dd xs))] : AH).length from by simp]; exact get_new, Fr.push.tr (Fr.push.tr Fr.push), by simp only [List.length_append, List.length_cons, List.length_nil]; omega⟩
theorem ix_str {i : Nat} {x : Str} (hl : h[l]? = some (.lst (strs_ xs))) (hx : xs[i]? = some x) : oIx C (.ref l) (.int i) h = .ok (.str x) h := ix_at hl (by rw [List.getElem?_map, hx]; rfl)
theorem lenE_ok (q : e σ h = .ok (.ref l) h) (hl : h[l]? = some (.lst (strs_ xs))) : opN (arg1 (bLen C)) (aCons e aNil) σ h = .ok (.int xs.length) h := by
  rw [opN_ok (args_one q)]
  show bLen C (.ref l) h = _
  simp [bLen, seqOf, hl]
theorem eqI {i j : Int} {e1 e2 : SE} (q1 : e1 σ h = .ok (.int i) h) (q2 : e2 σ h = .ok (.int j) h) : tBl (op2 (oEq C) e1 e2) σ h = .ok (i == j) h := tBl_ok (by
  rw [op2_ok q1 q2]
  unfold oEq
  rw [eqD_ints])
theorem up3_ok {n : Nat} (hl : h[l]? = some (.lst (strs_ xs))) (hz : xs.length ≤ 3) : ∃ h' j l', bod (ceN bod pd (n + 1)) 13 [.ref l] h = .ok (.ref j) h' ∧ Mk h' j l' (alp xs) ∧ Fr [] h h' ∧ h.length ≤ j ∧ h.length ≤ l' := by
  have t : ∀ k : Int, tBl (op2 (oEq (ceN bod pd (n + 1))) (opN (arg1 (bLen (ceN bod pd (n + 1)))) (aCons (sVar 0) aNil)) (sK (.int k))) [some (.ref l)] h = .ok ((xs.length : Int) == k) h := fun k => eqI (lenE_ok (var_ok rfl) hl) rfl
  have at_ : ∀ (i : Nat) (x : Str), xs[i]? = some x → op2 (oIx (ceN bod pd (n + 1))) (sVar 0) (sK (.int i)) [some (.ref l)] h = .ok (.str x) h := fun i x hx => (op2_ok (var_ok rfl) rfl).trans (ix_str hl hx)
  have go : ∀ (as : SA), as [some (.ref l)] h = .ok (strs_ xs) h → ∃ h' j l', sMk (ceN bod pd (n + 1)) 0 0 as [some (.ref l)] h = .ok (.ref j) h' ∧ Mk h' j l' (alp xs) ∧ Fr [] h h' ∧ h.length ≤ j ∧ h.length ≤ l' := fun as q => mk_marks q (by omega)
  have fin : ∀ (j : Nat) (h' : AH), b_13 (ceN bod pd (n + 1)) [some (.ref l)] h = .ok (.rt (.ref j)) h' → bod (ceN bod pd (n + 1)) 13 [.ref l] h = .ok (.ref j) h' := fun j h' q => runF_rt rfl q
  unfold b_13 at fin
  match xs, hl, hz, t, at_, go, fin with
  | [], hl, hz, t, at_, go, fin =>
    obtain ⟨h', j, l', e1, r⟩ := go aNil rfl
    exact ⟨h', j, l', fin _ _ (seq_rt (by rw [if_ok (t 0)]; exact ret_ok e1)), r⟩
  | [x], hl, hz, t, at_, go, fin =>
    obtain ⟨h', j, l', e1, r⟩ := go _ (args_one (at_ 0 x rfl))
    exact ⟨h', j, l', fin _ _ ((seq_nx (σ1 := [some (.ref l)]) (h1 := h) (by rw [if_ok (t 0)]; rfl)).trans (seq_rt (by rw [if_ok (t 1)]; exact ret_ok e1))), r⟩
  | [x, y], hl, hz, t, at_, go, fin =>
    obtain ⟨h', j, l', e1, r⟩ := go _ (args_cons (at_ 0 x rfl) (args_one (at_ 1 y rfl)))
    exact ⟨h', j, l', fin _ _ ((seq_nx (σ1 := [some (.ref l)]) (h1 := h) (by rw [if_ok (t 0)]; rfl)).trans ((seq_nx (σ1 := [some (.ref l)]) (h1 := h) (by rw [if_ok (t 1)]; rfl)).trans (seq_rt (by rw [if_ok (t 2)]; exact ret_ok e1)))), r⟩
  | [x, y, z], hl, hz, t, at_, go, fin =>
    obtain ⟨h', j, l', e1, r⟩ := go _ (args_cons (at_ 0 x rfl) (args_cons (at_ 1 y rfl) (args_one (at_ 2 z rfl))))
    exact ⟨h', j, l', fin _ _ ((seq_nx (σ1 := [some (.ref l)]) (h1 := h) (by rw [if_ok (t 0)]; rfl)).trans ((seq_nx (σ1 := [some (.ref l)]) (h1 := h) (by rw [if_ok (t 1)]; rfl)).trans ((seq_nx (σ1 := [some (.ref l)]) (h1 := h) (by rw [if_ok (t 2)]; rfl)).trans (ret_ok e1)))), r⟩
  | _ :: _ :: _ :: _ :: _, hl, hz, t, at_, go, fin => simp at hz
end
theorem tape_ok (n : Nat) (ns : List Int) : ∃ h, bod (ceN bod pd n) 10 [.scr ns] [] = .ok (.ref 1) h ∧ Tape h 1 0 ns := by
  refine ⟨[.lst (ns.map .int), .lst [.int 0, .int 0, .int 7, .ref 0]], runF_rt rfl ?_, 0, 0, 7, rfl, rfl, by decide, by decide, by decide⟩
  refine ret_ok ?_
  have q : opN (arg1 (bList (ceN bod pd n))) (aCons (sVar 0) aNil) [some (.scr ns)] [] = .ok (.ref 0) [.lst (ns.map .int)] := by
    rw [opN_ok (args_one (var_ok rfl))]
    rfl
  refine (opN_ok (args_cons (v := .int 0) rfl (args_cons (v := .int 0) rfl (args_cons (v := .int 7) rfl (args_one q))))).trans ?_
  exact Eq.trans (if_pos (by rw [sizeLine_eq]; decide)) rfl
section
variable {h h1 : AH} {t s : Nat} {ns : List Int} {σ : Sl} {e : SE}
theorem pickE_ok {m : Nat} {n : Int} (T : Tape h t s ns) (q : e σ h = .ok (.ref t) h) (h1 : 1 ≤ n) (h2 : n < 1073741824) :
    ∃ v h', sCall (ceN bod pd (m + 1)) 11 (aCons e (aCons (sK (.int n)) aNil)) σ h = .ok (.int v) h' ∧ 0 ≤ v ∧ v < n ∧ Tape h' t s ns ∧ Fr [t] h h' := by
  obtain ⟨a, b, c, T⟩ := T
  obtain ⟨v, a', b', c', e1, e2, e3, e4, e5⟩ := pick_ok (ceN bod pd m) T h1 h2
  exact ⟨v, _, (call_ok (args_cons q (args_one rfl))).trans e5, e1, e2, ⟨a', b', c', T.set e3 e4⟩, Fr.set (by simp)⟩
/-- a comprehension over a range, its items use the tape -/
theorem lc_tape {fi : SI} {g : SG} {vs : List Nat} {lo : Int} {n : Nat} (P : AV → Prop) (hi : fi σ h = .ok (.rng lo n) h1) (T : Tape h1 t s ns) (hz : n < sizeLine)
    (he : ∀ (x : AV) (h : AH), Tape h t s ns → Fr [t, h1.length] (h1 ++ [.lst []]) h → ∃ σ1 w h', g x (wipeA σ vs) = some σ1 ∧ e σ1 h = .ok w h' ∧ P w ∧ Tape h' t s ns ∧ Fr [t] h h') :
    ∃ acc h', sLc fi g tYes e vs σ h = .ok (.ref h1.length) h' ∧ h'[h1.length]? = some (.lst acc) ∧ acc.length = n ∧ (∀ w ∈ acc, P w) ∧ Tape h' t s ns ∧ Fr [t] h1 h' ∧ h1.length < h'.length := by
  have ht : t < h1.length ∧ s < h1.length := by obtain ⟨a, b, c, T⟩ := T; exact ⟨lt_of_get T.ht, lt_of_get T.hs⟩
  unfold sLc
  rw [hi]
  simp only [bind_ok]
  have key := lcL_ok (s := .rng lo n) (xs := (List.range n).map fun (i : Nat) => AV.int (lo + i)) (g := g) (t := tYes) (e := e) (D := h1.length) (σ := wipeA σ vs)
    (fun i acc h => acc.length = i ∧ (∀ w ∈ acc, P w) ∧ Tape h t s ns ∧ Fr [t, h1.length] (h1 ++ [.lst []]) h ∧ h[h1.length]? = some (.lst acc))
    (fun i acc h _ => by
      unfold Src.at
      dsimp only
      by_cases hin : i < n
      · rw [if_pos hin, List.getElem?_map, List.getElem?_range hin]
        rfl
      · rw [if_neg hin, List.getElem?_eq_none (by simpa using hin)])
    (fun i x acc h hx I => by
      obtain ⟨I1, I2, I3, I4, I5⟩ := I
      obtain ⟨σ1, w, h', q1, q2, q3, q4, q5⟩ := he x h I3 I4
      have hin : i < n := by
        have z := (List.getElem?_eq_some_iff.mp hx).1
        simpa using z
      have gD : h'[h1.length]? = some (.lst acc) := q5.get I5 (by simp; omega)
      refine ⟨σ1, q1, .inr ⟨h, w, h', rfl, q2, gD, by omega, by simp [I1], fun y hy => ?_, ?_, ?_, set_get gD⟩⟩
      · rcases List.mem_append.mp hy with hy | hy
        · exact I2 y hy
        · rw [List.mem_singleton.mp hy]; exact q3
      · exact q4.fr (S := [h1.length]) (Fr.set (by simp)) (by simp; omega) (by simp; omega)
      · exact (I4.tr (q5.mono (by simp))).tr (Fr.set (by simp)))
    n 0 [] (h1 ++ [.lst []]) (by simp) ⟨rfl, (fun _ h => by cases h), T.fr (S := []) Fr.push (by simp) (by simp), Fr.rf, get_new⟩
  obtain ⟨acc, h2, e1, e2, e3, e4, e5, e6⟩ := key
  refine ⟨acc, h2, e1, e6, by rw [e2]; simp, e3, e4, ⟨?_, fun i hi hn => ?_⟩, lt_of_get e6⟩
  · have := e5.1; simp at this; omega
  · exact (e5.2 i (by simp; omega) (by simp at hn ⊢; omega)).trans (List.getElem?_append_left hi)
theorem lst_of {P : Str → Prop} : ∀ {acc : List AV}, (∀ w ∈ acc, ∃ x, w = .str x ∧ P x) → ∃ ss, acc = strs_ ss ∧ (∀ x ∈ ss, P x) ∧ ss.length = acc.length
  | [], _ => ⟨[], rfl, (fun _ h => by cases h), rfl⟩
  | w :: r, h => by
    obtain ⟨x, rfl, hx⟩ := h w List.mem_cons_self
    obtain ⟨ss, rfl, h1, h2⟩ := lst_of (acc := r) fun w hw => h w (List.mem_cons_of_mem _ hw)
    exact ⟨x :: ss, rfl, fun y hy => (List.mem_cons.mp hy).elim (fun e => e ▸ hx) (h1 y), by rw [List.length_cons, List.length_cons, h2]⟩
abbrev okS (x : Str) : Prop := PyData.strOk x = true
theorem ok_app {a b : Str} (ha : okS a) (hb : okS b) : okS (a ++ b) := by
  unfold okS PyData.strOk at *
  rw [show (a ++ b).cps = a.cps ++ b.cps from rfl, Array.all_append, ha, hb]
  rfl
theorem ok_foldl : ∀ (ss : List Str) (a : Str), okS a → (∀ x ∈ ss, okS x) → okS (ss.foldl (fun r x => r ++ x) a)
  | [], a, ha, _ => ha
  | x :: r, a, ha, h => ok_foldl r (a ++ x) (ok_app ha (h x List.mem_cons_self)) fun y hy => h y (List.mem_cons_of_mem _ hy)
end
theorem ok_glue (g : Array Nat) (P : Nat → Bool) (hg : g.all P = true) : ∀ (ps : List Str) (a : Array Nat), a.all P = true → (∀ x ∈ ps, x.cps.all P = true) → (ps.foldl (fun acc p => acc ++ g ++ p.cps) a).all P = true
  | [], a, ha, _ => ha
  | x :: r, a, ha, h => by
    refine ok_glue g P hg r _ ?_ fun y hy => h y (List.mem_cons_of_mem _ hy)
    rw [Array.all_append, Array.all_append, ha, hg, h x List.mem_cons_self]
    rfl
theorem ok_join {ss : List Str} (h : ∀ x ∈ ss, okS x) : okS (Txt.join "" ss) := by
  show Array.all _ _ = true
  unfold Txt.join Builtin.Str.glued
  refine ok_glue _ _ (by decide +kernel) _ _ ?_ fun x hx => h x (List.mem_of_mem_drop hx)
  cases ss with
  | nil => exact (by decide +kernel : (Array.all (Str.empty).cps (fun x => decide (x < 1114112))) = true)
  | cons x r => exact h x List.mem_cons_self
theorem joinE {o : Str} {e : SE} {σ : Sl} {h h2 : AH} {l : Nat} {ss : List Str} (q : e σ h = .ok (.ref l) h2) (g : h2[l]? = some (.lst (strs_ ss))) (hs : (ss.map (·.length)).sum + ss.length * o.length ≤ 16777216) : sBm isStr mJoin (sK (.str o)) (aCons e aNil) σ h = .ok (.str (Txt.join o ss)) h2 := by
  unfold sBm
  show (R.ok (AV.str o) h).bind _ = _
  simp only [bind_ok]
  rw [show isStr (AV.str o) h = true from rfl, if_pos rfl, args_one q]
  simp only [bind_ok]
  unfold mJoin seqOf
  simp only [g]
  rw [Mi.strs_map]
  simp only
  rw [if_pos hs]
abbrev abc : Str := "abcdefghijklmnopqrstuvwxyz"
theorem abc_at {v : Int} (h0 : 0 ≤ v) (h1 : v < 26) : ∃ c, L2.atI abc.cps.toList v = some c ∧ c < 0x110000 := by
  obtain ⟨m, rfl⟩ := Int.eq_ofNat_of_zero_le h0
  have hm : m < 26 := by omega
  have z : ∀ m : Fin 26, ∃ c, L2.atI abc.cps.toList (m.val : Int) = some c ∧ c < 0x110000 := by
    intro m
    have y : ∀ m : Fin 26, (match L2.atI abc.cps.toList (m.val : Int) with | some c => decide (c < 0x110000) | none => false) = true := by decide +kernel
    have y := y m
    split at y
    · rename_i c e; exact ⟨c, e, of_decide_eq_true y⟩
    · cases y
  exact z ⟨m, hm⟩
section
variable {h h1 : AH} {t s : Nat} {ns : List Int} {σ : Sl} {e : SE}
theorem rng1_ok {e : SE} {i : Int} (q : e σ h = .ok (.int i) h1) (h0 : 0 ≤ i) (h2 : i < 1000) : Mi.iRng1 e σ h = .ok (.rng 0 i.toNat) h1 := by
  unfold Mi.iRng1
  rw [q]
  simp only [bind_ok]
  rw [if_pos ⟨by omega, by omega⟩]
theorem letters_ok {m : Nat} (T : Tape h t s ns) : ∃ x h', bod (ceN bod pd (m + 1)) 12 [.ref t] h = .ok (.str x) h' ∧ okS x ∧ Tape h' t s ns ∧ Fr [t] h h' := by
  obtain ⟨v, h1, e1, v0, v8, T1, f1⟩ := pickE_ok (m := m) (σ := [some (.ref t), some (.str abc), none]) (e := sVar 0) (n := 8) T (var_ok rfl) (by decide) (by decide)
  have r1 : Mi.iRng1 (op2 oAdd (sK (.int 1)) (sCall (ceN bod pd (m + 1)) 11 (aCons (sVar 0) (aCons (sK (.int 8)) aNil)))) [some (.ref t), some (.str abc), none] h = .ok (.rng 0 (1 + v).toNat) h1 := rng1_ok ((op2_ok rfl e1).trans rfl) (by omega) (by omega)
  obtain ⟨acc, h2, e2, g2, n2, p2, T2, f2, l2⟩ := lc_tape (g := gNm 2) (vs := [2]) (e := op2 (oIx (ceN bod pd (m + 1))) (sVar 1) (sCall (ceN bod pd (m + 1)) 11 (aCons (sVar 0) (aCons (sK (.int 26)) aNil)))) (fun w => ∃ x, w = .str x ∧ (okS x ∧ x.length = 1)) r1 T1 (by rw [sizeLine_eq]; omega) (fun x hx Tx fx => by
    obtain ⟨u, h', q1, u0, u26, Tu, fu⟩ := pickE_ok (m := m) (σ := [some (.ref t), some (.str abc), some x]) (e := sVar 0) (n := 26) Tx (var_ok rfl) (by decide) (by decide)
    obtain ⟨c, hc, hlt⟩ := abc_at u0 u26
    refine ⟨_, .str ⟨#[c]⟩, h', rfl, ?_, ⟨_, rfl, by simp [okS, PyData.strOk, hlt], rfl⟩, Tu, fu⟩
    refine (op2_ok (var_ok (v := .str abc) rfl) q1).trans ?_
    unfold oIx
    dsimp only
    rw [if_pos (by rw [sizeLine_eq]; decide +kernel), hc])
  obtain ⟨ss, rfl, p3, n3⟩ := lst_of p2
  refine ⟨Txt.join "" ss, h2, runF_rt rfl ?_, ok_join fun x hx => (p3 x hx).1, T2, f1.tr f2⟩
  show b_12 _ [some (.ref t), none, none] h = _
  unfold b_12
  rw [seq_nx (set_ok (v := .str abc) rfl)]
  have hsum : (ss.map (·.length)).sum = ss.length := by
    clear g2 n2 p2 e2 n3
    induction ss with
    | nil => rfl
    | cons x r ih =>
      rw [List.map_cons, List.sum_cons, ih fun y hy => p3 y (List.mem_cons_of_mem _ hy), (p3 x List.mem_cons_self).2, List.length_cons]
      omega
  exact ret_ok (joinE e2 g2 (by rw [hsum, show (Str.length "" : Nat) = 0 from rfl]; omega))
end
/-- a drawn list of names of the pool -/
theorem drawn_ok {h : AH} {t s l : Nat} {ns : List Int} {σ : Sl} {m : Nat} {fi : SI} {h1 : AH} {lo : Int} {n p q k : Nat} {pool : List Str} {kk : Int} (hi : fi σ h = .ok (.rng lo n) h1) (T : Tape h1 t s ns) (hz : n < sizeLine) (hl : h1[l]? = some (.lst (strs_ pool))) (hlt : l ≠ t) (hk : (pool.length : Int) = kk) (hk1 : 1 ≤ kk) (hk2 : kk < 1000) (ok : ∀ x ∈ pool, okS x)
    (hp : ∀ x, ((wipeA σ [k]).set k (some x))[p]? = some (some (.ref l))) (hq : ∀ x, ((wipeA σ [k]).set k (some x))[q]? = some (some (.ref t))) :
    ∃ ss h', sLc fi (gNm k) tYes (op2 (oIx (ceN bod pd (m + 1))) (sVar p) (sCall (ceN bod pd (m + 1)) 11 (aCons (sVar q) (aCons (sK (.int kk)) aNil)))) [k] σ h = .ok (.ref h1.length) h' ∧ h'[h1.length]? = some (.lst (strs_ ss)) ∧ ss.length = n ∧ (∀ x ∈ ss, okS x) ∧ Tape h' t s ns ∧ Fr [t] h1 h' := by
  have hll : l < h1.length := lt_of_get hl
  obtain ⟨acc, h2, e2, g2, n2, p2, T2, f2, l2⟩ := lc_tape (g := gNm k) (vs := [k]) (e := op2 (oIx (ceN bod pd (m + 1))) (sVar p) (sCall (ceN bod pd (m + 1)) 11 (aCons (sVar q) (aCons (sK (.int kk)) aNil)))) (fun w => ∃ x, w = .str x ∧ okS x) hi T hz (fun x hx Tx fx => by
    obtain ⟨u, h', q1, u0, u26, Tu, fu⟩ := pickE_ok (m := m) (σ := (wipeA σ [k]).set k (some x)) (e := sVar q) (n := kk) Tx (var_ok (hq x)) hk1 (by omega)
    obtain ⟨i, rfl⟩ := Int.eq_ofNat_of_zero_le u0
    have hi : i < pool.length := by omega
    have gl : h'[l]? = some (.lst (strs_ pool)) := fu.get (fx.get (get_old hl) (by simp; omega)) (by simpa using hlt)
    exact ⟨_, .str pool[i], h', rfl, (op2_ok (var_ok (hp x)) q1).trans (ix_str gl (List.getElem?_eq_getElem hi)), ⟨_, rfl, ok _ (List.getElem_mem hi)⟩, Tu, fu⟩)
  obtain ⟨ss, rfl, p3, n3⟩ := lst_of p2
  exact ⟨ss, h2, e2, g2, by omega, p3, T2, f2⟩
theorem pool_ok {h : AH} {t s : Nat} {ns : List Int} {σ : Sl} {m : Nat} {n q k : Nat} (T : Tape h t s ns) (hz : n < 100) (hq : ∀ x, ((wipeA σ [k]).set k (some x))[q]? = some (some (.ref t))) :
    ∃ ss h', sLc (Mi.iRng1 (sK (.int n))) (gNm k) tYes (sCall (ceN bod pd (m + 2)) 12 (aCons (sVar q) aNil)) [k] σ h = .ok (.ref h.length) h' ∧ h'[h.length]? = some (.lst (strs_ ss)) ∧ ss.length = n ∧ (∀ x ∈ ss, okS x) ∧ Tape h' t s ns ∧ Fr [t] h h' := by
  have r1 : Mi.iRng1 (sK (.int n)) σ h = .ok (.rng 0 n) h := by
    have z := rng1_ok (e := sK (.int n)) (i := (n : Int)) (σ := σ) (h := h) (h1 := h) rfl (by omega) (by omega)
    exact z
  obtain ⟨acc, h2, e2, g2, n2, p2, T2, f2, l2⟩ := lc_tape (g := gNm k) (vs := [k]) (e := sCall (ceN bod pd (m + 2)) 12 (aCons (sVar q) aNil)) (fun w => ∃ x, w = .str x ∧ okS x) r1 T (by rw [sizeLine_eq]; omega) (fun x hx Tx fx => by
    obtain ⟨y, h', q1, q2, q3, q4⟩ := letters_ok (m := m) Tx
    exact ⟨_, .str y, h', rfl, (call_ok (args_one (var_ok (hq x)))).trans q1, ⟨y, rfl, q2⟩, q3, q4⟩)
  obtain ⟨ss, rfl, p3, n3⟩ := lst_of p2
  exact ⟨ss, h2, e2, g2, by omega, p3, T2, f2⟩
/-- list(o) != l -/
theorem neE {C : CE} {e1 e2 : SE} {σ : Sl} {h h1 h2 : AH} {a b : Nat} {xs ys : List Str} (q1 : e1 σ h = .ok (.ref a) h1) (q2 : e2 σ h1 = .ok (.ref b) h2) (ga : h2[a]? = some (.lst (strs_ xs))) (gb : h2[b]? = some (.lst (strs_ ys))) (ex : xs = ys) (ok : ∀ x ∈ ys, okS x) : tBl (op2 (oNe C) e1 e2) σ h = .ok false h2 := by
  subst ex
  refine tBl_ok ((op2_ok q1 q2).trans ?_)
  rw [ne_strs ga gb ok ok]
  simp
theorem eqE {C : CE} {e1 e2 : SE} {σ : Sl} {h h1 h2 : AH} {a b : Nat} {xs ys : List Str} (q1 : e1 σ h = .ok (.ref a) h1) (q2 : e2 σ h1 = .ok (.ref b) h2) (ga : h2[a]? = some (.lst (strs_ xs))) (gb : h2[b]? = some (.lst (strs_ ys))) (ex : xs = ys) (ok : ∀ x ∈ ys, okS x) : op2 (oEq C) e1 e2 σ h = .ok (.bl true) h2 := by
  subst ex
  refine (op2_ok q1 q2).trans ?_
  rw [eq_strs ga gb ok ok]
  simp
theorem ok_alp {xs : List Str} (ok : ∀ x ∈ xs, okS x) : ∀ x ∈ alp xs, okS x := fun x hx => ok x (mem_alp.mp hx)
theorem ok_apd {xs ys : List Str} (h1 : ∀ x ∈ xs, okS x) (h2 : ∀ x ∈ ys, okS x) : ∀ x ∈ xs ++ ys, okS x := fun x hx => (List.mem_append.mp hx).elim (h1 x) (h2 x)
theorem alp_alp (xs ys : List Str) : alp (alp xs ++ alp ys) = alp (xs ++ ys) := alp_congr fun y => by rw [List.mem_append, List.mem_append, mem_alp, mem_alp]
theorem alphE {m : Nat} {e : SE} {σ : Sl} {h h1 : AH} {l : Nat} {xs : List Str} (q : e σ h = .ok (.ref l) h1) (hl : h1[l]? = some (.lst (strs_ xs))) (hz : xs.length < 64) : ∃ h' r, sCall (ceN bod pd (m + 2)) 15 (aCons e aNil) σ h = .ok (.ref r) h' ∧ h'[r]? = some (.lst (strs_ (alp xs))) ∧ Fr [] h1 h' := by
  obtain ⟨h', r, e1, g1, f1, _⟩ := alphabet_ok (n := m) hl hz
  exact ⟨h', r, (call_ok (args_one q)).trans e1, g1, f1⟩
/-- list(o) against alphabet(l): not different -/
theorem cmp_alph {m : Nat} {C : CE} {eo el : SE} {σ : Sl} {h : AH} {j l lo : Nat} {ss xs : List Str} (mo : Mk h j lo ss) (qo : eo σ h = .ok (.ref j) h) (ql : ∀ h', el σ h' = .ok (.ref l) h') (hl : h[l]? = some (.lst (strs_ xs))) (hz : xs.length < 64) (hs : ss.length < 64) (ex : ss = alp xs) (ok : ∀ x ∈ xs, okS x) :
    ∃ h', tBl (op2 (oNe C) (opN (arg1 (bList (ceN bod pd (m + 2)))) (aCons eo aNil)) (sCall (ceN bod pd (m + 2)) 15 (aCons el aNil))) σ h = .ok false h' ∧ op2 (oEq C) (opN (arg1 (bList (ceN bod pd (m + 2)))) (aCons eo aNil)) (sCall (ceN bod pd (m + 2)) 15 (aCons el aNil)) σ h = .ok (.bl true) h' ∧ Fr [] h h' := by
  have q1 := listE_ok (n := m + 1) mo hs qo
  obtain ⟨h', r, e1, g1, f1⟩ := alphE (m := m) (ql (h ++ [.lst (strs_ ss)])) (get_old hl) hz
  exact ⟨h', neE q1 e1 (f1.get0 get_new) g1 ex (ok_alp ok), eqE q1 e1 (f1.get0 get_new) g1 ex (ok_alp ok), Fr.push.tr f1⟩
theorem cmp_list {m : Nat} {C : CE} {eo el : SE} {σ : Sl} {h : AH} {j l lo : Nat} {ss xs : List Str} (mo : Mk h j lo ss) (qo : eo σ h = .ok (.ref j) h) (ql : ∀ h', el σ h' = .ok (.ref l) h') (hl : h[l]? = some (.lst (strs_ xs))) (hs : ss.length < 64) (ex : ss = xs) (ok : ∀ x ∈ xs, okS x) :
    ∃ h', tBl (op2 (oNe C) (opN (arg1 (bList (ceN bod pd (m + 1)))) (aCons eo aNil)) el) σ h = .ok false h' ∧ op2 (oEq C) (opN (arg1 (bList (ceN bod pd (m + 1)))) (aCons eo aNil)) el σ h = .ok (.bl true) h' ∧ Fr [] h h' := by
  have q1 := listE_ok (n := m) mo hs qo
  exact ⟨_, neE q1 (ql _) get_new (get_old hl) ex ok, eqE q1 (ql _) get_new (get_old hl) ex ok, Fr.push⟩
theorem if_f {t : SB} {a : SS} {σ : Sl} {h h1 : AH} (q : t σ h = .ok false h1) : ssIf t a ssNil σ h = .ok (.nx σ) h1 := by
  rw [if_ok q]
  rfl
theorem lenO_ok {n : Nat} {e : SE} {σ : Sl} {h : AH} {j l : Nat} {ss : List Str} (m : Mk h j l ss) (hz : ss.length < 64) (q : e σ h = .ok (.ref j) h) : opN (arg1 (bLen (ceN bod pd (n + 1)))) (aCons e aNil) σ h = .ok (.int ss.length) h := by
  rw [opN_ok (args_one q)]
  show bLen _ (.ref j) h = _
  unfold bLen
  dsimp only
  rw [show seqOf (AV.ref j) h = none from by simp [seqOf, m.1], show cls? (AV.ref j) h = some (0, nmF l) from by simp [cls?, m.1]]
  dsimp only
  rw [show (ceN bod pd (n + 1)).dn 0 .len = some 2 from rfl]
  dsimp only
  rw [show (ceN bod pd (n + 1)).call 2 [.ref j] h = .ok (.int ss.length) h from lenM_ok (C := ceN bod pd n) m]
  dsimp only
  rw [if_pos ⟨by omega, by omega⟩]
theorem neI {C : CE} {e1 e2 : SE} {σ : Sl} {h : AH} {i j : Int} (q1 : e1 σ h = .ok (.int i) h) (q2 : e2 σ h = .ok (.int j) h) (e : i = j) : tBl (op2 (oNe C) e1 e2) σ h = .ok false h := by
  subst e
  refine tBl_ok ((op2_ok q1 q2).trans ?_)
  unfold oNe
  rw [eqD_ints]
  simp
theorem add_strs {e1 e2 : SE} {σ : Sl} {h : AH} {a b : Nat} {xs ys : List Str} (q1 : e1 σ h = .ok (.ref a) h) (q2 : e2 σ h = .ok (.ref b) h) (ga : h[a]? = some (.lst (strs_ xs))) (gb : h[b]? = some (.lst (strs_ ys))) (hz : xs.length + ys.length < 1000) : op2 oAdd e1 e2 σ h = .ok (.ref h.length) (h ++ [.lst (strs_ (xs ++ ys))]) := by
  rw [op2_ok q1 q2]
  unfold oAdd
  simp only [ga, gb]
  rw [if_pos (by rw [List.length_map, List.length_map, sizeLine_eq]; omega), ← List.map_append]
  rfl
theorem len4 {xs : List Str} (h : xs.length = 4) : ∃ a b c d, xs = [a, b, c, d] := by
  match xs, h with
  | [a, b, c, d], _ => exact ⟨a, b, c, d, rfl⟩
end K02

namespace K02
open PySem PySem.Spec PyProof.Rows L2 Mi
theorem lc_filt {fi : SI} {σ : Sl} {h : AH} {l q : Nat} {xs : List Str} {t : SB} (p : Str → Bool) (hi : fi σ h = .ok (.lst l) h) (hl : h[l]? = some (.lst (strs_ xs))) (hz : xs.length < 64) (hq : q < σ.length)
    (ht : ∀ y acc, t ((wipeA σ [q]).set q (some (.str y))) (h ++ [.lst acc]) = .ok (p y) (h ++ [.lst acc])) : sLc fi (gNm q) t (sVar q) [q] σ h = .ok (.ref h.length) (h ++ [.lst (strs_ (xs.filter p))]) := by
  have z := lc_pure (fi := fi) (g := gNm q) (t := t) (e := sVar q) (vs := [q]) (σ := σ) (h := h) (fun x => (wipeA σ [q]).set q (some x)) (fun x => match x with | .str y => p y | _ => false) id hi hl (by rw [List.length_map, sizeLine_eq]; omega) (fun _ => rfl) (fun x hx acc => by
    obtain ⟨y, _, rfl⟩ := List.mem_map.mp hx
    exact ht y acc) (fun x hx _ acc => var_ok (List.getElem?_set_self (by unfold wipeA wipeA; simpa using hq)))
  rw [List.map_id] at z
  rw [show (strs_ xs).filter (fun x => match x with | .str y => p y | _ => false) = strs_ (xs.filter p) from by rw [List.filter_map]; rfl] at z
  exact z
section
variable {h : AH} {a b la lb : Nat} {xs ys : List Str} {σ : Sl} {n : Nat} {e1 e2 : SE}
theorem star_of {h : AH} {zs : List Str} {l : Nat} {σ : Sl} {i : Nat} (hv : σ[i]? = some (some (.ref l))) (g : h[l]? = some (.lst (strs_ zs))) : aStar (sVar i) aNil σ h = .ok (strs_ zs) h := by
  unfold aStar
  rw [var_ok hv]
  simp only [bind_ok, seqOf, g, aNil, List.append_nil]
theorem and_ok (ma : Mk h a la xs) (mb : Mk h b lb ys) (hz : xs.length < 64) : ∃ h' j l, bod (ceN bod pd (n + 1)) 6 [.ref a, .ref b] h = .ok (.ref j) h' ∧ Mk h' j l (alp (xs.filter fun y => decide (y ∈ ys))) ∧ Fr [] h h' := by
  have z2 := lc_filt (q := 3) (t := tBl (op2 (oIn (ceN bod pd (n + 1))) (sVar 3) (sFld 0 "names" (sVar 1)))) (fun y => decide (y ∈ ys)) (seq_it (names_ok ma (var_ok (σ := [some (.ref a), some (.ref b), none, none]) (i := 0) rfl)) ma.2) ma.2 hz (by simp) (fun y acc => by
    have m' := mb.fr0 (Fr.push (S := []) (os := [.lst acc]))
    exact tBl_ok ((op2_ok (var_ok rfl) (names_ok m' (var_ok rfl))).trans (in_strs m'.2)))
  have s2 := set_ok (i := 2) z2
  obtain ⟨h', j, l, q1, m1, f1, _, _⟩ := mk_marks (n := n) (star_of (σ := [some (.ref a), some (.ref b), some (.ref h.length), none]) (i := 2) rfl get_new) (Nat.lt_of_le_of_lt (List.length_filter_le _ _) hz)
  refine ⟨h', j, l, runF_rt rfl ?_, m1, Fr.push.tr f1⟩
  show b_6 _ [some (.ref a), some (.ref b), none, none] h = _
  unfold b_6
  exact (seq_nx (guard_ok mb (var_ok rfl))).trans ((seq_nx s2).trans (ret_ok q1))
theorem sub_ok (ma : Mk h a la xs) (mb : Mk h b lb ys) (hz : xs.length < 64) : ∃ h' j l, bod (ceN bod pd (n + 1)) 7 [.ref a, .ref b] h = .ok (.ref j) h' ∧ Mk h' j l (alp (xs.filter fun y => !decide (y ∈ ys))) ∧ Fr [] h h' := by
  have z2 := lc_filt (q := 3) (t := tBl (op2 (oNotIn (ceN bod pd (n + 1))) (sVar 3) (sFld 0 "names" (sVar 1)))) (fun y => !decide (y ∈ ys)) (seq_it (names_ok ma (var_ok (σ := [some (.ref a), some (.ref b), none, none]) (i := 0) rfl)) ma.2) ma.2 hz (by simp) (fun y acc => by
    have m' := mb.fr0 (Fr.push (S := []) (os := [.lst acc]))
    exact tBl_ok ((op2_ok (var_ok rfl) (names_ok m' (var_ok rfl))).trans (notin_strs m'.2)))
  have s2 := set_ok (i := 2) z2
  obtain ⟨h', j, l, q1, m1, f1, _, _⟩ := mk_marks (n := n) (star_of (σ := [some (.ref a), some (.ref b), some (.ref h.length), none]) (i := 2) rfl get_new) (Nat.lt_of_le_of_lt (List.length_filter_le _ _) hz)
  refine ⟨h', j, l, runF_rt rfl ?_, m1, Fr.push.tr f1⟩
  show b_7 _ [some (.ref a), some (.ref b), none, none] h = _
  unfold b_7
  exact (seq_nx (guard_ok mb (var_ok rfl))).trans ((seq_nx s2).trans (ret_ok q1))
theorem dunE (d : Dn) (i : Nat) (ma : Mk h a la xs) (mb : Mk h b lb ys) (hd : (ceN bod pd (n + 1)).dn 0 d = some i) : dun (ceN bod pd (n + 1)) d (.ref a) (.ref b) h = bod (ceN bod pd n) i [.ref a, .ref b] h := by
  unfold dun
  rw [show cls? (AV.ref a) h = some (0, nmF la) from by simp [cls?, ma.1], show cls? (AV.ref b) h = some (0, nmF lb) from by simp [cls?, mb.1]]
  dsimp only
  rw [if_pos rfl, hd]
  rfl
theorem blsL_map (bs : List Bool) : blsL (bs.map .bl) = some bs := by
  induction bs with
  | nil => rfl
  | cons b r ih =>
    simp only [blsL] at ih
    simp only [blsL, List.map_cons, omap, ih]
def memF (ys : List Str) : AV → AV
  | .str y => .bl (decide (y ∈ ys))
  | _ => .non
theorem memF_map (xs ys : List Str) : (strs_ xs).map (memF ys) = (xs.map fun y => decide (y ∈ ys)).map .bl := by
  rw [List.map_map, List.map_map]
  rfl
theorem le_ok {C : CE} (ma : Mk h a la xs) (mb : Mk h b lb ys) (hz : xs.length < 64) : bod C 8 [.ref a, .ref b] h = .ok (.bl (xs.all fun y => decide (y ∈ ys))) (h ++ [.lst ((xs.map fun y => decide (y ∈ ys)).map .bl)]) := by
  have z := lc_pure (fi := iSeq (sFld 0 "names" (sVar 0))) (g := gNm 2) (t := tYes) (e := op2 (oIn C) (sVar 2) (sFld 0 "names" (sVar 1))) (vs := [2]) (σ := [some (.ref a), some (.ref b), none]) (h := h) (fun x => [some (.ref a), some (.ref b), some x]) (fun _ => true) (memF ys)
    (seq_it (names_ok ma (var_ok rfl)) ma.2) ma.2 (by rw [List.length_map, sizeLine_eq]; omega) (fun _ => rfl) (fun _ _ _ => rfl) (fun x hx _ acc => by
    obtain ⟨y, _, rfl⟩ := List.mem_map.mp hx
    have m' := mb.fr0 (Fr.push (S := []) (os := [.lst acc]))
    exact (op2_ok (var_ok rfl) (names_ok m' (var_ok rfl))).trans (in_strs m'.2))
  rw [List.filter_eq_self.mpr (fun _ _ => rfl)] at z
  rw [memF_map] at z
  refine runF_rt rfl ?_
  show b_8 C [some (.ref a), some (.ref b), none] h = _
  unfold b_8
  refine (seq_nx (guard_ok mb (var_ok rfl))).trans (ret_ok ((opN_ok (args_one z)).trans ?_))
  show bAll _ _ = _
  unfold bAll lstOf
  simp only [get_new]
  rw [blsL_map]
  simp only [List.all_map]
  rfl
theorem eqM_ok {C : CE} (ma : Mk h a la xs) (mb : Mk h b lb ys) (ox : ∀ x ∈ xs, okS x) (oy : ∀ x ∈ ys, okS x) : bod C 1 [.ref a, .ref b] h = .ok (.bl (decide (xs = ys))) h := by
  refine runF_rt rfl (ret_ok ?_)
  rw [sAnd_t (isM mb (var_ok rfl)), op2_ok (names_ok ma (var_ok rfl)) (names_ok mb (var_ok rfl)), eq_strs ma.2 mb.2 ox oy]
theorem eqMM (ma : Mk h a la xs) (mb : Mk h b lb ys) (ox : ∀ x ∈ xs, okS x) (oy : ∀ x ∈ ys, okS x) (q1 : e1 σ h = .ok (.ref a) h) (q2 : e2 σ h = .ok (.ref b) h) : op2 (oEq (ceN bod pd (n + 1))) e1 e2 σ h = .ok (.bl (decide (xs = ys))) h := by
  rw [op2_ok q1 q2]
  unfold oEq
  rw [show eqD (.ref a) (.ref b) h = none from by
    have z : dat 9 h (.ref a) = none := by
      show (match h[a]? with | some (.lst xs) => (omap (dat 8 h) xs).map PyData.list | _ => none) = _
      rw [ma.1]
    unfold eqD
    rw [z]]
  dsimp only
  rw [dunE .eq 1 ma mb rfl, eqM_ok ma mb ox oy]
theorem hasE {x : Str} (ma : Mk h a la xs) (q1 : e1 σ h = .ok (.str x) h) (q2 : e2 σ h = .ok (.ref a) h) : op2 (oIn (ceN bod pd (n + 1))) e1 e2 σ h = .ok (.bl (decide (x ∈ xs))) h := by
  rw [op2_ok q1 q2]
  have hb : bod (ceN bod pd n) 4 [.ref a, .str x] h = .ok (.bl (decide (x ∈ xs))) h := runF_rt rfl (ret_ok ((op2_ok (var_ok rfl) (names_ok ma (var_ok rfl))).trans (in_strs ma.2)))
  unfold oIn
  rw [show seqOf (AV.ref a) h = none from by simp [seqOf, ma.1]]
  dsimp only
  rw [show cls? (AV.ref a) h = some (0, nmF la) from by simp [cls?, ma.1]]
  dsimp only
  rw [show (ceN bod pd (n + 1)).dn 0 .has = some 4 from rfl]
  dsimp only
  rw [show (ceN bod pd (n + 1)).call 4 [.ref a, .str x] h = _ from hb]
theorem told_ok {C : CE} {x : Bool} : bod C 17 [.bl x, .bl x] h = .ok (.bl true) h := by
  refine runF_rt rfl (ret_ok ?_)
  refine (sAnd_t (h1 := h) rfl).trans ?_
  rw [op2_ok (var_ok rfl) (var_ok rfl)]
  unfold oEq eqD
  rw [show dat 9 h (.bl x) = some (.bool x) from rfl]
  dsimp only
  rw [if_pos ⟨rfl, rfl⟩]
  cases x <;> rfl
/-- not told(..): never -/
theorem toldE {h1 h2 : AH} {x : Bool} (q1 : e1 σ h = .ok (.bl x) h1) (q2 : e2 σ h1 = .ok (.bl x) h2) : tNot (tTru (sCall (ceN bod pd (n + 1)) 17 (aCons e1 (aCons e2 aNil)))) σ h = .ok false h2 :=
  tNot_ok (tTru_ok (x := true) ((call_ok (args_cons q1 (args_one q2))).trans (told_ok (C := ceN bod pd n))) rfl)
theorem inside_loop {C : CE} (h1 : h[a]? = some (.lst (strs_ xs))) (h2 : h[b]? = some (.lst (strs_ ys))) : ∀ (k i : Nat) (x2 : Option AV), xs.length = i + k →
    ∃ x3, forL (.lst a) (gNm 2) (ssIf (tBl (op2 (oNotIn C) (sVar 2) (sVar 1))) (ssRet (sK (.bl false))) ssNil) k i [some (.ref a), some (.ref b), x2] h = if ((xs.drop i).all fun y => decide (y ∈ ys)) then .ok (.nx [some (.ref a), some (.ref b), x3]) h else .ok (.rt (.bl false)) h := by
  intro k
  induction k with
  | zero =>
    intro i x2 hl
    refine ⟨x2, ?_⟩
    unfold forL Src.at
    simp only [h1]
    rw [List.getElem?_eq_none (by simp; omega), List.drop_eq_nil_of_le (by omega)]
    rfl
  | succ k ih =>
    intro i x2 hl
    have hi : i < xs.length := by omega
    have e : (strs_ xs)[i]? = some (.str xs[i]) := by rw [List.getElem?_map, List.getElem?_eq_getElem hi]; rfl
    obtain ⟨x3, e3⟩ := ih (i + 1) (some (.str xs[i])) (by omega)
    refine ⟨x3, ?_⟩
    unfold forL Src.at
    simp only [h1]
    rw [e]
    dsimp only
    have ht : tBl (op2 (oNotIn C) (sVar 2) (sVar 1)) [some (.ref a), some (.ref b), some (.str xs[i])] h = .ok (!decide (xs[i] ∈ ys)) h := tBl_ok ((op2_ok (var_ok rfl) (var_ok rfl)).trans (notin_strs h2))
    rw [List.drop_eq_getElem_cons hi, List.all_cons]
    show ((ssIf (tBl (op2 (oNotIn C) (sVar 2) (sVar 1))) (ssRet (sK (.bl false))) ssNil [some (.ref a), some (.ref b), some (.str xs[i])] h).bind _) = _
    rw [if_ok ht]
    by_cases hm : xs[i] ∈ ys
    · rw [decide_eq_true hm, if_neg (by decide), Bool.true_and]
      exact e3
    · rw [decide_eq_false hm, if_pos (by decide), Bool.false_and]
      rfl
theorem inside_ok {C : CE} (h1 : h[a]? = some (.lst (strs_ xs))) (h2 : h[b]? = some (.lst (strs_ ys))) : bod C 16 [.ref a, .ref b] h = .ok (.bl (xs.all fun y => decide (y ∈ ys))) h := by
  obtain ⟨x3, e⟩ := inside_loop (C := C) h1 h2 xs.length 0 none (by omega)
  rw [List.drop_zero] at e
  refine runF_rt rfl ?_
  show b_16 C [some (.ref a), some (.ref b), none] h = _
  unfold b_16
  have hl : (Src.lst a).len h = xs.length := by
    unfold Src.len
    simp only [h1, List.length_map]
  have sf : sFor (iSeq (sVar 0)) (gNm 2) (ssIf (tBl (op2 (oNotIn C) (sVar 2) (sVar 1))) (ssRet (sK (.bl false))) ssNil) [some (.ref a), some (.ref b), none] h = if (xs.all fun y => decide (y ∈ ys)) then .ok (.nx [some (.ref a), some (.ref b), x3]) h else .ok (.rt (.bl false)) h := by
    unfold sFor
    rw [seq_it (var_ok (v := .ref a) rfl) h1]
    show forL _ _ _ ((Src.lst a).len h) 0 _ h = _
    rw [hl]
    exact e
  cases hb : (xs.all fun y => decide (y ∈ ys)) with
  | true =>
    rw [hb, if_pos rfl] at sf
    exact (seq_nx sf).trans (ret_ok rfl)
  | false =>
    rw [hb, if_neg Bool.false_ne_true] at sf
    exact seq_rt sf
end
theorem cmp_flt {m i l j lo : Nat} {C : CE} {eo : SE} {σ : Sl} {h : AH} {ss xs : List Str} {t : SB} (p : Str → Bool) (mo : Mk h j lo ss) (qo : eo σ h = .ok (.ref j) h) (hv : σ[i]? = some (some (.ref l))) (hl : h[l]? = some (.lst (strs_ xs))) (hz : xs.length < 64) (hs : ss.length < 64) (hq : 11 < σ.length)
    (ht : ∀ (h' : AH) (y : Str), Fr [] h h' → t ((wipeA σ [11]).set 11 (some (.str y))) h' = .ok (p y) h') (ex : ss = alp (xs.filter p)) (ok : ∀ x ∈ xs, okS x) :
    ∃ h', tBl (op2 (oNe C) (opN (arg1 (bList (ceN bod pd (m + 2)))) (aCons eo aNil)) (sCall (ceN bod pd (m + 2)) 15 (aCons (sLc (iSeq (sVar i)) (gNm 11) t (sVar 11) [11]) aNil))) σ h = .ok false h' ∧ Fr [] h h' := by
  have q1 := listE_ok (n := m + 1) mo hs qo
  have z := lc_filt (q := 11) (t := t) (h := h ++ [.lst (strs_ ss)]) p (seq_it (var_ok hv) (get_old hl)) (get_old hl) hz hq (fun y acc => ht _ y (Fr.push.tr Fr.push))
  obtain ⟨h', r, e1, g1, f1⟩ := alphE (m := m) z get_new (Nat.lt_of_le_of_lt (List.length_filter_le _ _) hz)
  have f2 : Fr [] (h ++ [.lst (strs_ ss)]) h' := Fr.push.tr f1
  exact ⟨h', neE q1 e1 (f2.get0 get_new) g1 ex (ok_alp fun x hx => ok x (List.mem_filter.mp hx).1), Fr.push.tr f2⟩
theorem all_alp (xs ys : List Str) : ((alp xs).all fun y => decide (y ∈ alp ys)) = xs.all fun y => decide (y ∈ ys) := by
  rw [Bool.eq_iff_iff, List.all_eq_true, List.all_eq_true]
  constructor
  · intro h x hx
    have z := of_decide_eq_true (h x (mem_alp.mpr hx))
    exact decide_eq_true (mem_alp.mp z)
  · intro h x hx
    have z := of_decide_eq_true (h x (mem_alp.mp hx))
    exact decide_eq_true (mem_alp.mpr z)
theorem neI2 {C : CE} {e1 e2 : SE} {σ : Sl} {h h1 : AH} {i j : Int} (q1 : e1 σ h = .ok (.int i) h) (q2 : e2 σ h = .ok (.int j) h1) (e : i = j) : tBl (op2 (oNe C) e1 e2) σ h = .ok false h1 := by
  subst e
  refine tBl_ok ((op2_ok q1 q2).trans ?_)
  unfold oNe
  rw [eqD_ints]
  simp
theorem len_alph {m l : Nat} {C : CE} {e : SE} {σ : Sl} {h : AH} {xs : List Str} (q : e σ h = .ok (.ref l) h) (hl : h[l]? = some (.lst (strs_ xs))) (hz : xs.length < 64) : ∃ h', opN (arg1 (bLen C)) (aCons (sCall (ceN bod pd (m + 2)) 15 (aCons e aNil)) aNil) σ h = .ok (.int (alp xs).length) h' ∧ Fr [] h h' := by
  obtain ⟨h', r, e1, g1, f1⟩ := alphE (m := m) q hl hz
  refine ⟨h', ?_, f1⟩
  rw [opN_ok (args_one e1)]
  show bLen C (.ref r) h' = _
  simp [bLen, seqOf, g1]
theorem two_or {h : AH} {s O Tl : Nat} {ns : List Int} {one two : List Str} {x0 x1 x2 : Option AV} (T : Tape h 1 s ns) (g1 : h[O]? = some (.lst (strs_ one))) (g2 : h[Tl]? = some (.lst (strs_ two))) (n2 : two.length ≤ 3) (k1 : ∀ x ∈ one, okS x) (k2 : ∀ x ∈ two, okS x) (hO : O ≠ 1) (hT : Tl ≠ 1) :
    ∃ h' Tl' two', ssIf (tBl (op2 (oEq (ceN bod pd 7)) (sCall (ceN bod pd 7) 11 (aCons (sVar 1) (aCons (sK (.int 3)) aNil))) (sK (.int 1)))) (ssSet 5 (op1 (bTo 3) (sVar 4))) ssNil [x0, some (.ref 1), x1, x2, some (.ref O), some (.ref Tl), none, none, none, none, none, none] h = .ok (.nx [x0, some (.ref 1), x1, x2, some (.ref O), some (.ref Tl'), none, none, none, none, none, none]) h' ∧
      h'[Tl']? = some (.lst (strs_ two')) ∧ two'.length ≤ 3 ∧ (∀ x ∈ two', okS x) ∧ Fr [1] h h' := by
  obtain ⟨v, h1, e1, v0, v3, T1, f1⟩ := pickE_ok (m := 6) (σ := [x0, some (.ref 1), x1, x2, some (.ref O), some (.ref Tl), none, none, none, none, none, none]) (e := sVar 1) (n := 3) T (var_ok rfl) (by decide) (by decide)
  have ht : tBl (op2 (oEq (ceN bod pd 7)) (sCall (ceN bod pd 7) 11 (aCons (sVar 1) (aCons (sK (.int 3)) aNil))) (sK (.int 1))) [x0, some (.ref 1), x1, x2, some (.ref O), some (.ref Tl), none, none, none, none, none, none] h = .ok (v == 1) h1 := tBl_ok ((op2_ok e1 rfl).trans (by unfold oEq; rw [eqD_ints]))
  have g1' := f1.get g1 (by simpa using hO)
  cases hv : (v == 1) with
  | true =>
    rw [hv] at ht
    refine ⟨h1 ++ [.lst (strs_ (one.take 3))], h1.length, one.take 3, ?_, get_new, by rw [List.length_take]; omega, fun x hx => k1 x (List.mem_of_mem_take hx), f1.tr Fr.push⟩
    rw [if_ok ht, if_pos rfl]
    refine (set_ok (i := 5) (v := .ref h1.length) (h1 := h1 ++ [.lst (strs_ (one.take 3))]) ?_).trans rfl
    unfold op1
    rw [var_ok (v := .ref O) rfl]
    simp only [bind_ok, bTo, lstOf, g1']
    rw [← List.map_take]
    rfl
  | false =>
    rw [hv] at ht
    exact ⟨h1, Tl, two, if_f ht, f1.get g2 (by simpa using hT), n2, k2, f1⟩
theorem law_true (ns : List Int) : ∃ h, Mi.callN bod pd 8 18 [.scr ns] [] = .ok (.bl true) h := by
  obtain ⟨h1, e1, T1⟩ := tape_ok 6 ns
  have s1 : ssSet 1 (sCall (ceN bod pd 7) 10 (aCons (sVar 0) aNil)) [some (.scr ns), none, none, none, none, none, none, none, none, none, none, none] [] = .ok (.nx [some (.scr ns), some (.ref 1), none, none, none, none, none, none, none, none, none, none]) h1 := set_ok ((call_ok (args_one (var_ok (v := .scr ns) rfl))).trans e1)
  obtain ⟨pool, h2, e2, g2, n2, k2, T2, f2⟩ := pool_ok (m := 5) (n := 4) (q := 1) (k := 3) (σ := [some (.scr ns), some (.ref 1), none, none, none, none, none, none, none, none, none, none]) T1 (by decide) (fun _ => rfl)
  have s2 := set_ok (i := 2) e2
  have ht1 : 1 < h1.length := by obtain ⟨_, _, _, T⟩ := T1; exact lt_of_get T.ht
  have r3 : Mi.iRng1 (sK (.int 4)) [some (.scr ns), some (.ref 1), some (.ref h1.length), none, none, none, none, none, none, none, none, none] h2 = .ok (.rng 0 4) h2 := rng1_ok (i := 4) rfl (by decide) (by decide)
  obtain ⟨one, h3, e3, g3, n3, k3, T3, f3⟩ := drawn_ok (m := 6) (p := 2) (q := 1) (k := 3) (kk := 4) r3 T2 (by rw [sizeLine_eq]; decide) g2 (by omega) (by omega) (by decide) (by decide) k2 (fun _ => rfl) (fun _ => rfl)
  have s3 := set_ok (i := 4) e3
  obtain ⟨v, h4, e4, v0, v4, T4, f4⟩ := pickE_ok (m := 6) (σ := [some (.scr ns), some (.ref 1), some (.ref h1.length), none, some (.ref h2.length), none, none, none, none, none, none, none]) (e := sVar 1) (n := 4) T3 (var_ok rfl) (by decide) (by decide)
  have hp3 : h3[h1.length]? = some (.lst (strs_ pool)) := f3.get g2 (by simp; omega)
  have hp4 : h4[h1.length]? = some (.lst (strs_ pool)) := f4.get hp3 (by simp; omega)
  obtain ⟨twoA, h5, e5, g5, n5, k5, T5, f5⟩ := drawn_ok (m := 6) (p := 2) (q := 1) (k := 3) (kk := 4) (rng1_ok e4 v0 (by omega)) T4 (by rw [sizeLine_eq]; omega) hp4 (by omega) (by omega) (by decide) (by decide) k2 (fun _ => rfl) (fun _ => rfl)
  have s4 := set_ok (i := 5) e5
  have hl2 : 1 < h2.length := by obtain ⟨_, _, _, T⟩ := T2; exact lt_of_get T.ht
  have hl4 : 1 < h4.length := by obtain ⟨_, _, _, T⟩ := T4; exact lt_of_get T.ht
  have ho5 : h5[h2.length]? = some (.lst (strs_ one)) := f5.get (f4.get g3 (by simp; omega)) (by simp; omega)
  have hp5 : h5[h1.length]? = some (.lst (strs_ pool)) := f5.get hp4 (by simp; omega)
  generalize hO : h2.length = O at *
  generalize hTa : h4.length = Ta at *
  generalize hP : h1.length = Pl at *
  obtain ⟨h6, Tl, two, s5, g6, n6, k6, f6⟩ := two_or (x0 := some (.scr ns)) (x1 := some (.ref Pl)) (x2 := none) T5 ho5 g5 (by omega) k3 k5 (by omega) (by omega)
  have ho6 := f6.get ho5 (by simp; omega)
  have hp6 := f6.get hp5 (by simp; omega)
  obtain ⟨y0, y1, y2, y3, rfl⟩ := len4 n3
  have ix : ∀ (i : Nat) (x : Str), ([y0, y1, y2, y3] : List Str)[i]? = some x → op2 (oIx (ceN bod pd 7)) (sVar 4) (sK (.int i)) [some (.scr ns), some (.ref 1), some (.ref Pl), none, some (.ref O), some (.ref Tl), none, none, none, none, none, none] h6 = .ok (.str x) h6 := fun i x hx => (op2_ok (var_ok rfl) rfl).trans (ix_str ho6 hx)
  obtain ⟨h7, f, lf, e7, m7, f7, _, _⟩ := mk_marks (n := 6) (xs := [y0, y1, y2, y3]) (args_cons (ix 0 y0 rfl) (args_cons (ix 1 y1 rfl) (args_cons (ix 2 y2 rfl) (args_one (ix 3 y3 rfl))))) (by simp)
  have s6 := set_ok (i := 6) e7
  have o7 := f7.get0 ho6
  have t7 := f7.get0 g6
  have p7 := f7.get0 hp6
  generalize hone : [y0, y1, y2, y3] = one at *
  have n4 : one.length = 4 := by rw [← hone]; rfl
  obtain ⟨h8, g, lg, e8, m8, f8, _, _⟩ := up3_ok (n := 5) t7 n6
  have s7 := set_ok (i := 7) ((call_ok (C := ceN bod pd 7) (f := 13) (as := aCons (sVar 5) aNil) (σ := [some (.scr ns), some (.ref 1), some (.ref Pl), none, some (.ref O), some (.ref Tl), some (.ref f), none, none, none, none, none]) (args_one (var_ok rfl))).trans e8)
  have l1 : (alp one).length ≤ one.length := length_alp _
  have l2 : (alp two).length ≤ two.length := length_alp _
  have mf8 := m7.fr0 f8
  obtain ⟨h9, c, lc, e9, m9, f9⟩ := and_ok (n := 5) mf8 m8 (by omega)
  have s8 := set_ok (i := 8) (((op2_ok (g := oAnd (ceN bod pd 7)) (e1 := sVar 6) (e2 := sVar 7) (σ := [some (.scr ns), some (.ref 1), some (.ref Pl), none, some (.ref O), some (.ref Tl), some (.ref f), some (.ref g), none, none, none, none]) (var_ok rfl) (var_ok rfl)).trans (dunE (n := 6) .and 6 mf8 m8 rfl)).trans e9)
  have mf9 := mf8.fr0 f9
  have mg9 := m8.fr0 f9
  obtain ⟨h10, d, ld, e10, m10, f10⟩ := sub_ok (n := 5) mf9 mg9 (by omega)
  have s9 := set_ok (i := 9) (((op2_ok (g := oSub (ceN bod pd 7)) (e1 := sVar 6) (e2 := sVar 7) (σ := [some (.scr ns), some (.ref 1), some (.ref Pl), none, some (.ref O), some (.ref Tl), some (.ref f), some (.ref g), some (.ref c), none, none, none]) (var_ok rfl) (var_ok rfl)).trans (dunE (n := 6) .sub 7 mf9 mg9 rfl)).trans e10)
  have mf10 := mf9.fr0 f10
  have mg10 := mg9.fr0 f10
  obtain ⟨h11, r, lr, e11, m11, f11⟩ := sub_ok (n := 5) mg10 mf10 (by omega)
  have s10 := set_ok (i := 10) (((op2_ok (g := oSub (ceN bod pd 7)) (e1 := sVar 7) (e2 := sVar 6) (σ := [some (.scr ns), some (.ref 1), some (.ref Pl), none, some (.ref O), some (.ref Tl), some (.ref f), some (.ref g), some (.ref c), some (.ref d), none, none]) (var_ok rfl) (var_ok rfl)).trans (dunE (n := 6) .sub 7 mg10 mf10 rfl)).trans e11)
  have f711 : Fr [] h7 h11 := f8.tr (f9.tr (f10.tr f11))
  have o11 := f711.get0 o7
  have t11 := f711.get0 t7
  have x1 : alp ((alp one).filter fun y => decide (y ∈ alp two)) = alp (one.filter fun y => decide (y ∈ two)) := alp_congr fun y => by
    rw [List.mem_filter, List.mem_filter, mem_alp, decide_eq_true_iff, decide_eq_true_iff, mem_alp]
  have sb : ∀ xs ys : List Str, alp ((alp xs).filter fun y => !decide (y ∈ alp ys)) = alp (xs.filter fun y => !decide (y ∈ ys)) := fun xs ys => alp_congr fun y => by
    rw [List.mem_filter, List.mem_filter, mem_alp, Bool.not_eq_true', Bool.not_eq_true', decide_eq_false_iff_not, decide_eq_false_iff_not, mem_alp]
  rw [x1] at m9
  rw [sb] at m10 m11
  have b1 : (alp (one.filter fun y => decide (y ∈ two))).length < 64 := Nat.lt_of_le_of_lt (length_alp _) (Nat.lt_of_le_of_lt (List.length_filter_le _ _) (by omega))
  have b2 : (alp (one.filter fun y => !decide (y ∈ two))).length < 64 := Nat.lt_of_le_of_lt (length_alp _) (Nat.lt_of_le_of_lt (List.length_filter_le _ _) (by omega))
  have b3 : (alp (two.filter fun y => !decide (y ∈ one))).length < 64 := Nat.lt_of_le_of_lt (length_alp _) (Nat.lt_of_le_of_lt (List.length_filter_le _ _) (by omega))
  generalize hσ : ([some (.scr ns), some (.ref 1), some (.ref Pl), none, some (.ref O), some (.ref Tl), some (.ref f), some (.ref g), some (.ref c), some (.ref d), some (.ref r), none] : Sl) = σ
  have v4' : σ[4]? = some (some (.ref O)) := by rw [← hσ]; rfl
  have v5 : σ[5]? = some (some (.ref Tl)) := by rw [← hσ]; rfl
  have v2 : σ[2]? = some (some (.ref Pl)) := by rw [← hσ]; rfl
  have v6 : σ[6]? = some (some (.ref f)) := by rw [← hσ]; rfl
  have v7 : σ[7]? = some (some (.ref g)) := by rw [← hσ]; rfl
  have v8 : σ[8]? = some (some (.ref c)) := by rw [← hσ]; rfl
  have v9 : σ[9]? = some (some (.ref d)) := by rw [← hσ]; rfl
  have v10 : σ[10]? = some (some (.ref r)) := by rw [← hσ]; rfl
  have hlen : σ.length = 12 := by rw [← hσ]; rfl
  have w5 : ∀ y : Str, ((wipeA σ [11]).set 11 (some (.str y)))[5]? = some (some (.ref Tl)) := fun y => by rw [← hσ]; rfl
  have w4 : ∀ y : Str, ((wipeA σ [11]).set 11 (some (.str y)))[4]? = some (some (.ref O)) := fun y => by rw [← hσ]; rfl
  have w11 : ∀ y : Str, ((wipeA σ [11]).set 11 (some (.str y)))[11]? = some (some (.str y)) := fun y => by rw [← hσ]; rfl
  obtain ⟨h12, c12, f12⟩ := cmp_flt (m := 5) (C := ceN bod pd 7) (i := 4) (eo := sVar 8) (t := tBl (op2 (oIn (ceN bod pd 7)) (sVar 11) (sVar 5))) (fun y => decide (y ∈ two)) (m9.fr0 (f10.tr f11)) (var_ok v8) v4' o11 (by omega) b1 (by omega) (fun h' y fr => tBl_ok ((op2_ok (var_ok (w11 y)) (var_ok (w5 y))).trans (in_strs (fr.get0 t11)))) rfl k3
  have s11 := if_f (a := ssRet (sK (.bl false))) c12
  obtain ⟨h13, c13, f13⟩ := cmp_flt (m := 5) (C := ceN bod pd 7) (i := 4) (eo := sVar 9) (t := tBl (op2 (oNotIn (ceN bod pd 7)) (sVar 11) (sVar 5))) (fun y => !decide (y ∈ two)) (m10.fr0 (f11.tr f12)) (var_ok v9) v4' (f12.get0 o11) (by omega) b2 (by omega) (fun h' y fr => tBl_ok ((op2_ok (var_ok (w11 y)) (var_ok (w5 y))).trans (notin_strs (fr.get0 (f12.get0 t11))))) rfl k3
  have s12 := if_f (a := ssRet (sK (.bl false))) c13
  have f1113 := f12.tr f13
  obtain ⟨h14, c14, f14⟩ := cmp_flt (m := 5) (C := ceN bod pd 7) (i := 5) (eo := sVar 10) (t := tBl (op2 (oNotIn (ceN bod pd 7)) (sVar 11) (sVar 4))) (fun y => !decide (y ∈ one)) (m11.fr0 f1113) (var_ok v10) v5 (f1113.get0 t11) (by omega) b3 (by omega) (fun h' y fr => tBl_ok ((op2_ok (var_ok (w11 y)) (var_ok (w4 y))).trans (notin_strs (fr.get0 (f1113.get0 o11))))) rfl k6
  have s13 := if_f (a := ssRet (sK (.bl false))) c14
  have f1114 := f1113.tr f14
  have mf14 := (mf10.fr0 f11).fr0 f1114
  have mg14 := (mg10.fr0 f11).fr0 f1114
  have o14 := f1114.get0 o11
  have t14 := f1114.get0 t11
  have p14 := f1114.get0 (f711.get0 p7)
  have q15 : op2 (oLe (ceN bod pd 7)) (sVar 7) (sVar 6) σ h14 = .ok (.bl (two.all fun y => decide (y ∈ one))) (h14 ++ [.lst (((alp two).map fun y => decide (y ∈ alp one)).map .bl)]) := by
    rw [← all_alp]
    exact ((op2_ok (g := oLe (ceN bod pd 7)) (var_ok v7) (var_ok v6)).trans (dunE (n := 6) .le 8 mg14 mf14 rfl)).trans (le_ok mg14 mf14 (by omega))
  have f1415 : Fr [] h14 (h14 ++ [.lst (((alp two).map fun y => decide (y ∈ alp one)).map .bl)]) := Fr.push
  generalize (h14 ++ [.lst (((alp two).map fun y => decide (y ∈ alp one)).map .bl)]) = h15 at q15 f1415
  have s14 := if_f (a := ssRet (sK (.bl false))) (toldE (n := 6) q15 ((call_ok (C := ceN bod pd 7) (f := 16) (args_cons (var_ok v5) (args_one (var_ok v4')))).trans (inside_ok (f1415.get0 t14) (f1415.get0 o14))))
  have mf15 := mf14.fr0 f1415
  have mg15 := mg14.fr0 f1415
  have q16 : op2 (oLe (ceN bod pd 7)) (sVar 6) (sVar 7) σ h15 = .ok (.bl (one.all fun y => decide (y ∈ two))) (h15 ++ [.lst (((alp one).map fun y => decide (y ∈ alp two)).map .bl)]) := by
    rw [← all_alp]
    exact ((op2_ok (g := oLe (ceN bod pd 7)) (var_ok v6) (var_ok v7)).trans (dunE (n := 6) .le 8 mf15 mg15 rfl)).trans (le_ok mf15 mg15 (by omega))
  have f1516 : Fr [] h15 (h15 ++ [.lst (((alp one).map fun y => decide (y ∈ alp two)).map .bl)]) := Fr.push
  generalize (h15 ++ [.lst (((alp one).map fun y => decide (y ∈ alp two)).map .bl)]) = h16 at q16 f1516
  have f1416 := f1415.tr f1516
  have s15 := if_f (a := ssRet (sK (.bl false))) (toldE (n := 6) q16 ((call_ok (C := ceN bod pd 7) (f := 16) (args_cons (var_ok v4') (args_one (var_ok v5)))).trans (inside_ok (f1416.get0 o14) (f1416.get0 t14))))
  have mf16 := mf14.fr0 f1416
  have mg16 := mg14.fr0 f1416
  obtain ⟨h17, r1, e17, g17, f17⟩ := alphE (m := 5) (e := sVar 4) (σ := σ) (var_ok v4') (f1416.get0 o14) (by omega)
  obtain ⟨h18, r2, e18, g18, f18⟩ := alphE (m := 5) (e := sVar 5) (σ := σ) (var_ok v5) (f17.get0 (f1416.get0 t14)) (by omega)
  have q18 : op2 (oEq (ceN bod pd 7)) (sCall (ceN bod pd 7) 15 (aCons (sVar 4) aNil)) (sCall (ceN bod pd 7) 15 (aCons (sVar 5) aNil)) σ h16 = .ok (.bl (decide (alp one = alp two))) h18 := (op2_ok e17 e18).trans (eq_strs (f18.get0 g17) g18 (ok_alp k3) (ok_alp k6))
  have s16 := if_f (a := ssRet (sK (.bl false))) (toldE (n := 6) (eqMM (n := 6) mf16 mg16 (ok_alp k3) (ok_alp k6) (var_ok v6) (var_ok v7)) q18)
  have f1418 := f1416.tr (f17.tr f18)
  have mf18 := mf14.fr0 f1418
  have mg18 := mg14.fr0 f1418
  have o18 := f1418.get0 o14
  have t18 := f1418.get0 t14
  have p18 := f1418.get0 p14
  have lp18 : (Src.lst Pl).len h18 = (strs_ pool).length := by
    unfold Src.len
    simp only [p18]
  obtain ⟨σ2, h19, e19, e20, l19, o19⟩ := forL_ok (s := .lst Pl) (xs := strs_ pool) (g := gNm 11) (b := ssIf (tOr (tNot (tTru (sCall (ceN bod pd 7) 17 (aCons (op2 (oIn (ceN bod pd 7)) (sVar 11) (sVar 6)) (aCons (op2 (oIn (ceN bod pd 7)) (sVar 11) (sVar 4)) aNil))))) (tNot (tTru (sCall (ceN bod pd 7) 17 (aCons (op2 (oIn (ceN bod pd 7)) (sVar 11) (sVar 7)) (aCons (op2 (oIn (ceN bod pd 7)) (sVar 11) (sVar 5)) aNil)))))) (ssRet (sK (.bl false))) ssNil)
    (fun i σ' h' => h' = h18 ∧ σ'.length = σ.length ∧ ∀ j, j ≠ 11 → σ'[j]? = σ[j]?)
    (fun i σ' h' I => by
      rw [I.1]
      unfold Src.at
      simp only [p18])
    (fun i x σ' h' hx (I : h' = h18 ∧ σ'.length = σ.length ∧ ∀ j, j ≠ 11 → σ'[j]? = σ[j]?) => by
      obtain ⟨rfl, I2, I3⟩ := I
      rw [List.getElem?_map] at hx
      obtain ⟨y, hy, rfl⟩ := Option.map_eq_some_iff.mp hx
      have u11 : (σ'.set 11 (some (.str y)))[11]? = some (some (.str y)) := List.getElem?_set_self (by omega)
      have u : ∀ j, j ≠ 11 → (σ'.set 11 (some (.str y)))[j]? = σ[j]? := fun j hj => by rw [List.getElem?_set_ne (Ne.symm hj)]; exact I3 j hj
      refine ⟨σ'.set 11 (some (.str y)), σ'.set 11 (some (.str y)), _, rfl, ?_, rfl, by rw [List.length_set]; exact I2, u⟩
      refine if_f ((tOr_f (toldE (n := 6) (h := h') (h1 := h') (h2 := h') (x := decide (y ∈ one)) ?_ ?_)).trans (toldE (n := 6) (h := h') (h1 := h') (h2 := h') (x := decide (y ∈ two)) ?_ ?_))
      · have z := hasE (n := 6) (σ := σ'.set 11 (some (.str y))) (e1 := sVar 11) (e2 := sVar 6) mf18 (var_ok u11) (var_ok ((u 6 (by decide)).trans v6))
        rw [show decide (y ∈ alp one) = decide (y ∈ one) from by rw [decide_eq_decide, mem_alp]] at z
        exact z
      · exact (op2_ok (var_ok u11) (var_ok ((u 4 (by decide)).trans v4'))).trans (in_strs o18)
      · have z := hasE (n := 6) (σ := σ'.set 11 (some (.str y))) (e1 := sVar 11) (e2 := sVar 7) mg18 (var_ok u11) (var_ok ((u 7 (by decide)).trans v7))
        rw [show decide (y ∈ alp two) = decide (y ∈ two) from by rw [decide_eq_decide, mem_alp]] at z
        exact z
      · exact (op2_ok (var_ok u11) (var_ok ((u 5 (by decide)).trans v5))).trans (in_strs t18))
    ((strs_ pool).length) 0 σ h18 (by omega) ⟨rfl, rfl, fun _ _ => rfl⟩
  subst e20
  have s17 : sFor (iSeq (sVar 2)) (gNm 11) (ssIf (tOr (tNot (tTru (sCall (ceN bod pd 7) 17 (aCons (op2 (oIn (ceN bod pd 7)) (sVar 11) (sVar 6)) (aCons (op2 (oIn (ceN bod pd 7)) (sVar 11) (sVar 4)) aNil))))) (tNot (tTru (sCall (ceN bod pd 7) 17 (aCons (op2 (oIn (ceN bod pd 7)) (sVar 11) (sVar 7)) (aCons (op2 (oIn (ceN bod pd 7)) (sVar 11) (sVar 5)) aNil)))))) (ssRet (sK (.bl false))) ssNil) σ h19 = .ok (.nx σ2) h19 := by
    unfold sFor
    rw [seq_it (var_ok v2) p18]
    show forL _ _ _ ((Src.lst Pl).len h19) 0 σ h19 = _
    rw [lp18]
    exact e19
  have z4 := (o19 4 (by decide)).trans v4'
  have z5 := (o19 5 (by decide)).trans v5
  have z6 := (o19 6 (by decide)).trans v6
  have z7 := (o19 7 (by decide)).trans v7
  obtain ⟨h20, a20, f20⟩ := len_alph (m := 5) (C := ceN bod pd 7) (e := sVar 4) (σ := σ2) (var_ok z4) o18 (by omega)
  obtain ⟨h21, a21, f21⟩ := len_alph (m := 5) (C := ceN bod pd 7) (e := sVar 5) (σ := σ2) (var_ok z5) (f20.get0 t18) (by omega)
  have s18 := if_f (a := ssRet (sK (.bl false))) ((tOr_f (neI2 (C := ceN bod pd 7) (lenO_ok (n := 6) mf18 (by omega) (var_ok z6)) a20 rfl)).trans (neI2 (C := ceN bod pd 7) (lenO_ok (n := 6) (mg18.fr0 f20) (by omega) (var_ok z7)) a21 rfl))
  have f1921 := f20.tr f21
  obtain ⟨h22, _, c22, f22⟩ := cmp_alph (m := 5) (C := ceN bod pd 7) (eo := sVar 6) (el := sVar 4) (σ := σ2) (mf18.fr0 f1921) (var_ok z6) (fun _ => var_ok z4) (f1921.get0 o18) (by omega) (by omega) rfl k3
  obtain ⟨h23, _, c23, f23⟩ := cmp_alph (m := 5) (C := ceN bod pd 7) (eo := sVar 7) (el := sVar 5) (σ := σ2) (mg18.fr0 (f1921.tr f22)) (var_ok z7) (fun _ => var_ok z5) ((f1921.tr f22).get0 t18) (by omega) (by omega) rfl k6
  refine ⟨h23, ?_⟩
  show runF 1 12 (b_18 (ceN bod pd 7)) [.scr ns] [] = _
  refine runF_rt rfl ?_
  show b_18 (ceN bod pd 7) [some (.scr ns), none, none, none, none, none, none, none, none, none, none, none] [] = _
  unfold b_18
  subst hσ
  refine (seq_nx s1).trans ((seq_nx s2).trans ((seq_nx s3).trans ((seq_nx s4).trans ((seq_nx s5).trans ((seq_nx s6).trans ((seq_nx s7).trans ((seq_nx s8).trans ((seq_nx s9).trans ((seq_nx s10).trans ((seq_nx s11).trans ((seq_nx s12).trans ((seq_nx s13).trans ((seq_nx s14).trans ((seq_nx s15).trans ((seq_nx s16).trans ((seq_nx s17).trans ((seq_nx s18).trans ?_)))))))))))))))))
  exact ret_ok ((sAnd_t c22).trans c23)
end K02

namespace K02
open PySem PySem.Spec PyProof.Rows L2 Mi
abbrev Rr : PySem.W.OpenRow := PySem.W.OpenLaw.row PySem.Challenge.rw_redomarks_k02_marks_compare
abbrev hk : PySem.W.Hook := He.hookX 6 [] fn [] [] (PD.okB pd)
def ob (s : PySem.W.SharedT) : He.AlX := He.obsX 6 [] fn [] [] (PD.okB pd) (HandSHeadRun.getT s)
theorem ob_eq (s : PySem.W.SharedT) : ob s = PySem.W.Hook.obs hk s.abs := He.obsX_eq (HandSHeadRun.getT_eq s)
theorem run (w : World) : HandSHeadRun.RunEq Rr (PySem.W.view Rr.prog [11]) hk ob 1500 ["Marks", "_law_tape", "_law_pick", "_law_letters_name", "_law_marks_of_up_to_three", "_law_distinct", "_law_alphabet", "_law_is_inside", "_law_is_told"] w := by
  intro os
  kernel_rfl
theorem facts {w : World} {K : PySem.W.Frag} {h : Heap} {mg : Str → Option Value} {f : Addr} (X : K.In h) (Gn : h.Ns mainGlobals mg) (hfa : mg ("law" : Str) = some (.ref f)) (c : He.SaysX [] (PD.fn pd) [] [] (PD.okB pd) w h K) :
    ∃ fd : FuncData, (∀ (s : Shared) (v : Value), BindsTo s fd ⟨[v], []⟩ [("_law_script", v)]) ∧ ∀ base : Heap, K.In base → base.Ns mainGlobals mg → FnOk PySem.Challenge.pw_redomarks_k02_marks_compare w K mg base (CXe PySem.Challenge.pw_redomarks_k02_marks_compare) 33 f fd ["_law_script"] (spF (PD.cl pd K) K (callN bod pd 8 18)) := by
  have B := base0 X Gn c (by rfl)
  obtain ⟨fd, F⟩ := B.fnd 18 d_18 rfl
  have e := hfa.symm.trans (B.hgl "law" (List.all_eq_true.mp (ba3 (ba3 B.ok).2).1 d_18 (List.mem_of_getElem? (show (PD.fn pd)[18]? = some d_18 from rfl))))
  cases e
  have b := FunD.bindsA (ps := ["_law_script"]) F fun _ _ _ _ _ _ us hl => match us, hl with | [_], _ => rfl
  exact ⟨fd, fun s v => b s [v] rfl, fun base _ _ => fnOk_e (step_ok (N := N_18) (ps := ["_law_script"]) (all B 7) F sc_18 y_18)⟩
end K02
open PySem PySem.W PySem.Calls PyProof.Rows
theorem PySem.Challenge.cw_redomarks_k02_marks_compare_holds : PySem.Challenge.rw_redomarks_k02_marks_compare.Holds := by
  w_on; o_law
  refine HandSHeadRun.head_any (r := OpenLaw.row PySem.Challenge.rw_redomarks_k02_marks_compare) (q := view (OpenLaw.row PySem.Challenge.rw_redomarks_k02_marks_compare).prog [11]) (H := K02.hk) (ob := K02.ob) (M := 1500) (loose := ["Marks", "_law_tape", "_law_pick", "_law_letters_name", "_law_marks_of_up_to_three", "_law_distinct", "_law_alphabet", "_law_is_inside", "_law_is_told"]) (d := HandSHeadRun.topDef (OpenLaw.row PySem.Challenge.rw_redomarks_k02_marks_compare).prog 11) (kwd := []) K02.ob_eq
    (by kernel_rfl) (fun s => by kernel_rfl) K02.run (by kernel_rfl) (by kernel_rfl) (by kernel_rfl) (by rfl) (by first | assumption | decide +kernel) (by decide +kernel) ⟨rfl, rfl, rfl, rfl, rfl, by decide +kernel⟩ ?hw ?hc
  case hw => w_witness2
  case hc =>
    refine L2.walk_ofE (l := PySem.Challenge.rw_redomarks_k02_marks_compare) (n := 63) (k := 33) (x := "_law_script") (CX := Mi.CXe PySem.Challenge.pw_redomarks_k02_marks_compare) rfl (by decide) (by kernel_rfl) ⟨rfl, by decide, by decide⟩ ?F (fun H s e s' z => Mi.cxe_none z)
    intro w mg fa h Y G hmg0
    obtain ⟨K, KX, c⟩ := Y
    have hmg : mg ("law" : PySem.Str) = some (.ref fa) := by
      have e : (HandSHeadRun.topDef (OpenLaw.row PySem.Challenge.rw_redomarks_k02_marks_compare).prog 11).name = ("law" : PySem.Str) := by kernel_rfl
      rw [← e]
      exact hmg0
    obtain ⟨fd, hb, hF⟩ := K02.facts (w := w) KX G hmg c
    exact ⟨K, fd, _, KX, hb, fun H a ns hl hO hS => Mi.law_sp hO hS (K02.law_true ns).choose_spec, hF⟩

